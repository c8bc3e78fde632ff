import PyProof.Rows.All
import Wide.All
import OpenK.AllK
import Wide.FinOn
import Lean
import PySem.Challenge.RW_no0245_01
set_option linter.all false
set_option Elab.async false
namespace Mine
abbrev Txt:=List Nat
inductive V where
 | none
 | bool (b:Bool)
 | int (i:Int)
 | str (s:Txt)
 | tup (l:List V)
 | lst (l:List V)
 | ref (i:Nat)
inductive Bop where
 | add | sub | mul | fdiv | mod
 deriving DecidableEq
inductive Cop where
 | eq | ne | lt | le | gt | ge | isIn | notIn
 deriving DecidableEq
mutual
inductive E where
 | none
 | bool (b:Bool)
 | int (i:Int)
 | str (s:Txt)
 | loc (x:Nat)
 | gint (x:Txt) (i:Int)
 | gstr (x:Txt) (s:Txt)
 | bin (o:Bop) (a b:E)
 | million
 | neg (a:E)
 | not (a:E)
 | and (a b:E)
 | or (a b:E)
 | ife (c a b:E)
 | cmp (o:Cop) (a b:E)
 | between (a b c:E)
 | isNone (a:E)
 | notNone (a:E)
 | isNil (a:E)
 | notNil (a:E)
 | inC (a:E) (ws:List Txt)
 | ninC (a:E) (ws:List Txt)
 | call (f:Nat) (es:Es)
 | len (a:E)
 | toStr (a:E)
 | toInt (a:E)
 | find (a b:E)
 | replace (a:E) (c:Nat) (t:Txt)
 | join (a b:E)
 | split (a b:E)
 | pop (a:E)
 | seal (x:Nat)
 | idx (a b:E)
 | sl (a lo hi:E)
 | tup (es:Es)
 | lstF (es:Es)
 | lstM (es:Es)
 | comp (e:E) (x:Nat) (n:E)
inductive Es where
 | nil
 | cons (e:E) (es:Es)
end
mutual
inductive S where
 | assign (x:Nat) (e:E)
 | assignC (x:Nat) (e:E) (y:Nat) (n:E)
 | unpack (xs:List Nat) (e:E)
 | setIdx (a i e:E)
 | aug (x:Nat) (e:E)
 | append (a e:E)
 | ite (c:E) (a b:Ss)
 | while (c:E) (b:Ss)
 | forE (x:Nat) (e:E) (b:Ss)
 | forR (x:Nat) (e:E) (b:Ss)
 | zipStr (x z t:Nat) (e f:E)
 | ret (e:E)
 | raise (a:E)
 | tryRet (e:E)
 | cont
inductive Ss where
 | nil
 | cons (s:S) (r:Ss)
end
def gints:List (Txt × Int):=[([77,79,83,84,95,78,85,77,66,69,82],9999),([77,79,83,84,95,68,69,80,84,72],10)]
def gstrs:List (Txt × Txt):=[([68,73,71,73,84,83],[48,49,50,51,52,53,54,55,56,57]),
 ([95,108,97,119,95,115,105,103,110,115],[73,70,69,68,71,76,65,88,84,80,83,66,72,78,82,90,47,58,44,46,40,41,39,43,45,48,49,50,51,32,53,57])]
structure Fn where
 name:Txt
 params:Nat
 vars:List Txt
 body:Ss
abbrev Hp:=List (Option (List V))
abbrev Loc:=List (Option V)
inductive Res (α : Type) where
 | ok (a : α) (H:Hp)
 | exc (H:Hp)
def EG {α β : Type}(x:Option (Res α)) (f : α->Hp->Option (Res β)):Option (Res β):=
 match x with
 | some (.ok a H)=>f a H
 | some (.exc H)=>some (.exc H)
 | .none=>.none
inductive RS where
 | next (l:Loc) (H:Hp)
 | cont (l:Loc) (H:Hp)
 | ret (v:V) (H:Hp)
 | exc (H:Hp)
mutual
def V.pure:V->Bool
 | .tup l=>V.pures l
 | .lst l=>V.pures l
 | .ref _=>false
 | _=>true
def V.pures:List V->Bool
 | []=>true
 | v::l=>v.pure&&V.pures l
end
def capL:Nat:=1048576
mutual
def V.beq:V->V->Bool
 | .none,.none=>true
 | .bool a,.bool b=>a==b
 | .int a,.int b=>a==b
 | .str a,.str b=>a==b
 | .tup a,.tup b=>V.beqs a b
 | .lst a,.lst b=>V.beqs a b
 | .ref a,.ref b=>a==b
 | _,_=>false
def V.beqs:List V->List V->Bool
 | [],[]=>true
 | a::l,b::m=>a.beq b&&V.beqs l m
 | _,_=>false
end
def V.plain:Nat->V->Bool
 | _,.none=>true
 | _,.int _=>true
 | _,.str _=>true
 | n + 1,.tup l=>l.all (V.plain n)
 | n + 1,.lst l=>l.all (V.plain n)
 | _,_=>false
def hget (H:Hp) (i:Nat):Option (List V):=
 match H[i]? with
 | some (some l)=>some l
 | _=>.none
def lstOf (H:Hp):V->Option (List V)
 | .lst l=>some l
 | .ref i=>hget H i
 | _=>.none
def getAt {α : Type}(l:List α) (k:Int):Option α:=
 if 0<=k then l[k.toNat]? else if 0<=k + l.length then l[(k + l.length).toNat]? else .none
def clampI (n:Nat) (k:Int):Nat:=if k < 0 then (k + n).toNat else min k.toNat n
def bound (n d:Nat):V->Option Nat
 | .none=>some d
 | .int k=>if -capL<=k/\k<=capL then some (clampI n k) else .none
 | _=>.none
def cut {α : Type}(l:List α) (lo hi:V):Option (List α):=
 match bound l.length 0 lo,bound l.length l.length hi with
 | some a,some b=>some ((l.take b).drop a)
 | _,_=>.none
def idxV (H:Hp):V->V->Option V
 | .str s,.int k=>if 0<=k then (s[k.toNat]?).map fun c=>V.str [c] else .none
 | .tup l,.int k=>if 0<=k then l[k.toNat]? else .none
 | .lst l,.int k=>getAt l k
 | .ref i,.int k=>(hget H i).bind fun l=>getAt l k
 | _,_=>.none
def slV (v lo hi:V):Option V:=
 match v with
 | .str s=>(cut s lo hi).map V.str
 | .tup l=>(match lo,hi with
  | .int k,.none=>if 1<=k/\k.toNat<=l.length then some (.tup (l.drop k.toNat)) else .none
  | _,_=>.none)
 | .lst l=>(cut l lo hi).map V.lst
 | _=>.none
def fitsI (i:Int):Bool:=decide (i.natAbs < 4611686018427387904)
def binV (H:Hp) (o:Bop) (a b:V):Option V:=
 match o,a,b with
 | .add,.int x,.int y=>some (.int (x + y))
 | .sub,.int x,.int y=>some (.int (x - y))
 | .mul,.int x,.int y=>if fitsI x&&fitsI y then some (.int (x * y)) else .none
 | .fdiv,.int x,.int y=>if 0 < y/\y<=capL then some (.int (x.fdiv y)) else .none
 | .mod,.int x,.int y=>if y=0 then .none else some (.int (x.fmod y))
 | .add,.str x,.str y=>if x.length + y.length<=capL then some (.str (x++y)) else .none
 | .add,.tup x,.tup y=>if x.length + y.length<=capL then some (.tup (x++y)) else .none
 | .mul,.lst x,.int y=>if 0<=y/\y<=capL/\x.length * y.toNat<=capL then some (.lst (List.flatten (List.replicate y.toNat x))) else .none
 | .add,x,y=>
  match lstOf H x,lstOf H y with
  | some l,some m=>if l.length + m.length<=capL&&V.pures l&&V.pures m then some (.lst (l++m)) else .none
  | _,_=>.none
 | _,_,_=>.none
def isPre:Txt->Txt->Bool
 | [],_=>true
 | _,[]=>false
 | a::x,b::y=>a==b&&isPre x y
def isSub (a:Txt):Txt->Bool
 | []=>a.isEmpty
 | c::t=>isPre a (c::t)||isSub a t
def cmpV (o:Cop) (a b:V):Option Bool:=
 match o,a,b with
 | .lt,.int x,.int y=>some (decide (x < y))
 | .le,.int x,.int y=>some (decide (x<=y))
 | .gt,.int x,.int y=>some (decide (y < x))
 | .ge,.int x,.int y=>some (decide (y<=x))
 | .isIn,.str x,.str y=>some (isSub x y)
 | .notIn,.str x,.str y=>some (!isSub x y)
 | .eq,x,y=>if x.plain 60&&y.plain 60 then some (x.beq y) else .none
 | .ne,x,y=>if x.plain 60&&y.plain 60 then some (!x.beq y) else .none
 | _,_,_=>.none
def textOf (i:Int):Txt:=(toString i).toList.map Char.toNat
def digVal (cs:Txt):Nat:=cs.foldl (fun a c=>a * 10 + (c - 48)) 0
def isDigit (c:Nat):Bool:=48<=c&&c<=57
def split1 (a:Nat):Txt->List Txt
 | []=>[[]]
 | c::t=>if c=a then []::split1 a t else
  match split1 a t with
  | []=>[[c]]
  | w::ws=>(c::w)::ws
def joinT (j:Txt):List Txt->Txt
 | []=>[]
 | [w]=>w
 | w::ws=>w++j++joinT j ws
def textsOf:List V->Option (List Txt)
 | []=>some []
 | .str s::l=>(textsOf l).map (s::·)
 | _::_=>.none
def findT (a:Nat):Txt->Nat->Int
 | [],_=>-1
 | c::t,i=>if c=a then (i:Int) else findT a t (i + 1)
def lenV (H:Hp):V->Option Nat
 | .str s=>some s.length
 | .tup l=>some l.length
 | v=>(lstOf H v).map List.length
def toIntV:V->Option Int
 | .str s=>if s≠[]/\s.length<=640/\s.all isDigit=true then some (digVal s) else .none
 | _=>.none
def toStrV:V->Option Txt
 | .int i=>if i.natAbs < 10000000000 then some (textOf i) else .none
 | _=>.none
def mayMut (b:Nat) (i:Nat) (v:V):Bool:=(b<=i)||v.pure
def setAt (l:List V) (k:Int) (v:V):Option (List V):=
 if 0<=k/\k.toNat < l.length then some (l.set k.toNat v) else .none
def truth:V->Option Bool
 | .bool b=>some b
 | _=>.none
def EH (x:Option V) (H:Hp):Option (Res V):=x.map fun v=>.ok v H
def iterC (ev:Nat->Hp->Option (Res V)) (j:Nat):Nat->Nat->Hp->Option Hp
 | 0,_,H=>some H
 | n + 1,i,H=>
  match ev i H with
  | some (.ok v H')=>
   if v.pure then
    match hget H' j with
    | some l=>if l.length < capL then iterC ev j n (i + 1) (H'.set j (some (l++[v]))) else .none
    | .none=>.none
   else .none
  | _=>.none
mutual
def EC (call:Nat->List V->Hp->Option (Res V)) (b:Nat) (loc:Loc):E->Hp->Option (Res V)
 | .none,H=>some (.ok .none H)
 | .bool c,H=>some (.ok (.bool c) H)
 | .int i,H=>some (.ok (.int i) H)
 | .str s,H=>some (.ok (.str s) H)
 | .loc x,H=>
  match loc[x]? with
  | some (some v)=>some (.ok v H)
  | _=>.none
 | .gint _ i,H=>some (.ok (.int i) H)
 | .gstr _ s,H=>some (.ok (.str s) H)
 | .bin o x y,H=>EG (EC call b loc x H) fun v H=>EG (EC call b loc y H) fun w H=>EH (binV H o v w) H
 | .million,H=>some (.ok (.int 1000000) H)
 | .neg x,H=>EG (EC call b loc x H) fun v H=>match v with | .int i=>some (.ok (.int (-i)) H) | _=>.none
 | .not x,H=>EG (EC call b loc x H) fun v H=>match v with | .bool c=>some (.ok (.bool (!c)) H) | _=>.none
 | .and x y,H=>EG (EC call b loc x H) fun v H=>
  match v with
  | .bool true=>EC call b loc y H
  | .bool false=>some (.ok (.bool false) H)
  | _=>.none
 | .or x y,H=>EG (EC call b loc x H) fun v H=>
  match v with
  | .bool true=>some (.ok (.bool true) H)
  | .bool false=>EC call b loc y H
  | _=>.none
 | .ife c x y,H=>EG (EC call b loc c H) fun v H=>
  match v with
  | .bool true=>EC call b loc x H
  | .bool false=>EC call b loc y H
  | _=>.none
 | .cmp o x y,H=>EG (EC call b loc x H) fun v H=>EG (EC call b loc y H) fun w H=>EH ((cmpV o v w).map V.bool) H
 | .between x y z,H=>EG (EC call b loc x H) fun u H=>EG (EC call b loc y H) fun v H=>
  match u,v with
  | .int i,.int j=>
   if i < j then EG (EC call b loc z H) fun w H=>match w with | .int k=>some (.ok (.bool (decide (j < k))) H) | _=>.none
   else some (.ok (.bool false) H)
  | _,_=>.none
 | .isNone x,H=>EG (EC call b loc x H) fun v H=>some (.ok (.bool (match v with | .none=>true | _=>false)) H)
 | .notNone x,H=>EG (EC call b loc x H) fun v H=>some (.ok (.bool (match v with | .none=>false | _=>true)) H)
 | .isNil x,H=>EG (EC call b loc x H) fun v H=>EH ((lstOf H v).map fun l=>V.bool l.isEmpty) H
 | .notNil x,H=>EG (EC call b loc x H) fun v H=>EH ((lstOf H v).map fun l=>V.bool (!l.isEmpty)) H
 | .inC x ws,H=>EG (EC call b loc x H) fun v H=>match v with | .str s=>some (.ok (.bool (ws.contains s)) H) | _=>.none
 | .ninC x ws,H=>EG (EC call b loc x H) fun v H=>match v with | .str s=>some (.ok (.bool (!ws.contains s)) H) | _=>.none
 | .call f es,H=>EG (ED call b loc es H) fun vs H=>call f vs H
 | .len x,H=>EG (EC call b loc x H) fun v H=>EH ((lenV H v).map fun (n:Nat)=>V.int (n:Int)) H
 | .toStr x,H=>EG (EC call b loc x H) fun v H=>EH ((toStrV v).map V.str) H
 | .toInt x,H=>EG (EC call b loc x H) fun v H=>EH ((toIntV v).map V.int) H
 | .find x y,H=>EG (EC call b loc x H) fun v H=>
  match v with
  | .str s=>EG (EC call b loc y H) fun w H=>
   match w with
   | .str [c]=>some (.ok (.int (findT c s 0)) H)
   | _=>.none
  | _=>.none
 | .replace x c t,H=>EG (EC call b loc x H) fun u H=>
  match u with
  | .str s=>if s.length<=100000/\t.length<=10/\t≠[c]/\(joinT t (split1 c s)).length<=capL then some (.ok (.str (joinT t (split1 c s))) H) else .none
  | _=>.none
 | .join x y,H=>EG (EC call b loc x H) fun v H=>
  match v with
  | .str j=>EG (EC call b loc y H) fun w H=>
   match (lstOf H w).bind textsOf with
   | some ws=>if j.length<=1000/\ws.length<=1000/\(∀ w∈ws,w.length<=10000)/\(joinT j ws).length<=capL then some (.ok (.str (joinT j ws)) H) else .none
   | .none=>.none
  | _=>.none
 | .split x y,H=>EG (EC call b loc x H) fun v H=>
  match v with
  | .str s=>EG (EC call b loc y H) fun w H=>
   match w with
   | .str [c]=>if s.length<=100000 then some (.ok (.lst ((split1 c s).map V.str)) H) else .none
   | _=>.none
  | _=>.none
 | .pop x,H=>EG (EC call b loc x H) fun v H=>
  match v with
  | .ref i=>
   match hget H i with
   | some l=>if h:l≠[] then (if b<=i then some (.ok (l.getLast h) (H.set i (some l.dropLast))) else .none) else .none
   | .none=>.none
  | _=>.none
 | .seal x,H=>
  match loc[x]? with
  | some (some (.ref i))=>
   match hget H i with
   | some l=>if V.pures l&&decide (b<=i) then some (.ok (.lst l) (H.set i .none)) else .none
   | .none=>.none
  | _=>.none
 | .idx x y,H=>EG (EC call b loc x H) fun v H=>EG (EC call b loc y H) fun w H=>EH (idxV H v w) H
 | .sl x y z,H=>EG (EC call b loc x H) fun u H=>EG (EC call b loc y H) fun v H=>EG (EC call b loc z H) fun w H=>EH (slV u v w) H
 | .tup es,H=>EG (ED call b loc es H) fun vs H=>if vs.length<=capL then some (.ok (.tup vs) H) else .none
 | .lstF es,H=>EG (ED call b loc es H) fun vs H=>if V.pures vs&&decide (vs.length<=capL) then some (.ok (.lst vs) H) else .none
 | .lstM es,H=>EG (ED call b loc es H) fun vs H=>if vs.length<=capL then some (.ok (.ref H.length) (H++[some vs])) else .none
 | .comp e x n,H=>EG (EC call b loc n H) fun v H=>
  match v with
  | .int k=>
   if 0<=k/\k<=capL then
    match iterC (fun i H=>EC call b (loc.set x (some (.int i))) e H) H.length k.toNat 0 (H++[some []]) with
    | some H'=>
     match hget H' H.length with
     | some l=>if V.pures l then some (.ok (.lst l) (H'.set H.length .none)) else .none
     | .none=>.none
    | .none=>.none
   else .none
  | _=>.none
def ED (call:Nat->List V->Hp->Option (Res V)) (b:Nat) (loc:Loc):Es->Hp->Option (Res (List V))
 | .nil,H=>some (.ok [] H)
 | .cons e es,H=>EG (EC call b loc e H) fun v H=>EG (ED call b loc es H) fun vs H=>some (.ok (v::vs) H)
end
def setAll:List Nat->List V->Loc->Option Loc
 | [],[],l=>some l
 | x::xs,v::vs,l=>setAll xs vs (l.set x (some v))
 | _,_,_=>.none
def EF (x:Option (Res V)) (f:V->Hp->Option RS):Option RS:=
 match x with
 | some (.ok v H)=>f v H
 | some (.exc H)=>some (.exc H)
 | .none=>.none
def whileL (c:Loc->Hp->Option (Res V)) (body:Loc->Hp->Option RS):Nat->Loc->Hp->Option RS
 | 0,_,_=>.none
 | n + 1,l,H=>EF (c l H) fun v H=>
  match v with
  | .bool false=>some (.next l H)
  | .bool true=>
   match body l H with
   | some (.next l H)=>whileL c body n l H
   | some (.cont l H)=>whileL c body n l H
   | r=>r
  | _=>.none
def forL (put:V->Loc->Option Loc) (body:Loc->Hp->Option RS):List V->Loc->Hp->Option RS
 | [],l,H=>some (.next l H)
 | v::vs,l,H=>
  match put v l with
  | some l=>
   match body l H with
   | some (.next l H)=>forL put body vs l H
   | some (.cont l H)=>forL put body vs l H
   | r=>r
  | .none=>.none
def put1 (x:Nat) (v:V) (l:Loc):Option Loc:=some (l.set x (some v))
def pairs:List V->List V->List (V × V)
 | a::l,c::m=>(a,c)::pairs l m
 | _,_=>[]
def zip1 (x z t:Nat) (a c:V) (o:Loc):Option Loc:=
 match c with
 | .none=>some ((o.set x (some a)).set z (some c))
 | .int i=>
  match ((o.set x (some a)).set z (some c))[t]?,a with
  | some (some (.str s)),.str j=>if i.natAbs < 10000000000/\s.length + j.length + (textOf i).length<=capL then some (((o.set x (some a)).set z (some c)).set t (some (.str (s++j++textOf i)))) else .none
  | _,_=>.none
 | _=>.none
def zipL (x z t:Nat):List (V × V)->Loc->Option Loc
 | [],o=>some o
 | p::l,o=>
  match zip1 x z t p.1 p.2 o with
  | some o=>zipL x z t l o
  | .none=>.none
def upto:Nat->Nat->List V
 | 0,_=>[]
 | n + 1,i=>.int i::upto n (i + 1)
mutual
def EB (call:Nat->List V->Hp->Option (Res V)) (N b:Nat):S->Loc->Hp->Option RS
 | .assign x e,l,H=>EF (EC call b l e H) fun v H=>some (.next (l.set x (some v)) H)
 | .assignC x e y n,l,H=>EF (EC call b l (.comp e y n) H) fun v H=>some (.next (l.set x (some v)) H)
 | .unpack xs e,l,H=>EF (EC call b l e H) fun v H=>
  match v with
  | .tup vs=>(setAll xs vs l).map fun l=>.next l H
  | _=>.none
 | .setIdx a i e,l,H=>EF (EC call b l e H) fun v H=>EF (EC call b l a H) fun r H=>EF (EC call b l i H) fun k H=>
  match r,k with
  | .ref j,.int k=>
   match hget H j with
   | some xs=>if mayMut b j v then (setAt xs k v).map fun xs=>.next l (H.set j (some xs)) else .none
   | .none=>.none
  | _,_=>.none
 | .aug x e,l,H=>
  match l[x]? with
  | some (some u)=>EF (EC call b l e H) fun v H=>
   match u,v with
   | .int i,.int j=>some (.next (l.set x (some (.int (i + j)))) H)
   | .str s,.str t=>if s.length + t.length<=capL then some (.next (l.set x (some (.str (s++t)))) H) else .none
   | _,_=>.none
  | _=>.none
 | .append a e,l,H=>EF (EC call b l a H) fun r H=>
  match r with
  | .ref j=>EF (EC call b l e H) fun v H=>
   match hget H j with
   | some xs=>if mayMut b j v&&decide (xs.length < capL) then some (.next l (H.set j (some (xs++[v])))) else .none
   | .none=>.none
  | _=>.none
 | .ite c x y,l,H=>EF (EC call b l c H) fun v H=>
  match v with
  | .bool true=>EA call N b x l H
  | .bool false=>EA call N b y l H
  | _=>.none
 | .while c x,l,H=>whileL (fun l H=>EC call b l c H) (fun l H=>EA call N b x l H) N l H
 | .forE x e y,l,H=>EF (EC call b l e H) fun v H=>
  match v with
  | .lst vs=>forL (put1 x) (fun l H=>EA call N b y l H) vs l H
  | .str s=>forL (put1 x) (fun l H=>EA call N b y l H) (s.map fun c=>V.str [c]) l H
  | _=>.none
 | .forR x e y,l,H=>EF (EC call b l e H) fun v H=>
  match v with
  | .int k=>if 0<=k/\k<=capL then forL (put1 x) (fun l H=>EA call N b y l H) (upto k.toNat 0) l H else .none
  | _=>.none
 | .zipStr x z t e f,l,H=>EF (EC call b l e H) fun v H=>EF (EC call b l f H) fun w H=>
  match v,w with
  | .lst vs,.tup ws=>(zipL x z t (pairs vs ws) l).map fun l=>.next l H
  | _,_=>.none
 | .ret e,l,H=>EF (EC call b l e H) fun v H=>some (.ret v H)
 | .raise a,l,H=>EF (EC call b l a H) fun v H=>
  match v with
  | .int _=>some (.exc H)
  | _=>.none
 | .tryRet e,l,H=>
  match EC call b l e H with
  | some (.ok v H)=>some (.ret v H)
  | some (.exc H)=>some (.ret .none H)
  | .none=>.none
 | .cont,l,H=>some (.cont l H)
def EA (call:Nat->List V->Hp->Option (Res V)) (N b:Nat):Ss->Loc->Hp->Option RS
 | .nil,l,H=>some (.next l H)
 | .cons x y,l,H=>
  match EB call N b x l H with
  | some (.next l H)=>EA call N b y l H
  | r=>r
end
def runF (call:Nat->List V->Hp->Option (Res V)) (N:Nat) (fn:Fn) (args:List V) (H:Hp):Option (Res V):=
 if args.length=fn.params then
  match EA call N H.length fn.body (args.map some++List.replicate (fn.vars.length - fn.params) none) H with
  | some (.ret v H')=>if v.pure then some (.ok v (H'.take H.length)) else .none
  | some (.exc H')=>some (.exc (H'.take H.length))
  | _=>.none
 else .none
def callF (prog:Nat->Option Fn) (N:Nat):Nat->Nat->List V->Hp->Option (Res V)
 | 0,_,_,_=>.none
 | n + 1,f,args,H=>
  match prog f with
  | some fn=>runF (callF prog N n) N fn args H
  | .none=>.none
def F_pass_blanks:Fn:=⟨[112,97,115,115,95,98,108,97,110,107,115],2,[[116,101,120,116],[97,116]],
  (.cons (.while (.and (.cmp .lt (.loc 1) (.len (.loc 0))) (.cmp .eq (.idx (.loc 0) (.loc 1)) (.str [32]))) (.cons (.aug 1 (.int 1))
  .nil))
  (.cons (.ret (.loc 1))
  .nil))⟩
def F_number_at:Fn:=⟨[110,117,109,98,101,114,95,97,116],2,[[116,101,120,116],[97,116],[104,101,114,101],[118,97,108,117,101]],
  (.cons (.assign 2 (.call 0 (.cons (.loc 0) (.cons (.loc 1) .nil))))
  (.cons (.assign 3 .none)
  (.cons (.while (.and (.cmp .lt (.loc 2) (.len (.loc 0))) (.cmp .isIn (.idx (.loc 0) (.loc 2)) (.gstr [68,73,71,73,84,83] [48,49,50,51,52,53,54,55,56,57]))) (.cons (.ite (.isNone (.loc 3)) (.cons (.assign 3 (.int 0))
  .nil) .nil)
  (.cons (.assign 3 (.bin .add (.bin .mul (.int 10) (.loc 3)) (.find (.gstr [68,73,71,73,84,83] [48,49,50,51,52,53,54,55,56,57]) (.idx (.loc 0) (.loc 2)))))
  (.cons (.ite (.cmp .gt (.loc 3) (.gint [77,79,83,84,95,78,85,77,66,69,82] 9999)) (.cons (.raise (.loc 2))
  .nil) .nil)
  (.cons (.assign 2 (.call 0 (.cons (.loc 0) (.cons (.bin .add (.loc 2) (.int 1)) .nil))))
  .nil)))))
  (.cons (.ret (.tup (.cons (.loc 3) (.cons (.loc 2) .nil))))
  .nil))))⟩
def F_size_at:Fn:=⟨[115,105,122,101,95,97,116],3,[[116,101,120,116],[97,116],[108,101,97,115,116],[118,97,108,117,101],[104,101,114,101]],
  (.cons (.unpack [3,4] (.call 1 (.cons (.loc 0) (.cons (.loc 1) .nil))))
  (.cons (.ite (.or (.isNone (.loc 3)) (.cmp .lt (.loc 3) (.loc 2))) (.cons (.raise (.loc 4))
  .nil) .nil)
  (.cons (.ret (.tup (.cons (.loc 3) (.cons (.loc 4) .nil))))
  .nil)))⟩
def F_is_at:Fn:=⟨[105,115,95,97,116],3,[[116,101,120,116],[97,116],[115,105,103,110]],
  (.cons (.ret (.cmp .eq (.sl (.loc 0) (.loc 1) (.bin .add (.loc 1) (.int 1))) (.loc 2)))
  .nil)⟩
def F_places_at:Fn:=⟨[112,108,97,99,101,115,95,97,116],2,[[116,101,120,116],[97,116]],
  (.cons (.ite (.not (.call 3 (.cons (.loc 0) (.cons (.loc 1) (.cons (.str [46]) .nil))))) (.cons (.raise (.loc 1))
  .nil) .nil)
  (.cons (.ret (.call 2 (.cons (.loc 0) (.cons (.bin .add (.loc 1) (.int 1)) (.cons (.int 0) .nil)))))
  .nil))⟩
def F_exponent_at:Fn:=⟨[101,120,112,111,110,101,110,116,95,97,116],2,[[116,101,120,116],[97,116]],
  (.cons (.ite (.not (.call 3 (.cons (.loc 0) (.cons (.loc 1) (.cons (.str [69]) .nil))))) (.cons (.ret (.tup (.cons .none (.cons (.loc 1) .nil))))
  .nil) .nil)
  (.cons (.ret (.call 2 (.cons (.loc 0) (.cons (.bin .add (.loc 1) (.int 1)) (.cons (.int 1) .nil)))))
  .nil))⟩
def F_whole_edit:Fn:=⟨[119,104,111,108,101,95,101,100,105,116],2,[[116,101,120,116],[97,116],[119,105,100,116,104],[104,101,114,101],[100,105,103,105,116,115]],
  (.cons (.unpack [2,3] (.call 2 (.cons (.loc 0) (.cons (.loc 1) (.cons (.int 1) .nil)))))
  (.cons (.ite (.not (.call 3 (.cons (.loc 0) (.cons (.loc 3) (.cons (.str [46]) .nil))))) (.cons (.ret (.tup (.cons (.tup (.cons (.str [73]) (.cons (.loc 2) (.cons .none .nil)))) (.cons (.loc 3) .nil))))
  .nil) .nil)
  (.cons (.unpack [4,3] (.call 2 (.cons (.loc 0) (.cons (.bin .add (.loc 3) (.int 1)) (.cons (.int 0) .nil)))))
  (.cons (.ite (.cmp .gt (.loc 4) (.loc 2)) (.cons (.raise (.loc 3))
  .nil) .nil)
  (.cons (.ret (.tup (.cons (.tup (.cons (.str [73]) (.cons (.loc 2) (.cons (.loc 4) .nil)))) (.cons (.loc 3) .nil))))
  .nil)))))⟩
def F_real_edit:Fn:=⟨[114,101,97,108,95,101,100,105,116],3,[[108,101,116,116,101,114],[116,101,120,116],[97,116],[119,105,100,116,104],[104,101,114,101],[100,105,103,105,116,115],[101,120,112,111,110,101,110,116]],
  (.cons (.unpack [3,4] (.call 2 (.cons (.loc 1) (.cons (.loc 2) (.cons (.int 1) .nil)))))
  (.cons (.unpack [5,4] (.call 4 (.cons (.loc 1) (.cons (.loc 4) .nil))))
  (.cons (.ite (.or (.cmp .eq (.loc 0) (.str [70])) (.cmp .eq (.loc 0) (.str [68]))) (.cons (.ret (.tup (.cons (.tup (.cons (.loc 0) (.cons (.loc 3) (.cons (.loc 5) .nil)))) (.cons (.loc 4) .nil))))
  .nil) .nil)
  (.cons (.unpack [6,4] (.call 5 (.cons (.loc 1) (.cons (.loc 4) .nil))))
  (.cons (.ret (.tup (.cons (.tup (.cons (.loc 0) (.cons (.loc 3) (.cons (.loc 5) (.cons (.loc 6) .nil))))) (.cons (.loc 4) .nil))))
  .nil)))))⟩
def F_value_edit:Fn:=⟨[118,97,108,117,101,95,101,100,105,116],2,[[116,101,120,116],[97,116],[108,101,116,116,101,114],[119,105,100,116,104],[104,101,114,101]],
  (.cons (.assign 2 (.idx (.loc 0) (.loc 1)))
  (.cons (.ite (.cmp .eq (.loc 2) (.str [73])) (.cons (.ret (.call 6 (.cons (.loc 0) (.cons (.bin .add (.loc 1) (.int 1)) .nil))))
  .nil) .nil)
  (.cons (.ite (.cmp .eq (.loc 2) (.str [76])) (.cons (.unpack [3,4] (.call 2 (.cons (.loc 0) (.cons (.bin .add (.loc 1) (.int 1)) (.cons (.int 1) .nil)))))
  (.cons (.ret (.tup (.cons (.tup (.cons (.str [76]) (.cons (.loc 3) .nil))) (.cons (.loc 4) .nil))))
  .nil)) .nil)
  (.cons (.ite (.cmp .eq (.loc 2) (.str [65])) (.cons (.unpack [3,4] (.call 1 (.cons (.loc 0) (.cons (.bin .add (.loc 1) (.int 1)) .nil))))
  (.cons (.ite (.cmp .eq (.loc 3) (.int 0)) (.cons (.raise (.loc 4))
  .nil) .nil)
  (.cons (.ret (.tup (.cons (.tup (.cons (.str [65]) (.cons (.loc 3) .nil))) (.cons (.loc 4) .nil))))
  .nil))) .nil)
  (.cons (.ret (.call 7 (.cons (.loc 2) (.cons (.loc 0) (.cons (.bin .add (.loc 1) (.int 1)) .nil)))))
  .nil)))))⟩
def F_quoted_at:Fn:=⟨[113,117,111,116,101,100,95,97,116],2,[[116,101,120,116],[97,116],[111,117,116],[104,101,114,101]],
  (.cons (.assign 2 (.str []))
  (.cons (.assign 3 (.bin .add (.loc 1) (.int 1)))
  (.cons (.while (.cmp .lt (.loc 3) (.len (.loc 0))) (.cons (.ite (.cmp .ne (.idx (.loc 0) (.loc 3)) (.str [39])) (.cons (.aug 2 (.idx (.loc 0) (.loc 3)))
  (.cons (.aug 3 (.int 1))
  .nil)) (.cons (.ite (.call 3 (.cons (.loc 0) (.cons (.bin .add (.loc 3) (.int 1)) (.cons (.str [39]) .nil)))) (.cons (.aug 2 (.str [39]))
  (.cons (.aug 3 (.int 2))
  .nil)) (.cons (.ite (.cmp .eq (.loc 2) (.str [])) (.cons (.raise (.loc 1))
  .nil) .nil)
  (.cons (.ret (.tup (.cons (.tup (.cons (.str [72]) (.cons (.loc 2) .nil))) (.cons (.bin .add (.loc 3) (.int 1)) .nil))))
  .nil)))
  .nil))
  .nil))
  (.cons (.raise (.loc 1))
  .nil))))⟩
def F_counted_text:Fn:=⟨[99,111,117,110,116,101,100,95,116,101,120,116],3,[[116,101,120,116],[97,116],[99,111,117,110,116]],
  (.cons (.ite (.cmp .gt (.bin .add (.loc 1) (.loc 2)) (.len (.loc 0))) (.cons (.raise (.loc 1))
  .nil) .nil)
  (.cons (.ret (.tup (.cons (.tup (.cons (.str [72]) (.cons (.sl (.loc 0) (.loc 1) (.bin .add (.loc 1) (.loc 2))) .nil))) (.cons (.bin .add (.loc 1) (.loc 2)) .nil))))
  .nil))⟩
def F_scale_at:Fn:=⟨[115,99,97,108,101,95,97,116],2,[[116,101,120,116],[97,116],[118,97,108,117,101],[104,101,114,101]],
  (.cons (.unpack [2,3] (.call 2 (.cons (.loc 0) (.cons (.bin .add (.loc 1) (.int 1)) (.cons (.int 0) .nil)))))
  (.cons (.ite (.not (.call 3 (.cons (.loc 0) (.cons (.loc 3) (.cons (.str [80]) .nil))))) (.cons (.raise (.loc 3))
  .nil) .nil)
  (.cons (.ite (.cmp .eq (.idx (.loc 0) (.loc 1)) (.str [45])) (.cons (.assign 2 (.neg (.loc 2)))
  .nil) .nil)
  (.cons (.ret (.tup (.cons (.tup (.cons (.str [80]) (.cons (.loc 2) .nil))) (.cons (.bin .add (.loc 3) (.int 1)) .nil))))
  .nil))))⟩
def F_control_at:Fn:=⟨[99,111,110,116,114,111,108,95,97,116],2,[[116,101,120,116],[97,116],[108,101,116,116,101,114],[104,101,114,101],[119,111,114,100],[99,111,117,110,116]],
  (.cons (.assign 2 (.idx (.loc 0) (.loc 1)))
  (.cons (.ite (.or (.cmp .eq (.loc 2) (.str [47])) (.cmp .eq (.loc 2) (.str [58]))) (.cons (.ret (.tup (.cons (.tup (.cons (.loc 2) .nil)) (.cons (.bin .add (.loc 1) (.int 1)) .nil))))
  .nil) .nil)
  (.cons (.assign 3 (.call 0 (.cons (.loc 0) (.cons (.bin .add (.loc 1) (.int 1)) .nil))))
  (.cons (.ite (.cmp .eq (.loc 2) (.str [83])) (.cons (.ite (.or (.call 3 (.cons (.loc 0) (.cons (.loc 3) (.cons (.str [80]) .nil)))) (.call 3 (.cons (.loc 0) (.cons (.loc 3) (.cons (.str [83]) .nil))))) (.cons (.ret (.tup (.cons (.tup (.cons (.bin .add (.str [83]) (.idx (.loc 0) (.loc 3))) .nil)) (.cons (.bin .add (.loc 3) (.int 1)) .nil))))
  .nil) .nil)
  (.cons (.ret (.tup (.cons (.tup (.cons (.str [83]) .nil)) (.cons (.loc 3) .nil))))
  .nil)) .nil)
  (.cons (.ite (.and (.cmp .eq (.loc 2) (.str [66])) (.or (.call 3 (.cons (.loc 0) (.cons (.loc 3) (.cons (.str [78]) .nil)))) (.call 3 (.cons (.loc 0) (.cons (.loc 3) (.cons (.str [90]) .nil)))))) (.cons (.ret (.tup (.cons (.tup (.cons (.bin .add (.str [66]) (.idx (.loc 0) (.loc 3))) .nil)) (.cons (.bin .add (.loc 3) (.int 1)) .nil))))
  .nil) .nil)
  (.cons (.ite (.cmp .eq (.loc 2) (.str [84])) (.cons (.assign 4 (.str [84]))
  (.cons (.ite (.or (.call 3 (.cons (.loc 0) (.cons (.loc 3) (.cons (.str [76]) .nil)))) (.call 3 (.cons (.loc 0) (.cons (.loc 3) (.cons (.str [82]) .nil))))) (.cons (.assign 4 (.bin .add (.str [84]) (.idx (.loc 0) (.loc 3))))
  (.cons (.aug 3 (.int 1))
  .nil)) .nil)
  (.cons (.unpack [5,3] (.call 2 (.cons (.loc 0) (.cons (.loc 3) (.cons (.int 1) .nil)))))
  (.cons (.ret (.tup (.cons (.tup (.cons (.loc 4) (.cons (.loc 5) .nil))) (.cons (.loc 3) .nil))))
  .nil)))) .nil)
  (.cons (.raise (.loc 1))
  .nil)))))))⟩
def F_group_at:Fn:=⟨[103,114,111,117,112,95,97,116],4,[[116,101,120,116],[97,116],[99,111,117,110,116],[100,101,112,116,104],[105,116,101,109,115],[104,101,114,101]],
  (.cons (.ite (.cmp .eq (.loc 3) (.gint [77,79,83,84,95,68,69,80,84,72] 10)) (.cons (.raise (.loc 1))
  .nil) .nil)
  (.cons (.unpack [4,5] (.call 17 (.cons (.loc 0) (.cons (.bin .add (.loc 1) (.int 1)) (.cons (.bin .add (.loc 3) (.int 1)) .nil)))))
  (.cons (.ite (.isNil (.loc 4)) (.cons (.raise (.loc 5))
  .nil) .nil)
  (.cons (.ret (.tup (.cons (.tup (.cons (.str [103,114,111,117,112]) (.cons (.loc 2) (.cons (.loc 4) .nil)))) (.cons (.bin .add (.loc 5) (.int 1)) .nil))))
  .nil))))⟩
def F_counted_at:Fn:=⟨[99,111,117,110,116,101,100,95,97,116],3,[[116,101,120,116],[97,116],[100,101,112,116,104],[99,111,117,110,116],[104,101,114,101],[108,101,116,116,101,114],[105,116,101,109],[98,101,104,105,110,100]],
  (.cons (.unpack [3,4] (.call 1 (.cons (.loc 0) (.cons (.loc 1) .nil))))
  (.cons (.assign 5 (.sl (.loc 0) (.loc 4) (.bin .add (.loc 4) (.int 1))))
  (.cons (.ite (.cmp .eq (.loc 5) (.str [80])) (.cons (.ret (.tup (.cons (.tup (.cons (.str [80]) (.cons (.loc 3) .nil))) (.cons (.bin .add (.loc 4) (.int 1)) .nil))))
  .nil) .nil)
  (.cons (.ite (.cmp .eq (.loc 3) (.int 0)) (.cons (.raise (.loc 1))
  .nil) .nil)
  (.cons (.ite (.cmp .eq (.loc 5) (.str [88])) (.cons (.ret (.tup (.cons (.tup (.cons (.str [88]) (.cons (.loc 3) .nil))) (.cons (.bin .add (.loc 4) (.int 1)) .nil))))
  .nil) .nil)
  (.cons (.ite (.cmp .eq (.loc 5) (.str [72])) (.cons (.ret (.call 10 (.cons (.loc 0) (.cons (.bin .add (.loc 4) (.int 1)) (.cons (.loc 3) .nil)))))
  .nil) .nil)
  (.cons (.ite (.cmp .eq (.loc 5) (.str [40])) (.cons (.ret (.call 13 (.cons (.loc 0) (.cons (.loc 4) (.cons (.loc 3) (.cons (.loc 2) .nil))))))
  .nil) .nil)
  (.cons (.ite (.or (.cmp .eq (.loc 5) (.str [])) (.cmp .notIn (.loc 5) (.str [73,70,69,68,71,76,65]))) (.cons (.raise (.loc 4))
  .nil) .nil)
  (.cons (.unpack [6,7] (.call 8 (.cons (.loc 0) (.cons (.loc 4) .nil))))
  (.cons (.ite (.cmp .gt (.loc 3) (.int 1)) (.cons (.assign 6 (.tup (.cons (.str [114,101,112,101,97,116]) (.cons (.loc 3) (.cons (.loc 6) .nil)))))
  .nil) .nil)
  (.cons (.ret (.tup (.cons (.loc 6) (.cons (.loc 7) .nil))))
  .nil)))))))))))⟩
def F_item_at:Fn:=⟨[105,116,101,109,95,97,116],3,[[116,101,120,116],[97,116],[100,101,112,116,104],[115,105,103,110]],
  (.cons (.assign 3 (.idx (.loc 0) (.loc 1)))
  (.cons (.ite (.cmp .isIn (.loc 3) (.gstr [68,73,71,73,84,83] [48,49,50,51,52,53,54,55,56,57])) (.cons (.ret (.call 14 (.cons (.loc 0) (.cons (.loc 1) (.cons (.loc 2) .nil)))))
  .nil) .nil)
  (.cons (.ite (.cmp .eq (.loc 3) (.str [39])) (.cons (.ret (.call 9 (.cons (.loc 0) (.cons (.loc 1) .nil))))
  .nil) .nil)
  (.cons (.ite (.or (.cmp .eq (.loc 3) (.str [43])) (.cmp .eq (.loc 3) (.str [45]))) (.cons (.ret (.call 11 (.cons (.loc 0) (.cons (.loc 1) .nil))))
  .nil) .nil)
  (.cons (.ite (.cmp .eq (.loc 3) (.str [40])) (.cons (.ret (.call 13 (.cons (.loc 0) (.cons (.loc 1) (.cons (.int 1) (.cons (.loc 2) .nil))))))
  .nil) .nil)
  (.cons (.ite (.cmp .isIn (.loc 3) (.str [73,70,69,68,71,76,65])) (.cons (.ret (.call 8 (.cons (.loc 0) (.cons (.loc 1) .nil))))
  .nil) .nil)
  (.cons (.ret (.call 12 (.cons (.loc 0) (.cons (.loc 1) .nil))))
  .nil)))))))⟩
def F_may_join:Fn:=⟨[109,97,121,95,106,111,105,110],2,[[108,97,115,116],[105,116,101,109]],
  (.cons (.ite (.or (.cmp .isIn (.idx (.loc 0) (.int 0)) (.str [47,58])) (.cmp .isIn (.idx (.loc 1) (.int 0)) (.str [47,58]))) (.cons (.ret (.bool true))
  .nil) .nil)
  (.cons (.ite (.cmp .eq (.idx (.loc 1) (.int 0)) (.str [114,101,112,101,97,116])) (.cons (.assign 1 (.idx (.loc 1) (.int 2)))
  .nil) .nil)
  (.cons (.ret (.and (.cmp .eq (.idx (.loc 0) (.int 0)) (.str [80])) (.cmp .isIn (.idx (.loc 1) (.int 0)) (.str [70,69,68,71]))))
  .nil)))⟩
def F_items_at:Fn:=⟨[105,116,101,109,115,95,97,116],3,[[116,101,120,116],[97,116],[100,101,112,116,104],[105,116,101,109,115],[105,115,95,97,102,116,101,114,95,99,111,109,109,97],[104,101,114,101],[115,105,103,110],[105,116,101,109]],
  (.cons (.assign 3 (.lstM .nil))
  (.cons (.assign 4 (.bool false))
  (.cons (.while (.bool true) (.cons (.assign 5 (.call 0 (.cons (.loc 0) (.cons (.loc 1) .nil))))
  (.cons (.assign 6 (.sl (.loc 0) (.loc 5) (.bin .add (.loc 5) (.int 1))))
  (.cons (.ite (.cmp .eq (.loc 6) (.str [])) (.cons (.raise (.loc 5))
  .nil) .nil)
  (.cons (.ite (.or (.cmp .eq (.loc 6) (.str [44])) (.cmp .eq (.loc 6) (.str [41]))) (.cons (.ite (.or (.loc 4) (.and (.cmp .eq (.loc 6) (.str [44])) (.isNil (.loc 3)))) (.cons (.raise (.loc 5))
  .nil) .nil)
  (.cons (.ite (.cmp .eq (.loc 6) (.str [41])) (.cons (.ret (.tup (.cons (.seal 3) (.cons (.loc 5) .nil))))
  .nil) .nil)
  (.cons (.assign 4 (.bool true))
  (.cons (.assign 1 (.bin .add (.loc 5) (.int 1)))
  .nil)))) (.cons (.unpack [7,1] (.call 15 (.cons (.loc 0) (.cons (.loc 5) (.cons (.loc 2) .nil)))))
  (.cons (.ite (.and (.notNil (.loc 3)) (.and (.not (.loc 4)) (.not (.call 16 (.cons (.idx (.loc 3) (.neg (.int 1))) (.cons (.loc 7) .nil)))))) (.cons (.raise (.loc 5))
  .nil) .nil)
  (.cons (.append (.loc 3) (.loc 7))
  (.cons (.assign 4 (.bool false))
  .nil)))))
  .nil)))))
  .nil)))⟩
def F_format_prefix:Fn:=⟨[102,111,114,109,97,116,95,112,114,101,102,105,120],1,[[116,101,120,116],[104,101,114,101],[105,116,101,109,115]],
  (.cons (.assign 1 (.call 0 (.cons (.loc 0) (.cons (.int 0) .nil))))
  (.cons (.ite (.not (.call 3 (.cons (.loc 0) (.cons (.loc 1) (.cons (.str [40]) .nil))))) (.cons (.raise (.loc 1))
  .nil) .nil)
  (.cons (.unpack [2,1] (.call 17 (.cons (.loc 0) (.cons (.bin .add (.loc 1) (.int 1)) (.cons (.int 0) .nil)))))
  (.cons (.ret (.tup (.cons (.loc 2) (.cons (.bin .add (.loc 1) (.int 1)) .nil))))
  .nil))))⟩
def F_parse_format:Fn:=⟨[112,97,114,115,101,95,102,111,114,109,97,116],1,[[116,101,120,116],[105,116,101,109,115],[104,101,114,101]],
  (.cons (.unpack [1,2] (.call 18 (.cons (.loc 0) .nil)))
  (.cons (.assign 2 (.call 0 (.cons (.loc 0) (.cons (.loc 2) .nil))))
  (.cons (.ite (.cmp .lt (.loc 2) (.len (.loc 0))) (.cons (.raise (.loc 2))
  .nil) .nil)
  (.cons (.ret (.loc 1))
  .nil))))⟩
def F_write_tail:Fn:=⟨[119,114,105,116,101,95,116,97,105,108],1,[[105,116,101,109],[116,101,120,116]],
  (.cons (.assign 1 (.str []))
  (.cons (.ite (.notNone (.idx (.loc 0) (.int 1))) (.cons (.assign 1 (.toStr (.idx (.loc 0) (.int 1))))
  .nil) .nil)
  (.cons (.ite (.and (.cmp .gt (.len (.loc 0)) (.int 2)) (.notNone (.idx (.loc 0) (.int 2)))) (.cons (.assign 1 (.bin .add (.bin .add (.loc 1) (.str [46])) (.toStr (.idx (.loc 0) (.int 2)))))
  .nil) .nil)
  (.cons (.ite (.and (.cmp .gt (.len (.loc 0)) (.int 3)) (.notNone (.idx (.loc 0) (.int 3)))) (.cons (.assign 1 (.bin .add (.bin .add (.loc 1) (.str [69])) (.toStr (.idx (.loc 0) (.int 3)))))
  .nil) .nil)
  (.cons (.ret (.loc 1))
  .nil)))))⟩
def F_write_item:Fn:=⟨[119,114,105,116,101,95,105,116,101,109],1,[[105,116,101,109],[119,111,114,100],[99,111,117,110,116]],
  (.cons (.assign 1 (.idx (.loc 0) (.int 0)))
  (.cons (.ite (.cmp .eq (.loc 1) (.str [103,114,111,117,112])) (.cons (.assign 2 (.str []))
  (.cons (.ite (.cmp .gt (.idx (.loc 0) (.int 1)) (.int 1)) (.cons (.assign 2 (.toStr (.idx (.loc 0) (.int 1))))
  .nil) .nil)
  (.cons (.ret (.bin .add (.loc 2) (.call 22 (.cons (.idx (.loc 0) (.int 2)) .nil))))
  .nil))) .nil)
  (.cons (.ite (.cmp .eq (.loc 1) (.str [114,101,112,101,97,116])) (.cons (.ret (.bin .add (.toStr (.idx (.loc 0) (.int 1))) (.call 21 (.cons (.idx (.loc 0) (.int 2)) .nil))))
  .nil) .nil)
  (.cons (.ite (.cmp .eq (.loc 1) (.str [72])) (.cons (.ret (.bin .add (.bin .add (.str [39]) (.replace (.idx (.loc 0) (.int 1)) 39 [39,39])) (.str [39])))
  .nil) .nil)
  (.cons (.ite (.or (.cmp .eq (.loc 1) (.str [88])) (.cmp .eq (.loc 1) (.str [80]))) (.cons (.ret (.bin .add (.toStr (.idx (.loc 0) (.int 1))) (.loc 1)))
  .nil) .nil)
  (.cons (.ite (.inC (.loc 1) [[84],[84,76],[84,82]]) (.cons (.ret (.bin .add (.loc 1) (.toStr (.idx (.loc 0) (.int 1)))))
  .nil) .nil)
  (.cons (.ite (.cmp .eq (.len (.loc 0)) (.int 1)) (.cons (.ret (.loc 1))
  .nil) .nil)
  (.cons (.ret (.bin .add (.loc 1) (.call 20 (.cons (.loc 0) .nil))))
  .nil))))))))⟩
def F_write_format:Fn:=⟨[119,114,105,116,101,95,102,111,114,109,97,116],1,[[105,116,101,109,115],[112,97,114,116,115],[105,116,101,109]],
  (.cons (.assign 1 (.lstM .nil))
  (.cons (.forE 2 (.loc 0) (.cons (.append (.loc 1) (.call 21 (.cons (.loc 2) .nil)))
  .nil))
  (.cons (.ret (.bin .add (.bin .add (.str [40]) (.join (.str [44]) (.loc 1))) (.str [41])))
  .nil)))⟩
def F_law_draw:Fn:=⟨[95,108,97,119,95,100,114,97,119],2,[[112,101,110],[109,97,110,121],[97,116]],
  (.cons (.assign 2 (.idx (.loc 0) (.int 1)))
  (.cons (.setIdx (.loc 0) (.int 1) (.bin .add (.loc 2) (.int 1)))
  (.cons (.ite (.cmp .lt (.loc 2) (.len (.idx (.loc 0) (.int 0)))) (.cons (.ret (.bin .mod (.idx (.idx (.loc 0) (.int 0)) (.loc 2)) (.loc 1)))
  .nil) .nil)
  (.cons (.ret (.bin .mod (.bin .add (.bin .mul (.bin .mul (.int 7) (.loc 2)) (.loc 2)) (.int 3)) (.loc 1)))
  .nil))))⟩
def F_law_value:Fn:=⟨[95,108,97,119,95,118,97,108,117,101],1,[[112,101,110],[108,101,116,116,101,114],[119,105,100,116,104],[100,105,103,105,116,115],[109,111,114,101]],
  (.cons (.assign 1 (.idx (.str [73,70,69,68,71,76,65]) (.call 23 (.cons (.loc 0) (.cons (.int 7) .nil)))))
  (.cons (.assign 2 (.bin .add (.int 1) (.call 23 (.cons (.loc 0) (.cons (.int 12) .nil)))))
  (.cons (.assign 3 (.call 23 (.cons (.loc 0) (.cons (.int 9) .nil))))
  (.cons (.assign 4 (.call 23 (.cons (.loc 0) (.cons (.int 3) .nil))))
  (.cons (.ite (.cmp .eq (.loc 1) (.str [73])) (.cons (.ret (.tup (.cons (.str [73]) (.cons (.loc 2) (.cons (.ife (.cmp .eq (.loc 4) (.int 0)) .none (.bin .mod (.loc 3) (.bin .add (.loc 2) (.int 1)))) .nil)))))
  .nil) .nil)
  (.cons (.ite (.cmp .eq (.loc 1) (.str [76])) (.cons (.ret (.tup (.cons (.str [76]) (.cons (.loc 2) .nil))))
  .nil) .nil)
  (.cons (.ite (.cmp .eq (.loc 1) (.str [65])) (.cons (.ret (.tup (.cons (.str [65]) (.cons (.ife (.cmp .eq (.loc 4) (.int 0)) .none (.loc 2)) .nil))))
  .nil) .nil)
  (.cons (.ite (.cmp .isIn (.loc 1) (.str [70,68])) (.cons (.ret (.tup (.cons (.loc 1) (.cons (.loc 2) (.cons (.loc 3) .nil)))))
  .nil) .nil)
  (.cons (.ret (.tup (.cons (.loc 1) (.cons (.loc 2) (.cons (.loc 3) (.cons (.ife (.cmp .eq (.loc 4) (.int 0)) .none (.loc 4)) .nil))))))
  .nil)))))))))⟩
def F_law_item:Fn:=⟨[95,108,97,119,95,105,116,101,109],2,[[112,101,110],[100,101,101,112],[119,97,121],[99,111,117,110,116],[116,117,114,110]],
  (.cons (.assign 2 (.call 23 (.cons (.loc 0) (.cons (.ife (.cmp .gt (.loc 1) (.int 0)) (.int 12) (.int 11)) .nil))))
  (.cons (.assign 3 (.bin .add (.int 1) (.call 23 (.cons (.loc 0) (.cons (.int 14) .nil)))))
  (.cons (.ite (.cmp .lt (.loc 2) (.int 3)) (.cons (.ret (.call 24 (.cons (.loc 0) .nil)))
  .nil) .nil)
  (.cons (.ite (.cmp .lt (.loc 2) (.int 5)) (.cons (.ret (.tup (.cons (.str [114,101,112,101,97,116]) (.cons (.bin .add (.int 1) (.loc 3)) (.cons (.call 24 (.cons (.loc 0) .nil)) .nil)))))
  .nil) .nil)
  (.cons (.ite (.cmp .eq (.loc 2) (.int 5)) (.cons (.ret (.tup (.cons (.str [72]) (.cons (.join (.str []) (.comp (.idx (.str [65,39,53,32,44,72,41]) (.call 23 (.cons (.loc 0) (.cons (.int 7) .nil)))) 4 (.bin .add (.int 1) (.bin .mod (.loc 3) (.int 3))))) .nil))))
  .nil) .nil)
  (.cons (.ite (.cmp .eq (.loc 2) (.int 6)) (.cons (.ret (.tup (.cons (.str [88]) (.cons (.loc 3) .nil))))
  .nil) .nil)
  (.cons (.ite (.cmp .eq (.loc 2) (.int 7)) (.cons (.ret (.tup (.cons (.idx (.lstF (.cons (.str [84]) (.cons (.str [84,76]) (.cons (.str [84,82]) .nil)))) (.call 23 (.cons (.loc 0) (.cons (.int 3) .nil)))) (.cons (.loc 3) .nil))))
  .nil) .nil)
  (.cons (.ite (.cmp .eq (.loc 2) (.int 8)) (.cons (.ret (.tup (.cons (.idx (.lstF (.cons (.str [47]) (.cons (.str [58]) .nil))) (.bin .mod (.loc 3) (.int 2))) .nil)))
  .nil) .nil)
  (.cons (.ite (.cmp .eq (.loc 2) (.int 9)) (.cons (.ret (.tup (.cons (.str [80]) (.cons (.bin .sub (.loc 3) (.int 7)) .nil))))
  .nil) .nil)
  (.cons (.ite (.cmp .eq (.loc 2) (.int 10)) (.cons (.ret (.tup (.cons (.idx (.lstF (.cons (.str [83]) (.cons (.str [83,80]) (.cons (.str [83,83]) (.cons (.str [66,78]) (.cons (.str [66,90]) .nil)))))) (.call 23 (.cons (.loc 0) (.cons (.int 5) .nil)))) .nil)))
  .nil) .nil)
  (.cons (.ret (.tup (.cons (.str [103,114,111,117,112]) (.cons (.loc 3) (.cons (.comp (.call 25 (.cons (.loc 0) (.cons (.bin .sub (.loc 1) (.int 1)) .nil))) 4 (.bin .add (.int 1) (.call 23 (.cons (.loc 0) (.cons (.int 2) .nil))))) .nil)))))
  .nil)))))))))))⟩
def F_law_text:Fn:=⟨[95,108,97,119,95,116,101,120,116],2,[[105,116,101,109],[106,111,105,110,116],[119,111,114,100],[116,101,120,116],[106,111,105,110,101,114],[112,97,114,116]],
  (.cons (.assign 2 (.idx (.loc 0) (.int 0)))
  (.cons (.ite (.cmp .eq (.loc 2) (.str [103,114,111,117,112])) (.cons (.ret (.bin .add (.ife (.cmp .eq (.idx (.loc 0) (.int 1)) (.int 1)) (.str []) (.toStr (.idx (.loc 0) (.int 1)))) (.call 28 (.cons (.idx (.loc 0) (.int 2)) (.cons (.loc 1) .nil)))))
  .nil) .nil)
  (.cons (.ite (.cmp .eq (.loc 2) (.str [114,101,112,101,97,116])) (.cons (.ret (.bin .add (.toStr (.idx (.loc 0) (.int 1))) (.call 26 (.cons (.idx (.loc 0) (.int 2)) (.cons (.loc 1) .nil)))))
  .nil) .nil)
  (.cons (.ite (.cmp .eq (.loc 2) (.str [72])) (.cons (.ret (.bin .add (.bin .add (.str [39]) (.join (.str [39,39]) (.split (.idx (.loc 0) (.int 1)) (.str [39])))) (.str [39])))
  .nil) .nil)
  (.cons (.ite (.inC (.loc 2) [[88],[80]]) (.cons (.ret (.bin .add (.toStr (.idx (.loc 0) (.int 1))) (.loc 2)))
  .nil) .nil)
  (.cons (.assign 3 (.loc 2))
  (.cons (.zipStr 4 5 3 (.lstF (.cons (.str []) (.cons (.str [46]) (.cons (.str [69]) .nil)))) (.sl (.loc 0) (.int 1) .none))
  (.cons (.ret (.loc 3))
  .nil))))))))⟩
def F_law_is_loose:Fn:=⟨[95,108,97,119,95,105,115,95,108,111,111,115,101],2,[[111,110,101],[116,119,111],[107,105,110,100]],
  (.cons (.assign 2 (.ife (.cmp .eq (.idx (.loc 1) (.int 0)) (.str [114,101,112,101,97,116])) (.idx (.idx (.loc 1) (.int 2)) (.int 0)) (.idx (.loc 1) (.int 0))))
  (.cons (.ret (.or (.inC (.idx (.loc 0) (.int 0)) [[47],[58]]) (.or (.inC (.idx (.loc 1) (.int 0)) [[47],[58]]) (.and (.cmp .eq (.idx (.loc 0) (.int 0)) (.str [80])) (.inC (.loc 2) [[70],[69],[68],[71]])))))
  .nil))⟩
def F_law_whole:Fn:=⟨[95,108,97,119,95,119,104,111,108,101],2,[[105,116,101,109,115],[106,111,105,110,116],[116,101,120,116],[105]],
  (.cons (.assign 2 (.str [40]))
  (.cons (.forR 3 (.len (.loc 0)) (.cons (.ite (.cmp .gt (.loc 3) (.int 0)) (.cons (.assign 2 (.bin .add (.loc 2) (.ife (.call 27 (.cons (.idx (.loc 0) (.bin .sub (.loc 3) (.int 1))) (.cons (.idx (.loc 0) (.loc 3)) .nil))) (.loc 1) (.str [44]))))
  .nil) .nil)
  (.cons (.assign 2 (.bin .add (.loc 2) (.call 26 (.cons (.idx (.loc 0) (.loc 3)) (.cons (.loc 1) .nil)))))
  .nil)))
  (.cons (.ret (.bin .add (.loc 2) (.str [41])))
  .nil)))⟩
def F_law_spaced:Fn:=⟨[95,108,97,119,95,115,112,97,99,101,100],2,[[112,101,110],[116,101,120,116],[111,117,116],[105,115,95,105,110,115,105,100,101],[115,105,103,110]],
  (.cons (.assign 2 (.str []))
  (.cons (.assign 3 (.bool false))
  (.cons (.forE 4 (.loc 1) (.cons (.ite (.and (.not (.loc 3)) (.and (.cmp .ne (.sl (.loc 2) (.neg (.int 1)) .none) (.str [39])) (.cmp .eq (.call 23 (.cons (.loc 0) (.cons (.int 4) .nil))) (.int 0)))) (.cons (.assign 2 (.bin .add (.loc 2) (.str [32])))
  .nil) .nil)
  (.cons (.ite (.cmp .eq (.loc 4) (.str [39])) (.cons (.assign 3 (.not (.loc 3)))
  .nil) .nil)
  (.cons (.assign 2 (.bin .add (.loc 2) (.loc 4)))
  .nil))))
  (.cons (.ret (.loc 2))
  .nil))))⟩
def F_law_bent:Fn:=⟨[95,108,97,119,95,98,101,110,116],2,[[112,101,110],[116,101,120,116],[116,117,114,110],[110,117,109,98,101,114],[112,108,97,99,101],[115,105,103,110]],
  (.cons (.forR 2 (.int 3) (.cons (.assign 3 (.call 23 (.cons (.loc 0) (.cons .million .nil))))
  (.cons (.assign 4 (.bin .mod (.bin .fdiv (.loc 3) (.int 4)) (.bin .add (.len (.loc 1)) (.int 1))))
  (.cons (.assign 5 (.idx (.gstr [95,108,97,119,95,115,105,103,110,115] [73,70,69,68,71,76,65,88,84,80,83,66,72,78,82,90,47,58,44,46,40,41,39,43,45,48,49,50,51,32,53,57]) (.bin .mod (.bin .fdiv (.loc 3) (.int 97)) (.int 32))))
  (.cons (.ite (.cmp .eq (.bin .mod (.loc 3) (.int 4)) (.int 1)) (.cons (.assign 1 (.bin .add (.bin .add (.sl (.loc 1) .none (.loc 4)) (.loc 5)) (.sl (.loc 1) (.loc 4) .none)))
  .nil) .nil)
  (.cons (.ite (.cmp .eq (.bin .mod (.loc 3) (.int 4)) (.int 2)) (.cons (.assign 1 (.bin .add (.sl (.loc 1) .none (.loc 4)) (.sl (.loc 1) (.bin .add (.loc 4) (.int 1)) .none)))
  .nil) .nil)
  (.cons (.ite (.cmp .eq (.bin .mod (.loc 3) (.int 4)) (.int 3)) (.cons (.assign 1 (.bin .add (.bin .add (.sl (.loc 1) .none (.loc 4)) (.loc 5)) (.sl (.loc 1) (.bin .add (.loc 4) (.int 1)) .none)))
  .nil) .nil)
  .nil)))))))
  (.cons (.ret (.loc 1))
  .nil))⟩
def F_law_tokens:Fn:=⟨[95,108,97,119,95,116,111,107,101,110,115],1,[[116,101,120,116],[111,117,116],[97,116],[115,105,103,110],[112,97,114,116,115],[100,105,103,105,116,115],[110,117,109,98,101,114]],
  (.cons (.assign 1 (.lstM .nil))
  (.cons (.assign 2 (.int 0))
  (.cons (.while (.cmp .lt (.loc 2) (.len (.loc 0))) (.cons (.assign 3 (.idx (.loc 0) (.loc 2)))
  (.cons (.assign 2 (.bin .add (.loc 2) (.int 1)))
  (.cons (.ite (.cmp .eq (.loc 3) (.str [39])) (.cons (.assign 4 (.str []))
  (.cons (.while (.and (.cmp .lt (.loc 2) (.len (.loc 0))) (.or (.cmp .ne (.idx (.loc 0) (.loc 2)) (.str [39])) (.cmp .eq (.sl (.loc 0) (.loc 2) (.bin .add (.loc 2) (.int 2))) (.str [39,39])))) (.cons (.assign 4 (.bin .add (.loc 4) (.idx (.loc 0) (.loc 2))))
  (.cons (.assign 2 (.bin .add (.loc 2) (.ife (.cmp .eq (.idx (.loc 0) (.loc 2)) (.str [39])) (.int 2) (.int 1))))
  .nil)))
  (.cons (.append (.loc 1) (.ife (.and (.cmp .lt (.loc 2) (.len (.loc 0))) (.cmp .ne (.loc 4) (.str []))) (.tup (.cons (.str [116]) (.cons (.loc 4) .nil))) (.tup (.cons (.str [63]) (.cons (.int 0) .nil)))))
  (.cons (.assign 2 (.bin .add (.loc 2) (.int 1)))
  .nil)))) (.cons (.ite (.cmp .isIn (.loc 3) (.str [48,49,50,51,52,53,54,55,56,57])) (.cons (.assign 5 (.loc 3))
  (.cons (.while (.and (.cmp .lt (.loc 2) (.len (.loc 0))) (.cmp .isIn (.idx (.loc 0) (.loc 2)) (.str [48,49,50,51,52,53,54,55,56,57,32]))) (.cons (.assign 5 (.bin .add (.loc 5) (.idx (.loc 0) (.loc 2))))
  (.cons (.assign 2 (.bin .add (.loc 2) (.int 1)))
  .nil)))
  (.cons (.assign 6 (.toInt (.replace (.loc 5) 32 [])))
  (.cons (.ite (.cmp .eq (.sl (.loc 0) (.loc 2) (.bin .add (.loc 2) (.int 1))) (.str [72])) (.cons (.append (.loc 1) (.ife (.between (.int 0) (.loc 6) (.bin .sub (.len (.loc 0)) (.loc 2))) (.tup (.cons (.str [116]) (.cons (.sl (.loc 0) (.bin .add (.loc 2) (.int 1)) (.bin .add (.bin .add (.loc 2) (.int 1)) (.loc 6))) .nil))) (.tup (.cons (.str [63]) (.cons (.int 0) .nil)))))
  (.cons (.assign 2 (.bin .add (.bin .add (.loc 2) (.int 1)) (.loc 6)))
  .nil)) (.cons (.append (.loc 1) (.ife (.cmp .lt (.loc 6) (.int 10000)) (.tup (.cons (.str [110]) (.cons (.loc 6) .nil))) (.tup (.cons (.str [63]) (.cons (.int 0) .nil)))))
  .nil))
  .nil)))) (.cons (.ite (.cmp .ne (.loc 3) (.str [32])) (.cons (.append (.loc 1) (.tup (.cons (.loc 3) (.cons (.int 0) .nil))))
  .nil) .nil)
  .nil))
  .nil))
  .nil))))
  (.cons (.ret (.bin .add (.loc 1) (.bin .mul (.lstF (.cons (.tup (.cons (.str [101,110,100]) (.cons (.int 0) .nil))) .nil)) (.int 6))))
  .nil))))⟩
def F_law_number:Fn:=⟨[95,108,97,119,95,110,117,109,98,101,114],3,[[116,111,107,101,110,115],[97,116],[108,111,119,101,114]],
  (.cons (.ret (.and (.cmp .eq (.idx (.idx (.loc 0) (.loc 1)) (.int 0)) (.str [110])) (.cmp .ge (.idx (.idx (.loc 0) (.loc 1)) (.int 1)) (.loc 2))))
  .nil)⟩
def F_law_reals:Fn:=⟨[95,108,97,119,95,114,101,97,108,115],3,[[108,101,116,116,101,114],[116,111,107,101,110,115],[97,116],[105,116,101,109]],
  (.cons (.ite (.or (.cmp .ne (.idx (.idx (.loc 1) (.bin .add (.loc 2) (.int 1))) (.int 0)) (.str [46])) (.not (.call 32 (.cons (.loc 1) (.cons (.bin .add (.loc 2) (.int 2)) (.cons (.int 0) .nil)))))) (.cons (.ret .none)
  .nil) .nil)
  (.cons (.assign 3 (.tup (.cons (.loc 0) (.cons (.idx (.idx (.loc 1) (.loc 2)) (.int 1)) (.cons (.idx (.idx (.loc 1) (.bin .add (.loc 2) (.int 2))) (.int 1)) .nil)))))
  (.cons (.ite (.cmp .isIn (.loc 0) (.str [70,68])) (.cons (.ret (.tup (.cons (.loc 3) (.cons (.bin .add (.loc 2) (.int 3)) .nil))))
  .nil) .nil)
  (.cons (.ite (.cmp .ne (.idx (.idx (.loc 1) (.bin .add (.loc 2) (.int 3))) (.int 0)) (.str [69])) (.cons (.ret (.tup (.cons (.bin .add (.loc 3) (.tup (.cons .none .nil))) (.cons (.bin .add (.loc 2) (.int 3)) .nil))))
  .nil) .nil)
  (.cons (.ite (.not (.call 32 (.cons (.loc 1) (.cons (.bin .add (.loc 2) (.int 4)) (.cons (.int 1) .nil))))) (.cons (.ret .none)
  .nil) .nil)
  (.cons (.ret (.tup (.cons (.bin .add (.loc 3) (.tup (.cons (.idx (.idx (.loc 1) (.bin .add (.loc 2) (.int 4))) (.int 1)) .nil))) (.cons (.bin .add (.loc 2) (.int 5)) .nil))))
  .nil))))))⟩
def F_law_valued:Fn:=⟨[95,108,97,119,95,118,97,108,117,101,100],2,[[116,111,107,101,110,115],[97,116],[108,101,116,116,101,114],[119,105,100,116,104]],
  (.cons (.assign 2 (.idx (.idx (.loc 0) (.loc 1)) (.int 0)))
  (.cons (.ite (.and (.cmp .eq (.loc 2) (.str [65])) (.cmp .ne (.idx (.idx (.loc 0) (.bin .add (.loc 1) (.int 1))) (.int 0)) (.str [110]))) (.cons (.ret (.tup (.cons (.tup (.cons (.str [65]) (.cons .none .nil))) (.cons (.bin .add (.loc 1) (.int 1)) .nil))))
  .nil) .nil)
  (.cons (.ite (.not (.call 32 (.cons (.loc 0) (.cons (.bin .add (.loc 1) (.int 1)) (.cons (.int 1) .nil))))) (.cons (.ret .none)
  .nil) .nil)
  (.cons (.assign 3 (.idx (.idx (.loc 0) (.bin .add (.loc 1) (.int 1))) (.int 1)))
  (.cons (.ite (.cmp .isIn (.loc 2) (.str [65,76])) (.cons (.ret (.tup (.cons (.tup (.cons (.loc 2) (.cons (.loc 3) .nil))) (.cons (.bin .add (.loc 1) (.int 2)) .nil))))
  .nil) .nil)
  (.cons (.ite (.cmp .ne (.loc 2) (.str [73])) (.cons (.ret (.call 33 (.cons (.loc 2) (.cons (.loc 0) (.cons (.bin .add (.loc 1) (.int 1)) .nil)))))
  .nil) .nil)
  (.cons (.ite (.cmp .ne (.idx (.idx (.loc 0) (.bin .add (.loc 1) (.int 2))) (.int 0)) (.str [46])) (.cons (.ret (.tup (.cons (.tup (.cons (.str [73]) (.cons (.loc 3) (.cons .none .nil)))) (.cons (.bin .add (.loc 1) (.int 2)) .nil))))
  .nil) .nil)
  (.cons (.ite (.or (.not (.call 32 (.cons (.loc 0) (.cons (.bin .add (.loc 1) (.int 3)) (.cons (.int 0) .nil))))) (.cmp .gt (.idx (.idx (.loc 0) (.bin .add (.loc 1) (.int 3))) (.int 1)) (.loc 3))) (.cons (.ret .none)
  .nil) .nil)
  (.cons (.ret (.tup (.cons (.tup (.cons (.str [73]) (.cons (.loc 3) (.cons (.idx (.idx (.loc 0) (.bin .add (.loc 1) (.int 3))) (.int 1)) .nil)))) (.cons (.bin .add (.loc 1) (.int 4)) .nil))))
  .nil)))))))))⟩
def F_law_control:Fn:=⟨[95,108,97,119,95,99,111,110,116,114,111,108],2,[[116,111,107,101,110,115],[97,116],[119,111,114,100],[108,97,116,101,114]],
  (.cons (.assign 2 (.idx (.idx (.loc 0) (.loc 1)) (.int 0)))
  (.cons (.assign 3 (.idx (.idx (.loc 0) (.bin .add (.loc 1) (.int 1))) (.int 0)))
  (.cons (.ite (.cmp .eq (.loc 2) (.str [116])) (.cons (.ret (.tup (.cons (.tup (.cons (.str [72]) (.cons (.idx (.idx (.loc 0) (.loc 1)) (.int 1)) .nil))) (.cons (.bin .add (.loc 1) (.int 1)) .nil))))
  .nil) .nil)
  (.cons (.ite (.cmp .isIn (.loc 2) (.str [47,58])) (.cons (.ret (.tup (.cons (.tup (.cons (.loc 2) .nil)) (.cons (.bin .add (.loc 1) (.int 1)) .nil))))
  .nil) .nil)
  (.cons (.ite (.and (.cmp .isIn (.loc 2) (.str [43,45])) (.and (.cmp .eq (.loc 3) (.str [110])) (.cmp .eq (.idx (.idx (.loc 0) (.bin .add (.loc 1) (.int 2))) (.int 0)) (.str [80])))) (.cons (.ret (.tup (.cons (.tup (.cons (.str [80]) (.cons (.bin .mul (.idx (.idx (.loc 0) (.bin .add (.loc 1) (.int 1))) (.int 1)) (.ife (.cmp .eq (.loc 2) (.str [43])) (.int 1) (.neg (.int 1)))) .nil))) (.cons (.bin .add (.loc 1) (.int 3)) .nil))))
  .nil) .nil)
  (.cons (.ite (.cmp .eq (.loc 2) (.str [83])) (.cons (.ret (.ife (.inC (.loc 3) [[80],[83]]) (.tup (.cons (.tup (.cons (.bin .add (.str [83]) (.loc 3)) .nil)) (.cons (.bin .add (.loc 1) (.int 2)) .nil))) (.tup (.cons (.tup (.cons (.str [83]) .nil)) (.cons (.bin .add (.loc 1) (.int 1)) .nil)))))
  .nil) .nil)
  (.cons (.ite (.and (.cmp .eq (.loc 2) (.str [66])) (.inC (.loc 3) [[78],[90]])) (.cons (.ret (.tup (.cons (.tup (.cons (.bin .add (.str [66]) (.loc 3)) .nil)) (.cons (.bin .add (.loc 1) (.int 2)) .nil))))
  .nil) .nil)
  (.cons (.ite (.cmp .eq (.loc 2) (.str [84])) (.cons (.ite (.inC (.loc 3) [[76],[82]]) (.cons (.assign 2 (.bin .add (.loc 2) (.loc 3)))
  (.cons (.assign 1 (.bin .add (.loc 1) (.int 1)))
  .nil)) .nil)
  (.cons (.ret (.ife (.call 32 (.cons (.loc 0) (.cons (.bin .add (.loc 1) (.int 1)) (.cons (.int 1) .nil)))) (.tup (.cons (.tup (.cons (.loc 2) (.cons (.idx (.idx (.loc 0) (.bin .add (.loc 1) (.int 1))) (.int 1)) .nil))) (.cons (.bin .add (.loc 1) (.int 2)) .nil))) .none))
  .nil)) .nil)
  (.cons (.ret .none)
  .nil)))))))))⟩
def F_law_single:Fn:=⟨[95,108,97,119,95,115,105,110,103,108,101],2,[[116,111,107,101,110,115],[97,116],[99,111,117,110,116],[119,111,114,100],[102,111,117,110,100]],
  (.cons (.ite (.cmp .ne (.idx (.idx (.loc 0) (.loc 1)) (.int 0)) (.str [110])) (.cons (.ite (.inC (.idx (.idx (.loc 0) (.loc 1)) (.int 0)) [[73],[70],[69],[68],[71],[76],[65]]) (.cons (.ret (.call 34 (.cons (.loc 0) (.cons (.loc 1) .nil))))
  .nil) .nil)
  (.cons (.ret (.call 35 (.cons (.loc 0) (.cons (.loc 1) .nil))))
  .nil)) .nil)
  (.cons (.assign 2 (.idx (.idx (.loc 0) (.loc 1)) (.int 1)))
  (.cons (.assign 3 (.idx (.idx (.loc 0) (.bin .add (.loc 1) (.int 1))) (.int 0)))
  (.cons (.ite (.cmp .eq (.loc 3) (.str [80])) (.cons (.ret (.tup (.cons (.tup (.cons (.str [80]) (.cons (.loc 2) .nil))) (.cons (.bin .add (.loc 1) (.int 2)) .nil))))
  .nil) .nil)
  (.cons (.ite (.and (.cmp .gt (.loc 2) (.int 0)) (.cmp .eq (.loc 3) (.str [88]))) (.cons (.ret (.tup (.cons (.tup (.cons (.str [88]) (.cons (.loc 2) .nil))) (.cons (.bin .add (.loc 1) (.int 2)) .nil))))
  .nil) .nil)
  (.cons (.ite (.or (.cmp .eq (.loc 2) (.int 0)) (.ninC (.loc 3) [[73],[70],[69],[68],[71],[76],[65]])) (.cons (.ret .none)
  .nil) .nil)
  (.cons (.assign 4 (.call 34 (.cons (.loc 0) (.cons (.bin .add (.loc 1) (.int 1)) .nil))))
  (.cons (.ite (.and (.notNone (.loc 4)) (.cmp .gt (.loc 2) (.int 1))) (.cons (.assign 4 (.tup (.cons (.tup (.cons (.str [114,101,112,101,97,116]) (.cons (.loc 2) (.cons (.idx (.loc 4) (.int 0)) .nil)))) (.cons (.idx (.loc 4) (.int 1)) .nil))))
  .nil) .nil)
  (.cons (.ret (.loc 4))
  .nil)))))))))⟩
def F_law_read:Fn:=⟨[95,108,97,119,95,114,101,97,100],1,[[116,101,120,116],[116,111,107,101,110,115],[112,105,108,101],[97,116],[105,115,95,102,114,101,101],[105,115,95,99,111,109,109,97],[105,116,101,109,115],[119,111,114,100],[99,111,117,110,116],[102,111,117,110,100],[105,116,101,109]],
  (.cons (.assign 1 (.call 31 (.cons (.loc 0) .nil)))
  (.cons (.ite (.cmp .ne (.idx (.idx (.loc 1) (.int 0)) (.int 0)) (.str [40])) (.cons (.ret .none)
  .nil) .nil)
  (.cons (.assign 2 (.lstM (.cons (.tup (.cons (.int 1) (.cons (.lstM .nil) (.cons (.bool true) .nil)))) .nil)))
  (.cons (.assign 3 (.int 1))
  (.cons (.assign 4 (.bool true))
  (.cons (.assign 5 (.bool false))
  (.cons (.while (.bool true) (.cons (.assign 6 (.idx (.idx (.loc 2) (.neg (.int 1))) (.int 1)))
  (.cons (.assign 7 (.idx (.idx (.loc 1) (.loc 3)) (.int 0)))
  (.cons (.ite (.cmp .eq (.loc 7) (.str [44])) (.cons (.ite (.or (.loc 5) (.isNil (.loc 6))) (.cons (.ret .none)
  .nil) .nil)
  (.cons (.assign 5 (.bool true))
  (.cons (.assign 4 (.bool true))
  (.cons (.assign 3 (.bin .add (.loc 3) (.int 1)))
  (.cons .cont
  .nil))))) .nil)
  (.cons (.ite (.cmp .eq (.loc 7) (.str [41])) (.cons (.ite (.loc 5) (.cons (.ret .none)
  .nil) .nil)
  (.cons (.unpack [8,6,4] (.pop (.loc 2)))
  (.cons (.assign 3 (.bin .add (.loc 3) (.int 1)))
  (.cons (.ite (.isNil (.loc 2)) (.cons (.ret (.ife (.cmp .eq (.idx (.idx (.loc 1) (.loc 3)) (.int 0)) (.str [101,110,100])) (.seal 6) .none))
  .nil) .nil)
  (.cons (.assign 9 (.ife (.isNil (.loc 6)) .none (.tup (.cons (.tup (.cons (.str [103,114,111,117,112]) (.cons (.loc 8) (.cons (.seal 6) .nil)))) (.cons (.loc 3) .nil)))))
  .nil))))) (.cons (.ite (.or (.cmp .eq (.loc 7) (.str [40])) (.and (.cmp .eq (.loc 7) (.str [110])) (.and (.cmp .gt (.idx (.idx (.loc 1) (.loc 3)) (.int 1)) (.int 0)) (.cmp .eq (.idx (.idx (.loc 1) (.bin .add (.loc 3) (.int 1))) (.int 0)) (.str [40]))))) (.cons (.append (.loc 2) (.tup (.cons (.ife (.cmp .eq (.loc 7) (.str [110])) (.idx (.idx (.loc 1) (.loc 3)) (.int 1)) (.int 1)) (.cons (.lstM .nil) (.cons (.loc 4) .nil)))))
  (.cons (.assign 3 (.bin .add (.loc 3) (.ife (.cmp .eq (.loc 7) (.str [110])) (.int 2) (.int 1))))
  (.cons (.assign 4 (.bool true))
  (.cons (.assign 5 (.bool false))
  (.cons .cont
  .nil))))) (.cons (.assign 9 (.call 36 (.cons (.loc 1) (.cons (.loc 3) .nil))))
  .nil))
  .nil))
  (.cons (.ite (.isNone (.loc 9)) (.cons (.ret .none)
  .nil) .nil)
  (.cons (.unpack [10,3] (.loc 9))
  (.cons (.assign 6 (.idx (.idx (.loc 2) (.neg (.int 1))) (.int 1)))
  (.cons (.ite (.and (.not (.loc 4)) (.not (.call 27 (.cons (.idx (.loc 6) (.neg (.int 1))) (.cons (.loc 10) .nil))))) (.cons (.ret .none)
  .nil) .nil)
  (.cons (.append (.loc 6) (.loc 10))
  (.cons (.assign 4 (.bool false))
  (.cons (.assign 5 (.bool false))
  .nil))))))))))))
  .nil)))))))⟩
def F_law_heard:Fn:=⟨[95,108,97,119,95,104,101,97,114,100],1,[[116,101,120,116]],
  (.cons (.tryRet (.call 19 (.cons (.loc 0) .nil)))
  .nil)⟩
def F_law:Fn:=⟨[108,97,119],1,[[115,99,114,105,112,116],[112,101,110],[116,114,101,101],[116,117,114,110],[116,101,120,116]],
  (.cons (.assign 1 (.lstM (.cons (.sl (.loc 0) .none (.int 48)) (.cons (.int 0) .nil))))
  (.cons (.assignC 2 (.call 25 (.cons (.loc 1) (.cons (.int 2) .nil))) 3 (.bin .add (.int 1) (.call 23 (.cons (.loc 1) (.cons (.int 5) .nil)))))
  (.cons (.ite (.cmp .ne (.call 22 (.cons (.loc 2) .nil)) (.call 28 (.cons (.loc 2) (.cons (.str [44]) .nil)))) (.cons (.ret (.bool false))
  .nil) .nil)
  (.cons (.ite (.cmp .ne (.call 19 (.cons (.call 28 (.cons (.loc 2) (.cons (.str [44]) .nil))) .nil)) (.loc 2)) (.cons (.ret (.bool false))
  .nil) .nil)
  (.cons (.assign 4 (.call 29 (.cons (.loc 1) (.cons (.call 28 (.cons (.loc 2) (.cons (.idx (.lstF (.cons (.str []) (.cons (.str [44]) .nil))) (.call 23 (.cons (.loc 1) (.cons (.int 2) .nil)))) .nil))) .nil))))
  (.cons (.ite (.cmp .ne (.call 19 (.cons (.loc 4) .nil)) (.loc 2)) (.cons (.ret (.bool false))
  .nil) .nil)
  (.cons (.assign 4 (.call 30 (.cons (.loc 1) (.cons (.loc 4) .nil))))
  (.cons (.ret (.cmp .eq (.call 38 (.cons (.loc 4) .nil)) (.call 37 (.cons (.loc 4) .nil))))
  .nil))))))))⟩
def theFn:Nat->Option Fn
 | 0=>some F_pass_blanks
 | 1=>some F_number_at
 | 2=>some F_size_at
 | 3=>some F_is_at
 | 4=>some F_places_at
 | 5=>some F_exponent_at
 | 6=>some F_whole_edit
 | 7=>some F_real_edit
 | 8=>some F_value_edit
 | 9=>some F_quoted_at
 | 10=>some F_counted_text
 | 11=>some F_scale_at
 | 12=>some F_control_at
 | 13=>some F_group_at
 | 14=>some F_counted_at
 | 15=>some F_item_at
 | 16=>some F_may_join
 | 17=>some F_items_at
 | 18=>some F_format_prefix
 | 19=>some F_parse_format
 | 20=>some F_write_tail
 | 21=>some F_write_item
 | 22=>some F_write_format
 | 23=>some F_law_draw
 | 24=>some F_law_value
 | 25=>some F_law_item
 | 26=>some F_law_text
 | 27=>some F_law_is_loose
 | 28=>some F_law_whole
 | 29=>some F_law_spaced
 | 30=>some F_law_bent
 | 31=>some F_law_tokens
 | 32=>some F_law_number
 | 33=>some F_law_reals
 | 34=>some F_law_valued
 | 35=>some F_law_control
 | 36=>some F_law_single
 | 37=>some F_law_read
 | 38=>some F_law_heard
 | 39=>some F_law
 | _=>none
namespace P
abbrev cF := callF theFn
theorem DT {p:Prop} [Decidable p] (h:p) : decide p=true := decide_eq_true h
theorem DF {p:Prop} [Decidable p] (h:¬p) : decide p=false := decide_eq_false h
theorem LX {α:Type} (a b c:List α) : a++b++c=a++(b++c) := List.append_assoc a b c
theorem BA (b:Bool) : (b&&b)=b := Bool.and_self b
theorem BP : (!false)=true := rfl
theorem BQ : (!true)=false := rfl
theorem BR (b:Bool) : (false&&b)=false := rfl
theorem BS (b:Bool) : (true&&b)=b := rfl
theorem BT (b:Bool) : (false||b)=b := rfl
theorem BU (b:Bool) : (true||b)=true := rfl
theorem BV (b:Bool) : (b&&true)=b := Bool.and_true b
theorem BW (b:Bool) : (b&&false)=false := Bool.and_false b
theorem LC {α:Type} (a:α) (l:List α) : (a::l).length=l.length+1 := rfl
theorem LN {α:Type} : ([]:List α).length=0 := rfl
theorem BF : (false=true)=False := Bool.false_eq_true
theorem LT {α:Type} {l:List α} : l.take l.length=l := List.take_length
theorem OI {α:Type} (a b:α) : (some a=some b)=(a=b) := Option.some.injEq a b
theorem BN {α:Type} [BEq α] [LawfulBEq α] {a b:α} : (a==b)=false ↔ a≠b := beq_eq_false_iff_ne
theorem LA {α:Type} (a b:List α) : (a++b).length=a.length+b.length := List.length_append
theorem MC {α:Type} (y:α) {a:α} {l:List α} (h:a∈l) : a∈y::l := List.mem_cons_of_mem y h
theorem MS {α:Type} {a:α} {l:List α} : a∈a::l := List.mem_cons_self ..
theorem MI {α:Type} {a b:α} {l:List α} : a∈b::l ↔ a=b∨a∈l := List.mem_cons
theorem ZA {α : Type}(a : α) (l:List α):(a::l)[0]?=some a:=rfl
theorem ZB {α : Type}(a : α) (l:List α) (i:Nat):(a::l)[i + 1]?=l[i]?:=rfl
theorem ZC {α : Type}(a b : α) (l:List α):(a::l).set 0 b=b::l:=rfl
theorem ZD {α : Type}(a b : α) (l:List α) (i:Nat):(a::l).set (i + 1) b=a::l.set i b:=rfl
theorem ZE {α β : Type}(f : α->β) (a : α):(some a).map f=some (f a):=rfl
theorem ZF {α β : Type}(f : α->β):(none:Option α).map f=none:=rfl
theorem ZG {α β : Type}(f : α->β) (a : α) (l:List α):(a::l).map f=f a::l.map f:=rfl
theorem ZH {α β : Type}(f : α->β):([]:List α).map f=[]:=rfl
theorem ZI {α : Type}(a : α) (l m:List α):(a::l)++m=a::(l++m):=rfl
theorem ZJ {α : Type}(l:List α):[]++l=l:=rfl
def Suf (t u:Txt):Prop:=∃ p,t=p++u
def pos (t u:Txt):Nat:=t.length - u.length
theorem Suf.rfl' (t:Txt):Suf t t:=⟨[],rfl⟩
theorem Suf.tail {t:Txt}{c:Nat}{r:Txt}(h:Suf t (c::r)):Suf t r:=by
 obtain⟨p,rfl⟩:=h;exact⟨p++[c],by simp⟩
theorem Suf.len {t u:Txt}(h:Suf t u):u.length<=t.length:=by
 obtain⟨p,rfl⟩:=h;simp
theorem Suf.app {t u:Txt}{p:Txt}(h:Suf t (p++u)):Suf t u:=by
 obtain⟨q,rfl⟩:=h;exact⟨q++p,by simp⟩
theorem Suf.trans {t u v:Txt}(h:Suf t u) (k:Suf u v):Suf t v:=by
 obtain⟨q,rfl⟩:=k;exact h.app
theorem pos_self (t:Txt):pos t t=0:=by simp[pos]
theorem pos_nil (t:Txt):pos t []=t.length:=by simp[pos]
theorem pos_tail {t:Txt}{c:Nat}{r:Txt}(h:Suf t (c::r)):pos t r=pos t (c::r) + 1:=by
 have:=h.len;simp only[LC] at this;simp only[pos,LC];omega
theorem pos_lt {t:Txt}{c:Nat}{r:Txt}(h:Suf t (c::r)):pos t (c::r) < t.length:=by
 have:=h.len;simp only[LC] at this;simp only[pos,LC];omega
theorem pos_le {t u:Txt}:pos t u<=t.length:=by simp only[pos];omega
theorem drop_pos {t u:Txt}(h:Suf t u):t.drop (pos t u)=u:=by
 obtain⟨p,rfl⟩:=h;simp[pos]
theorem get_pos {t:Txt}{c:Nat}{r:Txt}(h:Suf t (c::r)):t[pos t (c::r)]?=some c:=by
 have:=drop_pos h;rw[<- List.head?_drop,this];rfl
section
variable {t u:Txt}{H:Hp}
theorem e_lt (h:Suf t u):((pos t u:Int) < (t.length:Int))↔u≠[]:=by
 cases u with
 | nil=>simp[pos_nil]
 | cons c r=>have:=pos_lt h;simp;omega
theorem e_idx {c:Nat}{r:Txt}(h:Suf t (c::r)):idxV H (.str t) (.int (pos t (c::r)))=some (.str [c]):=by
 simp only[idxV,show (0:Int)<=((pos t (c::r):Nat):Int) by omega,if_true,Int.toNat_natCast,get_pos h,ZE]
theorem bound_nat' {n d k:Nat}(hk:k<=1000000):bound n d (.int (k:Int))=some (min k n):=by
 have hc:(capL:Int)=1048576:=rfl;simp only[bound,show (-(capL:Int))<=(k:Int)/\(k:Int)<=capL by omega,if_true,and_self,clampI,show ¬ ((k:Int) < 0) by omega,if_false,Int.toNat_natCast]
theorem e_sl {a b:Nat}(ha:a<=1000000) (hb:b<=1000000):slV (.str t) (.int (a:Int)) (.int (b:Int))=some (.str ((t.take b).drop a)):=by
 simp only[slV,cut,bound_nat' ha,bound_nat' hb,ZE]
 congr 2
 rw[show t.take (min b t.length)=t.take b by rw[List.take_eq_take_iff];omega];rcases Nat.le_total a t.length with q | q
 ·rw[Nat.min_eq_left q]
 ·rw[Nat.min_eq_right q,List.drop_of_length_le (by simp;omega),List.drop_of_length_le (by simp;omega)]
theorem e_sl1 (h:Suf t u) (ht:t.length<=100000):slV (.str t) (.int (pos t u)) (.int ((pos t u:Nat) + 1))=some (.str (u.take 1)):=by
 have:=@pos_le t u;have e:=e_sl (t:=t) (a:=pos t u) (b:=pos t u + 1) (by omega) (by omega);rw[show (((pos t u + 1:Nat)):Int)=(pos t u:Int) + 1 by omega] at e;rw[e,List.drop_take,drop_pos h,show pos t u + 1 - pos t u=1 by omega]
end
theorem callF_succ (N n f:Nat) (args:List V) (H:Hp){fn:Fn}(h:theFn f=some fn):cF N (n + 1) f args H=runF (cF N n) N fn args H:=by
 simp only[cF,callF,h]
theorem whileL_succ (c:Loc->Hp->Option (Res V)) (body:Loc->Hp->Option RS) (n:Nat) (l:Loc) (H:Hp):whileL c body (n + 1) l H=EF (c l H) fun v H=>
  match v with
  | .bool false=>some (.next l H)
  | .bool true=>
   match body l H with
   | some (.next l H)=>whileL c body n l H
   | some (.cont l H)=>whileL c body n l H
   | r=>r
  | _=>.none:=rfl
def skip:Txt->Txt
 | []=>[]
 | c::r=>if c=32 then skip r else c::r
theorem skip_suf:∀ u:Txt,Suf u (skip u)
 | []=>.rfl' _
 | c::r=>by
  unfold skip;split
  ·obtain⟨p,hp⟩:=skip_suf r;exact⟨c::p,by rw[ZI,<- hp]⟩
  ·exact .rfl' _
section
variable {c:Loc->Hp->Option (Res V)}{body:Loc->Hp->Option RS}{n:Nat}{l l':Loc}{H H' H'':Hp}
theorem wh_next {r:Option RS}(h1:c l H=some (.ok (.bool true) H')) (h2:body l H'=some (.next l' H'')) (h3:whileL c body n l' H''=r):whileL c body (n + 1) l H=r:=by
 rw[whileL_succ,h1];simp only[EF,h2];exact h3
theorem wh_cont {r:Option RS}(h1:c l H=some (.ok (.bool true) H')) (h2:body l H'=some (.cont l' H'')) (h3:whileL c body n l' H''=r):whileL c body (n + 1) l H=r:=by
 rw[whileL_succ,h1];simp only[EF,h2];exact h3
theorem wh_ret {v:V}(h1:c l H=some (.ok (.bool true) H')) (h2:body l H'=some (.ret v H'')):whileL c body (n + 1) l H=some (.ret v H''):=by
 rw[whileL_succ,h1];simp only[EF,h2]
theorem wh_exc (h1:c l H=some (.ok (.bool true) H')) (h2:body l H'=some (.exc H'')):whileL c body (n + 1) l H=some (.exc H''):=by
 rw[whileL_succ,h1];simp only[EF,h2]
theorem wh_end (h1:c l H=some (.ok (.bool false) H')):whileL c body (n + 1) l H=some (.next l H'):=by
 rw[whileL_succ,h1];simp only[EF]
end
theorem beq1 (a b:Nat):(([a]:List Nat)==[b])=(a==b):=by simp
theorem pl_str (n:Nat) (s:Txt):V.plain n (.str s)=true:=by cases n<;>rfl
theorem pl_int (n:Nat) (s:Int):V.plain n (.int s)=true:=by cases n<;>rfl
theorem pl_none (n:Nat):V.plain n .none=true:=by cases n<;>rfl
theorem bq_str (a b:Txt):(V.str a).beq (.str b)=(a==b):=by simp[V.beq]
section
variable {t:Txt}{call:Nat->List V->Hp->Option (Res V)}{b N:Nat}{H:Hp}
def wBlankC:E:=.and (.cmp .lt (.loc 1) (.len (.loc 0))) (.cmp .eq (.idx (.loc 0) (.loc 1)) (.str [32]))
def wBlankB:Ss:=.cons (.aug 1 (.int 1)) .nil
theorem l_blanks:∀ (u:Txt) (M:Nat),Suf t u->u.length < M->
  whileL (fun l H=>EC call b l wBlankC H) (fun l H=>EA call N b wBlankB l H) M [some (.str t),some (.int (pos t u))] H=some (.next [some (.str t),some (.int (pos t (skip u)))] H)
 | [],M + 1,h,hM=>by
  refine wh_end ?_;simp only[wBlankC,EA,EB,EC,ED,EG,EF,EH,ZA,ZB,ZC,ZD,ZE,ZF,ZG,ZH,ZI,ZJ,lenV,cmpV,pos_nil,skip,Int.lt_irrefl,decide_false]
 | c::r,M + 1,h,hM=>by
  have hl:((pos t (c::r):Nat):Int) < (t.length:Int):=by have:=pos_lt h;omega
  by_cases hc:c=32
  ·subst hc;refine wh_next (H':=H) ?_ ?_ (l_blanks r M h.tail (by simp at hM;omega))<;>simp only[wBlankC,wBlankB,EA,EB,EC,ED,EG,EF,EH,ZA,ZB,ZC,ZD,ZE,ZF,ZG,ZH,ZI,ZJ,lenV,cmpV,e_idx h,hl,decide_true,pl_str,bq_str,beq1,beq_self_eq_true,BA,if_true,pos_tail h,Int.natCast_add,Int.natCast_one,skip]
  ·rw[show skip (c::r)=c::r by simp[skip,hc]];refine wh_end ?_;simp only[wBlankC,EA,EB,EC,ED,EG,EF,EH,ZA,ZB,ZC,ZD,ZE,ZF,ZG,ZH,ZI,ZJ,lenV,cmpV,e_idx h,hl,decide_true,pl_str,bq_str,beq1,BA,if_true,BN.mpr hc]
theorem run_ret {fn:Fn}{args:List V}{v:V}{H':Hp}(h0:args.length=fn.params) (h:EA call N H.length fn.body (args.map some++List.replicate (fn.vars.length - fn.params) none) H=some (.ret v H')) (hp:v.pure=true) (ht:H'.take H.length=H) :
  runF call N fn args H=some (.ok v H):=by
 simp only[runF,h0,if_true,h,hp,ht]
theorem run_exc {fn:Fn}{args:List V}{H':Hp}(h0:args.length=fn.params) (h:EA call N H.length fn.body (args.map some++List.replicate (fn.vars.length - fn.params) none) H=some (.exc H')) (ht:H'.take H.length=H) :
  runF call N fn args H=some (.exc H):=by
 simp only[runF,h0,if_true,h,ht]
theorem ss_next {s:S}{r:Ss}{l l':Loc}{H':Hp}{x:Option RS}(h:EB call N b s l H=some (.next l' H')) (h2:EA call N b r l' H'=x):EA call N b (.cons s r) l H=x:=by
 rw[EA,h];exact h2
theorem ss_ret {s:S}{r:Ss}{l:Loc}{v:V}{H':Hp}(h:EB call N b s l H=some (.ret v H')):EA call N b (.cons s r) l H=some (.ret v H'):=by
 rw[EA,h]
theorem ss_exc {s:S}{r:Ss}{l:Loc}{H':Hp}(h:EB call N b s l H=some (.exc H')):EA call N b (.cons s r) l H=some (.exc H'):=by
 rw[EA,h]
theorem ss_cont {s:S}{r:Ss}{l l':Loc}{H':Hp}(h:EB call N b s l H=some (.cont l' H')):EA call N b (.cons s r) l H=some (.cont l' H'):=by
 rw[EA,h]
theorem s_pass_blanks {u:Txt}{n:Nat}(h:Suf t u) (hN:u.length < N) :
  cF N (n + 1) 0 [.str t,.int (pos t u)] H=some (.ok (.int (pos t (skip u))) H):=by
 rw[callF_succ N n 0 _ _ rfl];refine run_ret rfl (ss_next (l':=[some (.str t),some (.int (pos t (skip u)))]) (H':=H) ?_ ?_) rfl LT
 ·rw[EB];exact l_blanks u N h hN
 ·simp only[EA,EB,EC,ED,EG,EF,EH,ZA,ZB,ZC,ZD,ZE,ZF,ZG,ZH,ZI,ZJ]
theorem s_is_at {u:Txt}{n:Nat}(h:Suf t u) (ht:t.length<=100000) (s:Txt) :
  cF N (n + 1) 3 [.str t,.int (pos t u),.str s] H=some (.ok (.bool (u.take 1==s)) H):=by
 rw[callF_succ N n 3 _ _ rfl];refine run_ret (H':=H) rfl ?_ rfl LT;have:=e_sl1 h ht;simp only[F_is_at,LC,LN,EA,EB,EC,ED,EG,EF,EH,ZA,ZB,ZC,ZD,ZE,ZF,ZG,ZH,ZI,ZJ,binV,cmpV,this,pl_str,BA,if_true,bq_str]
end
inductive It where
 | nums (w:Txt) (ps:List (Option Int))
 | text (s:Txt)
 | rep (k:Int) (i:It)
 | grp (k:Int) (l:List It)
def pV:Option Int->V
 | .none=>.none
 | some i=>.int i
mutual
def It.toV:It->V
 | .nums w ps=>.tup (.str w::ps.map pV)
 | .text s=>.tup [.str [72],.str s]
 | .rep k i=>.tup [.str [114,101,112,101,97,116],.int k,i.toV]
 | .grp k l=>.tup [.str [103,114,111,117,112],.int k,.lst (toVs l)]
def toVs:List It->List V
 | []=>[]
 | i::l=>i.toV::toVs l
end
mutual
theorem It.pure:∀ i:It,i.toV.pure=true
 | .nums w ps=>by
  have:∀ ps:List (Option Int),V.pures (ps.map pV)=true:=by
   intro ps
   induction ps with
   | nil=>rfl
   | cons p ps ih=>cases p<;>simpa [V.pures,V.pure,pV] using ih
  simp[It.toV,V.pure,V.pures,this]
 | .text s=>rfl
 | .rep k i=>by simp[It.toV,V.pure,V.pures,It.pure i]
 | .grp k l=>by simp[It.toV,V.pure,V.pures,Its.pure l]
theorem Its.pure:∀ l:List It,V.pures (toVs l)=true
 | []=>rfl
 | i::l=>by simp[toVs,V.pures,It.pure i,Its.pure l]
end
theorem toVs_append:∀ l m:List It,toVs (l++m)=toVs l++toVs m
 | [],m=>rfl
 | i::l,m=>by simp[toVs,toVs_append l m]
theorem toVs_len:∀ l:List It,(toVs l).length=l.length
 | []=>rfl
 | i::l=>by simp[toVs,toVs_len l]
theorem toVs_map:∀ l:List It,toVs l=l.map It.toV
 | []=>rfl
 | i::l=>by simp[toVs,toVs_map l]
def isDig (c:Nat):Bool:=48<=c&&c<=57
def isVal (c:Nat):Bool:=c=73||c=70||c=69||c=68||c=71||c=76||c=65
def numGo (v:Nat):Txt->Option (Nat × Txt)
 | []=>some (v,[])
 | c::r=>if c=32 then numGo v r else if isDig c then (if 10 * v + (c - 48) > 9999 then none else numGo (10 * v + (c - 48)) r) else some (v,c::r)
def numC (u:Txt):Option (Option Nat × Txt):=
 match skip u with
 | []=>some (none,[])
 | c::r=>if isDig c then (numGo (c - 48) r).map fun p=>(some p.1,p.2) else some (none,c::r)
def sizeC (least:Nat) (u:Txt):Option (Nat × Txt):=
 match numC u with
 | some (some v,r)=>if v < least then none else some (v,r)
 | _=>none
def aft (c:Nat):Txt->Option Txt
 | []=>none
 | d::r=>if d=c then some r else none
def wholeC (u:Txt):Option (It × Txt):=
 match sizeC 1 u with
 | none=>none
 | some (w,r)=>(match aft 46 r with
  | some r1=>(match sizeC 0 r1 with
   | none=>none
   | some (d,r2)=>if w < d then none else some (.nums [73] [some (w:Int),some (d:Int)],r2))
  | none=>some (.nums [73] [some (w:Int),none],r))
def realC (letter:Nat) (u:Txt):Option (It × Txt):=
 match sizeC 1 u with
 | none=>none
 | some (w,r)=>(match aft 46 r with
  | none=>none
  | some r1=>(match sizeC 0 r1 with
   | none=>none
   | some (d,r2)=>if letter=70\/letter=68 then some (.nums [letter] [some (w:Int),some (d:Int)],r2) else
    (match aft 69 r2 with
    | none=>some (.nums [letter] [some (w:Int),some (d:Int),none],r2)
    | some r3=>(match sizeC 1 r3 with
     | none=>none
     | some (e,r4)=>some (.nums [letter] [some (w:Int),some (d:Int),some (e:Int)],r4)))))
def valueC (letter:Nat) (u:Txt):Option (It × Txt):=
 if letter=73 then wholeC u else
 if letter=76 then (sizeC 1 u).map fun p=>(.nums [76] [some (p.1:Int)],p.2) else
 if letter=65 then (match numC u with
  | none=>none
  | some (some v,r)=>if v=0 then none else some (.nums [65] [some (v:Int)],r)
  | some (none,r)=>some (.nums [65] [none],r)) else
 realC letter u
def quotedGo (out:Txt):Txt->Option (It × Txt)
 | []=>none
 | c::r=>if c≠39 then quotedGo (out++[c]) r else
  match r with
  | []=>if out=[] then none else some (.text out,[])
  | d::r'=>if d=39 then quotedGo (out++[39]) r' else if out=[] then none else some (.text out,d::r')
def countedText (u:Txt) (k:Nat):Option (It × Txt):=if k<=u.length then some (.text (u.take k),u.drop k) else none
def scaleC (sign:Nat) (u:Txt):Option (It × Txt):=
 match sizeC 0 u with
 | none=>none
 | some (v,r)=>(match aft 80 r with
  | none=>none
  | some r1=>some (.nums [80] [some (if sign=45 then -(v:Int) else v)],r1))
def tabC (w:Txt) (u:Txt):Option (It × Txt):=(sizeC 1 u).map fun p=>(.nums w [some (p.1:Int)],p.2)
def controlC (c:Nat) (r:Txt):Option (It × Txt):=
 if c=47\/c=58 then some (.nums [c] [],r) else
 if c=83 then (match skip r with
  | d::r'=>if d=80\/d=83 then some (.nums [83,d] [],r') else some (.nums [83] [],d::r')
  | []=>some (.nums [83] [],[])) else
 if c=66 then (match skip r with
  | d::r'=>if d=78\/d=90 then some (.nums [66,d] [],r') else none
  | []=>none) else
 if c=84 then (match skip r with
  | d::r'=>if d=76\/d=82 then tabC [84,d] r' else tabC [84] (d::r')
  | []=>none) else none
def countedC (g:Nat->Txt->Option (It × Txt)) (u:Txt):Option (It × Txt):=
 match numC u with
 | some (some k,r)=>(match r with
  | []=>none
  | c::r'=>if c=80 then some (.nums [80] [some (k:Int)],r') else
   if k=0 then none else
   if c=88 then some (.nums [88] [some (k:Int)],r') else
   if c=72 then countedText r' k else
   if c=40 then g k r' else
   if isVal c then (valueC c r').map fun p=>(if 1 < k then .rep k p.1 else p.1,p.2) else none)
 | _=>none
def itemC (g:Nat->Txt->Option (It × Txt)):Txt->Option (It × Txt)
 | []=>none
 | c::r=>if isDig c then countedC g (c::r) else if c=39 then quotedGo [] r else if c=43\/c=45 then scaleC c r else
  if c=40 then g 1 r else if isVal c then valueC c r else controlC c r
def It.word:It->Txt
 | .nums w _=>w
 | .text _=>[72]
 | .rep _ _=>[114,101,112,101,97,116]
 | .grp _ _=>[103,114,111,117,112]
def It.kind:It->Txt
 | .rep _ i=>i.word
 | i=>i.word
def loose (a b:It):Bool:=a.word=[47]||a.word=[58]||b.word=[47]||b.word=[58]||(a.word=[80]&&(b.kind=[70]||b.kind=[69]||b.kind=[68]||b.kind=[71]))
def looseLast (acc:List It) (i:It):Bool:=match acc.getLast? with
 | some a=>loose a i
 | none=>true
def itemsC:Nat->Nat->List It->Bool->Txt->Option (List It × Txt)
 | 0,_,_,_,_=>none
 | f + 1,lim,acc,after,u=>
  match skip u with
  | []=>none
  | c::r=>
   if c=44\/c=41 then
    if after||(c=44&&acc.isEmpty) then none else
    if c=41 then some (acc,r) else itemsC f lim acc true r
   else
    match itemC (fun k u=>match lim with
     | 0=>none
     | m + 1=>match itemsC f m [] false u with
      | some (i::l,r)=>some (.grp k (i::l),r)
      | _=>none) (c::r) with
    | none=>none
    | some (i,u')=>if !after&&!looseLast acc i then none else itemsC f lim (acc++[i]) false u'
def parseC (f:Nat) (u:Txt):Option (List It):=
 match skip u with
 | c::r=>if c=40 then (match itemsC f 10 [] false r with
  | some (l,r')=>if skip r'=[] then some l else none
  | none=>none) else none
 | []=>none
theorem numGo_suf:∀ (u:Txt) (v:Nat){w:Nat}{r:Txt},numGo v u=some (w,r)->Suf u r
 | [],v,w,r,h=>by simp[numGo] at h;rw[<- h.2];exact .rfl' _
 | c::u,v,w,r,h=>by
  unfold numGo at h;have up:∀ {r:Txt},Suf u r->Suf (c::u) r:=fun ⟨p,hp⟩=>⟨c::p,by rw[hp];rfl⟩
  split at h
  ·exact up (numGo_suf u v h)
  ·split at h
   ·split at h
    ·cases h
    ·exact up (numGo_suf u _ h)
   ·simp at h;rw[<- h.2];exact .rfl' _
theorem up {u r:Txt}{c:Nat}(h:Suf u r):Suf (c::u) r:=by
 obtain⟨p,hp⟩:=h;exact⟨c::p,by rw[hp];rfl⟩
theorem numC_suf {u r:Txt}{v:Option Nat}(h:numC u=some (v,r)):Suf u r:=by
 have hs:=skip_suf u;unfold numC at h;split at h
 ·rename_i e;simp at h;rw[h.2,<- e];exact hs
 ·rename_i c r' e;split at h
  ·rw[Option.map_eq_some_iff] at h;obtain⟨⟨w,q⟩,h1,h2⟩:=h;simp at h2;rw[<- h2.2];exact (e ▸ hs).trans (up (numGo_suf _ _ h1))
  ·simp at h;rw[<- h.2,<- e];exact hs
theorem sizeC_suf {k:Nat}{u r:Txt}{v:Nat}(h:sizeC k u=some (v,r)):Suf u r:=by
 unfold sizeC at h;split at h
 ·rename_i w r' e;split at h
  ·cases h
  ·simp at h;rw[<- h.2];exact numC_suf e
 ·cases h
theorem aft_eq {c:Nat}{r r':Txt}(h:aft c r=some r'):r=c::r':=by
 cases r with
 | nil=>cases h
 | cons d r=>
  simp only[aft] at h;split at h
  ·rename_i e;cases h;rw[e]
  ·cases h
theorem aft_suf {c:Nat}{u r r':Txt}(s:Suf u r) (h:aft c r=some r'):Suf u r':=by
 rw[aft_eq h] at s;exact s.tail
theorem aft_take {c:Nat}{r r':Txt}(h:aft c r=some r'):(r.take 1==[c])=true:=by
 rw[aft_eq h];simp
theorem aft_none {c:Nat}{r:Txt}(h:aft c r=none):(r.take 1==[c])=false:=by
 cases r with
 | nil=>rfl
 | cons d r=>
  simp only[aft] at h;split at h
  ·cases h
  ·rename_i e;simpa using e
theorem wholeC_suf {u r:Txt}{i:It}(h:wholeC u=some (i,r)):Suf u r:=by
 unfold wholeC at h;split at h
 ·cases h
 ·rename_i w r0 e;split at h
  ·rename_i r1 ea;split at h
   ·cases h
   ·rename_i d r2 e2;split at h
    ·cases h
    ·simp at h;rw[<- h.2];exact (aft_suf (sizeC_suf e) ea).trans (sizeC_suf e2)
  ·simp at h;rw[<- h.2];exact sizeC_suf e
theorem realC_suf {k:Nat}{u r:Txt}{i:It}(h:realC k u=some (i,r)):Suf u r:=by
 unfold realC at h;split at h
 ·cases h
 rename_i w r0 e;split at h
 ·cases h
 rename_i r1 ea;split at h
 ·cases h
 rename_i d r2 e2;have s2:=(aft_suf (sizeC_suf e) ea).trans (sizeC_suf e2);split at h
 ·simp at h;rw[<- h.2];exact s2
 split at h
 ·simp at h;rw[<- h.2];exact s2
 rename_i r3 eb;split at h
 ·cases h
 ·rename_i e r4 e4;simp at h;rw[<- h.2];exact (aft_suf s2 eb).trans (sizeC_suf e4)
theorem valueC_suf {k:Nat}{u r:Txt}{i:It}(h:valueC k u=some (i,r)):Suf u r:=by
 unfold valueC at h;split at h
 ·exact wholeC_suf h
 split at h
 ·rw[Option.map_eq_some_iff] at h;obtain⟨⟨w,q⟩,h1,h2⟩:=h;simp at h2;rw[<- h2.2];exact sizeC_suf h1
 split at h
 ·split at h
  ·cases h
  ·rename_i v r1 e;split at h
   ·cases h
   ·simp at h;rw[<- h.2];exact numC_suf e
  ·rename_i r1 e;simp at h;rw[<- h.2];exact numC_suf e
 ·exact realC_suf h
theorem quotedGo_suf:∀ (m:Nat) (u:Txt) (out:Txt){r:Txt}{i:It},u.length<=m->quotedGo out u=some (i,r)->Suf u r
 | _,[],out,r,i,_,h=>by simp[quotedGo] at h
 | m + 1,c::u,out,r,i,hm,h=>by
  simp only[LC] at hm;unfold quotedGo at h;split at h
  ·exact up (quotedGo_suf m u _ (by omega) h)
  ·split at h
   ·split at h
    ·cases h
    ·simp at h;rw[h.2];exact up (.rfl' _)
   ·rename_i d r';simp only[LC] at hm;split at h
    ·exact up (up (quotedGo_suf m r' _ (by omega) h))
    ·split at h
     ·cases h
     ·simp at h;rw[<- h.2];exact up (.rfl' _)
theorem countedText_suf {k:Nat}{u r:Txt}{i:It}(h:countedText u k=some (i,r)):Suf u r:=by
 unfold countedText at h;split at h
 ·simp at h;rw[<- h.2];exact⟨u.take k,(List.take_append_drop k u).symm⟩
 ·cases h
theorem scaleC_suf {k:Nat}{u r:Txt}{i:It}(h:scaleC k u=some (i,r)):Suf u r:=by
 unfold scaleC at h;split at h
 ·cases h
 rename_i v r0 e;split at h
 ·cases h
 rename_i r1 ea;simp at h;rw[<- h.2];exact aft_suf (sizeC_suf e) ea
theorem tabC_suf {w:Txt}{u r:Txt}{i:It}(h:tabC w u=some (i,r)):Suf u r:=by
 unfold tabC at h;rw[Option.map_eq_some_iff] at h;obtain⟨⟨k,q⟩,h1,h2⟩:=h;simp at h2;rw[<- h2.2];exact sizeC_suf h1
theorem controlC_suf {k:Nat}{u r:Txt}{i:It}(h:controlC k u=some (i,r)):Suf u r:=by
 have hs:=skip_suf u;unfold controlC at h;split at h
 ·simp at h;rw[<- h.2];exact .rfl' _
 split at h
 ·split at h
  ·rename_i d r' e;rw[e] at hs;split at h
   ·simp at h;rw[<- h.2];exact hs.tail
   ·simp at h;rw[<- h.2];exact hs
  ·rename_i e;rw[e] at hs;simp at h;rw[h.2];exact hs
 split at h
 ·split at h
  ·rename_i d r' e;rw[e] at hs;split at h
   ·simp at h;rw[<- h.2];exact hs.tail
   ·cases h
  ·cases h
 split at h
 ·split at h
  ·rename_i d r' e;rw[e] at hs;split at h
   ·exact hs.tail.trans (tabC_suf h)
   ·exact hs.trans (tabC_suf h)
  ·cases h
 ·cases h
theorem numC_dig {c:Nat}{r:Txt}(h:isDig c=true):numC (c::r)=(numGo (c - 48) r).map fun p=>(some p.1,p.2):=by
 have hc:c≠32:=by intro q;subst q;simp[isDig] at h
 unfold numC;rw[show skip (c::r)=c::r by simp[skip,hc]];simp[h]
theorem itemC_suf {g:Nat->Txt->Option (It × Txt)}(hg:∀ k u i r,g k u=some (i,r)->Suf u r){c:Nat}{u r:Txt}{i:It}(h:itemC g (c::u)=some (i,r)):Suf u r:=by
 simp only[itemC] at h;split at h
 ·rename_i hd;unfold countedC at h;rw[numC_dig hd] at h;cases hn:numGo (c - 48) u with
  | none=>rw[hn] at h;simp at h
  | some p=>
   obtain⟨k,r1⟩:=p;have s1:=numGo_suf _ _ hn;rw[hn] at h;simp only[ZE] at h;split at h
   ·cases h
   ·rename_i c1 r1';have s2:=s1.tail;split at h
    ·simp at h;rw[<- h.2];exact s2
    split at h
    ·cases h
    split at h
    ·simp at h;rw[<- h.2];exact s2
    split at h
    ·exact s2.trans (countedText_suf h)
    split at h
    ·exact s2.trans (hg _ _ _ _ h)
    split at h
    ·rw[Option.map_eq_some_iff] at h;obtain⟨⟨k,q⟩,h1,h2⟩:=h;simp at h2;rw[<- h2.2];exact s2.trans (valueC_suf h1)
    ·cases h
 split at h
 ·exact quotedGo_suf _ _ _ (Nat.le_refl _) h
 split at h
 ·exact scaleC_suf h
 split at h
 ·exact hg _ _ _ _ h
 split at h
 ·exact valueC_suf h
 ·exact controlC_suf h
def grpC (f lim:Nat) (k:Nat) (u:Txt):Option (It × Txt):=match lim with
 | 0=>none
 | m + 1=>match itemsC f m [] false u with
  | some (i::l,r)=>some (.grp k (i::l),r)
  | _=>none
theorem itemsC_succ (f lim:Nat) (acc:List It) (after:Bool) (u:Txt):itemsC (f + 1) lim acc after u =
  match skip u with
  | []=>none
  | c::r=>
   if c=44\/c=41 then
    if after||(c=44&&acc.isEmpty) then none else
    if c=41 then some (acc,r) else itemsC f lim acc true r
   else
    match itemC (grpC f lim) (c::r) with
    | none=>none
    | some (i,u')=>if !after&&!looseLast acc i then none else itemsC f lim (acc++[i]) false u':=rfl
theorem itemsC_suf:∀ (f lim:Nat) (acc:List It) (after:Bool) (u:Txt){l:List It}{r:Txt},itemsC f lim acc after u=some (l,r)->Suf u (41::r)
 | 0,_,_,_,_,l,r,h=>by simp[itemsC] at h
 | f + 1,lim,acc,after,u,l,r,h=>by
  have hs:=skip_suf u;have hg:∀ k u i r,grpC f lim k u=some (i,r)->Suf u r:=fun k u i r h=>by
   unfold grpC at h;split at h
   ·cases h
   ·split at h
    ·rename_i e;simp at h;rw[<- h.2];exact (itemsC_suf f _ _ _ _ e).tail
    ·cases h
  rw[itemsC_succ] at h;split at h
  ·cases h
  ·rename_i c u1 e;rw[e] at hs;split at h
   ·rename_i hc;split at h
    ·cases h
    split at h
    ·rename_i hc2;simp at h;rw[<- h.2,<- hc2];exact hs
    ·exact hs.tail.trans (itemsC_suf f _ _ _ _ h)
   ·split at h
    ·cases h
    ·rename_i i u2 e2;split at h
     ·cases h
     ·exact (hs.tail.trans (itemC_suf hg e2)).trans (itemsC_suf f _ _ _ _ h)
theorem grpC_suf {f lim k:Nat}{u r:Txt}{i:It}(h:grpC f lim k u=some (i,r)):Suf u (41::r):=by
 unfold grpC at h;split at h
 ·cases h
 ·split at h
  ·rename_i e;simp at h;rw[<- h.2];exact itemsC_suf f _ _ _ _ e
  ·cases h
def optN:Option Nat->V
 | none=>.none
 | some k=>.int (k:Int)
def rsN (t:Txt) (H:Hp):Option (Option Nat × Txt)->Option (Res V)
 | none=>some (.exc H)
 | some (v,r)=>some (.ok (.tup [optN v,.int (pos t r)]) H)
def rsS (t:Txt) (H:Hp):Option (Nat × Txt)->Option (Res V)
 | none=>some (.exc H)
 | some (v,r)=>some (.ok (.tup [.int (v:Int),.int (pos t r)]) H)
def rsI (t:Txt) (H:Hp):Option (It × Txt)->Option (Res V)
 | none=>some (.exc H)
 | some (i,r)=>some (.ok (.tup [i.toV,.int (pos t r)]) H)
theorem sub_dig (c:Nat):isSub [c] [48,49,50,51,52,53,54,55,56,57]=isDig c:=by
 rw[Bool.eq_iff_iff];simp[isSub,isPre,isDig];omega
theorem find_dig {c:Nat}(h:isDig c=true):findT c [48,49,50,51,52,53,54,55,56,57] 0=((c - 48:Nat):Int):=by
 simp only[isDig,Bool.and_eq_true,decide_eq_true_eq] at h;obtain⟨h1,h2⟩:=h;have:c=48\/c=49\/c=50\/c=51\/c=52\/c=53\/c=54\/c=55\/c=56\/c=57:=by omega
 rcases this with rfl | rfl | rfl | rfl | rfl | rfl | rfl | rfl | rfl | rfl<;>rfl
theorem skip_skip:∀ u:Txt,skip (skip u)=skip u
 | []=>rfl
 | c::r=>by
  by_cases h:c=32
  ·simp only[skip,h,if_true];exact skip_skip r
  ·simp[skip,h]
theorem numGo_skip (v:Nat):∀ u:Txt,numGo v (skip u)=numGo v u
 | []=>rfl
 | c::r=>by
  by_cases h:c=32
  ·rw[show skip (c::r)=skip r by simp[skip,h],numGo_skip v r];simp[numGo,h]
  ·rw[show skip (c::r)=c::r by simp[skip,h]]
theorem skip_len (u:Txt):(skip u).length<=u.length:=(skip_suf u).len
theorem numGo_skipped:∀ (u:Txt) (v:Nat){w:Nat}{r:Txt},numGo v u=some (w,r)->skip r=r
 | [],v,w,r,h=>by simp[numGo] at h;rw[h.2];rfl
 | c::u,v,w,r,h=>by
  unfold numGo at h;split at h
  ·exact numGo_skipped u v h
  ·rename_i hc;split at h
   ·split at h
    ·cases h
    ·exact numGo_skipped u _ h
   ·simp at h;rw[<- h.2];simp[skip,hc]
theorem numGo_le:∀ (u:Txt) (v:Nat){w:Nat}{r:Txt},v<=9999->numGo v u=some (w,r)->w<=9999
 | [],v,w,r,hv,h=>by simp[numGo] at h;omega
 | c::u,v,w,r,hv,h=>by
  unfold numGo at h;split at h
  ·exact numGo_le u v hv h
  ·split at h
   ·split at h
    ·cases h
    ·exact numGo_le u _ (by omega) h
   ·simp at h;omega
theorem dig_le {c:Nat}(h:isDig c=true):c - 48<=9:=by
 simp only[isDig,Bool.and_eq_true,decide_eq_true_eq] at h;omega
section
variable {t:Txt}{b N:Nat}{H:Hp}
def wNumC:E:=.and (.cmp .lt (.loc 2) (.len (.loc 0))) (.cmp .isIn (.idx (.loc 0) (.loc 2)) (.gstr [68,73,71,73,84,83] [48,49,50,51,52,53,54,55,56,57]))
def wNumB:Ss:=(.cons (.ite (.isNone (.loc 3)) (.cons (.assign 3 (.int 0)) .nil) .nil)
  (.cons (.assign 3 (.bin .add (.bin .mul (.int 10) (.loc 3)) (.find (.gstr [68,73,71,73,84,83] [48,49,50,51,52,53,54,55,56,57]) (.idx (.loc 0) (.loc 2)))))
  (.cons (.ite (.cmp .gt (.loc 3) (.gint [77,79,83,84,95,78,85,77,66,69,82] 9999)) (.cons (.raise (.loc 2)) .nil) .nil)
  (.cons (.assign 2 (.call 0 (.cons (.loc 0) (.cons (.bin .add (.loc 2) (.int 1)) .nil)))) .nil))))
def hdDig:Txt->Bool
 | []=>false
 | c::_=>isDig c
theorem num_cond {call:Nat->List V->Hp->Option (Res V)}{u:Txt}{a x:V}(h:Suf t u) :
  EC call b [some (.str t),some a,some (.int (pos t u)),some x] wNumC H=some (.ok (.bool (hdDig u)) H):=by
 cases u with
 | nil=>simp only[wNumC,EA,EB,EC,ED,EG,EF,EH,ZA,ZB,ZC,ZD,ZE,ZF,ZG,ZH,ZI,ZJ,lenV,cmpV,pos_nil,Int.lt_irrefl,decide_false,hdDig]
 | cons c r=>
  have hl:((pos t (c::r):Nat):Int) < (t.length:Int):=by have:=pos_lt h;omega
  simp only[wNumC,EA,EB,EC,ED,EG,EF,EH,ZA,ZB,ZC,ZD,ZE,ZF,ZG,ZH,ZI,ZJ,lenV,cmpV,e_idx h,hl,decide_true,sub_dig,hdDig]
theorem num_step {n c k:Nat}{r:Txt}{a x:V}(h:Suf t (c::r)) (hc:isDig c=true) (hv:(x=.none/\k=0)\/x=.int (k:Int)) (hk:k<=9999) (hN:r.length < N) (d:Nat) (hd:d=10 * k + (c - 48)) :
  EA (cF N (n + 1)) N b wNumB [some (.str t),some a,some (.int (pos t (c::r))),some x] H =
   if 9999 < d then some (.exc H) else some (.next [some (.str t),some a,some (.int (pos t (skip r))),some (.int (d:Int))] H):=by
 have e1:=e_idx (H:=H) h;have e2:=find_dig hc;have e3:((pos t (c::r):Nat):Int) + 1=((pos t r:Nat):Int):=by rw[pos_tail h];omega
 have e4:=s_pass_blanks (H:=H) (n:=n) h.tail hN;have k1:fitsI 10=true:=by decide
 have k2:fitsI (k:Int)=true:=by
  simp only[fitsI,decide_eq_true_eq];omega
 have e5:(10:Int) * (k:Int) + ((c - 48:Nat):Int)=(d:Int):=by omega
 have e7:EB (cF N (n + 1)) N b (.ite (.isNone (.loc 3)) (.cons (.assign 3 (.int 0)) .nil) .nil) [some (.str t),some a,some (.int (pos t (c::r))),some x] H =
   some (.next [some (.str t),some a,some (.int (pos t (c::r))),some (.int (k:Int))] H):=by
  rcases hv with ⟨rfl,rfl⟩ | rfl<;>simp only[EA,EB,EC,ED,EG,EF,EH,ZA,ZB,ZC,ZD,ZE,ZF,ZG,ZH,ZI,ZJ,Int.natCast_zero]
 have b1:binV H .mul (.int 10) (.int (k:Int))=some (.int (10 * (k:Int))):=by
  simp only[binV,k1,k2,BA,if_true]
 have b2:binV H .add (.int (10 * (k:Int))) (.int ((c - 48:Nat):Int))=some (.int (d:Int)):=congrArg (fun z=>some (V.int z)) e5;refine ss_next e7 ?_;refine ss_next (l':=[some (.str t),some a,some (.int (pos t (c::r))),some (.int (d:Int))]) (H':=H) (by simp only[EA,EB,EC,ED,EG,EF,EH,ZA,ZB,ZC,ZD,ZE,ZF,ZG,ZH,ZI,ZJ,e1,e2,b1,b2]) ?_;by_cases hgt : 9999 < d
 ·rw[if_pos hgt];have e6:cmpV .gt (.int (d:Int)) (.int 9999)=some true:=congrArg some (DT (by omega));exact ss_exc (by simp only[EA,EB,EC,ED,EG,EF,EH,ZA,ZB,ZC,ZD,ZE,ZF,ZG,ZH,ZI,ZJ,e6])
 ·rw[if_neg hgt];have e6:cmpV .gt (.int (d:Int)) (.int 9999)=some false:=congrArg some (DF (by omega));refine ss_next (l':=[some (.str t),some a,some (.int (pos t (c::r))),some (.int (d:Int))]) (H':=H) (by simp only[EA,EB,EC,ED,EG,EF,EH,ZA,ZB,ZC,ZD,ZE,ZF,ZG,ZH,ZI,ZJ,e6]) ?_;simp only[EA,EB,EC,ED,EG,EF,EH,ZA,ZB,ZC,ZD,ZE,ZF,ZG,ZH,ZI,ZJ,binV,e3,e4]
theorem l_num {n:Nat}{a:V}:∀ (M:Nat) (u:Txt) (v:Nat),Suf t u->u.length < M->M<=N->v<=9999->skip u=u->
  whileL (fun l H=>EC (cF N (n + 1)) b l wNumC H) (fun l H=>EA (cF N (n + 1)) N b wNumB l H) M [some (.str t),some a,some (.int (pos t u)),some (.int (v:Int))] H =
   match numGo v u with
   | none=>some (.exc H)
   | some (w,r)=>some (.next [some (.str t),some a,some (.int (pos t r)),some (.int (w:Int))] H)
 | M + 1,[],v,h,hM,hN,hv,hs=>by
  refine wh_end ?_;exact num_cond h
 | M + 1,c::r,v,h,hM,hN,hv,hs=>by
  have hc:c≠32:=by
   rintro rfl
   have:=skip_len r;rw[show skip (32::r)=skip r by simp[skip]] at hs;rw[hs] at this;simp at this;omega
  cases hd:isDig c with
  | false=>
   rw[show numGo v (c::r)=some (v,c::r) by simp[numGo,hc,hd]];refine wh_end ?_;rw[num_cond h,hdDig,hd]
  | true=>
   have hst:=num_step (b:=b) (N:=N) (H:=H) (n:=n) (a:=a) (k:=v) h hd (.inr rfl) hv (by simp at hM;omega) _ rfl;by_cases hgt : 9999 < 10 * v + (c - 48)
   ·rw[if_pos hgt] at hst;rw[show numGo v (c::r)=none by simp[numGo,hc,hd];omega];exact wh_exc (H':=H) (by rw[num_cond h,hdDig,hd]) hst
   ·rw[if_neg hgt] at hst;rw[show numGo v (c::r)=numGo (10 * v + (c - 48)) (skip r) by rw[numGo_skip];simp[numGo,hc,hd];omega];refine wh_next (H':=H) (by rw[num_cond h,hdDig,hd]) hst ?_;have:=skip_len r;exact l_num M (skip r) _ (h.tail.trans (skip_suf r)) (by simp at hM;omega) (by omega) (by omega) (skip_skip r)
theorem s_number_at {u:Txt}{n:Nat}(h:Suf t u) (hN:t.length < N):cF N (n + 2) 1 [.str t,.int (pos t u)] H=rsN t H (numC u):=by
 have hu:=h.len;have hs:=h.trans (skip_suf u);have hsl:=skip_len u;have e0:=s_pass_blanks (H:=H) (n:=n) h (by omega:u.length < N);rw[callF_succ N (n + 1) 1 _ _ rfl];have st:∀ x,EA (cF N (n + 1)) N H.length F_number_at.body [some (.str t),some (.int (pos t u)),none,none] H=x->
   EA (cF N (n + 1)) N H.length F_number_at.body (([V.str t,V.int (pos t u)].map some)++List.replicate (F_number_at.vars.length - F_number_at.params) none) H=x:=fun x h=>h
 have main:EA (cF N (n + 1)) N H.length F_number_at.body [some (.str t),some (.int (pos t u)),none,none] H =
   match numC u with
   | none=>some (.exc H)
   | some (v,r)=>some (.ret (.tup [optN v,.int (pos t r)]) H):=by
  refine ss_next (l':=[some (.str t),some (.int (pos t u)),some (.int (pos t (skip u))),none]) (H':=H) (by simp only[EA,EB,EC,ED,EG,EF,EH,ZA,ZB,ZC,ZD,ZE,ZF,ZG,ZH,ZI,ZJ,e0]) ?_;refine ss_next (l':=[some (.str t),some (.int (pos t u)),some (.int (pos t (skip u))),some .none]) (H':=H) (by simp only[EA,EB,EC,ED,EG,EF,EH,ZA,ZB,ZC,ZD,ZE,ZF,ZG,ZH,ZI,ZJ]) ?_;have fin:∀ (v:Option Nat) (r:Txt),EA (cF N (n + 1)) N H.length (.cons (.ret (.tup (.cons (.loc 3) (.cons (.loc 2) .nil)))) .nil) [some (.str t),some (.int (pos t u)),some (.int (pos t r)),some (optN v)] H=some (.ret (.tup [optN v,.int (pos t r)]) H):=by
   intro v r;simp only[EA,EB,EC,ED,EG,EF,EH,ZA,ZB,ZC,ZD,ZE,ZF,ZG,ZH,ZI,ZJ,LC,LN];rw[if_pos (by decide)]
  cases hsk:skip u with
  | nil=>
   rw[show numC u=some (none,[]) by simp[numC,hsk]];obtain⟨M,rfl⟩ : ∃ M,N=M + 1:=⟨N - 1,by omega⟩
   refine ss_next (l':=[some (.str t),some (.int (pos t u)),some (.int (pos t [])),some .none]) (H':=H) ?_ (fin none []);rw[EB];exact wh_end (num_cond (hsk ▸ hs))
  | cons c r=>
   rw[hsk] at hs hsl;simp only[LC] at hsl;obtain⟨M,rfl⟩ : ∃ M,N=M + 1:=⟨N - 1,by omega⟩
   cases hd:isDig c with
   | false=>
    rw[show numC u=some (none,c::r) by simp[numC,hsk,hd]];refine ss_next (l':=[some (.str t),some (.int (pos t u)),some (.int (pos t (c::r))),some .none]) (H':=H) ?_ (fin none (c::r));rw[EB];exact wh_end (by have:=num_cond (b:=H.length) (H:=H) (call:=cF (M + 1) (n + 1)) (a:=.int (pos t u)) (x:=.none) hs;rw[hdDig,hd] at this;exact this)
   | true=>
    rw[show numC u=(numGo (c - 48) r).map fun p=>(some p.1,p.2) by simp[numC,hsk,hd]];have hst:=num_step (b:=H.length) (N:=M + 1) (H:=H) (n:=n) (a:=.int (pos t u)) (k:=0) hs hd (.inl ⟨rfl,rfl⟩) (by omega) (by omega) (c - 48) (by omega);have hle:=dig_le hd;rw[if_neg (by omega)] at hst;have hl:=l_num (b:=H.length) (N:=M + 1) (H:=H) (n:=n) (a:=.int (pos t u)) M (skip r) (c - 48) (hs.tail.trans (skip_suf r)) (by have:=skip_len r;omega) (by omega) (by omega) (skip_skip r);rw[numGo_skip] at hl;cases hg:numGo (c - 48) r with
    | none=>
     rw[hg] at hl;refine ss_exc ?_;rw[EB];exact wh_next (H':=H) (by have:=num_cond (b:=H.length) (H:=H) (call:=cF (M + 1) (n + 1)) (a:=.int (pos t u)) (x:=.none) hs;rw[hdDig,hd] at this;exact this) hst hl
    | some p=>
     obtain⟨w,q⟩:=p;rw[hg] at hl;refine ss_next (l':=[some (.str t),some (.int (pos t u)),some (.int (pos t q)),some (.int (w:Int))]) (H':=H) ?_ (fin (some w) q);rw[EB];exact wh_next (H':=H) (by have:=num_cond (b:=H.length) (H:=H) (call:=cF (M + 1) (n + 1)) (a:=.int (pos t u)) (x:=.none) hs;rw[hdDig,hd] at this;exact this) hst hl
 cases hn:numC u with
 | none=>rw[hn] at main;exact run_exc rfl (st _ main) LT
 | some p=>
  obtain⟨v,r⟩:=p;rw[hn] at main;exact run_ret rfl (st _ main) (by cases v<;>rfl) LT
theorem st2 {call:Nat->List V->Hp->Option (Res V)}{fn:Fn}{args:List V}{loc:Loc}{x:Option RS}(hl:args.map some++List.replicate (fn.vars.length - fn.params) none=loc) (h:EA call N H.length fn.body loc H=x) :
  EA call N H.length fn.body (args.map some++List.replicate (fn.vars.length - fn.params) none) H=x:=by rw[hl];exact h
theorem s_size_at {u:Txt}{n k:Nat}(h:Suf t u) (hN:t.length < N):cF N (n + 3) 2 [.str t,.int (pos t u),.int (k:Int)] H=rsS t H (sizeC k u):=by
 rw[callF_succ N (n + 2) 2 _ _ rfl];have e:=s_number_at (H:=H) (n:=n) h hN;unfold sizeC;cases hn:numC u with
 | none=>
  rw[hn,rsN] at e;exact run_exc rfl (ss_exc (by simp only[F_size_at,LC,LN,EA,EB,EC,ED,EG,EF,EH,ZA,ZB,ZC,ZD,ZE,ZF,ZG,ZH,ZI,ZJ,e])) LT
 | some p=>
  obtain⟨v,r⟩:=p;rw[hn,rsN] at e;have hr:=h.trans (numC_suf hn);cases v with
  | none=>
   refine run_exc rfl (st2 (loc:=[some (.str t),some (.int (pos t u)),some (.int (k:Int)),none,none]) rfl (ss_next (l':=[some (.str t),some (.int (pos t u)),some (.int (k:Int)),some .none,some (.int (pos t r))]) (H':=H) ?_ (ss_exc ?_))) LT
   ·simp only[EA,EB,EC,ED,EG,EF,EH,ZA,ZB,ZC,ZD,ZE,ZF,ZG,ZH,ZI,ZJ,e,optN,setAll]
   ·simp only[EA,EB,EC,ED,EG,EF,EH,ZA,ZB,ZC,ZD,ZE,ZF,ZG,ZH,ZI,ZJ]
  | some w=>
   have e2:cmpV .lt (.int (w:Int)) (.int (k:Int))=some (decide (w < k)):=by
    show some _=some _
    congr 1
    rw[Bool.eq_iff_iff];simp
   have e1:EB (cF N (n + 2)) N H.length (.unpack [3,4] (.call 1 (.cons (.loc 0) (.cons (.loc 1) .nil)))) [some (.str t),some (.int (pos t u)),some (.int (k:Int)),none,none] H =
     some (.next [some (.str t),some (.int (pos t u)),some (.int (k:Int)),some (.int (w:Int)),some (.int (pos t r))] H):=by
    simp only[EA,EB,EC,ED,EG,EF,EH,ZA,ZB,ZC,ZD,ZE,ZF,ZG,ZH,ZI,ZJ,e,optN,setAll]
   dsimp only;by_cases hlt:w < k
   ·rw[if_pos hlt];refine run_exc rfl (st2 (loc:=[some (.str t),some (.int (pos t u)),some (.int (k:Int)),none,none]) rfl (ss_next e1 (ss_exc ?_))) LT;simp only[EA,EB,EC,ED,EG,EF,EH,ZA,ZB,ZC,ZD,ZE,ZF,ZG,ZH,ZI,ZJ,e2,DT hlt]
   ·rw[if_neg hlt];refine run_ret (H':=H) rfl (st2 (loc:=[some (.str t),some (.int (pos t u)),some (.int (k:Int)),none,none]) rfl (ss_next e1 (ss_next (l':=[some (.str t),some (.int (pos t u)),some (.int (k:Int)),some (.int (w:Int)),some (.int (pos t r))]) (H':=H) ?_ ?_))) rfl LT
    ·simp only[EA,EB,EC,ED,EG,EF,EH,ZA,ZB,ZC,ZD,ZE,ZF,ZG,ZH,ZI,ZJ,e2,DF hlt]
    ·simp only[EA,EB,EC,ED,EG,EF,EH,ZA,ZB,ZC,ZD,ZE,ZF,ZG,ZH,ZI,ZJ,LC,LN];rw[if_pos (by decide)]
end
section
variable {t:Txt}{N:Nat}{H:Hp}
theorem s_is_some {r r':Txt}{c n:Nat}(h:Suf t r) (ht:t.length<=100000) (ha:aft c r=some r'):cF N (n + 1) 3 [.str t,.int (pos t r),.str [c]] H=some (.ok (.bool true) H):=by
 rw[s_is_at h ht,aft_take ha]
theorem s_is_none {r:Txt}{c n:Nat}(h:Suf t r) (ht:t.length<=100000) (ha:aft c r=none):cF N (n + 1) 3 [.str t,.int (pos t r),.str [c]] H=some (.ok (.bool false) H):=by
 rw[s_is_at h ht,aft_none ha]
theorem p_aft {r r':Txt}{c:Nat}(h:Suf t r) (ha:aft c r=some r'):((pos t r:Nat):Int) + 1=((pos t r':Nat):Int):=by
 have e:=aft_eq ha;rw[e] at h ⊢;rw[pos_tail h];omega
theorem p_tail {r:Txt}{c:Nat}(h:Suf t (c::r)):((pos t (c::r):Nat):Int) + 1=((pos t r:Nat):Int):=by
 rw[pos_tail h];omega
theorem cmp_gt (a b:Nat):cmpV .gt (.int (a:Int)) (.int (b:Int))=some (decide (b < a)):=by
 show some _=some _
 congr 1;rw[Bool.eq_iff_iff];simp
theorem cmp_lt (a b:Nat):cmpV .lt (.int (a:Int)) (.int (b:Int))=some (decide (a < b)):=by
 show some _=some _
 congr 1;rw[Bool.eq_iff_iff];simp
theorem cmp_eqs (a b:Txt):cmpV .eq (.str a) (.str b)=some (a==b):=by
 simp only[cmpV,pl_str,BA,if_true,V.beq]
theorem cmp_nes (a b:Txt):cmpV .ne (.str a) (.str b)=some (!(a==b)):=by
 simp only[cmpV,pl_str,BA,if_true,V.beq]
theorem cmp_eqi (a b:Int):cmpV .eq (.int a) (.int b)=some (a==b):=by
 simp only[cmpV,pl_int,BA,if_true,V.beq]
theorem cmp_eqn (b:Int):cmpV .eq .none (.int b)=some false:=by
 simp only[cmpV,pl_int,pl_none,BA,if_true,V.beq]
theorem cap3 {n:Nat}(h:n<=10):n<=capL:=by show n<=1048576;omega
theorem s_whole_edit {u:Txt}{n:Nat}(h:Suf t u) (hN:t.length < N) (ht:t.length<=100000):cF N (n + 4) 6 [.str t,.int (pos t u)] H=rsI t H (wholeC u):=by
 rw[callF_succ N (n + 3) 6 _ _ rfl];have e1:=s_size_at (H:=H) (n:=n) (k:=1) h hN;simp only[Int.natCast_one] at e1;unfold wholeC;cases h1:sizeC 1 u with
 | none=>
  rw[h1,rsS] at e1;exact run_exc rfl (ss_exc (by simp only[F_whole_edit,LC,LN,EA,EB,EC,ED,EG,EF,EH,ZA,ZB,ZC,ZD,ZE,ZF,ZG,ZH,ZI,ZJ,e1])) LT
 | some p=>
  obtain⟨w,r⟩:=p;rw[h1,rsS] at e1;have hr:=h.trans (sizeC_suf h1);dsimp only;cases ha:aft 46 r with
  | none=>
   have e2:=s_is_none (H:=H) (N:=N) (n:=n + 2) hr ht ha;refine run_ret (H':=H) rfl ?_ (It.pure (.nums [73] [some (w:Int),none]) ▸ rfl:V.pure (.tup [It.toV (.nums [73] [some (w:Int),none]),.int (pos t r)])=true) LT;simp only[F_whole_edit,LC,LN,EA,EB,EC,ED,EG,EF,EH,ZA,ZB,ZC,ZD,ZE,ZF,ZG,ZH,ZI,ZJ,e1,setAll,List.replicate,e2,BP,It.toV,pV,cap3 (show 0 + 1 + 1 + 1<=10 by decide),cap3 (show 0 + 1 + 1<=10 by decide),if_true]
  | some r1=>
   have e2:=s_is_some (H:=H) (N:=N) (n:=n + 2) hr ht ha;have hr1:=aft_suf hr ha;have e3:=s_size_at (H:=H) (n:=n) (k:=0) hr1 hN;simp only[Int.natCast_zero] at e3;have ep:=p_aft hr ha;dsimp only;cases h2:sizeC 0 r1 with
   | none=>
    rw[h2,rsS] at e3;refine run_exc (H':=H) rfl ?_ LT;simp only[F_whole_edit,LC,LN,EA,EB,EC,ED,EG,EF,EH,ZA,ZB,ZC,ZD,ZE,ZF,ZG,ZH,ZI,ZJ,e1,setAll,List.replicate,e2,BQ,binV,ep,e3]
   | some q=>
    obtain⟨d,r2⟩:=q;rw[h2,rsS] at e3;dsimp only;have e4:=cmp_gt d w;by_cases hlt:w < d
    ·rw[if_pos hlt];refine run_exc (H':=H) rfl ?_ LT;simp only[F_whole_edit,LC,LN,EA,EB,EC,ED,EG,EF,EH,ZA,ZB,ZC,ZD,ZE,ZF,ZG,ZH,ZI,ZJ,e1,setAll,List.replicate,e2,BQ,binV,ep,e3,e4,DT hlt]
    ·rw[if_neg hlt];refine run_ret (H':=H) rfl ?_ (It.pure (.nums [73] [some (w:Int),some (d:Int)]) ▸ rfl:V.pure (.tup [It.toV (.nums [73] [some (w:Int),some (d:Int)]),.int (pos t r2)])=true) LT;simp only[F_whole_edit,LC,LN,EA,EB,EC,ED,EG,EF,EH,ZA,ZB,ZC,ZD,ZE,ZF,ZG,ZH,ZI,ZJ,e1,setAll,List.replicate,e2,BQ,binV,ep,e3,e4,DF hlt,It.toV,pV,cap3 (show 0 + 1 + 1 + 1<=10 by decide),cap3 (show 0 + 1 + 1<=10 by decide),if_true]
theorem pI (i:It) (p:Int):V.pure (.tup [i.toV,.int p])=true:=by simp[V.pure,V.pures,It.pure i]
theorem cp1 : 0 + 1<=capL:=cap3 (by decide)
theorem cp2 : 0 + 1 + 1<=capL:=cap3 (by decide)
theorem cp3 : 0 + 1 + 1 + 1<=capL:=cap3 (by decide)
theorem cp4 : 0 + 1 + 1 + 1 + 1<=capL:=cap3 (by decide)
theorem s_places_at {r:Txt}{n:Nat}(h:Suf t r) (hN:t.length < N) (ht:t.length<=100000) :
  cF N (n + 4) 4 [.str t,.int (pos t r)] H=match aft 46 r with | none=>some (.exc H) | some r1=>rsS t H (sizeC 0 r1):=by
 rw[callF_succ N (n + 3) 4 _ _ rfl];cases ha:aft 46 r with
 | none=>
  have e2:=s_is_none (H:=H) (N:=N) (n:=n + 2) h ht ha;refine run_exc (H':=H) rfl ?_ LT;simp only[F_places_at,LC,LN,EA,EB,EC,ED,EG,EF,EH,ZA,ZB,ZC,ZD,ZE,ZF,ZG,ZH,ZI,ZJ,e2,BP]
 | some r1=>
  have e2:=s_is_some (H:=H) (N:=N) (n:=n + 2) h ht ha;have e3:=s_size_at (H:=H) (n:=n) (k:=0) (aft_suf h ha) hN;simp only[Int.natCast_zero] at e3;have ep:=p_aft h ha;dsimp only;cases h2:sizeC 0 r1 with
  | none=>
   rw[h2,rsS] at e3;refine run_exc (H':=H) rfl ?_ LT;simp only[F_places_at,LC,LN,EA,EB,EC,ED,EG,EF,EH,ZA,ZB,ZC,ZD,ZE,ZF,ZG,ZH,ZI,ZJ,e2,BQ,binV,ep,e3]
  | some q=>
   obtain⟨d,r2⟩:=q;rw[h2,rsS] at e3;refine run_ret (H':=H) rfl ?_ rfl LT;simp only[F_places_at,LC,LN,EA,EB,EC,ED,EG,EF,EH,ZA,ZB,ZC,ZD,ZE,ZF,ZG,ZH,ZI,ZJ,e2,BQ,binV,ep,e3]
theorem s_exponent_at {r:Txt}{n:Nat}(h:Suf t r) (hN:t.length < N) (ht:t.length<=100000) :
  cF N (n + 4) 5 [.str t,.int (pos t r)] H=match aft 69 r with | none=>some (.ok (.tup [.none,.int (pos t r)]) H) | some r1=>rsS t H (sizeC 1 r1):=by
 rw[callF_succ N (n + 3) 5 _ _ rfl];cases ha:aft 69 r with
 | none=>
  have e2:=s_is_none (H:=H) (N:=N) (n:=n + 2) h ht ha;refine run_ret (H':=H) rfl ?_ rfl LT;simp only[F_exponent_at,LC,LN,EA,EB,EC,ED,EG,EF,EH,ZA,ZB,ZC,ZD,ZE,ZF,ZG,ZH,ZI,ZJ,e2,BP,cp2,if_true]
 | some r1=>
  have e2:=s_is_some (H:=H) (N:=N) (n:=n + 2) h ht ha;have e3:=s_size_at (H:=H) (n:=n) (k:=1) (aft_suf h ha) hN;simp only[Int.natCast_one] at e3;have ep:=p_aft h ha;dsimp only;cases h2:sizeC 1 r1 with
  | none=>
   rw[h2,rsS] at e3;refine run_exc (H':=H) rfl ?_ LT;simp only[F_exponent_at,LC,LN,EA,EB,EC,ED,EG,EF,EH,ZA,ZB,ZC,ZD,ZE,ZF,ZG,ZH,ZI,ZJ,e2,BQ,binV,ep,e3]
  | some q=>
   obtain⟨d,r2⟩:=q;rw[h2,rsS] at e3;refine run_ret (H':=H) rfl ?_ rfl LT;simp only[F_exponent_at,LC,LN,EA,EB,EC,ED,EG,EF,EH,ZA,ZB,ZC,ZD,ZE,ZF,ZG,ZH,ZI,ZJ,e2,BQ,binV,ep,e3]
theorem s_real_edit {u:Txt}{n k:Nat}(h:Suf t u) (hN:t.length < N) (ht:t.length<=100000):cF N (n + 5) 7 [.str [k],.str t,.int (pos t u)] H=rsI t H (realC k u):=by
 rw[callF_succ N (n + 4) 7 _ _ rfl];have e1:=s_size_at (H:=H) (n:=n + 1) (k:=1) h hN;simp only[Int.natCast_one] at e1;unfold realC;cases h1:sizeC 1 u with
 | none=>
  rw[h1,rsS] at e1;refine run_exc (H':=H) rfl ?_ LT;simp only[F_real_edit,LC,LN,EA,EB,EC,ED,EG,EF,EH,ZA,ZB,ZC,ZD,ZE,ZF,ZG,ZH,ZI,ZJ,e1,List.replicate]
 | some p=>
  obtain⟨w,r⟩:=p;rw[h1,rsS] at e1;have hr:=h.trans (sizeC_suf h1);have e2:=s_places_at (H:=H) (n:=n) hr hN ht;dsimp only;cases ha:aft 46 r with
  | none=>
   rw[ha] at e2;dsimp only at e2;refine run_exc (H':=H) rfl ?_ LT;simp only[F_real_edit,LC,LN,EA,EB,EC,ED,EG,EF,EH,ZA,ZB,ZC,ZD,ZE,ZF,ZG,ZH,ZI,ZJ,e1,setAll,List.replicate,e2]
  | some r1=>
   rw[ha] at e2;dsimp only at e2 ⊢;cases h2:sizeC 0 r1 with
   | none=>
    rw[h2,rsS] at e2;refine run_exc (H':=H) rfl ?_ LT;simp only[F_real_edit,LC,LN,EA,EB,EC,ED,EG,EF,EH,ZA,ZB,ZC,ZD,ZE,ZF,ZG,ZH,ZI,ZJ,e1,setAll,List.replicate,e2]
   | some q=>
    obtain⟨d,r2⟩:=q;rw[h2,rsS] at e2;have hr2:=(aft_suf hr ha).trans (sizeC_suf h2);dsimp only;have x1:cmpV .eq (.str [k]) (.str [70])=some (k==70):=by rw[cmp_eqs,beq1]
    have x2:cmpV .eq (.str [k]) (.str [68])=some (k==68):=by rw[cmp_eqs,beq1]
    by_cases hk:k=70\/k=68
    ·rw[if_pos hk];refine run_ret (H':=H) rfl ?_ (pI (.nums [k] [some (w:Int),some (d:Int)]) _) LT;rcases hk with rfl | rfl<;>simp only[F_real_edit,LC,LN,EA,EB,EC,ED,EG,EF,EH,ZA,ZB,ZC,ZD,ZE,ZF,ZG,ZH,ZI,ZJ,e1,setAll,List.replicate,e2,x1,x2,beq_self_eq_true,show ((68:Nat)==70)=false from rfl,It.toV,pV,cp2,cp3,if_true]
    ·rw[if_neg hk];have y1:(k==70)=false:=BN.mpr fun z=>hk (.inl z)
     have y2:(k==68)=false:=BN.mpr fun z=>hk (.inr z)
     have e3:=s_exponent_at (H:=H) (n:=n) hr2 hN ht;cases hb:aft 69 r2 with
     | none=>
      rw[hb] at e3;dsimp only at e3;refine run_ret (H':=H) rfl ?_ (pI (.nums [k] [some (w:Int),some (d:Int),none]) _) LT;simp only[F_real_edit,LC,LN,EA,EB,EC,ED,EG,EF,EH,ZA,ZB,ZC,ZD,ZE,ZF,ZG,ZH,ZI,ZJ,e1,setAll,List.replicate,e2,x1,x2,y1,y2,e3,It.toV,pV,cp2,cp4,if_true]
     | some r3=>
      rw[hb] at e3;dsimp only at e3 ⊢;cases h3:sizeC 1 r3 with
      | none=>
       rw[h3,rsS] at e3;refine run_exc (H':=H) rfl ?_ LT;simp only[F_real_edit,LC,LN,EA,EB,EC,ED,EG,EF,EH,ZA,ZB,ZC,ZD,ZE,ZF,ZG,ZH,ZI,ZJ,e1,setAll,List.replicate,e2,x1,x2,y1,y2,e3]
      | some q3=>
       obtain⟨e,r4⟩:=q3;rw[h3,rsS] at e3;refine run_ret (H':=H) rfl ?_ (pI (.nums [k] [some (w:Int),some (d:Int),some (e:Int)]) _) LT;simp only[F_real_edit,LC,LN,EA,EB,EC,ED,EG,EF,EH,ZA,ZB,ZC,ZD,ZE,ZF,ZG,ZH,ZI,ZJ,e1,setAll,List.replicate,e2,x1,x2,y1,y2,e3,It.toV,pV,cp2,cp4,if_true]
theorem s_value_edit {u:Txt}{n k:Nat}(h:Suf t (k::u)) (hN:t.length < N) (ht:t.length<=100000):cF N (n + 6) 8 [.str t,.int (pos t (k::u))] H=rsI t H (valueC k u):=by
 rw[callF_succ N (n + 5) 8 _ _ rfl];have ei:=e_idx (H:=H) h;have ep:=p_tail h;have hu:=h.tail;have x1:cmpV .eq (.str [k]) (.str [73])=some (k==73):=by rw[cmp_eqs,beq1]
 have x2:cmpV .eq (.str [k]) (.str [76])=some (k==76):=by rw[cmp_eqs,beq1]
 have x3:cmpV .eq (.str [k]) (.str [65])=some (k==65):=by rw[cmp_eqs,beq1]
 unfold valueC;by_cases k1:k=73
 ·subst k1;have e:=s_whole_edit (H:=H) (n:=n + 1) hu hN ht;rw[if_pos rfl];cases hw:wholeC u with
  | none=>
   rw[hw,rsI] at e;refine run_exc (H':=H) rfl ?_ LT;simp only[F_value_edit,LC,LN,EA,EB,EC,ED,EG,EF,EH,ZA,ZB,ZC,ZD,ZE,ZF,ZG,ZH,ZI,ZJ,List.replicate,ei,ep,x1,beq_self_eq_true,binV,e]
  | some p=>
   rw[hw,rsI] at e;refine run_ret (H':=H) rfl ?_ (pI _ _) LT;simp only[F_value_edit,LC,LN,EA,EB,EC,ED,EG,EF,EH,ZA,ZB,ZC,ZD,ZE,ZF,ZG,ZH,ZI,ZJ,List.replicate,ei,ep,x1,beq_self_eq_true,binV,e]
 rw[if_neg k1];have y1:(k==73)=false:=BN.mpr k1;by_cases k2:k=76
 ·subst k2;have e:=s_size_at (H:=H) (n:=n + 2) (k:=1) hu hN;simp only[Int.natCast_one] at e;rw[if_pos rfl];cases hw:sizeC 1 u with
  | none=>
   rw[hw,rsS] at e;refine run_exc (H':=H) rfl ?_ LT;simp only[F_value_edit,LC,LN,EA,EB,EC,ED,EG,EF,EH,ZA,ZB,ZC,ZD,ZE,ZF,ZG,ZH,ZI,ZJ,List.replicate,ei,ep,x1,x2,y1,beq_self_eq_true,binV,e]
  | some p=>
   rw[hw,rsS] at e;refine run_ret (H':=H) rfl ?_ (pI (.nums [76] [some (p.1:Int)]) _) LT;simp only[F_value_edit,LC,LN,EA,EB,EC,ED,EG,EF,EH,ZA,ZB,ZC,ZD,ZE,ZF,ZG,ZH,ZI,ZJ,List.replicate,ei,ep,x1,x2,y1,beq_self_eq_true,binV,e,setAll,It.toV,pV,cp2,if_true]
 rw[if_neg k2];have y2:(k==76)=false:=BN.mpr k2;by_cases k3:k=65
 ·subst k3;have e:=s_number_at (H:=H) (n:=n + 3) hu hN;rw[if_pos rfl];cases hw:numC u with
  | none=>
   rw[hw,rsN] at e;refine run_exc (H':=H) rfl ?_ LT;simp only[F_value_edit,LC,LN,EA,EB,EC,ED,EG,EF,EH,ZA,ZB,ZC,ZD,ZE,ZF,ZG,ZH,ZI,ZJ,List.replicate,ei,ep,x1,x2,x3,y1,y2,beq_self_eq_true,binV,e]
  | some p=>
   obtain⟨v,r⟩:=p;rw[hw,rsN] at e;cases v with
   | none=>
    refine run_ret (H':=H) rfl ?_ (pI (.nums [65] [none]) _) LT;simp only[F_value_edit,LC,LN,EA,EB,EC,ED,EG,EF,EH,ZA,ZB,ZC,ZD,ZE,ZF,ZG,ZH,ZI,ZJ,List.replicate,ei,ep,x1,x2,x3,y1,y2,beq_self_eq_true,binV,e,optN,setAll,cmp_eqn,It.toV,pV,cp2,if_true]
   | some v=>
    dsimp only;by_cases hv:v=0
    ·subst hv;rw[if_pos rfl];refine run_exc (H':=H) rfl ?_ LT;simp only[F_value_edit,LC,LN,EA,EB,EC,ED,EG,EF,EH,ZA,ZB,ZC,ZD,ZE,ZF,ZG,ZH,ZI,ZJ,List.replicate,ei,ep,x1,x2,x3,y1,y2,beq_self_eq_true,binV,e,optN,setAll,cmp_eqi,Int.natCast_zero]
    ·rw[if_neg hv];have y4:((v:Int)==0)=false:=BN.mpr (by omega);refine run_ret (H':=H) rfl ?_ (pI (.nums [65] [some (v:Int)]) _) LT;simp only[F_value_edit,LC,LN,EA,EB,EC,ED,EG,EF,EH,ZA,ZB,ZC,ZD,ZE,ZF,ZG,ZH,ZI,ZJ,List.replicate,ei,ep,x1,x2,x3,y1,y2,beq_self_eq_true,binV,e,optN,setAll,cmp_eqi,y4,It.toV,pV,cp2,if_true]
 rw[if_neg k3];have y3:(k==65)=false:=BN.mpr k3;have e:=s_real_edit (H:=H) (n:=n) (k:=k) hu hN ht;cases hw:realC k u with
 | none=>
  rw[hw,rsI] at e;refine run_exc (H':=H) rfl ?_ LT;simp only[F_value_edit,LC,LN,EA,EB,EC,ED,EG,EF,EH,ZA,ZB,ZC,ZD,ZE,ZF,ZG,ZH,ZI,ZJ,List.replicate,ei,ep,x1,x2,x3,y1,y2,y3,binV,e]
 | some p=>
  rw[hw,rsI] at e;refine run_ret (H':=H) rfl ?_ (pI _ _) LT;simp only[F_value_edit,LC,LN,EA,EB,EC,ED,EG,EF,EH,ZA,ZB,ZC,ZD,ZE,ZF,ZG,ZH,ZI,ZJ,List.replicate,ei,ep,x1,x2,x3,y1,y2,y3,binV,e]
end
section
variable {t:Txt}{b N:Nat}{H:Hp}
def wQuoC:E:=.cmp .lt (.loc 3) (.len (.loc 0))
def wQuoB:Ss:=(.cons (.ite (.cmp .ne (.idx (.loc 0) (.loc 3)) (.str [39])) (.cons (.aug 2 (.idx (.loc 0) (.loc 3)))
  (.cons (.aug 3 (.int 1))
  .nil)) (.cons (.ite (.call 3 (.cons (.loc 0) (.cons (.bin .add (.loc 3) (.int 1)) (.cons (.str [39]) .nil)))) (.cons (.aug 2 (.str [39]))
  (.cons (.aug 3 (.int 2))
  .nil)) (.cons (.ite (.cmp .eq (.loc 2) (.str [])) (.cons (.raise (.loc 1))
  .nil) .nil)
  (.cons (.ret (.tup (.cons (.tup (.cons (.str [72]) (.cons (.loc 2) .nil))) (.cons (.bin .add (.loc 3) (.int 1)) .nil))))
  .nil)))
  .nil))
  .nil)
theorem quo_c {call:Nat->List V->Hp->Option (Res V)}{u:Txt}{x y:V}(h:Suf t u):EC call b [some (.str t),some x,some y,some (.int (pos t u))] wQuoC H=some (.ok (.bool (!u.isEmpty)) H):=by
 have e:cmpV .lt (.int (pos t u)) (.int t.length)=some (!u.isEmpty):=by
  rw[cmp_lt]
  congr 1
  cases u with
  | nil=>simp[pos_nil]
  | cons c r=>simpa using pos_lt h
 simp only[wQuoC,EA,EB,EC,ED,EG,EF,EH,ZA,ZB,ZC,ZD,ZE,lenV,e]
theorem cap1 {a c:Nat}(h:a + c<=100000):a + c<=capL:=by show a + c<=1048576;omega
theorem l_quoted {call:Nat->List V->Hp->Option (Res V)}{at':Int}(hcall:∀ u,Suf t u->call 3 [.str t,.int (pos t u),.str [39]] H=some (.ok (.bool (u.take 1==[39])) H)):∀ (M:Nat) (u out:Txt),Suf t u->u.length < M->out.length + u.length<=90000->
  (∃ i r,quotedGo out u=some (i,r)/\whileL (fun l H=>EC (call) b l wQuoC H) (fun l H=>EA (call) N b wQuoB l H) M [some (.str t),some (.int at'),some (.str out),some (.int (pos t u))] H=some (.ret (.tup [i.toV,.int (pos t r)]) H))\/
  (quotedGo out u=none/\(whileL (fun l H=>EC (call) b l wQuoC H) (fun l H=>EA (call) N b wQuoB l H) M [some (.str t),some (.int at'),some (.str out),some (.int (pos t u))] H=some (.exc H)\/
   ∃ x y,whileL (fun l H=>EC (call) b l wQuoC H) (fun l H=>EA (call) N b wQuoB l H) M [some (.str t),some (.int at'),some (.str out),some (.int (pos t u))] H=some (.next [some (.str t),some (.int at'),x,y] H)))
 | M + 1,[],out,h,hM,ho=>.inr ⟨rfl,.inr ⟨_,_,wh_end (quo_c h)⟩⟩
 | M + 1,c::r,out,h,hM,ho=>by
  simp only[LC] at hM ho;have ei:=e_idx (H:=H) h;have ep:=p_tail h;have hc:=quo_c (b:=b) (H:=H) (call:=call) (x:=.int at') (y:=.str out) h;simp only[List.isEmpty_cons,BP] at hc;have x1:cmpV .ne (.str [c]) (.str [39])=some (!(c==39)):=by rw[cmp_nes,beq1]
  by_cases h1:c=39
  ·subst h1;have e2:=hcall _ h.tail;have e3:cmpV .eq (.str out) (.str [])=some (out==[]):=cmp_eqs _ _;cases r with
   | nil=>
    simp only[List.take_nil,show (([]:Txt)==[39])=false from rfl] at e2;by_cases hz:out=[]
    ·subst hz;refine .inr ⟨rfl,.inl (wh_exc (H':=H) hc ?_)⟩;simp only[wQuoB,EA,EB,EC,ED,EG,EF,EH,ZA,ZB,ZC,ZD,ZE,ei,x1,beq_self_eq_true,BQ,binV,ep,e2,e3]
    ·refine .inl ⟨.text out,[],by simp[quotedGo,hz],wh_ret (H':=H) hc ?_⟩;have y1:(out==[])=false:=BN.mpr hz;simp only[wQuoB,EA,EB,EC,ED,EG,EF,EH,ZA,ZB,ZC,ZD,ZE,ei,x1,beq_self_eq_true,BQ,binV,ep,e2,e3,y1,LC,LN,cp2,if_true,It.toV]
   | cons d r'=>
    simp only[LC] at hM ho;have ht2:List.take 1 (d::r')=[d]:=rfl;rw[ht2,beq1] at e2;have ep2:=p_tail h.tail;by_cases hd:d=39
    ·subst hd;have hz:out.length + 1<=capL:=cap1 (by omega);have e5:((pos t (39::39::r'):Nat):Int) + 2=((pos t r':Nat):Int):=by omega
     have hb:EA (call) N b wQuoB [some (.str t),some (.int at'),some (.str out),some (.int (pos t (39::39::r')))] H=some (.next [some (.str t),some (.int at'),some (.str (out++[39])),some (.int (pos t r'))] H):=by
      simp only[wQuoB,EA,EB,EC,ED,EG,EF,EH,ZA,ZB,ZC,ZD,ZE,ei,x1,beq_self_eq_true,BQ,binV,ep,e2,LC,LN,Nat.zero_add,hz,if_true,e5]
     have hq:quotedGo out (39::39::r')=quotedGo (out++[39]) r':=by rw[quotedGo];simp
     have ih:=l_quoted (at':=at') hcall M r' (out++[39]) h.tail.tail (by omega) (by rw[LA];simp;omega);rw[hq];rcases ih with ⟨i,r2,q1,q2⟩ | ⟨q1,q2 | ⟨x,y,q2⟩⟩
     ·exact .inl ⟨i,r2,q1,wh_next (H':=H) hc hb q2⟩
     ·exact .inr ⟨q1,.inl (wh_next (H':=H) hc hb q2)⟩
     ·exact .inr ⟨q1,.inr ⟨x,y,wh_next (H':=H) hc hb q2⟩⟩
    ·have y0:(d==39)=false:=BN.mpr hd;rw[y0] at e2;by_cases hz:out=[]
     ·subst hz;refine .inr ⟨by simp[quotedGo,hd],.inl (wh_exc (H':=H) hc ?_)⟩;simp only[wQuoB,EA,EB,EC,ED,EG,EF,EH,ZA,ZB,ZC,ZD,ZE,ei,x1,beq_self_eq_true,BQ,binV,ep,e2,e3]
     ·refine .inl ⟨.text out,d::r',by simp[quotedGo,hz,hd],wh_ret (H':=H) hc ?_⟩;have y1:(out==[])=false:=BN.mpr hz;simp only[wQuoB,EA,EB,EC,ED,EG,EF,EH,ZA,ZB,ZC,ZD,ZE,ei,x1,beq_self_eq_true,BQ,binV,ep,e2,e3,y1,LC,LN,cp2,if_true,It.toV]
  ·have y1:(c==39)=false:=BN.mpr h1;have hz:out.length + 1<=capL:=cap1 (by omega);have hb:EA (call) N b wQuoB [some (.str t),some (.int at'),some (.str out),some (.int (pos t (c::r)))] H=some (.next [some (.str t),some (.int at'),some (.str (out++[c])),some (.int (pos t r))] H):=by
    simp only[wQuoB,EA,EB,EC,ED,EG,EF,EH,ZA,ZB,ZC,ZD,ZE,ei,x1,y1,BP,LC,LN,Nat.zero_add,hz,if_true,ep]
   have hq:quotedGo out (c::r)=quotedGo (out++[c]) r:=by rw[quotedGo.eq_def];simp[h1]
   have ih:=l_quoted (at':=at') hcall M r (out++[c]) h.tail (by omega) (by rw[LA];simp;omega);rw[hq];rcases ih with ⟨i,r2,q1,q2⟩ | ⟨q1,q2 | ⟨x,y,q2⟩⟩
   ·exact .inl ⟨i,r2,q1,wh_next (H':=H) hc hb q2⟩
   ·exact .inr ⟨q1,.inl (wh_next (H':=H) hc hb q2)⟩
   ·exact .inr ⟨q1,.inr ⟨x,y,wh_next (H':=H) hc hb q2⟩⟩
theorem s_quoted_at {u:Txt}{n c:Nat}(h:Suf t (c::u)) (hN:t.length < N) (ht:t.length<=80000):cF N (n + 2) 9 [.str t,.int (pos t (c::u))] H=rsI t H (quotedGo [] u):=by
 rw[callF_succ N (n + 1) 9 _ _ rfl];have ep:=p_tail h;have hl:=h.tail.len;have e:=l_quoted (b:=H.length) (N:=N) (H:=H) (call:=cF N (n + 1)) (at':=(pos t (c::u):Nat)) (fun u hu=>s_is_at hu (by omega) [39]) N u [] h.tail (by omega) (by simp;omega);rcases e with ⟨i,r,q1,q2⟩ | ⟨q1,q2 | ⟨x,y,q2⟩⟩
 ·rw[q1];refine run_ret (H':=H) rfl (st2 (loc:=[some (.str t),some (.int (pos t (c::u))),none,none]) rfl (ss_next (by simp only[EA,EB,EC,ED,EG,EF,EH,ZA,ZB,ZC,ZD,ZE];rfl) (ss_next (l':=[some (.str t),some (.int (pos t (c::u))),some (.str []),some (.int (pos t u))]) (H':=H) (by simp only[EA,EB,EC,ED,EG,EF,EH,ZA,ZB,ZC,ZD,ZE,binV,ep]) (ss_ret ?_)))) (pI _ _) LT;rw[EB];exact q2
 ·rw[q1];refine run_exc (H':=H) rfl (st2 (loc:=[some (.str t),some (.int (pos t (c::u))),none,none]) rfl (ss_next (by simp only[EA,EB,EC,ED,EG,EF,EH,ZA,ZB,ZC,ZD,ZE];rfl) (ss_next (l':=[some (.str t),some (.int (pos t (c::u))),some (.str []),some (.int (pos t u))]) (H':=H) (by simp only[EA,EB,EC,ED,EG,EF,EH,ZA,ZB,ZC,ZD,ZE,binV,ep]) (ss_exc ?_)))) LT;rw[EB];exact q2
 ·rw[q1];refine run_exc (H':=H) rfl (st2 (loc:=[some (.str t),some (.int (pos t (c::u))),none,none]) rfl (ss_next (by simp only[EA,EB,EC,ED,EG,EF,EH,ZA,ZB,ZC,ZD,ZE];rfl) (ss_next (l':=[some (.str t),some (.int (pos t (c::u))),some (.str []),some (.int (pos t u))]) (H':=H) (by simp only[EA,EB,EC,ED,EG,EF,EH,ZA,ZB,ZC,ZD,ZE,binV,ep]) (ss_next (l':=[some (.str t),some (.int (pos t (c::u))),x,y]) (H':=H) ?_ (ss_exc ?_))))) LT
  ·rw[EB];exact q2
  ·simp only[EA,EB,EC,ED,EG,EF,EH,ZA,ZB,ZC,ZD,ZE]
end
section
variable {t:Txt}{b N:Nat}{H:Hp}
theorem take_pos {u:Txt}{k:Nat}(h:Suf t u) (hk:k<=u.length):pos t (u.drop k)=pos t u + k:=by
 have:=h.len;simp only[pos,List.length_drop];omega
theorem s_counted_text {u:Txt}{n k:Nat}(h:Suf t u) (ht:t.length<=80000) (hk:k<=9999):cF N (n + 1) 10 [.str t,.int (pos t u),.int (k:Int)] H=rsI t H (countedText u k):=by
 rw[callF_succ N n 10 _ _ rfl];have hl:=h.len;have hp:pos t u=t.length - u.length:=rfl;have e1:cmpV .gt (.int (((pos t u + k:Nat)):Int)) (.int t.length)=some (decide (t.length < pos t u + k)):=cmp_gt _ _;have e0:((pos t u:Nat):Int) + (k:Int)=((pos t u + k:Nat):Int):=by omega
 unfold countedText;generalize cF N n=call at *;by_cases hc:k<=u.length
 ·rw[if_pos hc];have e2:slV (.str t) (.int (pos t u)) (.int ((pos t u + k:Nat):Int))=some (.str (u.take k)):=by
   rw[e_sl (by omega) (by omega),List.drop_take,drop_pos h,show pos t u + k - pos t u=k by omega]
  have y1:decide (t.length < pos t u + k)=false:=DF (by omega);have e4:=take_pos h hc;refine run_ret (H':=H) rfl ?_ (pI (.text (u.take k)) _) LT;simp only[F_counted_text,LC,LN,EA,EB,EC,ED,EG,EF,EH,ZA,ZB,ZC,ZD,ZE,ZF,ZG,ZH,ZI,ZJ,List.replicate,binV,lenV,e0,e1,y1,e2,It.toV,cp2,if_true,e4]
 ·rw[if_neg hc];have y1:decide (t.length < pos t u + k)=true:=DT (by omega);refine run_exc (H':=H) rfl ?_ LT;simp only[F_counted_text,LC,LN,EA,EB,EC,ED,EG,EF,EH,ZA,ZB,ZC,ZD,ZE,ZF,ZG,ZH,ZI,ZJ,List.replicate,binV,lenV,e0,e1,y1]
theorem s_scale_at {u:Txt}{n c:Nat}(h:Suf t (c::u)) (hN:t.length < N) (ht:t.length<=80000):cF N (n + 4) 11 [.str t,.int (pos t (c::u))] H=rsI t H (scaleC c u):=by
 rw[callF_succ N (n + 3) 11 _ _ rfl];have ei:=e_idx (H:=H) h;have ep:=p_tail h;have hu:=h.tail;have e1:=s_size_at (H:=H) (n:=n) (k:=0) hu hN;simp only[Int.natCast_zero] at e1;unfold scaleC;cases h1:sizeC 0 u with
 | none=>
  rw[h1,rsS] at e1;generalize cF N (n + 3)=call at *;refine run_exc (H':=H) rfl ?_ LT;simp only[F_scale_at,LC,LN,EA,EB,EC,ED,EG,EF,EH,ZA,ZB,ZC,ZD,ZE,ZF,ZG,ZH,ZI,ZJ,List.replicate,binV,ep,e1]
 | some p=>
  obtain⟨v,r⟩:=p;rw[h1,rsS] at e1;have hr:=hu.trans (sizeC_suf h1);dsimp only;cases ha:aft 80 r with
  | none=>
   have e2:=s_is_none (H:=H) (N:=N) (n:=n + 2) hr (by omega) ha;generalize cF N (n + 3)=call at *;refine run_exc (H':=H) rfl ?_ LT;simp only[F_scale_at,LC,LN,EA,EB,EC,ED,EG,EF,EH,ZA,ZB,ZC,ZD,ZE,ZF,ZG,ZH,ZI,ZJ,List.replicate,binV,ep,e1,setAll,e2,BP]
  | some r1=>
   have e2:=s_is_some (H:=H) (N:=N) (n:=n + 2) hr (by omega) ha;have ep2:=p_aft hr ha;have x1:cmpV .eq (.str [c]) (.str [45])=some (c==45):=by rw[cmp_eqs,beq1]
   generalize cF N (n + 3)=call at *;refine run_ret (H':=H) rfl ?_ (pI (.nums [80] [some (if c=45 then -(v:Int) else v)]) _) LT;by_cases hc:c=45
   ·subst hc;simp only[F_scale_at,LC,LN,EA,EB,EC,ED,EG,EF,EH,ZA,ZB,ZC,ZD,ZE,ZF,ZG,ZH,ZI,ZJ,List.replicate,binV,ep,e1,setAll,e2,BQ,ei,x1,beq_self_eq_true,ep2,if_true,It.toV,pV,cp2]
   ·have y1:(c==45)=false:=BN.mpr hc;simp only[F_scale_at,LC,LN,EA,EB,EC,ED,EG,EF,EH,ZA,ZB,ZC,ZD,ZE,ZF,ZG,ZH,ZI,ZJ,List.replicate,binV,ep,e1,setAll,e2,BQ,ei,x1,y1,ep2,if_neg hc,if_true,It.toV,pV,cp2]
theorem s_is_hd {c d:Nat}{r:Txt}{n:Nat}(h:Suf t (d::r)) (ht:t.length<=100000):cF N (n + 1) 3 [.str t,.int (pos t (d::r)),.str [c]] H=some (.ok (.bool (d==c)) H):=by
 rw[s_is_at h ht];simp
theorem s_is_nil {c:Nat}{n:Nat}(ht:t.length<=100000):cF N (n + 1) 3 [.str t,.int (pos t []),.str [c]] H=some (.ok (.bool false) H):=by
 rw[s_is_at ⟨t,by simp⟩ ht];rfl
theorem capS {a c:Nat}(h:a + c<=10):a + c<=capL:=by show a + c<=1048576;omega
theorem s_control_at {u:Txt}{n c:Nat}(h:Suf t (c::u)) (hN:t.length < N) (ht:t.length<=80000):cF N (n + 4) 12 [.str t,.int (pos t (c::u))] H=rsI t H (controlC c u):=by
 rw[callF_succ N (n + 3) 12 _ _ rfl];have ei:=e_idx (H:=H) h;have ep:=p_tail h;have hu:=h.tail;have hul:=hu.len;have e0:=s_pass_blanks (H:=H) (N:=N) (n:=n + 2) hu (by omega);have x1:cmpV .eq (.str [c]) (.str [47])=some (c==47):=by rw[cmp_eqs,beq1]
 have x2:cmpV .eq (.str [c]) (.str [58])=some (c==58):=by rw[cmp_eqs,beq1]
 have x3:cmpV .eq (.str [c]) (.str [83])=some (c==83):=by rw[cmp_eqs,beq1]
 have x4:cmpV .eq (.str [c]) (.str [66])=some (c==66):=by rw[cmp_eqs,beq1]
 have x5:cmpV .eq (.str [c]) (.str [84])=some (c==84):=by rw[cmp_eqs,beq1]
 have hs:=hu.trans (skip_suf u);have ht':t.length<=100000:=by omega
 unfold controlC;by_cases h1:c=47\/c=58
 ·rw[if_pos h1];generalize cF N (n + 3)=call at *;refine run_ret (H':=H) rfl ?_ (pI (.nums [c] []) _) LT;rcases h1 with rfl | rfl<;>simp only[F_control_at,LC,LN,EA,EB,EC,ED,EG,EF,EH,ZA,ZB,ZC,ZD,ZE,ZF,ZG,ZH,ZI,ZJ,List.replicate,ei,x1,x2,beq_self_eq_true,show ((58:Nat)==47)=false from rfl,binV,ep,It.toV,cp1,cp2,if_true]
 rw[if_neg h1];have y1:(c==47)=false:=BN.mpr fun z=>h1 (.inl z)
 have y2:(c==58)=false:=BN.mpr fun z=>h1 (.inr z)
 by_cases h2:c=83
 ·subst h2;rw[if_pos rfl];cases hsk:skip u with
  | nil=>
   rw[hsk] at e0 hs;have e2:=@s_is_nil t N H 80 (n + 2) ht';have e3:=@s_is_nil t N H 83 (n + 2) ht';generalize cF N (n + 3)=call at *;refine run_ret (H':=H) rfl ?_ (pI (.nums [83] []) _) LT;simp only[F_control_at,LC,LN,EA,EB,EC,ED,EG,EF,EH,ZA,ZB,ZC,ZD,ZE,ZF,ZG,ZH,ZI,ZJ,List.replicate,ei,x1,x2,x3,y1,y2,beq_self_eq_true,binV,ep,e0,e2,e3,It.toV,cp1,cp2,if_true]
  | cons d r=>
   rw[hsk] at e0 hs;have e2:=s_is_hd (N:=N) (H:=H) (c:=80) (n:=n + 2) hs ht';have e3:=s_is_hd (N:=N) (H:=H) (c:=83) (n:=n + 2) hs ht';have ed:=e_idx (H:=H) hs;have epd:=p_tail hs;generalize cF N (n + 3)=call at *;dsimp only;by_cases hd:d=80\/d=83
   ·rw[if_pos hd];refine run_ret (H':=H) rfl ?_ (pI (.nums [83,d] []) _) LT;rcases hd with rfl | rfl<;>simp only[F_control_at,LC,LN,EA,EB,EC,ED,EG,EF,EH,ZA,ZB,ZC,ZD,ZE,ZF,ZG,ZH,ZI,ZJ,List.replicate,ei,x1,x2,x3,y1,y2,beq_self_eq_true,binV,ep,e0,e2,e3,show ((83:Nat)==80)=false from rfl,ed,epd,It.toV,cp1,cp2,if_true]
   ·rw[if_neg hd];have z1:(d==80)=false:=BN.mpr fun z=>hd (.inl z)
    have z2:(d==83)=false:=BN.mpr fun z=>hd (.inr z)
    refine run_ret (H':=H) rfl ?_ (pI (.nums [83] []) _) LT;simp only[F_control_at,LC,LN,EA,EB,EC,ED,EG,EF,EH,ZA,ZB,ZC,ZD,ZE,ZF,ZG,ZH,ZI,ZJ,List.replicate,ei,x1,x2,x3,y1,y2,beq_self_eq_true,binV,ep,e0,e2,e3,z1,z2,It.toV,cp1,cp2,if_true]
 rw[if_neg h2];have y3:(c==83)=false:=BN.mpr h2;by_cases h3:c=66
 ·subst h3;rw[if_pos rfl];cases hsk:skip u with
  | nil=>
   rw[hsk] at e0 hs;have e2:=@s_is_nil t N H 78 (n + 2) ht';have e3:=@s_is_nil t N H 90 (n + 2) ht';generalize cF N (n + 3)=call at *;refine run_exc (H':=H) rfl ?_ LT;simp only[F_control_at,LC,LN,EA,EB,EC,ED,EG,EF,EH,ZA,ZB,ZC,ZD,ZE,ZF,ZG,ZH,ZI,ZJ,List.replicate,ei,x1,x2,x3,x4,x5,y1,y2,y3,beq_self_eq_true,binV,ep,e0,e2,e3,show ((66:Nat)==84)=false from rfl]
  | cons d r=>
   rw[hsk] at e0 hs;have e2:=s_is_hd (N:=N) (H:=H) (c:=78) (n:=n + 2) hs ht';have e3:=s_is_hd (N:=N) (H:=H) (c:=90) (n:=n + 2) hs ht';have ed:=e_idx (H:=H) hs;have epd:=p_tail hs;generalize cF N (n + 3)=call at *;dsimp only;by_cases hd:d=78\/d=90
   ·rw[if_pos hd];refine run_ret (H':=H) rfl ?_ (pI (.nums [66,d] []) _) LT;rcases hd with rfl | rfl<;>simp only[F_control_at,LC,LN,EA,EB,EC,ED,EG,EF,EH,ZA,ZB,ZC,ZD,ZE,ZF,ZG,ZH,ZI,ZJ,List.replicate,ei,x1,x2,x3,x4,y1,y2,y3,beq_self_eq_true,binV,ep,e0,e2,e3,show ((90:Nat)==78)=false from rfl,ed,epd,It.toV,cp1,cp2,if_true]
   ·rw[if_neg hd];have z1:(d==78)=false:=BN.mpr fun z=>hd (.inl z)
    have z2:(d==90)=false:=BN.mpr fun z=>hd (.inr z)
    refine run_exc (H':=H) rfl ?_ LT;simp only[F_control_at,LC,LN,EA,EB,EC,ED,EG,EF,EH,ZA,ZB,ZC,ZD,ZE,ZF,ZG,ZH,ZI,ZJ,List.replicate,ei,x1,x2,x3,x4,x5,y1,y2,y3,beq_self_eq_true,binV,ep,e0,e2,e3,z1,z2,show ((66:Nat)==84)=false from rfl]
 rw[if_neg h3];have y4:(c==66)=false:=BN.mpr h3;by_cases h4:c=84
 ·subst h4;rw[if_pos rfl];cases hsk:skip u with
  | nil=>
   rw[hsk] at e0 hs;have e2:=@s_is_nil t N H 76 (n + 2) ht';have e3:=@s_is_nil t N H 82 (n + 2) ht';have e4:=s_size_at (H:=H) (n:=n) (k:=1) hs hN;rw[show sizeC 1 []=none from rfl,rsS] at e4;simp only[Int.natCast_one] at e4;generalize cF N (n + 3)=call at *;refine run_exc (H':=H) rfl ?_ LT;simp only[F_control_at,LC,LN,EA,EB,EC,ED,EG,EF,EH,ZA,ZB,ZC,ZD,ZE,ZF,ZG,ZH,ZI,ZJ,List.replicate,ei,x1,x2,x3,x4,x5,y1,y2,y3,y4,beq_self_eq_true,binV,ep,e0,e2,e3,e4]
  | cons d r=>
   rw[hsk] at e0 hs;have e2:=s_is_hd (N:=N) (H:=H) (c:=76) (n:=n + 2) hs ht';have e3:=s_is_hd (N:=N) (H:=H) (c:=82) (n:=n + 2) hs ht';have ed:=e_idx (H:=H) hs;have epd:=p_tail hs;dsimp only;by_cases hd:d=76\/d=82
   ·rw[if_pos hd];have e4:=s_size_at (H:=H) (n:=n) (k:=1) hs.tail hN;simp only[Int.natCast_one] at e4;unfold tabC;cases hz:sizeC 1 r with
    | none=>
     rw[hz,rsS] at e4;generalize cF N (n + 3)=call at *;refine run_exc (H':=H) rfl ?_ LT;rcases hd with rfl | rfl<;>simp only[F_control_at,LC,LN,EA,EB,EC,ED,EG,EF,EH,ZA,ZB,ZC,ZD,ZE,ZF,ZG,ZH,ZI,ZJ,List.replicate,ei,x1,x2,x3,x4,x5,y1,y2,y3,y4,beq_self_eq_true,binV,ep,e0,e2,e3,show ((82:Nat)==76)=false from rfl,ed,epd,e4,capS (show 0 + 1 + (0 + 1)<=10 by decide),if_true]
    | some p=>
     rw[hz,rsS] at e4;generalize cF N (n + 3)=call at *;refine run_ret (H':=H) rfl ?_ (pI (.nums [84,d] [some (p.1:Int)]) _) LT;rcases hd with rfl | rfl<;>simp only[F_control_at,LC,LN,EA,EB,EC,ED,EG,EF,EH,ZA,ZB,ZC,ZD,ZE,ZF,ZG,ZH,ZI,ZJ,List.replicate,ei,x1,x2,x3,x4,x5,y1,y2,y3,y4,beq_self_eq_true,binV,ep,e0,e2,e3,show ((82:Nat)==76)=false from rfl,ed,epd,e4,capS (show 0 + 1 + (0 + 1)<=10 by decide),setAll,It.toV,pV,cp2,if_true]
   ·rw[if_neg hd];have z1:(d==76)=false:=BN.mpr fun z=>hd (.inl z)
    have z2:(d==82)=false:=BN.mpr fun z=>hd (.inr z)
    have e4:=s_size_at (H:=H) (n:=n) (k:=1) hs hN;simp only[Int.natCast_one] at e4;unfold tabC;cases hz:sizeC 1 (d::r) with
    | none=>
     rw[hz,rsS] at e4;generalize cF N (n + 3)=call at *;refine run_exc (H':=H) rfl ?_ LT;simp only[F_control_at,LC,LN,EA,EB,EC,ED,EG,EF,EH,ZA,ZB,ZC,ZD,ZE,ZF,ZG,ZH,ZI,ZJ,List.replicate,ei,x1,x2,x3,x4,x5,y1,y2,y3,y4,beq_self_eq_true,binV,ep,e0,e2,e3,z1,z2,e4]
    | some p=>
     rw[hz,rsS] at e4;generalize cF N (n + 3)=call at *;refine run_ret (H':=H) rfl ?_ (pI (.nums [84] [some (p.1:Int)]) _) LT;simp only[F_control_at,LC,LN,EA,EB,EC,ED,EG,EF,EH,ZA,ZB,ZC,ZD,ZE,ZF,ZG,ZH,ZI,ZJ,List.replicate,ei,x1,x2,x3,x4,x5,y1,y2,y3,y4,beq_self_eq_true,binV,ep,e0,e2,e3,z1,z2,e4,setAll,It.toV,pV,cp2,if_true]
 rw[if_neg h4];have y5:(c==84)=false:=BN.mpr h4;generalize cF N (n + 3)=call at *;refine run_exc (H':=H) rfl ?_ LT;simp only[F_control_at,LC,LN,EA,EB,EC,ED,EG,EF,EH,ZA,ZB,ZC,ZD,ZE,ZF,ZG,ZH,ZI,ZJ,List.replicate,ei,x1,x2,x3,x4,x5,y1,y2,y3,y4,y5,binV,ep,e0]
end
def words:List Txt:=[[73],[76],[65],[70],[69],[68],[71],[80],[88],[47],[58],[83],[83,80],[83,83],[66,78],[66,90],[84],[84,76],[84,82]]
def wordsA:List Txt:=words++[[72],[114,101,112,101,97,116],[103,114,111,117,112]]
def It.wd:It->Prop
 | .nums w _=>w∈words
 | .text _=>True
 | .rep _ j=>j.word∈words
 | .grp _ _=>True
theorem words_sub {w:Txt}(h:w∈words):w∈wordsA:=List.mem_append_left _ h
theorem wd_word {i:It}(h:i.wd):i.word∈wordsA/\i.kind∈wordsA:=by
 cases i with
 | nums w ps=>exact⟨words_sub h,words_sub h⟩
 | text s=>exact⟨show ([72]:Txt)∈wordsA by decide,show ([72]:Txt)∈wordsA by decide⟩
 | rep k j=>exact⟨show ([114,101,112,101,97,116]:Txt)∈wordsA by decide,words_sub h⟩
 | grp k l=>exact⟨show ([103,114,111,117,112]:Txt)∈wordsA by decide,show ([103,114,111,117,112]:Txt)∈wordsA by decide⟩
theorem words_sep:∀ w∈wordsA,isSub w [47,58]=(decide (w=[47])||decide (w=[58])):=by decide
theorem words_real:∀ w∈wordsA,isSub w [70,69,68,71]=(decide (w=[70])||decide (w=[69])||decide (w=[68])||decide (w=[71])):=by decide
theorem words_rep:∀ w∈words,(w==[114,101,112,101,97,116])=false:=by decide
theorem valueC_wd {k:Nat}{u r:Txt}{i:It}(hk:isVal k=true) (h:valueC k u=some (i,r)):i.wd/\∀ n,It.wd (.rep n i):=by
 have key:∀ w:Txt,w∈words->∀ ps,It.wd (.nums w ps)/\∀ n,It.wd (.rep n (.nums w ps)):=fun w hw ps=>⟨hw,fun n=>hw⟩
 unfold valueC at h;split at h
 ·unfold wholeC at h;split at h
  ·cases h
  split at h
  ·split at h
   ·cases h
   split at h
   ·cases h
   ·simp at h;rw[<- h.1];exact key _ (by decide) _
  ·simp at h;rw[<- h.1];exact key _ (by decide) _
 split at h
 ·rw[Option.map_eq_some_iff] at h;obtain⟨p,_,h2⟩:=h;simp at h2;rw[<- h2.1];exact key _ (by decide) _
 split at h
 ·split at h
  ·cases h
  ·split at h
   ·cases h
   ·simp at h;rw[<- h.1];exact key _ (by decide) _
  ·simp at h;rw[<- h.1];exact key _ (by decide) _
 ·rename_i n1 n2 n3;have hw:[k]∈words:=by
   simp[isVal,n1,n2,n3] at hk;rcases hk with ((rfl | rfl) | rfl) | rfl<;>decide
  unfold realC at h;split at h
  ·cases h
  split at h
  ·cases h
  split at h
  ·cases h
  split at h
  ·simp at h;rw[<- h.1];exact key _ hw _
  split at h
  ·simp at h;rw[<- h.1];exact key _ hw _
  split at h
  ·cases h
  ·simp at h;rw[<- h.1];exact key _ hw _
theorem itemC_wd {g:Nat->Txt->Option (It × Txt)}(hg:∀ k u i r,g k u=some (i,r)->i.wd){u r:Txt}{i:It}(h:itemC g u=some (i,r)):i.wd:=by
 have key:∀ w:Txt,w∈words->∀ ps,It.wd (.nums w ps):=fun w hw ps=>hw
 have keyT:∀ s,It.wd (.text s):=fun s=>trivial
 have quo:∀ (m:Nat) (u out:Txt){r:Txt}{i:It},u.length<=m->quotedGo out u=some (i,r)->i.wd:=by
  intro m
  induction m with
  | zero=>
   intro u out r i hm h;cases u with
   | nil=>simp[quotedGo] at h
   | cons c u=>simp at hm
  | succ m ih=>
   intro u out r i hm h;cases u with
   | nil=>simp[quotedGo] at h
   | cons c u=>
    simp only[LC] at hm;unfold quotedGo at h;split at h
    ·exact ih _ _ (by omega) h
    ·split at h
     ·split at h
      ·cases h
      ·simp at h;rw[<- h.1];exact keyT _
     ·simp only[LC] at hm;split at h
      ·exact ih _ _ (by omega) h
      ·split at h
       ·cases h
       ·simp at h;rw[<- h.1];exact keyT _
 unfold itemC at h;split at h
 ·cases h
 split at h
 ·unfold countedC at h;split at h
  ·split at h
   ·cases h
   split at h
   ·simp at h;rw[<- h.1];exact key _ (by decide) _
   split at h
   ·cases h
   split at h
   ·simp at h;rw[<- h.1];exact key _ (by decide) _
   split at h
   ·unfold countedText at h;split at h
    ·simp at h;rw[<- h.1];exact keyT _
    ·cases h
   split at h
   ·exact hg _ _ _ _ h
   split at h
   ·rename_i hv;rw[Option.map_eq_some_iff] at h;obtain⟨p,hp,h2⟩:=h;obtain⟨q1,q3⟩:=valueC_wd hv hp;simp at h2;rw[<- h2.1];split
    ·exact q3 _
    ·exact q1
   ·cases h
  ·cases h
 split at h
 ·exact quo _ _ _ (Nat.le_refl _) h
 split at h
 ·unfold scaleC at h;split at h
  ·cases h
  split at h
  ·cases h
  ·simp at h;rw[<- h.1];exact key _ (by decide) _
 split at h
 ·exact hg _ _ _ _ h
 split at h
 ·rename_i hv;exact (valueC_wd hv h).1
 ·unfold controlC at h;split at h
  ·rename_i hc;simp at h;rw[<- h.1];rcases hc with rfl | rfl<;>exact key _ (by decide) _
  split at h
  ·split at h
   ·split at h
    ·rename_i hc;simp at h;rw[<- h.1];rcases hc with rfl | rfl<;>exact key _ (by decide) _
    ·simp at h;rw[<- h.1];exact key _ (by decide) _
   ·simp at h;rw[<- h.1];exact key _ (by decide) _
  split at h
  ·split at h
   ·split at h
    ·rename_i hc;simp at h;rw[<- h.1];rcases hc with rfl | rfl<;>exact key _ (by decide) _
    ·cases h
   ·cases h
  split at h
  ·split at h
   ·split at h
    ·rename_i hc;unfold tabC at h;rw[Option.map_eq_some_iff] at h;obtain⟨p,hp,h2⟩:=h;simp at h2;rw[<- h2.1];rcases hc with rfl | rfl<;>exact key _ (by decide) _
    ·unfold tabC at h;rw[Option.map_eq_some_iff] at h;obtain⟨p,hp,h2⟩:=h;simp at h2;rw[<- h2.1];exact key _ (by decide) _
   ·cases h
  ·cases h
theorem grpC_wd {f lim k:Nat}{u r:Txt}{i:It}(h:grpC f lim k u=some (i,r)):i.wd:=by
 unfold grpC at h;split at h
 ·cases h
 ·split at h
  ·simp at h;rw[<- h.1];exact trivial
  ·cases h
section
variable {t:Txt}{b N:Nat}{H:Hp}
theorem word_idx (i:It):idxV H i.toV (.int 0)=some (.str i.word):=by cases i<;>rfl
theorem s_may_join {a i:It}{n:Nat}(ha:a.wd) (hi:i.wd):cF N (n + 1) 16 [a.toV,i.toV] H=some (.ok (.bool (loose a i)) H):=by
 rw[callF_succ N n 16 _ _ rfl];have ea:=word_idx (H:=H) a;have ei:=word_idx (H:=H) i;have i1:cmpV .isIn (.str a.word) (.str [47,58])=some (decide (a.word=[47])||decide (a.word=[58])):=by rw[<- words_sep _ (wd_word ha).1];rfl
 have i2:cmpV .isIn (.str i.word) (.str [47,58])=some (decide (i.word=[47])||decide (i.word=[58])):=by rw[<- words_sep _ (wd_word hi).1];rfl
 have i3:cmpV .isIn (.str i.kind) (.str [70,69,68,71])=some (decide (i.kind=[70])||decide (i.kind=[69])||decide (i.kind=[68])||decide (i.kind=[71])):=by rw[<- words_real _ (wd_word hi).2];rfl
 have x1:cmpV .eq (.str i.word) (.str [114,101,112,101,97,116])=some (i.word==[114,101,112,101,97,116]):=cmp_eqs _ _;have x2:cmpV .eq (.str a.word) (.str [80])=some (a.word==[80]):=cmp_eqs _ _;refine run_ret (H':=H) rfl ?_ rfl LT;generalize cF N n=call at *;unfold loose;cases h1:(decide (a.word=[47])||decide (a.word=[58])) with
 | true=>
  rw[h1] at i1;simp only[F_may_join,LC,LN,EA,EB,EC,ED,EG,EF,EH,ZA,ZB,ZC,ZD,ZE,ZF,ZG,ZH,ZI,ZJ,ea,i1,BU]
 | false=>
  rw[h1] at i1;cases h2:(decide (i.word=[47])||decide (i.word=[58])) with
  | true=>
   rw[h2] at i2;have e:(false||decide (i.word=[47])||decide (i.word=[58]))=true:=by rw[BT];exact h2
   simp only[F_may_join,LC,LN,EA,EB,EC,ED,EG,EF,EH,ZA,ZB,ZC,ZD,ZE,ZF,ZG,ZH,ZI,ZJ,ea,ei,i1,i2,e,BU]
  | false=>
   rw[h2] at i2;have e:(false||decide (i.word=[47])||decide (i.word=[58]))=false:=by rw[BT];exact h2
   rw[e,BT];have key:∀ (iv:V),(idxV H iv (.int 0)=some (.str i.kind))->EA call N H.length (.cons (.ret (.and (.cmp .eq (.idx (.loc 0) (.int 0)) (.str [80])) (.cmp .isIn (.idx (.loc 1) (.int 0)) (.str [70,69,68,71])))) .nil) [some a.toV,some iv] H =
     some (.ret (.bool (decide (a.word=[80])&&(decide (i.kind=[70])||decide (i.kind=[69])||decide (i.kind=[68])||decide (i.kind=[71])))) H):=by
    intro iv hiv;have e80:decide (a.word=[80])=(a.word==[80]):=by rw[Bool.eq_iff_iff];simp
    cases h3:(a.word==[80]) with
    | true=>
     rw[h3] at x2;simp only[EA,EB,EC,ED,EG,EF,EH,ZA,ZB,ZC,ZD,ZE,ZF,ZG,ZH,ZI,ZJ,ea,x2,hiv,i3,e80,h3,BS]
    | false=>
     rw[h3] at x2;simp only[EA,EB,EC,ED,EG,EF,EH,ZA,ZB,ZC,ZD,ZE,ZF,ZG,ZH,ZI,ZJ,ea,x2,e80,h3,BR]
   have s0:∀ iv:V,idxV H iv (.int 0)=some (.str i.word)->EB call N H.length (.ite (.or (.cmp .isIn (.idx (.loc 0) (.int 0)) (.str [47,58])) (.cmp .isIn (.idx (.loc 1) (.int 0)) (.str [47,58]))) (.cons (.ret (.bool true)) .nil) .nil) [some a.toV,some iv] H=some (.next [some a.toV,some iv] H):=by
    intro iv hiv;simp only[EA,EB,EC,ED,EG,EF,EH,ZA,ZB,ZC,ZD,ZE,ZF,ZG,ZH,ZI,ZJ,ea,hiv,i1,i2]
   have s1:∀ iv:V,idxV H iv (.int 0)=some (.str i.word)->(i.word==[114,101,112,101,97,116])=false->EB call N H.length (.ite (.cmp .eq (.idx (.loc 1) (.int 0)) (.str [114,101,112,101,97,116])) (.cons (.assign 1 (.idx (.loc 1) (.int 2))) .nil) .nil) [some a.toV,some iv] H=some (.next [some a.toV,some iv] H):=by
    intro iv hiv hw;rw[hw] at x1;simp only[EA,EB,EC,ED,EG,EF,EH,ZA,ZB,ZC,ZD,ZE,ZF,ZG,ZH,ZI,ZJ,hiv,x1]
   have nonrep:i.kind=i.word->(i.word==[114,101,112,101,97,116])=false->EA call N H.length F_may_join.body [some a.toV,some i.toV] H =
     some (.ret (.bool (decide (a.word=[80])&&(decide (i.kind=[70])||decide (i.kind=[69])||decide (i.kind=[68])||decide (i.kind=[71])))) H):=fun hk hw=>
    ss_next (s0 _ ei) (ss_next (s1 _ ei hw) (key _ (hk ▸ ei)))
   refine st2 (loc:=[some a.toV,some i.toV]) rfl ?_;cases i with
   | rep k j=>
    refine ss_next (s0 _ ei) (ss_next (l':=[some a.toV,some j.toV]) (H':=H) ?_ (key _ (word_idx j)));have:idxV H (It.toV (.rep k j)) (.int 2)=some j.toV:=rfl;have x3:((It.rep k j).word==[114,101,112,101,97,116])=true:=rfl;rw[x3] at x1;simp only[EA,EB,EC,ED,EG,EF,EH,ZA,ZB,ZC,ZD,ZE,ZF,ZG,ZH,ZI,ZJ,ei,x1,this]
   | nums w ps=>exact nonrep rfl (words_rep _ hi)
   | text s=>exact nonrep rfl rfl
   | grp k l=>exact nonrep rfl rfl
end
section
variable {t:Txt}{b N:Nat}{H:Hp}
theorem sub_val (c:Nat):isSub [c] [73,70,69,68,71,76,65]=isVal c:=by
 rw[Bool.eq_iff_iff];simp[isSub,isPre,isVal];omega
theorem val_ne {c:Nat}(h:isVal c=true):c≠80/\c≠88/\c≠72/\c≠40/\c≠39/\c≠43/\c≠45/\isDig c=false:=by
 simp[isVal] at h;rcases h with (((((rfl | rfl) | rfl) | rfl) | rfl) | rfl) | rfl<;>decide
theorem sl_hd {c:Nat}{r:Txt}(h:Suf t (c::r)) (ht:t.length<=100000):slV (.str t) (.int (pos t (c::r))) (.int ((pos t (c::r):Nat) + 1))=some (.str [c]):=by
 rw[e_sl1 h ht];rfl
theorem sl_nil (ht:t.length<=100000):slV (.str t) (.int (pos t [])) (.int ((pos t []:Nat) + 1))=some (.str []):=by
 rw[e_sl1 ⟨t,by simp⟩ ht];rfl
theorem run_rsI {call:Nat->List V->Hp->Option (Res V)}{fn:Fn}{args:List V}{x:Option (It × Txt)}(h0:args.length=fn.params)
  (h:EA call N H.length fn.body (args.map some++List.replicate (fn.vars.length - fn.params) none) H=match x with
   | none=>some (.exc H)
   | some (i,r)=>some (.ret (.tup [i.toV,.int (pos t r)]) H)):runF call N fn args H=rsI t H x:=by
 cases x with
 | none=>exact run_exc h0 h LT
 | some p=>exact run_ret h0 h (pI _ _) LT
theorem ite_ret {call:Nat->List V->Hp->Option (Res V)}{c:E}{s r:Ss}{l:Loc}{x:Option RS}(hc:EC call b l c H=some (.ok (.bool true) H)) (hs:EA call N b s l H=x) (hx:∀ l' H',x≠some (.next l' H')):EA call N b (.cons (.ite c s .nil) r) l H=x:=by
 have e:EB call N b (.ite c s .nil) l H=x:=by simp only[EB,hc,EF,hs]
 rw[EA,e];cases x with
 | none=>rfl
 | some y=>cases y with
  | next l' H'=>exact absurd rfl (hx l' H')
  | _=>rfl
theorem ite_skip {call:Nat->List V->Hp->Option (Res V)}{c:E}{s r:Ss}{l:Loc}{x:Option RS}(hc:EC call b l c H=some (.ok (.bool false) H)) (hs:EA call N b r l H=x):EA call N b (.cons (.ite c s .nil) r) l H=x:=by
 have e:EB call N b (.ite c s .nil) l H=some (.next l H):=by simp only[EB,hc,EF,EA]
 rw[EA,e];exact hs
def outI (t:Txt) (H:Hp):Option (It × Txt)->Option RS
 | none=>some (.exc H)
 | some (i,r)=>some (.ret (.tup [i.toV,.int (pos t r)]) H)
theorem ret_call {call:Nat->List V->Hp->Option (Res V)}{f:Nat}{es:Es}{l:Loc}{vs:List V}{x:Option (It × Txt)}{r:Ss}(h2:call f vs H=rsI t H x) (h1:ED call b l es H=some (.ok vs H)) :
  EA call N b (.cons (.ret (.call f es)) r) l H=outI t H x:=by
 cases x with
 | none=>rw[rsI] at h2;exact ss_exc (by simp only[EB,EC,EG,EF,h1,h2])
 | some p=>rw[rsI] at h2;exact ss_ret (by simp only[EB,EC,EG,EF,h1,h2])
theorem outI_ne {x:Option (It × Txt)}(l':Loc) (H':Hp):outI t H x≠some (.next l' H'):=by
 cases x<;>simp[outI]
theorem s_counted_at {u:Txt}{n c:Nat}{g:Nat->Txt->Option (It × Txt)}{dep:Int}(h:Suf t (c::u)) (hd:isDig c=true) (hN:t.length < N) (ht:t.length<=80000)
  (hg:∀ (k:Nat) (r:Txt),0 < k->Suf u (40::r)->cF N (n + 6) 13 [.str t,.int (pos t (40::r)),.int (k:Int),.int dep] H=rsI t H (g k r)) :
  cF N (n + 7) 14 [.str t,.int (pos t (c::u)),.int dep] H=rsI t H (countedC g (c::u)):=by
 rw[callF_succ N (n + 6) 14 _ _ rfl];refine run_rsI rfl (st2 (loc:=[some (.str t),some (.int (pos t (c::u))),some (.int dep),none,none,none,none,none]) rfl ?_);show _=outI t H _;have e1:=s_number_at (H:=H) (n:=n + 4) h hN;have hdc:=numC_dig (r:=u) hd;unfold countedC;rw[hdc] at e1 ⊢;cases hn:numGo (c - 48) u with
 | none=>
  rw[hn] at e1;simp only[ZF,rsN] at e1;generalize cF N (n + 6)=call at *;exact ss_exc (by simp only[EA,EB,EC,ED,EG,EF,EH,ZA,ZB,ZC,ZD,ZE,ZF,ZG,ZH,ZI,ZJ,e1])
 | some p=>
  obtain⟨k,r⟩:=p;rw[hn] at e1;simp only[ZE,rsN,optN] at e1;have hur:Suf u r:=numGo_suf _ _ hn;have hr:Suf t r:=h.tail.trans hur;have hk:k<=9999:=numGo_le _ _ (by have:=dig_le hd;omega) hn;have ht':t.length<=100000:=by omega
  simp only[ZE];cases r with
  | nil=>
   have e2:=sl_nil ht';generalize cF N (n + 6)=call at *;have c1:cmpV .eq (.str []) (.str [80])=some false:=cmp_eqs _ _;have c2:cmpV .eq (.str []) (.str [88])=some false:=cmp_eqs _ _;have c3:cmpV .eq (.str []) (.str [72])=some false:=cmp_eqs _ _;have c4:cmpV .eq (.str []) (.str [40])=some false:=cmp_eqs _ _;have c5:cmpV .eq (.str []) (.str [])=some true:=cmp_eqs _ _;have c6:cmpV .eq (.int (k:Int)) (.int 0)=some ((k:Int)==0):=cmp_eqi _ _;refine ss_next (l':=[some (.str t),some (.int (pos t (c::u))),some (.int dep),some (.int (k:Int)),some (.int (pos t [])),none,none,none]) (H':=H) (by simp only[EA,EB,EC,ED,EG,EF,EH,ZA,ZB,ZC,ZD,ZE,ZF,ZG,ZH,ZI,ZJ,e1,setAll]) ?_;refine ss_next (l':=[some (.str t),some (.int (pos t (c::u))),some (.int dep),some (.int (k:Int)),some (.int (pos t [])),some (.str []),none,none]) (H':=H) (by simp only[EA,EB,EC,ED,EG,EF,EH,ZA,ZB,ZC,ZD,ZE,ZF,ZG,ZH,ZI,ZJ,binV,e2]) ?_;refine ite_skip (by simp only[EA,EB,EC,ED,EG,EF,EH,ZA,ZB,ZC,ZD,ZE,ZF,ZG,ZH,ZI,ZJ,c1]) ?_;cases hz:((k:Int)==0) with
   | true=>
    rw[hz] at c6;exact ite_ret (by simp only[EA,EB,EC,ED,EG,EF,EH,ZA,ZB,ZC,ZD,ZE,ZF,ZG,ZH,ZI,ZJ,c6]) (ss_exc (by simp only[EA,EB,EC,ED,EG,EF,EH,ZA,ZB,ZC,ZD,ZE,ZF,ZG,ZH,ZI,ZJ])) outI_ne
   | false=>
    rw[hz] at c6;refine ite_skip (by simp only[EA,EB,EC,ED,EG,EF,EH,ZA,ZB,ZC,ZD,ZE,ZF,ZG,ZH,ZI,ZJ,c6]) ?_;refine ite_skip (by simp only[EA,EB,EC,ED,EG,EF,EH,ZA,ZB,ZC,ZD,ZE,ZF,ZG,ZH,ZI,ZJ,c2]) ?_;refine ite_skip (by simp only[EA,EB,EC,ED,EG,EF,EH,ZA,ZB,ZC,ZD,ZE,ZF,ZG,ZH,ZI,ZJ,c3]) ?_;refine ite_skip (by simp only[EA,EB,EC,ED,EG,EF,EH,ZA,ZB,ZC,ZD,ZE,ZF,ZG,ZH,ZI,ZJ,c4]) ?_;exact ite_ret (by simp only[EA,EB,EC,ED,EG,EF,EH,ZA,ZB,ZC,ZD,ZE,ZF,ZG,ZH,ZI,ZJ,c5]) (ss_exc (by simp only[EA,EB,EC,ED,EG,EF,EH,ZA,ZB,ZC,ZD,ZE,ZF,ZG,ZH,ZI,ZJ])) outI_ne
  | cons d r'=>
   have e2:=sl_hd hr ht';have hr':=hr.tail;have ep:=p_tail hr;have e3:=s_counted_text (N:=N) (H:=H) (n:=n + 5) (k:=k) hr' ht hk;have e4:=s_value_edit (N:=N) (H:=H) (n:=n) (k:=d) hr hN ht';have e5:=fun (q:d=40) (hk0 : 0 < k)=>hg k r' hk0 (by rw[<- q];exact hur)
   generalize cF N (n + 6)=call at *;have c1:cmpV .eq (.str [d]) (.str [80])=some (d==80):=by rw[cmp_eqs,beq1]
   have c2:cmpV .eq (.str [d]) (.str [88])=some (d==88):=by rw[cmp_eqs,beq1]
   have c3:cmpV .eq (.str [d]) (.str [72])=some (d==72):=by rw[cmp_eqs,beq1]
   have c4:cmpV .eq (.str [d]) (.str [40])=some (d==40):=by rw[cmp_eqs,beq1]
   have c5:cmpV .eq (.str [d]) (.str [])=some false:=by rw[cmp_eqs];rfl
   have c6:cmpV .eq (.int (k:Int)) (.int 0)=some ((k:Int)==0):=cmp_eqi _ _;have c7:cmpV .notIn (.str [d]) (.str [73,70,69,68,71,76,65])=some (!isVal d):=by rw[<- sub_val d];rfl
   refine ss_next (l':=[some (.str t),some (.int (pos t (c::u))),some (.int dep),some (.int (k:Int)),some (.int (pos t (d::r'))),none,none,none]) (H':=H) (by simp only[EA,EB,EC,ED,EG,EF,EH,ZA,ZB,ZC,ZD,ZE,ZF,ZG,ZH,ZI,ZJ,e1,setAll]) ?_;refine ss_next (l':=[some (.str t),some (.int (pos t (c::u))),some (.int dep),some (.int (k:Int)),some (.int (pos t (d::r'))),some (.str [d]),none,none]) (H':=H) (by simp only[EA,EB,EC,ED,EG,EF,EH,ZA,ZB,ZC,ZD,ZE,ZF,ZG,ZH,ZI,ZJ,binV,e2]) ?_;dsimp only;by_cases q1:d=80
   ·subst q1;rw[if_pos rfl];refine ite_ret (by simp only[EA,EB,EC,ED,EG,EF,EH,ZA,ZB,ZC,ZD,ZE,ZF,ZG,ZH,ZI,ZJ,c1,beq_self_eq_true]) (ss_ret ?_) outI_ne;simp only[EA,EB,EC,ED,EG,EF,EH,ZA,ZB,ZC,ZD,ZE,ZF,ZG,ZH,ZI,ZJ,binV,ep,LC,LN,cp2,if_true,It.toV,pV,outI]
   rw[if_neg q1];refine ite_skip (by simp only[EA,EB,EC,ED,EG,EF,EH,ZA,ZB,ZC,ZD,ZE,ZF,ZG,ZH,ZI,ZJ,c1,BN.mpr q1]) ?_;by_cases q0:k=0
   ·rw[if_pos q0];have z0:((k:Int)==0)=true:=beq_iff_eq.mpr (by omega);rw[z0] at c6;exact ite_ret (by simp only[EA,EB,EC,ED,EG,EF,EH,ZA,ZB,ZC,ZD,ZE,ZF,ZG,ZH,ZI,ZJ,c6]) (ss_exc (by simp only[EA,EB,EC,ED,EG,EF,EH,ZA,ZB,ZC,ZD,ZE,ZF,ZG,ZH,ZI,ZJ,outI])) outI_ne
   rw[if_neg q0];have z0:((k:Int)==0)=false:=BN.mpr (by omega);refine ite_skip (by simp only[EA,EB,EC,ED,EG,EF,EH,ZA,ZB,ZC,ZD,ZE,ZF,ZG,ZH,ZI,ZJ,c6,z0]) ?_;by_cases q2:d=88
   ·subst q2;rw[if_pos rfl];refine ite_ret (by simp only[EA,EB,EC,ED,EG,EF,EH,ZA,ZB,ZC,ZD,ZE,ZF,ZG,ZH,ZI,ZJ,c2,beq_self_eq_true]) (ss_ret ?_) outI_ne;simp only[EA,EB,EC,ED,EG,EF,EH,ZA,ZB,ZC,ZD,ZE,ZF,ZG,ZH,ZI,ZJ,binV,ep,LC,LN,cp2,if_true,It.toV,pV,outI]
   rw[if_neg q2];refine ite_skip (by simp only[EA,EB,EC,ED,EG,EF,EH,ZA,ZB,ZC,ZD,ZE,ZF,ZG,ZH,ZI,ZJ,c2,BN.mpr q2]) ?_;by_cases q3:d=72
   ·subst q3;rw[if_pos rfl];exact ite_ret (by simp only[EA,EB,EC,ED,EG,EF,EH,ZA,ZB,ZC,ZD,ZE,ZF,ZG,ZH,ZI,ZJ,c3,beq_self_eq_true]) (ret_call e3 (by simp only[EA,EB,EC,ED,EG,EF,EH,ZA,ZB,ZC,ZD,ZE,ZF,ZG,ZH,ZI,ZJ,binV,ep])) outI_ne
   rw[if_neg q3];refine ite_skip (by simp only[EA,EB,EC,ED,EG,EF,EH,ZA,ZB,ZC,ZD,ZE,ZF,ZG,ZH,ZI,ZJ,c3,BN.mpr q3]) ?_;by_cases q4:d=40
   ·subst q4;rw[if_pos rfl];exact ite_ret (by simp only[EA,EB,EC,ED,EG,EF,EH,ZA,ZB,ZC,ZD,ZE,ZF,ZG,ZH,ZI,ZJ,c4,beq_self_eq_true]) (ret_call (e5 rfl (by omega)) (by simp only[EA,EB,EC,ED,EG,EF,EH,ZA,ZB,ZC,ZD,ZE,ZF,ZG,ZH,ZI,ZJ])) outI_ne
   rw[if_neg q4];refine ite_skip (by simp only[EA,EB,EC,ED,EG,EF,EH,ZA,ZB,ZC,ZD,ZE,ZF,ZG,ZH,ZI,ZJ,c4,BN.mpr q4]) ?_;cases hv:isVal d with
   | false=>
    rw[hv] at c7;simp only[BF,if_false];exact ite_ret (by simp only[EA,EB,EC,ED,EG,EF,EH,ZA,ZB,ZC,ZD,ZE,ZF,ZG,ZH,ZI,ZJ,c5,c7,BP]) (ss_exc (by simp only[EA,EB,EC,ED,EG,EF,EH,ZA,ZB,ZC,ZD,ZE,ZF,ZG,ZH,ZI,ZJ])) outI_ne
   | true=>
    rw[hv] at c7;simp only[if_true];refine ite_skip (by simp only[EA,EB,EC,ED,EG,EF,EH,ZA,ZB,ZC,ZD,ZE,ZF,ZG,ZH,ZI,ZJ,c5,c7,BQ]) ?_;cases hz:valueC d r' with
    | none=>
     rw[hz,rsI] at e4;exact ss_exc (by simp only[EA,EB,EC,ED,EG,EF,EH,ZA,ZB,ZC,ZD,ZE,ZF,ZG,ZH,ZI,ZJ,e4])
    | some p=>
     obtain⟨i,r2⟩:=p;rw[hz,rsI] at e4;refine ss_next (l':=[some (.str t),some (.int (pos t (c::u))),some (.int dep),some (.int (k:Int)),some (.int (pos t (d::r'))),some (.str [d]),some i.toV,some (.int (pos t r2))]) (H':=H) (by simp only[EA,EB,EC,ED,EG,EF,EH,ZA,ZB,ZC,ZD,ZE,ZF,ZG,ZH,ZI,ZJ,e4,setAll]) ?_;have c8:cmpV .gt (.int (k:Int)) (.int 1)=some (decide (1 < k)):=cmp_gt k 1;by_cases q5 : 1 < k
     ·refine ss_next (l':=[some (.str t),some (.int (pos t (c::u))),some (.int dep),some (.int (k:Int)),some (.int (pos t (d::r'))),some (.str [d]),some (It.toV (.rep k i)),some (.int (pos t r2))]) (H':=H) ?_ ?_
      ·simp only[EA,EB,EC,ED,EG,EF,EH,ZA,ZB,ZC,ZD,ZE,ZF,ZG,ZH,ZI,ZJ,c8,DT q5,LC,LN,cp3,if_true,It.toV]
      ·simp only[ZE,if_pos q5,outI];simp only[EA,EB,EC,ED,EG,EF,EH,ZA,ZB,ZC,ZD,ZE,ZF,ZG,ZH,ZI,ZJ,LC,LN,cp2,if_true]
     ·refine ss_next (l':=[some (.str t),some (.int (pos t (c::u))),some (.int dep),some (.int (k:Int)),some (.int (pos t (d::r'))),some (.str [d]),some i.toV,some (.int (pos t r2))]) (H':=H) ?_ ?_
      ·simp only[EA,EB,EC,ED,EG,EF,EH,ZA,ZB,ZC,ZD,ZE,ZF,ZG,ZH,ZI,ZJ,c8,DF q5]
      ·simp only[ZE,if_neg q5,outI];simp only[EA,EB,EC,ED,EG,EF,EH,ZA,ZB,ZC,ZD,ZE,ZF,ZG,ZH,ZI,ZJ,LC,LN,cp2,if_true]
theorem s_item_at {u:Txt}{n c:Nat}{g:Nat->Txt->Option (It × Txt)}{dep:Int}(h:Suf t (c::u)) (hN:t.length < N) (ht:t.length<=80000)
  (hg:∀ (n' k:Nat) (r:Txt),n<=n'->0 < k->Suf (c::u) (40::r)->cF N (n' + 6) 13 [.str t,.int (pos t (40::r)),.int (k:Int),.int dep] H=rsI t H (g k r)) :
  cF N (n + 8) 15 [.str t,.int (pos t (c::u)),.int dep] H=rsI t H (itemC g (c::u)):=by
 rw[callF_succ N (n + 7) 15 _ _ rfl];refine run_rsI rfl (st2 (loc:=[some (.str t),some (.int (pos t (c::u))),some (.int dep),none]) rfl ?_);show _=outI t H _;have ht':t.length<=100000:=by omega
 have ei:=e_idx (H:=H) h;have c0:cmpV .isIn (.str [c]) (.str [48,49,50,51,52,53,54,55,56,57])=some (isDig c):=by rw[<- sub_dig c];rfl
 have c1:cmpV .eq (.str [c]) (.str [39])=some (c==39):=by rw[cmp_eqs,beq1]
 have c2:cmpV .eq (.str [c]) (.str [43])=some (c==43):=by rw[cmp_eqs,beq1]
 have c3:cmpV .eq (.str [c]) (.str [45])=some (c==45):=by rw[cmp_eqs,beq1]
 have c4:cmpV .eq (.str [c]) (.str [40])=some (c==40):=by rw[cmp_eqs,beq1]
 have c5:cmpV .isIn (.str [c]) (.str [73,70,69,68,71,76,65])=some (isVal c):=by rw[<- sub_val c];rfl
 have e0:=fun hd=>s_counted_at (N:=N) (H:=H) (n:=n) (g:=g) (dep:=dep) h hd hN ht (fun k r hk hr=>hg n k r (Nat.le_refl _) hk (up hr))
 have e1:=s_quoted_at (N:=N) (H:=H) (n:=n + 5) h hN ht;have e2:=s_scale_at (N:=N) (H:=H) (n:=n + 3) h hN ht;have e3:=fun q:c=40=>hg (n + 1) 1 u (by omega) (by omega) (by rw[q];exact .rfl' _)
 have e4:=s_value_edit (N:=N) (H:=H) (n:=n + 1) h hN ht';have e5:=s_control_at (N:=N) (H:=H) (n:=n + 3) h hN ht;have e3':∀ q:c=40,cF N (n + 7) 13 [.str t,.int (pos t (c::u)),.int 1,.int dep] H=rsI t H (g 1 u):=fun q=>by
  have:=e3 q;rw[q];exact this
 generalize cF N (n + 7)=call at *;refine ss_next (l':=[some (.str t),some (.int (pos t (c::u))),some (.int dep),some (.str [c])]) (H':=H) (by simp only[EA,EB,EC,ED,EG,EF,EH,ZA,ZB,ZC,ZD,ZE,ZF,ZG,ZH,ZI,ZJ,ei]) ?_;simp only[itemC];cases hd:isDig c with
 | true=>
  rw[hd] at c0;rw[if_pos rfl];exact ite_ret (by simp only[EA,EB,EC,ED,EG,EF,EH,ZA,ZB,ZC,ZD,ZE,ZF,ZG,ZH,ZI,ZJ,c0]) (ret_call (e0 hd) (by simp only[EA,EB,EC,ED,EG,EF,EH,ZA,ZB,ZC,ZD,ZE,ZF,ZG,ZH,ZI,ZJ])) outI_ne
 | false=>
  rw[hd] at c0;simp only[BF,if_false];refine ite_skip (by simp only[EA,EB,EC,ED,EG,EF,EH,ZA,ZB,ZC,ZD,ZE,ZF,ZG,ZH,ZI,ZJ,c0]) ?_;by_cases q1:c=39
  ·rw[if_pos q1];rw[beq_iff_eq.mpr q1] at c1;exact ite_ret (by simp only[EA,EB,EC,ED,EG,EF,EH,ZA,ZB,ZC,ZD,ZE,ZF,ZG,ZH,ZI,ZJ,c1]) (ret_call e1 (by simp only[EA,EB,EC,ED,EG,EF,EH,ZA,ZB,ZC,ZD,ZE,ZF,ZG,ZH,ZI,ZJ])) outI_ne
  rw[if_neg q1];rw[BN.mpr q1] at c1;refine ite_skip (by simp only[EA,EB,EC,ED,EG,EF,EH,ZA,ZB,ZC,ZD,ZE,ZF,ZG,ZH,ZI,ZJ,c1]) ?_;by_cases q2:c=43\/c=45
  ·rw[if_pos q2];refine ite_ret ?_ (ret_call e2 (by simp only[EA,EB,EC,ED,EG,EF,EH,ZA,ZB,ZC,ZD,ZE,ZF,ZG,ZH,ZI,ZJ])) outI_ne;by_cases q3:c=43
   ·rw[beq_iff_eq.mpr q3] at c2;simp only[EA,EB,EC,ED,EG,EF,EH,ZA,ZB,ZC,ZD,ZE,ZF,ZG,ZH,ZI,ZJ,c2]
   ·rw[BN.mpr q3] at c2;rw[beq_iff_eq.mpr (q2.resolve_left q3)] at c3;simp only[EA,EB,EC,ED,EG,EF,EH,ZA,ZB,ZC,ZD,ZE,ZF,ZG,ZH,ZI,ZJ,c2,c3]
  rw[if_neg q2];rw[BN.mpr fun z=>q2 (.inl z)] at c2;rw[BN.mpr fun z=>q2 (.inr z)] at c3;refine ite_skip (by simp only[EA,EB,EC,ED,EG,EF,EH,ZA,ZB,ZC,ZD,ZE,ZF,ZG,ZH,ZI,ZJ,c2,c3]) ?_;by_cases q4:c=40
  ·rw[if_pos q4];rw[beq_iff_eq.mpr q4] at c4;exact ite_ret (by simp only[EA,EB,EC,ED,EG,EF,EH,ZA,ZB,ZC,ZD,ZE,ZF,ZG,ZH,ZI,ZJ,c4]) (ret_call (e3' q4) (by simp only[EA,EB,EC,ED,EG,EF,EH,ZA,ZB,ZC,ZD,ZE,ZF,ZG,ZH,ZI,ZJ])) outI_ne
  rw[if_neg q4];rw[BN.mpr q4] at c4;refine ite_skip (by simp only[EA,EB,EC,ED,EG,EF,EH,ZA,ZB,ZC,ZD,ZE,ZF,ZG,ZH,ZI,ZJ,c4]) ?_;cases hv:isVal c with
  | true=>
   rw[hv] at c5;rw[if_pos rfl];exact ite_ret (by simp only[EA,EB,EC,ED,EG,EF,EH,ZA,ZB,ZC,ZD,ZE,ZF,ZG,ZH,ZI,ZJ,c5]) (ret_call e4 (by simp only[EA,EB,EC,ED,EG,EF,EH,ZA,ZB,ZC,ZD,ZE,ZF,ZG,ZH,ZI,ZJ])) outI_ne
  | false=>
   rw[hv] at c5;simp only[BF,if_false];exact ite_skip (by simp only[EA,EB,EC,ED,EG,EF,EH,ZA,ZB,ZC,ZD,ZE,ZF,ZG,ZH,ZI,ZJ,c5]) (ret_call e5 (by simp only[EA,EB,EC,ED,EG,EF,EH,ZA,ZB,ZC,ZD,ZE,ZF,ZG,ZH,ZI,ZJ]))
end
theorem hgA (H:Hp) (x:List V):hget (H++[some x]) H.length=some x:=by simp[hget]
theorem stA (H:Hp) (x y:Option (List V)):(H++[x]).set H.length y=H++[y]:=by simp
theorem tkA (H:Hp) (x:Option (List V)):(H++[x]).take H.length=H:=by simp
theorem lastA (l:List V) (v:V):getAt (l++[v]) (-1)=some v:=by
 have h:¬ (0:Int)<=-1:=by decide
 have h2:(0:Int)<=-1 + ((l++[v]).length:Nat):=by simp only[LA,LC,LN];omega
 have h3:(-1 + ((l++[v]).length:Nat):Int).toNat=l.length:=by simp only[LA,LC,LN];omega
 rw[getAt,if_neg h,if_pos h2,h3];simp
theorem cmp_isin (a b:Txt):cmpV .isIn (.str a) (.str b)=some (isSub a b):=rfl
def wItsB:Ss:=(.cons (.assign 5 (.call 0 (.cons (.loc 0) (.cons (.loc 1) .nil))))
  (.cons (.assign 6 (.sl (.loc 0) (.loc 5) (.bin .add (.loc 5) (.int 1))))
  (.cons (.ite (.cmp .eq (.loc 6) (.str [])) (.cons (.raise (.loc 5))
  .nil) .nil)
  (.cons (.ite (.or (.cmp .eq (.loc 6) (.str [44])) (.cmp .eq (.loc 6) (.str [41]))) (.cons (.ite (.or (.loc 4) (.and (.cmp .eq (.loc 6) (.str [44])) (.isNil (.loc 3)))) (.cons (.raise (.loc 5))
  .nil) .nil)
  (.cons (.ite (.cmp .eq (.loc 6) (.str [41])) (.cons (.ret (.tup (.cons (.seal 3) (.cons (.loc 5) .nil))))
  .nil) .nil)
  (.cons (.assign 4 (.bool true))
  (.cons (.assign 1 (.bin .add (.loc 5) (.int 1)))
  .nil)))) (.cons (.unpack [7,1] (.call 15 (.cons (.loc 0) (.cons (.loc 5) (.cons (.loc 2) .nil)))))
  (.cons (.ite (.and (.notNil (.loc 3)) (.and (.not (.loc 4)) (.not (.call 16 (.cons (.idx (.loc 3) (.neg (.int 1))) (.cons (.loc 7) .nil)))))) (.cons (.raise (.loc 5))
  .nil) .nil)
  (.cons (.append (.loc 3) (.loc 7))
  (.cons (.assign 4 (.bool false))
  .nil)))))
  .nil))))
def outL (t:Txt) (HH:Hp):Option (List It × Txt)->Option RS
 | none=>some (.exc HH)
 | some (l,r)=>some (.ret (.tup [.lst (toVs l),.int (pos t (41::r))]) HH)
section
variable {t:Txt}{N:Nat}{H:Hp}
theorem l_items {call:Nat->List V->Hp->Option (Res V)}{lim:Nat}{dep:Int}(ht:t.length<=80000)
  (hb:∀ u H,Suf t u->call 0 [.str t,.int (pos t u)] H=some (.ok (.int (pos t (skip u))) H))
  (hi:∀ f c u H,f<=N->Suf t (c::u)->(c::u).length<=f->call 15 [.str t,.int (pos t (c::u)),.int dep] H=rsI t H (itemC (grpC f lim) (c::u)))
  (hj:∀ (a i:It) H,a.wd->i.wd->call 16 [a.toV,i.toV] H=some (.ok (.bool (loose a i)) H)) :
  ∀ (f M:Nat) (u:Txt) (acc:List It) (after:Bool) (x5 x6 x7:Option V),Suf t u->u.length < f->f<=M->M<=N->acc.length + u.length<=80000->(∀ a∈acc,a.wd)->
  ∃ L,whileL (fun l H'=>EC call H.length l (.bool true) H') (fun l H'=>EA call N H.length wItsB l H') M [some (.str t),some (.int (pos t u)),some (.int dep),some (.ref H.length),some (.bool after),x5,x6,x7] (H++[some (toVs acc)]) =
   outL t (H++[L]) (itemsC f lim acc after u)
 | 0,M,u,acc,after,x5,x6,x7,hs,hu,hM,hMN,hl,hw=>by omega
 | f + 1,M + 1,u,acc,after,x5,x6,x7,hs,hu,hM,hMN,hl,hw=>by
  have ht':t.length<=100000:=by omega
  have hsk:=hs.trans (skip_suf u);have hskl:=(skip_suf u).len;have e0:=hb u (H++[some (toVs acc)]) hs;rw[itemsC_succ];have hc:EC call H.length [some (.str t),some (.int (pos t u)),some (.int dep),some (.ref H.length),some (.bool after),x5,x6,x7] (.bool true) (H++[some (toVs acc)])=some (.ok (.bool true) (H++[some (toVs acc)])):=by simp only[EA,EB,EC,ED,EG,EF,EH,ZA,ZB,ZC,ZD,ZE]
  have s1:∀ {x y:Option RS},EA call N H.length (match wItsB with | .cons _ r=>r | .nil=>.nil) [some (.str t),some (.int (pos t u)),some (.int dep),some (.ref H.length),some (.bool after),some (.int (pos t (skip u))),x6,x7] (H++[some (toVs acc)])=y->
    EA call N H.length wItsB [some (.str t),some (.int (pos t u)),some (.int dep),some (.ref H.length),some (.bool after),x5,x6,x7] (H++[some (toVs acc)])=y:=by
   intro x y h;exact ss_next (by simp only[EA,EB,EC,ED,EG,EF,EH,ZA,ZB,ZC,ZD,ZE,e0]) h
  cases hk:skip u with
  | nil=>
   rw[hk] at s1;have e1:=sl_nil (t:=t) ht';have c1:cmpV .eq (.str []) (.str [])=some true:=cmp_eqs _ _;refine⟨some (toVs acc),wh_exc hc (s1 (x:=none) (ss_next (l':=[some (.str t),some (.int (pos t u)),some (.int dep),some (.ref H.length),some (.bool after),some (.int (pos t [])),some (.str []),x7]) (H':=H++[some (toVs acc)]) ?_ (ss_exc ?_)))⟩
   ·simp only[EA,EB,EC,ED,EG,EF,EH,ZA,ZB,ZC,ZD,ZE,binV,e1]
   ·simp only[EA,EB,EC,ED,EG,EF,EH,ZA,ZB,ZC,ZD,ZE,c1]
  | cons c r=>
   rw[hk] at s1 hsk hskl;have e1:=sl_hd hsk ht';have c1:cmpV .eq (.str [c]) (.str [])=some false:=by rw[cmp_eqs];rfl
   have c2:cmpV .eq (.str [c]) (.str [44])=some (c==44):=by rw[cmp_eqs,beq1]
   have c3:cmpV .eq (.str [c]) (.str [41])=some (c==41):=by rw[cmp_eqs,beq1]
   have s2:∀ {y:Option RS},EA call N H.length (match wItsB with | .cons _ (.cons _ (.cons _ r))=>r | _=>.nil) [some (.str t),some (.int (pos t u)),some (.int dep),some (.ref H.length),some (.bool after),some (.int (pos t (c::r))),some (.str [c]),x7] (H++[some (toVs acc)])=y->
     EA call N H.length wItsB [some (.str t),some (.int (pos t u)),some (.int dep),some (.ref H.length),some (.bool after),x5,x6,x7] (H++[some (toVs acc)])=y:=by
    intro y h;refine s1 (x:=none) (ss_next (l':=[some (.str t),some (.int (pos t u)),some (.int dep),some (.ref H.length),some (.bool after),some (.int (pos t (c::r))),some (.str [c]),x7]) (H':=H++[some (toVs acc)]) ?_ (ite_skip ?_ h))
    ·simp only[EA,EB,EC,ED,EG,EF,EH,ZA,ZB,ZC,ZD,ZE,binV,e1]
    ·simp only[EA,EB,EC,ED,EG,EF,EH,ZA,ZB,ZC,ZD,ZE,c1]
   have hg:=hgA H (toVs acc);have hpl:V.pures (toVs acc)=true:=Its.pure acc;have ep:=p_tail hsk;dsimp only;simp only[LC] at hskl;by_cases q:c=44\/c=41
   ·rw[if_pos q];have hq:EC call H.length [some (.str t),some (.int (pos t u)),some (.int dep),some (.ref H.length),some (.bool after),some (.int (pos t (c::r))),some (.str [c]),x7] (.or (.cmp .eq (.loc 6) (.str [44])) (.cmp .eq (.loc 6) (.str [41]))) (H++[some (toVs acc)])=some (.ok (.bool true) (H++[some (toVs acc)])):=by
     rcases q with rfl | rfl
     ·simp only[EA,EB,EC,ED,EG,EF,EH,ZA,ZB,ZC,ZD,ZE,c2,beq_self_eq_true]
     ·have z:((41:Nat)==44)=false:=rfl;simp only[EA,EB,EC,ED,EG,EF,EH,ZA,ZB,ZC,ZD,ZE,c2,c3,beq_self_eq_true,z]
    have h1:EC call H.length [some (.str t),some (.int (pos t u)),some (.int dep),some (.ref H.length),some (.bool after),some (.int (pos t (c::r))),some (.str [c]),x7] (.or (.loc 4) (.and (.cmp .eq (.loc 6) (.str [44])) (.isNil (.loc 3)))) (H++[some (toVs acc)]) =
      some (.ok (.bool (after||(c==44&&acc.isEmpty))) (H++[some (toVs acc)])):=by
     have hem:(toVs acc).isEmpty=acc.isEmpty:=by cases acc<;>rfl
     cases after<;>cases hcc:(c==44)<;>rw[hcc] at c2<;>simp only[EA,EB,EC,ED,EG,EF,EH,ZA,ZB,ZC,ZD,ZE,c2,lstOf,hg,hem,BU,BT,BR,BS]
    have hcd:(after||(decide (c=44)&&acc.isEmpty))=(after||(c==44&&acc.isEmpty)):=by
     rw[show decide (c=44)=(c==44) from by rw[Bool.eq_iff_iff];simp]
    rw[hcd];cases hz:(after||(c==44&&acc.isEmpty)) with
    | true=>
     rw[if_pos rfl];rw[hz] at h1;refine⟨some (toVs acc),wh_exc hc (s2 (ss_exc (H':=H++[some (toVs acc)]) ?_))⟩;simp only[EB,EF,hq];refine ss_exc ?_;simp only[EB,EF,h1];exact ss_exc (by simp only[EA,EB,EC,ED,EG,EF,EH,ZA,ZB,ZC,ZD,ZE])
    | false=>
     rw[hz] at h1;simp only[BF,if_false];by_cases q2:c=41
     ·subst q2;rw[if_pos rfl];refine⟨none,wh_ret hc (s2 (ss_ret ?_))⟩;simp only[EB,EF,hq];refine ite_skip h1 (ss_ret ?_);have z:((41:Nat)==41)=true:=rfl;rw[z] at c3;simp only[EA,EB,EC,ED,EG,EF,EH,ZA,ZB,ZC,ZD,ZE,c3,hg,hpl,Nat.le_refl,decide_true,BA,if_true,stA,LC,LN,cp2]
     ·rw[if_neg q2];have q3:c=44:=q.resolve_right q2;rw[BN.mpr q2] at c3;have ih:=l_items ht hb hi hj f M r acc true (some (.int (pos t (c::r)))) (some (.str [c])) x7 hsk.tail (by omega) (by omega) (by omega) (by omega) hw;obtain⟨L,ih⟩:=ih;refine⟨L,wh_next (H'':=H++[some (toVs acc)]) hc (s2 (ss_next (H':=H++[some (toVs acc)]) (l':=[some (.str t),some (.int (pos t r)),some (.int dep),some (.ref H.length),some (.bool true),some (.int (pos t (c::r))),some (.str [c]),x7]) ?_ rfl)) ih⟩;simp only[EB,EF,hq];refine ite_skip h1 (ite_skip ?_ ?_)
      ·simp only[EA,EB,EC,ED,EG,EF,EH,ZA,ZB,ZC,ZD,ZE,c3]
      ·simp only[EA,EB,EC,ED,EG,EF,EH,ZA,ZB,ZC,ZD,ZE,binV,ep]
   ·rw[if_neg q];have q1:(c==44)=false:=BN.mpr fun z=>q (.inl z)
    have q2:(c==41)=false:=BN.mpr fun z=>q (.inr z)
    rw[q1] at c2;rw[q2] at c3;have hq:EC call H.length [some (.str t),some (.int (pos t u)),some (.int dep),some (.ref H.length),some (.bool after),some (.int (pos t (c::r))),some (.str [c]),x7] (.or (.cmp .eq (.loc 6) (.str [44])) (.cmp .eq (.loc 6) (.str [41]))) (H++[some (toVs acc)])=some (.ok (.bool false) (H++[some (toVs acc)])):=by
     simp only[EA,EB,EC,ED,EG,EF,EH,ZA,ZB,ZC,ZD,ZE,c2,c3]
    have e2:=hi f c r (H++[some (toVs acc)]) (by omega) hsk (by simp only[LC];omega);cases hit:itemC (grpC f lim) (c::r) with
    | none=>
     rw[hit,rsI] at e2;refine⟨some (toVs acc),wh_exc hc (s2 (ss_exc (H':=H++[some (toVs acc)]) ?_))⟩;simp only[EB,EF,hq];exact ss_exc (by simp only[EA,EB,EC,ED,EG,EF,EH,ZA,ZB,ZC,ZD,ZE,e2])
    | some p=>
     obtain⟨i,u'⟩:=p;rw[hit,rsI] at e2;have hiw:i.wd:=itemC_wd (fun k u i r h=>grpC_wd h) hit;have hu':Suf r u':=itemC_suf (fun k u i r h=>(grpC_suf h).tail) hit;have hu'l:=hu'.len;dsimp only;have hnn:(!(toVs acc).isEmpty)=!acc.isEmpty:=by cases acc<;>rfl
     have h3:EC call H.length [some (.str t),some (.int (pos t u')),some (.int dep),some (.ref H.length),some (.bool after),some (.int (pos t (c::r))),some (.str [c]),some i.toV] (.and (.notNil (.loc 3)) (.and (.not (.loc 4)) (.not (.call 16 (.cons (.idx (.loc 3) (.neg (.int 1))) (.cons (.loc 7) .nil)))))) (H++[some (toVs acc)]) =
       some (.ok (.bool (!after&&!looseLast acc i)) (H++[some (toVs acc)])):=by
      cases after with
      | true=>
       cases hb2:(!acc.isEmpty)<;>rw[hb2] at hnn<;>simp only[EA,EB,EC,ED,EG,EF,EH,ZA,ZB,ZC,ZD,ZE,lstOf,hg,hnn,BQ,BP,BR]
      | false=>
       rcases List.eq_nil_or_concat acc with rfl | ⟨m,a,rfl⟩
       ·have z:(toVs []).isEmpty=true:=rfl;have z0:looseLast [] i=true:=rfl;rw[z0];simp only[EA,EB,EC,ED,EG,EF,EH,ZA,ZB,ZC,ZD,ZE,lstOf,hg,z,BQ,BW]
       ·simp only[List.concat_eq_append] at *;have ej:=hj a i (H++[some (toVs (m++[a]))]) (hw a (by simp)) hiw;have z:(toVs (m++[a])).isEmpty=false:=by rw[toVs_append];simp[toVs]
        have z2:getAt (toVs (m++[a])) (-1)=some a.toV:=by rw[toVs_append];exact lastA _ _
        have z3:looseLast (m++[a]) i=loose a i:=by simp[looseLast]
        simp only[EA,EB,EC,ED,EG,EF,EH,ZA,ZB,ZC,ZD,ZE,lstOf,hg,z,z3,idxV,Option.bind,z2,ej,BP,BS]
     have s3:EB call N H.length (.unpack [7,1] (.call 15 (.cons (.loc 0) (.cons (.loc 5) (.cons (.loc 2) .nil))))) [some (.str t),some (.int (pos t u)),some (.int dep),some (.ref H.length),some (.bool after),some (.int (pos t (c::r))),some (.str [c]),x7] (H++[some (toVs acc)]) =
       some (.next [some (.str t),some (.int (pos t u')),some (.int dep),some (.ref H.length),some (.bool after),some (.int (pos t (c::r))),some (.str [c]),some i.toV] (H++[some (toVs acc)])):=by
      simp only[EA,EB,EC,ED,EG,EF,EH,ZA,ZB,ZC,ZD,ZE,e2,setAll]
     cases hz:(!after&&!looseLast acc i) with
     | true=>
      rw[if_pos rfl];rw[hz] at h3;refine⟨some (toVs acc),wh_exc hc (s2 (ss_exc (H':=H++[some (toVs acc)]) ?_))⟩;simp only[EB,EF,hq];refine ss_next s3 (ss_exc ?_);simp only[EB,EF,h3];exact ss_exc (by simp only[EA,EB,EC,ED,EG,EF,EH,ZA,ZB,ZC,ZD,ZE])
     | false=>
      rw[hz] at h3;simp only[BF,if_false];have ih:=l_items ht hb hi hj f M u' (acc++[i]) false (some (.int (pos t (c::r)))) (some (.str [c])) (some i.toV) (hsk.tail.trans hu') (by omega) (by omega) (by omega) (by simp only[LA,LC,LN];omega)
       (by intro a ha;rw[List.mem_append] at ha;rcases ha with ha | ha;exact hw a ha;simp at ha;exact ha ▸ hiw)
      obtain⟨L,ih⟩:=ih;refine⟨L,wh_next (H'':=H++[some (toVs (acc++[i]))]) hc (s2 (ss_next (H':=H++[some (toVs (acc++[i]))]) (l':=[some (.str t),some (.int (pos t u')),some (.int dep),some (.ref H.length),some (.bool false),some (.int (pos t (c::r))),some (.str [c]),some i.toV]) ?_ rfl)) ih⟩;simp only[EB,EF,hq];refine ss_next s3 (ite_skip h3 ?_);have z1:mayMut H.length H.length i.toV=true:=by simp[mayMut]
      have z2:(toVs acc).length < capL:=by rw[toVs_len];have:capL=1048576:=rfl;omega
      have z3:toVs (acc++[i])=toVs acc++[i.toV]:=by rw[toVs_append];rfl
      simp only[EA,EB,EC,ED,EG,EF,EH,ZA,ZB,ZC,ZD,ZE,hg,z1,z2,decide_true,BA,if_true,stA,z3]
end
def rsL (t:Txt) (H:Hp):Option (List It × Txt)->Option (Res V)
 | none=>some (.exc H)
 | some (l,r)=>some (.ok (.tup [.lst (toVs l),.int (pos t (41::r))]) H)
section
variable {t:Txt}{N:Nat}{H:Hp}
theorem s_group_at {n lim f k:Nat}{r:Txt}(hlim:lim<=10) (h:Suf t (40::r)) (hf:r.length < f)
  (ih:∀ m u,lim=m + 1->Suf t u->u.length < f->cF N n 17 [.str t,.int (pos t u),.int (10 - (m:Int))] H=rsL t H (itemsC f m [] false u)) :
  cF N (n + 1) 13 [.str t,.int (pos t (40::r)),.int (k:Int),.int (10 - (lim:Int))] H=rsI t H (grpC f lim k r):=by
 rw[callF_succ N n 13 _ _ rfl];refine run_rsI rfl (st2 (loc:=[some (.str t),some (.int (pos t (40::r))),some (.int (k:Int)),some (.int (10 - (lim:Int))),none,none]) rfl ?_);show _=outI t H _;have ep:=p_tail h;have c1:cmpV .eq (.int (10 - (lim:Int))) (.int 10)=some ((10 - (lim:Int))==10):=cmp_eqi _ _;cases lim with
 | zero=>
  have z:((10 - ((0:Nat):Int))==10)=true:=rfl;rw[z] at c1;exact ite_ret (by simp only[EA,EB,EC,ED,EG,EF,EH,ZA,ZB,ZC,ZD,ZE,c1]) (ss_exc (by simp only[EA,EB,EC,ED,EG,EF,EH,ZA,ZB,ZC,ZD,ZE,outI,grpC])) outI_ne
 | succ m=>
  have z:((10 - ((m + 1:Nat):Int))==10)=false:=BN.mpr (by omega);rw[z] at c1;refine ite_skip (by simp only[EA,EB,EC,ED,EG,EF,EH,ZA,ZB,ZC,ZD,ZE,c1]) ?_;have e:=ih m r rfl h.tail hf;have ed:(10 - ((m + 1:Nat):Int)) + 1=10 - (m:Int):=by omega
  generalize cF N n=call at *;unfold grpC;simp only;cases hi:itemsC f m [] false r with
  | none=>
   rw[hi,rsL] at e;exact ss_exc (by simp only[EA,EB,EC,ED,EG,EF,EH,ZA,ZB,ZC,ZD,ZE,binV,ep,ed,e,outI])
  | some p=>
   obtain⟨l,r'⟩:=p;rw[hi,rsL] at e;refine ss_next (l':=[some (.str t),some (.int (pos t (40::r))),some (.int (k:Int)),some (.int (10 - ((m + 1:Nat):Int))),some (.lst (toVs l)),some (.int (pos t (41::r')))]) (H':=H) (by simp only[EA,EB,EC,ED,EG,EF,EH,ZA,ZB,ZC,ZD,ZE,binV,ep,ed,e,setAll]) ?_;have hsu:Suf t (41::r'):=h.tail.trans (itemsC_suf _ _ _ _ _ hi);have ep2:=p_tail hsu;cases l with
   | nil=>
    have z1:(toVs []).isEmpty=true:=rfl;exact ite_ret (by simp only[EA,EB,EC,ED,EG,EF,EH,ZA,ZB,ZC,ZD,ZE,lstOf,z1]) (ss_exc (by simp only[EA,EB,EC,ED,EG,EF,EH,ZA,ZB,ZC,ZD,ZE,outI])) outI_ne
   | cons i l=>
    have z1:(toVs (i::l)).isEmpty=false:=rfl;refine ite_skip (by simp only[EA,EB,EC,ED,EG,EF,EH,ZA,ZB,ZC,ZD,ZE,lstOf,z1]) (ss_ret ?_);simp only[EA,EB,EC,ED,EG,EF,EH,ZA,ZB,ZC,ZD,ZE,binV,ep2,LC,LN,cp2,cp3,if_true,It.toV]
theorem ss_outL {call:Nat->List V->Hp->Option (Res V)}{b:Nat}{s:S}{r:Ss}{l:Loc}{H HH:Hp}{x:Option (List It × Txt)}(h:EB call N b s l H=outL t HH x):EA call N b (.cons s r) l H=outL t HH x:=by
 cases x with
 | none=>exact ss_exc h
 | some p=>exact ss_ret h
theorem items_step (ht:t.length<=80000) (hN:t.length < N) (lim:Nat) (hlim:lim<=10)
  (ih:∀ m,lim=m + 1->∀ (n:Nat),4 * m + 9<=n->∀ (H:Hp) (f:Nat) (u:Txt),Suf t u->u.length < f->f<=N->
   cF N n 17 [.str t,.int (pos t u),.int (10 - (m:Int))] H=rsL t H (itemsC f m [] false u))
  (n:Nat) (hn : 4 * lim + 9<=n) (H:Hp) (f:Nat) (u:Txt) (hs:Suf t u) (hu:u.length < f) (hf:f<=N) :
  cF N n 17 [.str t,.int (pos t u),.int (10 - (lim:Int))] H=rsL t H (itemsC f lim [] false u):=by
 obtain⟨n,rfl⟩ : ∃ m,n=m + 9:=⟨n - 9,by omega⟩
 rw[callF_succ N (n + 8) 17 _ _ rfl];have hg:∀ (f c:Nat) (u:Txt) (H:Hp),f<=N->Suf t (c::u)->(c::u).length<=f->cF N (n + 8) 15 [.str t,.int (pos t (c::u)),.int (10 - (lim:Int))] H=rsI t H (itemC (grpC f lim) (c::u)):=by
  intro f c u H hf h hfl;refine s_item_at (n:=n) h hN ht (fun n' k r hn' hk hr=>s_group_at (n:=n' + 5) hlim (h.trans hr) (by have:=hr.len;simp only[LC] at this hfl;omega) ?_);intro m u hm hsu huf;exact ih m hm _ (by omega) _ _ _ hsu huf hf
 have key:=l_items (N:=N) (H:=H) (call:=cF N (n + 8)) (lim:=lim) (dep:=10 - (lim:Int)) ht
  (fun u H h=>s_pass_blanks (n:=n + 7) h (by have:=h.len;omega))
  (fun f c u H hf h hfl=>hg f c u H hf h hfl)
  (fun a i H ha hi=>s_may_join (n:=n + 7) ha hi) f N u [] false none none none hs hu hf (Nat.le_refl _) (by have:=hs.len;simp only[LN];omega) (by simp)
 obtain⟨L,key⟩:=key;generalize cF N (n + 8)=call at *;have fin:EA call N H.length F_items_at.body [some (.str t),some (.int (pos t u)),some (.int (10 - (lim:Int))),none,none,none,none,none] H=outL t (H++[L]) (itemsC f lim [] false u):=by
  have hc0:([]:List V).length<=capL:=cap3 (by decide);refine ss_next (l':=[some (.str t),some (.int (pos t u)),some (.int (10 - (lim:Int))),some (.ref H.length),none,none,none,none]) (H':=H++[some []]) (by simp only[EA,EB,EC,ED,EG,EF,EH,ZA,ZB,ZC,ZD,ZE,hc0,if_true]) ?_;refine ss_next (l':=[some (.str t),some (.int (pos t u)),some (.int (10 - (lim:Int))),some (.ref H.length),some (.bool false),none,none,none]) (H':=H++[some []]) (by simp only[EA,EB,EC,ED,EG,EF,EH,ZA,ZB,ZC,ZD,ZE]) ?_;refine ss_outL ?_;rw[EB];exact key
 cases hi:itemsC f lim [] false u with
 | none=>rw[hi] at fin;exact run_exc rfl (st2 rfl fin) (tkA _ _)
 | some p=>obtain⟨l,r⟩:=p;rw[hi] at fin;exact run_ret rfl (st2 rfl fin) (by simp[V.pure,V.pures,Its.pure]) (tkA _ _)
theorem s_items_at (ht:t.length<=80000) (hN:t.length < N):∀ (lim:Nat),lim<=10->∀ (n:Nat),4 * lim + 9<=n->∀ (H:Hp) (f:Nat) (u:Txt),Suf t u->u.length < f->f<=N->
  cF N n 17 [.str t,.int (pos t u),.int (10 - (lim:Int))] H=rsL t H (itemsC f lim [] false u)
 | 0,hlim,n,hn,H,f,u,hs,hu,hf=>items_step ht hN 0 hlim (fun m hm=>by omega) n hn H f u hs hu hf
 | lim + 1,hlim,n,hn,H,f,u,hs,hu,hf=>items_step ht hN (lim + 1) hlim (fun m hm n hn H f u hs hu hf=>by
   obtain rfl:lim=m:=by omega
   exact s_items_at ht hN lim (by omega) n hn H f u hs hu hf) n hn H f u hs hu hf
def rsP (H:Hp):Option (List It)->Option (Res V)
 | none=>some (.exc H)
 | some l=>some (.ok (.lst (toVs l)) H)
theorem s_format_prefix {n f:Nat}(ht:t.length<=80000) (hN:t.length < N) (hn : 50<=n) (hf:t.length < f) (hfN:f<=N) :
  cF N n 18 [.str t] H=match skip t with
   | c::r=>if c=40 then (match itemsC f 10 [] false r with
    | some (l,r')=>some (.ok (.tup [.lst (toVs l),.int (pos t r')]) H)
    | none=>some (.exc H)) else some (.exc H)
   | []=>some (.exc H):=by
 obtain⟨n,rfl⟩ : ∃ m,n=m + 1:=⟨n - 1,by omega⟩
 obtain⟨n,rfl⟩ : ∃ m,n=m + 2:=⟨n - 2,by omega⟩
 have hs0:=Suf.rfl' t;have e0:=s_pass_blanks (H:=H) (N:=N) (n:=n + 1) hs0 hN;rw[pos_self] at e0;have hss:=skip_suf t;have hl:=hss.len;have e1:=s_is_at (H:=H) (N:=N) (n:=n + 1) hss (by omega) [40];have e2:=fun u=>s_items_at (N:=N) ht hN 10 (by omega) (n + 2) (by omega) H f u
 rw[callF_succ N (n + 2) 18 _ _ rfl];have fin:∀ {x:Option RS},(∀ {y:V},x=some (.exc H)\/∃ v,V.pure v=true/\x=some (.ret v H))->EA (cF N (n + 2)) N H.length F_format_prefix.body [some (.str t),none,none] H=x->
   runF (cF N (n + 2)) N F_format_prefix [.str t] H=(match x with | some (.exc H)=>some (.exc H) | some (.ret v H)=>some (.ok v H) | _=>none):=by
  intro x hx h;rcases hx (y:=.none) with rfl | ⟨v,hv,rfl⟩
  ·exact run_exc rfl (st2 rfl h) LT
  ·exact run_ret rfl (st2 rfl h) hv LT
 generalize cF N (n + 2)=call at *;have s1:EB call N H.length (.assign 1 (.call 0 (.cons (.loc 0) (.cons (.int 0) .nil)))) [some (.str t),none,none] H=some (.next [some (.str t),some (.int (pos t (skip t))),none] H):=by
  have e0':call 0 [.str t,.int 0] H=some (.ok (.int (pos t (skip t))) H):=e0;simp only[EA,EB,EC,ED,EG,EF,EH,ZA,ZB,ZC,ZD,ZE,e0']
 cases hk:skip t with
 | nil=>
  rw[hk] at e1 s1;have z:(([]:Txt).take 1==[40])=false:=rfl;rw[z] at e1;exact fin (x:=some (.exc H)) (.inl rfl) (ss_next s1 (ite_ret (by simp only[EA,EB,EC,ED,EG,EF,EH,ZA,ZB,ZC,ZD,ZE,e1,BP]) (ss_exc (by simp only[EA,EB,EC,ED,EG,EF,EH,ZA,ZB,ZC,ZD,ZE])) (by simp)))
 | cons c r=>
  rw[hk] at e1 s1 hss hl;have z:(((c::r:Txt)).take 1==[40])=(c==40):=by simp
  rw[z] at e1;dsimp only;by_cases q:c=40
  ·subst q;rw[if_pos rfl];have z1:((40:Nat)==40)=true:=rfl;rw[z1] at e1;have ep:=p_tail hss;have e3:=e2 r hss.tail (by simp only[LC] at hl;omega) hfN;have z2:(10 - ((10:Nat):Int))=0:=rfl;rw[z2] at e3;cases hi:itemsC f 10 [] false r with
   | none=>
    rw[hi,rsL] at e3;exact fin (x:=some (.exc H)) (.inl rfl) (ss_next s1 (ite_skip (by simp only[EA,EB,EC,ED,EG,EF,EH,ZA,ZB,ZC,ZD,ZE,e1,BQ]) (ss_exc (by simp only[EA,EB,EC,ED,EG,EF,EH,ZA,ZB,ZC,ZD,ZE,binV,ep,e3]))))
   | some p=>
    obtain⟨l,r'⟩:=p;rw[hi,rsL] at e3;have ep2:=p_tail (hss.tail.trans (itemsC_suf _ _ _ _ _ hi));refine fin (x:=some (.ret (.tup [.lst (toVs l),.int (pos t r')]) H)) (.inr ⟨_,by simp[V.pure,V.pures,Its.pure],rfl⟩) (ss_next s1 (ite_skip (by simp only[EA,EB,EC,ED,EG,EF,EH,ZA,ZB,ZC,ZD,ZE,e1,BQ]) (ss_next (l':=[some (.str t),some (.int (pos t (41::r'))),some (.lst (toVs l))]) (H':=H) ?_ (ss_ret ?_))))
    ·simp only[EA,EB,EC,ED,EG,EF,EH,ZA,ZB,ZC,ZD,ZE,binV,ep,e3,setAll]
    ·simp only[EA,EB,EC,ED,EG,EF,EH,ZA,ZB,ZC,ZD,ZE,binV,ep2,LC,LN,cp2,if_true]
  ·rw[if_neg q];rw[BN.mpr q] at e1;exact fin (x:=some (.exc H)) (.inl rfl) (ss_next s1 (ite_ret (by simp only[EA,EB,EC,ED,EG,EF,EH,ZA,ZB,ZC,ZD,ZE,e1,BP]) (ss_exc (by simp only[EA,EB,EC,ED,EG,EF,EH,ZA,ZB,ZC,ZD,ZE])) (by simp)))
theorem s_parse_format {n f:Nat}(ht:t.length<=80000) (hN:t.length < N) (hn : 51<=n) (hf:t.length < f) (hfN:f<=N) :
  cF N n 19 [.str t] H=rsP H (parseC f t):=by
 obtain⟨n,rfl⟩ : ∃ m,n=m + 2:=⟨n - 2,by omega⟩
 have e0:=s_format_prefix (N:=N) (H:=H) (n:=n + 1) ht hN (by omega) hf hfN;have e1:=fun u (h:Suf t u)=>s_pass_blanks (H:=H) (N:=N) (n:=n) h (by have:=h.len;omega)
 rw[callF_succ N (n + 1) 19 _ _ rfl];generalize cF N (n + 1)=call at *;unfold parseC;cases hk:skip t with
 | nil=>
  rw[hk] at e0;exact run_exc rfl (st2 (loc:=[some (.str t),none,none]) rfl (ss_exc (by simp only[EA,EB,EC,ED,EG,EF,EH,ZA,ZB,ZC,ZD,ZE,e0]))) LT
 | cons c r=>
  rw[hk] at e0;have hss:=hk ▸ skip_suf t;dsimp only at e0 ⊢;by_cases q:c=40
  ·subst q;rw[if_pos rfl] at e0 ⊢;cases hi:itemsC f 10 [] false r with
   | none=>
    rw[hi] at e0;exact run_exc rfl (st2 (loc:=[some (.str t),none,none]) rfl (ss_exc (by simp only[EA,EB,EC,ED,EG,EF,EH,ZA,ZB,ZC,ZD,ZE,e0]))) LT
   | some p=>
    obtain⟨l,r'⟩:=p;rw[hi] at e0;have hr':Suf t r':=hss.tail.trans (itemsC_suf _ _ _ _ _ hi).tail;have e2:=e1 r' hr';have hr2:=hr'.trans (skip_suf r');have hlt:=e_lt hr2;have c1:cmpV .lt (.int (pos t (skip r'))) (.int t.length)=some (decide ((pos t (skip r'):Int) < (t.length:Int))):=rfl;have s1:∀ {x:Option RS},EA call N H.length (.cons (.ite (.cmp .lt (.loc 2) (.len (.loc 0))) (.cons (.raise (.loc 2)) .nil) .nil) (.cons (.ret (.loc 1)) .nil)) [some (.str t),some (.lst (toVs l)),some (.int (pos t (skip r')))] H=x->
      EA call N H.length F_parse_format.body [some (.str t),none,none] H=x:=by
     intro x h;refine ss_next (l':=[some (.str t),some (.lst (toVs l)),some (.int (pos t r'))]) (H':=H) (by simp only[EA,EB,EC,ED,EG,EF,EH,ZA,ZB,ZC,ZD,ZE,e0,setAll]) ?_;exact ss_next (l':=[some (.str t),some (.lst (toVs l)),some (.int (pos t (skip r')))]) (H':=H) (by simp only[EA,EB,EC,ED,EG,EF,EH,ZA,ZB,ZC,ZD,ZE,e2]) h
    by_cases z:skip r'=[]
    ·dsimp only;rw[if_pos z];rw[DF (fun h=>hlt.mp h z)] at c1;refine run_ret (H':=H) rfl (st2 (loc:=[some (.str t),none,none]) rfl (s1 (ite_skip ?_ (ss_ret ?_)))) (by simp[V.pure,Its.pure]) LT
     ·simp only[EA,EB,EC,ED,EG,EF,EH,ZA,ZB,ZC,ZD,ZE,lenV,c1]
     ·simp only[EA,EB,EC,ED,EG,EF,EH,ZA,ZB,ZC,ZD,ZE]
    ·dsimp only;rw[if_neg z];rw[DT (hlt.mpr z)] at c1;refine run_exc (H':=H) rfl (st2 (loc:=[some (.str t),none,none]) rfl (s1 (ite_ret ?_ (ss_exc ?_) (by simp)))) LT
     ·simp only[EA,EB,EC,ED,EG,EF,EH,ZA,ZB,ZC,ZD,ZE,lenV,c1]
     ·simp only[EA,EB,EC,ED,EG,EF,EH,ZA,ZB,ZC,ZD,ZE]
  ·rw[if_neg q] at e0 ⊢;exact run_exc rfl (st2 (loc:=[some (.str t),none,none]) rfl (ss_exc (by simp only[EA,EB,EC,ED,EG,EF,EH,ZA,ZB,ZC,ZD,ZE,e0]))) LT
def optL:Option (List It)->V
 | none=>.none
 | some l=>.lst (toVs l)
theorem optL_pure (x:Option (List It)):(optL x).pure=true:=by cases x<;>simp[optL,V.pure,Its.pure]
theorem s_heard {n f:Nat}(ht:t.length<=80000) (hN:t.length < N) (hn : 52<=n) (hf:t.length < f) (hfN:f<=N) :
  cF N n 38 [.str t] H=some (.ok (optL (parseC f t)) H):=by
 obtain⟨n,rfl⟩ : ∃ m,n=m + 1:=⟨n - 1,by omega⟩
 have e0:=s_parse_format (N:=N) (H:=H) (n:=n) ht hN (by omega) hf hfN;rw[callF_succ N n 38 _ _ rfl];generalize cF N n=call at *;refine run_ret (H':=H) rfl (st2 (loc:=[some (.str t)]) rfl (ss_ret ?_)) (optL_pure _) LT;cases hp:parseC f t with
 | none=>rw[hp,rsP] at e0;simp only[EA,EB,EC,ED,EG,EF,EH,ZA,ZB,ZC,ZD,ZE,e0,optL]
 | some l=>rw[hp,rsP] at e0;simp only[EA,EB,EC,ED,EG,EF,EH,ZA,ZB,ZC,ZD,ZE,e0,optL]
end
inductive Tk where
 | n (k:Nat)
 | t (s:Txt)
 | bad
 | sg (c:Nat)
def Tk.word:Tk->Txt
 | .n _=>[110]
 | .t _=>[116]
 | .bad=>[63]
 | .sg c=>[c]
def Tk.val:Tk->V
 | .n k=>.int (k:Int)
 | .t s=>.str s
 | _=>.int 0
def Tk.toV (k:Tk):V:=.tup [.str k.word,k.val]
theorem Tk.pure (k:Tk):k.toV.pure=true:=by cases k<;>rfl
theorem Tks.pure (l:List Tk):V.pures (l.map Tk.toV)=true:=by
 induction l with
 | nil=>rfl
 | cons k l ih=>simp[V.pures,Tk.pure,ih]
def qs:Txt->Txt->Txt × Txt
 | out,[]=>(out,[])
 | out,c::r=>if c≠39 then qs (out++[c]) r else match r with
  | []=>(out,[39])
  | d::r'=>if d=39 then qs (out++[39]) r' else (out,39::d::r')
def dGo:Nat->Txt->Nat × Txt
 | v,[]=>(v,[])
 | v,c::r=>if c=32 then dGo v r else if isDig c then dGo (10 * v + (c - 48)) r else (v,c::r)
def qTok (p:Txt × Txt):Tk × Txt:=match p.2 with
 | []=>(.bad,[])
 | _::r=>(if p.1=[] then .bad else .t p.1,r)
def nTok (p:Nat × Txt):Tk × Txt:=match aft 72 p.2 with
 | some r=>(if 0 < p.1/\p.1<=r.length then .t (r.take p.1) else .bad,r.drop p.1)
 | none=>(if p.1 < 10000 then .n p.1 else .bad,p.2)
def tok1 (c:Nat) (r:Txt):Tk × Txt:=if c=39 then qTok (qs [] r) else if isDig c then nTok (dGo (c - 48) r) else (.sg c,r)
def toks:Nat->Txt->List Tk
 | 0,_=>[]
 | f + 1,u=>match skip u with
  | []=>[]
  | c::r=>(tok1 c r).1::toks f (tok1 c r).2
def tokS (u:Txt):List Tk:=toks (u.length + 1) u
theorem qs_suf:∀ (m:Nat) (u out:Txt),u.length<=m->Suf u (qs out u).2
 | _,[],out,_=>.rfl' _
 | m + 1,c::u,out,hm=>by
  simp only[LC] at hm;unfold qs;split
  ·exact up (qs_suf m u _ (by omega))
  ·rename_i hc;have hc:c=39:=Classical.not_not.mp hc;subst hc;split
   ·exact .rfl' _
   ·rename_i d r';simp only[LC] at hm;split
    ·exact up (up (qs_suf m r' _ (by omega)))
    ·exact .rfl' _
theorem dGo_suf:∀ (u:Txt) (v:Nat),Suf u (dGo v u).2
 | [],v=>.rfl' _
 | c::u,v=>by
  unfold dGo;split
  ·exact up (dGo_suf u v)
  ·split
   ·exact up (dGo_suf u _)
   ·exact .rfl' _
theorem suf_drop (k:Nat) (r:Txt):Suf r (r.drop k):=⟨r.take k,(List.take_append_drop k r).symm⟩
theorem nTok_suf (p:Nat × Txt):Suf p.2 (nTok p).2:=by
 unfold nTok;split
 ·rename_i r h;rw[aft_eq h];exact up (suf_drop _ _)
 ·exact .rfl' _
theorem tok1_suf (c:Nat) (r:Txt):Suf r (tok1 c r).2:=by
 unfold tok1;split
 ·have h:=qs_suf _ r [] (Nat.le_refl _);unfold qTok;split
  ·rename_i e;rw[e] at h;exact h
  ·rename_i e;rw[e] at h;exact h.tail
 ·split
  ·exact (dGo_suf r _).trans (nTok_suf _)
  ·exact .rfl' _
theorem toks_irr:∀ (f g:Nat) (u:Txt),u.length < f->u.length < g->toks f u=toks g u
 | f + 1,g + 1,u,hf,hg=>by
  unfold toks;have hs:=skip_len u;split
  ·rfl
  ·rename_i c r e;rw[e] at hs;have hl:=(tok1_suf c r).len;simp only[LC] at hs;rw[toks_irr f g _ (by omega) (by omega)]
theorem tokS_nil {u:Txt}(h:skip u=[]):tokS u=[]:=by
 unfold tokS toks;rw[h]
theorem tokS_cons {u r:Txt}{c:Nat}(h:skip u=c::r):tokS u=(tok1 c r).1::tokS (tok1 c r).2:=by
 have hs:=skip_len u;rw[h] at hs;have hl:=(tok1_suf c r).len;simp only[LC] at hs;rw[tokS,toks,h];show _::_=_;rw[tokS,toks_irr u.length ((tok1 c r).2.length + 1) _ (by omega) (by omega)]
theorem tokS_skip (u:Txt):tokS (skip u)=tokS u:=by
 cases h:skip u with
 | nil=>rw[tokS_nil h];rfl
 | cons c r=>rw[tokS_cons h,tokS_cons (by rw[<- h,skip_skip])]
theorem tokS_blank (r:Txt):tokS (32::r)=tokS r:=by
 rw[<- tokS_skip (32::r),<- tokS_skip r];rfl
def wTokC:E:=.cmp .lt (.loc 2) (.len (.loc 0))
def wQC:E:=.and (.cmp .lt (.loc 2) (.len (.loc 0))) (.or (.cmp .ne (.idx (.loc 0) (.loc 2)) (.str [39])) (.cmp .eq (.sl (.loc 0) (.loc 2) (.bin .add (.loc 2) (.int 2))) (.str [39,39])))
def wQB:Ss:=.cons (.assign 4 (.bin .add (.loc 4) (.idx (.loc 0) (.loc 2))))
  (.cons (.assign 2 (.bin .add (.loc 2) (.ife (.cmp .eq (.idx (.loc 0) (.loc 2)) (.str [39])) (.int 2) (.int 1))))
  .nil)
def wDC:E:=.and (.cmp .lt (.loc 2) (.len (.loc 0))) (.cmp .isIn (.idx (.loc 0) (.loc 2)) (.str [48,49,50,51,52,53,54,55,56,57,32]))
def wDB:Ss:=.cons (.assign 5 (.bin .add (.loc 5) (.idx (.loc 0) (.loc 2))))
  (.cons (.assign 2 (.bin .add (.loc 2) (.int 1)))
  .nil)
section
variable {t:Txt}{N b:Nat}{H:Hp}{call:Nat->List V->Hp->Option (Res V)}
theorem e_sl2 {u:Txt}(h:Suf t u) (ht:t.length<=100000):slV (.str t) (.int (pos t u)) (.int ((pos t u:Nat) + 2))=some (.str (u.take 2)):=by
 have:=@pos_le t u;have e:=e_sl (t:=t) (a:=pos t u) (b:=pos t u + 2) (by omega) (by omega);rw[show (((pos t u + 2:Nat)):Int)=(pos t u:Int) + 2 by omega] at e;rw[e,List.drop_take,drop_pos h,show pos t u + 2 - pos t u=2 by omega]
theorem lt_yes {c:Nat}{r:Txt}(h:Suf t (c::r)):cmpV .lt (.int (pos t (c::r))) (.int t.length)=some true:=by
 have:=pos_lt h;rw[cmp_lt,DT this]
theorem lt_no:cmpV .lt (.int (pos t [])) (.int t.length)=some false:=by
 rw[cmp_lt,pos_nil];simp
theorem cap_txt {n:Nat}(h:n<=100000):n<=capL:=by have:capL=1048576:=rfl;omega
theorem l_quote {x1 x3 x5 x6:Option V}(ht:t.length<=80000):∀ (M:Nat) (u out:Txt),Suf t u->u.length < M->out.length + u.length<=80000->
  whileL (fun l H=>EC call b l wQC H) (fun l H=>EA call N b wQB l H) M [some (.str t),x1,some (.int (pos t u)),x3,some (.str out),x5,x6] H =
   some (.next [some (.str t),x1,some (.int (pos t (qs out u).2)),x3,some (.str (qs out u).1),x5,x6] H)
 | M + 1,[],out,h,hM,ho=>by
  refine wh_end ?_;have:=lt_no (t:=t);simp only[wQC,EA,EB,EC,ED,EG,EF,EH,ZA,ZB,ZC,ZD,ZE,lenV,this]
 | M + 1,c::r,out,h,hM,ho=>by
  have ei:=e_idx (H:=H) h;have e2:=e_sl2 h (by omega);have el:=lt_yes h;have c1:cmpV .ne (.str [c]) (.str [39])=some (!(c==39)):=by rw[cmp_nes,beq1]
  have c3:cmpV .eq (.str [c]) (.str [39])=some (c==39):=by rw[cmp_eqs,beq1]
  have ep:=p_tail h;simp only[LC] at hM ho;by_cases q:c=39
  ·subst q;have z:((39:Nat)==39)=true:=rfl;rw[z] at c1 c3;cases r with
   | nil=>
    have c2:cmpV .eq (.str ([39].take 2)) (.str [39,39])=some false:=by rw[cmp_eqs];rfl
    have:qs out [39]=(out,[39]):=by simp[qs]
    rw[this];refine wh_end ?_;simp only[wQC,EA,EB,EC,ED,EG,EF,EH,ZA,ZB,ZC,ZD,ZE,lenV,el,ei,c1,BQ,binV,e2,c2]
   | cons d r'=>
    have c2:cmpV .eq (.str ((39::d::r').take 2)) (.str [39,39])=some (d==39):=by rw[cmp_eqs];simp
    by_cases q2:d=39
    ·subst q2;have:qs out (39::39::r')=qs (out++[39]) r':=by simp[qs]
     rw[this];rw[z] at c2;simp only[LC] at hM ho;have ep2:=p_tail h.tail;have ep3:((pos t (39::39::r'):Nat):Int) + 2=((pos t r':Nat):Int):=by omega
     have hcap:out.length + (0 + 1)<=capL:=cap_txt (by omega);refine wh_next (H':=H) (H'':=H) ?_ ?_ (l_quote ht M r' (out++[39]) h.tail.tail (by omega) (by simp only[LA,LC,LN];omega))
     ·simp only[wQC,EA,EB,EC,ED,EG,EF,EH,ZA,ZB,ZC,ZD,ZE,lenV,el,ei,c1,BQ,binV,e2,c2]
     ·simp only[wQB,EA,EB,EC,ED,EG,EF,EH,ZA,ZB,ZC,ZD,ZE,ei,binV,LC,LN,hcap,if_true,c3,ep3]
    ·have:qs out (39::d::r')=(out,39::d::r'):=by simp[qs,q2]
     rw[this];rw[BN.mpr q2] at c2;refine wh_end ?_;simp only[wQC,EA,EB,EC,ED,EG,EF,EH,ZA,ZB,ZC,ZD,ZE,lenV,el,ei,c1,BQ,binV,e2,c2]
  ·rw[BN.mpr q] at c1 c3;have:qs out (c::r)=qs (out++[c]) r:=by rw[qs.eq_def];simp[q]
   rw[this];have hcap:out.length + (0 + 1)<=capL:=cap_txt (by omega);refine wh_next (H':=H) (H'':=H) ?_ ?_ (l_quote ht M r (out++[c]) h.tail (by omega) (by simp only[LA,LC,LN];omega))
   ·simp only[wQC,EA,EB,EC,ED,EG,EF,EH,ZA,ZB,ZC,ZD,ZE,lenV,el,ei,c1,BP]
   ·simp only[wQB,EA,EB,EC,ED,EG,EF,EH,ZA,ZB,ZC,ZD,ZE,ei,binV,LC,LN,hcap,if_true,c3,ep]
theorem sub_digb (c:Nat):isSub [c] [48,49,50,51,52,53,54,55,56,57,32]=(isDig c||c==32):=by
 rw[Bool.eq_iff_iff];simp[isSub,isPre,isDig];omega
def gath (w:Txt) (v:Nat):Prop:=(w.filter (·≠32))≠[]/\(w.filter (·≠32)).all isDigit=true/\digVal (w.filter (·≠32))=v
theorem gath_blank {w:Txt}{v:Nat}(h:gath w v):gath (w++[32]) v:=by
 unfold gath at *;have:(w++[32]).filter (·≠32)=w.filter (·≠32):=by simp
 rw[this];exact h
theorem gath_dig {w:Txt}{v c:Nat}(h:gath w v) (hc:isDig c=true):gath (w++[c]) (10 * v + (c - 48)):=by
 unfold gath at *;have hc2:c≠32:=by intro q;subst q;simp[isDig] at hc
 have:(w++[c]).filter (·≠32)=w.filter (·≠32)++[c]:=by simp[hc2]
 rw[this];refine⟨by simp,?_,?_⟩
 ·rw[List.all_append,h.2.1];simp;exact hc
 ·have:=h.2.2;simp only[digVal,List.foldl_append,List.foldl_cons,List.foldl_nil] at *;rw[this];omega
theorem l_digits {x1 x3 x4 x6:Option V}(ht:t.length<=80000):∀ (M:Nat) (u w:Txt) (v:Nat),Suf t u->u.length < M->w.length + u.length<=640->gath w v->
  ∃ w',gath w' (dGo v u).1/\w'.length<=640/\whileL (fun l H=>EC call b l wDC H) (fun l H=>EA call N b wDB l H) M [some (.str t),x1,some (.int (pos t u)),x3,x4,some (.str w),x6] H =
   some (.next [some (.str t),x1,some (.int (pos t (dGo v u).2)),x3,x4,some (.str w'),x6] H)
 | M + 1,[],w,v,h,hM,hw,hg=>by
  refine⟨w,hg,by omega,wh_end ?_⟩;have:=lt_no (t:=t);have z:(dGo v []).2=[]:=rfl;simp only[z,wDC,EA,EB,EC,ED,EG,EF,EH,ZA,ZB,ZC,ZD,ZE,lenV,this]
 | M + 1,c::r,w,v,h,hM,hw,hg=>by
  have ei:=e_idx (H:=H) h;have el:=lt_yes h;have c1:cmpV .isIn (.str [c]) (.str [48,49,50,51,52,53,54,55,56,57,32])=some (isDig c||c==32):=by rw[<- sub_digb c];rfl
  have ep:=p_tail h;simp only[LC] at hM hw;have hcap:w.length + (0 + 1)<=capL:=cap_txt (by omega);have go:∀ v',(isDig c||c==32)=true->gath (w++[c]) v'->∃ w',gath w' (dGo v' r).1/\w'.length<=640/\whileL (fun l H=>EC call b l wDC H) (fun l H=>EA call N b wDB l H) (M + 1) [some (.str t),x1,some (.int (pos t (c::r))),x3,x4,some (.str w),x6] H =
   some (.next [some (.str t),x1,some (.int (pos t (dGo v' r).2)),x3,x4,some (.str w'),x6] H):=by
   intro v' hc hg';obtain⟨w',h1,h2,h3⟩:=l_digits ht M r (w++[c]) v' h.tail (by omega) (by simp only[LA,LC,LN];omega) hg';rw[hc] at c1;refine⟨w',h1,h2,wh_next (H':=H) (H'':=H) ?_ ?_ h3⟩
   ·simp only[wDC,EA,EB,EC,ED,EG,EF,EH,ZA,ZB,ZC,ZD,ZE,lenV,el,ei,c1]
   ·simp only[wDB,EA,EB,EC,ED,EG,EF,EH,ZA,ZB,ZC,ZD,ZE,ei,binV,LC,LN,hcap,if_true,ep]
  unfold dGo;by_cases q:c=32
  ·rw[if_pos q];exact go v (by simp[q]) (q ▸ gath_blank hg)
  ·rw[if_neg q];by_cases q2:isDig c=true
   ·rw[if_pos q2];exact go _ (by simp[q2]) (gath_dig hg q2)
   ·rw[if_neg q2];have z:(isDig c||c==32)=false:=by simp[q,q2]
    rw[z] at c1;refine⟨w,hg,by omega,wh_end ?_⟩;simp only[wDC,EA,EB,EC,ED,EG,EF,EH,ZA,ZB,ZC,ZD,ZE,lenV,el,ei,c1]
theorem split1_neP:∀ s:Txt,split1 32 s≠[]
 | []=>by simp[split1]
 | c::s=>by
  unfold split1;split
  ·simp
  ·split<;>simp
theorem join_split:∀ s:Txt,joinT [] (split1 32 s)=s.filter (·≠32)
 | []=>rfl
 | c::s=>by
  have ih:=join_split s;have hne:=split1_neP s;unfold split1;by_cases q:c=32
  ·rw[if_pos q];cases hs:split1 32 s with
   | nil=>exact absurd hs hne
   | cons w ws=>
    rw[hs] at ih;simp[joinT,q,ih]
  ·rw[if_neg q];cases hs:split1 32 s with
   | nil=>exact absurd hs hne
   | cons w ws=>
    rw[hs] at ih;have:(c::s).filter (·≠32)=c::s.filter (·≠32):=by simp[q]
    rw[this,<- ih];cases ws<;>simp[joinT]
end
def wTokB:Ss:=(.cons (.assign 3 (.idx (.loc 0) (.loc 2)))
  (.cons (.assign 2 (.bin .add (.loc 2) (.int 1)))
  (.cons (.ite (.cmp .eq (.loc 3) (.str [39])) (.cons (.assign 4 (.str []))
  (.cons (.while wQC wQB)
  (.cons (.append (.loc 1) (.ife (.and (.cmp .lt (.loc 2) (.len (.loc 0))) (.cmp .ne (.loc 4) (.str []))) (.tup (.cons (.str [116]) (.cons (.loc 4) .nil))) (.tup (.cons (.str [63]) (.cons (.int 0) .nil)))))
  (.cons (.assign 2 (.bin .add (.loc 2) (.int 1)))
  .nil)))) (.cons (.ite (.cmp .isIn (.loc 3) (.str [48,49,50,51,52,53,54,55,56,57])) (.cons (.assign 5 (.loc 3))
  (.cons (.while wDC wDB)
  (.cons (.assign 6 (.toInt (.replace (.loc 5) 32 [])))
  (.cons (.ite (.cmp .eq (.sl (.loc 0) (.loc 2) (.bin .add (.loc 2) (.int 1))) (.str [72])) (.cons (.append (.loc 1) (.ife (.between (.int 0) (.loc 6) (.bin .sub (.len (.loc 0)) (.loc 2))) (.tup (.cons (.str [116]) (.cons (.sl (.loc 0) (.bin .add (.loc 2) (.int 1)) (.bin .add (.bin .add (.loc 2) (.int 1)) (.loc 6))) .nil))) (.tup (.cons (.str [63]) (.cons (.int 0) .nil)))))
  (.cons (.assign 2 (.bin .add (.bin .add (.loc 2) (.int 1)) (.loc 6)))
  .nil)) (.cons (.append (.loc 1) (.ife (.cmp .lt (.loc 6) (.int 10000)) (.tup (.cons (.str [110]) (.cons (.loc 6) .nil))) (.tup (.cons (.str [63]) (.cons (.int 0) .nil)))))
  .nil))
  .nil)))) (.cons (.ite (.cmp .ne (.loc 3) (.str [32])) (.cons (.append (.loc 1) (.tup (.cons (.loc 3) (.cons (.int 0) .nil))))
  .nil) .nil)
  .nil))
  .nil))
  .nil)))
section
variable {t:Txt}{N:Nat}{H:Hp}{call:Nat->List V->Hp->Option (Res V)}
theorem s_append {l:Loc}{out:List Tk}{x:Tk}{e:E}(hl:l[1]?=some (some (.ref H.length))) (ho:out.length<=80000)
  (he:EC call H.length l e (H++[some (out.map Tk.toV)])=some (.ok x.toV (H++[some (out.map Tk.toV)]))) :
  EB call N H.length (.append (.loc 1) e) l (H++[some (out.map Tk.toV)])=some (.next l (H++[some ((out++[x]).map Tk.toV)])):=by
 have hg:=hgA H (out.map Tk.toV);have z1:mayMut H.length H.length x.toV=true:=by simp[mayMut]
 have z2:(out.map Tk.toV).length < capL:=by rw[List.length_map];have:capL=1048576:=rfl;omega
 have z3:(out++[x]).map Tk.toV=out.map Tk.toV++[x.toV]:=by simp
 simp only[EB,EC,hl,EF,he,hg,z1,z2,decide_true,BA,if_true,stA,z3]
theorem ite_next {b:Nat}{c:E}{x y:Ss}{l l':Loc}{H':Hp}(v:Bool) (hc:EC call b l c H=some (.ok (.bool v) H)) (h:EA call N b (if v=true then x else y) l H=some (.next l' H')) :
  EB call N b (.ite c x y) l H=some (.next l' H'):=by
 cases v
 ·simp only[BF,if_false] at h;simp only[EB,hc,EF,h]
 ·simp only[if_true] at h;simp only[EB,hc,EF,h]
theorem e_cmp {b:Nat}{l:Loc}{o:Cop}{x y:E}{v w:V}{r:Bool}(hx:EC call b l x H=some (.ok v H)) (hy:EC call b l y H=some (.ok w H)) (hr:cmpV o v w=some r):EC call b l (.cmp o x y) H=some (.ok (.bool r) H):=by
 rw[EC,hx];simp only[EG,hy,hr,EH,ZE]
theorem e_ife {b:Nat}{l:Loc}{c x y:E}{r:Bool}{o:Option (Res V)}(hc:EC call b l c H=some (.ok (.bool r) H)) (h:EC call b l (if r=true then x else y) H=o):EC call b l (.ife c x y) H=o:=by
 rw[EC,hc];cases r
 ·simp only[BF,if_false] at h;exact h
 ·simp only[if_true] at h;exact h
theorem ife_n1 {b:Nat}{q:Int}{k:Nat}{a1 a2 a3 a4 a5 a6:Option V}(k2:cmpV .lt (.int k) (.int q)=some true) :
  EC call b [a1,a2,a3,a4,a5,a6,some (.int k)] (.ife (.cmp .lt (.loc 6) (.int q)) (.tup (.cons (.str [110]) (.cons (.loc 6) .nil))) (.tup (.cons (.str [63]) (.cons (.int 0) .nil)))) H=some (.ok (Tk.n k).toV H):=by
 have two:(0 + 1 + 1)<=capL:=cp2;simp only[EA,EB,EC,ED,EG,EF,EH,ZA,ZB,ZC,ZD,ZE,k2,LC,LN,two,if_true,Tk.toV,Tk.word,Tk.val]
theorem ife_n2 {b:Nat}{q:Int}{k:Nat}{a1 a2 a3 a4 a5 a6:Option V}(k2:cmpV .lt (.int k) (.int q)=some false) :
  EC call b [a1,a2,a3,a4,a5,a6,some (.int k)] (.ife (.cmp .lt (.loc 6) (.int q)) (.tup (.cons (.str [110]) (.cons (.loc 6) .nil))) (.tup (.cons (.str [63]) (.cons (.int 0) .nil)))) H=some (.ok (Tk.bad).toV H):=by
 have two:(0 + 1 + 1)<=capL:=cp2;simp only[EA,EB,EC,ED,EG,EF,EH,ZA,ZB,ZC,ZD,ZE,k2,LC,LN,two,if_true,Tk.toV,Tk.word,Tk.val]
theorem e_bin {b:Nat}{l:Loc}{o:Bop}{x y:E}{v w r:V}(hx:EC call b l x H=some (.ok v H)) (hy:EC call b l y H=some (.ok w H)) (hr:binV H o v w=some r):EC call b l (.bin o x y) H=some (.ok r H):=by
 rw[EC,hx];simp only[EG,hy,hr,EH,ZE]
theorem e_slE {b:Nat}{l:Loc}{x y z:E}{u v w r:V}(hx:EC call b l x H=some (.ok u H)) (hy:EC call b l y H=some (.ok v H)) (hz:EC call b l z H=some (.ok w H)) (hr:slV u v w=some r):EC call b l (.sl x y z) H=some (.ok r H):=by
 rw[EC,hx];simp only[EG,hy,hz,hr,EH,ZE]
theorem e_tup2 {b:Nat}{l:Loc}{x y:E}{u v:V}(hx:EC call b l x H=some (.ok u H)) (hy:EC call b l y H=some (.ok v H)):EC call b l (.tup (.cons x (.cons y .nil))) H=some (.ok (.tup [u,v]) H):=by
 have two:([u,v]:List V).length<=capL:=cp2;rw[EC];simp only[ED,hx,EG,hy,two,if_true]
theorem e_btw {b:Nat}{l:Loc}{x y z:E}{i j k:Int}{r:Bool}(hx:EC call b l x H=some (.ok (.int i) H)) (hy:EC call b l y H=some (.ok (.int j) H)) (hz:EC call b l z H=some (.ok (.int k) H)) (h1:i < j) (hr:decide (j < k)=r):EC call b l (.between x y z) H=some (.ok (.bool r) H):=by
 rw[EC,hx];simp only[EG,hy,hz,if_pos h1,hr]
theorem e_btwn {b:Nat}{l:Loc}{x y z:E}{i j:Int}(hx:EC call b l x H=some (.ok (.int i) H)) (hy:EC call b l y H=some (.ok (.int j) H)) (h1:¬ i < j):EC call b l (.between x y z) H=some (.ok (.bool false) H):=by
 rw[EC,hx];simp only[EG,hy,if_neg h1]
theorem e_loc {b:Nat}{l:Loc}{x:Nat}{v:V}(h:l[x]?=some (some v)):EC call b l (.loc x) H=some (.ok v H):=by
 rw[EC,h]
theorem e_len {b:Nat}{l:Loc}{x:E}{v:V}{n:Nat}(hx:EC call b l x H=some (.ok v H)) (h:lenV H v=some n):EC call b l (.len x) H=some (.ok (.int (n:Int)) H):=by
 rw[EC,hx];simp only[EG,h,EH,ZE]
theorem e_int {b:Nat}{l:Loc}{i:Int}:EC call b l (.int i) H=some (.ok (.int i) H):=by rw[EC]
theorem e_str {b:Nat}{l:Loc}{i:Txt}:EC call b l (.str i) H=some (.ok (.str i) H):=by rw[EC]
theorem ss_nil {b:Nat}{l:Loc}{HH:Hp}:EA call N b .nil l HH=some (.next l HH):=rfl
def atOk (t:Txt) (a:Int) (u:Txt):Prop:=a=(pos t u:Nat)\/(u=[]/\(t.length:Int)<=a)
theorem toks_body {c:Nat}{r:Txt}{out:List Tk}{x3 x4 x5 x6:Option V}(ht:t.length<=600) (hN:t.length < N) (hs:Suf t (c::r)) (ho:out.length<=80000) :
  ∃ a' y3 y4 y5 y6,atOk t a' (if c=32 then r else (tok1 c r).2)/\EA call N H.length wTokB [some (.str t),some (.ref H.length),some (.int (pos t (c::r))),x3,x4,x5,x6] (H++[some (out.map Tk.toV)]) =
   some (.next [some (.str t),some (.ref H.length),some (.int a'),y3,y4,y5,y6] (H++[some ((out++if c=32 then [] else [(tok1 c r).1]).map Tk.toV)])):=by
 have ht':t.length<=100000:=by omega
 have ei:=e_idx (H:=H++[some (out.map Tk.toV)]) hs;have ep:=p_tail hs;have hrl:=hs.tail.len;have c1:cmpV .eq (.str [c]) (.str [39])=some (c==39):=by rw[cmp_eqs,beq1]
 have c2:cmpV .isIn (.str [c]) (.str [48,49,50,51,52,53,54,55,56,57])=some (isDig c):=by rw[<- sub_dig c];rfl
 have c3:cmpV .ne (.str [c]) (.str [32])=some (!(c==32)):=by rw[cmp_nes,beq1]
 have two:(0 + 1 + 1)<=capL:=cp2;have start:∀ {l':Loc}{HH:Hp},EB call N H.length (match wTokB with | .cons _ (.cons _ (.cons s _))=>s | _=>.cont) [some (.str t),some (.ref H.length),some (.int (pos t r)),some (.str [c]),x4,x5,x6] (H++[some (out.map Tk.toV)])=some (.next l' HH)->
   EA call N H.length wTokB [some (.str t),some (.ref H.length),some (.int (pos t (c::r))),x3,x4,x5,x6] (H++[some (out.map Tk.toV)])=some (.next l' HH):=by
  intro l' HH h;refine ss_next (l':=[some (.str t),some (.ref H.length),some (.int (pos t (c::r))),some (.str [c]),x4,x5,x6]) (H':=H++[some (out.map Tk.toV)]) (by simp only[EA,EB,EC,ED,EG,EF,EH,ZA,ZB,ZC,ZD,ZE,ei]) ?_;refine ss_next (l':=[some (.str t),some (.ref H.length),some (.int (pos t r)),some (.str [c]),x4,x5,x6]) (H':=H++[some (out.map Tk.toV)]) (by simp only[EA,EB,EC,ED,EG,EF,EH,ZA,ZB,ZC,ZD,ZE,binV,ep]) ?_;exact ss_next h ss_nil
 by_cases q:c=39
 ·subst q;have z:((39:Nat)==39)=true:=rfl;rw[z] at c1;have hq:tok1 39 r=qTok (qs [] r):=by simp[tok1]
  rw[hq];have lq:=l_quote (H:=H++[some (out.map Tk.toV)]) (call:=call) (N:=N) (b:=H.length) (x1:=some (.ref H.length)) (x3:=some (.str [39])) (x5:=x5) (x6:=x6) (by omega) N r [] hs.tail (by omega) (by simp only[LN];omega);have hqs:=hs.tail.trans (qs_suf _ r [] (Nat.le_refl _));generalize hp:qs [] r=p at *;obtain⟨p,r2⟩:=p;dsimp only at lq hqs;have k1:cmpV .ne (.str p) (.str [])=some (!(p==[])):=cmp_nes _ _;have pre:∀ {l':Loc}{HH:Hp},EA call N H.length (.cons (.append (.loc 1) (.ife (.and (.cmp .lt (.loc 2) (.len (.loc 0))) (.cmp .ne (.loc 4) (.str []))) (.tup (.cons (.str [116]) (.cons (.loc 4) .nil))) (.tup (.cons (.str [63]) (.cons (.int 0) .nil)))))
    (.cons (.assign 2 (.bin .add (.loc 2) (.int 1))) .nil)) [some (.str t),some (.ref H.length),some (.int (pos t r2)),some (.str [39]),some (.str p),x5,x6] (H++[some (out.map Tk.toV)])=some (.next l' HH)->
    EA call N H.length wTokB [some (.str t),some (.ref H.length),some (.int (pos t (39::r))),x3,x4,x5,x6] (H++[some (out.map Tk.toV)])=some (.next l' HH):=by
   intro l' HH h;refine start (ite_next true (by simp only[EA,EB,EC,ED,EG,EF,EH,ZA,ZB,ZC,ZD,ZE,c1]) ?_);rw[if_pos rfl];refine ss_next (l':=[some (.str t),some (.ref H.length),some (.int (pos t r)),some (.str [39]),some (.str []),x5,x6]) (H':=H++[some (out.map Tk.toV)]) (by simp only[EA,EB,EC,ED,EG,EF,EH,ZA,ZB,ZC,ZD,ZE]) ?_;refine ss_next (l':=[some (.str t),some (.ref H.length),some (.int (pos t r2)),some (.str [39]),some (.str p),x5,x6]) (H':=H++[some (out.map Tk.toV)]) (by rw[EB];exact lq) h
  have z32:((39:Nat)=32)=False:=by simp
  simp only[z32,if_false];cases r2 with
  | nil=>
   have l0:=lt_no (t:=t);have z5:qTok (p,[])=(.bad,[]):=rfl;rw[z5];refine⟨(pos t []:Nat) + 1,some (.str [39]),some (.str p),x5,x6,.inr ⟨rfl,by rw[pos_nil];omega⟩,pre (ss_next (s_append (x:=.bad) rfl ho ?_) (ss_next ?_ ss_nil))⟩
   ·simp only[EA,EB,EC,ED,EG,EF,EH,ZA,ZB,ZC,ZD,ZE,lenV,l0,LC,LN,two,if_true];rfl
   ·simp only[EA,EB,EC,ED,EG,EF,EH,ZA,ZB,ZC,ZD,ZE,binV]
  | cons d r3=>
   have l0:=lt_yes hqs;have ep2:=p_tail hqs;by_cases z3:p=[]
   ·subst z3;have z5:qTok ([],d::r3)=(.bad,r3):=by simp[qTok]
    rw[z5];refine⟨(pos t r3:Nat),some (.str [39]),some (.str []),x5,x6,.inl rfl,pre (ss_next (s_append (x:=.bad) rfl ho ?_) (ss_next ?_ ss_nil))⟩
    ·have k2:cmpV .ne (.str []) (.str [])=some false:=k1;simp only[EA,EB,EC,ED,EG,EF,EH,ZA,ZB,ZC,ZD,ZE,lenV,l0,k2,LC,LN,two,if_true];rfl
    ·simp only[EA,EB,EC,ED,EG,EF,EH,ZA,ZB,ZC,ZD,ZE,binV,ep2]
   ·have z4:(p==[])=false:=BN.mpr z3;rw[z4] at k1;have z5:(qTok (p,d::r3))=(.t p,r3):=by simp[qTok,z3]
    rw[z5];refine⟨(pos t r3:Nat),some (.str [39]),some (.str p),x5,x6,.inl rfl,pre (ss_next (s_append (x:=.t p) rfl ho ?_) (ss_next ?_ ss_nil))⟩
    ·simp only[EA,EB,EC,ED,EG,EF,EH,ZA,ZB,ZC,ZD,ZE,lenV,l0,k1,BP,LC,LN,two,if_true];rfl
    ·simp only[EA,EB,EC,ED,EG,EF,EH,ZA,ZB,ZC,ZD,ZE,binV,ep2]
 ·rw[BN.mpr q] at c1;by_cases q2:isDig c=true
  ·rw[q2] at c2;have hc32:c≠32:=by intro z;subst z;simp[isDig] at q2
   simp only[if_neg hc32];have ht1:tok1 c r=nTok (dGo (c - 48) r):=by simp[tok1,q,q2]
   rw[ht1];have hg0:gath [c] (c - 48):=by
    unfold gath;have:[c].filter (·≠32)=[c]:=by simp[hc32]
    rw[this];refine⟨by simp,by show [c].all isDig=true;simpa using q2,by simp[digVal]⟩
   obtain⟨w',hg,hw,ld⟩:=l_digits (H:=H++[some (out.map Tk.toV)]) (call:=call) (N:=N) (b:=H.length) (x1:=some (.ref H.length)) (x3:=some (.str [c])) (x4:=x4) (x6:=x6) (by omega) N r [c] (c - 48) hs.tail (by omega) (by simp only[LC,LN];omega) hg0;have hds:=hs.tail.trans (dGo_suf r (c - 48));generalize dGo (c - 48) r=p at *;obtain⟨k,r2⟩:=p;dsimp only at ld hds hg;obtain⟨hg1,hg2,hg3⟩:=hg;have hfl:(w'.filter (·≠32)).length<=640:=Nat.le_trans (List.length_filter_le _ _) hw;have ti:toIntV (.str (joinT [] (split1 32 w')))=some ((k:Nat):Int):=by
    rw[join_split];have:w'.filter (·≠32)≠[]/\(w'.filter (·≠32)).length<=640/\(w'.filter (·≠32)).all isDigit=true:=⟨hg1,hfl,hg2⟩
    simp only[toIntV,if_pos this,hg3]
   have rp:w'.length<=100000/\([]:Txt).length<=10/\([]:Txt)≠[32]/\(joinT [] (split1 32 w')).length<=capL:=⟨by omega,by simp,by simp,by rw[join_split];exact cap_txt (by omega)⟩
   have eh:slV (.str t) (.int (pos t r2)) (.int ((pos t r2:Nat) + 1))=some (.str (r2.take 1)):=e_sl1 hds ht';have pre:∀ {l':Loc}{HH:Hp},EB call N H.length (.ite (.cmp .eq (.sl (.loc 0) (.loc 2) (.bin .add (.loc 2) (.int 1))) (.str [72])) (.cons (.append (.loc 1) (.ife (.between (.int 0) (.loc 6) (.bin .sub (.len (.loc 0)) (.loc 2))) (.tup (.cons (.str [116]) (.cons (.sl (.loc 0) (.bin .add (.loc 2) (.int 1)) (.bin .add (.bin .add (.loc 2) (.int 1)) (.loc 6))) .nil))) (.tup (.cons (.str [63]) (.cons (.int 0) .nil)))))
     (.cons (.assign 2 (.bin .add (.bin .add (.loc 2) (.int 1)) (.loc 6)))
     .nil)) (.cons (.append (.loc 1) (.ife (.cmp .lt (.loc 6) (.int 10000)) (.tup (.cons (.str [110]) (.cons (.loc 6) .nil))) (.tup (.cons (.str [63]) (.cons (.int 0) .nil)))))
     .nil)) [some (.str t),some (.ref H.length),some (.int (pos t r2)),some (.str [c]),x4,some (.str w'),some (.int k)] (H++[some (out.map Tk.toV)])=some (.next l' HH)->
     EA call N H.length wTokB [some (.str t),some (.ref H.length),some (.int (pos t (c::r))),x3,x4,x5,x6] (H++[some (out.map Tk.toV)])=some (.next l' HH):=by
    intro l' HH h;refine start (ite_next false (by simp only[EA,EB,EC,ED,EG,EF,EH,ZA,ZB,ZC,ZD,ZE,c1]) ?_);simp only[BF,if_false];refine ss_next (ite_next true (by simp only[EA,EB,EC,ED,EG,EF,EH,ZA,ZB,ZC,ZD,ZE,c2]) ?_) ss_nil;rw[if_pos rfl];refine ss_next (l':=[some (.str t),some (.ref H.length),some (.int (pos t r)),some (.str [c]),x4,some (.str [c]),x6]) (H':=H++[some (out.map Tk.toV)]) (by simp only[EA,EB,EC,ED,EG,EF,EH,ZA,ZB,ZC,ZD,ZE]) ?_;refine ss_next (l':=[some (.str t),some (.ref H.length),some (.int (pos t r2)),some (.str [c]),x4,some (.str w'),x6]) (H':=H++[some (out.map Tk.toV)]) (by rw[EB];exact ld) ?_;refine ss_next (l':=[some (.str t),some (.ref H.length),some (.int (pos t r2)),some (.str [c]),x4,some (.str w'),some (.int k)]) (H':=H++[some (out.map Tk.toV)]) (by simp only[EA,EB,EC,ED,EG,EF,EH,ZA,ZB,ZC,ZD,ZE,if_pos rp,ti]) ?_;exact ss_next h ss_nil
   cases ha:aft 72 r2 with
   | none=>
    have k1:cmpV .eq (.str (r2.take 1)) (.str [72])=some false:=by rw[cmp_eqs,aft_none ha]
    have k2:cmpV .lt (.int k) (.int 10000)=some (decide (k < 10000)):=by
     show some (decide (((k:Nat):Int) < 10000))=_;rw[decide_eq_decide.mpr (show ((k:Nat):Int) < 10000↔k < 10000 by omega)]
    have z5:nTok (k,r2)=(if k < 10000 then .n k else .bad,r2):=by simp[nTok,ha]
    rw[z5];refine⟨(pos t r2:Nat),some (.str [c]),x4,some (.str w'),some (.int k),.inl rfl,pre (ite_next false (by simp only[EA,EB,EC,ED,EG,EF,EH,ZA,ZB,ZC,ZD,ZE,binV,eh,k1]) ?_)⟩;simp only[BF,if_false];refine ss_next (s_append rfl ho ?_) ss_nil;by_cases q4:k < 10000
    ·rw[DT q4] at k2;rw[if_pos q4];exact ife_n1 k2
    ·rw[DF q4] at k2;rw[if_neg q4];exact ife_n2 k2
   | some r3=>
    have k1:cmpV .eq (.str (r2.take 1)) (.str [72])=some true:=by rw[cmp_eqs,aft_take ha]
    have ep2:=p_aft hds ha;have h3:=aft_suf hds ha;have h3l:=h3.len;have hr2:=aft_eq ha;have hpl:pos t r2 + (r3.length + 1)=t.length:=by
     have:=hds.len;rw[hr2] at this ⊢;simp only[LC] at this;simp only[pos,LC];omega
    have hp3:pos t r3 + r3.length=t.length:=by simp only[pos];omega
    have z5:nTok (k,r2)=(if 0 < k/\k<=r3.length then .t (r3.take k) else .bad,r3.drop k):=by simp[nTok,ha]
    rw[z5];refine⟨(pos t r3:Nat) + (k:Nat),some (.str [c]),x4,some (.str w'),some (.int k),?_,pre (ite_next true (by simp only[EA,EB,EC,ED,EG,EF,EH,ZA,ZB,ZC,ZD,ZE,binV,eh,k1]) ?_)⟩
    ·by_cases q4:k<=r3.length
     ·refine .inl ?_;have:(r3.drop k).length=r3.length - k:=List.length_drop;simp only[pos,this];omega
     ·refine .inr ⟨List.drop_of_length_le (by omega),by omega⟩
    ·rw[if_pos rfl];refine ss_next (s_append (x:=if 0 < k/\k<=r3.length then .t (r3.take k) else .bad) rfl ho ?_) (ss_next ?_ ss_nil)
     ·by_cases q4 : 0 < k
      ·have d1:(0:Int) < (k:Nat):=by omega
       have z2:binV (H++[some (out.map Tk.toV)]) .sub (.int t.length) (.int (pos t r2))=some (.int ((t.length:Nat) - (pos t r2:Nat))):=rfl;by_cases q5:k<=r3.length
       ·have d2:((k:Nat):Int) < (t.length:Nat) - (pos t r2:Nat):=by omega
        have e5:slV (.str t) (.int ((pos t r2:Nat) + 1)) (.int (((pos t r2:Nat):Int) + 1 + (k:Nat)))=some (.str (r3.take k)):=by
         have e:=e_sl (t:=t) (a:=pos t r3) (b:=pos t r3 + k) (by omega) (by omega);rw[show (((pos t r3 + k:Nat)):Int)=(pos t r3:Int) + (k:Nat) by omega] at e;rw[ep2,e,List.drop_take,drop_pos h3,show pos t r3 + k - pos t r3=k by omega]
        rw[if_pos ⟨q4,q5⟩];refine e_ife (e_btw e_int (e_loc rfl) (e_bin (e_len (e_loc rfl) rfl) (e_loc rfl) z2) d1 (DT d2)) ?_;rw[if_pos rfl];exact e_tup2 e_str (e_slE (e_loc rfl) (e_bin (e_loc rfl) e_int rfl) (e_bin (e_bin (e_loc rfl) e_int rfl) (e_loc rfl) rfl) e5)
       ·have d2:¬ ((k:Nat):Int) < (t.length:Nat) - (pos t r2:Nat):=by omega
        rw[if_neg (fun h=>q5 h.2)];refine e_ife (e_btw e_int (e_loc rfl) (e_bin (e_len (e_loc rfl) rfl) (e_loc rfl) z2) d1 (DF d2)) ?_;simp only[BF,if_false];exact e_tup2 e_str e_int
      ·have d1:¬ (0:Int) < (k:Nat):=by omega
       rw[if_neg (fun h=>q4 h.1)];refine e_ife (e_btwn e_int (e_loc rfl) d1) ?_;simp only[BF,if_false];exact e_tup2 e_str e_int
     ·simp only[EA,EB,EC,ED,EG,EF,EH,ZA,ZB,ZC,ZD,ZE,binV,ep2]
  ·have q2':isDig c=false:=by simpa using q2
   rw[q2'] at c2;have ht1:tok1 c r=(.sg c,r):=by simp[tok1,q,q2']
   rw[ht1];by_cases q3:c=32
   ·have z:(c==32)=true:=beq_iff_eq.mpr q3;rw[z] at c3;simp only[if_pos q3,List.append_nil];refine⟨(pos t r:Nat),some (.str [c]),x4,x5,x6,.inl rfl,start (ite_next false (by simp only[EA,EB,EC,ED,EG,EF,EH,ZA,ZB,ZC,ZD,ZE,c1]) ?_)⟩;simp only[BF,if_false];refine ss_next (ite_next false (by simp only[EA,EB,EC,ED,EG,EF,EH,ZA,ZB,ZC,ZD,ZE,c2]) ?_) ss_nil;simp only[BF,if_false];refine ss_next (ite_next false (by simp only[EA,EB,EC,ED,EG,EF,EH,ZA,ZB,ZC,ZD,ZE,c3,BQ]) ?_) ss_nil;simp only[BF,if_false];exact ss_nil
   ·have z:(c==32)=false:=BN.mpr q3;rw[z] at c3;simp only[if_neg q3];refine⟨(pos t r:Nat),some (.str [c]),x4,x5,x6,.inl rfl,start (ite_next false (by simp only[EA,EB,EC,ED,EG,EF,EH,ZA,ZB,ZC,ZD,ZE,c1]) ?_)⟩;simp only[BF,if_false];refine ss_next (ite_next false (by simp only[EA,EB,EC,ED,EG,EF,EH,ZA,ZB,ZC,ZD,ZE,c2]) ?_) ss_nil;simp only[BF,if_false];refine ss_next (ite_next true (by simp only[EA,EB,EC,ED,EG,EF,EH,ZA,ZB,ZC,ZD,ZE,c3,BP]) ?_) ss_nil;rw[if_pos rfl];refine ss_next (s_append (x:=.sg c) rfl ho ?_) ss_nil;simp only[EA,EB,EC,ED,EG,EF,EH,ZA,ZB,ZC,ZD,ZE,LC,LN,two,if_true];rfl
theorem l_toks (ht:t.length<=600) (hN:t.length < N):∀ (M:Nat) (u:Txt) (a:Int) (out:List Tk) (x3 x4 x5 x6:Option V),Suf t u->atOk t a u->u.length < M->out.length + u.length<=80000->
  ∃ y2 y3 y4 y5 y6,whileL (fun l H'=>EC call H.length l wTokC H') (fun l H'=>EA call N H.length wTokB l H') M [some (.str t),some (.ref H.length),some (.int a),x3,x4,x5,x6] (H++[some (out.map Tk.toV)]) =
   some (.next [some (.str t),some (.ref H.length),y2,y3,y4,y5,y6] (H++[some ((out++tokS u).map Tk.toV)]))
 | M + 1,[],a,out,x3,x4,x5,x6,hs,ha,hM,ho=>by
  have hle:(t.length:Int)<=a:=by
   rcases ha with h | h
   ·rw[h,pos_nil];omega
   ·exact h.2
  have c1:cmpV .lt (.int a) (.int t.length)=some false:=by
   show some (decide (a < (t.length:Int)))=_;rw[DF (by omega)]
  have z:tokS []=[]:=rfl;rw[z,List.append_nil];exact⟨_,_,_,_,_,wh_end (by simp only[wTokC,EA,EB,EC,ED,EG,EF,EH,ZA,ZB,ZC,ZD,ZE,lenV,c1])⟩
 | M + 1,c::r,a,out,x3,x4,x5,x6,hs,ha,hM,ho=>by
  have ha':a=(pos t (c::r):Nat):=by
   rcases ha with h | h
   ·exact h
   ·exact absurd h.1 (by simp)
  subst ha';simp only[LC] at hM ho;have c1:=lt_yes hs;obtain⟨a',y3,y4,y5,y6,hok,hb⟩:=toks_body (call:=call) (H:=H) (x3:=x3) (x4:=x4) (x5:=x5) (x6:=x6) ht hN hs (out:=out) (by omega);have hsu:Suf r (if c=32 then r else (tok1 c r).2):=by
   split
   ·exact .rfl' _
   ·exact tok1_suf c r
  have hl:=hsu.len;have heq:tokS (c::r)=(if c=32 then [] else [(tok1 c r).1])++tokS (if c=32 then r else (tok1 c r).2):=by
   by_cases q:c=32
   ·subst q;simp[tokS_blank]
   ·rw[tokS_cons (show skip (c::r)=c::r by simp[skip,q])];simp[q]
  have hll:(if c=32 then ([]:List Tk) else [(tok1 c r).1]).length<=1:=by split<;>simp
  obtain⟨y2,z3,z4,z5,z6,ih⟩:=l_toks ht hN M _ a' (out++if c=32 then [] else [(tok1 c r).1]) y3 y4 y5 y6 (hs.tail.trans hsu) hok (by omega) (by rw[LA];omega);rw[heq,<- LX];exact⟨y2,z3,z4,z5,z6,wh_next (by simp only[wTokC,EA,EB,EC,ED,EG,EF,EH,ZA,ZB,ZC,ZD,ZE,lenV,c1]) hb ih⟩
def endV:V:=.tup [.str [101,110,100],.int 0]
def tokV (ts:List Tk):List V:=ts.map Tk.toV++List.replicate 6 endV
theorem tokV_pures (ts:List Tk):V.pures (tokV ts)=true:=by
 unfold tokV
 induction ts with
 | nil=>rfl
 | cons k l ih=>simp only[ZG,ZI,V.pures,Tk.pure,ih,BA]
theorem toks_len:∀ (f:Nat) (u:Txt),(toks f u).length<=u.length
 | 0,u=>by simp[toks]
 | f + 1,u=>by
  unfold toks;have hs:=skip_len u;split
  ·simp
  ·rename_i c r e;rw[e] at hs;have hl:=(tok1_suf c r).len;have:=toks_len f (tok1 c r).2;simp only[LC] at hs ⊢;omega
theorem tokS_len (u:Txt):(tokS u).length<=u.length:=toks_len _ _
theorem s_tokens {n:Nat}(ht:t.length<=600) (hN:t.length < N):cF N (n + 1) 31 [.str t] H=some (.ok (.lst (tokV (tokS t))) H):=by
 rw[callF_succ N n 31 _ _ rfl];generalize cF N n=call;obtain⟨y2,y3,y4,y5,y6,h⟩:=l_toks (call:=call) (H:=H) ht hN N t 0 [] none none none none (.rfl' t) (.inl (by rw[pos_self];rfl)) hN (by simp only[LN];omega);have hc0:([]:List V).length<=capL:=cap3 (by decide);have hg:=hgA H ((tokS t).map Tk.toV);have hl:=tokS_len t;have c6:(0:Int)<=6/\(6:Int)<=capL/\[endV].length * (6:Int).toNat<=capL:=⟨by decide,by decide,by decide⟩
 have p1:(V.pures [endV]&&decide ([endV].length<=capL))=true:=by rw[DT (cap3 (by decide))];rfl
 have fl:List.flatten (List.replicate (6:Int).toNat [endV])=List.replicate 6 endV:=rfl;have two:([.str [101,110,100],.int 0]:List V).length<=capL:=cp2;have p2:(decide (((tokS t).map Tk.toV).length + (List.replicate 6 endV).length<=capL)&&V.pures ((tokS t).map Tk.toV)&&V.pures (List.replicate 6 endV))=true:=by
  rw[Tks.pure,DT (cap_txt (by rw[List.length_map,List.length_replicate];omega))];rfl
 refine run_ret (H':=H++[some ((tokS t).map Tk.toV)]) rfl (st2 (loc:=[some (.str t),none,none,none,none,none,none]) rfl ?_) (by simp[V.pure,tokV_pures]) (tkA _ _);refine ss_next (l':=[some (.str t),some (.ref H.length),none,none,none,none,none]) (H':=H++[some []]) (by simp only[EA,EB,EC,ED,EG,EF,EH,ZA,ZB,ZC,ZD,ZE,hc0,if_true]) ?_;refine ss_next (l':=[some (.str t),some (.ref H.length),some (.int 0),none,none,none,none]) (H':=H++[some []]) (by simp only[EA,EB,EC,ED,EG,EF,EH,ZA,ZB,ZC,ZD,ZE]) ?_;refine ss_next (by rw[EB];exact h) ?_;refine ss_ret ?_;rw[ZJ];have e1:EC call H.length [some (.str t),some (.ref H.length),y2,y3,y4,y5,y6] (.lstF (.cons (.tup (.cons (.str [101,110,100]) (.cons (.int 0) .nil))) .nil)) (H++[some ((tokS t).map Tk.toV)])=some (.ok (.lst [endV]) (H++[some ((tokS t).map Tk.toV)])):=by
  simp only[EA,EB,EC,ED,EG,EF,EH,ZA,ZB,ZC,ZD,ZE,two,if_true];exact if_pos p1
 have e2:binV (H++[some ((tokS t).map Tk.toV)]) .mul (.lst [endV]) (.int 6)=some (.lst (List.replicate 6 endV)):=by
  simp only[binV,if_pos c6,fl]
 have e3:binV (H++[some ((tokS t).map Tk.toV)]) .add (.ref H.length) (.lst (List.replicate 6 endV))=some (.lst (tokV (tokS t))):=by
  have h0:lstOf (H++[some ((tokS t).map Tk.toV)]) (.ref H.length)=some ((tokS t).map Tk.toV):=hg;have h1:lstOf (H++[some ((tokS t).map Tk.toV)]) (.lst (List.replicate 6 endV))=some (List.replicate 6 endV):=rfl;simp only[binV,h0,h1,if_pos p2,tokV]
 have e0:EC call H.length [some (.str t),some (.ref H.length),y2,y3,y4,y5,y6] (.loc 1) (H++[some ((tokS t).map Tk.toV)])=some (.ok (.ref H.length) (H++[some ((tokS t).map Tk.toV)])):=rfl;have e6:EC call H.length [some (.str t),some (.ref H.length),y2,y3,y4,y5,y6] (.int 6) (H++[some ((tokS t).map Tk.toV)])=some (.ok (.int 6) (H++[some ((tokS t).map Tk.toV)])):=rfl;have e12:EC call H.length [some (.str t),some (.ref H.length),y2,y3,y4,y5,y6] (.bin .mul (.lstF (.cons (.tup (.cons (.str [101,110,100]) (.cons (.int 0) .nil))) .nil)) (.int 6)) (H++[some ((tokS t).map Tk.toV)])=some (.ok (.lst (List.replicate 6 endV)) (H++[some ((tokS t).map Tk.toV)])):=by
  rw[EC];simp only[EG,e1,e6,e2,EH,ZE]
 rw[EB,EC];simp only[EG,e0,e12,e3,EH,ZE,EF]
end
def oV:Option Tk->V
 | some k=>k.toV
 | none=>endV
def oW:Option Tk->Txt
 | some k=>k.word
 | none=>[101,110,100]
def oX:Option Tk->V
 | some k=>k.val
 | none=>.int 0
def Tk.okk:Tk->Prop
 | .sg c=>c≠110/\c≠116/\c≠63
 | .n k=>k < 10000
 | _=>True
def okO:Option Tk->Prop
 | some k=>k.okk
 | none=>True
def isSg (c:Nat):Option Tk->Bool
 | some (.sg d)=>d==c
 | _=>false
def isN:Option Tk->Bool
 | some (.n _)=>true
 | _=>false
def isT:Option Tk->Bool
 | some (.t _)=>true
 | _=>false
def nv:Option Tk->Nat
 | some (.n k)=>k
 | _=>0
def valO:Option Tk->Bool
 | some (.sg c)=>isVal c
 | _=>false
def nAt (lo:Nat) (o:Option Tk):Bool:=isN o&&decide (lo<=nv o)
theorem w_sg {c:Nat}(o:Option Tk) (h1:c≠110) (h2:c≠116) (h3:c≠63):(oW o==[c])=isSg c o:=by
 rcases o with _ | ⟨k⟩ | ⟨s⟩ | _ | ⟨d⟩
 ·simp[oW,isSg]
 ·simp[oW,Tk.word,isSg,h1.symm]
 ·simp[oW,Tk.word,isSg,h2.symm]
 ·simp[oW,Tk.word,isSg,h3.symm]
 ·simp[oW,Tk.word,isSg]
theorem w_n {o:Option Tk}(h:okO o):(oW o==[110])=isN o:=by
 rcases o with _ | ⟨k⟩ | ⟨s⟩ | _ | ⟨d⟩
 ·rfl
 ·rfl
 ·rfl
 ·rfl
 ·simp[oW,Tk.word,isN];exact h.1
theorem w_t {o:Option Tk}(h:okO o):(oW o==[116])=isT o:=by
 rcases o with _ | ⟨k⟩ | ⟨s⟩ | _ | ⟨d⟩
 ·rfl
 ·rfl
 ·rfl
 ·rfl
 ·simp[oW,Tk.word,isT];exact h.2.1
theorem w_val (o:Option Tk):([[73],[70],[69],[68],[71],[76],[65]]:List Txt).contains (oW o)=valO o:=by
 rcases o with _ | ⟨k⟩ | ⟨s⟩ | _ | ⟨d⟩
 ·rfl
 ·rfl
 ·rfl
 ·rfl
 ·rw[Bool.eq_iff_iff];simp[oW,Tk.word,valO,isVal];omega
theorem w_two {a b:Nat}(o:Option Tk) (ha1:a≠110) (ha2:a≠116) (ha3:a≠63) (hb1:b≠110) (hb2:b≠116) (hb3:b≠63):([[a],[b]]:List Txt).contains (oW o)=(isSg a o||isSg b o):=by
 rw[<- w_sg o ha1 ha2 ha3,<- w_sg o hb1 hb2 hb3,Bool.eq_iff_iff];simp
theorem i_oV0 (H:Hp) (o:Option Tk):idxV H (oV o) (.int 0)=some (.str (oW o)):=by cases o<;>rfl
theorem i_oV1 (H:Hp) (o:Option Tk):idxV H (oV o) (.int 1)=some (oX o):=by cases o<;>rfl
theorem oX_n {o:Option Tk}(h:isN o=true):oX o=.int (nv o):=by
 rcases o with _ | ⟨k⟩ | ⟨s⟩ | _ | ⟨d⟩<;>first | rfl | cases h
def Sk (ts w:List Tk):Prop:=∃ p,ts=p++w
def pk (ts w:List Tk):Nat:=ts.length - w.length
theorem Sk.rfl' (ts:List Tk):Sk ts ts:=⟨[],rfl⟩
theorem Sk.drop {ts w:List Tk}(h:Sk ts w) (j:Nat):Sk ts (w.drop j):=by
 obtain⟨p,rfl⟩:=h;exact⟨p++w.take j,by rw[LX,List.take_append_drop]⟩
theorem Sk.tail {ts w:List Tk}{k:Tk}(h:Sk ts (k::w)):Sk ts w:=h.drop 1
theorem Sk.len {ts w:List Tk}(h:Sk ts w):w.length<=ts.length:=by
 obtain⟨p,rfl⟩:=h;simp
theorem pk_drop {ts w:List Tk}(h:Sk ts w){j:Nat}(hj:j<=w.length):((pk ts (w.drop j):Nat):Int)=(pk ts w:Nat) + (j:Nat):=by
 have:=h.len;simp only[pk,List.length_drop];omega
theorem pk_tail {ts w:List Tk}{k:Tk}(h:Sk ts (k::w)):((pk ts (k::w):Nat):Int) + 1=(pk ts w:Nat):=by
 have:=h.len;simp only[LC] at this;simp only[pk,LC];omega
theorem tk_idx {ts w:List Tk}(h:Sk ts w) (j:Nat) (hj:j<=5){i:Int}(hi:i=(pk ts w:Nat) + (j:Nat)) (H:Hp):idxV H (.lst (tokV ts)) (.int i)=some (oV w[j]?):=by
 obtain⟨p,rfl⟩:=h;have hpk:pk (p++w) w=p.length:=by simp[pk]
 rw[hpk] at hi;subst hi;have h0:(0:Int)<=(p.length:Nat) + (j:Nat):=by omega
 have h1:((p.length:Int) + (j:Nat)).toNat=p.length + j:=by omega
 rw[idxV,getAt,if_pos h0,h1,tokV,List.map_append,LX];rw[List.getElem?_append_right (by simp),List.length_map,Nat.add_sub_cancel_left];by_cases q:j < w.length
 ·rw[List.getElem?_append_left (by simpa using q),List.getElem?_map];simp[List.getElem?_eq_getElem q,oV]
 ·rw[List.getElem?_append_right (by simpa using q),List.getElem?_eq_none (by omega:w.length<=j),List.length_map];rw[List.getElem?_replicate];rw[if_pos (by omega)];rfl
theorem okO_get {w:List Tk}(h:∀ k∈w,k.okk) (j:Nat):okO w[j]?:=by
 cases q:w[j]? with
 | none=>trivial
 | some k=>exact h k (List.mem_of_getElem? q)
def rsT (ts:List Tk) (H:Hp):Option (It × List Tk)->Option (Res V)
 | none=>some (.ok .none H)
 | some (i,w)=>some (.ok (.tup [i.toV,.int (pk ts w)]) H)
def nI (k:Nat):Option Int:=some (k:Int)
def realsT (c:Nat) (w:List Tk):Option (It × List Tk):=
 if isSg 46 w[1]?&&nAt 0 w[2]? then
  if c=70\/c=68 then some (.nums [c] [nI (nv w[0]?),nI (nv w[2]?)],w.drop 3) else
  if isSg 69 w[3]? then (if nAt 1 w[4]? then some (.nums [c] [nI (nv w[0]?),nI (nv w[2]?),nI (nv w[4]?)],w.drop 5) else none)
  else some (.nums [c] [nI (nv w[0]?),nI (nv w[2]?),none],w.drop 3)
 else none
def valuedT:List Tk->Option (It × List Tk)
 | .sg c::w=>
  if c=65/\isN w[0]?=false then some (.nums [65] [none],w) else
  if nAt 1 w[0]? then
   if c=65\/c=76 then some (.nums [c] [nI (nv w[0]?)],w.drop 1) else
   if c≠73 then realsT c w else
   if isSg 46 w[1]? then (if nAt 0 w[2]?&&!decide (nv w[0]? < nv w[2]?) then some (.nums [73] [nI (nv w[0]?),nI (nv w[2]?)],w.drop 3) else none)
   else some (.nums [73] [nI (nv w[0]?),none],w.drop 1)
  else none
 | _=>none
def controlT:List Tk->Option (It × List Tk)
 | .t s::w=>some (.text s,w)
 | .sg c::w=>
  if c=47\/c=58 then some (.nums [c] [],w) else
  if (c=43\/c=45)/\(isN w[0]?&&isSg 80 w[1]?)=true then some (.nums [80] [some (if c=43 then (nv w[0]? : Int) else -(nv w[0]? : Int))],w.drop 2) else
  if c=83 then (if isSg 80 w[0]? then some (.nums [83,80] [],w.drop 1) else if isSg 83 w[0]? then some (.nums [83,83] [],w.drop 1) else some (.nums [83] [],w)) else
  if c=66 then (if isSg 78 w[0]? then some (.nums [66,78] [],w.drop 1) else if isSg 90 w[0]? then some (.nums [66,90] [],w.drop 1) else none) else
  if c=84 then
   (if isSg 76 w[0]? then (if nAt 1 w[1]? then some (.nums [84,76] [nI (nv w[1]?)],w.drop 2) else none) else
   if isSg 82 w[0]? then (if nAt 1 w[1]? then some (.nums [84,82] [nI (nv w[1]?)],w.drop 2) else none) else
   if nAt 1 w[0]? then some (.nums [84] [nI (nv w[0]?)],w.drop 1) else none)
  else none
 | _=>none
def singleT:List Tk->Option (It × List Tk)
 | .n k::w=>
  if isSg 80 w[0]? then some (.nums [80] [nI k],w.drop 1) else
  if 0 < k/\isSg 88 w[0]?=true then some (.nums [88] [nI k],w.drop 1) else
  if 0 < k/\valO w[0]?=true then (valuedT w).map fun p=>(if 1 < k then .rep k p.1 else p.1,p.2) else none
 | .sg c::w=>if isVal c then valuedT (.sg c::w) else controlT (.sg c::w)
 | w=>controlT w
section
variable {ts:List Tk}{b N:Nat}{H:Hp}
theorem lt_of_sg {c j:Nat}{w:List Tk}(h:isSg c w[j]?=true):j < w.length:=by
 apply Classical.byContradiction;intro q;rw[List.getElem?_eq_none (by omega)] at h;cases h
theorem lt_of_n {j:Nat}{w:List Tk}(h:isN w[j]?=true):j < w.length:=by
 apply Classical.byContradiction;intro q;rw[List.getElem?_eq_none (by omega)] at h;cases h
theorem nAt_n {lo:Nat}{o:Option Tk}(h:nAt lo o=true):isN o=true:=by
 simp[nAt] at h;exact h.1
theorem s_number {o:Option Tk}{i:Int}{lo n:Nat}(ho:okO o) (hi:∀ H,idxV H (.lst (tokV ts)) (.int i)=some (oV o)) :
  cF N (n + 1) 32 [.lst (tokV ts),.int i,.int lo] H=some (.ok (.bool (nAt lo o)) H):=by
 rw[callF_succ N n 32 _ _ rfl];generalize cF N n=call;have h:=hi H;have i0:=i_oV0 H o;have i1:=i_oV1 H o;have c1:cmpV .eq (.str (oW o)) (.str [110])=some (isN o):=by rw[cmp_eqs,w_n ho]
 refine run_ret (H':=H) rfl (st2 (loc:=[some (.lst (tokV ts)),some (.int i),some (.int lo)]) rfl (ss_ret ?_)) rfl LT;unfold nAt;cases hn:isN o with
 | true=>
  rw[hn] at c1;rw[oX_n hn] at i1;have c2:cmpV .ge (.int (nv o)) (.int lo)=some (decide (lo<=nv o)):=by
   show some (decide _)=_;rw[decide_eq_decide.mpr (show ((lo:Nat):Int)<=(nv o:Nat)↔lo<=nv o by omega)]
  simp only[EA,EB,EC,ED,EG,EF,EH,ZA,ZB,ZC,ZD,ZE,h,i0,i1,c1,c2,BS]
 | false=>
  rw[hn] at c1;simp only[EA,EB,EC,ED,EG,EF,EH,ZA,ZB,ZC,ZD,ZE,h,i0,c1,BR]
theorem run_rsT {call:Nat->List V->Hp->Option (Res V)}{fn:Fn}{args:List V}{x:Option (It × List Tk)}(h0:args.length=fn.params)
  (h:EA call N H.length fn.body (args.map some++List.replicate (fn.vars.length - fn.params) none) H=match x with
   | none=>some (.ret .none H)
   | some (i,r)=>some (.ret (.tup [i.toV,.int (pk ts r)]) H)):runF call N fn args H=rsT ts H x:=by
 cases x with
 | none=>exact run_ret h0 h rfl LT
 | some p=>exact run_ret h0 h (pI _ _) LT
def outT (ts:List Tk) (H:Hp):Option (It × List Tk)->Option RS
 | none=>some (.ret .none H)
 | some (i,w)=>some (.ret (.tup [i.toV,.int (pk ts w)]) H)
theorem outT_ne {x:Option (It × List Tk)}(l':Loc) (H':Hp):outT ts H x≠some (.next l' H'):=by
 cases x<;>simp[outT]
theorem ret_callT {call:Nat->List V->Hp->Option (Res V)}{f:Nat}{es:Es}{l:Loc}{vs:List V}{x:Option (It × List Tk)}{r:Ss}(h2:call f vs H=rsT ts H x) (h1:ED call b l es H=some (.ok vs H)) :
  EA call N b (.cons (.ret (.call f es)) r) l H=outT ts H x:=by
 cases x with
 | none=>rw[rsT] at h2;exact ss_ret (by simp only[EB,EC,EG,EF,h1,h2])
 | some p=>rw[rsT] at h2;exact ss_ret (by simp only[EB,EC,EG,EF,h1,h2])
theorem ret_pair {call:Nat->List V->Hp->Option (Res V)}{l:Loc}{x y:E}{r:Ss}{i:It}{w:List Tk}(h1:EC call b l x H=some (.ok i.toV H)) (h2:EC call b l y H=some (.ok (.int (pk ts w)) H)) :
  EA call N b (.cons (.ret (.tup (.cons x (.cons y .nil)))) r) l H=outT ts H (some (i,w)):=by
 refine ss_ret ?_;rw[EB,e_tup2 h1 h2];rfl
theorem s_reals {c n:Nat}{w:List Tk}(h:Sk ts w) (hk:∀ k∈w,k.okk) (h0:isN w[0]?=true) (hc:c≠110/\c≠116/\c≠63) :
  cF N (n + 2) 33 [.str [c],.lst (tokV ts),.int (pk ts w)] H=rsT ts H (realsT c w):=by
 rw[callF_succ N (n + 1) 33 _ _ rfl];refine run_rsT rfl (st2 (loc:=[some (.str [c]),some (.lst (tokV ts)),some (.int (pk ts w)),none]) rfl ?_);show _=outT ts H _;have t0:=tk_idx h 0 (by omega) (i:=(pk ts w:Nat)) (by omega) H;have t1:=tk_idx h 1 (by omega) (i:=(pk ts w:Nat) + 1) (by omega) H;have t2:=tk_idx h 2 (by omega) (i:=(pk ts w:Nat) + 2) (by omega) H;have t3:=tk_idx h 3 (by omega) (i:=(pk ts w:Nat) + 3) (by omega) H;have t4:=tk_idx h 4 (by omega) (i:=(pk ts w:Nat) + 4) (by omega) H;have n2:=s_number (N:=N) (H:=H) (n:=n) (lo:=0) (okO_get hk 2) (fun H=>tk_idx h 2 (by omega) (i:=(pk ts w:Nat) + 2) (by omega) H);have n4:=s_number (N:=N) (H:=H) (n:=n) (lo:=1) (okO_get hk 4) (fun H=>tk_idx h 4 (by omega) (i:=(pk ts w:Nat) + 4) (by omega) H);have n2':cF N (n + 1) 32 [.lst (tokV ts),.int ((pk ts w:Nat) + 2),.int 0] H=some (.ok (.bool (nAt 0 w[2]?)) H):=n2;have n4':cF N (n + 1) 32 [.lst (tokV ts),.int ((pk ts w:Nat) + 4),.int 1] H=some (.ok (.bool (nAt 1 w[4]?)) H):=n4;clear n2 n4;have c1:cmpV .ne (.str (oW w[1]?)) (.str [46])=some (!isSg 46 w[1]?):=by rw[cmp_nes,w_sg _ (by decide) (by decide) (by decide)]
 have c3:cmpV .ne (.str (oW w[3]?)) (.str [69])=some (!isSg 69 w[3]?):=by rw[cmp_nes,w_sg _ (by decide) (by decide) (by decide)]
 have c0:cmpV .isIn (.str [c]) (.str [70,68])=some (decide (c=70\/c=68)):=by
  rw[cmp_isin];congr 1;rw[Bool.eq_iff_iff];simp[isSub,isPre]
 have z0:=i_oV0 H w[1]?;have z3:=i_oV0 H w[3]?;have v0:=i_oV1 H w[0]?;have v2:=i_oV1 H w[2]?;have v4:=i_oV1 H w[4]?;rw[oX_n h0] at v0;generalize cF N (n + 1)=call at *;unfold realsT;cases q1:isSg 46 w[1]? with
 | false=>
  rw[q1] at c1;simp only[BR,BF,if_false];exact ite_ret (by simp only[EA,EB,EC,ED,EG,EF,EH,ZA,ZB,ZC,ZD,ZE,binV,t1,z0,c1,BP]) (ss_ret (by simp only[EA,EB,EC,ED,EG,EF,EH,ZA,ZB,ZC,ZD,ZE])) outT_ne
 | true=>
  rw[q1] at c1;cases q2:nAt 0 w[2]? with
  | false=>
   rw[q2] at n2';simp only[BW,BF,if_false];exact ite_ret (by simp only[EA,EB,EC,ED,EG,EF,EH,ZA,ZB,ZC,ZD,ZE,binV,t1,z0,c1,n2',BQ,BP]) (ss_ret (by simp only[EA,EB,EC,ED,EG,EF,EH,ZA,ZB,ZC,ZD,ZE])) outT_ne
  | true=>
   rw[q2] at n2';have l2:=lt_of_n (nAt_n q2);rw[oX_n (nAt_n q2)] at v2;simp only[BV,if_true];refine ite_skip (by simp only[EA,EB,EC,ED,EG,EF,EH,ZA,ZB,ZC,ZD,ZE,binV,t1,z0,c1,n2',BQ]) ?_;have p3:=pk_drop h (j:=3) (by omega);refine ss_next (l':=[some (.str [c]),some (.lst (tokV ts)),some (.int (pk ts w)),some (.tup [.str [c],.int (nv w[0]?),.int (nv w[2]?)])]) (H':=H) (by simp only[EA,EB,EC,ED,EG,EF,EH,ZA,ZB,ZC,ZD,ZE,binV,t0,t2,v0,v2,LC,LN,cp3,if_true]) ?_;by_cases q3:c=70\/c=68
   ·rw[DT q3] at c0;rw[if_pos q3];refine ite_ret (by simp only[EA,EB,EC,ED,EG,EF,EH,ZA,ZB,ZC,ZD,ZE,c0]) (ret_pair (i:=.nums [c] [nI (nv w[0]?),nI (nv w[2]?)]) (w:=w.drop 3) ?_ ?_) outT_ne
    ·simp only[EA,EB,EC,ED,EG,EF,EH,ZA,ZB,ZC,ZD,ZE];rfl
    ·rw[p3];simp only[EA,EB,EC,ED,EG,EF,EH,ZA,ZB,ZC,ZD,ZE,binV];rfl
   ·rw[DF q3] at c0;rw[if_neg q3];refine ite_skip (by simp only[EA,EB,EC,ED,EG,EF,EH,ZA,ZB,ZC,ZD,ZE,c0]) ?_;cases q4:isSg 69 w[3]? with
    | false=>
     rw[q4] at c3;simp only[BF,if_false];refine ite_ret (by simp only[EA,EB,EC,ED,EG,EF,EH,ZA,ZB,ZC,ZD,ZE,binV,t3,z3,c3,BP]) (ret_pair (i:=.nums [c] [nI (nv w[0]?),nI (nv w[2]?),none]) (w:=w.drop 3) ?_ ?_) outT_ne
     ·have:([.str [c],.int (nv w[0]?),.int (nv w[2]?)]:List V).length + ([.none]:List V).length<=capL:=cp4;simp only[EA,EB,EC,ED,EG,EF,EH,ZA,ZB,ZC,ZD,ZE,LC,LN,cp1,if_true,binV];rw[if_pos (show 0 + 1 + 1 + 1 + (0 + 1)<=capL from cp4)];rfl
     ·rw[p3];simp only[EA,EB,EC,ED,EG,EF,EH,ZA,ZB,ZC,ZD,ZE,binV];rfl
    | true=>
     rw[q4] at c3;simp only[if_true];refine ite_skip (by simp only[EA,EB,EC,ED,EG,EF,EH,ZA,ZB,ZC,ZD,ZE,binV,t3,z3,c3,BQ]) ?_;cases q5:nAt 1 w[4]? with
     | false=>
      rw[q5] at n4';simp only[BF,if_false];exact ite_ret (by simp only[EA,EB,EC,ED,EG,EF,EH,ZA,ZB,ZC,ZD,ZE,binV,n4',BP]) (ss_ret (by simp only[EA,EB,EC,ED,EG,EF,EH,ZA,ZB,ZC,ZD,ZE])) outT_ne
     | true=>
      rw[q5] at n4';simp only[if_true];have l4:=lt_of_n (nAt_n q5);have p5:=pk_drop h (j:=5) (by omega);rw[oX_n (nAt_n q5)] at v4;refine ite_skip (by simp only[EA,EB,EC,ED,EG,EF,EH,ZA,ZB,ZC,ZD,ZE,binV,n4',BQ]) (ret_pair (i:=.nums [c] [nI (nv w[0]?),nI (nv w[2]?),nI (nv w[4]?)]) (w:=w.drop 5) ?_ ?_)
      ·have:([.str [c],.int (nv w[0]?),.int (nv w[2]?)]:List V).length + ([.int (nv w[4]?)]:List V).length<=capL:=cp4;have e4:EC call H.length [some (.str [c]),some (.lst (tokV ts)),some (.int (pk ts w)),some (.tup [.str [c],.int (nv w[0]?),.int (nv w[2]?)])] (.idx (.idx (.loc 1) (.bin .add (.loc 2) (.int 4))) (.int 1)) H=some (.ok (.int (nv w[4]?)) H):=by
        simp only[EA,EB,EC,ED,EG,EF,EH,ZA,ZB,ZC,ZD,ZE,binV,t4,v4]
       refine e_bin (e_loc rfl) (w:=.tup [.int (nv w[4]?)]) ?_ ?_
       ·rw[EC];simp only[ED,e4,EG,LC,LN,cp1,if_true]
       ·simp only[binV];rw[if_pos this];rfl
      ·rw[p5];simp only[EA,EB,EC,ED,EG,EF,EH,ZA,ZB,ZC,ZD,ZE,binV];rfl
end
section
variable {ts:List Tk}{b N:Nat}{H:Hp}
theorem b_add_str {x y:Txt}(h:x.length + y.length<=100000):binV H .add (.str x) (.str y)=some (.str (x++y)):=by
 simp only[binV,if_pos (cap_txt h)]
theorem b_add_int {x y:Int}:binV H .add (.int x) (.int y)=some (.int (x + y)):=rfl
theorem s_valued {c n:Nat}{w:List Tk}(h:Sk ts (.sg c::w)) (hk:∀ k∈(.sg c::w:List Tk),k.okk) (hv:isVal c=true) :
  cF N (n + 3) 34 [.lst (tokV ts),.int (pk ts (.sg c::w))] H=rsT ts H (valuedT (.sg c::w)):=by
 rw[callF_succ N (n + 2) 34 _ _ rfl];refine run_rsT rfl (st2 (loc:=[some (.lst (tokV ts)),some (.int (pk ts (.sg c::w))),none,none]) rfl ?_);show _=outT ts H _;have hw:=h.tail;have hkw:∀ k∈w,k.okk:=fun k hk'=>hk k (MC _ hk')
 have hp:=pk_tail h;have t0:idxV H (.lst (tokV ts)) (.int (pk ts (.sg c::w)))=some (oV (some (.sg c))):=tk_idx h 0 (by omega) (by omega) H;have t1:idxV H (.lst (tokV ts)) (.int ((pk ts (.sg c::w):Nat) + 1))=some (oV w[0]?):=tk_idx h 1 (by omega) (by omega) H;have t2:idxV H (.lst (tokV ts)) (.int ((pk ts (.sg c::w):Nat) + 2))=some (oV w[1]?):=tk_idx h 2 (by omega) (by omega) H;have t3:idxV H (.lst (tokV ts)) (.int ((pk ts (.sg c::w):Nat) + 3))=some (oV w[2]?):=tk_idx h 3 (by omega) (by omega) H;have n1:cF N (n + 2) 32 [.lst (tokV ts),.int ((pk ts (.sg c::w):Nat) + 1),.int 1] H=some (.ok (.bool (nAt 1 w[0]?)) H):=
  s_number (n:=n + 1) (lo:=1) (okO_get hkw 0) (fun H=>tk_idx h 1 (by omega) (by omega) H)
 have n3:cF N (n + 2) 32 [.lst (tokV ts),.int ((pk ts (.sg c::w):Nat) + 3),.int 0] H=some (.ok (.bool (nAt 0 w[2]?)) H):=
  s_number (n:=n + 1) (lo:=0) (okO_get hkw 2) (fun H=>tk_idx h 3 (by omega) (by omega) H)
 have hc:c≠110/\c≠116/\c≠63:=hk (.sg c) (MS ..);have er:=fun h0:isN w[0]?=true=>s_reals (N:=N) (H:=H) (n:=n) (c:=c) hw hkw h0 hc
 have z0:idxV H (oV (some (.sg c))) (.int 0)=some (.str [c]):=rfl;have z1:=i_oV0 H w[0]?;have z2:=i_oV0 H w[1]?;have v1:=i_oV1 H w[0]?;have v3:=i_oV1 H w[2]?;have k0:cmpV .eq (.str [c]) (.str [65])=some (c==65):=by rw[cmp_eqs,beq1]
 have k1:cmpV .ne (.str (oW w[0]?)) (.str [110])=some (!isN w[0]?):=by rw[cmp_nes,w_n (okO_get hkw 0)]
 have k2:cmpV .isIn (.str [c]) (.str [65,76])=some (decide (c=65\/c=76)):=by
  rw[cmp_isin];congr 1;rw[Bool.eq_iff_iff];simp[isSub,isPre]
 have k3:cmpV .ne (.str [c]) (.str [73])=some (!(c==73)):=by rw[cmp_nes,beq1]
 have k4:cmpV .ne (.str (oW w[1]?)) (.str [46])=some (!isSg 46 w[1]?):=by rw[cmp_nes,w_sg _ (by decide) (by decide) (by decide)]
 generalize cF N (n + 2)=call at *;have s0:∀ {x:Option RS},EA call N H.length (match F_law_valued.body with | .cons _ r=>r | .nil=>.nil) [some (.lst (tokV ts)),some (.int (pk ts (.sg c::w))),some (.str [c]),none] H=x->
   EA call N H.length F_law_valued.body [some (.lst (tokV ts)),some (.int (pk ts (.sg c::w))),none,none] H=x:=by
  intro x hx;exact ss_next (by simp only[EA,EB,EC,ED,EG,EF,EH,ZA,ZB,ZC,ZD,ZE,t0,z0]) hx
 refine s0 ?_;simp only[valuedT];by_cases q0:c=65/\isN w[0]?=false
 ·rw[if_pos q0];rw[q0.2] at k1;rw[beq_iff_eq.mpr q0.1] at k0;refine ite_ret (by simp only[EA,EB,EC,ED,EG,EF,EH,ZA,ZB,ZC,ZD,ZE,k0,binV,t1,z1,k1,BP]) (ret_pair (i:=.nums [65] [none]) (w:=w) ?_ ?_) outT_ne
  ·simp only[EA,EB,EC,ED,EG,EF,EH,ZA,ZB,ZC,ZD,ZE,LC,LN,cp2,if_true];rfl
  ·simp only[EA,EB,EC,ED,EG,EF,EH,ZA,ZB,ZC,ZD,ZE,binV,hp]
 rw[if_neg q0];have s1:∀ {x:Option RS},EA call N H.length (match F_law_valued.body with | .cons _ (.cons _ r)=>r | _=>.nil) [some (.lst (tokV ts)),some (.int (pk ts (.sg c::w))),some (.str [c]),none] H=x->
   EA call N H.length (match F_law_valued.body with | .cons _ r=>r | .nil=>.nil) [some (.lst (tokV ts)),some (.int (pk ts (.sg c::w))),some (.str [c]),none] H=x:=by
  intro x hx;refine ite_skip ?_ hx;by_cases q:c=65
  ·have q1:isN w[0]?=true:=by
    cases z:isN w[0]? with
    | true=>rfl
    | false=>exact absurd ⟨q,z⟩ q0
   rw[q1] at k1;rw[beq_iff_eq.mpr q] at k0;simp only[EA,EB,EC,ED,EG,EF,EH,ZA,ZB,ZC,ZD,ZE,k0,binV,t1,z1,k1,BQ]
  ·rw[BN.mpr q] at k0;simp only[EA,EB,EC,ED,EG,EF,EH,ZA,ZB,ZC,ZD,ZE,k0]
 refine s1 ?_;cases q1:nAt 1 w[0]? with
 | false=>
  rw[q1] at n1;simp only[BF,if_false];exact ite_ret (by simp only[EA,EB,EC,ED,EG,EF,EH,ZA,ZB,ZC,ZD,ZE,binV,n1,BP]) (ss_ret (by simp only[EA,EB,EC,ED,EG,EF,EH,ZA,ZB,ZC,ZD,ZE])) outT_ne
 | true=>
  rw[q1] at n1;have h0:=nAt_n q1;have l0:=lt_of_n h0;rw[oX_n h0] at v1;have er:=er h0;rw[<- hp] at er;simp only[if_true];have d1:=pk_drop hw (j:=1) (by omega);refine ite_skip (by simp only[EA,EB,EC,ED,EG,EF,EH,ZA,ZB,ZC,ZD,ZE,binV,n1,BQ]) ?_;refine ss_next (l':=[some (.lst (tokV ts)),some (.int (pk ts (.sg c::w))),some (.str [c]),some (.int (nv w[0]?))]) (H':=H) (by simp only[EA,EB,EC,ED,EG,EF,EH,ZA,ZB,ZC,ZD,ZE,binV,t1,v1]) ?_;have a2:((pk ts (.sg c::w):Nat):Int) + 2=(pk ts (w.drop 1):Nat):=by rw[d1,<- hp];omega
  by_cases q2:c=65\/c=76
  ·rw[DT q2] at k2;rw[if_pos q2];refine ite_ret (by simp only[EA,EB,EC,ED,EG,EF,EH,ZA,ZB,ZC,ZD,ZE,k2]) (ret_pair (i:=.nums [c] [nI (nv w[0]?)]) (w:=w.drop 1) ?_ ?_) outT_ne
   ·simp only[EA,EB,EC,ED,EG,EF,EH,ZA,ZB,ZC,ZD,ZE,LC,LN,cp2,if_true];rfl
   ·simp only[EA,EB,EC,ED,EG,EF,EH,ZA,ZB,ZC,ZD,ZE,binV,a2]
  rw[DF q2] at k2;rw[if_neg q2];refine ite_skip (by simp only[EA,EB,EC,ED,EG,EF,EH,ZA,ZB,ZC,ZD,ZE,k2]) ?_;by_cases q3:c=73
  ·rw[beq_iff_eq.mpr q3] at k3;rw[if_neg (fun h=>h q3)];refine ite_skip (by simp only[EA,EB,EC,ED,EG,EF,EH,ZA,ZB,ZC,ZD,ZE,k3,BQ]) ?_;cases q4:isSg 46 w[1]? with
   | false=>
    rw[q4] at k4;simp only[BF,if_false];refine ite_ret (by simp only[EA,EB,EC,ED,EG,EF,EH,ZA,ZB,ZC,ZD,ZE,binV,t2,z2,k4,BP]) (ret_pair (i:=.nums [73] [nI (nv w[0]?),none]) (w:=w.drop 1) ?_ ?_) outT_ne
    ·simp only[EA,EB,EC,ED,EG,EF,EH,ZA,ZB,ZC,ZD,ZE,LC,LN,cp3,if_true];rfl
    ·simp only[EA,EB,EC,ED,EG,EF,EH,ZA,ZB,ZC,ZD,ZE,binV,a2]
   | true=>
    rw[q4] at k4;simp only[if_true];refine ite_skip (by simp only[EA,EB,EC,ED,EG,EF,EH,ZA,ZB,ZC,ZD,ZE,binV,t2,z2,k4,BQ]) ?_;cases q5:nAt 0 w[2]? with
    | false=>
     rw[q5] at n3;simp only[BR,BF,if_false];exact ite_ret (by simp only[EA,EB,EC,ED,EG,EF,EH,ZA,ZB,ZC,ZD,ZE,binV,n3,BP]) (ss_ret (by simp only[EA,EB,EC,ED,EG,EF,EH,ZA,ZB,ZC,ZD,ZE])) outT_ne
    | true=>
     rw[q5] at n3;rw[oX_n (nAt_n q5)] at v3;have l2:=lt_of_n (nAt_n q5);have d3:=pk_drop hw (j:=3) (by omega);have a4:((pk ts (.sg c::w):Nat):Int) + 4=(pk ts (w.drop 3):Nat):=by rw[d3,<- hp];omega
     have k5:cmpV .gt (.int (nv w[2]?)) (.int (nv w[0]?))=some (decide (nv w[0]? < nv w[2]?)):=cmp_gt _ _;cases q6:decide (nv w[0]? < nv w[2]?) with
     | true=>
      rw[q6] at k5;simp only[BQ,BW,BF,if_false];exact ite_ret (by simp only[EA,EB,EC,ED,EG,EF,EH,ZA,ZB,ZC,ZD,ZE,binV,n3,BQ,t3,v3,k5]) (ss_ret (by simp only[EA,EB,EC,ED,EG,EF,EH,ZA,ZB,ZC,ZD,ZE])) outT_ne
     | false=>
      rw[q6] at k5;simp only[BP,BV,if_true];refine ite_skip (by simp only[EA,EB,EC,ED,EG,EF,EH,ZA,ZB,ZC,ZD,ZE,binV,n3,BQ,t3,v3,k5]) (ret_pair (i:=.nums [73] [nI (nv w[0]?),nI (nv w[2]?)]) (w:=w.drop 3) ?_ ?_)
      ·simp only[EA,EB,EC,ED,EG,EF,EH,ZA,ZB,ZC,ZD,ZE,binV,t3,v3,LC,LN,cp3,if_true];rfl
      ·simp only[EA,EB,EC,ED,EG,EF,EH,ZA,ZB,ZC,ZD,ZE,binV,a4]
  ·rw[BN.mpr q3] at k3;rw[if_pos q3];exact ite_ret (by simp only[EA,EB,EC,ED,EG,EF,EH,ZA,ZB,ZC,ZD,ZE,k3,BP]) (ret_callT er (by simp only[EA,EB,EC,ED,EG,EF,EH,ZA,ZB,ZC,ZD,ZE,binV])) outT_ne
theorem s_control {n:Nat}{w:List Tk}(h:Sk ts w) (hk:∀ k∈w,k.okk) :
  cF N (n + 2) 35 [.lst (tokV ts),.int (pk ts w)] H=rsT ts H (controlT w):=by
 rw[callF_succ N (n + 1) 35 _ _ rfl];refine run_rsT rfl (st2 (loc:=[some (.lst (tokV ts)),some (.int (pk ts w)),none,none]) rfl ?_);show _=outT ts H _;have t0:idxV H (.lst (tokV ts)) (.int (pk ts w))=some (oV w[0]?):=tk_idx h 0 (by omega) (by omega) H;have t1:idxV H (.lst (tokV ts)) (.int ((pk ts w:Nat) + 1))=some (oV w[1]?):=tk_idx h 1 (by omega) (by omega) H;have t2:idxV H (.lst (tokV ts)) (.int ((pk ts w:Nat) + 2))=some (oV w[2]?):=tk_idx h 2 (by omega) (by omega) H;have n1:cF N (n + 1) 32 [.lst (tokV ts),.int ((pk ts w:Nat) + 1),.int 1] H=some (.ok (.bool (nAt 1 w[1]?)) H):=
  s_number (n:=n) (lo:=1) (okO_get hk 1) (fun H=>tk_idx h 1 (by omega) (by omega) H)
 have n2:cF N (n + 1) 32 [.lst (tokV ts),.int ((pk ts w:Nat) + 1 + 1),.int 1] H=some (.ok (.bool (nAt 1 w[2]?)) H):=
  s_number (n:=n) (lo:=1) (okO_get hk 2) (fun H=>tk_idx h 2 (by omega) (by omega) H)
 have z0:=i_oV0 H w[0]?;have z1:=i_oV0 H w[1]?;have z2:=i_oV0 H w[2]?;have v0:=i_oV1 H w[0]?;have v1:=i_oV1 H w[1]?;have v2:=i_oV1 H w[2]?;have hx1:([[80],[83]]:List Txt).contains (oW w[1]?)=(isSg 80 w[1]?||isSg 83 w[1]?):=w_two _ (by decide) (by decide) (by decide) (by decide) (by decide) (by decide);have hx2:([[78],[90]]:List Txt).contains (oW w[1]?)=(isSg 78 w[1]?||isSg 90 w[1]?):=w_two _ (by decide) (by decide) (by decide) (by decide) (by decide) (by decide);have hx3:([[76],[82]]:List Txt).contains (oW w[1]?)=(isSg 76 w[1]?||isSg 82 w[1]?):=w_two _ (by decide) (by decide) (by decide) (by decide) (by decide) (by decide);have kt:cmpV .eq (.str (oW w[0]?)) (.str [116])=some (isT w[0]?):=by rw[cmp_eqs,w_t (okO_get hk 0)]
 have k83:cmpV .eq (.str (oW w[0]?)) (.str [83])=some (isSg 83 w[0]?):=by rw[cmp_eqs,w_sg _ (by decide) (by decide) (by decide)]
 have k66:cmpV .eq (.str (oW w[0]?)) (.str [66])=some (isSg 66 w[0]?):=by rw[cmp_eqs,w_sg _ (by decide) (by decide) (by decide)]
 have k84:cmpV .eq (.str (oW w[0]?)) (.str [84])=some (isSg 84 w[0]?):=by rw[cmp_eqs,w_sg _ (by decide) (by decide) (by decide)]
 have k43:cmpV .eq (.str (oW w[0]?)) (.str [43])=some (isSg 43 w[0]?):=by rw[cmp_eqs,w_sg _ (by decide) (by decide) (by decide)]
 have kn:cmpV .eq (.str (oW w[1]?)) (.str [110])=some (isN w[1]?):=by rw[cmp_eqs,w_n (okO_get hk 1)]
 have k80:cmpV .eq (.str (oW w[2]?)) (.str [80])=some (isSg 80 w[2]?):=by rw[cmp_eqs,w_sg _ (by decide) (by decide) (by decide)]
 have kin:∀ a b:Nat,a≠110->a≠116->a≠63->b≠110->b≠116->b≠63->(a≠101)->a≠100->b≠101->b≠100->cmpV .isIn (.str (oW w[0]?)) (.str [a,b])=some (isSg a w[0]?||isSg b w[0]?):=by
  intro a b a1 a2 a3 b1 b2 b3 a4 a5 b4 b5;rw[cmp_isin];congr 1;rw[Bool.eq_iff_iff];rcases w[0]? with _ | ⟨k⟩ | ⟨s⟩ | _ | ⟨d⟩<;>simp[oW,Tk.word,isSg,isSub,isPre]<;>omega
 have k47:=kin 47 58 (by decide) (by decide) (by decide) (by decide) (by decide) (by decide) (by decide) (by decide) (by decide) (by decide);have kpm:=kin 43 45 (by decide) (by decide) (by decide) (by decide) (by decide) (by decide) (by decide) (by decide) (by decide) (by decide);clear kin;generalize cF N (n + 1)=call at *;refine ss_next (l':=[some (.lst (tokV ts)),some (.int (pk ts w)),some (.str (oW w[0]?)),none]) (H':=H) (by simp only[EA,EB,EC,ED,EG,EF,EH,ZA,ZB,ZC,ZD,ZE,t0,z0]) ?_;refine ss_next (l':=[some (.lst (tokV ts)),some (.int (pk ts w)),some (.str (oW w[0]?)),some (.str (oW w[1]?))]) (H':=H) (by simp only[EA,EB,EC,ED,EG,EF,EH,ZA,ZB,ZC,ZD,ZE,binV,t1,z1]) ?_;have none_case:isT w[0]?=false->isSg 47 w[0]?=false->isSg 58 w[0]?=false->((isSg 43 w[0]?||isSg 45 w[0]?)&&(isN w[1]?&&isSg 80 w[2]?))=false->isSg 83 w[0]?=false->(isSg 66 w[0]?&&(isSg 78 w[1]?||isSg 90 w[1]?))=false->isSg 84 w[0]?=false->
   EA call N H.length (match F_law_control.body with | .cons _ (.cons _ r)=>r | _=>.nil) [some (.lst (tokV ts)),some (.int (pk ts w)),some (.str (oW w[0]?)),some (.str (oW w[1]?))] H=outT ts H none:=by
  intro h1 h2 h3 h4 h5 h6 h7;rw[h1] at kt;rw[h2,h3,BT] at k47;rw[h5] at k83;rw[h7] at k84;refine ite_skip (by simp only[EA,EB,EC,ED,EG,EF,EH,ZA,ZB,ZC,ZD,ZE,kt]) ?_;refine ite_skip (by simp only[EA,EB,EC,ED,EG,EF,EH,ZA,ZB,ZC,ZD,ZE,k47]) ?_;refine ite_skip ?_ ?_
  ·cases q1:(isSg 43 w[0]?||isSg 45 w[0]?) with
   | false=>rw[q1] at kpm;simp only[EA,EB,EC,ED,EG,EF,EH,ZA,ZB,ZC,ZD,ZE,kpm]
   | true=>
    rw[q1] at kpm h4;rw[BS] at h4;cases q2:isN w[1]? with
    | false=>rw[q2] at kn;simp only[EA,EB,EC,ED,EG,EF,EH,ZA,ZB,ZC,ZD,ZE,kpm,kn]
    | true=>
     rw[q2,BS] at h4;rw[q2] at kn;rw[h4] at k80;simp only[EA,EB,EC,ED,EG,EF,EH,ZA,ZB,ZC,ZD,ZE,kpm,kn,binV,t2,z2,k80]
  refine ite_skip (by simp only[EA,EB,EC,ED,EG,EF,EH,ZA,ZB,ZC,ZD,ZE,k83]) ?_;refine ite_skip ?_ ?_
  ·cases q1:isSg 66 w[0]? with
   | false=>rw[q1] at k66;simp only[EA,EB,EC,ED,EG,EF,EH,ZA,ZB,ZC,ZD,ZE,k66]
   | true=>
    rw[q1] at k66;rw[q1,BS] at h6;rw[h6] at hx2;simp only[EA,EB,EC,ED,EG,EF,EH,ZA,ZB,ZC,ZD,ZE,k66,hx2]
  refine ite_skip (by simp only[EA,EB,EC,ED,EG,EF,EH,ZA,ZB,ZC,ZD,ZE,k84]) ?_;exact ss_ret (by simp only[EA,EB,EC,ED,EG,EF,EH,ZA,ZB,ZC,ZD,ZE])
 match w,h with
 | [],h=>exact none_case rfl rfl rfl rfl rfl rfl rfl
 | .n k::w,h=>exact none_case rfl rfl rfl rfl rfl rfl rfl
 | .bad::w,h=>exact none_case rfl rfl rfl rfl rfl rfl rfl
 | .t s::w,h=>
  have hp:=pk_tail h;refine ite_ret (by simp only[EA,EB,EC,ED,EG,EF,EH,ZA,ZB,ZC,ZD,ZE,kt];rfl) (ret_pair (i:=.text s) (w:=w) ?_ ?_) outT_ne
  ·have v0':idxV H (oV (some (.t s))) (.int 1)=some (.str s):=rfl;have t0':idxV H (.lst (tokV ts)) (.int (pk ts (.t s::w)))=some (oV (some (.t s))):=t0;simp only[EA,EB,EC,ED,EG,EF,EH,ZA,ZB,ZC,ZD,ZE,t0',v0',LC,LN,cp2,if_true];rfl
  ·simp only[EA,EB,EC,ED,EG,EF,EH,ZA,ZB,ZC,ZD,ZE,binV,hp]
 | .sg c::w,h=>
  have hp:=pk_tail h;have hw:=h.tail;have hkw:∀ k∈w,k.okk:=fun k hk'=>hk k (MC _ hk')
  have e0:(Tk.sg c::w)[0]?=some (.sg c):=rfl;have e1:(Tk.sg c::w)[1]?=w[0]?:=rfl;have e2:(Tk.sg c::w)[2]?=w[1]?:=rfl;have eW:oW (some (.sg c))=[c]:=rfl;have sgc:∀ a,isSg a (some (.sg c))=(c==a):=fun a=>rfl
  have tT:isT (some (.sg c))=false:=rfl;simp only[e0,e1,e2,eW,sgc,tT] at *;simp only[controlT];by_cases q1:c=47\/c=58
  ·rw[if_pos q1];have z:(c==47||c==58)=true:=by simpa using q1
   rw[z] at k47;refine ite_skip (by simp only[EA,EB,EC,ED,EG,EF,EH,ZA,ZB,ZC,ZD,ZE,kt]) (ite_ret (by simp only[EA,EB,EC,ED,EG,EF,EH,ZA,ZB,ZC,ZD,ZE,k47]) (ret_pair (i:=.nums [c] []) (w:=w) ?_ ?_) outT_ne)
   ·simp only[EA,EB,EC,ED,EG,EF,EH,ZA,ZB,ZC,ZD,ZE,LC,LN,cp1,if_true];rfl
   ·simp only[EA,EB,EC,ED,EG,EF,EH,ZA,ZB,ZC,ZD,ZE,binV,hp]
  rw[if_neg q1];have zz:(c==47||c==58)=false:=by
   rw[Bool.eq_false_iff];intro z;exact q1 (by simpa using z)
  by_cases q2:(c=43\/c=45)/\(isN w[0]?&&isSg 80 w[1]?)=true
  ·rw[if_pos q2];have z1:(c==43||c==45)=true:=by simpa using q2.1
   obtain⟨qa,qb⟩:=Bool.and_eq_true_iff.mp q2.2;rw[qa] at kn;rw[qb] at k80;rw[z1] at kpm;rw[zz] at k47;rw[oX_n qa] at v1;have hb:=lt_of_sg qb;have d2:=pk_drop hw (j:=2) (by omega);have hlt:nv w[0]? < 10000:=by
    have:=okO_get hkw 0;rcases q:w[0]? with _ | ⟨k⟩ | ⟨s⟩ | _ | ⟨d⟩<;>rw[q] at qa this<;>first | exact this | cases qa
   have fm:∀ j:Int,(j=1\/j=-1)->binV H .mul (.int (nv w[0]?)) (.int j)=some (.int ((nv w[0]? : Nat) * j)):=by
    intro j hj;have f1:fitsI ((nv w[0]? : Nat):Int)=true:=by simp only[fitsI];exact DT (by omega)
    have f2:fitsI j=true:=by simp only[fitsI];exact DT (by omega)
    simp only[binV,f1,f2,BA,if_true]
   refine ite_skip (by simp only[EA,EB,EC,ED,EG,EF,EH,ZA,ZB,ZC,ZD,ZE,kt]) (ite_skip (by simp only[EA,EB,EC,ED,EG,EF,EH,ZA,ZB,ZC,ZD,ZE,k47]) (ite_ret (by simp only[EA,EB,EC,ED,EG,EF,EH,ZA,ZB,ZC,ZD,ZE,kpm,kn,binV,t2,z2,k80]) (ret_pair (i:=.nums [80] [some (if c=43 then (nv w[0]? : Int) else -(nv w[0]? : Int))]) (w:=w.drop 2) ?_ ?_) outT_ne))
   ·refine e_tup2 e_str (e_bin (w:=.int (if c=43 then 1 else -1)) (v:=.int (nv w[0]?)) ?_ ?_ ?_)
    ·simp only[EA,EB,EC,ED,EG,EF,EH,ZA,ZB,ZC,ZD,ZE,binV,t1,v1]
    ·by_cases q3:c=43
     ·rw[beq_iff_eq.mpr q3] at k43;rw[if_pos q3];simp only[EA,EB,EC,ED,EG,EF,EH,ZA,ZB,ZC,ZD,ZE,k43]
     ·rw[BN.mpr q3] at k43;rw[if_neg q3];simp only[EA,EB,EC,ED,EG,EF,EH,ZA,ZB,ZC,ZD,ZE,k43]
    ·by_cases q3:c=43
     ·simp only[if_pos q3];rw[fm 1 (.inl rfl),Int.mul_one];rfl
     ·simp only[if_neg q3];rw[fm (-1) (.inr rfl),Int.mul_neg,Int.mul_one];rfl
   ·have a3:((pk ts (.sg c::w):Nat):Int) + 3=(pk ts (w.drop 2):Nat):=by rw[d2,<- hp];omega
    simp only[EA,EB,EC,ED,EG,EF,EH,ZA,ZB,ZC,ZD,ZE,binV,a3]
  rw[if_neg q2];have z2':((c==43||c==45)&&(isN w[0]?&&isSg 80 w[1]?))=false:=by
   rw[Bool.eq_false_iff];intro z;obtain⟨za,zb⟩:=Bool.and_eq_true_iff.mp z;exact q2 ⟨by simpa using za,zb⟩
  have skip2:EC call H.length [some (.lst (tokV ts)),some (.int (pk ts (.sg c::w))),some (.str [c]),some (.str (oW w[0]?))] (.and (.cmp .isIn (.loc 2) (.str [43,45])) (.and (.cmp .eq (.loc 3) (.str [110])) (.cmp .eq (.idx (.idx (.loc 0) (.bin .add (.loc 1) (.int 2))) (.int 0)) (.str [80])))) H=some (.ok (.bool false) H):=by
   cases qa:(c==43||c==45) with
   | false=>rw[qa] at kpm;simp only[EA,EB,EC,ED,EG,EF,EH,ZA,ZB,ZC,ZD,ZE,kpm]
   | true=>
    rw[qa] at kpm;rw[qa,BS] at z2';cases qb:isN w[0]? with
    | false=>rw[qb] at kn;simp only[EA,EB,EC,ED,EG,EF,EH,ZA,ZB,ZC,ZD,ZE,kpm,kn]
    | true=>
     rw[qb] at kn;rw[qb,BS] at z2';rw[z2'] at k80;simp only[EA,EB,EC,ED,EG,EF,EH,ZA,ZB,ZC,ZD,ZE,kpm,kn,binV,t2,z2,k80]
  by_cases q3:c=83
  ·subst q3;rw[if_pos rfl];rw[zz] at k47;have z83:((83:Nat)==83)=true:=rfl;rw[z83] at k83;refine ite_skip (by simp only[EA,EB,EC,ED,EG,EF,EH,ZA,ZB,ZC,ZD,ZE,kt]) (ite_skip (by simp only[EA,EB,EC,ED,EG,EF,EH,ZA,ZB,ZC,ZD,ZE,k47]) (ite_skip skip2 (ite_ret (by simp only[EA,EB,EC,ED,EG,EF,EH,ZA,ZB,ZC,ZD,ZE,k83]) ?_ outT_ne)));have yes:∀ d,isSg d w[0]?=true->(isSg 80 w[0]?||isSg 83 w[0]?)=true->EA call N H.length (.cons (.ret (.ife (.inC (.loc 3) [[80],[83]]) (.tup (.cons (.tup (.cons (.bin .add (.str [83]) (.loc 3)) .nil)) (.cons (.bin .add (.loc 1) (.int 2)) .nil))) (.tup (.cons (.tup (.cons (.str [83]) .nil)) (.cons (.bin .add (.loc 1) (.int 1)) .nil))))) .nil) [some (.lst (tokV ts)),some (.int (pk ts (.sg 83::w))),some (.str [83]),some (.str (oW w[0]?))] H=outT ts H (some (.nums [83,d] [],w.drop 1)):=by
    intro d hd hor;rw[hor] at hx1;have hl:=lt_of_sg hd;have d1:=pk_drop hw (j:=1) (by omega);have a2:((pk ts (.sg 83::w):Nat):Int) + 2=(pk ts (w.drop 1):Nat):=by rw[d1,<- hp];omega
    have hW:oW w[0]?=[d]:=by
     rcases q:w[0]? with _ | ⟨k⟩ | ⟨s⟩ | _ | ⟨x⟩<;>rw[q] at hd<;>first | cases hd | (simp[isSg] at hd;simp[oW,Tk.word,hd])
    rw[hW] at hx1 ⊢;have bs:binV H .add (.str [83]) (.str [d])=some (.str [83,d]):=b_add_str (by simp);refine ss_ret ?_;simp only[EA,EB,EC,ED,EG,EF,EH,ZA,ZB,ZC,ZD,ZE,hx1,bs,binV,a2,LC,LN,cp1,cp2,if_true];rfl
   cases qa:isSg 80 w[0]? with
   | true=>
    simp only[if_true];exact yes 80 qa (by rw[qa];rfl)
   | false=>
    cases qb:isSg 83 w[0]? with
    | true=>
     simp only[BF,if_false,if_true];exact yes 83 qb (by rw[qa,qb];rfl)
    | false=>
     simp only[BF,if_false];rw[qa,qb] at hx1;refine ss_ret ?_;simp only[EA,EB,EC,ED,EG,EF,EH,ZA,ZB,ZC,ZD,ZE,hx1,BT,binV,hp,LC,LN,cp1,cp2,if_true];rfl
  rw[if_neg q3];have z83:(c==83)=false:=BN.mpr q3;by_cases q4:c=66
  ·subst q4;rw[if_pos rfl];have z66:((66:Nat)==66)=true:=rfl;rw[z66] at k66;have yes:∀ d,isSg d w[0]?=true->(isSg 78 w[0]?||isSg 90 w[0]?)=true->EA call N H.length (match F_law_control.body with | .cons _ (.cons _ r)=>r | _=>.nil) [some (.lst (tokV ts)),some (.int (pk ts (.sg 66::w))),some (.str [66]),some (.str (oW w[0]?))] H=outT ts H (some (.nums [66,d] [],w.drop 1)):=by
    intro d hd hor;rw[hor] at hx2;rw[zz] at k47;rw[z83] at k83;have hl:=lt_of_sg hd;have d1:=pk_drop hw (j:=1) (by omega);have a2:((pk ts (.sg 66::w):Nat):Int) + 2=(pk ts (w.drop 1):Nat):=by rw[d1,<- hp];omega
    have hW:oW w[0]?=[d]:=by
     rcases q:w[0]? with _ | ⟨k⟩ | ⟨s⟩ | _ | ⟨x⟩<;>rw[q] at hd<;>first | cases hd | (simp[isSg] at hd;simp[oW,Tk.word,hd])
    have bs:binV H .add (.str [66]) (.str [d])=some (.str [66,d]):=b_add_str (by simp);refine ite_skip (by simp only[EA,EB,EC,ED,EG,EF,EH,ZA,ZB,ZC,ZD,ZE,kt]) (ite_skip (by simp only[EA,EB,EC,ED,EG,EF,EH,ZA,ZB,ZC,ZD,ZE,k47]) (ite_skip skip2 (ite_skip (by simp only[EA,EB,EC,ED,EG,EF,EH,ZA,ZB,ZC,ZD,ZE,k83]) (ite_ret (by simp only[EA,EB,EC,ED,EG,EF,EH,ZA,ZB,ZC,ZD,ZE,k66,hx2]) (ret_pair ?_ ?_) outT_ne))))
    ·rw[hW];simp only[EA,EB,EC,ED,EG,EF,EH,ZA,ZB,ZC,ZD,ZE,bs,LC,LN,cp1,if_true];rfl
    ·simp only[EA,EB,EC,ED,EG,EF,EH,ZA,ZB,ZC,ZD,ZE,binV,a2]
   cases qa:isSg 78 w[0]? with
   | true=>
    simp only[if_true];exact yes 78 qa (by rw[qa];rfl)
   | false=>
    cases qb:isSg 90 w[0]? with
    | true=>
     simp only[BF,if_false,if_true];exact yes 90 qb (by rw[qa,qb];rfl)
    | false=>
     simp only[BF,if_false];exact none_case trivial rfl rfl z2' rfl (by rw[qa,qb];rfl) rfl
  rw[if_neg q4];have z66:(c==66)=false:=BN.mpr q4;by_cases q5:c=84
  ·subst q5;rw[if_pos rfl];have z84:((84:Nat)==84)=true:=rfl;rw[z84] at k84;rw[zz] at k47;rw[z83] at k83;rw[z66] at k66;refine ite_skip (by simp only[EA,EB,EC,ED,EG,EF,EH,ZA,ZB,ZC,ZD,ZE,kt]) (ite_skip (by simp only[EA,EB,EC,ED,EG,EF,EH,ZA,ZB,ZC,ZD,ZE,k47]) (ite_skip skip2 (ite_skip (by simp only[EA,EB,EC,ED,EG,EF,EH,ZA,ZB,ZC,ZD,ZE,k83]) (ite_skip (by simp only[EA,EB,EC,ED,EG,EF,EH,ZA,ZB,ZC,ZD,ZE,k66]) (ite_ret (by simp only[EA,EB,EC,ED,EG,EF,EH,ZA,ZB,ZC,ZD,ZE,k84]) ?_ outT_ne)))));have yes:∀ d,isSg d w[0]?=true->(isSg 76 w[0]?||isSg 82 w[0]?)=true->EA call N H.length (.cons (.ite (.inC (.loc 3) [[76],[82]]) (.cons (.assign 2 (.bin .add (.loc 2) (.loc 3))) (.cons (.assign 1 (.bin .add (.loc 1) (.int 1))) .nil)) .nil) (.cons (.ret (.ife (.call 32 (.cons (.loc 0) (.cons (.bin .add (.loc 1) (.int 1)) (.cons (.int 1) .nil)))) (.tup (.cons (.tup (.cons (.loc 2) (.cons (.idx (.idx (.loc 0) (.bin .add (.loc 1) (.int 1))) (.int 1)) .nil))) (.cons (.bin .add (.loc 1) (.int 2)) .nil))) .none)) .nil)) [some (.lst (tokV ts)),some (.int (pk ts (.sg 84::w))),some (.str [84]),some (.str (oW w[0]?))] H=outT ts H (if nAt 1 w[1]? then some (.nums [84,d] [nI (nv w[1]?)],w.drop 2) else none):=by
    intro d hd hor;rw[hor] at hx3;have hW:oW w[0]?=[d]:=by
     rcases q:w[0]? with _ | ⟨k⟩ | ⟨s⟩ | _ | ⟨x⟩<;>rw[q] at hd<;>first | cases hd | (simp[isSg] at hd;simp[oW,Tk.word,hd])
    have bs:binV H .add (.str [84]) (.str [d])=some (.str [84,d]):=b_add_str (by simp);have t2':idxV H (.lst (tokV ts)) (.int ((pk ts (.sg 84::w):Nat) + 1 + 1))=some (oV w[1]?):=tk_idx h 2 (by omega) (by omega) H;refine ss_next (l':=[some (.lst (tokV ts)),some (.int ((pk ts (.sg 84::w):Nat) + 1)),some (.str [84,d]),some (.str [d])]) (H':=H) (ite_next true (by simp only[EA,EB,EC,ED,EG,EF,EH,ZA,ZB,ZC,ZD,ZE,hx3]) ?_) ?_
    ·rw[hW];simp only[if_true,EA,EB,EC,ED,EG,EF,EH,ZA,ZB,ZC,ZD,ZE,bs,b_add_int]
    cases qn:nAt 1 w[1]? with
    | true=>
     rw[qn] at n2;rw[oX_n (nAt_n qn)] at v2;have hl:=lt_of_n (nAt_n qn);have d2:=pk_drop hw (j:=2) (by omega);have a2:((pk ts (.sg 84::w):Nat):Int) + 1 + 2=(pk ts (w.drop 2):Nat):=by rw[d2,<- hp];omega
     refine ss_ret ?_;simp only[if_true,EA,EB,EC,ED,EG,EF,EH,ZA,ZB,ZC,ZD,ZE,binV,n2,t2',v2,a2,LC,LN,cp2];rfl
    | false=>
     rw[qn] at n2;refine ss_ret ?_;simp only[EA,EB,EC,ED,EG,EF,EH,ZA,ZB,ZC,ZD,ZE,binV,n2]
   cases qa:isSg 76 w[0]? with
   | true=>
    simp only[if_true];exact yes 76 qa (by rw[qa];rfl)
   | false=>
    cases qb:isSg 82 w[0]? with
    | true=>
     simp only[BF,if_false,if_true];exact yes 82 qb (by rw[qa,qb];rfl)
    | false=>
     simp only[BF,if_false];rw[qa,qb] at hx3;refine ss_next (l':=[some (.lst (tokV ts)),some (.int (pk ts (.sg 84::w))),some (.str [84]),some (.str (oW w[0]?))]) (H':=H) (ite_next false (by simp only[EA,EB,EC,ED,EG,EF,EH,ZA,ZB,ZC,ZD,ZE,hx3,BT]) ?_) ?_
     ·simp only[BF,if_false];exact ss_nil
     cases qn:nAt 1 w[0]? with
     | true=>
      rw[qn] at n1;rw[oX_n (nAt_n qn)] at v1;have hl:=lt_of_n (nAt_n qn);have d1:=pk_drop hw (j:=1) (by omega);have a2:((pk ts (.sg 84::w):Nat):Int) + 2=(pk ts (w.drop 1):Nat):=by rw[d1,<- hp];omega
      refine ss_ret ?_;simp only[if_true,EA,EB,EC,ED,EG,EF,EH,ZA,ZB,ZC,ZD,ZE,binV,n1,t1,v1,a2,LC,LN,cp2];rfl
     | false=>
      rw[qn] at n1;refine ss_ret ?_;simp only[EA,EB,EC,ED,EG,EF,EH,ZA,ZB,ZC,ZD,ZE,binV,n1]
  rw[if_neg q5];have n47:(c==47)=false:=BN.mpr fun h=>q1 (.inl h)
  have n58:(c==58)=false:=BN.mpr fun h=>q1 (.inr h)
  exact none_case trivial n47 n58 z2' z83 (by rw[z66];rfl) (BN.mpr q5)
end
def okR (w:List Tk) (i:It) (w':List Tk):Prop:=∃ j,0 < j/\j<=w.length/\w'=w.drop j/\i.wd
theorem okR_nums {w:List Tk}{x:Txt}{ps:List (Option Int)}{j:Nat}(hx:x∈words) (h0 : 0 < j) (h1:j<=w.length):okR w (.nums x ps) (w.drop j):=⟨j,h0,h1,rfl,hx⟩
theorem val_words {c:Nat}(h:isVal c=true):[c]∈words:=by
 simp[isVal] at h;rcases h with (((((rfl | rfl) | rfl) | rfl) | rfl) | rfl) | rfl<;>decide
theorem realsT_ok {c:Nat}{w:List Tk}{i:It}{w':List Tk}(hc:[c]∈words) (h:realsT c w=some (i,w')):okR w i w':=by
 unfold realsT at h;split at h
 ·rename_i q;obtain⟨qa,qb⟩:=Bool.and_eq_true_iff.mp q;have l2:=lt_of_n (nAt_n qb);split at h
  ·simp at h;rw[<- h.1,<- h.2];exact okR_nums hc (by omega) (by omega)
  ·split at h
   ·split at h
    ·rename_i q4;have l4:=lt_of_n (nAt_n q4);simp at h;rw[<- h.1,<- h.2];exact okR_nums hc (by omega) (by omega)
    ·cases h
   ·simp at h;rw[<- h.1,<- h.2];exact okR_nums hc (by omega) (by omega)
 ·cases h
theorem okR_cons {w:List Tk}{i:It}{w':List Tk}(k:Tk) (h:okR w i w'):okR (k::w) i w':=by
 obtain⟨j,h0,h1,h2,h3⟩:=h;exact⟨j + 1,by omega,by simp only[LC];omega,by simpa using h2,h3⟩
theorem okR_one {w:List Tk}{x:Txt}{ps:List (Option Int)}(k:Tk) (hx:x∈words):okR (k::w) (.nums x ps) w:=⟨1,by omega,by simp,by simp,hx⟩
def It.flat:It->Prop
 | .nums w _=>w∈words
 | _=>False
theorem realsT_flat {c:Nat}{w:List Tk}{i:It}{w':List Tk}(hc:[c]∈words) (h:realsT c w=some (i,w')):i.flat:=by
 unfold realsT at h;split at h
 ·split at h
  ·simp at h;rw[<- h.1];exact hc
  ·split at h
   ·split at h
    ·simp at h;rw[<- h.1];exact hc
    ·cases h
   ·simp at h;rw[<- h.1];exact hc
 ·cases h
theorem valuedT_ok {c:Nat}{w:List Tk}{i:It}{w':List Tk}(hc:isVal c=true) (h:valuedT (.sg c::w)=some (i,w')):okR (.sg c::w) i w'/\i.flat:=by
 have hw:=val_words hc;simp only[valuedT] at h;split at h
 ·simp at h;rw[<- h.1,<- h.2];exact⟨okR_one _ (by decide),show ([65]:Txt)∈words by decide⟩
 split at h
 ·rename_i q0;have l0:=lt_of_n (nAt_n q0);split at h
  ·simp only[OI,Prod.mk.injEq] at h;rw[<- h.1,<- h.2];exact⟨okR_cons _ (okR_nums hw (by omega) (by omega)),hw⟩
  split at h
  ·exact⟨okR_cons _ (realsT_ok hw h),realsT_flat hw h⟩
  split at h
  ·split at h
   ·rename_i q2;have l2:=lt_of_n (nAt_n (Bool.and_eq_true_iff.mp q2).1);simp only[OI,Prod.mk.injEq] at h;rw[<- h.1,<- h.2];exact⟨okR_cons _ (okR_nums (by decide) (by omega) (by omega)),show ([73]:Txt)∈words by decide⟩
   ·cases h
  ·simp only[OI,Prod.mk.injEq] at h;rw[<- h.1,<- h.2];exact⟨okR_cons _ (okR_nums (by decide) (by omega) (by omega)),show ([73]:Txt)∈words by decide⟩
 ·cases h
theorem controlT_ok {w:List Tk}{i:It}{w':List Tk}(h:controlT w=some (i,w')):okR w i w':=by
 unfold controlT at h;split at h
 ·simp at h;rw[<- h.1,<- h.2];exact⟨1,by omega,by simp,by simp,trivial⟩
 ·split at h
  ·rename_i q;simp at h;rw[<- h.1,<- h.2];exact okR_one _ (by rcases q with rfl | rfl<;>decide)
  split at h
  ·rename_i q;have l1:=lt_of_sg (Bool.and_eq_true_iff.mp q.2).2;simp only[OI,Prod.mk.injEq] at h;rw[<- h.1,<- h.2];exact okR_cons _ (okR_nums (by decide) (by omega) (by omega))
  split at h
  ·split at h
   ·rename_i q;have l1:=lt_of_sg q;simp only[OI,Prod.mk.injEq] at h;rw[<- h.1,<- h.2];exact okR_cons _ (okR_nums (by decide) (by omega) (by omega))
   split at h
   ·rename_i q;have l1:=lt_of_sg q;simp only[OI,Prod.mk.injEq] at h;rw[<- h.1,<- h.2];exact okR_cons _ (okR_nums (by decide) (by omega) (by omega))
   ·simp only[OI,Prod.mk.injEq] at h;rw[<- h.1,<- h.2];exact okR_one _ (by decide)
  split at h
  ·split at h
   ·rename_i q;have l1:=lt_of_sg q;simp only[OI,Prod.mk.injEq] at h;rw[<- h.1,<- h.2];exact okR_cons _ (okR_nums (by decide) (by omega) (by omega))
   split at h
   ·rename_i q;have l1:=lt_of_sg q;simp only[OI,Prod.mk.injEq] at h;rw[<- h.1,<- h.2];exact okR_cons _ (okR_nums (by decide) (by omega) (by omega))
   ·cases h
  split at h
  ·split at h
   ·split at h
    ·rename_i q;have l1:=lt_of_n (nAt_n q);simp only[OI,Prod.mk.injEq] at h;rw[<- h.1,<- h.2];exact okR_cons _ (okR_nums (by decide) (by omega) (by omega))
    ·cases h
   split at h
   ·split at h
    ·rename_i q;have l1:=lt_of_n (nAt_n q);simp only[OI,Prod.mk.injEq] at h;rw[<- h.1,<- h.2];exact okR_cons _ (okR_nums (by decide) (by omega) (by omega))
    ·cases h
   split at h
   ·rename_i q;have l1:=lt_of_n (nAt_n q);simp only[OI,Prod.mk.injEq] at h;rw[<- h.1,<- h.2];exact okR_cons _ (okR_nums (by decide) (by omega) (by omega))
   ·cases h
  ·cases h
 ·cases h
theorem singleT_ok {w:List Tk}{i:It}{w':List Tk}(h:singleT w=some (i,w')):okR w i w':=by
 unfold singleT at h;split at h
 ·rename_i k w;split at h
  ·rename_i q;have l1:=lt_of_sg q;simp only[OI,Prod.mk.injEq] at h;rw[<- h.1,<- h.2];exact okR_cons _ (okR_nums (by decide) (by omega) (by omega))
  split at h
  ·rename_i q;have l1:=lt_of_sg q.2;simp only[OI,Prod.mk.injEq] at h;rw[<- h.1,<- h.2];exact okR_cons _ (okR_nums (by decide) (by omega) (by omega))
  split at h
  ·rename_i q;rw[Option.map_eq_some_iff] at h;obtain⟨⟨j,w2⟩,h1,h2⟩:=h;simp only[Prod.mk.injEq] at h2;obtain⟨h2,rfl⟩:=h2;have q2:=q.2
   match w,h1,q2 with
   | .sg c::w,h1,q2=>
    have hc:isVal c=true:=q2;obtain⟨h3,h4⟩:=valuedT_ok hc h1;obtain⟨n,a,b,cc,d⟩:=okR_cons (.n k) h3;refine⟨n,a,b,cc,?_⟩;rw[<- h2];split
    ·cases j with
     | nums x ps=>exact h4
     | text s=>cases h4
     | rep k i=>cases h4
     | grp k i=>cases h4
    ·exact d
  ·cases h
 ·split at h
  ·rename_i q;exact (valuedT_ok q h).1
  ·exact controlT_ok h
 ·exact controlT_ok h
section
variable {ts:List Tk}{b N:Nat}{H:Hp}
theorem s_single {n:Nat}{w:List Tk}(h:Sk ts w) (hk:∀ k∈w,k.okk) :
  cF N (n + 4) 36 [.lst (tokV ts),.int (pk ts w)] H=rsT ts H (singleT w):=by
 rw[callF_succ N (n + 3) 36 _ _ rfl];refine run_rsT rfl (st2 (loc:=[some (.lst (tokV ts)),some (.int (pk ts w)),none,none,none]) rfl ?_);show _=outT ts H _;have t0:idxV H (.lst (tokV ts)) (.int (pk ts w))=some (oV w[0]?):=tk_idx h 0 (by omega) (by omega) H;have t1:idxV H (.lst (tokV ts)) (.int ((pk ts w:Nat) + 1))=some (oV w[1]?):=tk_idx h 1 (by omega) (by omega) H;have z0:=i_oV0 H w[0]?;have z1:=i_oV0 H w[1]?;have v0:=i_oV1 H w[0]?;have kn:cmpV .ne (.str (oW w[0]?)) (.str [110])=some (!isN w[0]?):=by rw[cmp_nes,w_n (okO_get hk 0)]
 have kv:=w_val w[0]?;have kv1:=w_val w[1]?;have k80:cmpV .eq (.str (oW w[1]?)) (.str [80])=some (isSg 80 w[1]?):=by rw[cmp_eqs,w_sg _ (by decide) (by decide) (by decide)]
 have k88:cmpV .eq (.str (oW w[1]?)) (.str [88])=some (isSg 88 w[1]?):=by rw[cmp_eqs,w_sg _ (by decide) (by decide) (by decide)]
 have ec:=s_control (N:=N) (H:=H) (n:=n + 1) h hk;have ev:∀ c w1,Suf [] []->Sk ts (.sg c::w1)->(∀ k∈(.sg c::w1:List Tk),k.okk)->isVal c=true->cF N (n + 3) 34 [.lst (tokV ts),.int (pk ts (.sg c::w1))] H=rsT ts H (valuedT (.sg c::w1)):=
  fun c w1 _ h hk hv=>s_valued (N:=N) (H:=H) (n:=n) h hk hv
 generalize cF N (n + 3)=call at *;cases hN:isN w[0]? with
 | false=>
  rw[hN] at kn;have hc0:EC call H.length [some (.lst (tokV ts)),some (.int (pk ts w)),none,none,none] (.cmp .ne (.idx (.idx (.loc 0) (.loc 1)) (.int 0)) (.str [110])) H=some (.ok (.bool true) H):=by simp only[EA,EB,EC,ED,EG,EF,EH,ZA,ZB,ZC,ZD,ZE,t0,z0,kn,BP]
  cases hV:valO w[0]? with
  | true=>
   rw[hV] at kv;have hc1:EC call H.length [some (.lst (tokV ts)),some (.int (pk ts w)),none,none,none] (.inC (.idx (.idx (.loc 0) (.loc 1)) (.int 0)) [[73],[70],[69],[68],[71],[76],[65]]) H=some (.ok (.bool true) H):=by simp only[EA,EB,EC,ED,EG,EF,EH,ZA,ZB,ZC,ZD,ZE,t0,z0,kv]
   match w,h,hk,hV with
   | .sg c::w1,h,hk,hV=>
    have hV:isVal c=true:=hV;have:singleT (.sg c::w1)=valuedT (.sg c::w1):=by simp[singleT,hV]
    rw[this];refine ite_ret hc0 (ite_ret hc1 (ret_callT (ev c w1 (.rfl' _) h hk hV) (by simp only[EA,EB,EC,ED,EG,EF,EH,ZA,ZB,ZC,ZD,ZE])) outT_ne) outT_ne
  | false=>
   rw[hV] at kv;have:singleT w=controlT w:=by
    match w,hN,hV with
    | [],_,_=>rfl
    | .t s::w,_,_=>rfl
    | .bad::w,_,_=>rfl
    | .n k::w,hN,_=>cases hN
    | .sg c::w,_,hV=>have hV:isVal c=false:=hV;simp[singleT,hV]
   rw[this];exact ite_ret hc0 (ite_skip (by simp only[EA,EB,EC,ED,EG,EF,EH,ZA,ZB,ZC,ZD,ZE,t0,z0,kv]) (ret_callT ec (by simp only[EA,EB,EC,ED,EG,EF,EH,ZA,ZB,ZC,ZD,ZE]))) outT_ne
 | true=>
  rw[hN] at kn;rw[oX_n hN] at v0
  match w,h,hk,hN with
  | .n k::w,h,hk,hN=>
  have e1:(Tk.n k::w)[1]?=w[0]?:=rfl;have e0:(Tk.n k::w)[0]?=some (.n k):=rfl;have e0':nv (some (.n k))=k:=rfl;simp only[e1,e0,e0'] at *;have hp:=pk_tail h;have hw:=h.tail;have hkw:∀ k∈w,k.okk:=fun k hk'=>hk k (MC _ hk')
  simp only[singleT];refine ite_skip (by simp only[EA,EB,EC,ED,EG,EF,EH,ZA,ZB,ZC,ZD,ZE,t0,z0,kn,BQ]) ?_;refine ss_next (l':=[some (.lst (tokV ts)),some (.int (pk ts (.n k::w))),some (.int k),none,none]) (H':=H) (by simp only[EA,EB,EC,ED,EG,EF,EH,ZA,ZB,ZC,ZD,ZE,t0,v0]) ?_;refine ss_next (l':=[some (.lst (tokV ts)),some (.int (pk ts (.n k::w))),some (.int k),some (.str (oW w[0]?)),none]) (H':=H) (by simp only[EA,EB,EC,ED,EG,EF,EH,ZA,ZB,ZC,ZD,ZE,binV,t1,z1]) ?_;have a2 : 0 < w.length->((pk ts (.n k::w):Nat):Int) + 2=(pk ts (w.drop 1):Nat):=fun hl=>by rw[pk_drop hw (j:=1) (by omega),<- hp];omega
  cases q1:isSg 80 w[0]? with
  | true=>
   rw[q1] at k80;have a2:=a2 (lt_of_sg q1);simp only[if_true];refine ite_ret (by simp only[EA,EB,EC,ED,EG,EF,EH,ZA,ZB,ZC,ZD,ZE,k80]) (ret_pair (i:=.nums [80] [nI k]) (w:=w.drop 1) ?_ ?_) outT_ne
   ·simp only[EA,EB,EC,ED,EG,EF,EH,ZA,ZB,ZC,ZD,ZE,LC,LN,cp2,if_true];rfl
   ·simp only[EA,EB,EC,ED,EG,EF,EH,ZA,ZB,ZC,ZD,ZE,binV,a2]
  | false=>
  rw[q1] at k80;simp only[BF,if_false];refine ite_skip (by simp only[EA,EB,EC,ED,EG,EF,EH,ZA,ZB,ZC,ZD,ZE,k80]) ?_;have kg:cmpV .gt (.int k) (.int 0)=some (decide (0 < k)):=cmp_gt k 0;have kg1:cmpV .gt (.int k) (.int 1)=some (decide (1 < k)):=cmp_gt k 1;have ke:cmpV .eq (.int k) (.int 0)=some (decide (k=0)):=by
   rw[cmp_eqi];congr 1;rw[Bool.eq_iff_iff];simp
  by_cases q2 : 0 < k/\isSg 88 w[0]?=true
  ·rw[if_pos q2];rw[DT q2.1] at kg;rw[q2.2] at k88;have a2:=a2 (lt_of_sg q2.2);refine ite_ret (by simp only[EA,EB,EC,ED,EG,EF,EH,ZA,ZB,ZC,ZD,ZE,kg,k88]) (ret_pair (i:=.nums [88] [nI k]) (w:=w.drop 1) ?_ ?_) outT_ne
   ·simp only[EA,EB,EC,ED,EG,EF,EH,ZA,ZB,ZC,ZD,ZE,LC,LN,cp2,if_true];rfl
   ·simp only[EA,EB,EC,ED,EG,EF,EH,ZA,ZB,ZC,ZD,ZE,binV,a2]
  rw[if_neg q2];refine ite_skip ?_ ?_
  ·by_cases q3 : 0 < k
   ·have q4:isSg 88 w[0]?=false:=by
     rw[Bool.eq_false_iff];exact fun z=>q2 ⟨q3,z⟩
    rw[DT q3] at kg;rw[q4] at k88;simp only[EA,EB,EC,ED,EG,EF,EH,ZA,ZB,ZC,ZD,ZE,kg,k88]
   ·rw[DF q3] at kg;simp only[EA,EB,EC,ED,EG,EF,EH,ZA,ZB,ZC,ZD,ZE,kg]
  by_cases q3 : 0 < k/\valO w[0]?=true
  ·rw[if_pos q3];rw[q3.2] at kv1;rw[DF (by omega:¬ k=0)] at ke;refine ite_skip (by simp only[EA,EB,EC,ED,EG,EF,EH,ZA,ZB,ZC,ZD,ZE,ke,kv1,BQ]) ?_
   match w,h,hw,hkw,hp,q3 with
   | .sg c::w1,h,hw,hkw,hp,q3=>
   have hV:isVal c=true:=q3.2;have ev:=ev c w1 (.rfl' _) hw hkw hV;rw[<- hp] at ev;cases hr:valuedT (.sg c::w1) with
   | none=>
    rw[hr,rsT] at ev;refine ss_next (l':=[some (.lst (tokV ts)),some (.int (pk ts (.n k::.sg c::w1))),some (.int k),some (.str (oW (.sg c::w1:List Tk)[0]?)),some .none]) (H':=H) (by simp only[EA,EB,EC,ED,EG,EF,EH,ZA,ZB,ZC,ZD,ZE,binV,ev]) ?_;refine ite_skip (by simp only[EA,EB,EC,ED,EG,EF,EH,ZA,ZB,ZC,ZD,ZE]) (ss_ret (by simp only[EA,EB,EC,ED,EG,EF,EH,ZA,ZB,ZC,ZD,ZE]))
   | some p=>
    obtain⟨i,w'⟩:=p;rw[hr,rsT] at ev;refine ss_next (l':=[some (.lst (tokV ts)),some (.int (pk ts (.n k::.sg c::w1))),some (.int k),some (.str (oW (.sg c::w1:List Tk)[0]?)),some (.tup [i.toV,.int (pk ts w')])]) (H':=H) (by simp only[EA,EB,EC,ED,EG,EF,EH,ZA,ZB,ZC,ZD,ZE,binV,ev]) ?_;simp only[ZE];by_cases q5 : 1 < k
    ·rw[DT q5] at kg1;rw[if_pos q5];have x0:idxV H (.tup [i.toV,.int (pk ts w')]) (.int 0)=some i.toV:=rfl;have x1:idxV H (.tup [i.toV,.int (pk ts w')]) (.int 1)=some (.int (pk ts w')):=rfl;refine ss_next (l':=[some (.lst (tokV ts)),some (.int (pk ts (.n k::.sg c::w1))),some (.int k),some (.str (oW (.sg c::w1:List Tk)[0]?)),some (.tup [It.toV (.rep k i),.int (pk ts w')])]) (H':=H) (ite_next true (by simp only[EA,EB,EC,ED,EG,EF,EH,ZA,ZB,ZC,ZD,ZE,kg1]) ?_) (ss_ret ?_)
     ·simp only[if_true,EA,EB,EC,ED,EG,EF,EH,ZA,ZB,ZC,ZD,ZE,x0,x1,LC,LN,cp2,cp3,It.toV]
     ·simp only[EA,EB,EC,ED,EG,EF,EH,ZA,ZB,ZC,ZD,ZE]
    ·rw[DF q5] at kg1;rw[if_neg q5];exact ite_skip (by simp only[EA,EB,EC,ED,EG,EF,EH,ZA,ZB,ZC,ZD,ZE,kg1]) (ss_ret (by simp only[EA,EB,EC,ED,EG,EF,EH,ZA,ZB,ZC,ZD,ZE]))
  ·rw[if_neg q3];refine ite_ret ?_ (ss_ret (by simp only[EA,EB,EC,ED,EG,EF,EH,ZA,ZB,ZC,ZD,ZE])) outT_ne;by_cases q4:k=0
   ·rw[DT q4] at ke;simp only[EA,EB,EC,ED,EG,EF,EH,ZA,ZB,ZC,ZD,ZE,ke]
   ·have q5:valO w[0]?=false:=by
     rw[Bool.eq_false_iff];exact fun z=>q3 ⟨by omega,z⟩
    rw[DF q4] at ke;rw[q5] at kv1;simp only[EA,EB,EC,ED,EG,EF,EH,ZA,ZB,ZC,ZD,ZE,ke,kv1,BP]
theorem s_loose {a i:It}{n:Nat}(ha:a.wd) (hi:i.wd):cF N (n + 1) 27 [a.toV,i.toV] H=some (.ok (.bool (loose a i)) H):=by
 rw[callF_succ N n 27 _ _ rfl];generalize cF N n=call;have ea:=word_idx (H:=H) a;have ei:=word_idx (H:=H) i;have c1:([[47],[58]]:List Txt).contains a.word=(decide (a.word=[47])||decide (a.word=[58])):=by rw[Bool.eq_iff_iff];simp
 have c2:([[47],[58]]:List Txt).contains i.word=(decide (i.word=[47])||decide (i.word=[58])):=by rw[Bool.eq_iff_iff];simp
 have c3:([[70],[69],[68],[71]]:List Txt).contains i.kind=(decide (i.kind=[70])||decide (i.kind=[69])||decide (i.kind=[68])||decide (i.kind=[71])):=by rw[Bool.eq_iff_iff];simp[or_assoc]
 have x2:cmpV .eq (.str a.word) (.str [80])=some (decide (a.word=[80])):=by rw[cmp_eqs];congr 1;rw[Bool.eq_iff_iff];simp
 have x1:cmpV .eq (.str i.word) (.str [114,101,112,101,97,116])=some (i.word==[114,101,112,101,97,116]):=cmp_eqs _ _;refine run_ret (H':=H) rfl (st2 (loc:=[some a.toV,some i.toV,none]) rfl ?_) rfl LT;have s1:EB call N H.length (.assign 2 (.ife (.cmp .eq (.idx (.loc 1) (.int 0)) (.str [114,101,112,101,97,116])) (.idx (.idx (.loc 1) (.int 2)) (.int 0)) (.idx (.loc 1) (.int 0)))) [some a.toV,some i.toV,none] H=some (.next [some a.toV,some i.toV,some (.str i.kind)] H):=by
  cases i with
  | rep k j=>
   have y1:idxV H (It.toV (.rep k j)) (.int 2)=some j.toV:=rfl;have y2:=word_idx (H:=H) j;have x3:((It.rep k j).word==[114,101,112,101,97,116])=true:=rfl;rw[x3] at x1;simp only[EA,EB,EC,ED,EG,EF,EH,ZA,ZB,ZC,ZD,ZE,ei,x1,y1,y2];rfl
  | nums w ps=>
   have x3:((It.nums w ps).word==[114,101,112,101,97,116])=false:=words_rep _ hi;rw[x3] at x1;simp only[EA,EB,EC,ED,EG,EF,EH,ZA,ZB,ZC,ZD,ZE,ei,x1];rfl
  | text s=>
   have x3:((It.text s).word==[114,101,112,101,97,116])=false:=rfl;rw[x3] at x1;simp only[EA,EB,EC,ED,EG,EF,EH,ZA,ZB,ZC,ZD,ZE,ei,x1];rfl
  | grp k l=>
   have x3:((It.grp k l).word==[114,101,112,101,97,116])=false:=rfl;rw[x3] at x1;simp only[EA,EB,EC,ED,EG,EF,EH,ZA,ZB,ZC,ZD,ZE,ei,x1];rfl
 refine ss_next s1 (ss_ret ?_);have hlo:loose a i=((decide (a.word=[47])||decide (a.word=[58]))||((decide (i.word=[47])||decide (i.word=[58]))||(decide (a.word=[80])&&(decide (i.kind=[70])||decide (i.kind=[69])||decide (i.kind=[68])||decide (i.kind=[71]))))):=by
  rw[Bool.eq_iff_iff];simp[loose,or_assoc]
 rw[hlo];cases h1:(decide (a.word=[47])||decide (a.word=[58])) with
 | true=>rw[h1] at c1;simp only[EA,EB,EC,ED,EG,EF,EH,ZA,ZB,ZC,ZD,ZE,ea,c1,BU]
 | false=>
  rw[h1] at c1;cases h2:(decide (i.word=[47])||decide (i.word=[58])) with
  | true=>rw[h2] at c2;simp only[EA,EB,EC,ED,EG,EF,EH,ZA,ZB,ZC,ZD,ZE,ea,ei,c1,c2,BU,BT]
  | false=>
   rw[h2] at c2;cases h3:decide (a.word=[80]) with
   | true=>rw[h3] at x2;simp only[EA,EB,EC,ED,EG,EF,EH,ZA,ZB,ZC,ZD,ZE,ea,ei,c1,c2,x2,c3,BS,BT]
   | false=>rw[h3] at x2;simp only[EA,EB,EC,ED,EG,EF,EH,ZA,ZB,ZC,ZD,ZE,ea,ei,c1,c2,x2,BR,BT]
end
def mach:Nat->List (Nat × List It × Bool)->Nat->List It->Bool->List Tk->Option (List It)
 | 0,_,_,_,_,_=>none
 | f + 1,B,k,acc,after,w=>
  if isSg 44 w[0]? then (if after||acc.isEmpty then none else mach f B k acc true (w.drop 1)) else
  if isSg 41 w[0]? then
   (if after then none else
   match B with
   | []=>if (w.drop 1).isEmpty then some acc else none
   | (k',acc',after')::B'=>if acc.isEmpty then none else
    if !after'&&!looseLast acc' (.grp k acc) then none else mach f B' k' (acc'++[.grp k acc]) false (w.drop 1)) else
  if isSg 40 w[0]? then mach f ((k,acc,after)::B) 1 [] false (w.drop 1) else
  if isN w[0]?&&(decide (0 < nv w[0]?)&&isSg 40 w[1]?) then mach f ((k,acc,after)::B) (nv w[0]?) [] false (w.drop 2) else
  match singleT w with
  | none=>none
  | some (i,w')=>if !after&&!looseLast acc i then none else mach f B k (acc++[i]) false w'
def readC (t:Txt):Option (List It):=
 if isSg 40 (tokS t)[0]? then mach ((tokS t).length + 1) [] 1 [] false ((tokS t).drop 1) else none
abbrev Fr:=Nat × Nat × List It × Bool
def freeOf:List Fr->Bool
 | []=>true
 | (_,_,acc,a)::_=>acc.isEmpty||a
def ent:List Fr->List V
 | []=>[]
 | (j,k,_,_)::F=>.tup [.int k,.ref j,.bool (freeOf F)]::ent F
structure Inv (H:Hp) (p:Nat) (HH:Hp) (F:List Fr):Prop where
 take:HH.take H.length=H
 hp:H.length<=p
 len:p < HH.length
 pile:hget HH p=some (ent F).reverse
 fr:∀ x∈F,H.length<=x.1/\x.1 < HH.length/\hget HH x.1=some (toVs x.2.2.1)/\x.1≠p
 dist:F.Pairwise (fun x y=>x.1≠y.1)
theorem ent_len (F:List Fr):(ent F).length=F.length:=by
 induction F with
 | nil=>rfl
 | cons x F ih=>obtain⟨j,k,acc,a⟩:=x;simp[ent,ih]
theorem hg_ne {HH:Hp}{i j:Nat}{y:Option (List V)}(h:i≠j):hget (HH.set i y) j=hget HH j:=by
 simp[hget,List.getElem?_set,h]
theorem hg_eq {HH:Hp}{i:Nat}{y:List V}(h:i < HH.length):hget (HH.set i (some y)) i=some y:=by
 simp[hget,h]
theorem hg_app {HH X:Hp}{j:Nat}(h:j < HH.length):hget (HH++X) j=hget HH j:=by
 simp[hget,List.getElem?_append_left h]
theorem tk_set {HH:Hp}{n i:Nat}{y:Option (List V)}(h:n<=i):(HH.set i y).take n=HH.take n:=by
 rw[List.take_set];exact List.set_eq_of_length_le (by simp;omega)
theorem tk_app {HH X:Hp}{n:Nat}(h:n<=HH.length):(HH++X).take n=HH.take n:=by
 rw[List.take_append_of_le_length h]
theorem Inv.open {H HH:Hp}{p:Nat}{F:List Fr}{k:Nat}(h:Inv H p HH F) :
  Inv H p ((HH++[some []]).set p (some ((ent F).reverse++[V.tup [.int k,.ref HH.length,.bool (freeOf F)]]))) ((HH.length,k,[],false)::F):=by
 have hl:=h.len;have hp:=h.hp;refine⟨?_,hp,?_,?_,?_,?_⟩
 ·rw[tk_set hp,tk_app (by omega)];exact h.take
 ·simp;omega
 ·rw[hg_eq (by simp;omega)];simp[ent]
 ·intro x hx;rcases MI.mp hx with rfl | hx
  ·refine⟨by show H.length<=HH.length;omega,by simp,?_,by show HH.length≠p;omega⟩;rw[hg_ne (by omega)];exact hgA HH []
  ·obtain⟨h1,h2,h3,h4⟩:=h.fr x hx;refine⟨h1,by simp;omega,?_,h4⟩;rw[hg_ne h4.symm,hg_app h2];exact h3
 ·refine List.pairwise_cons.mpr ⟨?_,h.dist⟩;intro x hx;have:=(h.fr x hx).2.1;show HH.length≠x.1;omega
theorem Inv.push {H HH:Hp}{p:Nat}{F:List Fr}{j k:Nat}{acc:List It}{a:Bool}(h:Inv H p HH ((j,k,acc,a)::F)) (i:It) :
  Inv H p (HH.set j (some (toVs acc++[i.toV]))) ((j,k,acc++[i],false)::F):=by
 obtain⟨h1,h2,h3,h4⟩:=h.fr _ (MS ..);obtain⟨hd,hp⟩:=List.pairwise_cons.mp h.dist;refine⟨?_,h.hp,?_,?_,?_,?_⟩
 ·rw[tk_set h1];exact h.take
 ·simp;exact h.len
 ·rw[hg_ne h4];exact h.pile
 ·intro x hx;rcases MI.mp hx with rfl | hx
  ·refine⟨h1,by simp;exact h2,?_,h4⟩;show hget _ j=_;rw[hg_eq h2,toVs_append];rfl
  ·obtain⟨g1,g2,g3,g4⟩:=h.fr x (MC _ hx);refine⟨g1,by simp;exact g2,?_,g4⟩;rw[hg_ne (hd x hx)];exact g3
 ·exact List.pairwise_cons.mpr ⟨hd,hp⟩
theorem Inv.close {H HH:Hp}{p:Nat}{F:List Fr}{x:Fr}(h:Inv H p HH (x::F)):Inv H p ((HH.set p (some (ent F).reverse)).set x.1 none) F:=by
 obtain⟨h1,h2,h3,h4⟩:=h.fr _ (MS ..);obtain⟨hd,hp⟩:=List.pairwise_cons.mp h.dist;refine⟨?_,h.hp,?_,?_,?_,hp⟩
 ·rw[tk_set h1,tk_set h.hp];exact h.take
 ·simp;exact h.len
 ·rw[hg_ne h4,hg_eq h.len]
 ·intro y hy;obtain⟨g1,g2,g3,g4⟩:=h.fr y (MC _ hy);refine⟨g1,by simp;exact g2,?_,g4⟩;rw[hg_ne (hd y hy),hg_ne g4.symm];exact g3
def wTail:Ss:=(.cons (.ite (.isNone (.loc 9)) (.cons (.ret .none)
  .nil) .nil)
  (.cons (.unpack [10,3] (.loc 9))
  (.cons (.assign 6 (.idx (.idx (.loc 2) (.neg (.int 1))) (.int 1)))
  (.cons (.ite (.and (.not (.loc 4)) (.not (.call 27 (.cons (.idx (.loc 6) (.neg (.int 1))) (.cons (.loc 10) .nil))))) (.cons (.ret .none)
  .nil) .nil)
  (.cons (.append (.loc 6) (.loc 10))
  (.cons (.assign 4 (.bool false))
  (.cons (.assign 5 (.bool false))
  .nil)))))))
def wClose:Ss:=(.cons (.ite (.loc 5) (.cons (.ret .none)
  .nil) .nil)
  (.cons (.unpack [8,6,4] (.pop (.loc 2)))
  (.cons (.assign 3 (.bin .add (.loc 3) (.int 1)))
  (.cons (.ite (.isNil (.loc 2)) (.cons (.ret (.ife (.cmp .eq (.idx (.idx (.loc 1) (.loc 3)) (.int 0)) (.str [101,110,100])) (.seal 6) .none))
  .nil) .nil)
  (.cons (.assign 9 (.ife (.isNil (.loc 6)) .none (.tup (.cons (.tup (.cons (.str [103,114,111,117,112]) (.cons (.loc 8) (.cons (.seal 6) .nil)))) (.cons (.loc 3) .nil)))))
  .nil)))))
def wOpen:Ss:=(.cons (.append (.loc 2) (.tup (.cons (.ife (.cmp .eq (.loc 7) (.str [110])) (.idx (.idx (.loc 1) (.loc 3)) (.int 1)) (.int 1)) (.cons (.lstM .nil) (.cons (.loc 4) .nil)))))
  (.cons (.assign 3 (.bin .add (.loc 3) (.ife (.cmp .eq (.loc 7) (.str [110])) (.int 2) (.int 1))))
  (.cons (.assign 4 (.bool true))
  (.cons (.assign 5 (.bool false))
  (.cons .cont
  .nil)))))
def wOpenC:E:=(.or (.cmp .eq (.loc 7) (.str [40])) (.and (.cmp .eq (.loc 7) (.str [110])) (.and (.cmp .gt (.idx (.idx (.loc 1) (.loc 3)) (.int 1)) (.int 0)) (.cmp .eq (.idx (.idx (.loc 1) (.bin .add (.loc 3) (.int 1))) (.int 0)) (.str [40])))))
def wReadB:Ss:=(.cons (.assign 6 (.idx (.idx (.loc 2) (.neg (.int 1))) (.int 1)))
  (.cons (.assign 7 (.idx (.idx (.loc 1) (.loc 3)) (.int 0)))
  (.cons (.ite (.cmp .eq (.loc 7) (.str [44])) (.cons (.ite (.or (.loc 5) (.isNil (.loc 6))) (.cons (.ret .none)
  .nil) .nil)
  (.cons (.assign 5 (.bool true))
  (.cons (.assign 4 (.bool true))
  (.cons (.assign 3 (.bin .add (.loc 3) (.int 1)))
  (.cons .cont
  .nil))))) .nil)
  (.cons (.ite (.cmp .eq (.loc 7) (.str [41])) wClose (.cons (.ite wOpenC wOpen (.cons (.assign 9 (.call 36 (.cons (.loc 1) (.cons (.loc 3) .nil))))
  .nil))
  .nil))
  wTail))))
section
variable {ts:List Tk}{t:Txt}{N:Nat}{H:Hp}{p:Nat}{call:Nat->List V->Hp->Option (Res V)}
theorem e_top {HH:Hp}{F:List Fr}{j k:Nat}{acc:List It}{a:Bool}{l:Loc}{b:Nat}(h:Inv H p HH ((j,k,acc,a)::F)) (hl:l[2]?=some (some (.ref p))) :
  EC call b l (.idx (.idx (.loc 2) (.neg (.int 1))) (.int 1)) HH=some (.ok (.ref j) HH):=by
 have hp:=h.pile;have e1:(ent ((j,k,acc,a)::F)).reverse=(ent F).reverse++[V.tup [.int k,.ref j,.bool (freeOf F)]]:=by simp[ent]
 rw[e1] at hp;have e2:=lastA (ent F).reverse (.tup [.int k,.ref j,.bool (freeOf F)]);have e3:idxV HH (.tup [.int k,.ref j,.bool (freeOf F)]) (.int 1)=some (.ref j):=rfl;have e4:idxV HH (.ref p) (.int (-1))=some (.tup [.int k,.ref j,.bool (freeOf F)]):=by
  simp only[idxV,hp,Option.bind,e2]
 simp only[EC,hl,EG,e4,EH,ZE,e3]
theorem tail_step {HH:Hp}{F:List Fr}{j k:Nat}{acc:List It}{a:Bool}{i:It}{w:List Tk}{x3 x5 x6 x7 x8 x10:Option V}(h:Inv H p HH ((j,k,acc,a)::F))
  (hj:∀ (a i:It) H,a.wd->i.wd->call 27 [a.toV,i.toV] H=some (.ok (.bool (loose a i)) H)) (hw:∀ a∈acc,a.wd) (hi:i.wd) (hal:acc.length<=80000) :
  EA call N H.length wTail [some (.str t),some (.lst (tokV ts)),some (.ref p),x3,some (.bool (freeOf ((j,k,acc,a)::F))),x5,x6,x7,x8,some (.tup [i.toV,.int (pk ts w)]),x10] HH =
   if !a&&!looseLast acc i then some (.ret .none HH) else
   some (.next [some (.str t),some (.lst (tokV ts)),some (.ref p),some (.int (pk ts w)),some (.bool false),some (.bool false),some (.ref j),x7,x8,some (.tup [i.toV,.int (pk ts w)]),some i.toV] (HH.set j (some (toVs acc++[i.toV])))):=by
 obtain⟨h1,h2,h3,h4⟩:=h.fr _ (MS ..);have h3:hget HH j=some (toVs acc):=h3;have fre:freeOf ((j,k,acc,a)::F)=(acc.isEmpty||a):=rfl;rw[fre];refine ite_skip (by simp only[EA,EB,EC,ED,EG,EF,EH,ZA,ZB,ZC,ZD,ZE]) ?_;refine ss_next (l':=[some (.str t),some (.lst (tokV ts)),some (.ref p),some (.int (pk ts w)),some (.bool (acc.isEmpty||a)),x5,x6,x7,x8,some (.tup [i.toV,.int (pk ts w)]),some i.toV]) (H':=HH) (by simp only[EA,EB,EC,ED,EG,EF,EH,ZA,ZB,ZC,ZD,ZE,setAll]) ?_;refine ss_next (l':=[some (.str t),some (.lst (tokV ts)),some (.ref p),some (.int (pk ts w)),some (.bool (acc.isEmpty||a)),x5,some (.ref j),x7,x8,some (.tup [i.toV,.int (pk ts w)]),some i.toV]) (H':=HH) ?_ ?_
 ·rw[EB,e_top h rfl];rfl
 have hc:EC call H.length [some (.str t),some (.lst (tokV ts)),some (.ref p),some (.int (pk ts w)),some (.bool (acc.isEmpty||a)),x5,some (.ref j),x7,x8,some (.tup [i.toV,.int (pk ts w)]),some i.toV] (.and (.not (.loc 4)) (.not (.call 27 (.cons (.idx (.loc 6) (.neg (.int 1))) (.cons (.loc 10) .nil))))) HH=some (.ok (.bool (!a&&!looseLast acc i)) HH):=by
  cases a with
  | true=>simp only[EA,EB,EC,ED,EG,EF,EH,ZA,ZB,ZC,ZD,ZE,Bool.or_true,BQ,BR]
  | false=>
   rcases List.eq_nil_or_concat acc with rfl | ⟨m,q,rfl⟩
   ·have z0:looseLast [] i=true:=rfl;rw[z0];simp only[EA,EB,EC,ED,EG,EF,EH,ZA,ZB,ZC,ZD,ZE,List.isEmpty_nil,Bool.or_false,BQ,BW]
   ·simp only[List.concat_eq_append] at *;have ej:=hj q i HH (hw q (by simp)) hi;have z:(m++[q]).isEmpty=false:=by simp
    have z2:getAt (toVs (m++[q])) (-1)=some q.toV:=by rw[toVs_append];exact lastA _ _
    have z3:looseLast (m++[q]) i=loose q i:=by simp[looseLast]
    have z4:idxV HH (.ref j) (.int (-1))=some q.toV:=by simp only[idxV,h3,Option.bind,z2]
    simp only[EA,EB,EC,ED,EG,EF,EH,ZA,ZB,ZC,ZD,ZE,z,z3,z4,ej,Bool.or_false,BP,BS]
 cases hz:(!a&&!looseLast acc i) with
 | true=>
  rw[hz] at hc;rw[if_pos rfl];exact ite_ret hc (ss_ret (by simp only[EA,EB,EC,ED,EG,EF,EH,ZA,ZB,ZC,ZD,ZE])) (by simp)
 | false=>
  rw[hz] at hc;simp only[BF,if_false];refine ite_skip hc ?_;have z1:mayMut H.length j i.toV=true:=by simp[mayMut,It.pure]
  have z2:(toVs acc).length < capL:=by rw[toVs_len];have:capL=1048576:=rfl;omega
  simp only[EA,EB,EC,ED,EG,EF,EH,ZA,ZB,ZC,ZD,ZE,h3,z1,z2,decide_true,BA,if_true]
theorem l_read (hc36:∀ w H,Sk ts w->(∀ k∈w,k.okk)->call 36 [.lst (tokV ts),.int (pk ts w)] H=rsT ts H (singleT w))
  (hj:∀ (a i:It) H,a.wd->i.wd->call 27 [a.toV,i.toV] H=some (.ok (.bool (loose a i)) H)) :
  ∀ (f M:Nat) (HH:Hp) (j k:Nat) (acc:List It) (after:Bool) (F:List Fr) (w:List Tk) (x6 x7 x8 x9 x10:Option V),Inv H p HH ((j,k,acc,after)::F)->Sk ts w->(∀ k∈w,k.okk)->w.length < f->f<=M->
   (∀ x∈((j,k,acc,after)::F:List Fr),x.2.2.1.length + w.length<=80000/\∀ a∈x.2.2.1,a.wd)->F.length + w.length<=80000->
   ∃ HH',HH'.take H.length=H/\whileL (fun l H'=>EC call H.length l (.bool true) H') (fun l H'=>EA call N H.length wReadB l H') M
    [some (.str t),some (.lst (tokV ts)),some (.ref p),some (.int (pk ts w)),some (.bool (freeOf ((j,k,acc,after)::F))),some (.bool after),x6,x7,x8,x9,x10] HH =
    some (.ret (optL (mach f (F.map (·.2)) k acc after w)) HH')
 | 0,M,HH,j,k,acc,after,F,w,x6,x7,x8,x9,x10,hI,hs,hk,hf,hM,hb,hF=>by omega
 | f + 1,M + 1,HH,j,k,acc,after,F,w,x6,x7,x8,x9,x10,hI,hs,hk,hf,hM,hb,hF=>by
  obtain⟨h1,h2,h3,h4⟩:=hI.fr _ (MS ..);have h3:hget HH j=some (toVs acc):=h3;obtain⟨hal,haw⟩:=hb _ (MS ..);have hal:acc.length + w.length<=80000:=hal;have haw:∀ a∈acc,a.wd:=haw;have t0:∀ HH,idxV HH (.lst (tokV ts)) (.int (pk ts w))=some (oV w[0]?):=fun HH=>tk_idx hs 0 (by omega) (by omega) HH
  have t1:∀ HH,idxV HH (.lst (tokV ts)) (.int ((pk ts w:Nat) + 1))=some (oV w[1]?):=fun HH=>tk_idx hs 1 (by omega) (by omega) HH
  have z0:=fun HH=>i_oV0 HH w[0]?
  have z1:=fun HH=>i_oV0 HH w[1]?
  have v0:=fun HH=>i_oV1 HH w[0]?
  have k44:cmpV .eq (.str (oW w[0]?)) (.str [44])=some (isSg 44 w[0]?):=by rw[cmp_eqs,w_sg _ (by decide) (by decide) (by decide)]
  have k41:cmpV .eq (.str (oW w[0]?)) (.str [41])=some (isSg 41 w[0]?):=by rw[cmp_eqs,w_sg _ (by decide) (by decide) (by decide)]
  have k40:cmpV .eq (.str (oW w[0]?)) (.str [40])=some (isSg 40 w[0]?):=by rw[cmp_eqs,w_sg _ (by decide) (by decide) (by decide)]
  have k40':cmpV .eq (.str (oW w[1]?)) (.str [40])=some (isSg 40 w[1]?):=by rw[cmp_eqs,w_sg _ (by decide) (by decide) (by decide)]
  have kn:cmpV .eq (.str (oW w[0]?)) (.str [110])=some (isN w[0]?):=by rw[cmp_eqs,w_n (okO_get hk 0)]
  have kend:cmpV .eq (.str (oW (w.drop 1)[0]?)) (.str [101,110,100])=some (w.drop 1).isEmpty:=by
   rw[cmp_eqs];rcases q:w.drop 1 with _ | ⟨⟨k⟩ | ⟨s⟩ | _ | ⟨d⟩,r⟩<;>simp[oW,Tk.word]
  have em:(toVs acc).isEmpty=acc.isEmpty:=by cases acc<;>rfl
  have hcond:∀ l,EC call H.length l (.bool true) HH=some (.ok (.bool true) HH):=fun l=>by rw[EC]
  have fre:freeOf ((j,k,acc,after)::F)=(acc.isEmpty||after):=rfl;have s0:∀ {x:Option RS},EA call N H.length (match wReadB with | .cons _ (.cons _ r)=>r | _=>.nil) [some (.str t),some (.lst (tokV ts)),some (.ref p),some (.int (pk ts w)),some (.bool (freeOf ((j,k,acc,after)::F))),some (.bool after),some (.ref j),some (.str (oW w[0]?)),x8,x9,x10] HH=x->
    EA call N H.length wReadB [some (.str t),some (.lst (tokV ts)),some (.ref p),some (.int (pk ts w)),some (.bool (freeOf ((j,k,acc,after)::F))),some (.bool after),x6,x7,x8,x9,x10] HH=x:=by
   intro x hx;refine ss_next (l':=[some (.str t),some (.lst (tokV ts)),some (.ref p),some (.int (pk ts w)),some (.bool (freeOf ((j,k,acc,after)::F))),some (.bool after),some (.ref j),x7,x8,x9,x10]) (H':=HH) ?_ (ss_next ?_ hx)
   ·rw[EB,e_top hI rfl];rfl
   ·simp only[EA,EB,EC,ED,EG,EF,EH,ZA,ZB,ZC,ZD,ZE,t0,z0]
  unfold mach;cases q44:isSg 44 w[0]? with
  | true=>
   rw[q44] at k44;simp only[if_true];have hc:EC call H.length [some (.str t),some (.lst (tokV ts)),some (.ref p),some (.int (pk ts w)),some (.bool (freeOf ((j,k,acc,after)::F))),some (.bool after),some (.ref j),some (.str (oW w[0]?)),x8,x9,x10] (.or (.loc 5) (.isNil (.loc 6))) HH=some (.ok (.bool (after||acc.isEmpty)) HH):=by
    cases after
    ·simp only[EA,EB,EC,ED,EG,EF,EH,ZA,ZB,ZC,ZD,ZE,lstOf,h3,em,BT]
    ·simp only[EA,EB,EC,ED,EG,EF,EH,ZA,ZB,ZC,ZD,ZE,BU]
   cases hz:(after||acc.isEmpty) with
   | true=>
    rw[hz] at hc;simp only[if_true];exact⟨HH,hI.take,wh_ret (hcond _) (s0 (ite_ret (by simp only[EA,EB,EC,ED,EG,EF,EH,ZA,ZB,ZC,ZD,ZE,k44]) (ite_ret hc (ss_ret (by simp only[EA,EB,EC,ED,EG,EF,EH,ZA,ZB,ZC,ZD,ZE,optL])) (by simp)) (by simp)))⟩
   | false=>
    rw[hz] at hc;simp only[BF,if_false];have hl:=lt_of_sg q44;have d1:=pk_drop hs (j:=1) (by omega);have hld:(w.drop 1).length + 1=w.length:=by rw[List.length_drop];omega
    have hI':Inv H p HH ((j,k,acc,true)::F):=⟨hI.take,hI.hp,hI.len,hI.pile,fun x hx=>by
     rcases MI.mp hx with rfl | hx
     ·exact hI.fr (j,k,acc,after) (MS ..)
     ·exact hI.fr x (MC _ hx),by
     obtain⟨hd,hp⟩:=List.pairwise_cons.mp hI.dist;exact List.pairwise_cons.mpr ⟨hd,hp⟩⟩
    obtain⟨HH',g1,g2⟩:=l_read hc36 hj f M HH j k acc true F (w.drop 1) (some (.ref j)) (some (.str (oW w[0]?))) x8 x9 x10 hI' (hs.drop 1) (fun k hk'=>hk k (List.mem_of_mem_drop hk')) (by omega) (by omega)
     (fun x hx=>by
      rcases MI.mp hx with rfl | hx
      ·exact⟨by show acc.length + (w.drop 1).length<=80000;omega,haw⟩
      ·have:=hb x (MC _ hx);exact⟨by omega,this.2⟩) (by omega)
    have fr2:freeOf ((j,k,acc,true)::F)=true:=by simp[freeOf]
    rw[fr2,d1] at g2;refine⟨HH',g1,wh_cont (hcond _) (s0 (ss_cont (l':=[some (.str t),some (.lst (tokV ts)),some (.ref p),some (.int ((pk ts w:Nat) + ((1:Nat):Int))),some (.bool true),some (.bool true),some (.ref j),some (.str (oW w[0]?)),x8,x9,x10]) (H':=HH) ?_)) g2⟩;have hc44:EC call H.length [some (.str t),some (.lst (tokV ts)),some (.ref p),some (.int (pk ts w)),some (.bool (freeOf ((j,k,acc,after)::F))),some (.bool after),some (.ref j),some (.str (oW w[0]?)),x8,x9,x10] (.cmp .eq (.loc 7) (.str [44])) HH=some (.ok (.bool true) HH):=by simp only[EA,EB,EC,ED,EG,EF,EH,ZA,ZB,ZC,ZD,ZE,k44]
    rw[EB,hc44];simp only[EF];refine ite_skip hc ?_;simp only[EA,EB,EC,ED,EG,EF,EH,ZA,ZB,ZC,ZD,ZE,binV];rfl
  | false=>
  rw[q44] at k44;simp only[BF,if_false];have s1:∀ {x:Option RS},EA call N H.length (match wReadB with | .cons _ (.cons _ (.cons _ r))=>r | _=>.nil) [some (.str t),some (.lst (tokV ts)),some (.ref p),some (.int (pk ts w)),some (.bool (freeOf ((j,k,acc,after)::F))),some (.bool after),some (.ref j),some (.str (oW w[0]?)),x8,x9,x10] HH=x->
    EA call N H.length wReadB [some (.str t),some (.lst (tokV ts)),some (.ref p),some (.int (pk ts w)),some (.bool (freeOf ((j,k,acc,after)::F))),some (.bool after),x6,x7,x8,x9,x10] HH=x:=by
   intro x hx;exact s0 (ite_skip (by simp only[EA,EB,EC,ED,EG,EF,EH,ZA,ZB,ZC,ZD,ZE,k44]) hx)
  clear s0;cases q41:isSg 41 w[0]? with
  | true=>
   rw[q41] at k41;simp only[if_true];have hc41:EC call H.length [some (.str t),some (.lst (tokV ts)),some (.ref p),some (.int (pk ts w)),some (.bool (freeOf ((j,k,acc,after)::F))),some (.bool after),some (.ref j),some (.str (oW w[0]?)),x8,x9,x10] (.cmp .eq (.loc 7) (.str [41])) HH=some (.ok (.bool true) HH):=by simp only[EA,EB,EC,ED,EG,EF,EH,ZA,ZB,ZC,ZD,ZE,k41]
   have hl:=lt_of_sg q41;have d1:=pk_drop hs (j:=1) (by omega);have d1':((pk ts w:Nat):Int) + 1=(pk ts (w.drop 1):Nat):=by rw[d1];rfl
   have hld:(w.drop 1).length + 1=w.length:=by rw[List.length_drop];omega
   cases after with
   | true=>
    refine⟨HH,hI.take,wh_ret (hcond _) (s1 (ss_ret ?_))⟩;rw[EB,hc41];simp only[EF];exact ite_ret (by simp only[EA,EB,EC,ED,EG,EF,EH,ZA,ZB,ZC,ZD,ZE]) (ss_ret (by simp only[EA,EB,EC,ED,EG,EF,EH,ZA,ZB,ZC,ZD,ZE,if_true,optL])) (by simp)
   | false=>
   simp only[BF,if_false];have hp:=hI.pile;have e1:(ent ((j,k,acc,false)::F)).reverse=(ent F).reverse++[V.tup [.int k,.ref j,.bool (freeOf F)]]:=by simp[ent]
   rw[e1] at hp;have hne:(ent F).reverse++[V.tup [.int k,.ref j,.bool (freeOf F)]]≠[]:=by simp
   have hlast:((ent F).reverse++[V.tup [.int k,.ref j,.bool (freeOf F)]]).getLast hne=.tup [.int k,.ref j,.bool (freeOf F)]:=by simp
   have hdl:((ent F).reverse++[V.tup [.int k,.ref j,.bool (freeOf F)]]).dropLast=(ent F).reverse:=by simp
   have hgp:hget (HH.set p (some (ent F).reverse)) p=some (ent F).reverse:=hg_eq hI.len;have hgj:hget (HH.set p (some (ent F).reverse)) j=some (toVs acc):=by rw[hg_ne h4.symm];exact h3
   have hsl:(V.pures (toVs acc)&&decide (H.length<=j))=true:=by rw[Its.pure,DT h1];rfl
   have pre:∀ {x:Option RS},EA call N H.length (match wClose with | .cons _ (.cons _ (.cons _ r))=>r | _=>.nil) [some (.str t),some (.lst (tokV ts)),some (.ref p),some (.int (pk ts (w.drop 1))),some (.bool (freeOf F)),some (.bool false),some (.ref j),some (.str (oW w[0]?)),some (.int k),x9,x10] (HH.set p (some (ent F).reverse))=x->
     EB call N H.length (.ite (.cmp .eq (.loc 7) (.str [41])) wClose (.cons (.ite wOpenC wOpen (.cons (.assign 9 (.call 36 (.cons (.loc 1) (.cons (.loc 3) .nil)))) .nil)) .nil)) [some (.str t),some (.lst (tokV ts)),some (.ref p),some (.int (pk ts w)),some (.bool (freeOf ((j,k,acc,false)::F))),some (.bool false),some (.ref j),some (.str (oW w[0]?)),x8,x9,x10] HH=x:=by
    intro x hx;rw[EB,hc41];simp only[EF];refine ite_skip (by simp only[EA,EB,EC,ED,EG,EF,EH,ZA,ZB,ZC,ZD,ZE]) ?_;refine ss_next (l':=[some (.str t),some (.lst (tokV ts)),some (.ref p),some (.int (pk ts w)),some (.bool (freeOf F)),some (.bool false),some (.ref j),some (.str (oW w[0]?)),some (.int k),x9,x10]) (H':=HH.set p (some (ent F).reverse)) ?_ (ss_next ?_ hx)
    ·have ep:EC call H.length [some (.str t),some (.lst (tokV ts)),some (.ref p),some (.int (pk ts w)),some (.bool (freeOf ((j,k,acc,false)::F))),some (.bool false),some (.ref j),some (.str (oW w[0]?)),x8,x9,x10] (.pop (.loc 2)) HH=some (.ok (.tup [.int k,.ref j,.bool (freeOf F)]) (HH.set p (some (ent F).reverse))):=by
      rw[EC,e_loc (v:=.ref p) rfl];simp only[EG,hp,dif_pos hne,hlast,hdl,hI.hp,if_true]
     rw[EB,ep];simp only[EF,setAll,ZC,ZD,ZE]
    ·simp only[EA,EB,EC,ED,EG,EF,EH,ZA,ZB,ZC,ZD,ZE,binV,d1']
   have tk0:∀ HH,idxV HH (.lst (tokV ts)) (.int (pk ts (w.drop 1)))=some (oV (w.drop 1)[0]?):=fun HH=>tk_idx (hs.drop 1) 0 (by omega) (by omega) HH
   have tz0:=fun HH=>i_oV0 HH (w.drop 1)[0]?
   cases F with
   | nil=>
    have enil:((ent ([]:List Fr)).reverse).isEmpty=true:=rfl;have hI2:=hI.close;cases hz:(w.drop 1).isEmpty with
    | true=>
     rw[hz] at kend;refine⟨_,hI2.take,wh_ret (hcond _) (s1 (ss_ret (pre (ite_ret ?_ (ss_ret ?_) (by simp)))))⟩
     ·simp only[EA,EB,EC,ED,EG,EF,EH,ZA,ZB,ZC,ZD,ZE,lstOf,hgp,enil]
     ·simp only[EA,EB,EC,ED,EG,EF,EH,ZA,ZB,ZC,ZD,ZE,tk0,tz0,kend,hgj,hsl,if_true,ZH,optL]
    | false=>
     rw[hz] at kend;refine⟨HH.set p (some (ent ([]:List Fr)).reverse),by rw[tk_set hI.hp];exact hI.take,wh_ret (hcond _) (s1 (ss_ret (pre (ite_ret ?_ (ss_ret ?_) (by simp)))))⟩
     ·simp only[EA,EB,EC,ED,EG,EF,EH,ZA,ZB,ZC,ZD,ZE,lstOf,hgp,enil]
     ·simp only[EA,EB,EC,ED,EG,EF,EH,ZA,ZB,ZC,ZD,ZE,tk0,tz0,kend,ZH,BF,if_false,optL]
   | cons x F=>
    obtain⟨j',k',acc',after'⟩:=x;have enil:((ent ((j',k',acc',after')::F)).reverse).isEmpty=false:=by simp[ent]
    obtain⟨hal',haw'⟩:=hb (j',k',acc',after') (MC _ (MS ..));have hal':acc'.length + w.length<=80000:=hal';have haw':∀ a∈acc',a.wd:=haw';simp only[ZG];cases hem:acc.isEmpty with
    | true=>
     rw[hem] at em;simp only[if_true];refine⟨HH.set p (some (ent ((j',k',acc',after')::F)).reverse),by rw[tk_set hI.hp];exact hI.take,wh_ret (hcond _) (s1 (ss_next (H':=HH.set p (some (ent ((j',k',acc',after')::F)).reverse)) (l':=[some (.str t),some (.lst (tokV ts)),some (.ref p),some (.int (pk ts (w.drop 1))),some (.bool (freeOf ((j',k',acc',after')::F))),some (.bool false),some (.ref j),some (.str (oW w[0]?)),some (.int k),some .none,x10]) (pre (ite_skip ?_ ?_)) (ite_ret ?_ (ss_ret ?_) (by simp))))⟩
     ·simp only[EA,EB,EC,ED,EG,EF,EH,ZA,ZB,ZC,ZD,ZE,lstOf,hgp,enil]
     ·simp only[EA,EB,EC,ED,EG,EF,EH,ZA,ZB,ZC,ZD,ZE,lstOf,hgj,em]
     ·simp only[EA,EB,EC,ED,EG,EF,EH,ZA,ZB,ZC,ZD,ZE]
     ·simp only[EA,EB,EC,ED,EG,EF,EH,ZA,ZB,ZC,ZD,ZE,optL]
    | false=>
     rw[hem] at em;simp only[BF,if_false];have hI2:=hI.close;have pre2:∀ {x:Option RS},EA call N H.length wTail [some (.str t),some (.lst (tokV ts)),some (.ref p),some (.int (pk ts (w.drop 1))),some (.bool (freeOf ((j',k',acc',after')::F))),some (.bool false),some (.ref j),some (.str (oW w[0]?)),some (.int k),some (.tup [(It.grp k acc).toV,.int (pk ts (w.drop 1))]),x10] ((HH.set p (some (ent ((j',k',acc',after')::F)).reverse)).set j none)=x->
       EA call N H.length (match wReadB with | .cons _ (.cons _ (.cons _ r))=>r | _=>.nil) [some (.str t),some (.lst (tokV ts)),some (.ref p),some (.int (pk ts w)),some (.bool (freeOf ((j,k,acc,false)::(j',k',acc',after')::F))),some (.bool false),some (.ref j),some (.str (oW w[0]?)),x8,x9,x10] HH=x:=by
      intro x hx;refine ss_next (pre (ite_skip ?_ ?_)) hx
      ·simp only[EA,EB,EC,ED,EG,EF,EH,ZA,ZB,ZC,ZD,ZE,lstOf,hgp,enil]
      ·simp only[EA,EB,EC,ED,EG,EF,EH,ZA,ZB,ZC,ZD,ZE,lstOf,hgj,em,hsl,if_true,LC,LN,cp2,cp3,It.toV]
     have ts1:=tail_step (N:=N) (t:=t) (ts:=ts) (x3:=some (.int (pk ts (w.drop 1)))) (x5:=some (.bool false)) (x6:=some (.ref j)) (x7:=some (.str (oW w[0]?))) (x8:=some (.int k)) (x10:=x10) (i:=.grp k acc) (w:=w.drop 1) hI2 hj haw' trivial (by omega);cases hz:(!after'&&!looseLast acc' (.grp k acc)) with
     | true=>
      rw[hz,if_pos rfl] at ts1;simp only[if_true];exact⟨_,hI2.take,wh_ret (hcond _) (s1 (pre2 ts1))⟩
     | false=>
      rw[hz] at ts1;simp only[BF,if_false] at ts1 ⊢;have hI3:=hI2.push (.grp k acc);obtain⟨HH',g1,g2⟩:=l_read hc36 hj f M _ j' k' (acc'++[.grp k acc]) false F (w.drop 1) (some (.ref j')) (some (.str (oW w[0]?))) (some (.int k)) (some (.tup [(It.grp k acc).toV,.int (pk ts (w.drop 1))])) (some (It.grp k acc).toV) hI3 (hs.drop 1) (fun k hk'=>hk k (List.mem_of_mem_drop hk')) (by omega) (by omega)
       (fun x hx=>by
        rcases MI.mp hx with rfl | hx
        ·refine⟨by simp only[LA,LC,LN];omega,?_⟩;intro a ha;rcases List.mem_append.mp ha with ha | ha
         ·exact haw' a ha
         ·simp at ha;rw[ha];exact trivial
        ·have:=hb x (MC _ (MC _ hx));exact⟨by omega,this.2⟩) (by simp only[LC] at hF;omega)
      have fr2:freeOf ((j',k',acc'++[It.grp k acc],false)::F)=false:=by simp[freeOf]
      rw[fr2] at g2;exact⟨HH',g1,wh_next (hcond _) (s1 (pre2 ts1)) g2⟩
  | false=>
  rw[q41] at k41;simp only[BF,if_false];have hc41:EC call H.length [some (.str t),some (.lst (tokV ts)),some (.ref p),some (.int (pk ts w)),some (.bool (freeOf ((j,k,acc,after)::F))),some (.bool after),some (.ref j),some (.str (oW w[0]?)),x8,x9,x10] (.cmp .eq (.loc 7) (.str [41])) HH=some (.ok (.bool false) HH):=by simp only[EA,EB,EC,ED,EG,EF,EH,ZA,ZB,ZC,ZD,ZE,k41]
  have hcO:EC call H.length [some (.str t),some (.lst (tokV ts)),some (.ref p),some (.int (pk ts w)),some (.bool (freeOf ((j,k,acc,after)::F))),some (.bool after),some (.ref j),some (.str (oW w[0]?)),x8,x9,x10] wOpenC HH=some (.ok (.bool (isSg 40 w[0]?||(isN w[0]?&&(decide (0 < nv w[0]?)&&isSg 40 w[1]?)))) HH):=by
   unfold wOpenC;cases qa:isSg 40 w[0]? with
   | true=>rw[qa] at k40;simp only[EA,EB,EC,ED,EG,EF,EH,ZA,ZB,ZC,ZD,ZE,k40,BU]
   | false=>
    rw[qa] at k40;cases qb:isN w[0]? with
    | false=>rw[qb] at kn;simp only[EA,EB,EC,ED,EG,EF,EH,ZA,ZB,ZC,ZD,ZE,k40,kn,BR,BT]
    | true=>
     rw[qb] at kn;have v0:=v0 HH;rw[oX_n qb] at v0;have kg:cmpV .gt (.int (nv w[0]?)) (.int 0)=some (decide (0 < nv w[0]?)):=cmp_gt _ 0;cases qc:decide (0 < nv w[0]?) with
     | false=>rw[qc] at kg;simp only[EA,EB,EC,ED,EG,EF,EH,ZA,ZB,ZC,ZD,ZE,k40,kn,t0,v0,kg,BR,BS,BT]
     | true=>rw[qc] at kg;simp only[EA,EB,EC,ED,EG,EF,EH,ZA,ZB,ZC,ZD,ZE,k40,kn,t0,v0,kg,binV,t1,z1,k40',BS,BT]
  have opn:∀ (m d:Nat),d<=w.length->0 < d->(if isN w[0]?=true then nv w[0]? else 1)=m->(if isN w[0]?=true then (2:Nat) else 1)=d->(isSg 40 w[0]?||(isN w[0]?&&(decide (0 < nv w[0]?)&&isSg 40 w[1]?)))=true->
    ∃ HH',HH'.take H.length=H/\whileL (fun l H'=>EC call H.length l (.bool true) H') (fun l H'=>EA call N H.length wReadB l H') (M + 1)
    [some (.str t),some (.lst (tokV ts)),some (.ref p),some (.int (pk ts w)),some (.bool (freeOf ((j,k,acc,after)::F))),some (.bool after),x6,x7,x8,x9,x10] HH =
    some (.ret (optL (mach f ((k,acc,after)::F.map (·.2)) m [] false (w.drop d))) HH'):=by
   intro m d hd hd0 hm hdd hor;rw[hor] at hcO;have dd:=pk_drop hs (j:=d) hd;have hld:(w.drop d).length + d=w.length:=by rw[List.length_drop];omega
   have hI2:=hI.open (k:=m);obtain⟨HH',g1,g2⟩:=l_read hc36 hj f M _ HH.length m [] false ((j,k,acc,after)::F) (w.drop d) (some (.ref j)) (some (.str (oW w[0]?))) x8 x9 x10 hI2 (hs.drop d) (fun k hk'=>hk k (List.mem_of_mem_drop hk')) (by omega) (by omega)
    (fun x hx=>by
     rcases MI.mp hx with rfl | hx
     ·exact⟨by show 0 + (w.drop d).length<=80000;omega,by simp⟩
     ·have:=hb x hx;exact⟨by omega,this.2⟩) (by simp only[LC];omega)
   have fr2:freeOf ((HH.length,m,[],false)::(j,k,acc,after)::F)=true:=rfl;rw[fr2,ZG] at g2;refine⟨HH',g1,wh_cont (hcond _) (s1 (ss_cont (l':=[some (.str t),some (.lst (tokV ts)),some (.ref p),some (.int (pk ts (w.drop d))),some (.bool true),some (.bool false),some (.ref j),some (.str (oW w[0]?)),x8,x9,x10]) (H':=(HH++[some []]).set p (some ((ent ((j,k,acc,after)::F)).reverse++[V.tup [.int m,.ref HH.length,.bool (freeOf ((j,k,acc,after)::F))]]))) ?_)) g2⟩;rw[EB,hc41];simp only[EF];refine ss_cont ?_;rw[EB,hcO];simp only[EF];unfold wOpen;have hgp:hget (HH++[some []]) p=some (ent ((j,k,acc,after)::F)).reverse:=by rw[hg_app hI.len];exact hI.pile
   have zz1:∀ v,mayMut H.length p v=true:=fun v=>by simp[mayMut,hI.hp]
   have zz2:(ent ((j,k,acc,after)::F)).reverse.length < capL:=by
    rw[List.length_reverse,ent_len];have:capL=1048576:=rfl;simp only[LC];omega
   have hc0:([]:List V).length<=capL:=cap3 (by decide);have em:∀ (HX:Hp),EC call H.length [some (.str t),some (.lst (tokV ts)),some (.ref p),some (.int (pk ts w)),some (.bool (freeOf ((j,k,acc,after)::F))),some (.bool after),some (.ref j),some (.str (oW w[0]?)),x8,x9,x10] (.ife (.cmp .eq (.loc 7) (.str [110])) (.idx (.idx (.loc 1) (.loc 3)) (.int 1)) (.int 1)) HX=some (.ok (.int m) HX):=by
    intro HX;cases qn:isN w[0]? with
    | true=>
     rw[qn] at kn hm;have v0:=v0 HX;rw[oX_n qn] at v0;simp only[if_true] at hm;rw[hm] at v0;simp only[EA,EB,EC,ED,EG,EF,EH,ZA,ZB,ZC,ZD,ZE,kn,t0,v0]
    | false=>
     rw[qn] at kn hm;simp only[BF,if_false] at hm;subst hm;simp only[EA,EB,EC,ED,EG,EF,EH,ZA,ZB,ZC,ZD,ZE,kn];rfl
   have ed:∀ (HX:Hp) (l4 l5:Option V),EC call H.length [some (.str t),some (.lst (tokV ts)),some (.ref p),some (.int (pk ts w)),l4,l5,some (.ref j),some (.str (oW w[0]?)),x8,x9,x10] (.bin .add (.loc 3) (.ife (.cmp .eq (.loc 7) (.str [110])) (.int 2) (.int 1))) HX=some (.ok (.int (pk ts (w.drop d))) HX):=by
    intro HX l4 l5;rw[dd];cases qn:isN w[0]? with
    | true=>
     rw[qn] at kn hdd;simp only[if_true] at hdd;subst hdd;simp only[EA,EB,EC,ED,EG,EF,EH,ZA,ZB,ZC,ZD,ZE,kn,binV];rfl
    | false=>
     rw[qn] at kn hdd;simp only[BF,if_false] at hdd;subst hdd;simp only[EA,EB,EC,ED,EG,EF,EH,ZA,ZB,ZC,ZD,ZE,kn,binV];rfl
   have et:EC call H.length [some (.str t),some (.lst (tokV ts)),some (.ref p),some (.int (pk ts w)),some (.bool (freeOf ((j,k,acc,after)::F))),some (.bool after),some (.ref j),some (.str (oW w[0]?)),x8,x9,x10] (.tup (.cons (.ife (.cmp .eq (.loc 7) (.str [110])) (.idx (.idx (.loc 1) (.loc 3)) (.int 1)) (.int 1)) (.cons (.lstM .nil) (.cons (.loc 4) .nil)))) HH=some (.ok (.tup [.int m,.ref HH.length,.bool (freeOf ((j,k,acc,after)::F))]) (HH++[some []])):=by
    have e4:∀ HX,EC call H.length [some (.str t),some (.lst (tokV ts)),some (.ref p),some (.int (pk ts w)),some (.bool (freeOf ((j,k,acc,after)::F))),some (.bool after),some (.ref j),some (.str (oW w[0]?)),x8,x9,x10] (.loc 4) HX=some (.ok (.bool (freeOf ((j,k,acc,after)::F))) HX):=fun HX=>e_loc rfl
    have e5:EC call H.length [some (.str t),some (.lst (tokV ts)),some (.ref p),some (.int (pk ts w)),some (.bool (freeOf ((j,k,acc,after)::F))),some (.bool after),some (.ref j),some (.str (oW w[0]?)),x8,x9,x10] (.lstM .nil) HH=some (.ok (.ref HH.length) (HH++[some []])):=by
     rw[EC];simp only[ED,EG,hc0,if_true]
    rw[EC];simp only[ED,em,EG,e4,e5,LC,LN,cp3,if_true]
   refine ss_next (l':=[some (.str t),some (.lst (tokV ts)),some (.ref p),some (.int (pk ts w)),some (.bool (freeOf ((j,k,acc,after)::F))),some (.bool after),some (.ref j),some (.str (oW w[0]?)),x8,x9,x10]) (H':=(HH++[some []]).set p (some ((ent ((j,k,acc,after)::F)).reverse++[V.tup [.int m,.ref HH.length,.bool (freeOf ((j,k,acc,after)::F))]]))) ?_ ?_
   ·rw[EB,e_loc (v:=.ref p) rfl];simp only[EF,et,hgp,zz1,zz2,decide_true,BA,if_true]
   refine ss_next (l':=[some (.str t),some (.lst (tokV ts)),some (.ref p),some (.int (pk ts (w.drop d))),some (.bool (freeOf ((j,k,acc,after)::F))),some (.bool after),some (.ref j),some (.str (oW w[0]?)),x8,x9,x10]) (H':=(HH++[some []]).set p (some ((ent ((j,k,acc,after)::F)).reverse++[V.tup [.int m,.ref HH.length,.bool (freeOf ((j,k,acc,after)::F))]]))) ?_ ?_
   ·rw[EB,ed];rfl
   ·simp only[EA,EB,EC,ED,EG,EF,EH,ZA,ZB,ZC,ZD,ZE]
  cases q40:isSg 40 w[0]? with
  | true=>
   simp only[if_true];have hl:=lt_of_sg q40;have qn:isN w[0]?=false:=by
    rcases q:w[0]? with _ | ⟨k⟩ | ⟨s⟩ | _ | ⟨d⟩<;>rw[q] at q40<;>first | rfl | cases q40
   exact opn 1 1 (by omega) (by omega) (by rw[qn];rfl) (by rw[qn];rfl) (by rw[q40];rfl)
  | false=>
  simp only[BF,if_false];cases qO:(isN w[0]?&&(decide (0 < nv w[0]?)&&isSg 40 w[1]?)) with
  | true=>
   simp only[if_true];obtain⟨qn,qx⟩:=Bool.and_eq_true_iff.mp qO;have hl:=lt_of_sg (Bool.and_eq_true_iff.mp qx).2;exact opn (nv w[0]?) 2 (by omega) (by omega) (by rw[qn];rfl) (by rw[qn];rfl) (by rw[qO];simp)
  | false=>
  simp only[BF,if_false];rw[q40,qO,BT] at hcO;have e36:=hc36 w HH hs hk;have pre:∀ {v:V}{x:Option RS},call 36 [.lst (tokV ts),.int (pk ts w)] HH=some (.ok v HH)->EA call N H.length wTail [some (.str t),some (.lst (tokV ts)),some (.ref p),some (.int (pk ts w)),some (.bool (freeOf ((j,k,acc,after)::F))),some (.bool after),some (.ref j),some (.str (oW w[0]?)),x8,some v,x10] HH=x->
    EA call N H.length (match wReadB with | .cons _ (.cons _ (.cons _ r))=>r | _=>.nil) [some (.str t),some (.lst (tokV ts)),some (.ref p),some (.int (pk ts w)),some (.bool (freeOf ((j,k,acc,after)::F))),some (.bool after),some (.ref j),some (.str (oW w[0]?)),x8,x9,x10] HH=x:=by
   intro v x hv hx;refine ss_next ?_ hx;rw[EB,hc41];simp only[EF];refine ss_next ?_ ss_nil;rw[EB,hcO];simp only[EF];simp only[EA,EB,EC,ED,EG,EF,EH,ZA,ZB,ZC,ZD,ZE,hv]
  cases hsi:singleT w with
  | none=>
   rw[hsi,rsT] at e36;refine⟨HH,hI.take,wh_ret (hcond _) (s1 (pre e36 (ite_ret ?_ (ss_ret ?_) (by simp))))⟩
   ·simp only[EA,EB,EC,ED,EG,EF,EH,ZA,ZB,ZC,ZD,ZE]
   ·simp only[EA,EB,EC,ED,EG,EF,EH,ZA,ZB,ZC,ZD,ZE,optL]
  | some p=>
   obtain⟨i,w'⟩:=p;rw[hsi,rsT] at e36;obtain⟨d,hd0,hd,rfl,hiw⟩:=singleT_ok hsi;have hld:(w.drop d).length + d=w.length:=by rw[List.length_drop];omega
   have ts1:=tail_step (N:=N) (t:=t) (ts:=ts) (x3:=some (.int (pk ts w))) (x5:=some (.bool after)) (x6:=some (.ref j)) (x7:=some (.str (oW w[0]?))) (x8:=x8) (x10:=x10) (i:=i) (w:=w.drop d) hI hj haw hiw (by omega);simp only;cases hz:(!after&&!looseLast acc i) with
   | true=>
    rw[hz,if_pos rfl] at ts1;simp only[if_true];exact⟨HH,hI.take,wh_ret (hcond _) (s1 (pre e36 ts1))⟩
   | false=>
    rw[hz] at ts1;simp only[BF,if_false] at ts1 ⊢;have hI3:=hI.push i;obtain⟨HH',g1,g2⟩:=l_read hc36 hj f M _ j k (acc++[i]) false F (w.drop d) (some (.ref j)) (some (.str (oW w[0]?))) x8 (some (.tup [i.toV,.int (pk ts (w.drop d))])) (some i.toV) hI3 (hs.drop d) (fun k hk'=>hk k (List.mem_of_mem_drop hk')) (by omega) (by omega)
     (fun x hx=>by
      rcases MI.mp hx with rfl | hx
      ·refine⟨by simp only[LA,LC,LN];omega,?_⟩;intro a ha;rcases List.mem_append.mp ha with ha | ha
       ·exact haw a ha
       ·simp at ha;rw[ha];exact hiw
      ·have:=hb x (MC _ hx);exact⟨by omega,this.2⟩) (by omega)
    have fr2:freeOf ((j,k,acc++[i],false)::F)=false:=by simp[freeOf]
    rw[fr2] at g2;exact⟨HH',g1,wh_next (hcond _) (s1 (pre e36 ts1)) g2⟩
end
def okT (t:Txt):Prop:=∀ c∈t,c < 100/\c≠63
theorem okT.suf {t u:Txt}(h:okT t) (hs:Suf t u):okT u:=by
 obtain⟨p,rfl⟩:=hs;exact fun c hc=>h c (List.mem_append_right _ hc)
theorem tok1_okk {c:Nat}{r:Txt}(h:c < 100/\c≠63):(tok1 c r).1.okk:=by
 unfold tok1;split
 ·unfold qTok;split
  ·trivial
  ·show Tk.okk (if _ then _ else _);split<;>trivial
 ·split
  ·unfold nTok;split
   ·show Tk.okk (if _ then _ else _);split<;>trivial
   ·show Tk.okk (if _ then _ else _);split
    ·assumption
    ·trivial
  ·exact⟨by omega,by omega,h.2⟩
theorem toks_okk:∀ (f:Nat) (u:Txt),okT u->∀ k∈toks f u,k.okk
 | 0,u,h=>by simp[toks]
 | f + 1,u,h=>by
  unfold toks;have hs:=skip_suf u;split
  ·simp
  ·rename_i c r e;rw[e] at hs;have h2:=h.suf hs;intro k hk;rcases MI.mp hk with rfl | hk
   ·exact tok1_okk (h2 c (MS ..))
   ·exact toks_okk f _ (h.suf (hs.tail.trans (tok1_suf c r))) k hk
theorem tokS_okk {u:Txt}(h:okT u):∀ k∈tokS u,k.okk:=toks_okk _ u h
theorem pk_self (ts:List Tk):pk ts ts=0:=by simp[pk]
section
variable {t:Txt}{N:Nat}{H:Hp}
theorem s_read {n:Nat}(ht:t.length<=600) (hN : 700<=N) (ho:okT t):cF N (n + 6) 37 [.str t] H=some (.ok (optL (readC t)) H):=by
 rw[callF_succ N (n + 5) 37 _ _ rfl];unfold readC;have e0:=s_tokens (t:=t) (N:=N) (H:=H) (n:=n + 4) ht (by omega);have hk:=tokS_okk ho;have hl:=tokS_len t;have hc36:∀ w H,Sk (tokS t) w->(∀ k∈w,k.okk)->cF N (n + 5) 36 [.lst (tokV (tokS t)),.int (pk (tokS t) w)] H=rsT (tokS t) H (singleT w):=
  fun w H h hk=>s_single (n:=n + 1) h hk
 have hc27:∀ (a i:It) H,a.wd->i.wd->cF N (n + 5) 27 [a.toV,i.toV] H=some (.ok (.bool (loose a i)) H):=fun a i H ha hi=>s_loose (n:=n + 4) ha hi
 generalize cF N (n + 5)=call at *;generalize tokS t=ts at *;have t0:idxV H (.lst (tokV ts)) (.int 0)=some (oV ts[0]?):=tk_idx (.rfl' ts) 0 (by omega) (by rw[pk_self];rfl) H;have z0:=i_oV0 H ts[0]?;have k40:cmpV .ne (.str (oW ts[0]?)) (.str [40])=some (!isSg 40 ts[0]?):=by rw[cmp_nes,w_sg _ (by decide) (by decide) (by decide)]
 have s0:∀ {x:Option RS},EA call N H.length (match F_law_read.body with | .cons _ r=>r | _=>.nil) [some (.str t),some (.lst (tokV ts)),none,none,none,none,none,none,none,none,none] H=x->
   EA call N H.length F_law_read.body [some (.str t),none,none,none,none,none,none,none,none,none,none] H=x:=by
  intro x hx;exact ss_next (by simp only[EA,EB,EC,ED,EG,EF,EH,ZA,ZB,ZC,ZD,ZE,e0]) hx
 cases q:isSg 40 ts[0]? with
 | false=>
  rw[q] at k40;refine run_ret (H':=H) rfl (st2 (loc:=[some (.str t),none,none,none,none,none,none,none,none,none,none]) rfl (s0 (ite_ret ?_ (ss_ret ?_) (by simp)))) (optL_pure _) LT
  ·simp only[EA,EB,EC,ED,EG,EF,EH,ZA,ZB,ZC,ZD,ZE,t0,z0,k40,BP]
  ·simp only[EA,EB,EC,ED,EG,EF,EH,ZA,ZB,ZC,ZD,ZE,BF,if_false,optL]
 | true=>
  rw[q] at k40;simp only[if_true];have hlt:=lt_of_sg q;have d1:=pk_drop (.rfl' ts) (j:=1) (by omega);rw[pk_self] at d1;have hI:Inv H (H.length + 1) (H++[some []]++[some [.tup [.int ((1:Nat):Int),.ref H.length,.bool true]]]) [(H.length,1,[],false)]:=by
   refine⟨?_,by omega,by simp,?_,?_,by simp⟩
   ·rw[LX,tk_app (Nat.le_refl _),LT]
   ·have e:(H++[some ([]:List V)]).length=H.length + 1:=by simp
    rw[<- e,hgA];rfl
   ·intro x hx;simp at hx;subst hx;refine⟨Nat.le_refl _,by simp,?_,by simp⟩;show hget _ H.length=_;rw[hg_app (by simp),hgA];rfl
  have hld:(ts.drop 1).length + 1=ts.length:=by rw[List.length_drop];omega
  obtain⟨HH',g1,g2⟩:=l_read (t:=t) (N:=N) hc36 hc27 (ts.length + 1) N _ H.length 1 [] false [] (ts.drop 1) none none none none none hI (Sk.drop (.rfl' ts) 1) (fun k hk'=>hk k (List.mem_of_mem_drop hk')) (by omega) (by omega)
   (fun x hx=>by
    simp at hx;subst hx;exact⟨by show 0 + (ts.drop 1).length<=80000;omega,by simp⟩) (by simp only[LN];omega)
  have fr2:freeOf [(H.length,1,[],false)]=true:=rfl;rw[fr2,d1] at g2;refine run_ret (H':=HH') rfl (st2 (loc:=[some (.str t),none,none,none,none,none,none,none,none,none,none]) rfl (s0 (ite_skip ?_ ?_))) (optL_pure _) g1
  ·simp only[EA,EB,EC,ED,EG,EF,EH,ZA,ZB,ZC,ZD,ZE,t0,z0,k40,BQ]
  have hc0:([]:List V).length<=capL:=cap3 (by decide);have hlen:(H++[some ([]:List V)]).length=H.length + 1:=by simp
  have eP:EC call H.length [some (.str t),some (.lst (tokV ts)),none,none,none,none,none,none,none,none,none] (.lstM (.cons (.tup (.cons (.int 1) (.cons (.lstM .nil) (.cons (.bool true) .nil)))) .nil)) H =
    some (.ok (.ref (H.length + 1)) (H++[some []]++[some [.tup [.int ((1:Nat):Int),.ref H.length,.bool true]]])):=by
   have e5:EC call H.length [some (.str t),some (.lst (tokV ts)),none,none,none,none,none,none,none,none,none] (.lstM .nil) H=some (.ok (.ref H.length) (H++[some []])):=by
    rw[EC];simp only[ED,EG,hc0,if_true]
   have e6:EC call H.length [some (.str t),some (.lst (tokV ts)),none,none,none,none,none,none,none,none,none] (.tup (.cons (.int 1) (.cons (.lstM .nil) (.cons (.bool true) .nil)))) H=some (.ok (.tup [.int 1,.ref H.length,.bool true]) (H++[some []])):=by
    have i1:∀ HX,EC call H.length [some (.str t),some (.lst (tokV ts)),none,none,none,none,none,none,none,none,none] (.int 1) HX=some (.ok (.int 1) HX):=fun HX=>e_int
    have i2:∀ HX,EC call H.length [some (.str t),some (.lst (tokV ts)),none,none,none,none,none,none,none,none,none] (.bool true) HX=some (.ok (.bool true) HX):=fun HX=>by rw[EC]
    rw[EC];simp only[ED,i1,i2,e5,EG,LC,LN,cp3,if_true]
   rw[EC];simp only[ED,e6,EG,LC,LN,cp1,if_true,hlen];rfl
  refine ss_next (l':=[some (.str t),some (.lst (tokV ts)),some (.ref (H.length + 1)),none,none,none,none,none,none,none,none]) (H':=H++[some []]++[some [.tup [.int ((1:Nat):Int),.ref H.length,.bool true]]]) (by rw[EB,eP];rfl) ?_;refine ss_next (l':=[some (.str t),some (.lst (tokV ts)),some (.ref (H.length + 1)),some (.int 1),none,none,none,none,none,none,none]) (H':=H++[some []]++[some [.tup [.int ((1:Nat):Int),.ref H.length,.bool true]]]) (by simp only[EA,EB,EC,ED,EG,EF,EH,ZA,ZB,ZC,ZD,ZE]) ?_;refine ss_next (l':=[some (.str t),some (.lst (tokV ts)),some (.ref (H.length + 1)),some (.int 1),some (.bool true),none,none,none,none,none,none]) (H':=H++[some []]++[some [.tup [.int ((1:Nat):Int),.ref H.length,.bool true]]]) (by simp only[EA,EB,EC,ED,EG,EF,EH,ZA,ZB,ZC,ZD,ZE]) ?_;refine ss_next (l':=[some (.str t),some (.lst (tokV ts)),some (.ref (H.length + 1)),some (.int 1),some (.bool true),some (.bool false),none,none,none,none,none]) (H':=H++[some []]++[some [.tup [.int ((1:Nat):Int),.ref H.length,.bool true]]]) (by simp only[EA,EB,EC,ED,EG,EF,EH,ZA,ZB,ZC,ZD,ZE]) ?_;exact ss_ret (by rw[EB];exact g2)
end
inductive Leaf:It->Prop
 | i0 (w:Nat) : 1<=w->w<=12->Leaf (.nums [73] [nI w,none])
 | i1 (w d:Nat) : 1<=w->w<=12->d<=w->Leaf (.nums [73] [nI w,nI d])
 | l (w:Nat) : 1<=w->w<=12->Leaf (.nums [76] [nI w])
 | a0:Leaf (.nums [65] [none])
 | a1 (w:Nat) : 1<=w->w<=12->Leaf (.nums [65] [nI w])
 | fd (c w d:Nat):(c=70\/c=68)->1<=w->w<=12->d<=8->Leaf (.nums [c] [nI w,nI d])
 | e0 (c w d:Nat):(c=69\/c=71)->1<=w->w<=12->d<=8->Leaf (.nums [c] [nI w,nI d,none])
 | e1 (c w d e:Nat):(c=69\/c=71)->1<=w->w<=12->d<=8->1<=e->e<=2->Leaf (.nums [c] [nI w,nI d,nI e])
def hAlph:Txt:=[65,39,53,32,44,72,41]
inductive Good:Nat->It->Prop
 | leaf (d:Nat) (i:It):Leaf i->Good d i
 | rep (d k:Nat) (i:It) : 2<=k->k<=15->Leaf i->Good d (.rep (k:Int) i)
 | text (d:Nat) (s:Txt):s≠[]->s.length<=3->(∀ c∈s,c∈hAlph)->Good d (.text s)
 | x (d k:Nat) : 1<=k->k<=14->Good d (.nums [88] [nI k])
 | t (d k:Nat) (w:Txt):w∈([[84],[84,76],[84,82]]:List Txt)->1<=k->k<=14->Good d (.nums w [nI k])
 | c (d:Nat) (w:Txt):w∈([[47],[58],[83],[83,80],[83,83],[66,78],[66,90]]:List Txt)->Good d (.nums w [])
 | p (d:Nat) (k:Int) : -6<=k->k<=7->Good d (.nums [80] [some k])
 | grp (d k:Nat) (l:List It) : 1<=k->k<=14->l≠[]->l.length<=2->(∀ i∈l,Good d i)->Good (d + 1) (.grp (k:Int) l)
theorem Leaf.flat {i:It}(h:Leaf i):i.flat:=by
 cases h with
 | fd c w d hc=>rcases hc with rfl | rfl<;>(show _∈words;decide)
 | e0 c w d hc=>rcases hc with rfl | rfl<;>(show _∈words;decide)
 | e1 c w d e hc=>rcases hc with rfl | rfl<;>(show _∈words;decide)
 | _=>show _∈words;decide
theorem flat_wd {i:It}(h:i.flat):i.wd:=by
 cases i with
 | nums w ps=>exact h
 | text s=>cases h
 | rep k i=>cases h
 | grp k l=>cases h
theorem flat_word {i:It}(h:i.flat):i.word∈words:=by
 cases i with
 | nums w ps=>exact h
 | text s=>cases h
 | rep k i=>cases h
 | grp k l=>cases h
theorem Good.wd {d:Nat}{i:It}(h:Good d i):i.wd:=by
 cases h with
 | leaf _ _ h=>exact flat_wd h.flat
 | rep _ k i _ _ h=>exact flat_word h.flat
 | text=>trivial
 | x=>show _∈words;decide
 | t _ k w hw=>
  show w∈words;have:∀ w∈([[84],[84,76],[84,82]]:List Txt),w∈words:=by decide
  exact this w hw
 | c _ w hw=>
  show w∈words;have:∀ w∈([[47],[58],[83],[83,80],[83,83],[66,78],[66,90]]:List Txt),w∈words:=by decide
  exact this w hw
 | p=>show _∈words;decide
 | grp=>trivial
def dig (k:Nat):Txt:=if k < 10 then [48 + k] else [49,38 + k]
theorem textOf_dig:∀ k:Fin 16,textOf ((k.val:Nat):Int)=dig k.val:=by decide +kernel
theorem textOf_nat {k:Nat}(h:k<=15):textOf (k:Int)=dig k:=textOf_dig ⟨k,by omega⟩
theorem textOf_neg':∀ k:Fin 7,0 < k.val->textOf (-((k.val:Nat):Int))=45::dig k.val:=by decide +kernel
theorem textOf_neg {k:Nat}(h:k<=6) (h0 : 0 < k):textOf (-(k:Int))=45::dig k:=textOf_neg' ⟨k,by omega⟩ h0
theorem dig_len {k:Nat}:(dig k).length<=2:=by unfold dig;split<;>simp
theorem textOf_len {k:Int}(h : -6<=k) (h2:k<=15):(textOf k).length<=2:=by
 by_cases q : 0<=k
 ·obtain⟨n,rfl⟩:=Int.eq_ofNat_of_zero_le q;rw[textOf_nat (by omega)];exact dig_len
 ·obtain⟨n,hn⟩ : ∃ n:Nat,k=-(n:Int):=⟨k.natAbs,by omega⟩
  subst hn;rw[textOf_neg (by omega) (by omega)];have:n < 10:=by omega
  simp[dig,this]
def tail3:List Txt->List (Option Int)->Txt
 | j::js,some k::ps=>j++textOf k++tail3 js ps
 | _::js,none::ps=>tail3 js ps
 | _,_=>[]
def JS:List Txt:=[[],[46],[69]]
def dbl:Txt->Txt
 | []=>[]
 | c::s=>if c=39 then 39::39::dbl s else c::dbl s
def sepr (j:Txt):Option It->It->Txt
 | none,_=>[]
 | some p,i=>if loose p i then j else [44]
mutual
def wText (j:Txt):It->Txt
 | .nums w ps=>if w=[88]\/w=[80] then tail3 [[]] ps++w else w++tail3 JS ps
 | .text s=>39::(dbl s++[39])
 | .rep k i=>textOf k++wText j i
 | .grp k l=>(if k=1 then [] else textOf k)++(40::(wItems j none l++[41]))
def wItems (j:Txt):Option It->List It->Txt
 | _,[]=>[]
 | p,i::l=>sepr j p i++(wText j i++wItems j (some i) l)
end
def wWhole (j:Txt) (l:List It):Txt:=40::(wItems j none l++[41])
def lenB:Nat->Nat
 | 0=>9
 | d + 1=>2 * lenB d + 5
theorem lenB_ge:∀ d:Nat,9<=lenB d
 | 0=>Nat.le_refl _
 | d + 1=>by have:=lenB_ge d;simp only[lenB];omega
theorem dbl_len:∀ s:Txt,(dbl s).length<=2 * s.length
 | []=>by simp[dbl]
 | c::s=>by
  have:=dbl_len s;unfold dbl;split<;>simp<;>omega
theorem leaf_len {j:Txt}{i:It}(h:Leaf i):(wText j i).length<=7:=by
 have n1:∀ {k:Nat},k<=9->(textOf (k:Int)).length<=1:=fun {k} h=>by
  have h10:k < 10:=by omega
  rw[textOf_nat (by omega)];simp[dig,h10]
 have n2:∀ {k:Nat},k<=15->(textOf (k:Int)).length<=2:=fun h=>by rw[textOf_nat h];exact dig_len
 cases h with
 | i0 w h1 h2=>have:=n2 (k:=w) (by omega);simp[wText,tail3,JS,nI];omega
 | i1 w d h1 h2 h3=>have:=n2 (k:=w) (by omega);have:=n2 (k:=d) (by omega);simp[wText,tail3,JS,nI];omega
 | l w h1 h2=>have:=n2 (k:=w) (by omega);simp[wText,tail3,JS,nI];omega
 | a0=>simp[wText,tail3,JS,nI]
 | a1 w h1 h2=>have:=n2 (k:=w) (by omega);simp[wText,tail3,JS,nI];omega
 | fd c w d hc h1 h2 h3=>
  have:=n2 (k:=w) (by omega);have:=n2 (k:=d) (by omega);rcases hc with rfl | rfl<;>simp[wText,tail3,JS,nI]<;>omega
 | e0 c w d hc h1 h2 h3=>
  have:=n2 (k:=w) (by omega);have:=n2 (k:=d) (by omega);rcases hc with rfl | rfl<;>simp[wText,tail3,JS,nI]<;>omega
 | e1 c w d e hc h1 h2 h3 h4 h5=>
  have:=n2 (k:=w) (by omega);have:=n1 (k:=d) (by omega);have:=n1 (k:=e) (by omega);rcases hc with rfl | rfl<;>simp[wText,tail3,JS,nI]<;>omega
theorem good_len {j:Txt}(hj:j.length<=1){d:Nat}{i:It}(h:Good d i):(wText j i).length<=lenB d:=by
 have n2:∀ {k:Nat},k<=15->(textOf (k:Int)).length<=2:=fun h=>by rw[textOf_nat h];exact dig_len
 have hs:∀ p i,(sepr j p i).length<=1:=fun p i=>by
  cases p with
  | none=>simp[sepr]
  | some p=>simp only[sepr];split;exact hj;simp
 induction h with
 | leaf d i h=>have:=leaf_len (j:=j) h;have:=lenB_ge d;omega
 | rep d k i h1 h2 h=>have:=leaf_len (j:=j) h;have:=lenB_ge d;have:=n2 h2;simp[wText];omega
 | text d s h1 h2 h3=>have:=dbl_len s;have:=lenB_ge d;simp[wText];omega
 | x d k h1 h2=>have:=n2 (k:=k) (by omega);have:=lenB_ge d;simp[wText,tail3,nI];omega
 | t d k w hw h1 h2=>
  have:=n2 (k:=k) (by omega);have:=lenB_ge d;have hl:w.length<=2:=by
   have:∀ w∈([[84],[84,76],[84,82]]:List Txt),w.length<=2:=by decide
   exact this w hw
  have hn:¬ (w=[88]\/w=[80]):=by
   have:∀ w∈([[84],[84,76],[84,82]]:List Txt),¬ (w=[88]\/w=[80]):=by decide
   exact this w hw
  simp only[wText,if_neg hn];simp[tail3,JS,nI];omega
 | c d w hw=>
  have:=lenB_ge d;have hl:w.length<=2:=by
   have:∀ w∈([[47],[58],[83],[83,80],[83,83],[66,78],[66,90]]:List Txt),w.length<=2:=by decide
   exact this w hw
  have hn:¬ (w=[88]\/w=[80]):=by
   have:∀ w∈([[47],[58],[83],[83,80],[83,83],[66,78],[66,90]]:List Txt),¬ (w=[88]\/w=[80]):=by decide
   exact this w hw
  simp only[wText,if_neg hn];simp[tail3,JS];omega
 | p d k h1 h2=>have:=textOf_len h1 (by omega:k<=15);have:=lenB_ge d;simp[wText,tail3];omega
 | grp d k l h1 h2 h3 h4 h5 ih=>
  have hk:=n2 (k:=k) (by omega);have hl:(wItems j none l).length<=2 * lenB d + 1:=by
   match l,h3,h4,ih with
   | [a],_,_,ih=>
    have ha:=ih a (by simp);simp[wItems,sepr];omega
   | [a,b],_,_,ih=>
    have ha:=ih a (by simp);have hb:=ih b (by simp);have:=hs (some a) b;simp only[wItems,LA,LN];have h0:(sepr j none a).length=0:=rfl;omega
  have hz:(if (k:Int)=1 then ([]:Txt) else textOf (k:Int)).length<=2:=by split;simp;exact hk
  simp only[wText,LA,LC,LN,lenB];omega
theorem items_len {j:Txt}(hj:j.length<=1){d:Nat}:∀ (l:List It) (p:Option It),(∀ i∈l,Good d i)->(wItems j p l).length<=l.length * (lenB d + 1)
 | [],p,h=>by simp[wItems]
 | i::l,p,h=>by
  have hs:(sepr j p i).length<=1:=by
   cases p with
   | none=>simp[sepr]
   | some p=>simp only[sepr];split;exact hj;simp
  have hi:=good_len hj (h i (MS ..));have ih:=items_len hj l (some i) (fun i hi=>h i (MC _ hi));simp only[wItems,LA,LC,Nat.add_mul];omega
section
variable {N b:Nat}{H:Hp}{call:Nat->List V->Hp->Option (Res V)}
theorem toStr_ok {i:Int}(h1 : -100<=i) (h2:i<=100):toStrV (.int i)=some (textOf i):=by
 have:i.natAbs < 10000000000:=by omega
 simp only[toStrV,if_pos this]
theorem l_zip:∀ (ps:List (Option Int)) (js:List Txt) (s:Txt) (a0 a1 a2 y4 y5:Option V),(∀ k,some k∈ps->-100<=k/\k<=100)->s.length + (tail3 js ps).length<=100000->
  ∃ z4 z5,zipL 4 5 3 (pairs (js.map V.str) (ps.map pV)) [a0,a1,a2,some (.str s),y4,y5]=some [a0,a1,a2,some (.str (s++tail3 js ps)),z4,z5]
 | [],js,s,a0,a1,a2,y4,y5,hk,hl=>by
  cases js<;>exact⟨y4,y5,by simp[pairs,zipL,tail3]⟩
 | p::ps,[],s,a0,a1,a2,y4,y5,hk,hl=>⟨y4,y5,by simp[pairs,zipL,tail3]⟩
 | none::ps,j::js,s,a0,a1,a2,y4,y5,hk,hl=>by
  obtain⟨z4,z5,h⟩:=l_zip ps js s a0 a1 a2 (some (.str j)) (some .none) (fun k hk'=>hk k (MC _ hk')) hl;refine⟨z4,z5,?_⟩;simp only[ZG,pairs,pV,zipL,zip1,ZC,ZD];exact h
 | some k::ps,j::js,s,a0,a1,a2,y4,y5,hk,hl=>by
  obtain⟨k1,k2⟩:=hk k (MS ..);simp only[tail3,LA] at hl;obtain⟨z4,z5,h⟩:=l_zip ps js (s++j++textOf k) a0 a1 a2 (some (.str j)) (some (.int k)) (fun k hk'=>hk k (MC _ hk')) (by simp only[LA];omega);refine⟨z4,z5,?_⟩;have hc:k.natAbs < 10000000000/\s.length + j.length + (textOf k).length<=capL:=⟨by omega,cap_txt (by omega)⟩
  have he:s++tail3 (j::js) (some k::ps)=s++j++textOf k++tail3 js ps:=by simp[tail3]
  rw[he];simp only[ZG,pairs,pV,zipL,zip1,ZC,ZD,ZA,ZB,if_pos hc];exact h
def smallP (ps:List (Option Int)):Prop:=∀ k,some k∈ps->-100<=k/\k<=100
theorem c_xp (w:Txt):([[88],[80]]:List Txt).contains w=decide (w=[88]\/w=[80]):=by rw[Bool.eq_iff_iff];simp
theorem s_text_nums {n:Nat}{w j:Txt}{ps:List (Option Int)}(hw:w∈words) (hn:¬ (w=[88]\/w=[80])) (hp:smallP ps) (hl:(w++tail3 JS ps).length<=100000) :
  cF N (n + 1) 26 [(It.nums w ps).toV,.str j] H=some (.ok (.str (w++tail3 JS ps)) H):=by
 rw[callF_succ N n 26 _ _ rfl];generalize cF N n=call;rw[LA] at hl;obtain⟨z4,z5,hz⟩:=l_zip ps JS w (some (It.nums w ps).toV) (some (.str j)) (some (.str w)) none none hp hl;have i0:idxV H (It.nums w ps).toV (.int 0)=some (.str w):=rfl;have k1:cmpV .eq (.str w) (.str [103,114,111,117,112])=some false:=by
  rw[cmp_eqs];congr 1;have:∀ w∈words,(w==[103,114,111,117,112])=false:=by decide
  exact this w hw
 have k2:cmpV .eq (.str w) (.str [114,101,112,101,97,116])=some false:=by rw[cmp_eqs,words_rep w hw]
 have k3:cmpV .eq (.str w) (.str [72])=some false:=by
  rw[cmp_eqs];congr 1;have:∀ w∈words,(w==[72])=false:=by decide
  exact this w hw
 have k4:=c_xp w;rw[DF hn] at k4;have sl:slV (It.nums w ps).toV (.int 1) .none=some (.tup (ps.map pV)):=by
  have:(1:Int)<=1/\(1:Int).toNat<=(V.str w::ps.map pV).length:=⟨by decide,by simp⟩
  simp only[It.toV,slV,if_pos this];rfl
 have pl:(V.pures [.str [],.str [46],.str [69]]&&decide (([.str [],.str [46],.str [69]]:List V).length<=capL))=true:=by
  rw[DT (show ([.str [],.str [46],.str [69]]:List V).length<=capL from cp3)];rfl
 refine run_ret (H':=H) rfl (st2 (loc:=[some (It.nums w ps).toV,some (.str j),none,none,none,none]) rfl ?_) rfl LT;refine ss_next (l':=[some (It.nums w ps).toV,some (.str j),some (.str w),none,none,none]) (H':=H) (by simp only[EA,EB,EC,ED,EG,EF,EH,ZA,ZB,ZC,ZD,ZE,i0]) ?_;refine ite_skip (by simp only[EA,EB,EC,ED,EG,EF,EH,ZA,ZB,ZC,ZD,ZE,k1]) (ite_skip (by simp only[EA,EB,EC,ED,EG,EF,EH,ZA,ZB,ZC,ZD,ZE,k2]) (ite_skip (by simp only[EA,EB,EC,ED,EG,EF,EH,ZA,ZB,ZC,ZD,ZE,k3]) (ite_skip (by simp only[EA,EB,EC,ED,EG,EF,EH,ZA,ZB,ZC,ZD,ZE,k4]) ?_)));refine ss_next (l':=[some (It.nums w ps).toV,some (.str j),some (.str w),some (.str w),none,none]) (H':=H) (by simp only[EA,EB,EC,ED,EG,EF,EH,ZA,ZB,ZC,ZD,ZE]) ?_;refine ss_next (l':=[some (It.nums w ps).toV,some (.str j),some (.str w),some (.str (w++tail3 JS ps)),z4,z5]) (H':=H) ?_ (ss_ret (by simp only[EA,EB,EC,ED,EG,EF,EH,ZA,ZB,ZC,ZD,ZE]));have e1:EC call H.length [some (It.nums w ps).toV,some (.str j),some (.str w),some (.str w),none,none] (.lstF (.cons (.str []) (.cons (.str [46]) (.cons (.str [69]) .nil)))) H=some (.ok (.lst [.str [],.str [46],.str [69]]) H):=by
  rw[EC];simp only[ED,EC,EG];exact if_pos pl
 have e2:EC call H.length [some (It.nums w ps).toV,some (.str j),some (.str w),some (.str w),none,none] (.sl (.loc 0) (.int 1) .none) H=some (.ok (.tup (ps.map pV)) H):=e_slE (e_loc rfl) e_int (by rw[EC]) sl;rw[EB,e1];simp only[EF,e2];show Option.map _ (zipL 4 5 3 (pairs (JS.map V.str) (ps.map pV)) _)=_;rw[hz];rfl
theorem s_text_xp {n:Nat}{w j:Txt}{k:Int}(hw:w=[88]\/w=[80]) (h1 : -100<=k) (h2:k<=100) (hl:(textOf k).length<=100) :
  cF N (n + 1) 26 [(It.nums w [some k]).toV,.str j] H=some (.ok (.str (textOf k++w)) H):=by
 rw[callF_succ N n 26 _ _ rfl];generalize cF N n=call;have i0:idxV H (It.nums w [some k]).toV (.int 0)=some (.str w):=rfl;have i1:idxV H (It.nums w [some k]).toV (.int 1)=some (.int k):=rfl;have k1:cmpV .eq (.str w) (.str [103,114,111,117,112])=some false:=by rw[cmp_eqs];rcases hw with rfl | rfl<;>rfl
 have k2:cmpV .eq (.str w) (.str [114,101,112,101,97,116])=some false:=by rw[cmp_eqs];rcases hw with rfl | rfl<;>rfl
 have k3:cmpV .eq (.str w) (.str [72])=some false:=by rw[cmp_eqs];rcases hw with rfl | rfl<;>rfl
 have k4:=c_xp w;rw[DT hw] at k4;have ts:=toStr_ok h1 h2;have wl:w.length=1:=by rcases hw with rfl | rfl<;>rfl
 have ba:=b_add_str (H:=H) (x:=textOf k) (y:=w) (by omega);refine run_ret (H':=H) rfl (st2 (loc:=[some (It.nums w [some k]).toV,some (.str j),none,none,none,none]) rfl ?_) rfl LT;refine ss_next (l':=[some (It.nums w [some k]).toV,some (.str j),some (.str w),none,none,none]) (H':=H) (by simp only[EA,EB,EC,ED,EG,EF,EH,ZA,ZB,ZC,ZD,ZE,i0]) ?_;refine ite_skip (by simp only[EA,EB,EC,ED,EG,EF,EH,ZA,ZB,ZC,ZD,ZE,k1]) (ite_skip (by simp only[EA,EB,EC,ED,EG,EF,EH,ZA,ZB,ZC,ZD,ZE,k2]) (ite_skip (by simp only[EA,EB,EC,ED,EG,EF,EH,ZA,ZB,ZC,ZD,ZE,k3]) (ite_ret (by simp only[EA,EB,EC,ED,EG,EF,EH,ZA,ZB,ZC,ZD,ZE,k4]) (ss_ret ?_) (by simp))));simp only[EA,EB,EC,ED,EG,EF,EH,ZA,ZB,ZC,ZD,ZE,i1,ts,ba]
theorem split39_ne:∀ s:Txt,split1 39 s≠[]
 | []=>by simp[split1]
 | c::s=>by
  unfold split1;split
  ·simp
  ·split<;>simp
theorem joinT_cons (j w:Txt){ws:List Txt}(h:ws≠[]):joinT j (w::ws)=w++j++joinT j ws:=by
 cases ws with
 | nil=>exact absurd rfl h
 | cons a l=>rfl
theorem join_dbl:∀ s:Txt,joinT [39,39] (split1 39 s)=dbl s
 | []=>rfl
 | c::s=>by
  have ih:=join_dbl s;have hne:=split39_ne s;unfold split1 dbl;by_cases q:c=39
  ·rw[if_pos q,if_pos q,joinT_cons _ _ hne,ih];rfl
  ·rw[if_neg q,if_neg q,<- ih];cases hs:split1 39 s with
   | nil=>exact absurd hs hne
   | cons w ws=>
    cases ws<;>simp[joinT]
theorem split_lens:∀ s:Txt,(split1 39 s).length<=s.length + 1/\∀ w∈split1 39 s,w.length<=s.length
 | []=>by simp[split1]
 | c::s=>by
  obtain⟨h1,h2⟩:=split_lens s;have hne:=split39_ne s;unfold split1;by_cases q:c=39
  ·rw[if_pos q];refine⟨by simp;omega,?_⟩;intro w hw;rcases MI.mp hw with rfl | hw
   ·simp
   ·have:=h2 w hw;simp;omega
  ·rw[if_neg q];cases hs:split1 39 s with
   | nil=>exact absurd hs hne
   | cons w ws=>
    rw[hs] at h1 h2;refine⟨by simp at h1 ⊢;omega,?_⟩;intro x hx;rcases MI.mp hx with rfl | hx
    ·have:=h2 w (MS ..);simp;omega
    ·have:=h2 x (MC _ hx);simp;omega
theorem textsOf_str:∀ l:List Txt,textsOf (l.map V.str)=some l
 | []=>rfl
 | s::l=>by simp[textsOf,textsOf_str l]
theorem s_text_text {n:Nat}{s j:Txt}(hl:s.length<=3):cF N (n + 1) 26 [(It.text s).toV,.str j] H=some (.ok (.str (39::(dbl s++[39]))) H):=by
 rw[callF_succ N n 26 _ _ rfl];generalize cF N n=call;have i0:idxV H (It.text s).toV (.int 0)=some (.str [72]):=rfl;have i1:idxV H (It.text s).toV (.int 1)=some (.str s):=rfl;have k1:cmpV .eq (.str [72]) (.str [103,114,111,117,112])=some false:=by rw[cmp_eqs];rfl
 have k2:cmpV .eq (.str [72]) (.str [114,101,112,101,97,116])=some false:=by rw[cmp_eqs];rfl
 have k3:cmpV .eq (.str [72]) (.str [72])=some true:=by rw[cmp_eqs];rfl
 have hd:=dbl_len s;obtain⟨g1,g2⟩:=split_lens s;refine run_ret (H':=H) rfl (st2 (loc:=[some (It.text s).toV,some (.str j),none,none,none,none]) rfl ?_) rfl LT;refine ss_next (l':=[some (It.text s).toV,some (.str j),some (.str [72]),none,none,none]) (H':=H) (by simp only[EA,EB,EC,ED,EG,EF,EH,ZA,ZB,ZC,ZD,ZE,i0]) ?_;refine ite_skip (by simp only[EA,EB,EC,ED,EG,EF,EH,ZA,ZB,ZC,ZD,ZE,k1]) (ite_skip (by simp only[EA,EB,EC,ED,EG,EF,EH,ZA,ZB,ZC,ZD,ZE,k2]) (ite_ret (by simp only[EA,EB,EC,ED,EG,EF,EH,ZA,ZB,ZC,ZD,ZE,k3]) (ss_ret ?_) (by simp)));have s5:s.length<=100000:=by omega
 have es:EC call H.length [some (It.text s).toV,some (.str j),some (.str [72]),none,none,none] (.split (.idx (.loc 0) (.int 1)) (.str [39])) H=some (.ok (.lst ((split1 39 s).map V.str)) H):=by
  simp only[EA,EB,EC,ED,EG,EF,EH,ZA,ZB,ZC,ZD,ZE,i1,if_pos s5]
 have jc:([39,39]:Txt).length<=1000/\(split1 39 s).length<=1000/\(∀ w∈split1 39 s,w.length<=10000)/\(joinT [39,39] (split1 39 s)).length<=capL:=
  ⟨by decide,by omega,fun w hw=>by have:=g2 w hw;omega,by rw[join_dbl];exact cap_txt (by omega)⟩
 have ej:EC call H.length [some (It.text s).toV,some (.str j),some (.str [72]),none,none,none] (.join (.str [39,39]) (.split (.idx (.loc 0) (.int 1)) (.str [39]))) H=some (.ok (.str (dbl s)) H):=by
  rw[EC];rw[join_dbl] at jc;simp only[e_str,EG,es,lstOf,Option.bind,textsOf_str,join_dbl,if_pos jc]
 have b1:=b_add_str (H:=H) (x:=[39]) (y:=dbl s) (by simp;omega);have b2:=b_add_str (H:=H) (x:=[39]++dbl s) (y:=[39]) (by simp;omega);rw[EB,e_bin (e_bin e_str ej b1) e_str b2];simp only[EF,LX,ZI,ZJ]
def wWholeB:Ss:=(.cons (.ite (.cmp .gt (.loc 3) (.int 0)) (.cons (.assign 2 (.bin .add (.loc 2) (.ife (.call 27 (.cons (.idx (.loc 0) (.bin .sub (.loc 3) (.int 1))) (.cons (.idx (.loc 0) (.loc 3)) .nil))) (.loc 1) (.str [44]))))
  .nil) .nil)
  (.cons (.assign 2 (.bin .add (.loc 2) (.call 26 (.cons (.idx (.loc 0) (.loc 3)) (.cons (.loc 1) .nil)))))
  .nil))
theorem get_mid (pre:List It) (i:It) (l:List It):idxV H (.lst (toVs (pre++i::l))) (.int pre.length)=some i.toV:=by
 have h0:(0:Int)<=(pre.length:Nat):=by omega
 rw[idxV,getAt,if_pos h0,Int.toNat_natCast,toVs_append,List.getElem?_append_right (by rw[toVs_len];exact Nat.le_refl _),toVs_len,Nat.sub_self];rfl
theorem l_whole {j:Txt}(hj:∀ (a i:It),a.wd->i.wd->call 27 [a.toV,i.toV] H=some (.ok (.bool (loose a i)) H)) :
  ∀ (l pre:List It) (s:Txt) (x3:Option V),(∀ i∈pre++l,i.wd)->(∀ i∈l,call 26 [i.toV,.str j] H=some (.ok (.str (wText j i)) H))->s.length + (wItems j pre.getLast? l).length<=100000->
  ∃ y3,forL (put1 3) (fun l H=>EA call N b wWholeB l H) (upto l.length pre.length) [some (.lst (toVs (pre++l))),some (.str j),some (.str s),x3] H =
   some (.next [some (.lst (toVs (pre++l))),some (.str j),some (.str (s++wItems j pre.getLast? l)),y3] H)
 | [],pre,s,x3,hw,hc,hl=>⟨x3,by simp[forL,upto,wItems]⟩
 | i::l,pre,s,x3,hw,hc,hl=>by
  have e26:=hc i (MS ..);have g0:=get_mid (H:=H) pre i l;simp only[wItems,LA] at hl;have hiw:i.wd:=hw i (by simp);have step:EA call N b wWholeB [some (.lst (toVs (pre++i::l))),some (.str j),some (.str s),some (.int pre.length)] H =
    some (.next [some (.lst (toVs (pre++i::l))),some (.str j),some (.str (s++(sepr j pre.getLast? i++wText j i))),some (.int pre.length)] H):=by
   have s2:∀ (s':Txt),s'.length + (wText j i).length<=100000->EA call N b (match wWholeB with | .cons _ r=>r | _=>.nil) [some (.lst (toVs (pre++i::l))),some (.str j),some (.str s'),some (.int pre.length)] H =
     some (.next [some (.lst (toVs (pre++i::l))),some (.str j),some (.str (s'++wText j i)),some (.int pre.length)] H):=by
    intro s' hs';have ba:=b_add_str (H:=H) (x:=s') (y:=wText j i) hs';exact ss_next (by simp only[EA,EB,EC,ED,EG,EF,EH,ZA,ZB,ZC,ZD,ZE,g0,e26,ba]) ss_nil
   rcases List.eq_nil_or_concat pre with rfl | ⟨m,a,rfl⟩
   ·have k0:cmpV .gt (.int (([]:List It).length:Nat)) (.int 0)=some false:=rfl;refine ite_skip (by simp only[EA,EB,EC,ED,EG,EF,EH,ZA,ZB,ZC,ZD,ZE,k0]) ?_;have:=s2 s (by omega);rw[show sepr j ([]:List It).getLast? i++wText j i=wText j i from rfl];exact this
   ·simp only[List.concat_eq_append] at *;have k0:cmpV .gt (.int ((m++[a]).length:Nat)) (.int 0)=some true:=by
     rw[show (0:Int)=((0:Nat):Int) from rfl,cmp_gt,DT (by simp)]
    have ga:idxV H (.lst (toVs (m++[a]++i::l))) (.int (((m++[a]).length:Nat) - 1))=some a.toV:=by
     have:=get_mid (H:=H) m a (i::l);rw[show (((m++[a]).length:Nat):Int) - 1=(m.length:Nat) by simp only[LA,LC,LN];omega,LX];exact this
    have e27:=hj a i (hw a (by simp)) hiw;have gl:(m++[a]).getLast?=some a:=by simp
    rw[gl] at hl ⊢;have hsub:binV H .sub (.int ((m++[a]).length:Nat)) (.int 1)=some (.int (((m++[a]).length:Nat) - 1)):=rfl;have ei:EC call b [some (.lst (toVs (m++[a]++i::l))),some (.str j),some (.str s),some (.int ((m++[a]).length:Nat))] (.ife (.call 27 (.cons (.idx (.loc 0) (.bin .sub (.loc 3) (.int 1))) (.cons (.idx (.loc 0) (.loc 3)) .nil))) (.loc 1) (.str [44])) H=some (.ok (.str (sepr j (some a) i)) H):=by
     cases hlo:loose a i with
     | true=>rw[hlo] at e27;simp only[EA,EB,EC,ED,EG,EF,EH,ZA,ZB,ZC,ZD,ZE,hsub,ga,g0,e27,sepr,hlo,if_true]
     | false=>rw[hlo] at e27;simp only[EA,EB,EC,ED,EG,EF,EH,ZA,ZB,ZC,ZD,ZE,hsub,ga,g0,e27,sepr,hlo,BF,if_false]
    have ba:=b_add_str (H:=H) (x:=s) (y:=sepr j (some a) i) (by omega);have:=s2 (s++sepr j (some a) i) (by simp only[LA];omega);rw[LX s] at this;refine ss_next (l':=[some (.lst (toVs (m++[a]++i::l))),some (.str j),some (.str (s++sepr j (some a) i)),some (.int ((m++[a]).length:Nat))]) (H':=H) (ite_next true (by simp only[EA,EB,EC,ED,EG,EF,EH,ZA,ZB,ZC,ZD,ZE,k0]) ?_) this;rw[if_pos rfl];refine ss_next ?_ ss_nil;rw[EB,e_bin (e_loc rfl) ei ba];rfl
  have hpre:pre++i::l=pre++[i]++l:=by simp
  have hgl:(pre++[i]).getLast?=some i:=by simp
  obtain⟨y3,ih⟩:=l_whole hj l (pre++[i]) (s++(sepr j pre.getLast? i++wText j i)) (some (.int pre.length)) (by rw[<- hpre];exact hw) (fun i hi=>hc i (MC _ hi)) (by rw[hgl];simp only[LA];omega);refine⟨y3,?_⟩;rw[hgl,<- hpre] at ih;have hln:(pre++[i]).length=pre.length + 1:=by simp
  rw[hln] at ih;simp only[LC,upto,forL,put1,ZD,ZC,step];rw[ih];simp[wItems]
theorem s_whole_of {n:Nat}{j:Txt}{l:List It}(hw:∀ i∈l,i.wd) (hl:(wItems j none l).length<=90000) (hn:l.length<=1000)
  (hc:∀ i∈l,cF N (n + 1) 26 [i.toV,.str j] H=some (.ok (.str (wText j i)) H)):cF N (n + 2) 28 [.lst (toVs l),.str j] H=some (.ok (.str (wWhole j l)) H):=by
 rw[callF_succ N (n + 1) 28 _ _ rfl];have hj:∀ (a i:It),a.wd->i.wd->cF N (n + 1) 27 [a.toV,i.toV] H=some (.ok (.bool (loose a i)) H):=fun a i ha hi=>s_loose (n:=n) ha hi
 generalize cF N (n + 1)=call at *;obtain⟨y3,h⟩:=l_whole (N:=N) (b:=H.length) hj l [] [40] none (by simpa using hw) hc (by simp only[List.getLast?_nil,LC,LN];omega);have ln:lenV H (.lst (toVs l))=some l.length:=by simp[lenV,lstOf,toVs_len]
 refine run_ret (H':=H) rfl (st2 (loc:=[some (.lst (toVs l)),some (.str j),none,none]) rfl ?_) rfl LT;refine ss_next (l':=[some (.lst (toVs l)),some (.str j),some (.str [40]),none]) (H':=H) (by simp only[EA,EB,EC,ED,EG,EF,EH,ZA,ZB,ZC,ZD,ZE]) ?_;refine ss_next (l':=[some (.lst (toVs l)),some (.str j),some (.str ([40]++wItems j none l)),y3]) (H':=H) ?_ (ss_ret ?_)
 ·have hk:(0:Int)<=(l.length:Nat)/\((l.length:Nat):Int)<=capL:=by have:(capL:Int)=1048576:=rfl;omega
  have ee:EC call H.length [some (.lst (toVs l)),some (.str j),some (.str [40]),none] (.len (.loc 0)) H=some (.ok (.int l.length) H):=e_len (e_loc rfl) ln;rw[EB,ee];simp only[EF,if_pos hk,Int.toNat_natCast];exact h
 ·have ba:=b_add_str (H:=H) (x:=[40]++wItems j none l) (y:=[41]) (by simp only[LA,LC,LN];omega);rw[EB,e_bin (e_loc rfl) e_str ba];simp only[EF,wWhole,ZI,ZJ]
end
section
variable {N b:Nat}{H:Hp}{call:Nat->List V->Hp->Option (Res V)}
theorem small1 {k:Int}(h1 : -100<=k) (h2:k<=100):smallP [some k]:=by
 intro x hx;simp at hx;subst hx;exact⟨h1,h2⟩
theorem leaf_form {i:It}(h:Leaf i):∃ w ps,i=.nums w ps/\w∈words/\¬ (w=[88]\/w=[80])/\smallP ps/\(w=[73]\/w=[76]\/w=[65]\/w=[70]\/w=[68]\/w=[69]\/w=[71])/\((∃ a,ps=[a])\/(∃ a b,ps=[a,b])\/(∃ a b c,ps=[a,b,c])):=by
 have sm:∀ ps:List (Option Int),(∀ k,some k∈ps->∃ n:Nat,k=(n:Int)/\n<=12)->smallP ps:=by
  intro ps h k hk;obtain⟨n,rfl,hn⟩:=h k hk;omega
 have v:∀ c:Nat,(c=70\/c=68\/c=69\/c=71)->([c]:Txt)∈words/\¬ (([c]:Txt)=[88]\/([c]:Txt)=[80]):=by
  intro c hc;rcases hc with rfl | rfl | rfl | rfl<;>decide
 cases h with
 | i0 w h1 h2=>exact⟨_,_,rfl,by decide,by decide,sm _ (by intro k hk;simp[nI] at hk;exact⟨w,hk,by omega⟩),by simp,by simp⟩
 | i1 w d h1 h2 h3=>exact⟨_,_,rfl,by decide,by decide,sm _ (by intro k hk;simp[nI] at hk;rcases hk with h | h;exact⟨w,h,by omega⟩;exact⟨d,h,by omega⟩),by simp,by simp⟩
 | l w h1 h2=>exact⟨_,_,rfl,by decide,by decide,sm _ (by intro k hk;simp[nI] at hk;exact⟨w,hk,by omega⟩),by simp,by simp⟩
 | a0=>exact⟨_,_,rfl,by decide,by decide,sm _ (by intro k hk;simp[nI] at hk),by simp,by simp⟩
 | a1 w h1 h2=>exact⟨_,_,rfl,by decide,by decide,sm _ (by intro k hk;simp[nI] at hk;exact⟨w,hk,by omega⟩),by simp,by simp⟩
 | fd c w d hc h1 h2 h3=>exact⟨_,_,rfl,(v c (by omega)).1,(v c (by omega)).2,sm _ (by intro k hk;simp[nI] at hk;rcases hk with h | h;exact⟨w,h,by omega⟩;exact⟨d,h,by omega⟩),by simp;omega,by simp⟩
 | e0 c w d hc h1 h2 h3=>exact⟨_,_,rfl,(v c (by omega)).1,(v c (by omega)).2,sm _ (by intro k hk;simp[nI] at hk;rcases hk with h | h;exact⟨w,h,by omega⟩;exact⟨d,h,by omega⟩),by simp;omega,by simp⟩
 | e1 c w d e hc h1 h2 h3 h4 h5=>exact⟨_,_,rfl,(v c (by omega)).1,(v c (by omega)).2,sm _ (by intro k hk;simp[nI] at hk;rcases hk with h | h | h;exact⟨w,h,by omega⟩;exact⟨d,h,by omega⟩;exact⟨e,h,by omega⟩),by simp;omega,by simp⟩
theorem s_text_leaf {n:Nat}{j:Txt}{i:It}(h:Leaf i):cF N (n + 1) 26 [i.toV,.str j] H=some (.ok (.str (wText j i)) H):=by
 have hl:=leaf_len (j:=j) h;obtain⟨w,ps,rfl,hw,hn,hp,_⟩:=leaf_form h;have e:wText j (.nums w ps)=w++tail3 JS ps:=by simp only[wText,if_neg hn]
 rw[e] at hl ⊢;exact s_text_nums hw hn hp (by omega)
theorem s_text {j:Txt}(hj:j.length<=1){d:Nat}{i:It}(h:Good d i):d<=10->∀ (n:Nat) (H:Hp),2 * d + 2<=n->cF N n 26 [i.toV,.str j] H=some (.ok (.str (wText j i)) H):=by
 induction h with
 | leaf d i h=>intro _ n H hn;obtain⟨n,rfl⟩ : ∃ m,n=m + 1:=⟨n - 1,by omega⟩;exact s_text_leaf h
 | text d s h1 h2 h3=>intro _ n H hn;obtain⟨n,rfl⟩ : ∃ m,n=m + 1:=⟨n - 1,by omega⟩;exact s_text_text h2
 | x d k h1 h2=>
  intro _ n H hn;obtain⟨n,rfl⟩ : ∃ m,n=m + 1:=⟨n - 1,by omega⟩
  have e:wText j (.nums [88] [nI k])=textOf (k:Int)++[88]:=by simp[wText,tail3,nI]
  rw[e];exact s_text_xp (.inl rfl) (by omega) (by omega) (by have:=textOf_len (k:=(k:Int)) (by omega) (by omega);omega)
 | p d k h1 h2=>
  intro _ n H hn;obtain⟨n,rfl⟩ : ∃ m,n=m + 1:=⟨n - 1,by omega⟩
  have e:wText j (.nums [80] [some k])=textOf k++[80]:=by simp[wText,tail3]
  rw[e];exact s_text_xp (.inr rfl) (by omega) (by omega) (by have:=textOf_len h1 (by omega:k<=15);omega)
 | t d k w hw h1 h2=>
  intro _ n H hn;obtain⟨n,rfl⟩ : ∃ m,n=m + 1:=⟨n - 1,by omega⟩
  have hl:=good_len hj (Good.t d k w hw h1 h2);have f1:∀ w∈([[84],[84,76],[84,82]]:List Txt),w∈words/\¬ (w=[88]\/w=[80])/\w.length<=2:=by decide
  obtain⟨g1,g2,g3⟩:=f1 w hw;have e:wText j (.nums w [nI k])=w++tail3 JS [nI k]:=by simp only[wText,if_neg g2]
  rw[e];have:=textOf_len (k:=(k:Int)) (by omega) (by omega);exact s_text_nums g1 g2 (small1 (by omega) (by omega)) (by simp[tail3,JS,nI];omega)
 | c d w hw=>
  intro _ n H hn;obtain⟨n,rfl⟩ : ∃ m,n=m + 1:=⟨n - 1,by omega⟩
  have f1:∀ w∈([[47],[58],[83],[83,80],[83,83],[66,78],[66,90]]:List Txt),w∈words/\¬ (w=[88]\/w=[80])/\w.length<=2:=by decide
  obtain⟨g1,g2,g3⟩:=f1 w hw;have e:wText j (.nums w [])=w++tail3 JS []:=by simp only[wText,if_neg g2]
  rw[e];exact s_text_nums g1 g2 (fun k hk=>by cases hk) (by simp[tail3,JS];omega)
 | rep d k i h1 h2 h=>
  intro _ n H hn;obtain⟨n,rfl⟩ : ∃ m,n=m + 2:=⟨n - 2,by omega⟩
  have e26:=s_text_leaf (N:=N) (H:=H) (n:=n) (j:=j) h;have hl:=leaf_len (j:=j) h;rw[callF_succ N (n + 1) 26 _ _ rfl];generalize cF N (n + 1)=call at *;have i0:idxV H (It.rep (k:Int) i).toV (.int 0)=some (.str [114,101,112,101,97,116]):=rfl;have i1:idxV H (It.rep (k:Int) i).toV (.int 1)=some (.int k):=rfl;have i2:idxV H (It.rep (k:Int) i).toV (.int 2)=some i.toV:=rfl;have k1:cmpV .eq (.str [114,101,112,101,97,116]) (.str [103,114,111,117,112])=some false:=by rw[cmp_eqs];rfl
  have k2:cmpV .eq (.str [114,101,112,101,97,116]) (.str [114,101,112,101,97,116])=some true:=by rw[cmp_eqs];rfl
  have ts:=toStr_ok (i:=(k:Int)) (by omega) (by omega);have ba:=b_add_str (H:=H) (x:=textOf (k:Int)) (y:=wText j i) (by have:=textOf_len (k:=(k:Int)) (by omega) (by omega);omega);refine run_ret (H':=H) rfl (st2 (loc:=[some (It.rep (k:Int) i).toV,some (.str j),none,none,none,none]) rfl ?_) rfl LT;refine ss_next (l':=[some (It.rep (k:Int) i).toV,some (.str j),some (.str [114,101,112,101,97,116]),none,none,none]) (H':=H) (by simp only[EA,EB,EC,ED,EG,EF,EH,ZA,ZB,ZC,ZD,ZE,ZF,ZG,ZH,ZI,ZJ,i0]) ?_;refine ite_skip (by simp only[EA,EB,EC,ED,EG,EF,EH,ZA,ZB,ZC,ZD,ZE,ZF,ZG,ZH,ZI,ZJ,k1]) (ite_ret (by simp only[EA,EB,EC,ED,EG,EF,EH,ZA,ZB,ZC,ZD,ZE,ZF,ZG,ZH,ZI,ZJ,k2]) (ss_ret ?_) (by simp));simp only[EA,EB,EC,ED,EG,EF,EH,ZA,ZB,ZC,ZD,ZE,ZF,ZG,ZH,ZI,ZJ,i1,i2,ts,e26,ba,wText]
 | grp d k l h1 h2 h3 h4 h5 ih=>
  intro hd n H hn;obtain⟨n,rfl⟩ : ∃ m,n=m + 4:=⟨n - 4,by omega⟩
  have hlB:lenB d<=lenB 10:=by
   have:∀ d:Fin 11,lenB d.val<=lenB 10:=by decide +kernel
   exact this ⟨d,by omega⟩
  have hil:=items_len hj l none h5;have h10:lenB 10=14331:=rfl;have hil2:(wItems j none l).length<=2 * (lenB d + 1):=Nat.le_trans hil (Nat.mul_le_mul_right _ h4);have e28:=s_whole_of (N:=N) (H:=H) (n:=n + 1) (j:=j) (fun i hi=>(h5 i hi).wd) (by omega) (Nat.le_trans h4 (by decide)) (fun i hi=>ih i hi (by omega) (n + 2) H (by omega));rw[callF_succ N (n + 3) 26 _ _ rfl];generalize cF N (n + 3)=call at *;have i0:idxV H (It.grp (k:Int) l).toV (.int 0)=some (.str [103,114,111,117,112]):=rfl;have i1:idxV H (It.grp (k:Int) l).toV (.int 1)=some (.int k):=rfl;have i2:idxV H (It.grp (k:Int) l).toV (.int 2)=some (.lst (toVs l)):=rfl;have k1:cmpV .eq (.str [103,114,111,117,112]) (.str [103,114,111,117,112])=some true:=by rw[cmp_eqs];rfl
  have k2:cmpV .eq (.int (k:Int)) (.int 1)=some (decide ((k:Int)=1)):=by rw[cmp_eqi];rfl
  have ts:=toStr_ok (i:=(k:Int)) (by omega) (by omega);have tl:=textOf_len (k:=(k:Int)) (by omega) (by omega);have hcl:(if (k:Int)=1 then ([]:Txt) else textOf (k:Int)).length<=2:=by split;simp;exact tl
  have hwl:(wWhole j l).length<=90000:=by simp only[wWhole,LC,LA,LN];omega
  have ba:=b_add_str (H:=H) (x:=if (k:Int)=1 then ([]:Txt) else textOf (k:Int)) (y:=wWhole j l) (by omega);refine run_ret (H':=H) rfl (st2 (loc:=[some (It.grp (k:Int) l).toV,some (.str j),none,none,none,none]) rfl ?_) rfl LT;refine ss_next (l':=[some (It.grp (k:Int) l).toV,some (.str j),some (.str [103,114,111,117,112]),none,none,none]) (H':=H) (by simp only[EA,EB,EC,ED,EG,EF,EH,ZA,ZB,ZC,ZD,ZE,ZF,ZG,ZH,ZI,ZJ,i0]) ?_;refine ite_ret (by simp only[EA,EB,EC,ED,EG,EF,EH,ZA,ZB,ZC,ZD,ZE,ZF,ZG,ZH,ZI,ZJ,k1]) (ss_ret ?_) (by simp);have ei:EC call H.length [some (It.grp (k:Int) l).toV,some (.str j),some (.str [103,114,111,117,112]),none,none,none] (.ife (.cmp .eq (.idx (.loc 0) (.int 1)) (.int 1)) (.str []) (.toStr (.idx (.loc 0) (.int 1)))) H=some (.ok (.str (if (k:Int)=1 then ([]:Txt) else textOf (k:Int))) H):=by
   by_cases q:(k:Int)=1
   ·rw[DT q] at k2;rw[if_pos q];simp only[EA,EB,EC,ED,EG,EF,EH,ZA,ZB,ZC,ZD,ZE,ZF,ZG,ZH,ZI,ZJ,i1,k2]
   ·rw[DF q] at k2;rw[if_neg q];simp only[EA,EB,EC,ED,EG,EF,EH,ZA,ZB,ZC,ZD,ZE,ZF,ZG,ZH,ZI,ZJ,i1,k2,ts]
  have ec:EC call H.length [some (It.grp (k:Int) l).toV,some (.str j),some (.str [103,114,111,117,112]),none,none,none] (.call 28 (.cons (.idx (.loc 0) (.int 2)) (.cons (.loc 1) .nil))) H=some (.ok (.str (wWhole j l)) H):=by
   simp only[EA,EB,EC,ED,EG,EF,EH,ZA,ZB,ZC,ZD,ZE,ZF,ZG,ZH,ZI,ZJ,i2,e28]
  rw[EB,e_bin ei ec ba];simp only[EF,wText,wWhole]
theorem s_whole {n d:Nat}{j:Txt}{l:List It}(hj:j.length<=1) (hd:d<=10) (hl:l.length<=5) (h:∀ i∈l,Good d i) (hn : 2 * d + 3<=n):cF N n 28 [.lst (toVs l),.str j] H=some (.ok (.str (wWhole j l)) H):=by
 obtain⟨n,rfl⟩ : ∃ m,n=m + 2:=⟨n - 2,by omega⟩
 have hlB:lenB d<=lenB 10:=by
  have:∀ d:Fin 11,lenB d.val<=lenB 10:=by decide +kernel
  exact this ⟨d,by omega⟩
 have hil:=items_len hj l none h;have h10:lenB 10=14331:=rfl;have hil2:(wItems j none l).length<=5 * (lenB d + 1):=Nat.le_trans hil (Nat.mul_le_mul_right _ hl);exact s_whole_of (fun i hi=>(h i hi).wd) (by omega) (by omega) (fun i hi=>s_text hj (h i hi) hd _ _ (by omega))
theorem s_write_tail {n:Nat}{w:Txt}{ps:List (Option Int)}(hp:smallP ps) (hf:(∃ a,ps=[a])\/(∃ a b,ps=[a,b])\/(∃ a b c,ps=[a,b,c])) (hl:(tail3 JS ps).length<=1000) :
  cF N (n + 1) 20 [(It.nums w ps).toV] H=some (.ok (.str (tail3 JS ps)) H):=by
 rw[callF_succ N n 20 _ _ rfl];generalize cF N n=call;have ln:lenV H (It.nums w ps).toV=some (ps.length + 1):=by simp[It.toV,lenV]
 have el:∀ x1,EC call H.length [some (It.nums w ps).toV,x1] (.len (.loc 0)) H=some (.ok (.int ((ps.length + 1:Nat):Int)) H):=fun x1=>e_len (e_loc rfl) ln
 have g2:cmpV .gt (.int ((ps.length + 1:Nat):Int)) (.int 2)=some (decide (2 < ps.length + 1)):=cmp_gt _ 2;have g3:cmpV .gt (.int ((ps.length + 1:Nat):Int)) (.int 3)=some (decide (3 < ps.length + 1)):=cmp_gt _ 3;have c2:∀ x1,EC call H.length [some (It.nums w ps).toV,x1] (.cmp .gt (.len (.loc 0)) (.int 2)) H=some (.ok (.bool (decide (2 < ps.length + 1))) H):=fun x1=>e_cmp (el x1) e_int g2
 have c3:∀ x1,EC call H.length [some (It.nums w ps).toV,x1] (.cmp .gt (.len (.loc 0)) (.int 3)) H=some (.ok (.bool (decide (3 < ps.length + 1))) H):=fun x1=>e_cmp (el x1) e_int g3
 have e_and1:∀ {x y:E}{l:Loc}{r:Option (Res V)},EC call H.length l x H=some (.ok (.bool true) H)->EC call H.length l y H=r->EC call H.length l (.and x y) H=r:=by
  intro x y l r hx hy;rw[EC,hx];simp only[EG];exact hy
 have e_and0:∀ {x y:E}{l:Loc},EC call H.length l x H=some (.ok (.bool false) H)->EC call H.length l (.and x y) H=some (.ok (.bool false) H):=by
  intro x y l hx;rw[EC,hx];simp only[EG]
 refine run_ret (H':=H) rfl (st2 (loc:=[some (It.nums w ps).toV,none]) rfl ?_) rfl LT;refine ss_next (l':=[some (It.nums w ps).toV,some (.str [])]) (H':=H) (by simp only[EA,EB,EC,ED,EG,EF,EH,ZA,ZB,ZC,ZD,ZE,ZF,ZG,ZH,ZI,ZJ]) ?_;have nn:∀ (m:Nat) (x1:Option V) (p:Option Int),idxV H (It.nums w ps).toV (.int m)=some (pV p)->EC call H.length [some (It.nums w ps).toV,x1] (.notNone (.idx (.loc 0) (.int m))) H=some (.ok (.bool p.isSome) H):=by
  intro m x1 p hi;cases p<;>(simp only[EA,EB,EC,ED,EG,EF,EH,ZA,ZB,ZC,ZD,ZE,ZF,ZG,ZH,ZI,ZJ,hi];rfl)
 have put:∀ (m:Nat) (s j:Txt) (k:Int),idxV H (It.nums w ps).toV (.int m)=some (pV (some k))->-100<=k/\k<=100->(s++j++textOf k).length<=1000->
   EA call N H.length (.cons (.assign 1 (.bin .add (.bin .add (.loc 1) (.str j)) (.toStr (.idx (.loc 0) (.int m))))) .nil) [some (It.nums w ps).toV,some (.str s)] H=some (.next [some (It.nums w ps).toV,some (.str (s++j++textOf k))] H):=by
  intro m s j k hi hk hl;simp only[LA] at hl;have b1:=b_add_str (H:=H) (x:=s) (y:=j) (by omega);have b2:=b_add_str (H:=H) (x:=s++j) (y:=textOf k) (by simp only[LA];omega);have ts:=toStr_ok hk.1 hk.2;have et:EC call H.length [some (It.nums w ps).toV,some (.str s)] (.toStr (.idx (.loc 0) (.int m))) H=some (.ok (.str (textOf k)) H):=by
   simp only[EA,EB,EC,ED,EG,EF,EH,ZA,ZB,ZC,ZD,ZE,ZF,ZG,ZH,ZI,ZJ,hi,pV,ts]
  refine ss_next ?_ ss_nil;rw[EB,e_bin (e_bin (e_loc rfl) e_str b1) et b2];rfl
 have first:∀ p:Option Int,idxV H (It.nums w ps).toV (.int 1)=some (pV p)->(∀ k,p=some k->-100<=k/\k<=100)->EB call N H.length (.ite (.notNone (.idx (.loc 0) (.int 1))) (.cons (.assign 1 (.toStr (.idx (.loc 0) (.int 1)))) .nil) .nil) [some (It.nums w ps).toV,some (.str [])] H=some (.next [some (It.nums w ps).toV,some (.str (tail3 [[]] [p]))] H):=by
  intro p hi hk;have hc:=nn 1 (some (.str [])) p hi;cases p with
  | none=>exact ite_next false hc (by simp only[BF,if_false];exact ss_nil)
  | some k=>
   have ts:=toStr_ok (hk k rfl).1 (hk k rfl).2;refine ite_next true hc ?_;simp only[if_true,EA,EB,EC,ED,EG,EF,EH,ZA,ZB,ZC,ZD,ZE,ZF,ZG,ZH,ZI,ZJ,hi,pV,ts,tail3,List.append_nil]
 have later:∀ (m:Nat) (s j:Txt) (p:Option Int),idxV H (It.nums w ps).toV (.int m)=some (pV p)->(∀ k,p=some k->-100<=k/\k<=100)->(s++tail3 [j] [p]).length<=1000->EC call H.length [some (It.nums w ps).toV,some (.str s)] (.cmp .gt (.len (.loc 0)) (.int m)) H=some (.ok (.bool true) H)->
   EB call N H.length (.ite (.and (.cmp .gt (.len (.loc 0)) (.int m)) (.notNone (.idx (.loc 0) (.int m)))) (.cons (.assign 1 (.bin .add (.bin .add (.loc 1) (.str j)) (.toStr (.idx (.loc 0) (.int m))))) .nil) .nil) [some (It.nums w ps).toV,some (.str s)] H=some (.next [some (It.nums w ps).toV,some (.str (s++tail3 [j] [p]))] H):=by
  intro m s j p hi hk hl hg;have hc:=e_and1 hg (nn m (some (.str s)) p hi);cases p with
  | none=>exact ite_next false hc (by simp only[BF,if_false,tail3,List.append_nil];exact ss_nil)
  | some k=>
   refine ite_next true hc ?_;have:=put m s j k hi (hk k rfl) (by simpa [tail3] using hl);simp only[if_true];simpa [tail3] using this
 rcases hf with ⟨a,rfl⟩ | ⟨a,b,rfl⟩ | ⟨a,b,c,rfl⟩
 ·have q2:decide (2 < [a].length + 1)=false:=rfl;have q3:decide (3 < [a].length + 1)=false:=rfl;rw[q2] at c2;rw[q3] at c3;refine ss_next (first a rfl (fun k hk=>hp k (by rw[hk];simp))) ?_;refine ite_skip (e_and0 (c2 _)) (ite_skip (e_and0 (c3 _)) (ss_ret ?_));have:tail3 JS [a]=tail3 [[]] [a]:=by cases a<;>rfl
  rw[this];simp only[EA,EB,EC,ED,EG,EF,EH,ZA,ZB,ZC,ZD,ZE,ZF,ZG,ZH,ZI,ZJ]
 ·have q2:decide (2 < [a,b].length + 1)=true:=rfl;have q3:decide (3 < [a,b].length + 1)=false:=rfl;rw[q2] at c2;rw[q3] at c3;have e:tail3 JS [a,b]=tail3 [[]] [a]++tail3 [[46]] [b]:=by cases a<;>cases b<;>simp[tail3,JS]
  refine ss_next (first a rfl (fun k hk=>hp k (by rw[hk];simp))) ?_;refine ss_next (later 2 _ [46] b rfl (fun k hk=>hp k (by rw[hk];simp)) (by rw[<- e];exact hl) (c2 _)) ?_;refine ite_skip (e_and0 (c3 _)) (ss_ret ?_);rw[e];simp only[EA,EB,EC,ED,EG,EF,EH,ZA,ZB,ZC,ZD,ZE,ZF,ZG,ZH,ZI,ZJ]
 ·have q2:decide (2 < [a,b,c].length + 1)=true:=rfl;have q3:decide (3 < [a,b,c].length + 1)=true:=rfl;rw[q2] at c2;rw[q3] at c3;have e:tail3 JS [a,b,c]=tail3 [[]] [a]++tail3 [[46]] [b]++tail3 [[69]] [c]:=by cases a<;>cases b<;>cases c<;>simp[tail3,JS]
  rw[e] at hl;refine ss_next (first a rfl (fun k hk=>hp k (by rw[hk];simp))) ?_;refine ss_next (later 2 _ [46] b rfl (fun k hk=>hp k (by rw[hk];simp)) (by rw[LA] at hl;omega) (c2 _)) ?_;refine ss_next (later 3 _ [69] c rfl (fun k hk=>hp k (by rw[hk];simp)) hl (c3 _)) (ss_ret ?_);rw[e];simp only[EA,EB,EC,ED,EG,EF,EH,ZA,ZB,ZC,ZD,ZE,ZF,ZG,ZH,ZI,ZJ]
end
theorem sepr_comma (p i:It):sepr [44] (some p) i=[44]:=by simp[sepr]
theorem wItems_join:∀ (l:List It) (i:It),joinT [44] ((i::l).map (wText [44]))=wText [44] i++wItems [44] (some i) l
 | [],i=>by simp[joinT,wItems]
 | k::l,i=>by
  have ih:=wItems_join l k;simp only[ZG] at ih ⊢;simp only[joinT,ih,wItems,sepr_comma,LX]
theorem wItems_join0:∀ (l:List It),joinT [44] (l.map (wText [44]))=wItems [44] none l
 | []=>rfl
 | i::l=>by rw[wItems_join];simp[wItems,sepr]
section
variable {N b:Nat}{H:Hp}{call:Nat->List V->Hp->Option (Res V)}
def wFmtB:Ss:=.cons (.append (.loc 1) (.call 21 (.cons (.loc 2) .nil))) .nil
theorem l_fmt {x0:Option V}:∀ (l:List It) (acc:List Txt) (x2:Option V),(∀ i∈l,∀ H,call 21 [i.toV] H=some (.ok (.str (wText [44] i)) H))->acc.length + l.length<=1000->
  ∃ y2,forL (put1 2) (fun l H'=>EA call N H.length wFmtB l H') (toVs l) [x0,some (.ref H.length),x2] (H++[some (acc.map V.str)]) =
   some (.next [x0,some (.ref H.length),y2] (H++[some ((acc++l.map (wText [44])).map V.str)]))
 | [],acc,x2,hc,hl=>⟨x2,by simp[toVs,forL]⟩
 | i::l,acc,x2,hc,hl=>by
  have e:=hc i (MS ..) (H++[some (acc.map V.str)]);obtain⟨y2,ih⟩:=l_fmt (x0:=x0) l (acc++[wText [44] i]) (some i.toV) (fun i hi=>hc i (MC _ hi)) (by simp only[LA,LC,LN] at hl ⊢;omega);refine⟨y2,?_⟩;have hg:=hgA H (acc.map V.str);have z1:∀ v,mayMut H.length H.length v=true:=fun v=>by simp[mayMut]
  have z2:(acc.map V.str).length < capL:=by rw[List.length_map];have:capL=1048576:=rfl;simp only[LC] at hl;omega
  have z3:(acc++[wText [44] i]).map V.str=acc.map V.str++[.str (wText [44] i)]:=by simp
  have step:EA call N H.length wFmtB [x0,some (.ref H.length),some i.toV] (H++[some (acc.map V.str)])=some (.next [x0,some (.ref H.length),some i.toV] (H++[some ((acc++[wText [44] i]).map V.str)])):=by
   refine ss_next ?_ ss_nil;simp only[EA,EB,EC,ED,EG,EF,EH,ZA,ZB,ZC,ZD,ZE,e,hg,z1,z2,decide_true,BA,if_true,stA,z3]
  simp only[toVs,forL,put1,ZD,ZC,step];rw[ih];simp
theorem s_format_of {n:Nat}{l:List It}(hc:∀ i∈l,∀ H,cF N n 21 [i.toV] H=some (.ok (.str (wText [44] i)) H)) (hn:l.length<=100) (hw:∀ i∈l,(wText [44] i).length<=10000) (hl:(wItems [44] none l).length<=90000) :
  cF N (n + 1) 22 [.lst (toVs l)] H=some (.ok (.str (wWhole [44] l)) H):=by
 rw[callF_succ N n 22 _ _ rfl];generalize cF N n=call at *;obtain⟨y2,h⟩:=l_fmt (N:=N) (H:=H) (x0:=some (.lst (toVs l))) l [] none hc (by simp only[LN];omega);have hc0:([]:List V).length<=capL:=cap3 (by decide);refine run_ret (H':=H++[some ((l.map (wText [44])).map V.str)]) rfl (st2 (loc:=[some (.lst (toVs l)),none,none]) rfl ?_) rfl (tkA _ _);refine ss_next (l':=[some (.lst (toVs l)),some (.ref H.length),none]) (H':=H++[some []]) (by simp only[EA,EB,EC,ED,EG,EF,EH,ZA,ZB,ZC,ZD,ZE,hc0,if_true]) ?_;refine ss_next (l':=[some (.lst (toVs l)),some (.ref H.length),y2]) (H':=H++[some ((l.map (wText [44])).map V.str)]) ?_ (ss_ret ?_)
 ·rw[EB,e_loc (v:=.lst (toVs l)) rfl];exact h
 ·have lo:lstOf (H++[some ((l.map (wText [44])).map V.str)]) (.ref H.length)=some ((l.map (wText [44])).map V.str):=hgA _ _;have jc:([44]:Txt).length<=1000/\(l.map (wText [44])).length<=1000/\(∀ w∈l.map (wText [44]),w.length<=10000)/\(joinT [44] (l.map (wText [44]))).length<=capL:=
   ⟨by decide,by rw[List.length_map];omega,fun w hw'=>by obtain⟨i,hi,rfl⟩:=List.mem_map.mp hw';exact hw i hi,by rw[wItems_join0];exact cap_txt (by omega)⟩
  have ej:EC call H.length [some (.lst (toVs l)),some (.ref H.length),y2] (.join (.str [44]) (.loc 1)) (H++[some ((l.map (wText [44])).map V.str)])=some (.ok (.str (wItems [44] none l)) (H++[some ((l.map (wText [44])).map V.str)])):=by
   rw[EC];rw[wItems_join0] at jc;simp only[e_str,EG,e_loc (l:=[some (.lst (toVs l)),some (.ref H.length),y2]) (x:=1) (v:=.ref H.length) rfl,lo,Option.bind,textsOf_str,wItems_join0,if_pos jc]
  have b1:=b_add_str (H:=H++[some ((l.map (wText [44])).map V.str)]) (x:=[40]) (y:=wItems [44] none l) (by simp only[LC,LN];omega);have b2:=b_add_str (H:=H++[some ((l.map (wText [44])).map V.str)]) (x:=[40]++wItems [44] none l) (y:=[41]) (by simp only[LA,LC,LN];omega);rw[EB,e_bin (e_bin e_str ej b1) e_str b2];simp only[EF,wWhole,ZI,ZJ]
theorem wi_start {i:It}{r:Option RS}(h:EA call N H.length (match F_write_item.body with | .cons _ r=>r | _=>.nil) [some i.toV,some (.str i.word),none] H=r):EA call N H.length F_write_item.body [some i.toV,none,none] H=r:=by
 have i0:=word_idx (H:=H) i;exact ss_next (by simp only[EA,EB,EC,ED,EG,EF,EH,ZA,ZB,ZC,ZD,ZE,i0]) h
theorem c_ttt (w:Txt):([[84],[84,76],[84,82]]:List Txt).contains w=decide (w∈([[84],[84,76],[84,82]]:List Txt)):=by rw[Bool.eq_iff_iff];simp
theorem wi_nums {w:Txt}{ps:List (Option Int)}{r:Option RS}(hw:w∈words) (h:EA call N H.length (match F_write_item.body with | .cons _ (.cons _ (.cons _ (.cons _ r)))=>r | _=>.nil) [some (It.nums w ps).toV,some (.str w),none] H=r) :
  EA call N H.length F_write_item.body [some (It.nums w ps).toV,none,none] H=r:=by
 have f:∀ w∈words,(w==[103,114,111,117,112])=false/\(w==[114,101,112,101,97,116])=false/\(w==[72])=false:=by decide
 obtain⟨f1,f2,f3⟩:=f w hw;have k1:cmpV .eq (.str w) (.str [103,114,111,117,112])=some false:=by rw[cmp_eqs,f1]
 have k2:cmpV .eq (.str w) (.str [114,101,112,101,97,116])=some false:=by rw[cmp_eqs,f2]
 have k3:cmpV .eq (.str w) (.str [72])=some false:=by rw[cmp_eqs,f3]
 exact wi_start (ite_skip (by simp only[EA,EB,EC,ED,EG,EF,EH,ZA,ZB,ZC,ZD,ZE,It.word,k1]) (ite_skip (by simp only[EA,EB,EC,ED,EG,EF,EH,ZA,ZB,ZC,ZD,ZE,It.word,k2]) (ite_skip (by simp only[EA,EB,EC,ED,EG,EF,EH,ZA,ZB,ZC,ZD,ZE,It.word,k3]) h)))
theorem s_wi_xp {n:Nat}{w:Txt}{k:Int}(hw:w=[88]\/w=[80]) (h1 : -100<=k) (h2:k<=100) (hl:(textOf k).length<=100) :
  cF N (n + 1) 21 [(It.nums w [some k]).toV] H=some (.ok (.str (textOf k++w)) H):=by
 rw[callF_succ N n 21 _ _ rfl];generalize cF N n=call;have i1:idxV H (It.nums w [some k]).toV (.int 1)=some (.int k):=rfl;have hw':w∈words:=by rcases hw with rfl | rfl<;>decide
 have ts:=toStr_ok h1 h2;have wl:w.length=1:=by rcases hw with rfl | rfl<;>rfl
 have ba:=b_add_str (H:=H) (x:=textOf k) (y:=w) (by omega);refine run_ret (H':=H) rfl (st2 (loc:=[some (It.nums w [some k]).toV,none,none]) rfl (wi_nums hw' (ite_ret ?_ (ss_ret ?_) (by simp)))) rfl LT
 ·have x1:cmpV .eq (.str w) (.str [88])=some (w==[88]):=cmp_eqs _ _;have x2:cmpV .eq (.str w) (.str [80])=some (w==[80]):=cmp_eqs _ _;rcases hw with rfl | rfl
  ·have:(([88]:Txt)==[88])=true:=rfl;rw[this] at x1;simp only[EA,EB,EC,ED,EG,EF,EH,ZA,ZB,ZC,ZD,ZE,x1]
  ·have h1:(([80]:Txt)==[88])=false:=rfl;have h2:(([80]:Txt)==[80])=true:=rfl;rw[h1] at x1;rw[h2] at x2;simp only[EA,EB,EC,ED,EG,EF,EH,ZA,ZB,ZC,ZD,ZE,x1,x2]
 ·simp only[EA,EB,EC,ED,EG,EF,EH,ZA,ZB,ZC,ZD,ZE,i1,ts,ba]
theorem wi_noxp {w:Txt}{ps:List (Option Int)}{r:Option RS}(hw:w∈words) (hn:¬ (w=[88]\/w=[80])) (h:EA call N H.length (match F_write_item.body with | .cons _ (.cons _ (.cons _ (.cons _ (.cons _ r))))=>r | _=>.nil) [some (It.nums w ps).toV,some (.str w),none] H=r) :
  EA call N H.length F_write_item.body [some (It.nums w ps).toV,none,none] H=r:=by
 have x1:cmpV .eq (.str w) (.str [88])=some false:=by rw[cmp_eqs,BN.mpr fun h=>hn (.inl h)]
 have x2:cmpV .eq (.str w) (.str [80])=some false:=by rw[cmp_eqs,BN.mpr fun h=>hn (.inr h)]
 exact wi_nums hw (ite_skip (by simp only[EA,EB,EC,ED,EG,EF,EH,ZA,ZB,ZC,ZD,ZE,x1,x2]) h)
theorem s_wi_leaf {n:Nat}{i:It}(h:Leaf i):cF N (n + 2) 21 [i.toV] H=some (.ok (.str (wText [44] i)) H):=by
 have hl:=leaf_len (j:=[44]) h;obtain⟨w,ps,rfl,hw,hn,hp,hc,hf⟩:=leaf_form h;have e:wText [44] (.nums w ps)=w++tail3 JS ps:=by simp only[wText,if_neg hn]
 rw[e] at hl ⊢;rw[LA] at hl;have e20:=s_write_tail (N:=N) (H:=H) (n:=n) (w:=w) hp hf (by omega);rw[callF_succ N (n + 1) 21 _ _ rfl];generalize cF N (n + 1)=call at *;have kt:=c_ttt w;rw[DF (by rcases hc with rfl | rfl | rfl | rfl | rfl | rfl | rfl<;>decide)] at kt;have ln:lenV H (It.nums w ps).toV=some (ps.length + 1):=by simp[It.toV,lenV]
 have k1:cmpV .eq (.int ((ps.length + 1:Nat):Int)) (.int 1)=some false:=by
  rw[cmp_eqi];congr 1;rcases hf with ⟨a,rfl⟩ | ⟨a,b,rfl⟩ | ⟨a,b,c,rfl⟩<;>rfl
 have ba:=b_add_str (H:=H) (x:=w) (y:=tail3 JS ps) (by omega);refine run_ret (H':=H) rfl (st2 (loc:=[some (It.nums w ps).toV,none,none]) rfl (wi_noxp hw hn (ite_skip ?_ (ite_skip (e_cmp (e_len (e_loc rfl) ln) e_int k1) (ss_ret ?_))))) rfl LT
 ·simp only[EA,EB,EC,ED,EG,EF,EH,ZA,ZB,ZC,ZD,ZE,kt]
 ·simp only[EA,EB,EC,ED,EG,EF,EH,ZA,ZB,ZC,ZD,ZE,e20,ba]
theorem s_write {d:Nat}{i:It}(h:Good d i):d<=10->∀ (n:Nat) (H:Hp),2 * d + 3<=n->cF N n 21 [i.toV] H=some (.ok (.str (wText [44] i)) H):=by
 have hj:([44]:Txt).length<=1:=by decide
 induction h with
 | leaf d i h=>intro _ n H hn;obtain⟨n,rfl⟩ : ∃ m,n=m + 2:=⟨n - 2,by omega⟩;exact s_wi_leaf h
 | text d s h1 h2 h3=>
  intro _ n H hn;obtain⟨n,rfl⟩ : ∃ m,n=m + 1:=⟨n - 1,by omega⟩
  rw[callF_succ N n 21 _ _ rfl];generalize cF N n=call;have k1:cmpV .eq (.str [72]) (.str [103,114,111,117,112])=some false:=by rw[cmp_eqs];rfl
  have k2:cmpV .eq (.str [72]) (.str [114,101,112,101,97,116])=some false:=by rw[cmp_eqs];rfl
  have k3:cmpV .eq (.str [72]) (.str [72])=some true:=by rw[cmp_eqs];rfl
  have i1:idxV H (It.text s).toV (.int 1)=some (.str s):=rfl;have hd:=dbl_len s;refine run_ret (H':=H) rfl (st2 (loc:=[some (It.text s).toV,none,none]) rfl (wi_start (ite_skip (by simp only[EA,EB,EC,ED,EG,EF,EH,ZA,ZB,ZC,ZD,ZE,It.word,k1]) (ite_skip (by simp only[EA,EB,EC,ED,EG,EF,EH,ZA,ZB,ZC,ZD,ZE,It.word,k2]) (ite_ret (by simp only[EA,EB,EC,ED,EG,EF,EH,ZA,ZB,ZC,ZD,ZE,It.word,k3]) (ss_ret ?_) (by simp)))))) rfl LT;have rc:s.length<=100000/\([39,39]:Txt).length<=10/\([39,39]:Txt)≠[39]/\(joinT [39,39] (split1 39 s)).length<=capL:=⟨by omega,by decide,by decide,by rw[join_dbl];exact cap_txt (by omega)⟩
  have er:EC call H.length [some (It.text s).toV,some (.str (It.text s).word),none] (.replace (.idx (.loc 0) (.int 1)) 39 [39,39]) H=some (.ok (.str (dbl s)) H):=by
   rw[EC];rw[join_dbl] at rc;have ei:EC call H.length [some (It.text s).toV,some (.str (It.text s).word),none] (.idx (.loc 0) (.int 1)) H=some (.ok (.str s) H):=by simp only[EA,EB,EC,ED,EG,EF,EH,ZA,ZB,ZC,ZD,ZE,i1]
   simp only[ei,EG,join_dbl,if_pos rc]
  have b1:=b_add_str (H:=H) (x:=[39]) (y:=dbl s) (by simp;omega);have b2:=b_add_str (H:=H) (x:=[39]++dbl s) (y:=[39]) (by simp;omega);rw[EB,e_bin (e_bin e_str er b1) e_str b2];simp only[EF,wText,LX,ZI,ZJ]
 | x d k h1 h2=>
  intro _ n H hn;obtain⟨n,rfl⟩ : ∃ m,n=m + 1:=⟨n - 1,by omega⟩
  have e:wText [44] (.nums [88] [nI k])=textOf (k:Int)++[88]:=by simp[wText,tail3,nI]
  rw[e];exact s_wi_xp (.inl rfl) (by omega) (by omega) (by have:=textOf_len (k:=(k:Int)) (by omega) (by omega);omega)
 | p d k h1 h2=>
  intro _ n H hn;obtain⟨n,rfl⟩ : ∃ m,n=m + 1:=⟨n - 1,by omega⟩
  have e:wText [44] (.nums [80] [some k])=textOf k++[80]:=by simp[wText,tail3]
  rw[e];exact s_wi_xp (.inr rfl) (by omega) (by omega) (by have:=textOf_len h1 (by omega:k<=15);omega)
 | t d k w hw h1 h2=>
  intro _ n H hn;obtain⟨n,rfl⟩ : ∃ m,n=m + 1:=⟨n - 1,by omega⟩
  have f1:∀ w∈([[84],[84,76],[84,82]]:List Txt),w∈words/\¬ (w=[88]\/w=[80])/\w.length<=2:=by decide
  obtain⟨g1,g2,g3⟩:=f1 w hw;have e:wText [44] (.nums w [nI k])=w++textOf (k:Int):=by simp only[wText,if_neg g2];simp[tail3,JS,nI]
  rw[e,callF_succ N n 21 _ _ rfl];generalize cF N n=call;have tl:=textOf_len (k:=(k:Int)) (by omega) (by omega);have ts:=toStr_ok (i:=(k:Int)) (by omega) (by omega);have i1:idxV H (It.nums w [nI k]).toV (.int 1)=some (.int k):=rfl;have kt:=c_ttt w;rw[DT hw] at kt;have ba:=b_add_str (H:=H) (x:=w) (y:=textOf (k:Int)) (by omega);refine run_ret (H':=H) rfl (st2 (loc:=[some (It.nums w [nI k]).toV,none,none]) rfl (wi_noxp g1 g2 (ite_ret (by simp only[EA,EB,EC,ED,EG,EF,EH,ZA,ZB,ZC,ZD,ZE,kt]) (ss_ret ?_) (by simp)))) rfl LT;simp only[EA,EB,EC,ED,EG,EF,EH,ZA,ZB,ZC,ZD,ZE,i1,ts,ba]
 | c d w hw=>
  intro _ n H hn;obtain⟨n,rfl⟩ : ∃ m,n=m + 1:=⟨n - 1,by omega⟩
  have f1:∀ w∈([[47],[58],[83],[83,80],[83,83],[66,78],[66,90]]:List Txt),w∈words/\¬ (w=[88]\/w=[80])/\w ∉ ([[84],[84,76],[84,82]]:List Txt):=by decide
  obtain⟨g1,g2,g3⟩:=f1 w hw;have e:wText [44] (.nums w [])=w:=by simp only[wText,if_neg g2];simp[tail3,JS]
  rw[e,callF_succ N n 21 _ _ rfl];generalize cF N n=call;have kt:=c_ttt w;rw[DF g3] at kt;have ln:lenV H (It.nums w []).toV=some 1:=rfl;have k1:cmpV .eq (.int ((1:Nat):Int)) (.int 1)=some true:=by rw[cmp_eqi];rfl
  refine run_ret (H':=H) rfl (st2 (loc:=[some (It.nums w []).toV,none,none]) rfl (wi_noxp g1 g2 (ite_skip (by simp only[EA,EB,EC,ED,EG,EF,EH,ZA,ZB,ZC,ZD,ZE,kt]) (ite_ret (e_cmp (e_len (e_loc rfl) ln) e_int k1) (ss_ret ?_) (by simp))))) rfl LT;simp only[EA,EB,EC,ED,EG,EF,EH,ZA,ZB,ZC,ZD,ZE]
 | rep d k i h1 h2 h=>
  intro _ n H hn;obtain⟨n,rfl⟩ : ∃ m,n=m + 3:=⟨n - 3,by omega⟩
  have e21:=s_wi_leaf (N:=N) (H:=H) (n:=n) h;have hl:=leaf_len (j:=[44]) h;rw[callF_succ N (n + 2) 21 _ _ rfl];generalize cF N (n + 2)=call at *;have i1:idxV H (It.rep (k:Int) i).toV (.int 1)=some (.int k):=rfl;have i2:idxV H (It.rep (k:Int) i).toV (.int 2)=some i.toV:=rfl;have k1:cmpV .eq (.str [114,101,112,101,97,116]) (.str [103,114,111,117,112])=some false:=by rw[cmp_eqs];rfl
  have k2:cmpV .eq (.str [114,101,112,101,97,116]) (.str [114,101,112,101,97,116])=some true:=by rw[cmp_eqs];rfl
  have ts:=toStr_ok (i:=(k:Int)) (by omega) (by omega);have ba:=b_add_str (H:=H) (x:=textOf (k:Int)) (y:=wText [44] i) (by have:=textOf_len (k:=(k:Int)) (by omega) (by omega);omega);refine run_ret (H':=H) rfl (st2 (loc:=[some (It.rep (k:Int) i).toV,none,none]) rfl (wi_start (ite_skip (by simp only[EA,EB,EC,ED,EG,EF,EH,ZA,ZB,ZC,ZD,ZE,It.word,k1]) (ite_ret (by simp only[EA,EB,EC,ED,EG,EF,EH,ZA,ZB,ZC,ZD,ZE,It.word,k2]) (ss_ret ?_) (by simp))))) rfl LT;simp only[EA,EB,EC,ED,EG,EF,EH,ZA,ZB,ZC,ZD,ZE,i1,i2,ts,e21,ba,wText]
 | grp d k l h1 h2 h3 h4 h5 ih=>
  intro hd n H hn;obtain⟨n,rfl⟩ : ∃ m,n=m + 2:=⟨n - 2,by omega⟩
  have hlB:lenB d<=lenB 10:=by
   have:∀ d:Fin 11,lenB d.val<=lenB 10:=by decide +kernel
   exact this ⟨d,by omega⟩
  have h10:lenB 9=7163:=rfl;have hlB9:lenB d<=lenB 9:=by
   have:∀ d:Fin 10,lenB d.val<=lenB 9:=by decide +kernel
   exact this ⟨d,by omega⟩
  have hil:=items_len hj l none h5;have hil2:(wItems [44] none l).length<=2 * (lenB d + 1):=Nat.le_trans hil (Nat.mul_le_mul_right _ h4);have e22:=s_format_of (N:=N) (H:=H) (n:=n) (l:=l) (fun i hi H=>ih i hi (by omega) n H (by omega)) (Nat.le_trans h4 (by decide)) (fun i hi=>by have:=good_len hj (h5 i hi);omega) (by omega);rw[callF_succ N (n + 1) 21 _ _ rfl];generalize cF N (n + 1)=call at *;have i1:idxV H (It.grp (k:Int) l).toV (.int 1)=some (.int k):=rfl;have i2:idxV H (It.grp (k:Int) l).toV (.int 2)=some (.lst (toVs l)):=rfl;have k1:cmpV .eq (.str [103,114,111,117,112]) (.str [103,114,111,117,112])=some true:=by rw[cmp_eqs];rfl
  have k2:cmpV .gt (.int k) (.int 1)=some (decide (1 < k)):=cmp_gt k 1;have ts:=toStr_ok (i:=(k:Int)) (by omega) (by omega);have tl:=textOf_len (k:=(k:Int)) (by omega) (by omega);have hcl:(if (k:Int)=1 then ([]:Txt) else textOf (k:Int)).length<=2:=by split;simp;exact tl
  have hwl:(wWhole [44] l).length<=90000:=by simp only[wWhole,LC,LA,LN];omega
  have ba:=b_add_str (H:=H) (x:=if (k:Int)=1 then ([]:Txt) else textOf (k:Int)) (y:=wWhole [44] l) (by omega);refine run_ret (H':=H) rfl (st2 (loc:=[some (It.grp (k:Int) l).toV,none,none]) rfl (wi_start (ite_ret (by simp only[EA,EB,EC,ED,EG,EF,EH,ZA,ZB,ZC,ZD,ZE,It.word,k1]) ?_ (by simp)))) rfl LT;refine ss_next (l':=[some (It.grp (k:Int) l).toV,some (.str (It.grp (k:Int) l).word),some (.str [])]) (H':=H) (by simp only[EA,EB,EC,ED,EG,EF,EH,ZA,ZB,ZC,ZD,ZE]) ?_;refine ss_next (l':=[some (It.grp (k:Int) l).toV,some (.str (It.grp (k:Int) l).word),some (.str (if (k:Int)=1 then ([]:Txt) else textOf (k:Int)))]) (H':=H) ?_ (ss_ret ?_)
  ·by_cases q : 1 < k
   ·rw[DT q] at k2;rw[if_neg (by omega)];refine ite_next true (by simp only[EA,EB,EC,ED,EG,EF,EH,ZA,ZB,ZC,ZD,ZE,i1,k2]) ?_;rw[if_pos rfl];simp only[EA,EB,EC,ED,EG,EF,EH,ZA,ZB,ZC,ZD,ZE,i1,ts]
   ·rw[DF q] at k2;rw[if_pos (by omega)];refine ite_next false (by simp only[EA,EB,EC,ED,EG,EF,EH,ZA,ZB,ZC,ZD,ZE,i1,k2]) ?_;simp only[BF,if_false];exact ss_nil
  ·have ec:EC call H.length [some (It.grp (k:Int) l).toV,some (.str (It.grp (k:Int) l).word),some (.str (if (k:Int)=1 then ([]:Txt) else textOf (k:Int)))] (.call 22 (.cons (.idx (.loc 0) (.int 2)) .nil)) H=some (.ok (.str (wWhole [44] l)) H):=by
    simp only[EA,EB,EC,ED,EG,EF,EH,ZA,ZB,ZC,ZD,ZE,i2,e22]
   rw[EB,e_bin (e_loc rfl) ec ba];simp only[EF,wText,wWhole]
theorem s_write_format {n d:Nat}{l:List It}(hd:d<=9) (hl:l.length<=5) (h:∀ i∈l,Good d i) (hn : 2 * d + 4<=n):cF N n 22 [.lst (toVs l)] H=some (.ok (.str (wWhole [44] l)) H):=by
 obtain⟨n,rfl⟩ : ∃ m,n=m + 1:=⟨n - 1,by omega⟩
 have hj:([44]:Txt).length<=1:=by decide
 have h10:lenB 9=7163:=rfl;have hlB9:lenB d<=lenB 9:=by
  have:∀ d:Fin 10,lenB d.val<=lenB 9:=by decide +kernel
  exact this ⟨d,by omega⟩
 have hil:=items_len hj l none h;have hil2:(wItems [44] none l).length<=5 * (lenB d + 1):=Nat.le_trans hil (Nat.mul_le_mul_right _ hl);exact s_format_of (fun i hi H=>s_write (h i hi) (by omega) _ _ (by omega)) (by omega) (fun i hi=>by have:=good_len hj (h i hi);omega) (by omega)
end
def pen (L:List Int) (a:Nat) (T:Hp):Hp:=some [.lst (L.map V.int),.int a]::T
def rawv (L:List Int) (a:Nat):Int:=if h:a < L.length then L[a] else 7 * (a:Int) * a + 3
def drawv (L:List Int) (a m:Nat):Nat:=((rawv L a).fmod (m:Int)).toNat
theorem drawv_eq (L:List Int) (a:Nat){m:Nat}(hm : 0 < m):(rawv L a).fmod (m:Int)=(drawv L a m:Nat):=by
 have : 0<=(rawv L a).fmod (m:Int):=Int.fmod_nonneg_of_pos _ (by omega);unfold drawv;omega
theorem drawv_lt (L:List Int) (a:Nat){m:Nat}(hm : 0 < m):drawv L a m < m:=by
 have h1:=drawv_eq L a hm;have h2:=Int.fmod_lt_of_pos (rawv L a) (show (0:Int) < (m:Int) by omega);omega
theorem pen_len (L:List Int) (a:Nat) (T:Hp):(pen L a T).length=T.length + 1:=rfl
theorem pen_take (L:List Int) (a a':Nat) (T X:Hp):(pen L a' (T++X)).take (pen L a T).length=pen L a' T:=by
 simp[pen]
theorem pen_get (L:List Int) (a:Nat) (T:Hp):hget (pen L a T) 0=some [.lst (L.map V.int),.int a]:=rfl
section
variable {N:Nat}{L:List Int}{a:Nat}{T:Hp}
theorem run_ret2 {call:Nat->List V->Hp->Option (Res V)}{fn:Fn}{args:List V}{v:V}{H H' H'':Hp}(h0:args.length=fn.params) (h:EA call N H.length fn.body (args.map some++List.replicate (fn.vars.length - fn.params) none) H=some (.ret v H')) (hp:v.pure=true) (ht:H'.take H.length=H'') :
  runF call N fn args H=some (.ok v H''):=by
 simp only[runF,h0,if_true,h,hp,ht]
theorem i_draw {L:List Int}{H:Hp}{a:Nat}(h:a < L.length):idxV H (.lst (L.map V.int)) (.int a)=some (.int (rawv L a)):=by
 have h0:(0:Int)<=(a:Nat):=by omega
 rw[idxV,getAt,if_pos h0,Int.toNat_natCast,List.getElem?_map,List.getElem?_eq_getElem h];simp[rawv,h]
theorem b_mod {H:Hp}{x:Int}{m:Nat}(hm : 0 < m):binV H .mod (.int x) (.int m)=some (.int (x.fmod (m:Int))):=by
 have:¬ ((m:Nat):Int)=0:=by omega
 simp only[binV,if_neg this]
theorem b_mul {H:Hp}{x y:Int}(hx:x.natAbs < 4611686018427387904) (hy:y.natAbs < 4611686018427387904):binV H .mul (.int x) (.int y)=some (.int (x * y)):=by
 have h1:fitsI x=true:=by simp only[fitsI];exact DT hx
 have h2:fitsI y=true:=by simp only[fitsI];exact DT hy
 simp only[binV,h1,h2,BA,if_true]
theorem s_draw {n m:Nat}(hm : 0 < m) (ha:a<=100000):cF N (n + 1) 23 [.ref 0,.int m] (pen L a T)=some (.ok (.int (drawv L a m)) (pen L (a + 1) T)):=by
 rw[callF_succ N n 23 _ _ rfl];generalize cF N n=call;have i1:∀ b,idxV (pen L b T) (.ref 0) (.int 1)=some (.int b):=fun b=>rfl
 have i0:∀ b,idxV (pen L b T) (.ref 0) (.int 0)=some (.lst (L.map V.int)):=fun b=>rfl
 have hb:((a:Nat):Int) + 1=((a + 1:Nat):Int):=by omega
 refine run_ret2 (H':=pen L (a + 1) T) rfl (st2 (loc:=[some (.ref 0),some (.int m),none]) rfl ?_) rfl (by have:=pen_take L a (a + 1) T [];simpa using this);refine ss_next (l':=[some (.ref 0),some (.int m),some (.int a)]) (H':=pen L a T) (by simp only[EA,EB,EC,ED,EG,EF,EH,ZA,ZB,ZC,ZD,ZE,i1]) ?_;refine ss_next (l':=[some (.ref 0),some (.int m),some (.int a)]) (H':=pen L (a + 1) T) ?_ ?_
 ·have mm:mayMut (pen L a T).length 0 (.int ((a + 1:Nat):Int))=true:=by simp[mayMut,V.pure]
  have sa:setAt [.lst (L.map V.int),.int a] 1 (.int ((a + 1:Nat):Int))=some [.lst (L.map V.int),.int ((a + 1:Nat):Int)]:=rfl;simp only[EA,EB,EC,ED,EG,EF,EH,ZA,ZB,ZC,ZD,ZE,binV,hb,pen_get,mm,if_true,sa];rfl
 have ln:lenV (pen L (a + 1) T) (.lst (L.map V.int))=some L.length:=by simp[lenV,lstOf]
 have k1:cmpV .lt (.int a) (.int L.length)=some (decide (a < L.length)):=cmp_lt _ _;have hc:EC call (pen L a T).length [some (.ref 0),some (.int m),some (.int a)] (.cmp .lt (.loc 2) (.len (.idx (.loc 0) (.int 0)))) (pen L (a + 1) T)=some (.ok (.bool (decide (a < L.length))) (pen L (a + 1) T)):=by
  refine e_cmp (e_loc rfl) (e_len (v:=.lst (L.map V.int)) ?_ ln) k1;simp only[EA,EB,EC,ED,EG,EF,EH,ZA,ZB,ZC,ZD,ZE,i0]
 have dv:=drawv_eq L a hm;by_cases q:a < L.length
 ·rw[DT q] at hc;refine ite_ret hc (ss_ret ?_) (by simp);have id:=i_draw (H:=pen L (a + 1) T) q;have bm:=b_mod (H:=pen L (a + 1) T) (x:=rawv L a) hm;rw[dv] at bm;simp only[EA,EB,EC,ED,EG,EF,EH,ZA,ZB,ZC,ZD,ZE,i0,id,bm]
 ·rw[DF q] at hc;refine ite_skip hc (ss_ret ?_);have hr:rawv L a=7 * (a:Int) * a + 3:=by simp[rawv,q]
  have bm:=b_mod (H:=pen L (a + 1) T) (x:=rawv L a) hm;rw[dv,hr] at bm;have m1:=b_mul (H:=pen L (a + 1) T) (x:=7) (y:=(a:Nat)) (by omega) (by omega);have m2:=b_mul (H:=pen L (a + 1) T) (x:=7 * (a:Nat)) (y:=(a:Nat)) (by omega) (by omega);have m3:binV (pen L (a + 1) T) .add (.int (7 * (a:Nat) * (a:Nat))) (.int 3)=some (.int (7 * (a:Nat) * (a:Nat) + 3)):=rfl;rw[EB,e_bin (e_bin (e_bin (e_bin e_int (e_loc rfl) m1) (e_loc rfl) m2) e_int m3) (e_loc rfl) bm];rfl
def letters:Txt:=[73,70,69,68,71,76,65]
theorem i_str {H:Hp}{s:Txt}{k c:Nat}(h:s[k]?=some c):idxV H (.str s) (.int k)=some (.str [c]):=by
 have h0:(0:Int)<=(k:Nat):=by omega
 rw[idxV,if_pos h0,Int.toNat_natCast,h];rfl
theorem get_in {α : Type}{s:List α}{k:Nat}(h:k < s.length):∃ c,s[k]?=some c/\c∈s:=⟨s[k],List.getElem?_eq_getElem h,List.getElem_mem h⟩
theorem e_pick {call:Nat->List V->Hp->Option (Res V)}{b:Nat}{l:Loc}{s:Txt}{m c:Nat}{x:E}(hc:s[drawv L a m]?=some c) (hx:EC call b l x (pen L a T)=some (.ok (.int (drawv L a m)) (pen L (a + 1) T))) :
  EC call b l (.idx (.str s) x) (pen L a T)=some (.ok (.str [c]) (pen L (a + 1) T)):=by
 rw[EC,e_str];simp only[EG,hx,i_str hc,EH,ZE]
theorem e_draw {call:Nat->List V->Hp->Option (Res V)}{b:Nat}{l:Loc}{m:Nat}{v:V}{H':Hp}(hl:l[0]?=some (some (.ref 0))) (h:call 23 [.ref 0,.int m] (pen L a T)=some (.ok v H')) :
  EC call b l (.call 23 (.cons (.loc 0) (.cons (.int m) .nil))) (pen L a T)=some (.ok v H'):=by
 rw[EC];simp only[ED,e_loc hl,e_int,EG,h]
theorem s_value {n:Nat}(ha:a<=90000):∃ i,Leaf i/\cF N (n + 2) 24 [.ref 0] (pen L a T)=some (.ok i.toV (pen L (a + 4) T)):=by
 have d1:=s_draw (N:=N) (L:=L) (T:=T) (n:=n) (m:=7) (a:=a) (by omega) (by omega);have d2:=s_draw (N:=N) (L:=L) (T:=T) (n:=n) (m:=12) (a:=a + 1) (by omega) (by omega);have d3:=s_draw (N:=N) (L:=L) (T:=T) (n:=n) (m:=9) (a:=a + 1 + 1) (by omega) (by omega);have d4:=s_draw (N:=N) (L:=L) (T:=T) (n:=n) (m:=3) (a:=a + 1 + 1 + 1) (by omega) (by omega);have l1:=drawv_lt L a (m:=7) (by omega);have l2:=drawv_lt L (a + 1) (m:=12) (by omega);have l3:=drawv_lt L (a + 1 + 1) (m:=9) (by omega);have l4:=drawv_lt L (a + 1 + 1 + 1) (m:=3) (by omega);rw[callF_succ N (n + 1) 24 _ _ rfl];generalize cF N (n + 1)=call at *;obtain⟨c,hc,hcm⟩:=get_in (s:=letters) (k:=drawv L a 7) l1;generalize hw:drawv L (a + 1) 12=w' at *;generalize hd:drawv L (a + 1 + 1) 9=d at *;generalize hm:drawv L (a + 1 + 1 + 1) 3=m at *;have e1:((1:Int) + (w':Nat))=((1 + w':Nat):Int):=by omega
 generalize hww : 1 + w'=w at *;have w1 : 1<=w:=by omega
 have w2:w<=12:=by omega
 have start:∀ {r:Option RS},EA call N (pen L a T).length (match F_law_value.body with | .cons _ (.cons _ (.cons _ (.cons _ r)))=>r | _=>.nil) [some (.ref 0),some (.str [c]),some (.int w),some (.int d),some (.int m)] (pen L (a + 4) T)=r->
   EA call N (pen L a T).length F_law_value.body [some (.ref 0),none,none,none,none] (pen L a T)=r:=by
  intro r h;refine ss_next (l':=[some (.ref 0),some (.str [c]),none,none,none]) (H':=pen L (a + 1) T) (by
   have ex:EC call (pen L a T).length [some (.ref 0),none,none,none,none] (.idx (.str [73,70,69,68,71,76,65]) (.call 23 (.cons (.loc 0) (.cons (.int 7) .nil)))) (pen L a T)=some (.ok (.str [c]) (pen L (a + 1) T)):=e_pick (s:=letters) hc (e_draw (m:=7) rfl d1);rw[EB,ex];rfl) ?_
  refine ss_next (l':=[some (.ref 0),some (.str [c]),some (.int w),none,none]) (H':=pen L (a + 1 + 1) T) ?_ ?_
  ·have ex:=e_draw (call:=call) (b:=(pen L a T).length) (l:=[some (.ref 0),some (.str [c]),none,none,none]) (m:=12) rfl d2;have:EC call (pen L a T).length [some (.ref 0),some (.str [c]),none,none,none] (.bin .add (.int 1) (.call 23 (.cons (.loc 0) (.cons (.int 12) .nil)))) (pen L (a + 1) T)=some (.ok (.int w) (pen L (a + 1 + 1) T)):=by
    rw[EC,e_int];have ex':EC call (pen L a T).length [some (.ref 0),some (.str [c]),none,none,none] (.call 23 (.cons (.loc 0) (.cons (.int 12) .nil))) (pen L (a + 1) T)=some (.ok (.int w') (pen L (a + 1 + 1) T)):=ex;simp only[EG,ex',binV,EH,ZE,e1]
   rw[EB,this];rfl
  refine ss_next (l':=[some (.ref 0),some (.str [c]),some (.int w),some (.int d),none]) (H':=pen L (a + 1 + 1 + 1) T) ?_ ?_
  ·have ex:EC call (pen L a T).length [some (.ref 0),some (.str [c]),some (.int w),none,none] (.call 23 (.cons (.loc 0) (.cons (.int 9) .nil))) (pen L (a + 1 + 1) T)=some (.ok (.int d) (pen L (a + 1 + 1 + 1) T)):=e_draw rfl d3;rw[EB,ex];rfl
  refine ss_next (l':=[some (.ref 0),some (.str [c]),some (.int w),some (.int d),some (.int m)]) (H':=pen L (a + 4) T) ?_ h
  ·have ex:EC call (pen L a T).length [some (.ref 0),some (.str [c]),some (.int w),some (.int d),none] (.call 23 (.cons (.loc 0) (.cons (.int 3) .nil))) (pen L (a + 1 + 1 + 1) T)=some (.ok (.int m) (pen L (a + 4) T)):=e_draw rfl d4;rw[EB,ex];rfl
 have tk:(pen L (a + 4) T).take (pen L a T).length=pen L (a + 4) T:=by have:=pen_take L a (a + 4) T [];simpa using this
 have fin:∀ i:It,EA call N (pen L a T).length F_law_value.body [some (.ref 0),none,none,none,none] (pen L a T)=some (.ret i.toV (pen L (a + 4) T))->runF call N F_law_value [.ref 0] (pen L a T)=some (.ok i.toV (pen L (a + 4) T)):=
  fun i h=>run_ret2 rfl (st2 (loc:=[some (.ref 0),none,none,none,none]) rfl h) (It.pure i) tk
 have k73:cmpV .eq (.str [c]) (.str [73])=some (c==73):=by rw[cmp_eqs,beq1]
 have k76:cmpV .eq (.str [c]) (.str [76])=some (c==76):=by rw[cmp_eqs,beq1]
 have k65:cmpV .eq (.str [c]) (.str [65])=some (c==65):=by rw[cmp_eqs,beq1]
 have kfd:cmpV .isIn (.str [c]) (.str [70,68])=some (decide (c=70\/c=68)):=by
  rw[cmp_isin];congr 1;rw[Bool.eq_iff_iff];simp[isSub,isPre]
 have km:cmpV .eq (.int m) (.int 0)=some (decide (m=0)):=by
  rw[cmp_eqi];congr 1;rw[Bool.eq_iff_iff];simp
 by_cases q1:c=73
 ·subst q1;have z:((73:Nat)==73)=true:=rfl;rw[z] at k73;by_cases q2:m=0
  ·rw[DT q2] at km;refine⟨.nums [73] [nI w,none],.i0 w w1 w2,fin _ (start (ite_ret (by simp only[EA,EB,EC,ED,EG,EF,EH,ZA,ZB,ZC,ZD,ZE,k73]) (ss_ret ?_) (by simp)))⟩;simp only[EA,EB,EC,ED,EG,EF,EH,ZA,ZB,ZC,ZD,ZE,km,LC,LN,cp3,if_true];rfl
  ·rw[DF q2] at km;have bm:=b_mod (H:=pen L (a + 4) T) (x:=(d:Nat)) (m:=w + 1) (by omega);have hfm:((d:Nat):Int).fmod ((w + 1:Nat):Int)=((d % (w + 1):Nat):Int):=by
    rw[Int.fmod_eq_emod_of_nonneg _ (by omega)];rfl
   rw[hfm] at bm;have hle:d % (w + 1)<=w:=by have:=Nat.mod_lt d (show 0 < w + 1 by omega);omega
   refine⟨.nums [73] [nI w,nI (d % (w + 1))],.i1 w _ w1 w2 hle,fin _ (start (ite_ret (by simp only[EA,EB,EC,ED,EG,EF,EH,ZA,ZB,ZC,ZD,ZE,k73]) (ss_ret ?_) (by simp)))⟩;have ba:binV (pen L (a + 4) T) .add (.int w) (.int 1)=some (.int ((w + 1:Nat):Int)):=rfl;simp only[EA,EB,EC,ED,EG,EF,EH,ZA,ZB,ZC,ZD,ZE,km,ba,bm,LC,LN,cp3,if_true];rfl
 rw[BN.mpr q1] at k73;by_cases q2:c=76
 ·subst q2;have z:((76:Nat)==76)=true:=rfl;rw[z] at k76;refine⟨.nums [76] [nI w],.l w w1 w2,fin _ (start (ite_skip (by simp only[EA,EB,EC,ED,EG,EF,EH,ZA,ZB,ZC,ZD,ZE,k73]) (ite_ret (by simp only[EA,EB,EC,ED,EG,EF,EH,ZA,ZB,ZC,ZD,ZE,k76]) (ss_ret ?_) (by simp))))⟩;simp only[EA,EB,EC,ED,EG,EF,EH,ZA,ZB,ZC,ZD,ZE,LC,LN,cp2,if_true];rfl
 rw[BN.mpr q2] at k76;by_cases q3:c=65
 ·subst q3;have z:((65:Nat)==65)=true:=rfl;rw[z] at k65;by_cases q4:m=0
  ·rw[DT q4] at km;refine⟨.nums [65] [none],.a0,fin _ (start (ite_skip (by simp only[EA,EB,EC,ED,EG,EF,EH,ZA,ZB,ZC,ZD,ZE,k73]) (ite_skip (by simp only[EA,EB,EC,ED,EG,EF,EH,ZA,ZB,ZC,ZD,ZE,k76]) (ite_ret (by simp only[EA,EB,EC,ED,EG,EF,EH,ZA,ZB,ZC,ZD,ZE,k65]) (ss_ret ?_) (by simp)))))⟩;simp only[EA,EB,EC,ED,EG,EF,EH,ZA,ZB,ZC,ZD,ZE,km,LC,LN,cp2,if_true];rfl
  ·rw[DF q4] at km;refine⟨.nums [65] [nI w],.a1 w w1 w2,fin _ (start (ite_skip (by simp only[EA,EB,EC,ED,EG,EF,EH,ZA,ZB,ZC,ZD,ZE,k73]) (ite_skip (by simp only[EA,EB,EC,ED,EG,EF,EH,ZA,ZB,ZC,ZD,ZE,k76]) (ite_ret (by simp only[EA,EB,EC,ED,EG,EF,EH,ZA,ZB,ZC,ZD,ZE,k65]) (ss_ret ?_) (by simp)))))⟩;simp only[EA,EB,EC,ED,EG,EF,EH,ZA,ZB,ZC,ZD,ZE,km,LC,LN,cp2,if_true];rfl
 rw[BN.mpr q3] at k65;by_cases q4:c=70\/c=68
 ·rw[DT q4] at kfd;refine⟨.nums [c] [nI w,nI d],.fd c w d q4 w1 w2 (by omega),fin _ (start (ite_skip (by simp only[EA,EB,EC,ED,EG,EF,EH,ZA,ZB,ZC,ZD,ZE,k73]) (ite_skip (by simp only[EA,EB,EC,ED,EG,EF,EH,ZA,ZB,ZC,ZD,ZE,k76]) (ite_skip (by simp only[EA,EB,EC,ED,EG,EF,EH,ZA,ZB,ZC,ZD,ZE,k65]) (ite_ret (by simp only[EA,EB,EC,ED,EG,EF,EH,ZA,ZB,ZC,ZD,ZE,kfd]) (ss_ret ?_) (by simp))))))⟩;simp only[EA,EB,EC,ED,EG,EF,EH,ZA,ZB,ZC,ZD,ZE,LC,LN,cp3,if_true];rfl
 rw[DF q4] at kfd;have q5:c=69\/c=71:=by
  simp[letters] at hcm;omega
 by_cases q6:m=0
 ·rw[DT q6] at km;refine⟨.nums [c] [nI w,nI d,none],.e0 c w d q5 w1 w2 (by omega),fin _ (start (ite_skip (by simp only[EA,EB,EC,ED,EG,EF,EH,ZA,ZB,ZC,ZD,ZE,k73]) (ite_skip (by simp only[EA,EB,EC,ED,EG,EF,EH,ZA,ZB,ZC,ZD,ZE,k76]) (ite_skip (by simp only[EA,EB,EC,ED,EG,EF,EH,ZA,ZB,ZC,ZD,ZE,k65]) (ite_skip (by simp only[EA,EB,EC,ED,EG,EF,EH,ZA,ZB,ZC,ZD,ZE,kfd]) (ss_ret ?_))))))⟩;simp only[EA,EB,EC,ED,EG,EF,EH,ZA,ZB,ZC,ZD,ZE,km,LC,LN,cp4,if_true];rfl
 ·rw[DF q6] at km;refine⟨.nums [c] [nI w,nI d,nI m],.e1 c w d m q5 w1 w2 (by omega) (by omega) (by omega),fin _ (start (ite_skip (by simp only[EA,EB,EC,ED,EG,EF,EH,ZA,ZB,ZC,ZD,ZE,k73]) (ite_skip (by simp only[EA,EB,EC,ED,EG,EF,EH,ZA,ZB,ZC,ZD,ZE,k76]) (ite_skip (by simp only[EA,EB,EC,ED,EG,EF,EH,ZA,ZB,ZC,ZD,ZE,k65]) (ite_skip (by simp only[EA,EB,EC,ED,EG,EF,EH,ZA,ZB,ZC,ZD,ZE,kfd]) (ss_ret ?_))))))⟩;simp only[EA,EB,EC,ED,EG,EF,EH,ZA,ZB,ZC,ZD,ZE,km,LC,LN,cp4,if_true];rfl
end
theorem unmap {α : Type}{Q : α->Prop}{f : α->V}:∀ vs:List V,(∀ v∈vs,∃ i,Q i/\v=f i)->∃ l:List α,vs=l.map f/\∀ i∈l,Q i
 | [],_=>⟨[],rfl,by simp⟩
 | v::vs,h=>by
  obtain⟨l,h1,h2⟩:=unmap vs (fun v hv=>h v (MC _ hv));obtain⟨i,hi,rfl⟩:=h v (MS ..);refine⟨i::l,by rw[h1];rfl,?_⟩;intro j hj;rcases MI.mp hj with rfl | hj
  ·exact hi
  ·exact h2 j hj
section
variable {N:Nat}{L:List Int}
theorem pen_set (a:Nat) (T:Hp) (x y:Option (List V)):(pen L a (T++[x])).set (T.length + 1) y=pen L a (T++[y]):=by
 simp[pen]
theorem pen_hg (a:Nat) (T:Hp) (x:List V):hget (pen L a (T++[some x])) (T.length + 1)=some x:=by
 simp[pen,hget]
theorem pures_all {vs:List V}(h:∀ v∈vs,v.pure=true):V.pures vs=true:=by
 induction vs with
 | nil=>rfl
 | cons v vs ih=>simp only[V.pures,h v (MS ..),ih (fun v hv=>h v (MC _ hv)),BA]
theorem iter_pen {ev:Nat->Hp->Option (Res V)}{P:V->Prop}{K:Nat}(hp:∀ v,P v->v.pure=true) (hs:∀ i a T',a + K<=90000->∃ v a',P v/\a'<=a + K/\ev i (pen L a T')=some (.ok v (pen L a' T'))) :
  ∀ (n i a:Nat) (T:Hp) (acc:List V),a + n * K<=90000->acc.length + n<=1000->∃ vs a',vs.length=n/\(∀ v∈vs,P v)/\a'<=a + n * K/\iterC ev (T.length + 1) n i (pen L a (T++[some acc]))=some (pen L a' (T++[some (acc++vs)]))
 | 0,i,a,T,acc,ha,hl=>⟨[],a,rfl,by simp,by omega,by simp[iterC]⟩
 | n + 1,i,a,T,acc,ha,hl=>by
  rw[Nat.add_mul,Nat.one_mul] at ha;obtain⟨v,a1,hv,h1,h2⟩:=hs i a (T++[some acc]) (by omega);obtain⟨vs,a',g1,g2,g3,g4⟩:=iter_pen hp hs n (i + 1) a1 T (acc++[v]) (by omega) (by simp only[LA,LC,LN];omega);refine⟨v::vs,a',by simp[g1],?_,by rw[Nat.add_mul,Nat.one_mul];omega,?_⟩
  ·intro x hx;rcases MI.mp hx with rfl | hx
   ·exact hv
   ·exact g2 x hx
  ·have hc:acc.length < capL:=by have:capL=1048576:=rfl;omega
   rw[iterC,h2];simp only[hp v hv,if_true,pen_hg,if_pos hc,pen_set];rw[g4];simp
theorem e_comp {call:Nat->List V->Hp->Option (Res V)}{b:Nat}{l:Loc}{e n:E}{x:Nat}{P:V->Prop}{K a a1 m:Nat}{T:Hp}(hp:∀ v,P v->v.pure=true) (hn:EC call b l n (pen L a T)=some (.ok (.int m) (pen L a1 T))) (hm:m<=900) (ha:a1 + m * K<=90000)
  (hs:∀ (i a:Nat) T',a + K<=90000->∃ v a',P v/\a'<=a + K/\EC call b (l.set x (some (.int i))) e (pen L a T')=some (.ok v (pen L a' T'))) :
  ∃ vs a',vs.length=m/\(∀ v∈vs,P v)/\a'<=a1 + m * K/\EC call b l (.comp e x n) (pen L a T)=some (.ok (.lst vs) (pen L a' (T++[none]))):=by
 obtain⟨vs,a',g1,g2,g3,g4⟩:=iter_pen (L:=L) (ev:=fun i H=>EC call b (l.set x (some (.int i))) e H) hp hs m 0 a1 T [] ha (by simp only[LN];omega);refine⟨vs,a',g1,g2,g3,?_⟩;have hk:(0:Int)<=(m:Nat)/\((m:Nat):Int)<=capL:=by have:(capL:Int)=1048576:=rfl;omega
 have hpu:=pures_all fun v hv=>hp v (g2 v hv)
 have hap:pen L a1 T++[some []]=pen L a1 (T++[some []]):=rfl;rw[EC,hn];simp only[EG,if_pos hk,Int.toNat_natCast,pen_len,hap,g4,ZJ,pen_hg,hpu,if_true,pen_set]
def bud:Nat->Nat
 | 0=>6
 | d + 1=>2 * bud d + 3
theorem bud_ge:∀ d:Nat,6<=bud d
 | 0=>Nat.le_refl _
 | d + 1=>by have:=bud_ge d;simp only[bud];omega
theorem joinT_chars:∀ cs:Txt,joinT [] (cs.map fun c=>[c])=cs
 | []=>rfl
 | [c]=>rfl
 | c::d::cs=>by
  have ih:=joinT_chars (d::cs);simp only[ZG] at ih ⊢;simp only[joinT,ih];rfl
theorem textsOf_chars:∀ cs:Txt,textsOf (cs.map fun c=>V.str [c])=some (cs.map fun c=>[c])
 | []=>rfl
 | c::cs=>by simp[textsOf,textsOf_chars cs]
def litemSpec (N:Nat) (L:List Int) (d:Nat):Prop:=∀ (n a:Nat) (T:Hp),d + 3<=n->a + bud d<=90000->∃ i a',Good d i/\a'<=a + bud d/\cF N n 25 [.ref 0,.int d] (pen L a T)=some (.ok i.toV (pen L a' T))
theorem litem_step (d:Nat) (ih:∀ d',d=d' + 1->litemSpec N L d'):litemSpec N L d:=by
 intro n a T hn hb;have hbg:=bud_ge d;obtain⟨n,rfl⟩ : ∃ m,n=m + 3:=⟨n - 3,by omega⟩
 obtain⟨W,hW1,hW2⟩ : ∃ W,0 < W/\W=(if 0 < d then 12 else 11):=⟨if 0 < d then 12 else 11,by split<;>omega,rfl⟩
 have d1:=s_draw (N:=N) (L:=L) (T:=T) (n:=n + 1) (m:=W) (a:=a) hW1 (by omega);have d2:=s_draw (N:=N) (L:=L) (T:=T) (n:=n + 1) (m:=14) (a:=a + 1) (by omega) (by omega);have l1:=drawv_lt L a hW1;have l2:=drawv_lt L (a + 1) (m:=14) (by omega);have dd:=fun (m a:Nat) (T:Hp) (hm : 0 < m) (ha:a<=100000)=>s_draw (N:=N) (L:=L) (T:=T) (n:=n + 1) (m:=m) (a:=a) hm ha
 have hv:=fun (a:Nat) (T:Hp) (ha:a<=90000)=>s_value (N:=N) (L:=L) (T:=T) (n:=n) (a:=a) ha
 have hg:∀ d' a T,d=d' + 1->a + bud d'<=90000->∃ i a',Good d' i/\a'<=a + bud d'/\cF N (n + 2) 25 [.ref 0,.int d'] (pen L a T)=some (.ok i.toV (pen L a' T)):=fun d' a T h ha=>ih d' h (n + 2) a T (by omega) ha
 rw[callF_succ N (n + 2) 25 _ _ rfl];generalize cF N (n + 2)=call at *;have kd:cmpV .gt (.int d) (.int 0)=some (decide (0 < d)):=cmp_gt d 0;have e1:EC call (pen L a T).length [some (.ref 0),some (.int d),none,none,none] (.call 23 (.cons (.loc 0) (.cons (.ife (.cmp .gt (.loc 1) (.int 0)) (.int 12) (.int 11)) .nil))) (pen L a T)=some (.ok (.int (drawv L a W)) (pen L (a + 1) T)):=by
  have ei:EC call (pen L a T).length [some (.ref 0),some (.int d),none,none,none] (.ife (.cmp .gt (.loc 1) (.int 0)) (.int 12) (.int 11)) (pen L a T)=some (.ok (.int W) (pen L a T)):=by
   refine e_ife (e_cmp (e_loc rfl) e_int kd) ?_;rw[hW2];by_cases q : 0 < d
   ·rw[DT q,if_pos rfl,if_pos q];exact e_int
   ·rw[DF q,if_neg q];simp only[BF,if_false];exact e_int
  rw[EC];simp only[ED,e_loc (l:=[some (.ref 0),some (.int d),none,none,none]) (x:=0) (v:=.ref 0) rfl,ei,EG,d1]
 generalize drawv L a W=w at *;generalize drawv L (a + 1) 14=c' at *;have ec:((1:Int) + (c':Nat))=((1 + c':Nat):Int):=by omega
 generalize hcc : 1 + c'=c at *;have c1 : 1<=c:=by omega
 have c2:c<=14:=by omega
 have e2:EC call (pen L a T).length [some (.ref 0),some (.int d),some (.int w),none,none] (.bin .add (.int 1) (.call 23 (.cons (.loc 0) (.cons (.int 14) .nil)))) (pen L (a + 1) T)=some (.ok (.int c) (pen L (a + 2) T)):=by
  have ex:EC call (pen L a T).length [some (.ref 0),some (.int d),some (.int w),none,none] (.call 23 (.cons (.loc 0) (.cons (.int 14) .nil))) (pen L (a + 1) T)=some (.ok (.int c') (pen L (a + 2) T)):=e_draw (m:=14) rfl d2;rw[EC,e_int];simp only[EG,ex,binV,EH,ZE,ec]
 have start:∀ {r:Option RS},EA call N (pen L a T).length (match F_law_item.body with | .cons _ (.cons _ r)=>r | _=>.nil) [some (.ref 0),some (.int d),some (.int w),some (.int c),none] (pen L (a + 2) T)=r->
   EA call N (pen L a T).length F_law_item.body [some (.ref 0),some (.int d),none,none,none] (pen L a T)=r:=by
  intro r h;refine ss_next (l':=[some (.ref 0),some (.int d),some (.int w),none,none]) (H':=pen L (a + 1) T) (by rw[EB,e1];rfl) ?_;exact ss_next (l':=[some (.ref 0),some (.int d),some (.int w),some (.int c),none]) (H':=pen L (a + 2) T) (by rw[EB,e2];rfl) h
 have fin:∀ (i:It) (a':Nat) (X:Hp),EA call N (pen L a T).length F_law_item.body [some (.ref 0),some (.int d),none,none,none] (pen L a T)=some (.ret i.toV (pen L a' (T++X)))->runF call N F_law_item [.ref 0,.int d] (pen L a T)=some (.ok i.toV (pen L a' T)):=
  fun i a' X h=>run_ret2 rfl (st2 (loc:=[some (.ref 0),some (.int d),none,none,none]) rfl h) (It.pure i) (pen_take L a a' T X)
 have fin0:∀ (i:It) (a':Nat),EA call N (pen L a T).length F_law_item.body [some (.ref 0),some (.int d),none,none,none] (pen L a T)=some (.ret i.toV (pen L a' T))->runF call N F_law_item [.ref 0,.int d] (pen L a T)=some (.ok i.toV (pen L a' T)):=
  fun i a' h=>fin i a' [] (by rw[List.append_nil];exact h)
 have k3:cmpV .lt (.int w) (.int 3)=some (decide (w < 3)):=cmp_lt w 3;have k5:cmpV .lt (.int w) (.int 5)=some (decide (w < 5)):=cmp_lt w 5;have keq:∀ m:Nat,cmpV .eq (.int w) (.int m)=some (decide (w=m)):=by
  intro m;rw[cmp_eqi];congr 1;rw[Bool.eq_iff_iff];simp only[beq_iff_eq,decide_eq_true_eq];omega
 have q5:cmpV .eq (.int w) (.int 5)=some (decide (w=5)):=keq 5;have q6:cmpV .eq (.int w) (.int 6)=some (decide (w=6)):=keq 6;have q7:cmpV .eq (.int w) (.int 7)=some (decide (w=7)):=keq 7;have q8:cmpV .eq (.int w) (.int 8)=some (decide (w=8)):=keq 8;have q9:cmpV .eq (.int w) (.int 9)=some (decide (w=9)):=keq 9;have q10:cmpV .eq (.int w) (.int 10)=some (decide (w=10)):=keq 10;clear keq;have hlen:(pen L a T).length=T.length + 1:=rfl;by_cases p3:w < 3
 ·obtain⟨i,hi,hc⟩:=hv (a + 2) T (by omega);rw[DT p3] at k3;refine⟨i,a + 2 + 4,.leaf d i hi,by omega,fin0 i _ (start (ite_ret (e_cmp (e_loc rfl) e_int k3) (ss_ret ?_) (by simp)))⟩;simp only[EA,EB,EC,ED,EG,EF,EH,ZA,ZB,ZC,ZD,ZE,hc]
 rw[DF p3] at k3;have s3:∀ {r:Option RS},EA call N (pen L a T).length (match F_law_item.body with | .cons _ (.cons _ (.cons _ r))=>r | _=>.nil) [some (.ref 0),some (.int d),some (.int w),some (.int c),none] (pen L (a + 2) T)=r->
   EA call N (pen L a T).length F_law_item.body [some (.ref 0),some (.int d),none,none,none] (pen L a T)=r:=
  fun h=>start (ite_skip (e_cmp (e_loc rfl) e_int k3) h)
 by_cases p5:w < 5
 ·obtain⟨i,hi,hc⟩:=hv (a + 2) T (by omega);rw[DT p5] at k5;refine⟨.rep ((1 + c:Nat):Int) i,a + 2 + 4,.rep d (1 + c) i (by omega) (by omega) hi,by omega,fin0 _ _ (s3 (ite_ret (e_cmp (e_loc rfl) e_int k5) (ss_ret ?_) (by simp)))⟩;have ba:binV (pen L (a + 2) T) .add (.int 1) (.int c)=some (.int ((1 + c:Nat):Int)):=by
   show some (V.int (1 + (c:Int)))=_;rw[show (1:Int) + (c:Nat)=((1 + c:Nat):Int) by omega]
  simp only[EA,EB,EC,ED,EG,EF,EH,ZA,ZB,ZC,ZD,ZE,ba,hc,LC,LN,cp3,if_true,It.toV]
 rw[DF p5] at k5;have s5:∀ {r:Option RS},EA call N (pen L a T).length (match F_law_item.body with | .cons _ (.cons _ (.cons _ (.cons _ r)))=>r | _=>.nil) [some (.ref 0),some (.int d),some (.int w),some (.int c),none] (pen L (a + 2) T)=r->
   EA call N (pen L a T).length F_law_item.body [some (.ref 0),some (.int d),none,none,none] (pen L a T)=r:=
  fun h=>s3 (ite_skip (e_cmp (e_loc rfl) e_int k5) h)
 by_cases p6:w=5
 ·rw[DT p6] at q5;have bm:=b_mod (H:=pen L (a + 2) T) (x:=(c:Nat)) (m:=3) (by omega);have hfm:((c:Nat):Int).fmod ((3:Nat):Int)=((c % 3:Nat):Int):=by
   rw[Int.fmod_eq_emod_of_nonneg _ (by omega)];rfl
  rw[hfm] at bm;have hlt:=Nat.mod_lt c (show 0 < 3 by omega);have en:EC call (pen L a T).length [some (.ref 0),some (.int d),some (.int w),some (.int c),none] (.bin .add (.int 1) (.bin .mod (.loc 3) (.int 3))) (pen L (a + 2) T)=some (.ok (.int ((1 + c % 3:Nat):Int)) (pen L (a + 2) T)):=by
   have ba:binV (pen L (a + 2) T) .add (.int 1) (.int ((c % 3:Nat):Int))=some (.int ((1 + c % 3:Nat):Int)):=by
    show some (V.int (1 + ((c % 3:Nat):Int)))=_;rw[show (1:Int) + ((c % 3:Nat):Int)=((1 + c % 3:Nat):Int) by omega]
   exact e_bin e_int (e_bin (e_loc rfl) e_int bm) ba
  obtain⟨vs,a',g1,g2,g3,g4⟩:=e_comp (L:=L) (call:=call) (b:=(pen L a T).length) (e:=.idx (.str [65,39,53,32,44,72,41]) (.call 23 (.cons (.loc 0) (.cons (.int 7) .nil)))) (x:=4) (K:=1) (P:=fun v=>∃ ch,ch∈hAlph/\v=V.str [ch]) (fun v hv=>by obtain⟨ch,_,rfl⟩:=hv;rfl) en (by omega) (by omega) (by
   intro i a2 T' ha2;have l7:=drawv_lt L a2 (m:=7) (by omega);obtain⟨ch,hch,hm⟩:=get_in (s:=hAlph) (k:=drawv L a2 7) l7;have d7:=dd 7 a2 T' (by omega) (by omega);exact⟨.str [ch],a2 + 1,⟨ch,hm,rfl⟩,by omega,e_pick (s:=hAlph) hch (e_draw (m:=7) rfl d7)⟩)
  obtain⟨cs,h1,h2⟩:=unmap (f:=fun ch=>V.str [ch]) (Q:=fun ch=>ch∈hAlph) vs g2;subst h1;have hcl:cs.length=1 + c % 3:=by simpa using g1
  have jc:([]:Txt).length<=1000/\(cs.map fun c=>[c]).length<=1000/\(∀ w∈(cs.map fun c=>[c]:List Txt),w.length<=10000)/\(joinT [] (cs.map fun c=>[c])).length<=capL:=
   ⟨by decide,by rw[List.length_map];omega,fun w hw=>by obtain⟨x,_,rfl⟩:=List.mem_map.mp hw;simp,by rw[joinT_chars];exact cap_txt (by omega)⟩
  refine⟨.text cs,a',.text d cs (by intro h;rw[h] at hcl;simp at hcl;omega) (by omega) h2,by omega,fin _ _ [none] (s5 (ite_ret (e_cmp (e_loc rfl) e_int q5) (ss_ret ?_) (by simp)))⟩;have ej:EC call (pen L a T).length [some (.ref 0),some (.int d),some (.int w),some (.int c),none] (.join (.str []) (.comp (.idx (.str [65,39,53,32,44,72,41]) (.call 23 (.cons (.loc 0) (.cons (.int 7) .nil)))) 4 (.bin .add (.int 1) (.bin .mod (.loc 3) (.int 3))))) (pen L (a + 2) T)=some (.ok (.str cs) (pen L a' (T++[none]))):=by
   rw[joinT_chars] at jc;rw[EC,e_str];simp only[EG,g4,lstOf,Option.bind,textsOf_chars,joinT_chars,if_pos jc]
  have two:(0 + 1 + 1)<=capL:=cp2;rw[EB,EC];simp only[ED,e_str,ej,EG,EF,LC,LN,two,if_true,It.toV]
 rw[DF p6] at q5;have s6:∀ {r:Option RS},EA call N (pen L a T).length (match F_law_item.body with | .cons _ (.cons _ (.cons _ (.cons _ (.cons _ r))))=>r | _=>.nil) [some (.ref 0),some (.int d),some (.int w),some (.int c),none] (pen L (a + 2) T)=r->
   EA call N (pen L a T).length F_law_item.body [some (.ref 0),some (.int d),none,none,none] (pen L a T)=r:=
  fun h=>s5 (ite_skip (e_cmp (e_loc rfl) e_int q5) h)
 by_cases p7:w=6
 ·rw[DT p7] at q6;refine⟨.nums [88] [nI c],a + 2,.x d c c1 c2,by omega,fin0 _ _ (s6 (ite_ret (e_cmp (e_loc rfl) e_int q6) (ss_ret ?_) (by simp)))⟩;simp only[EA,EB,EC,ED,EG,EF,EH,ZA,ZB,ZC,ZD,ZE,LC,LN,cp2,if_true];rfl
 rw[DF p7] at q6;have s7:∀ {r:Option RS},EA call N (pen L a T).length (match F_law_item.body with | .cons _ (.cons _ (.cons _ (.cons _ (.cons _ (.cons _ r)))))=>r | _=>.nil) [some (.ref 0),some (.int d),some (.int w),some (.int c),none] (pen L (a + 2) T)=r->
   EA call N (pen L a T).length F_law_item.body [some (.ref 0),some (.int d),none,none,none] (pen L a T)=r:=
  fun h=>s6 (ite_skip (e_cmp (e_loc rfl) e_int q6) h)
 have pickL:∀ (ws:List Txt) (ex:E) (es:Es) (k:Nat) (A A':Nat) (wd:Txt),ED call (pen L a T).length [some (.ref 0),some (.int d),some (.int w),some (.int c),none] es (pen L A T)=some (.ok (ws.map V.str) (pen L A T))->ws.length<=10->ws[k]?=some wd->
   EC call (pen L a T).length [some (.ref 0),some (.int d),some (.int w),some (.int c),none] ex (pen L A T)=some (.ok (.int k) (pen L A' T))->
   EC call (pen L a T).length [some (.ref 0),some (.int d),some (.int w),some (.int c),none] (.idx (.lstF es) ex) (pen L A T)=some (.ok (.str wd) (pen L A' T)):=by
  intro ws ex es k A A' wd hes hl hk hex;have hp:(V.pures (ws.map V.str)&&decide ((ws.map V.str).length<=capL))=true:=by
   rw[pures_all (fun v hv=>by obtain⟨x,_,rfl⟩:=List.mem_map.mp hv;rfl),DT (by rw[List.length_map];exact cap3 hl)];rfl
  have hi:idxV (pen L A' T) (.lst (ws.map V.str)) (.int k)=some (.str wd):=by
   have h0:(0:Int)<=(k:Nat):=by omega
   rw[idxV,getAt,if_pos h0,Int.toNat_natCast,List.getElem?_map,hk];rfl
  have el:EC call (pen L a T).length [some (.ref 0),some (.int d),some (.int w),some (.int c),none] (.lstF es) (pen L A T)=some (.ok (.lst (ws.map V.str)) (pen L A T)):=by
   rw[EC,hes];simp only[EG];exact if_pos hp
  rw[EC,el];simp only[EG,hex,hi,EH,ZE]
 by_cases p8:w=7
 ·rw[DT p8] at q7;have l3:=drawv_lt L (a + 2) (m:=3) (by omega);obtain⟨wd,hwd,hwm⟩:=get_in (s:=([[84],[84,76],[84,82]]:List Txt)) (k:=drawv L (a + 2) 3) l3;have ep:=pickL [[84],[84,76],[84,82]] _ (.cons (.str [84]) (.cons (.str [84,76]) (.cons (.str [84,82]) .nil))) (drawv L (a + 2) 3) (a + 2) (a + 2 + 1) wd (by simp only[ED,EC,EG,ZG,ZH]) (by decide) hwd (e_draw (m:=3) rfl (dd 3 (a + 2) T (by omega) (by omega)));have ep':EC call (pen L a T).length [some (.ref 0),some (.int d),some (.int w),some (.int c),none] (.idx (.lstF (.cons (.str [84]) (.cons (.str [84,76]) (.cons (.str [84,82]) .nil)))) (.call 23 (.cons (.loc 0) (.cons (.int 3) .nil)))) (pen L (a + 2) T)=some (.ok (.str wd) (pen L (a + 2 + 1) T)):=ep;refine⟨.nums wd [nI c],a + 2 + 1,.t d c wd hwm c1 c2,by omega,fin0 _ _ (s7 (ite_ret (e_cmp (e_loc rfl) e_int q7) (ss_ret ?_) (by simp)))⟩;have el3:∀ HX,EC call (pen L a T).length [some (.ref 0),some (.int d),some (.int w),some (.int c),none] (.loc 3) HX=some (.ok (.int c) HX):=fun HX=>e_loc rfl
  have two:(0 + 1 + 1)<=capL:=cp2;rw[EB,EC];simp only[ED,ep',el3,EG,EF,LC,LN,two,if_true];rfl
 rw[DF p8] at q7;have s8:∀ {r:Option RS},EA call N (pen L a T).length (match F_law_item.body with | .cons _ (.cons _ (.cons _ (.cons _ (.cons _ (.cons _ (.cons _ r))))))=>r | _=>.nil) [some (.ref 0),some (.int d),some (.int w),some (.int c),none] (pen L (a + 2) T)=r->
   EA call N (pen L a T).length F_law_item.body [some (.ref 0),some (.int d),none,none,none] (pen L a T)=r:=
  fun h=>s7 (ite_skip (e_cmp (e_loc rfl) e_int q7) h)
 by_cases p9:w=8
 ·rw[DT p9] at q8;have bm:=b_mod (H:=pen L (a + 2) T) (x:=(c:Nat)) (m:=2) (by omega);have hfm:((c:Nat):Int).fmod ((2:Nat):Int)=((c % 2:Nat):Int):=by
   rw[Int.fmod_eq_emod_of_nonneg _ (by omega)];rfl
  rw[hfm] at bm;have hlt:=Nat.mod_lt c (show 0 < 2 by omega);obtain⟨wd,hwd,hwm⟩:=get_in (s:=([[47],[58]]:List Txt)) (k:=c % 2) hlt;have ep:=pickL [[47],[58]] (.bin .mod (.loc 3) (.int 2)) (.cons (.str [47]) (.cons (.str [58]) .nil)) (c % 2) (a + 2) (a + 2) wd (by simp only[ED,EC,EG,ZG,ZH]) (by decide) hwd (e_bin (e_loc rfl) e_int bm);have hwm':wd∈([[47],[58],[83],[83,80],[83,83],[66,78],[66,90]]:List Txt):=List.mem_append_left [[83],[83,80],[83,83],[66,78],[66,90]] hwm;refine⟨.nums wd [],a + 2,.c d wd hwm',by omega,fin0 _ _ (s8 (ite_ret (e_cmp (e_loc rfl) e_int q8) (ss_ret ?_) (by simp)))⟩;have one:(0 + 1)<=capL:=cp1;rw[EB,EC];simp only[ED,ep,EG,EF,LC,LN,one,if_true];rfl
 rw[DF p9] at q8;have s9:∀ {r:Option RS},EA call N (pen L a T).length (match F_law_item.body with | .cons _ (.cons _ (.cons _ (.cons _ (.cons _ (.cons _ (.cons _ (.cons _ r)))))))=>r | _=>.nil) [some (.ref 0),some (.int d),some (.int w),some (.int c),none] (pen L (a + 2) T)=r->
   EA call N (pen L a T).length F_law_item.body [some (.ref 0),some (.int d),none,none,none] (pen L a T)=r:=
  fun h=>s8 (ite_skip (e_cmp (e_loc rfl) e_int q8) h)
 by_cases pA:w=9
 ·rw[DT pA] at q9;have ba:binV (pen L (a + 2) T) .sub (.int c) (.int 7)=some (.int ((c:Int) - 7)):=rfl;refine⟨.nums [80] [some ((c:Int) - 7)],a + 2,.p d _ (by omega) (by omega),by omega,fin0 _ _ (s9 (ite_ret (e_cmp (e_loc rfl) e_int q9) (ss_ret ?_) (by simp)))⟩;rw[EB,e_tup2 e_str (e_bin (e_loc rfl) e_int ba)];rfl
 rw[DF pA] at q9;have s10:∀ {r:Option RS},EA call N (pen L a T).length (match F_law_item.body with | .cons _ (.cons _ (.cons _ (.cons _ (.cons _ (.cons _ (.cons _ (.cons _ (.cons _ r))))))))=>r | _=>.nil) [some (.ref 0),some (.int d),some (.int w),some (.int c),none] (pen L (a + 2) T)=r->
   EA call N (pen L a T).length F_law_item.body [some (.ref 0),some (.int d),none,none,none] (pen L a T)=r:=
  fun h=>s9 (ite_skip (e_cmp (e_loc rfl) e_int q9) h)
 by_cases pB:w=10
 ·rw[DT pB] at q10;have l3:=drawv_lt L (a + 2) (m:=5) (by omega);obtain⟨wd,hwd,hwm⟩:=get_in (s:=([[83],[83,80],[83,83],[66,78],[66,90]]:List Txt)) (k:=drawv L (a + 2) 5) l3;have ep:=pickL [[83],[83,80],[83,83],[66,78],[66,90]] _ (.cons (.str [83]) (.cons (.str [83,80]) (.cons (.str [83,83]) (.cons (.str [66,78]) (.cons (.str [66,90]) .nil))))) (drawv L (a + 2) 5) (a + 2) (a + 2 + 1) wd (by simp only[ED,EC,EG,ZG,ZH]) (by decide) hwd (e_draw (m:=5) rfl (dd 5 (a + 2) T (by omega) (by omega)));have ep':EC call (pen L a T).length [some (.ref 0),some (.int d),some (.int w),some (.int c),none] (.idx (.lstF (.cons (.str [83]) (.cons (.str [83,80]) (.cons (.str [83,83]) (.cons (.str [66,78]) (.cons (.str [66,90]) .nil)))))) (.call 23 (.cons (.loc 0) (.cons (.int 5) .nil)))) (pen L (a + 2) T)=some (.ok (.str wd) (pen L (a + 2 + 1) T)):=ep;have hwm':wd∈([[47],[58],[83],[83,80],[83,83],[66,78],[66,90]]:List Txt):=List.mem_append_right [[47],[58]] hwm;refine⟨.nums wd [],a + 2 + 1,.c d wd hwm',by omega,fin0 _ _ (s10 (ite_ret (e_cmp (e_loc rfl) e_int q10) (ss_ret ?_) (by simp)))⟩;have one:(0 + 1)<=capL:=cp1;rw[EB,EC];simp only[ED,ep',EG,EF,LC,LN,one,if_true];rfl
 rw[DF pB] at q10;have s11:∀ {r:Option RS},EA call N (pen L a T).length (match F_law_item.body with | .cons _ (.cons _ (.cons _ (.cons _ (.cons _ (.cons _ (.cons _ (.cons _ (.cons _ (.cons _ r)))))))))=>r | _=>.nil) [some (.ref 0),some (.int d),some (.int w),some (.int c),none] (pen L (a + 2) T)=r->
   EA call N (pen L a T).length F_law_item.body [some (.ref 0),some (.int d),none,none,none] (pen L a T)=r:=
  fun h=>s10 (ite_skip (e_cmp (e_loc rfl) e_int q10) h)
 have hd0 : 0 < d:=by
  apply Classical.byContradiction;intro q;rw[if_neg q] at hW2;omega
 obtain⟨d',rfl⟩ : ∃ d',d=d' + 1:=⟨d - 1,by omega⟩
 simp only[bud] at hb hbg ⊢;have l3:=drawv_lt L (a + 2) (m:=2) (by omega);have d3:=dd 2 (a + 2) T (by omega) (by omega);have en:EC call (pen L a T).length [some (.ref 0),some (.int ((d' + 1:Nat):Int)),some (.int w),some (.int c),none] (.bin .add (.int 1) (.call 23 (.cons (.loc 0) (.cons (.int 2) .nil)))) (pen L (a + 2) T)=some (.ok (.int ((1 + drawv L (a + 2) 2:Nat):Int)) (pen L (a + 2 + 1) T)):=by
  have ex:EC call (pen L a T).length [some (.ref 0),some (.int ((d' + 1:Nat):Int)),some (.int w),some (.int c),none] (.call 23 (.cons (.loc 0) (.cons (.int 2) .nil))) (pen L (a + 2) T)=some (.ok (.int (drawv L (a + 2) 2)) (pen L (a + 2 + 1) T)):=e_draw (m:=2) rfl d3;rw[EC,e_int];simp only[EG,ex,binV,EH,ZE];rw[show (1:Int) + (drawv L (a + 2) 2:Nat)=((1 + drawv L (a + 2) 2:Nat):Int) by omega]
 generalize drawv L (a + 2) 2=m at *;have hmb:(1 + m) * bud d'<=2 * bud d':=Nat.mul_le_mul_right _ (by omega);obtain⟨vs,a',g1,g2,g3,g4⟩:=e_comp (L:=L) (call:=call) (b:=(pen L a T).length) (e:=.call 25 (.cons (.loc 0) (.cons (.bin .sub (.loc 1) (.int 1)) .nil))) (x:=4) (K:=bud d') (P:=fun v=>∃ i,Good d' i/\v=It.toV i) (fun v hv=>by obtain⟨i,_,rfl⟩:=hv;exact It.pure i) en (by omega) (by omega) (by
  intro j a2 T' ha2;obtain⟨i,a3,h1,h2,h3⟩:=hg d' a2 T' rfl ha2;refine⟨i.toV,a3,⟨i,h1,rfl⟩,h2,?_⟩;have bs:binV (pen L a2 T') .sub (.int ((d' + 1:Nat):Int)) (.int 1)=some (.int d'):=by
   show some (V.int (((d' + 1:Nat):Int) - 1))=_;rw[show ((d' + 1:Nat):Int) - 1=(d':Nat) by omega]
  simp only[EA,EB,EC,ED,EG,EF,EH,ZA,ZB,ZC,ZD,ZE,bs,h3])
 obtain⟨l,h1,h2⟩:=unmap (f:=It.toV) (Q:=fun i=>Good d' i) vs g2;subst h1;rw[<- toVs_map] at g4;have hll:l.length=1 + m:=by simpa using g1
 refine⟨.grp (c:Int) l,a',.grp d' c l c1 c2 (by intro h;rw[h] at hll;simp at hll;omega) (by omega) h2,by omega,fin _ _ [none] (s11 (ss_ret ?_))⟩;have el3:∀ HX,EC call (pen L a T).length [some (.ref 0),some (.int ((d' + 1:Nat):Int)),some (.int w),some (.int c),none] (.loc 3) HX=some (.ok (.int c) HX):=fun HX=>e_loc rfl
 have three:(0 + 1 + 1 + 1)<=capL:=cp3;rw[EB,EC];simp only[ED,e_str,el3,g4,EG,EF,LC,LN,three,if_true,It.toV]
theorem s_litem:∀ d:Nat,litemSpec N L d
 | 0=>litem_step 0 (fun d' h=>by omega)
 | d + 1=>litem_step (d + 1) (fun d' h=>by
  have e:d'=d:=by omega
  rw[e];exact s_litem d)
end
inductive Sp:Bool->Bool->Txt->Txt->Prop
 | nil (f q:Bool):Sp f q [] []
 | keep (f q:Bool) (c:Nat) (u v:Txt):Sp (if c=39 then !f else f) (c==39) u v->Sp f q (c::u) (c::v)
 | put (c:Nat) (u v:Txt):Sp (if c=39 then true else false) (c==39) u v->Sp false false (c::u) (32::c::v)
def lastQ (o:Txt):Bool:=o.drop (o.length - 1)==[39]
theorem lastQ_snoc (o:Txt) (c:Nat):lastQ (o++[c])=(c==39):=by
 simp[lastQ]
def wSpB:Ss:=(.cons (.ite (.and (.not (.loc 3)) (.and (.cmp .ne (.sl (.loc 2) (.neg (.int 1)) .none) (.str [39])) (.cmp .eq (.call 23 (.cons (.loc 0) (.cons (.int 4) .nil))) (.int 0)))) (.cons (.assign 2 (.bin .add (.loc 2) (.str [32])))
  .nil) .nil)
  (.cons (.ite (.cmp .eq (.loc 4) (.str [39])) (.cons (.assign 3 (.not (.loc 3)))
  .nil) .nil)
  (.cons (.assign 2 (.bin .add (.loc 2) (.loc 4)))
  .nil)))
section
variable {N:Nat}{L:List Int}{b:Nat}{T:Hp}{call:Nat->List V->Hp->Option (Res V)}
theorem bound_neg {n d:Nat}:bound n d (.int (-1))=some (n - 1):=by
 have hc:(capL:Int)=1048576:=rfl;have h : -(capL:Int)<=-1/\(-1:Int)<=capL:=by omega
 have h2:(-1:Int) < 0:=by decide
 simp only[bound,if_pos h,clampI,if_pos h2]
 congr 1;omega
theorem sl_last (o:Txt):slV (.str o) (.int (-1)) .none=some (.str (o.drop (o.length - 1))):=by
 have h0:bound o.length o.length .none=some o.length:=rfl;simp only[slV,cut,bound_neg,h0,ZE,LT]
theorem e_and1 {H:Hp}{x y:E}{l:Loc}{r:Option (Res V)}(hx:EC call b l x H=some (.ok (.bool true) H)) (hy:EC call b l y H=r):EC call b l (.and x y) H=r:=by
 rw[EC,hx];simp only[EG];exact hy
theorem e_and0 {H H':Hp}{x y:E}{l:Loc}(hx:EC call b l x H=some (.ok (.bool false) H')):EC call b l (.and x y) H=some (.ok (.bool false) H'):=by
 rw[EC,hx];simp only[EG]
theorem e_not {H H':Hp}{x:E}{l:Loc}{v:Bool}(hx:EC call b l x H=some (.ok (.bool v) H')):EC call b l (.not x) H=some (.ok (.bool (!v)) H'):=by
 rw[EC,hx];simp only[EG]
theorem e_cmp2 {l:Loc}{o:Cop}{x y:E}{v w:V}{r:Bool}{H H1 H2:Hp}(hx:EC call b l x H=some (.ok v H1)) (hy:EC call b l y H1=some (.ok w H2)) (hr:cmpV o v w=some r):EC call b l (.cmp o x y) H=some (.ok (.bool r) H2):=by
 rw[EC,hx];simp only[EG,hy,hr,EH,ZE]
theorem ite_next2 {H HC H':Hp}{c:E}{x y:Ss}{l l':Loc}(v:Bool) (hc:EC call b l c H=some (.ok (.bool v) HC)) (h:EA call N b (if v=true then x else y) l HC=some (.next l' H')) :
  EB call N b (.ite c x y) l H=some (.next l' H'):=by
 cases v
 ·simp only[BF,if_false] at h;simp only[EB,hc,EF,h]
 ·simp only[if_true] at h;simp only[EB,hc,EF,h]
theorem Sp.len {f q:Bool}{u v:Txt}(h:Sp f q u v):v.length<=2 * u.length:=by
 induction h with
 | nil=>simp
 | keep f q c u v h ih=>simp only[LC];omega
 | put c u v h ih=>simp only[LC];omega
theorem l_spaced {x1:Option V}(hd:∀ (a:Nat) (T:Hp),a<=100000->call 23 [.ref 0,.int ((4:Nat):Int)] (pen L a T)=some (.ok (.int (drawv L a 4)) (pen L (a + 1) T))) :
  ∀ (u o:Txt) (f:Bool) (a:Nat) (x4:Option V),a + u.length<=90000->o.length + 2 * u.length<=90000->
  ∃ v a' f' y4,Sp f (lastQ o) u v/\a'<=a + u.length/\forL (put1 4) (fun l H=>EA call N b wSpB l H) (u.map fun c=>V.str [c]) [some (.ref 0),x1,some (.str o),some (.bool f),x4] (pen L a T) =
   some (.next [some (.ref 0),x1,some (.str (o++v)),some (.bool f'),y4] (pen L a' T))
 | [],o,f,a,x4,ha,ho=>⟨[],a,f,x4,.nil _ _,by omega,by simp[forL]⟩
 | c::u,o,f,a,x4,ha,ho=>by
  simp only[LC] at ha ho;have k1:cmpV .ne (.str (o.drop (o.length - 1))) (.str [39])=some (!lastQ o):=cmp_nes _ _;have es:∀ (l2 l3:Option V) (HX:Hp),l2=some (.str o)->EC call b [some (.ref 0),x1,l2,l3,some (.str [c])] (.sl (.loc 2) (.neg (.int 1)) .none) HX=some (.ok (.str (o.drop (o.length - 1))) HX):=by
   intro l2 l3 HX h;subst h;refine e_slE (e_loc rfl) (v:=.int (-1)) (w:=.none) ?_ (by rw[EC]) (sl_last o);rw[EC,e_int];rfl
  have k0:cmpV .eq (.int (drawv L a 4)) (.int 0)=some (decide (drawv L a 4=0)):=by
   rw[cmp_eqi];congr 1;rw[Bool.eq_iff_iff];simp
  have kq:cmpV .eq (.str [c]) (.str [39])=some (c==39):=by rw[cmp_eqs,beq1]
  have d4:=hd a T (by omega);have ed:EC call b [some (.ref 0),x1,some (.str o),some (.bool f),some (.str [c])] (.call 23 (.cons (.loc 0) (.cons (.int 4) .nil))) (pen L a T)=some (.ok (.int (drawv L a 4)) (pen L (a + 1) T)):=e_draw (m:=4) rfl d4;obtain⟨bl,a1,ha1,hbl,hc⟩ : ∃ (bl:Bool) (a1:Nat),a1<=a + 1/\(bl=true->f=false/\lastQ o=false)/\
    EC call b [some (.ref 0),x1,some (.str o),some (.bool f),some (.str [c])] (.and (.not (.loc 3)) (.and (.cmp .ne (.sl (.loc 2) (.neg (.int 1)) .none) (.str [39])) (.cmp .eq (.call 23 (.cons (.loc 0) (.cons (.int 4) .nil))) (.int 0)))) (pen L a T)=some (.ok (.bool bl) (pen L a1 T)):=by
   cases f with
   | true=>exact⟨false,a,by omega,by simp,e_and0 (e_not (e_loc (v:=.bool true) rfl))⟩
   | false=>
    cases hq:lastQ o with
    | true=>
     rw[hq] at k1;exact⟨false,a,by omega,by simp,e_and1 (e_not (e_loc (v:=.bool false) rfl)) (e_and0 (e_cmp (es _ _ _ rfl) e_str k1))⟩
    | false=>
     rw[hq] at k1;exact⟨decide (drawv L a 4=0),a + 1,by omega,by simp,e_and1 (e_not (e_loc (v:=.bool false) rfl)) (e_and1 (e_cmp (es _ _ _ rfl) e_str k1) (e_cmp2 ed e_int k0))⟩
  have step:∃ f2,f2=(if c=39 then !f else f)/\EA call N b wSpB [some (.ref 0),x1,some (.str o),some (.bool f),some (.str [c])] (pen L a T) =
    some (.next [some (.ref 0),x1,some (.str (o++((if bl=true then [32] else [])++[c]))),some (.bool f2),some (.str [c])] (pen L a1 T)):=by
   refine⟨if c=39 then !f else f,rfl,?_⟩;have hol:(o++(if bl=true then [32] else ([]:Txt))).length<=o.length + 1:=by split<;>simp
   refine ss_next (l':=[some (.ref 0),x1,some (.str (o++if bl=true then [32] else [])),some (.bool f),some (.str [c])]) (H':=pen L a1 T) (ite_next2 bl hc ?_) ?_
   ·cases bl with
    | true=>
     have ba:=b_add_str (H:=pen L a1 T) (x:=o) (y:=[32]) (by simp;omega);simp only[if_true];refine ss_next ?_ ss_nil;rw[EB,e_bin (e_loc rfl) e_str ba];rfl
    | false=>
     simp only[BF,if_false,List.append_nil];exact ss_nil
   refine ss_next (l':=[some (.ref 0),x1,some (.str (o++if bl=true then [32] else [])),some (.bool (if c=39 then !f else f)),some (.str [c])]) (H':=pen L a1 T) ?_ ?_
   ·by_cases qc:c=39
    ·rw[beq_iff_eq.mpr qc] at kq;rw[if_pos qc];refine ite_next true (e_cmp (e_loc rfl) e_str kq) ?_;rw[if_pos rfl];refine ss_next ?_ ss_nil;rw[EB,e_not (e_loc (v:=.bool f) rfl)];rfl
    ·rw[BN.mpr qc] at kq;rw[if_neg qc];refine ite_next false (e_cmp (e_loc rfl) e_str kq) ?_;simp only[BF,if_false];exact ss_nil
   ·have ba:=b_add_str (H:=pen L a1 T) (x:=o++if bl=true then [32] else []) (y:=[c]) (by simp only[LC,LN];omega);refine ss_next ?_ ss_nil;rw[EB,e_bin (e_loc rfl) (e_loc rfl) ba,LX];rfl
  obtain⟨f2,hf2,step⟩:=step;have hol2:(o++((if bl=true then [32] else ([]:Txt))++[c])).length<=o.length + 2:=by
   cases bl<;>simp
  obtain⟨v,a',f',y4,g1,g2,g3⟩:=l_spaced (x1:=x1) hd u (o++((if bl=true then [32] else [])++[c])) f2 a1 (some (.str [c])) (by omega) (by omega);have hlq:lastQ (o++((if bl=true then [32] else [])++[c]))=(c==39):=by rw[<- LX];exact lastQ_snoc _ c
  rw[hlq,hf2] at g1;refine⟨(if bl=true then [32] else [])++c::v,a',f',y4,?_,by simp only[LC];omega,?_⟩
  ·cases bl with
   | true=>
    obtain⟨h1,h2⟩:=hbl rfl;rw[h1,h2];rw[h1] at g1;exact .put c u v g1
   | false=>exact .keep f _ c u v g1
  ·simp only[ZG,forL,put1,ZD,ZC,step];rw[g3];simp
theorem s_spaced {n a:Nat}{u:Txt}(ha:a + u.length<=90000) (hu : 2 * u.length<=90000):∃ v a',Sp false false u v/\a'<=a + u.length/\cF N (n + 2) 29 [.ref 0,.str u] (pen L a T)=some (.ok (.str v) (pen L a' T)):=by
 rw[callF_succ N (n + 1) 29 _ _ rfl];have hd:=fun (a:Nat) (T:Hp) (ha:a<=100000)=>s_draw (N:=N) (L:=L) (T:=T) (n:=n) (m:=4) (a:=a) (by omega) ha
 generalize cF N (n + 1)=call at *;obtain⟨v,a',f',y4,g1,g2,g3⟩:=l_spaced (N:=N) (b:=(pen L a T).length) (T:=T) (x1:=some (.str u)) hd u [] false a none ha (by simp only[LN];omega);refine⟨v,a',g1,g2,run_ret2 (H':=pen L a' T) rfl (st2 (loc:=[some (.ref 0),some (.str u),none,none,none]) rfl ?_) rfl (by have:=pen_take L a a' T [];simpa using this)⟩;refine ss_next (l':=[some (.ref 0),some (.str u),some (.str []),none,none]) (H':=pen L a T) (by simp only[EA,EB,EC,ED,EG,EF,EH,ZA,ZB,ZC,ZD,ZE]) ?_;refine ss_next (l':=[some (.ref 0),some (.str u),some (.str []),some (.bool false),none]) (H':=pen L a T) (by simp only[EA,EB,EC,ED,EG,EF,EH,ZA,ZB,ZC,ZD,ZE]) ?_;refine ss_next (l':=[some (.ref 0),some (.str u),some (.str v),some (.bool f'),y4]) (H':=pen L a' T) ?_ (ss_ret (by simp only[EA,EB,EC,ED,EG,EF,EH,ZA,ZB,ZC,ZD,ZE]));rw[EB,e_loc (v:=.str u) rfl];exact g3
def signs:Txt:=[73,70,69,68,71,76,65,88,84,80,83,66,72,78,82,90,47,58,44,46,40,41,39,43,45,48,49,50,51,32,53,57]
inductive Bend:Txt->Txt->Prop
 | same (t:Txt):Bend t t
 | ins (t:Txt) (p c:Nat):c∈signs->Bend t (t.take p++c::t.drop p)
 | del (t:Txt) (p:Nat):Bend t (t.take p++t.drop (p + 1))
 | rpl (t:Txt) (p c:Nat):c∈signs->Bend t (t.take p++c::t.drop (p + 1))
theorem Bend.len {t t':Txt}(h:Bend t t'):t'.length<=t.length + 1:=by
 cases h with
 | same=>omega
 | ins p c hc=>simp only[LA,List.length_take,LC,List.length_drop];omega
 | del p=>simp only[LA,List.length_take,List.length_drop];omega
 | rpl p c hc=>simp only[LA,List.length_take,LC,List.length_drop];omega
def wBentB:Ss:=(.cons (.assign 3 (.call 23 (.cons (.loc 0) (.cons .million .nil))))
  (.cons (.assign 4 (.bin .mod (.bin .fdiv (.loc 3) (.int 4)) (.bin .add (.len (.loc 1)) (.int 1))))
  (.cons (.assign 5 (.idx (.gstr [95,108,97,119,95,115,105,103,110,115] [73,70,69,68,71,76,65,88,84,80,83,66,72,78,82,90,47,58,44,46,40,41,39,43,45,48,49,50,51,32,53,57]) (.bin .mod (.bin .fdiv (.loc 3) (.int 97)) (.int 32))))
  (.cons (.ite (.cmp .eq (.bin .mod (.loc 3) (.int 4)) (.int 1)) (.cons (.assign 1 (.bin .add (.bin .add (.sl (.loc 1) .none (.loc 4)) (.loc 5)) (.sl (.loc 1) (.loc 4) .none)))
  .nil) .nil)
  (.cons (.ite (.cmp .eq (.bin .mod (.loc 3) (.int 4)) (.int 2)) (.cons (.assign 1 (.bin .add (.sl (.loc 1) .none (.loc 4)) (.sl (.loc 1) (.bin .add (.loc 4) (.int 1)) .none)))
  .nil) .nil)
  (.cons (.ite (.cmp .eq (.bin .mod (.loc 3) (.int 4)) (.int 3)) (.cons (.assign 1 (.bin .add (.bin .add (.sl (.loc 1) .none (.loc 4)) (.loc 5)) (.sl (.loc 1) (.bin .add (.loc 4) (.int 1)) .none)))
  .nil) .nil)
  .nil))))))
theorem b_fdiv {H:Hp}{x m:Nat}(hm : 0 < m) (hm2:m<=1000):binV H .fdiv (.int x) (.int m)=some (.int ((x / m:Nat):Int)):=by
 have hc:(capL:Int)=1048576:=rfl;have h:(0:Int) < (m:Nat)/\((m:Nat):Int)<=capL:=by omega
 have hf:((x:Nat):Int).fdiv ((m:Nat):Int)=((x / m:Nat):Int):=by
  rw[Int.fdiv_eq_ediv_of_nonneg _ (by omega)];rfl
 simp only[binV,if_pos h,hf]
theorem b_modN {H:Hp}{x m:Nat}(hm : 0 < m):binV H .mod (.int x) (.int m)=some (.int ((x % m:Nat):Int)):=by
 rw[b_mod hm];have hfm:((x:Nat):Int).fmod ((m:Nat):Int)=((x % m:Nat):Int):=by
  rw[Int.fmod_eq_emod_of_nonneg _ (by omega)];rfl
 rw[hfm]
theorem sl_to {t:Txt}{p:Nat}(hp:p<=100000):slV (.str t) .none (.int p)=some (.str (t.take p)):=by
 have h0:bound t.length 0 .none=some 0:=rfl;simp only[slV,cut,h0,bound_nat' (n:=t.length) (d:=t.length) (k:=p) (by omega),ZE,List.drop_zero];rw[show t.take (min p t.length)=t.take p by rw[List.take_eq_take_iff];omega]
theorem sl_from {t:Txt}{p:Nat}(hp:p<=100000):slV (.str t) (.int p) .none=some (.str (t.drop p)):=by
 have h0:bound t.length t.length .none=some t.length:=rfl;simp only[slV,cut,h0,bound_nat' (n:=t.length) (d:=0) (k:=p) (by omega),ZE,LT];rcases Nat.le_total p t.length with q | q
 ·rw[Nat.min_eq_left q]
 ·rw[Nat.min_eq_right q,List.drop_of_length_le (Nat.le_refl _),List.drop_of_length_le q]
theorem e_none {H:Hp}{l:Loc}:EC call b l .none H=some (.ok .none H):=by rw[EC]
theorem bent_turn {a:Nat}{t:Txt}{x2 x3 x4 x5:Option V}(ha:a<=90000) (ht:t.length<=5000) (hd:call 23 [.ref 0,.int 1000000] (pen L a T)=some (.ok (.int (drawv L a 1000000)) (pen L (a + 1) T))) :
  ∃ t' y3 y4 y5,Bend t t'/\EA call N b wBentB [some (.ref 0),some (.str t),x2,x3,x4,x5] (pen L a T)=some (.next [some (.ref 0),some (.str t'),x2,y3,y4,y5] (pen L (a + 1) T)):=by
 have e1:EC call b [some (.ref 0),some (.str t),x2,x3,x4,x5] (.call 23 (.cons (.loc 0) (.cons .million .nil))) (pen L a T)=some (.ok (.int (drawv L a 1000000)) (pen L (a + 1) T)):=by
  have em:EC call b [some (.ref 0),some (.str t),x2,x3,x4,x5] .million (pen L a T)=some (.ok (.int 1000000) (pen L a T)):=by rw[EC]
  rw[EC];simp only[ED,e_loc (l:=[some (.ref 0),some (.str t),x2,x3,x4,x5]) (x:=0) (v:=.ref 0) rfl,em,EG,hd]
 generalize drawv L a 1000000=num at *;clear hd;generalize pen L (a + 1) T=HP at *;have f4:=b_fdiv (H:=HP) (x:=num) (m:=4) (by omega) (by omega);have f97:=b_fdiv (H:=HP) (x:=num) (m:=97) (by omega) (by omega);have m4:=b_modN (H:=HP) (x:=num) (m:=4) (by omega);have m32:=b_modN (H:=HP) (x:=num / 97) (m:=32) (by omega);have ml:=b_modN (H:=HP) (x:=num / 4) (m:=t.length + 1) (by omega);have hpl:=Nat.mod_lt (num / 4) (show 0 < t.length + 1 by omega);generalize hp:num / 4 % (t.length + 1)=p at *;obtain⟨c,hc,hcm⟩:=get_in (s:=signs) (k:=num / 97 % 32) (Nat.mod_lt _ (by omega));have k1:cmpV .eq (.int ((num % 4:Nat):Int)) (.int 1)=some (decide (num % 4=1)):=by rw[cmp_eqi];congr 1;rw[Bool.eq_iff_iff];simp only[beq_iff_eq,decide_eq_true_eq];omega
 have k2:cmpV .eq (.int ((num % 4:Nat):Int)) (.int 2)=some (decide (num % 4=2)):=by rw[cmp_eqi];congr 1;rw[Bool.eq_iff_iff];simp only[beq_iff_eq,decide_eq_true_eq];omega
 have k3:cmpV .eq (.int ((num % 4:Nat):Int)) (.int 3)=some (decide (num % 4=3)):=by rw[cmp_eqi];congr 1;rw[Bool.eq_iff_iff];simp only[beq_iff_eq,decide_eq_true_eq];omega
 have em4:∀ (l1 l2:Option V),EC call b [some (.ref 0),l1,l2,some (.int num),some (.int p),some (.str [c])] (.bin .mod (.loc 3) (.int 4)) HP=some (.ok (.int ((num % 4:Nat):Int)) HP):=fun l1 l2=>e_bin (e_loc rfl) e_int m4
 have start:∀ {r:Option RS},EA call N b (match wBentB with | .cons _ (.cons _ (.cons _ r))=>r | _=>.nil) [some (.ref 0),some (.str t),x2,some (.int num),some (.int p),some (.str [c])] HP=r->
   EA call N b wBentB [some (.ref 0),some (.str t),x2,x3,x4,x5] (pen L a T)=r:=by
  intro r h;refine ss_next (l':=[some (.ref 0),some (.str t),x2,some (.int num),x4,x5]) (H':=HP) (by rw[EB,e1];rfl) ?_;refine ss_next (l':=[some (.ref 0),some (.str t),x2,some (.int num),some (.int p),x5]) (H':=HP) ?_ ?_
  ·have hln:lenV HP (.str t)=some t.length:=rfl;have hadd:binV HP .add (.int t.length) (.int 1)=some (.int ((t.length + 1:Nat):Int)):=rfl;have ex:EC call b [some (.ref 0),some (.str t),x2,some (.int num),x4,x5] (.bin .mod (.bin .fdiv (.loc 3) (.int 4)) (.bin .add (.len (.loc 1)) (.int 1))) HP=some (.ok (.int p) HP):=e_bin (e_bin (e_loc rfl) e_int f4) (e_bin (e_len (e_loc rfl) hln) e_int hadd) ml;rw[EB,ex];rfl
  refine ss_next (l':=[some (.ref 0),some (.str t),x2,some (.int num),some (.int p),some (.str [c])]) (H':=HP) ?_ h
  ·have ei:EC call b [some (.ref 0),some (.str t),x2,some (.int num),some (.int p),x5] (.bin .mod (.bin .fdiv (.loc 3) (.int 97)) (.int 32)) HP=some (.ok (.int ((num / 97 % 32:Nat):Int)) HP):=e_bin (e_bin (e_loc rfl) e_int f97) e_int m32;have eg:∀ x:Txt,EC call b [some (.ref 0),some (.str t),x2,some (.int num),some (.int p),x5] (.gstr x signs) HP=some (.ok (.str signs) HP):=fun x=>by rw[EC]
   have eix:EC call b [some (.ref 0),some (.str t),x2,some (.int num),some (.int p),x5] (.idx (.gstr [95,108,97,119,95,115,105,103,110,115] signs) (.bin .mod (.bin .fdiv (.loc 3) (.int 97)) (.int 32))) HP=some (.ok (.str [c]) HP):=by
    rw[EC,eg];simp only[EG,ei,i_str hc,EH,ZE]
   have eix':EC call b [some (.ref 0),some (.str t),x2,some (.int num),some (.int p),x5] (.idx (.gstr [95,108,97,119,95,115,105,103,110,115] [73,70,69,68,71,76,65,88,84,80,83,66,72,78,82,90,47,58,44,46,40,41,39,43,45,48,49,50,51,32,53,57]) (.bin .mod (.bin .fdiv (.loc 3) (.int 97)) (.int 32))) HP=some (.ok (.str [c]) HP):=eix;rw[EB,eix'];rfl
 have ep1:binV HP .add (.int p) (.int 1)=some (.int ((p + 1:Nat):Int)):=rfl;have t1:=sl_to (t:=t) (p:=p) (by omega);have t2:=sl_from (t:=t) (p:=p) (by omega);have t3:=sl_from (t:=t) (p:=p + 1) (by omega);have s1:=b_add_str (H:=HP) (x:=t.take p) (y:=[c]) (by simp only[List.length_take,LC,LN];omega);have s2:=b_add_str (H:=HP) (x:=t.take p++[c]) (y:=t.drop p) (by simp only[LA,List.length_take,LC,LN,List.length_drop];omega);have s3:=b_add_str (H:=HP) (x:=t.take p) (y:=t.drop (p + 1)) (by simp only[List.length_take,List.length_drop];omega);have s4:=b_add_str (H:=HP) (x:=t.take p++[c]) (y:=t.drop (p + 1)) (by simp only[LA,List.length_take,LC,LN,List.length_drop];omega);have no:∀ {l1:Option V}{m:Int}{x:Ss},cmpV .eq (.int ((num % 4:Nat):Int)) (.int m)=some false->EB call N b (.ite (.cmp .eq (.bin .mod (.loc 3) (.int 4)) (.int m)) x .nil) [some (.ref 0),l1,x2,some (.int num),some (.int p),some (.str [c])] HP=some (.next [some (.ref 0),l1,x2,some (.int num),some (.int p),some (.str [c])] HP):=by
  intro l1 m x h;refine ite_next false (e_cmp (em4 _ _) e_int h) ?_;simp only[BF,if_false];exact ss_nil
 have asc:∀ x y:Txt,x++[c]++y=x++c::y:=fun x y=>by simp
 have s2':binV HP .add (.str (t.take p++[c])) (.str (t.drop p))=some (.str (t.take p++c::t.drop p)):=by rw[s2,asc]
 have s4':binV HP .add (.str (t.take p++[c])) (.str (t.drop (p + 1)))=some (.str (t.take p++c::t.drop (p + 1))):=by rw[s4,asc]
 have hcase:num % 4=0\/num % 4=1\/num % 4=2\/num % 4=3:=by omega
 rcases hcase with q | q | q | q
 ·rw[DF (by omega)] at k1 k2 k3;exact⟨t,some (.int num),some (.int p),some (.str [c]),.same t,start (ss_next (no k1) (ss_next (no k2) (ss_next (no k3) ss_nil)))⟩
 ·rw[DT q] at k1;rw[DF (by omega)] at k2 k3;refine⟨_,some (.int num),some (.int p),some (.str [c]),.ins t p c hcm,start (ss_next (ite_next true (e_cmp (em4 _ _) e_int k1) ?_) (ss_next (no k2) (ss_next (no k3) ss_nil)))⟩;rw[if_pos rfl];refine ss_next ?_ ss_nil;rw[EB,e_bin (e_bin (e_slE (e_loc rfl) e_none (e_loc rfl) t1) (e_loc rfl) s1) (e_slE (e_loc rfl) (e_loc rfl) e_none t2) s2'];rfl
 ·rw[DT q] at k2;rw[DF (by omega)] at k1 k3;refine⟨_,some (.int num),some (.int p),some (.str [c]),.del t p,start (ss_next (no k1) (ss_next (ite_next true (e_cmp (em4 _ _) e_int k2) ?_) (ss_next (no k3) ss_nil)))⟩;rw[if_pos rfl];refine ss_next ?_ ss_nil;rw[EB,e_bin (e_slE (e_loc rfl) e_none (e_loc rfl) t1) (e_slE (e_loc rfl) (e_bin (e_loc rfl) e_int ep1) e_none t3) s3];rfl
 ·rw[DT q] at k3;rw[DF (by omega)] at k1 k2;refine⟨_,some (.int num),some (.int p),some (.str [c]),.rpl t p c hcm,start (ss_next (no k1) (ss_next (no k2) (ss_next (ite_next true (e_cmp (em4 _ _) e_int k3) ?_) ss_nil)))⟩;rw[if_pos rfl];refine ss_next ?_ ss_nil;rw[EB,e_bin (e_bin (e_slE (e_loc rfl) e_none (e_loc rfl) t1) (e_loc rfl) s1) (e_slE (e_loc rfl) (e_bin (e_loc rfl) e_int ep1) e_none t3) s4'];rfl
theorem s_bent {n a:Nat}{t:Txt}(ha:a<=80000) (ht:t.length<=4000):∃ t1 t2 t3,Bend t t1/\Bend t1 t2/\Bend t2 t3/\cF N (n + 2) 30 [.ref 0,.str t] (pen L a T)=some (.ok (.str t3) (pen L (a + 3) T)):=by
 rw[callF_succ N (n + 1) 30 _ _ rfl];have hm:((1000000:Nat):Int)=1000000:=rfl;have hd:=fun (a:Nat) (T:Hp) (ha:a<=100000)=>s_draw (N:=N) (L:=L) (T:=T) (n:=n) (m:=1000000) (a:=a) (by omega) ha
 rw[hm] at hd;generalize cF N (n + 1)=call at *;obtain⟨t1,y3,y4,y5,b1,s1⟩:=bent_turn (N:=N) (b:=(pen L a T).length) (t:=t) (x2:=some (.int ((0:Nat):Int))) (x3:=none) (x4:=none) (x5:=none) (by omega:a<=90000) (by omega) (hd a T (by omega));have g1:=b1.len;obtain⟨t2,z3,z4,z5,b2,s2⟩:=bent_turn (N:=N) (b:=(pen L a T).length) (t:=t1) (x2:=some (.int ((1:Nat):Int))) (x3:=y3) (x4:=y4) (x5:=y5) (by omega:a + 1<=90000) (by omega) (hd (a + 1) T (by omega));have g2:=b2.len;obtain⟨t3,w3,w4,w5,b3,s3⟩:=bent_turn (N:=N) (b:=(pen L a T).length) (t:=t2) (x2:=some (.int ((2:Nat):Int))) (x3:=z3) (x4:=z4) (x5:=z5) (by omega:a + 1 + 1<=90000) (by omega) (hd (a + 1 + 1) T (by omega));refine⟨t1,t2,t3,b1,b2,b3,run_ret2 (H':=pen L (a + 3) T) rfl (st2 (loc:=[some (.ref 0),some (.str t),none,none,none,none]) rfl ?_) rfl (by have:=pen_take L a (a + 3) T [];simpa using this)⟩;refine ss_next (l':=[some (.ref 0),some (.str t3),some (.int ((2:Nat):Int)),w3,w4,w5]) (H':=pen L (a + 3) T) ?_ (ss_ret (by simp only[EA,EB,EC,ED,EG,EF,EH,ZA,ZB,ZC,ZD,ZE]));have hk:(0:Int)<=3/\(3:Int)<=capL:=by have:(capL:Int)=1048576:=rfl;omega
 have hu:upto (3:Int).toNat 0=[.int ((0:Nat):Int),.int ((1:Nat):Int),.int ((2:Nat):Int)]:=rfl;rw[EB,e_int];simp only[EF,if_pos hk,hu];show forL (put1 2) (fun l H=>EA call N (pen L a T).length wBentB l H) [.int ((0:Nat):Int),.int ((1:Nat):Int),.int ((2:Nat):Int)] [some (.ref 0),some (.str t),none,none,none,none] (pen L a T)=_;simp only[forL,put1,ZD,ZC,s1,s2,s3]
end
theorem dGo_mono:∀ (u:Txt) (v:Nat),v<=(dGo v u).1
 | [],v=>Nat.le_refl _
 | c::r,v=>by
  unfold dGo;split
  ·exact dGo_mono r v
  ·split
   ·exact Nat.le_trans (by omega) (dGo_mono r (10 * v + (c - 48)))
   ·exact Nat.le_refl _
theorem numGo_dGo:∀ (u:Txt) (v:Nat),v<=9999->numGo v u=if (dGo v u).1<=9999 then some (dGo v u) else none
 | [],v,h=>by simp[numGo,dGo,h]
 | c::r,v,h=>by
  unfold numGo dGo;by_cases q:c=32
  ·rw[if_pos q,if_pos q];exact numGo_dGo r v h
  ·rw[if_neg q,if_neg q];by_cases q2:isDig c=true
   ·rw[if_pos q2,if_pos q2];by_cases q3 : 10 * v + (c - 48) > 9999
    ·rw[if_pos q3,if_neg];have:=dGo_mono r (10 * v + (c - 48));omega
    ·rw[if_neg q3];exact numGo_dGo r _ (by omega)
   ·rw[if_neg q2,if_neg q2,if_pos h]
theorem dGo_skipped:∀ (u:Txt) (v:Nat),skip (dGo v u).2=(dGo v u).2
 | [],v=>rfl
 | c::r,v=>by
  unfold dGo;split
  ·exact dGo_skipped r v
  ·split
   ·exact dGo_skipped r _
   ·rename_i q _;simp[skip,q]
def hTok (k:Nat) (r:Txt):Tk:=if 0 < k/\k<=r.length then .t (r.take k) else .bad
inductive NumCase (u:Txt):Prop
 | no (v:Txt):numC u=some (none,v)->skip u=v->tokS u=tokS v->isN (tokS u)[0]?=false->NumCase u
 | big (w:List Tk):numC u=none->tokS u=.bad::w->NumCase u
 | yes (k:Nat) (r:Txt):numC u=some (some k,r)->aft 72 r=none->skip r=r->tokS u=.n k::tokS r->Suf u r->NumCase u
 | hol (k:Nat) (r:Txt):numC u=some (some k,72::r)->tokS u=hTok k r::tokS (r.drop k)->Suf u r->NumCase u
theorem qTok_head (p:Txt × Txt):(qTok p).1=.bad\/∃ s,(qTok p).1=.t s:=by
 unfold qTok;split
 ·exact .inl rfl
 ·show (if _ then _ else _)=_\/_;split
  ·exact .inl rfl
  ·exact .inr ⟨_,rfl⟩
theorem nTok_head (p:Nat × Txt):(nTok p).1=.bad\/(∃ s,(nTok p).1=.t s)\/∃ k,(nTok p).1=.n k:=by
 unfold nTok;split
 ·show (if _ then _ else _)=_\/_;split
  ·exact .inr (.inl ⟨_,rfl⟩)
  ·exact .inl rfl
 ·show (if _ then _ else _)=_\/_;split
  ·exact .inr (.inr ⟨_,rfl⟩)
  ·exact .inl rfl
theorem numCase (u:Txt) (hu:u.length<=9000):NumCase u:=by
 have hs:=skip_suf u;have hl:=hs.len;cases h:skip u with
 | nil=>
  refine .no [] (by simp[numC,h]) h (by rw[tokS_nil h];rfl) (by rw[tokS_nil h];rfl)
 | cons c r=>
  have hc32:c≠32:=by
   intro q;subst q;have:=skip_skip u;rw[h] at this;have h2:=skip_len r;rw[show skip (32::r)=skip r from rfl] at this;rw[this] at h2;simp only[LC] at h2;omega
  by_cases hd:isDig c=true
  ·have hc39:c≠39:=by intro q;subst q;simp[isDig] at hd
   have ht:tokS u=(nTok (dGo (c - 48) r)).1::tokS (nTok (dGo (c - 48) r)).2:=by
    rw[tokS_cons h];simp[tok1,hc39,hd]
   have hn:numC u=(numGo (c - 48) r).map fun p=>(some p.1,p.2):=by simp[numC,h,hd]
   have h48:c - 48<=9999:=by have:=dig_le hd;omega
   rw[numGo_dGo r _ h48] at hn;have hsk:=dGo_skipped r (c - 48);have hsu:=dGo_suf r (c - 48);rw[h] at hs hl;simp only[LC] at hl;generalize dGo (c - 48) r=p at *;obtain⟨k,r1⟩:=p;have hl1:=hsu.len;dsimp only at *;by_cases q:k<=9999
   ·rw[if_pos q] at hn;cases ha:aft 72 r1 with
    | none=>
     refine .yes k r1 hn ha hsk ?_ (hs.tail.trans hsu);rw[ht];have:nTok (k,r1)=(.n k,r1):=by simp[nTok,ha,show k < 10000 by omega]
     rw[this]
    | some r2=>
     have hr:=aft_eq ha;refine .hol k r2 (by rw[hn,hr];rfl) ?_ (aft_suf (hs.tail.trans hsu) ha);rw[ht];have:nTok (k,r1)=(hTok k r2,r2.drop k):=by simp[nTok,ha,hTok]
     rw[this]
   ·rw[if_neg q] at hn;refine .big (tokS (nTok (k,r1)).2) hn ?_;rw[ht];have:(nTok (k,r1)).1=.bad:=by
     unfold nTok;cases ha:aft 72 r1 with
     | none=>simp only;rw[if_neg (by omega)]
     | some r2=>
      have:=(aft_suf (Suf.rfl' r1) ha).len;simp only;rw[if_neg (by omega)]
    rw[this]
  ·have hd':isDig c=false:=by simpa using hd
   refine .no (c::r) (by simp[numC,h,hd']) h (by rw[<- h,tokS_skip]) ?_;rw[tokS_cons h];show isN (some (tok1 c r).1)=false;unfold tok1;split
   ·rcases qTok_head (qs [] r) with e | ⟨s,e⟩<;>rw[e]<;>rfl
   ·rfl
theorem tk_sg {c:Nat}{r:Txt}(h1:c≠32) (h2:c≠39) (h3:isDig c=false):tokS (c::r)=.sg c::tokS r:=by
 rw[tokS_cons (show skip (c::r)=c::r by simp[skip,h1])];simp[tok1,h2,h3]
theorem hd_no {d:Nat}{r:Txt}(hd:isDig d=false) (h:aft d (skip r)=none):isSg d (tokS r)[0]?=false:=by
 cases hs:skip r with
 | nil=>rw[tokS_nil hs];rfl
 | cons c r'=>
  rw[hs] at h;rw[tokS_cons hs];show isSg d (some (tok1 c r').1)=false;unfold tok1;split
  ·rcases qTok_head (qs [] r') with e | ⟨s,e⟩<;>rw[e]<;>rfl
  ·split
   ·rcases nTok_head (dGo (c - 48) r') with e | ⟨s,e⟩ | ⟨k,e⟩<;>rw[e]<;>rfl
   ·have:c≠d:=by
     intro q;subst q;simp[aft] at h
    simpa [isSg] using this
theorem hd_yes {d:Nat}{r r':Txt}(h1:d≠39) (h3:isDig d=false) (h:aft d (skip r)=some r'):tokS r=.sg d::tokS r':=by
 have:=aft_eq h;rw[tokS_cons this];simp[tok1,h1,h3]
def doomed (x:Option (It × Txt)):Prop:=x=none\/∃ i r,x=some (i,72::r)
inductive Rel:Option (It × Txt)->Option (It × List Tk)->Prop
 | ok (i:It) (r:Txt):Rel (some (i,r)) (some (i,tokS r))
 | doom (x:Option (It × Txt)):doomed x->Rel x none
 | doomA (x:Option (It × Txt)) (i:It) (w:List Tk):doomed x->(∀ s,loose i (.text s)=false)->(∃ w',w=.bad::w'\/∃ s,w=.t s::w')->Rel x (some (i,w))
theorem Rel.none':Rel none none:=.doom _ (.inl rfl)
theorem hTok_or (k:Nat) (r:Txt):hTok k r=.bad\/∃ s,hTok k r=.t s:=by
 unfold hTok;split
 ·exact .inr ⟨_,rfl⟩
 ·exact .inl rfl
theorem hTok_nN (k:Nat) (r:Txt):isN (some (hTok k r))=false:=by
 rcases hTok_or k r with e | ⟨s,e⟩<;>rw[e]<;>rfl
theorem nAt_no {lo:Nat}{o:Option Tk}(h:isN o=false):nAt lo o=false:=by simp[nAt,h]
theorem rel_whole {u:Txt}(hu:u.length<=9000):Rel (wholeC u) (valuedT (.sg 73::tokS u)):=by
 simp only[valuedT];simp only[show ((73:Nat)=65)=False by simp,show ((73:Nat)=76)=False by simp,false_and,or_self,if_false,ne_eq,not_true_eq_false];unfold wholeC;cases numCase u hu with
 | no v h1 h2 h3 h4=>
  rw[nAt_no h4];simp only[sizeC,h1,BF,if_false];exact .none'
 | big w h1 h2=>
  rw[h2];simp only[sizeC,h1];exact .none'
 | hol k r h1 h2 hsu=>
  rw[h2];have:nAt 1 (hTok k r::tokS (r.drop k))[0]?=false:=nAt_no (hTok_nN k r);rw[this];simp only[BF,if_false];refine .doom _ ?_;simp only[sizeC,h1];by_cases q:k < 1
  ·rw[if_pos q];exact .inl rfl
  ·rw[if_neg q];exact .inr ⟨_,_,rfl⟩
 | yes k r h1 h2 h3 h4 hsu=>
  rw[h4];have n1:nAt 1 (Tk.n k::tokS r)[0]?=decide (1<=k):=rfl;have g1:(Tk.n k::tokS r)[1]?=(tokS r)[0]?:=rfl;have g2:(Tk.n k::tokS r)[2]?=(tokS r)[1]?:=rfl;have v0:nv (Tk.n k::tokS r)[0]?=k:=rfl;have hrl:=hsu.len;rw[n1,g1,g2,v0];simp only[sizeC,h1];by_cases q:k < 1
  ·rw[if_pos q,DF (by omega)];simp only[BF,if_false];exact .none'
  ·rw[if_neg q,DT (by omega)];simp only[if_true];cases ha:aft 46 r with
   | none=>
    have:=hd_no (d:=46) (r:=r) (by decide) (by rw[h3];exact ha);rw[this];simp only[BF,if_false];exact .ok _ r
   | some r1=>
    have e:=hd_yes (d:=46) (r:=r) (r':=r1) (by decide) (by decide) (by rw[h3];exact ha);have hs1:=(aft_suf (.rfl' r) ha).len;rw[e];have g3:isSg 46 (Tk.sg 46::tokS r1)[0]?=true:=rfl;have g4:(Tk.sg 46::tokS r1)[1]?=(tokS r1)[0]?:=rfl;rw[g3,g4];simp only[if_true];cases numCase r1 (by omega) with
    | no v i1 i2 i3 i4=>
     rw[nAt_no i4];simp only[i1,BR,BF,if_false];exact .none'
    | big w i1 i2=>
     rw[i2];simp only[i1];exact .none'
    | hol d r2 i1 i2 _=>
     rw[i2];have:nAt 0 (hTok d r2::tokS (r2.drop d))[0]?=false:=nAt_no (hTok_nN d r2);rw[this];simp only[BR,BF,if_false];refine .doom _ ?_;simp only[i1];by_cases q2:k < d
     ·simp only[show ¬ d < 0 by omega,if_false,if_pos q2];exact .inl rfl
     ·simp only[show ¬ d < 0 by omega,if_false,if_neg q2];exact .inr ⟨_,_,rfl⟩
    | yes d r2 i1 i2 i3 i4 _=>
     rw[i4];have m1:nAt 0 (Tk.n d::tokS r2)[0]?=true:=by simp[nAt,isN]
     have m2:nv (Tk.n d::tokS r2)[0]?=d:=rfl;rw[m1,m2];simp only[i1,show ¬ d < 0 by omega,if_false,BS];by_cases q2:k < d
     ·rw[if_pos q2,DT q2];simp only[BQ,BF,if_false];exact .none'
     ·rw[if_neg q2,DF q2];simp only[BP,if_true];exact .ok _ r2
theorem rel_real {c:Nat}{u:Txt}(hu:u.length<=9000) (hc:c=70\/c=69\/c=68\/c=71):Rel (realC c u) (valuedT (.sg c::tokS u)):=by
 have c1:¬ c=65:=by omega
 have c2:¬ c=76:=by omega
 have c3:¬ c=73:=by omega
 simp only[valuedT,c1,c2,false_and,or_self,if_false,ne_eq,c3,not_false_eq_true,if_true];unfold realC;have hcc:(c=70\/c=68)=(c=70\/c=68):=rfl;have hcd:(c=70\/c=68)->True:=fun _=>trivial
 have hlet:(¬ (c=70\/c=68))->True:=fun _=>trivial
 cases numCase u hu with
 | no v h1 h2 h3 h4=>
  rw[nAt_no h4];simp only[sizeC,h1,BF,if_false];exact .none'
 | big w h1 h2=>
  rw[h2];simp only[sizeC,h1];exact .none'
 | hol k r h1 h2 hsu=>
  rw[h2];have:nAt 1 (hTok k r::tokS (r.drop k))[0]?=false:=nAt_no (hTok_nN k r);rw[this];simp only[BF,if_false];refine .doom _ ?_;simp only[sizeC,h1];by_cases q:k < 1
  ·rw[if_pos q];exact .inl rfl
  ·rw[if_neg q];exact .inl rfl
 | yes k r h1 h2 h3 h4 hsu=>
  rw[h4];have n1:nAt 1 (Tk.n k::tokS r)[0]?=decide (1<=k):=rfl;have hrl:=hsu.len;rw[n1];simp only[sizeC,h1];by_cases q:k < 1
  ·rw[if_pos q,DF (by omega)];simp only[BF,if_false];exact .none'
  ·rw[if_neg q,DT (by omega)];simp only[if_true];unfold realsT;have g1:(Tk.n k::tokS r)[1]?=(tokS r)[0]?:=rfl;have g2:(Tk.n k::tokS r)[2]?=(tokS r)[1]?:=rfl;have g3:(Tk.n k::tokS r)[3]?=(tokS r)[2]?:=rfl;have g4:(Tk.n k::tokS r)[4]?=(tokS r)[3]?:=rfl;have v0:nv (Tk.n k::tokS r)[0]?=k:=rfl;have e3:(Tk.n k::tokS r).drop 3=(tokS r).drop 2:=rfl;have e5:(Tk.n k::tokS r).drop 5=(tokS r).drop 4:=rfl;rw[g1,g2,g3,g4,v0,e3,e5];cases ha:aft 46 r with
   | none=>
    have:=hd_no (d:=46) (r:=r) (by decide) (by rw[h3];exact ha);rw[this];simp only[BR,BF,if_false];exact .none'
   | some r1=>
    have e:=hd_yes (d:=46) (r:=r) (r':=r1) (by decide) (by decide) (by rw[h3];exact ha);have hs1:=(aft_suf (.rfl' r) ha).len;rw[e];have f0:isSg 46 (Tk.sg 46::tokS r1)[0]?=true:=rfl;have f1:(Tk.sg 46::tokS r1)[1]?=(tokS r1)[0]?:=rfl;have f2:(Tk.sg 46::tokS r1)[2]?=(tokS r1)[1]?:=rfl;have f3:(Tk.sg 46::tokS r1)[3]?=(tokS r1)[2]?:=rfl;have f4:(Tk.sg 46::tokS r1).drop 2=(tokS r1).drop 1:=rfl;have f5:(Tk.sg 46::tokS r1).drop 4=(tokS r1).drop 3:=rfl;rw[f0,f1,f2,f3,f4,f5];simp only[BS];cases numCase r1 (by omega) with
    | no v i1 i2 i3 i4=>
     rw[nAt_no i4];simp only[i1,BF,if_false];exact .none'
    | big w i1 i2=>
     rw[i2];simp only[i1];exact .none'
    | hol d r2 i1 i2 _=>
     rw[i2];have:nAt 0 (hTok d r2::tokS (r2.drop d))[0]?=false:=nAt_no (hTok_nN d r2);rw[this];simp only[BF,if_false];refine .doom _ ?_;simp only[i1,show ¬ d < 0 by omega,if_false];by_cases q2:c=70\/c=68
     ·rw[if_pos q2];exact .inr ⟨_,_,rfl⟩
     ·rw[if_neg q2];exact .inr ⟨_,_,rfl⟩
    | yes d r2 i1 i2 i3 i4 hs2=>
     rw[i4];have hl2:=hs2.len;have m1:nAt 0 (Tk.n d::tokS r2)[0]?=true:=by simp[nAt,isN]
     have m2:nv (Tk.n d::tokS r2)[0]?=d:=rfl;have m3:(Tk.n d::tokS r2)[1]?=(tokS r2)[0]?:=rfl;have m4:(Tk.n d::tokS r2)[2]?=(tokS r2)[1]?:=rfl;have m5:(Tk.n d::tokS r2).drop 1=tokS r2:=rfl;have m6:(Tk.n d::tokS r2).drop 3=(tokS r2).drop 2:=rfl;rw[m1,m2,m3,m4,m5,m6];simp only[i1,show ¬ d < 0 by omega,if_false,if_true];by_cases q2:c=70\/c=68
     ·rw[if_pos q2,if_pos q2];exact .ok _ r2
     rw[if_neg q2,if_neg q2];cases hb:aft 69 r2 with
     | none=>
      have:=hd_no (d:=69) (r:=r2) (by decide) (by rw[i3];exact hb);rw[this];simp only[BF,if_false];exact .ok _ r2
     | some r3=>
      have e2:=hd_yes (d:=69) (r:=r2) (r':=r3) (by decide) (by decide) (by rw[i3];exact hb);have hs3:=(aft_suf (.rfl' r2) hb).len;rw[e2];have p0:isSg 69 (Tk.sg 69::tokS r3)[0]?=true:=rfl;have p1:(Tk.sg 69::tokS r3)[1]?=(tokS r3)[0]?:=rfl;have p2:(Tk.sg 69::tokS r3).drop 2=(tokS r3).drop 1:=rfl;rw[p0,p1,p2];simp only[if_true];cases numCase r3 (by omega) with
      | no v j1 j2 j3 j4=>
       rw[nAt_no j4];simp only[j1,BF,if_false];exact .none'
      | big w j1 j2=>
       rw[j2];simp only[j1];exact .none'
      | hol x r4 j1 j2 _=>
       rw[j2];have:nAt 1 (hTok x r4::tokS (r4.drop x))[0]?=false:=nAt_no (hTok_nN x r4);rw[this];simp only[BF,if_false];refine .doom _ ?_;simp only[j1];by_cases q3:x < 1
       ·rw[if_pos q3];exact .inl rfl
       ·rw[if_neg q3];exact .inr ⟨_,_,rfl⟩
      | yes x r4 j1 j2 j3 j4 _=>
       rw[j4];have s1:nAt 1 (Tk.n x::tokS r4)[0]?=decide (1<=x):=rfl;have s2:nv (Tk.n x::tokS r4)[0]?=x:=rfl;have s3:(Tk.n x::tokS r4).drop 1=tokS r4:=rfl;rw[s1,s2,s3];simp only[j1];by_cases q3:x < 1
       ·rw[if_pos q3,DF (by omega)];simp only[BF,if_false];exact .none'
       ·rw[if_neg q3,DT (by omega)];simp only[if_true];exact .ok _ r4
theorem loose_text {i:It}(h1:i.word≠[47]) (h2:i.word≠[58]) (s:Txt):loose i (.text s)=false:=by
 have t:(It.text s).word=[72]:=rfl;have k:(It.text s).kind=[72]:=rfl;simp[loose,h1,h2,t,k]
theorem rel_value {c:Nat}{u:Txt}(hu:u.length<=9000) (hv:isVal c=true):Rel (valueC c u) (valuedT (.sg c::tokS u)):=by
 unfold valueC;by_cases q1:c=73
 ·subst q1;rw[if_pos rfl];exact rel_whole hu
 rw[if_neg q1];by_cases q2:c=76
 ·subst q2;rw[if_pos rfl];simp only[valuedT];simp only[show ((76:Nat)=65)=False by simp,false_and,or_true,if_false,if_true];cases numCase u hu with
  | no v h1 h2 h3 h4=>
   rw[nAt_no h4];simp only[sizeC,h1,BF,if_false,ZF];exact .none'
  | big w h1 h2=>
   rw[h2];simp only[sizeC,h1,ZF];exact .none'
  | hol k r h1 h2 hsu=>
   rw[h2];have:nAt 1 (hTok k r::tokS (r.drop k))[0]?=false:=nAt_no (hTok_nN k r);rw[this];simp only[BF,if_false];refine .doom _ ?_;simp only[sizeC,h1];by_cases q:k < 1
   ·rw[if_pos q];exact .inl rfl
   ·rw[if_neg q];exact .inr ⟨_,_,rfl⟩
  | yes k r h1 h2 h3 h4 hsu=>
   rw[h4];have n1:nAt 1 (Tk.n k::tokS r)[0]?=decide (1<=k):=rfl;have v0:nv (Tk.n k::tokS r)[0]?=k:=rfl;have e1:(Tk.n k::tokS r).drop 1=tokS r:=rfl;rw[n1,v0,e1];simp only[sizeC,h1];by_cases q:k < 1
   ·rw[if_pos q,DF (by omega)];simp only[BF,if_false,ZF];exact .none'
   ·rw[if_neg q,DT (by omega)];simp only[if_true,ZE];exact .ok _ r
 rw[if_neg q2];by_cases q3:c=65
 ·subst q3;rw[if_pos rfl];simp only[valuedT];simp only[true_and,true_or,if_true];have la:∀ s,loose (.nums [65] [none]) (.text s)=false:=fun s=>loose_text (by decide) (by decide) s
  cases numCase u hu with
  | no v h1 h2 h3 h4=>
   rw[if_pos h4];simp only[h1];rw[h3];exact .ok _ v
  | big w h1 h2=>
   rw[h2,if_pos (show isN (Tk.bad::w)[0]?=false from rfl)];simp only[h1];exact .doomA _ _ _ (.inl rfl) la ⟨w,.inl rfl⟩
  | hol k r h1 h2 hsu=>
   rw[h2,if_pos (show isN (hTok k r::tokS (r.drop k))[0]?=false from hTok_nN k r)];simp only[h1];refine .doomA _ _ _ ?_ la ⟨tokS (r.drop k),?_⟩
   ·by_cases q:k=0
    ·rw[if_pos q];exact .inl rfl
    ·rw[if_neg q];exact .inr ⟨_,_,rfl⟩
   ·rcases hTok_or k r with e | ⟨s,e⟩<;>rw[e]
    ·exact .inl rfl
    ·exact .inr ⟨s,rfl⟩
  | yes k r h1 h2 h3 h4 hsu=>
   rw[h4];have nn:isN (Tk.n k::tokS r)[0]?=true:=rfl;have n1:nAt 1 (Tk.n k::tokS r)[0]?=decide (1<=k):=rfl;have v0:nv (Tk.n k::tokS r)[0]?=k:=rfl;have e1:(Tk.n k::tokS r).drop 1=tokS r:=rfl;rw[nn,n1,v0,e1];simp only[h1,Bool.true_eq_false,if_false];by_cases q:k=0
   ·rw[if_pos q,DF (by omega)];simp only[BF,if_false];exact .none'
   ·rw[if_neg q,DT (by omega)];simp only[if_true];exact .ok _ r
 rw[if_neg q3];refine rel_real hu ?_;simp[isVal] at hv;omega
theorem valuedT_word {c:Nat}{w w':List Tk}{i:It}(hc:isVal c=true) (h:valuedT (.sg c::w)=some (i,w')):i.word≠[47]/\i.word≠[58]:=by
 have hf:=(valuedT_ok hc h).2;have hh:∃ d,isVal d=true/\i.word=[d]:=by
  simp only[valuedT] at h;split at h
  ·simp at h;rw[<- h.1];exact⟨65,by decide,rfl⟩
  split at h
  ·split at h
   ·simp only[OI,Prod.mk.injEq] at h;rw[<- h.1];exact⟨c,hc,rfl⟩
   split at h
   ·unfold realsT at h;split at h
    ·split at h
     ·simp only[OI,Prod.mk.injEq] at h;rw[<- h.1];exact⟨c,hc,rfl⟩
     split at h
     ·split at h
      ·simp only[OI,Prod.mk.injEq] at h;rw[<- h.1];exact⟨c,hc,rfl⟩
      ·cases h
     ·simp only[OI,Prod.mk.injEq] at h;rw[<- h.1];exact⟨c,hc,rfl⟩
    ·cases h
   split at h
   ·split at h
    ·simp only[OI,Prod.mk.injEq] at h;rw[<- h.1];exact⟨73,by decide,rfl⟩
    ·cases h
   ·simp only[OI,Prod.mk.injEq] at h;rw[<- h.1];exact⟨73,by decide,rfl⟩
  ·cases h
 obtain⟨d,hd,e⟩:=hh;rw[e];constructor<;>(intro q;simp at q;subst q;simp[isVal] at hd)
theorem rel_scale {c:Nat}{r:Txt}(hr:r.length<=9000) (hc:c=43\/c=45):Rel (scaleC c r) (controlT (.sg c::tokS r)):=by
 have c1:¬ (c=47\/c=58):=by omega
 have c2:¬ c=83:=by omega
 have c3:¬ c=66:=by omega
 have c4:¬ c=84:=by omega
 simp only[controlT,c1,c2,c3,c4,if_false];unfold scaleC;cases numCase r hr with
 | no v h1 h2 h3 h4=>
  simp only[sizeC,h1,h4,BR,BF,and_false,if_false];exact .none'
 | big w h1 h2=>
  rw[h2];have:isN (Tk.bad::w)[0]?=false:=rfl;simp only[sizeC,h1,this,BR,BF,and_false,if_false];exact .none'
 | hol k r1 h1 h2 hsu=>
  rw[h2];have:isN (hTok k r1::tokS (r1.drop k))[0]?=false:=hTok_nN k r1;simp only[sizeC,h1,this,BR,BF,and_false,if_false,show ¬ k < 0 by omega];exact .none'
 | yes k r1 h1 h2 h3 h4 hsu=>
  rw[h4];have n1:isN (Tk.n k::tokS r1)[0]?=true:=rfl;have v0:nv (Tk.n k::tokS r1)[0]?=k:=rfl;have g1:(Tk.n k::tokS r1)[1]?=(tokS r1)[0]?:=rfl;have e2:(Tk.n k::tokS r1).drop 2=(tokS r1).drop 1:=rfl;rw[n1,v0,g1,e2];simp only[sizeC,h1,show ¬ k < 0 by omega,if_false,BS];cases ha:aft 80 r1 with
  | none=>
   have:=hd_no (d:=80) (r:=r1) (by decide) (by rw[h3];exact ha);rw[this];simp only[BF,and_false,if_false];exact .none'
  | some r2=>
   have e:=hd_yes (d:=80) (r:=r1) (r':=r2) (by decide) (by decide) (by rw[h3];exact ha);rw[e];have p0:isSg 80 (Tk.sg 80::tokS r2)[0]?=true:=rfl;have p1:(Tk.sg 80::tokS r2).drop 1=tokS r2:=rfl;have:(if c=45 then -(k:Int) else (k:Int))=(if c=43 then (k:Int) else -(k:Int)):=by
    rcases hc with rfl | rfl<;>rfl
   rw[p0,p1,this,if_pos (show (c=43\/c=45)/\true=true from ⟨hc,rfl⟩)];exact .ok _ r2
theorem rel_tab {w:Txt}{r:Txt}(hr:r.length<=9000):Rel (tabC w r) (if nAt 1 (tokS r)[0]?=true then some (.nums w [nI (nv (tokS r)[0]?)],(tokS r).drop 1) else none):=by
 unfold tabC;cases numCase r hr with
 | no v h1 h2 h3 h4=>
  rw[nAt_no h4];simp only[sizeC,h1,BF,if_false,ZF];exact .none'
 | big w h1 h2=>
  rw[h2];simp only[sizeC,h1,ZF];exact .none'
 | hol k r1 h1 h2 hsu=>
  rw[h2];have:nAt 1 (hTok k r1::tokS (r1.drop k))[0]?=false:=nAt_no (hTok_nN k r1);rw[this];simp only[BF,if_false];refine .doom _ ?_;simp only[sizeC,h1];by_cases q:k < 1
  ·rw[if_pos q];exact .inl rfl
  ·rw[if_neg q];exact .inr ⟨_,_,rfl⟩
 | yes k r1 h1 h2 h3 h4 hsu=>
  rw[h4];have n1:nAt 1 (Tk.n k::tokS r1)[0]?=decide (1<=k):=rfl;have v0:nv (Tk.n k::tokS r1)[0]?=k:=rfl;have e1:(Tk.n k::tokS r1).drop 1=tokS r1:=rfl;rw[n1,v0,e1];simp only[sizeC,h1];by_cases q:k < 1
  ·rw[if_pos q,DF (by omega)];simp only[BF,if_false,ZF];exact .none'
  ·rw[if_neg q,DT (by omega)];simp only[if_true,ZE];exact .ok _ r1
theorem numC_skip (r:Txt):numC (skip r)=numC r:=by
 unfold numC;rw[skip_skip]
theorem tabC_skip (w r:Txt):tabC w (skip r)=tabC w r:=by
 unfold tabC sizeC;rw[numC_skip]
theorem rel_control {c:Nat}{r:Txt}(hr:r.length<=9000) (h4:¬ (c=43\/c=45)):Rel (controlC c r) (controlT (.sg c::tokS r)):=by
 have hsk:=skip_suf r;have hl:=hsk.len;unfold controlC;simp only[controlT];by_cases q1:c=47\/c=58
 ·rw[if_pos q1,if_pos q1];exact .ok _ r
 rw[if_neg q1,if_neg q1];have h5:¬ ((c=43\/c=45)/\(isN (tokS r)[0]?&&isSg 80 (tokS r)[1]?)=true):=fun h=>h4 h.1
 rw[if_neg h5];have two:∀ (a:Nat),a≠39->isDig a=false->(∀ r',skip r≠a::r')->isSg a (tokS r)[0]?=false:=by
  intro a ha1 ha2 h;refine hd_no ha2 ?_;cases hs:skip r with
  | nil=>rfl
  | cons d r'=>
   simp only[aft];rw[if_neg];intro q;subst q;exact h r' hs
 have yes:∀ (a:Nat) (r':Txt),a≠39->isDig a=false->skip r=a::r'->tokS r=.sg a::tokS r':=by
  intro a r' ha1 ha2 h;exact hd_yes ha1 ha2 (by rw[h];simp[aft])
 by_cases q3:c=83
 ·rw[if_pos q3,if_pos q3];cases hs:skip r with
  | nil=>
   rw[two 80 (by decide) (by decide) (by rw[hs];simp),two 83 (by decide) (by decide) (by rw[hs];simp),tokS_nil hs];exact .ok _ []
  | cons d r'=>
   by_cases qa:d=80
   ·subst qa;rw[yes 80 r' (by decide) (by decide) hs];have:isSg 80 (Tk.sg 80::tokS r')[0]?=true:=rfl;simp only[this,if_true,true_or];exact .ok _ r'
   by_cases qb:d=83
   ·subst qb;rw[yes 83 r' (by decide) (by decide) hs];have t1:isSg 80 (Tk.sg 83::tokS r')[0]?=false:=rfl;have t2:isSg 83 (Tk.sg 83::tokS r')[0]?=true:=rfl;simp only[t1,t2,if_true,or_true,BF,if_false];exact .ok _ r'
   rw[two 80 (by decide) (by decide) (by rw[hs];intro x h;injection h with h _;exact qa h),two 83 (by decide) (by decide) (by rw[hs];intro x h;injection h with h _;exact qb h)];simp only[qa,qb,or_self,if_false,BF];rw[<- tokS_skip r,hs];exact .ok _ (d::r')
 rw[if_neg q3,if_neg q3];by_cases q5:c=66
 ·rw[if_pos q5,if_pos q5];cases hs:skip r with
  | nil=>
   rw[two 78 (by decide) (by decide) (by rw[hs];simp),two 90 (by decide) (by decide) (by rw[hs];simp)];simp only[BF,if_false];exact .none'
  | cons d r'=>
   by_cases qa:d=78
   ·subst qa;rw[yes 78 r' (by decide) (by decide) hs];have:isSg 78 (Tk.sg 78::tokS r')[0]?=true:=rfl;simp only[this,if_true,true_or];exact .ok _ r'
   by_cases qb:d=90
   ·subst qb;rw[yes 90 r' (by decide) (by decide) hs];have t1:isSg 78 (Tk.sg 90::tokS r')[0]?=false:=rfl;have t2:isSg 90 (Tk.sg 90::tokS r')[0]?=true:=rfl;simp only[t1,t2,if_true,or_true,BF,if_false];exact .ok _ r'
   rw[two 78 (by decide) (by decide) (by rw[hs];intro x h;injection h with h _;exact qa h),two 90 (by decide) (by decide) (by rw[hs];intro x h;injection h with h _;exact qb h)];simp only[qa,qb,or_self,if_false,BF];exact .none'
 rw[if_neg q5,if_neg q5];by_cases q6:c=84
 ·rw[if_pos q6,if_pos q6];cases hs:skip r with
  | nil=>
   rw[two 76 (by decide) (by decide) (by rw[hs];simp),two 82 (by decide) (by decide) (by rw[hs];simp),tokS_nil hs];have:nAt 1 ([]:List Tk)[0]?=false:=rfl;simp only[this,BF,if_false];exact .none'
  | cons d r'=>
   have hr':r'.length<=9000:=by rw[hs] at hl;simp only[LC] at hl;omega
   by_cases qa:d=76
   ·subst qa;rw[yes 76 r' (by decide) (by decide) hs];have t1:isSg 76 (Tk.sg 76::tokS r')[0]?=true:=rfl;have t3:(Tk.sg 76::tokS r')[1]?=(tokS r')[0]?:=rfl;have t4:(Tk.sg 76::tokS r').drop 2=(tokS r').drop 1:=rfl;simp only[t1,t3,t4,if_true,true_or];exact rel_tab hr'
   by_cases qb:d=82
   ·subst qb;rw[yes 82 r' (by decide) (by decide) hs];have t1:isSg 76 (Tk.sg 82::tokS r')[0]?=false:=rfl;have t2:isSg 82 (Tk.sg 82::tokS r')[0]?=true:=rfl;have t3:(Tk.sg 82::tokS r')[1]?=(tokS r')[0]?:=rfl;have t4:(Tk.sg 82::tokS r').drop 2=(tokS r').drop 1:=rfl;simp only[t1,t2,t3,t4,if_true,or_true,BF,if_false];exact rel_tab hr'
   rw[two 76 (by decide) (by decide) (by rw[hs];intro x h;injection h with h _;exact qa h),two 82 (by decide) (by decide) (by rw[hs];intro x h;injection h with h _;exact qb h)];simp only[qa,qb,or_self,if_false,BF];rw[<- hs,tabC_skip];exact rel_tab hr
 rw[if_neg q6,if_neg q6];exact .none'
theorem quoted_qs:∀ (m:Nat) (u out:Txt),u.length<=m->quotedGo out u=match (qs out u).2 with
  | []=>none
  | _::r=>if (qs out u).1=[] then none else some (.text (qs out u).1,r)
 | _,[],out,h=>by simp[quotedGo,qs]
 | m + 1,c::r,out,h=>by
  simp only[LC] at h;unfold quotedGo;rw[qs.eq_def];by_cases q:c=39
  ·subst q;simp only[ne_eq,not_true_eq_false,if_false];cases r with
   | nil=>rfl
   | cons d r'=>
    simp only[LC] at h;by_cases q2:d=39
    ·simp only[if_pos q2];exact quoted_qs m r' _ (by omega)
    ·simp only[if_neg q2]
  ·simp only[ne_eq,q,not_false_eq_true,if_true];exact quoted_qs m r _ (by omega)
theorem rel_quoted {r:Txt}:Rel (quotedGo [] r) (singleT (tokS (39::r))):=by
 have e:tokS (39::r)=(qTok (qs [] r)).1::tokS (qTok (qs [] r)).2:=by
  rw[tokS_cons (show skip (39::r)=39::r by simp[skip])];simp[tok1]
 rw[e,quoted_qs _ r [] (Nat.le_refl _)];generalize qs [] r=p;obtain⟨s,r2⟩:=p;cases r2 with
 | nil=>
  have:qTok (s,[])=(.bad,[]):=rfl;rw[this];exact .none'
 | cons d r3=>
  by_cases q:s=[]
  ·subst q;have:qTok ([],d::r3)=(.bad,r3):=by simp[qTok]
   rw[this];simp only[if_true];exact .none'
  ·have:qTok (s,d::r3)=(.t s,r3):=by simp[qTok,q]
   rw[this];simp only[if_neg q];exact .ok _ r3
theorem singleT_bad (w:List Tk):singleT (.bad::w)=none:=rfl
theorem singleT_t (s:Txt) (w:List Tk):singleT (.t s::w)=some (.text s,w):=rfl
theorem singleT_sg {c:Nat}{w:List Tk}:singleT (.sg c::w)=if isVal c then valuedT (.sg c::w) else controlT (.sg c::w):=rfl
theorem rel_item {g:Nat->Txt->Option (It × Txt)}{c:Nat}{r:Txt}(hr:r.length<=8000) (h32:c≠32) (h40:c≠40) (hnp:∀ k r',isDig c=true->numC (c::r)=some (some k,40::r')->k=0) :
  Rel (itemC g (c::r)) (singleT (tokS (c::r))):=by
 simp only[itemC];by_cases hd:isDig c=true
 ·rw[if_pos hd];unfold countedC;cases numCase (c::r) (by simp only[LC];omega) with
  | no v h1 h2 h3 h4=>
   rw[numC_dig hd] at h1;cases hn:numGo (c - 48) r with
   | none=>rw[hn] at h1;cases h1
   | some p=>rw[hn] at h1;simp at h1
  | big w h1 h2=>
   rw[h2,singleT_bad];simp only[h1];exact .none'
  | hol k r1 h1 h2 hsu=>
   rw[h2];simp only[h1];simp only[show ((72:Nat)=80)=False by simp,show ((72:Nat)=88)=False by simp,if_false,if_true];by_cases q:k=0
   ·rw[if_pos q];have:hTok k r1=.bad:=by unfold hTok;rw[if_neg (by omega)]
    rw[this,singleT_bad];exact .none'
   ·rw[if_neg q];unfold countedText hTok;by_cases q2:k<=r1.length
    ·rw[if_pos q2,if_pos ⟨by omega,q2⟩,singleT_t];exact .ok _ _
    ·rw[if_neg q2,if_neg (fun h=>q2 h.2),singleT_bad];exact .none'
  | yes k r1 h1 h2 h3 h4 hsu=>
   rw[h4];simp only[h1];simp only[singleT];have hr1:=hsu.len;simp only[LC] at hr1;cases r1 with
   | nil=>
    have t0:tokS []=[]:=rfl;rw[t0];have:valO ([]:List Tk)[0]?=false:=rfl;have t1:isSg 80 ([]:List Tk)[0]?=false:=rfl;have t2:isSg 88 ([]:List Tk)[0]?=false:=rfl;simp only[this,t1,t2,BF,and_false,if_false];exact .none'
   | cons c1 r'=>
    simp only[LC] at hr1;have hc72:c1≠72:=by intro q;subst q;simp[aft] at h2
    have hc32:c1≠32:=by
     intro q;subst q;have h5:=skip_len r';rw[show skip (32::r')=skip r' from rfl] at h3;rw[h3] at h5;simp only[LC] at h5;omega
    have no:∀ d,isDig d=false->c1≠d->isSg d (tokS (c1::r'))[0]?=false:=fun d hd hne=>hd_no hd (by rw[h3];simp[aft,hne])
    have ok1:isDig c1=false->c1≠39->tokS (c1::r')=.sg c1::tokS r':=fun a b=>tk_sg hc32 b a
    dsimp only;by_cases q1:c1=80
    ·subst q1;rw[ok1 (by decide) (by decide)];have:isSg 80 (Tk.sg 80::tokS r')[0]?=true:=rfl;simp only[this,if_true];exact .ok _ r'
    rw[if_neg q1,no 80 (by decide) q1];simp only[BF,if_false];by_cases q0:k=0
    ·rw[if_pos q0,if_neg (by omega),if_neg (by omega)];exact .none'
    rw[if_neg q0];by_cases q2:c1=88
    ·subst q2;rw[ok1 (by decide) (by decide)];have:isSg 88 (Tk.sg 88::tokS r')[0]?=true:=rfl;rw[this,if_pos rfl,if_pos ⟨by omega,rfl⟩];exact .ok _ r'
    rw[if_neg q2,no 88 (by decide) q2,if_neg hc72];simp only[BF,and_false,if_false];by_cases q3:c1=40
    ·subst q3;exact absurd (hnp k r' hd h1) q0
    rw[if_neg q3];by_cases q4:isVal c1=true
    ·have hv:=val_ne q4;rw[if_pos q4,ok1 hv.2.2.2.2.2.2.2 hv.2.2.2.2.1];have t1:valO (Tk.sg c1::tokS r')[0]?=true:=q4;rw[t1,if_pos ⟨by omega,rfl⟩];have hrel:=rel_value (c:=c1) (u:=r') (by omega) q4;have hwd:=fun i w (h:valuedT (.sg c1::tokS r')=some (i,w))=>valuedT_word q4 h
     generalize valueC c1 r'=x at hrel;generalize valuedT (.sg c1::tokS r')=y at hrel hwd;have dm:doomed x->doomed (x.map fun p=>(if 1 < k then It.rep k p.1 else p.1,p.2)):=by
      intro h;rcases h with rfl | ⟨i,r2,rfl⟩
      ·exact .inl rfl
      ·exact .inr ⟨_,_,rfl⟩
     cases hrel with
     | ok i r2=>exact .ok _ r2
     | doom x h=>exact .doom _ (dm h)
     | doomA x i w h h1 h2=>
      refine .doomA _ _ _ (dm h) ?_ h2;intro s;by_cases q5 : 1 < k
      ·rw[if_pos q5];exact loose_text (by show It.word (.rep _ _)≠_;simp[It.word]) (by show It.word (.rep _ _)≠_;simp[It.word]) s
      ·rw[if_neg q5];exact h1 s
    ·rw[if_neg q4];have t1:valO (tokS (c1::r'))[0]?=false:=by
      rw[tokS_cons (show skip (c1::r')=c1::r' from h3)];show valO (some (tok1 c1 r').1)=false;unfold tok1;split
      ·rcases qTok_head (qs [] r') with e | ⟨s,e⟩<;>rw[e]<;>rfl
      ·split
       ·rcases nTok_head (dGo (c1 - 48) r') with e | ⟨s,e⟩ | ⟨k,e⟩<;>rw[e]<;>rfl
       ·simpa [valO] using q4
     rw[t1];simp only[BF,and_false,if_false];exact .none'
 ·rw[if_neg hd];have hd':isDig c=false:=by simpa using hd
  by_cases q1:c=39
  ·subst q1;rw[if_pos rfl];exact rel_quoted
  rw[if_neg q1,tk_sg h32 q1 hd',singleT_sg];by_cases q2:c=43\/c=45
  ·rw[if_pos q2];have:isVal c=false:=by rcases q2 with rfl | rfl<;>rfl
   rw[this];simp only[BF,if_false];exact rel_scale (by omega) q2
  rw[if_neg q2,if_neg h40];by_cases q3:isVal c=true
  ·rw[if_pos q3,if_pos q3];exact rel_value (by omega) q3
  ·rw[if_neg q3,if_neg q3];exact rel_control (by omega) q2
theorem mach_irr:∀ (M M':Nat) (B:List (Nat × List It × Bool)) (k:Nat) (acc:List It) (after:Bool) (w:List Tk),w.length < M->w.length < M'->mach M B k acc after w=mach M' B k acc after w
 | M + 1,M' + 1,B,k,acc,after,w,h1,h2=>by
  unfold mach;have hdl:∀ (d:Nat),0 < d->d<=w.length->(w.drop d).length < M/\(w.drop d).length < M':=fun d h hd=>by rw[List.length_drop];omega
  cases q1:isSg 44 w[0]? with
  | true=>
   have hl:=lt_of_sg q1;obtain⟨a,b⟩:=hdl 1 (by omega) (by omega);simp only[if_true];rw[mach_irr M M' B k acc true (w.drop 1) a b]
  | false=>
  simp only[BF,if_false];cases q2:isSg 41 w[0]? with
  | true=>
   have hl:=lt_of_sg q2;obtain⟨a,b⟩:=hdl 1 (by omega) (by omega);simp only[if_true];cases B with
   | nil=>rfl
   | cons x B=>
    obtain⟨k',acc',after'⟩:=x;simp only;rw[mach_irr M M' B k' _ false (w.drop 1) a b]
  | false=>
  simp only[BF,if_false];cases q3:isSg 40 w[0]? with
  | true=>
   have hl:=lt_of_sg q3;obtain⟨a,b⟩:=hdl 1 (by omega) (by omega);simp only[if_true];rw[mach_irr M M' _ _ _ _ (w.drop 1) a b]
  | false=>
  simp only[BF,if_false];cases q4:(isN w[0]?&&(decide (0 < nv w[0]?)&&isSg 40 w[1]?)) with
  | true=>
   have hl:=lt_of_sg (Bool.and_eq_true_iff.mp (Bool.and_eq_true_iff.mp q4).2).2;obtain⟨a,b⟩:=hdl 2 (by omega) (by omega);simp only[if_true];rw[mach_irr M M' _ _ _ _ (w.drop 2) a b]
  | false=>
  simp only[BF,if_false];cases hs:singleT w with
  | none=>rfl
  | some p=>
   obtain⟨i,w'⟩:=p;obtain⟨d,h0,hd,rfl,_⟩:=singleT_ok hs;obtain⟨a,b⟩:=hdl d h0 hd;simp only;rw[mach_irr M M' _ _ _ _ (w.drop d) a b]
theorem mach_succ (f:Nat) (B:List (Nat × List It × Bool)) (k:Nat) (acc:List It) (after:Bool) (w:List Tk):mach (f + 1) B k acc after w =
  if isSg 44 w[0]? then (if after||acc.isEmpty then none else mach f B k acc true (w.drop 1)) else
  if isSg 41 w[0]? then
   (if after then none else
   match B with
   | []=>if (w.drop 1).isEmpty then some acc else none
   | (k',acc',after')::B'=>if acc.isEmpty then none else
    if !after'&&!looseLast acc' (.grp k acc) then none else mach f B' k' (acc'++[.grp k acc]) false (w.drop 1)) else
  if isSg 40 w[0]? then mach f ((k,acc,after)::B) 1 [] false (w.drop 1) else
  if isN w[0]?&&(decide (0 < nv w[0]?)&&isSg 40 w[1]?) then mach f ((k,acc,after)::B) (nv w[0]?) [] false (w.drop 2) else
  match singleT w with
  | none=>none
  | some (i,w')=>if !after&&!looseLast acc i then none else mach f B k (acc++[i]) false w':=rfl
def machS (B:List (Nat × List It × Bool)) (k:Nat) (acc:List It) (after:Bool) (w:List Tk):Option (List It):=mach (w.length + 1) B k acc after w
def closeS (B:List (Nat × List It × Bool)) (k:Nat) (l:List It) (w:List Tk):Option (List It):=match B with
 | []=>if w.isEmpty then some l else none
 | (k',acc',after')::B'=>if l.isEmpty then none else if !after'&&!looseLast acc' (.grp k l) then none else machS B' k' (acc'++[.grp k l]) false w
theorem mach_S {M:Nat}{B:List (Nat × List It × Bool)}{k:Nat}{acc:List It}{after:Bool}{w:List Tk}(h:w.length < M):mach M B k acc after w=machS B k acc after w:=mach_irr _ _ _ _ _ _ _ h (by omega)
section
variable {B:List (Nat × List It × Bool)}{k:Nat}{acc:List It}{after:Bool}{w:List Tk}
theorem m_comma:machS B k acc after (.sg 44::w)=if after||acc.isEmpty then none else machS B k acc true w:=by
 rw[show machS B k acc after _=mach _ B k acc after _ from rfl,mach_succ];have:isSg 44 (Tk.sg 44::w)[0]?=true:=rfl;simp only[this,if_true,List.drop_succ_cons,List.drop_zero];rw[mach_S (by simp)]
theorem m_close:machS B k acc after (.sg 41::w)=if after then none else closeS B k acc w:=by
 rw[show machS B k acc after _=mach _ B k acc after _ from rfl,mach_succ];have t1:isSg 44 (Tk.sg 41::w)[0]?=false:=rfl;have t2:isSg 41 (Tk.sg 41::w)[0]?=true:=rfl;simp only[t1,t2,if_true,List.drop_succ_cons,List.drop_zero,BF,if_false];unfold closeS;cases B with
 | nil=>rfl
 | cons x B=>
  obtain⟨k',acc',after'⟩:=x;simp only;rw[mach_S (by simp)]
theorem m_open:machS B k acc after (.sg 40::w)=machS ((k,acc,after)::B) 1 [] false w:=by
 rw[show machS B k acc after _=mach _ B k acc after _ from rfl,mach_succ];have t1:isSg 44 (Tk.sg 40::w)[0]?=false:=rfl;have t2:isSg 41 (Tk.sg 40::w)[0]?=false:=rfl;have t3:isSg 40 (Tk.sg 40::w)[0]?=true:=rfl;simp only[t1,t2,t3,if_true,List.drop_succ_cons,List.drop_zero,BF,if_false];rw[mach_S (by simp)]
theorem m_nopen {m:Nat}(hm : 0 < m):machS B k acc after (.n m::.sg 40::w)=machS ((k,acc,after)::B) m [] false w:=by
 rw[show machS B k acc after _=mach _ B k acc after _ from rfl,mach_succ];have t1:isSg 44 (Tk.n m::.sg 40::w)[0]?=false:=rfl;have t2:isSg 41 (Tk.n m::.sg 40::w)[0]?=false:=rfl;have t3:isSg 40 (Tk.n m::.sg 40::w)[0]?=false:=rfl;have t4:isN (Tk.n m::.sg 40::w)[0]?=true:=rfl;have t5:nv (Tk.n m::.sg 40::w)[0]?=m:=rfl;have t6:isSg 40 (Tk.n m::.sg 40::w)[1]?=true:=rfl;simp only[t1,t2,t3,t4,t5,t6,DT hm,BA,if_true,List.drop_succ_cons,List.drop_zero,BF,if_false];rw[mach_S (by simp only[LC];omega)]
theorem m_item (h1:isSg 44 w[0]?=false) (h2:isSg 41 w[0]?=false) (h3:isSg 40 w[0]?=false) (h4:(isN w[0]?&&(decide (0 < nv w[0]?)&&isSg 40 w[1]?))=false) :
  machS B k acc after w=match singleT w with
   | none=>none
   | some (i,w')=>if !after&&!looseLast acc i then none else machS B k (acc++[i]) false w':=by
 rw[show machS B k acc after _=mach _ B k acc after _ from rfl,mach_succ];simp only[h1,h2,h3,h4,BF,if_false];cases hs:singleT w with
 | none=>rfl
 | some p=>
  obtain⟨i,w'⟩:=p;obtain⟨d,h0,hd,rfl,_⟩:=singleT_ok hs;simp only;rw[mach_S (by rw[List.length_drop];omega)]
end
theorem itemC_H {g:Nat->Txt->Option (It × Txt)}(r:Txt):itemC g (72::r)=none:=by
 simp[itemC,isDig,isVal,controlC]
theorem itemsC_H (f lim:Nat) (acc:List It) (after:Bool) (r:Txt):itemsC f lim acc after (72::r)=none:=by
 cases f with
 | zero=>rfl
 | succ f=>
  rw[itemsC_succ];have:skip (72::r)=72::r:=by simp[skip]
  rw[this];simp[itemC_H]
theorem mach_t {B:List (Nat × List It × Bool)}{k:Nat}{acc:List It}{i:It}{w:List Tk}(hi:∀ s,loose i (.text s)=false) (hw:∃ w',w=.bad::w'\/∃ s,w=.t s::w'):machS B k (acc++[i]) false w=none:=by
 obtain⟨w',rfl | ⟨s,rfl⟩⟩:=hw
 ·rw[m_item rfl rfl rfl rfl,singleT_bad]
 ·rw[m_item rfl rfl rfl rfl,singleT_t];have:looseLast (acc++[i]) (.text s)=false:=by simp[looseLast,hi]
  simp[this]
theorem eqv:∀ (f lim:Nat) (acc:List It) (after:Bool) (u:Txt) (B:List (Nat × List It × Bool)) (k:Nat),u.length<=8000->u.length < f->u.length<=lim->
  machS B k acc after (tokS u)=match itemsC f lim acc after u with
   | none=>none
   | some (l,r)=>closeS B k l (tokS r)
 | 0,lim,acc,after,u,B,k,h0,h1,h2=>by omega
 | f + 1,lim,acc,after,u,B,k,h0,h1,h2=>by
  have hs:=skip_suf u;have hl:=hs.len;have hss:=skip_skip u;rw[itemsC_succ];cases hk:skip u with
  | nil=>rw[tokS_nil hk];rfl
  | cons c r=>
   rw[hk] at hl hss;simp only[LC] at hl;have hc32:c≠32:=by
    intro q;subst q;have h5:=skip_len r;rw[show skip (32::r)=skip r from rfl] at hss;rw[hss] at h5;simp only[LC] at h5;omega
   have htk:tokS u=tokS (c::r):=by rw[<- tokS_skip u,hk]
   rw[htk];simp only;by_cases q44:c=44
   ·subst q44;rw[tk_sg (by decide) (by decide) (by decide),m_comma,if_pos (show (44:Nat)=44\/(44:Nat)=41 from .inl rfl)];have:(after||(decide ((44:Nat)=44)&&acc.isEmpty))=(after||acc.isEmpty):=by simp
    rw[this];cases hz:(after||acc.isEmpty) with
    | true=>simp only[if_true]
    | false=>
     simp only[BF,if_false,show ((44:Nat)=41)=False by simp];exact eqv f lim acc true r B k (by omega) (by omega) (by omega)
   by_cases q41:c=41
   ·subst q41;rw[tk_sg (by decide) (by decide) (by decide),m_close,if_pos (show (41:Nat)=44\/(41:Nat)=41 from .inr rfl)];have:(after||(decide ((41:Nat)=44)&&acc.isEmpty))=after:=by simp
    rw[this];cases after with
    | true=>simp only[if_true]
    | false=>simp only[BF,if_false,if_true]
   rw[if_neg (show ¬ (c=44\/c=41) by omega)];obtain⟨m,rfl⟩ : ∃ m,lim=m + 1:=⟨lim - 1,by omega⟩
   have grp:∀ (kk:Nat) (r':Txt),r'.length + 1<=u.length->machS ((k,acc,after)::B) kk [] false (tokS r')=match (match grpC f (m + 1) kk r' with
     | none=>none
     | some (i,u')=>if !after&&!looseLast acc i then none else itemsC f (m + 1) (acc++[i]) false u') with
     | none=>none
     | some (l,r)=>closeS B k l (tokS r):=by
    intro kk r' hr';rw[eqv f m [] false r' ((k,acc,after)::B) kk (by omega) (by omega) (by omega)];unfold grpC;simp only;cases hi:itemsC f m [] false r' with
    | none=>rfl
    | some p=>
     obtain⟨l,r2⟩:=p;have hr2:=(itemsC_suf _ _ _ _ _ hi).len;simp only[LC] at hr2;cases l with
     | nil=>rfl
     | cons i l=>
      simp only[closeS,List.isEmpty_cons,BF,if_false];cases hz:(!after&&!looseLast acc (It.grp kk (i::l))) with
      | true=>simp only[if_true]
      | false=>
       simp only[BF,if_false];exact eqv f (m + 1) _ false r2 B k (by omega) (by omega) (by omega)
   by_cases q40:c=40
   ·subst q40;rw[tk_sg (by decide) (by decide) (by decide),m_open];have:itemC (grpC f (m + 1)) (40::r)=grpC f (m + 1) 1 r:=by simp[itemC,isDig]
    rw[this];exact grp 1 r (by omega)
   by_cases hnp:∃ kk r',isDig c=true/\numC (c::r)=some (some kk,40::r')/\0 < kk
   ·obtain⟨kk,r',hd,hn,hkk⟩:=hnp;have hit:itemC (grpC f (m + 1)) (c::r)=grpC f (m + 1) kk r':=by
     simp only[itemC,hd,if_true,countedC,hn];simp only[show ((40:Nat)=80)=False by simp,show ((40:Nat)=88)=False by simp,show ((40:Nat)=72)=False by simp,if_false,show ¬ kk=0 by omega,if_true]
    rw[hit];cases numCase (c::r) (by simp only[LC];omega) with
    | no v g1 g2 g3 g4=>rw[hn] at g1;simp at g1
    | big w g1 g2=>rw[hn] at g1;cases g1
    | hol k2 r1 g1 g2 g3=>rw[hn] at g1;simp at g1
    | yes k2 r1 g1 g2 g3 g4 g5=>
     rw[hn] at g1;simp at g1;obtain⟨rfl,rfl⟩:=g1;have hlen:=g5.len;simp only[LC] at hlen;rw[g4,tk_sg (by decide) (by decide) (by decide),m_nopen hkk];exact grp kk r' (by omega)
   have hnp':∀ kk r',isDig c=true->numC (c::r)=some (some kk,40::r')->kk=0:=by
    intro kk r' hd hn;apply Classical.byContradiction;intro q;exact hnp ⟨kk,r',hd,hn,by omega⟩
   have hrel:=rel_item (g:=grpC f (m + 1)) (c:=c) (r:=r) (by omega) hc32 q40 hnp';have n44:isSg 44 (tokS (c::r))[0]?=false:=hd_no (by decide) (by rw[hss];simp[aft,q44]);have n41:isSg 41 (tokS (c::r))[0]?=false:=hd_no (by decide) (by rw[hss];simp[aft,q41]);have n40:isSg 40 (tokS (c::r))[0]?=false:=hd_no (by decide) (by rw[hss];simp[aft,q40]);have nno:(isN (tokS (c::r))[0]?&&(decide (0 < nv (tokS (c::r))[0]?)&&isSg 40 (tokS (c::r))[1]?))=false:=by
    cases numCase (c::r) (by simp only[LC];omega) with
    | no v g1 g2 g3 g4=>rw[g4];rfl
    | big w g1 g2=>rw[g2];rfl
    | hol k2 r1 g1 g2 g3=>rw[g2];rw[show isN (hTok k2 r1::tokS (r1.drop k2))[0]?=false from hTok_nN k2 r1];rfl
    | yes k2 r1 g1 g2 g3 g4 g5=>
     rw[g4];have t1:isN (Tk.n k2::tokS r1)[0]?=true:=rfl;have t2:nv (Tk.n k2::tokS r1)[0]?=k2:=rfl;have t3:(Tk.n k2::tokS r1)[1]?=(tokS r1)[0]?:=rfl;rw[t1,t2,t3,BS];by_cases q0 : 0 < k2
     ·rw[DT q0,BS];refine hd_no (by decide) ?_;rw[g3];cases r1 with
      | nil=>rfl
      | cons d r2=>
       simp only[aft];rw[if_neg];intro q;subst q;have hd:isDig c=true:=by
        cases hq:isDig c with
        | true=>rfl
        | false=>
         unfold numC at g1;rw[hss] at g1;simp[hq] at g1
       have:=hnp' k2 r2 hd g1;omega
     ·rw[DF q0];rfl
   rw[m_item n44 n41 n40 nno];have hsufI:=fun i u' (h:itemC (grpC f (m + 1)) (c::r)=some (i,u'))=>itemC_suf (g:=grpC f (m + 1)) (fun k u i r h=>(grpC_suf h).tail) h
   generalize itemC (grpC f (m + 1)) (c::r)=x at hrel hsufI;generalize singleT (tokS (c::r))=y at hrel;cases hrel with
   | ok i r2=>
    have hr2:=(hsufI i r2 rfl).len;simp only;cases hz:(!after&&!looseLast acc i) with
    | true=>simp only[if_true]
    | false=>
     simp only[BF,if_false];exact eqv f (m + 1) _ false r2 B k (by omega) (by omega) (by omega)
   | doom x h=>
    rcases h with rfl | ⟨i,r2,rfl⟩
    ·rfl
    ·simp only;rw[itemsC_H];cases (!after&&!looseLast acc i)<;>rfl
   | doomA x i w h g1 g2=>
    have hm:=mach_t (B:=B) (k:=k) (acc:=acc) g1 g2;have hz:(match (some (i,w):Option (It × List Tk)) with
     | none=>none
     | some (i,w')=>if !after&&!looseLast acc i then none else machS B k (acc++[i]) false w')=none:=by
     simp only;rw[hm];split<;>rfl
    refine Eq.trans hz ?_;rcases h with rfl | ⟨i2,r2,rfl⟩
    ·rfl
    ·simp only;rw[itemsC_H];cases (!after&&!looseLast acc i2)<;>rfl
def nb (o:Option Tk):Bool:=!isSg 40 o&&!isSg 41 o
theorem nb_n {o:Option Tk}(h:isN o=true):nb o=true:=by
 rcases o with _ | ⟨k⟩ | ⟨s⟩ | _ | ⟨d⟩<;>first | rfl | cases h
theorem nb_sg {c:Nat}{o:Option Tk}(h:isSg c o=true) (h1:c≠40) (h2:c≠41):nb o=true:=by
 rcases o with _ | ⟨k⟩ | ⟨s⟩ | _ | ⟨d⟩
 ·rfl
 ·rfl
 ·rfl
 ·rfl
 ·simp[isSg] at h;subst h;simp[nb,isSg,h1,h2]
theorem nb_val {o:Option Tk}(h:valO o=true):nb o=true:=by
 rcases o with _ | ⟨k⟩ | ⟨s⟩ | _ | ⟨d⟩
 ·rfl
 ·rfl
 ·rfl
 ·rfl
 ·have hv:=val_ne (show isVal d=true from h);have:d≠41:=by intro q;subst q;simp[valO,isVal] at h
  simp[nb,isSg,hv.2.2.2.1,this]
def nbs (w:List Tk) (j:Nat):Prop:=∀ i,i < j->nb w[i]?=true
theorem nbs0 (w:List Tk):nbs w 0:=fun i h=>by omega
theorem nbsS {w:List Tk}{j:Nat}(h:nbs w j) (h2:nb w[j]?=true):nbs w (j + 1):=fun i hi=>by
 by_cases q:i=j
 ·subst q;exact h2
 ·exact h i (by omega)
theorem nbsC {k:Tk}{w:List Tk}{j:Nat}(h0:nb (some k)=true) (h:nbs w j):nbs (k::w) (j + 1):=fun i hi=>by
 cases i with
 | zero=>exact h0
 | succ i=>exact h i (by omega)
def okB (w w':List Tk):Prop:=∃ j,0 < j/\j<=w.length/\w'=w.drop j/\nbs w j
theorem okB_cons {k:Tk}{w w':List Tk}(h0:nb (some k)=true) (h:okB w w'):okB (k::w) w':=by
 obtain⟨j,a,b,c,d⟩:=h;exact⟨j + 1,by omega,by simp only[LC];omega,by simpa using c,nbsC h0 d⟩
theorem okB_one {k:Tk}{w:List Tk}(h0:nb (some k)=true):okB (k::w) w:=⟨1,by omega,by simp,by simp,nbsC h0 (nbs0 w)⟩
theorem realsT_nb {c:Nat}{w w':List Tk}{i:It}(h0:isN w[0]?=true) (h:realsT c w=some (i,w')):okB w w':=by
 unfold realsT at h;split at h
 ·rename_i q;obtain⟨qa,qb⟩:=Bool.and_eq_true_iff.mp q;have l2:=lt_of_n (nAt_n qb);have n3:nbs w 3:=nbsS (nbsS (nbsS (nbs0 w) (nb_n h0)) (nb_sg qa (by decide) (by decide))) (nb_n (nAt_n qb));split at h
  ·simp at h;rw[<- h.2];exact⟨3,by omega,by omega,rfl,n3⟩
  ·split at h
   ·rename_i q3;split at h
    ·rename_i q4;have l4:=lt_of_n (nAt_n q4);simp at h;rw[<- h.2];exact⟨5,by omega,by omega,rfl,nbsS (nbsS n3 (nb_sg q3 (by decide) (by decide))) (nb_n (nAt_n q4))⟩
    ·cases h
   ·simp at h;rw[<- h.2];exact⟨3,by omega,by omega,rfl,n3⟩
 ·cases h
theorem valuedT_nb {c:Nat}{w w':List Tk}{i:It}(hc:isVal c=true) (h:valuedT (.sg c::w)=some (i,w')):okB (.sg c::w) w':=by
 have h0:nb (some (.sg c))=true:=nb_val hc;simp only[valuedT] at h;split at h
 ·simp at h;rw[<- h.2];exact okB_one h0
 split at h
 ·rename_i q0;have l0:=lt_of_n (nAt_n q0);have n1:nbs w 1:=nbsS (nbs0 w) (nb_n (nAt_n q0));split at h
  ·simp only[OI,Prod.mk.injEq] at h;rw[<- h.2];exact okB_cons h0 ⟨1,by omega,by omega,rfl,n1⟩
  split at h
  ·exact okB_cons h0 (realsT_nb (nAt_n q0) h)
  split at h
  ·rename_i q1;split at h
   ·rename_i q2;have q2':=nAt_n (Bool.and_eq_true_iff.mp q2).1;have l2:=lt_of_n q2';simp only[OI,Prod.mk.injEq] at h;rw[<- h.2];exact okB_cons h0 ⟨3,by omega,by omega,rfl,nbsS (nbsS n1 (nb_sg q1 (by decide) (by decide))) (nb_n q2')⟩
   ·cases h
  ·simp only[OI,Prod.mk.injEq] at h;rw[<- h.2];exact okB_cons h0 ⟨1,by omega,by omega,rfl,n1⟩
 ·cases h
theorem controlT_nb {w w':List Tk}{i:It}(h:controlT w=some (i,w')):okB w w':=by
 unfold controlT at h;split at h
 ·simp at h;rw[<- h.2];exact okB_one rfl
 ·rename_i c w;split at h
  ·rename_i q;simp at h;rw[<- h.2];exact okB_one (by rcases q with rfl | rfl<;>rfl)
  split at h
  ·rename_i q;obtain⟨qa,qb⟩:=Bool.and_eq_true_iff.mp q.2;have l1:=lt_of_sg qb;simp only[OI,Prod.mk.injEq] at h;rw[<- h.2];exact okB_cons (by rcases q.1 with rfl | rfl<;>rfl) ⟨2,by omega,by omega,rfl,nbsS (nbsS (nbs0 w) (nb_n qa)) (nb_sg qb (by decide) (by decide))⟩
  have one:∀ {d:Nat},isSg d w[0]?=true->d≠40->d≠41->nb (some (.sg c))=true->w'=w.drop 1->okB (.sg c::w) w':=fun q a b c hw=>okB_cons c ⟨1,by omega,by have:=lt_of_sg q;omega,hw,nbsS (nbs0 w) (nb_sg q a b)⟩
  split at h
  ·rename_i qc;subst qc;split at h
   ·rename_i q;simp only[OI,Prod.mk.injEq] at h;exact one q (by decide) (by decide) rfl h.2.symm
   split at h
   ·rename_i q;simp only[OI,Prod.mk.injEq] at h;exact one q (by decide) (by decide) rfl h.2.symm
   ·simp only[OI,Prod.mk.injEq] at h;rw[<- h.2];exact okB_one rfl
  split at h
  ·rename_i qc;subst qc;split at h
   ·rename_i q;simp only[OI,Prod.mk.injEq] at h;exact one q (by decide) (by decide) rfl h.2.symm
   split at h
   ·rename_i q;simp only[OI,Prod.mk.injEq] at h;exact one q (by decide) (by decide) rfl h.2.symm
   ·cases h
  split at h
  ·rename_i qc;subst qc;split at h
   ·rename_i qa;split at h
    ·rename_i q;have l1:=lt_of_n (nAt_n q);simp only[OI,Prod.mk.injEq] at h;rw[<- h.2];exact okB_cons rfl ⟨2,by omega,by omega,rfl,nbsS (nbsS (nbs0 w) (nb_sg qa (by decide) (by decide))) (nb_n (nAt_n q))⟩
    ·cases h
   split at h
   ·rename_i qa;split at h
    ·rename_i q;have l1:=lt_of_n (nAt_n q);simp only[OI,Prod.mk.injEq] at h;rw[<- h.2];exact okB_cons rfl ⟨2,by omega,by omega,rfl,nbsS (nbsS (nbs0 w) (nb_sg qa (by decide) (by decide))) (nb_n (nAt_n q))⟩
    ·cases h
   split at h
   ·rename_i q;have l1:=lt_of_n (nAt_n q);simp only[OI,Prod.mk.injEq] at h;rw[<- h.2];exact okB_cons rfl ⟨1,by omega,by omega,rfl,nbsS (nbs0 w) (nb_n (nAt_n q))⟩
   ·cases h
  ·cases h
 ·cases h
theorem singleT_nb {w w':List Tk}{i:It}(h:singleT w=some (i,w')):okB w w':=by
 unfold singleT at h;split at h
 ·rename_i k w;split at h
  ·rename_i q;have l1:=lt_of_sg q;simp only[OI,Prod.mk.injEq] at h;rw[<- h.2];exact okB_cons rfl ⟨1,by omega,by omega,rfl,nbsS (nbs0 w) (nb_sg q (by decide) (by decide))⟩
  split at h
  ·rename_i q;have l1:=lt_of_sg q.2;simp only[OI,Prod.mk.injEq] at h;rw[<- h.2];exact okB_cons rfl ⟨1,by omega,by omega,rfl,nbsS (nbs0 w) (nb_sg q.2 (by decide) (by decide))⟩
  split at h
  ·rename_i q;rw[Option.map_eq_some_iff] at h;obtain⟨⟨j,w2⟩,h1,h2⟩:=h;simp only[Prod.mk.injEq] at h2;obtain⟨h2,rfl⟩:=h2;have q2:=q.2
   match w,h1,q2 with
   | .sg c::w,h1,q2=>exact okB_cons rfl (valuedT_nb (show isVal c=true from q2) h1)
  ·cases h
 ·split at h
  ·rename_i q;exact valuedT_nb q h
  ·exact controlT_nb h
 ·exact controlT_nb h
def stepD (k:Tk) (n:Nat):Nat:=match k with
 | .sg c=>if c=40 then n + 1 else if c=41 then n - 1 else n
 | _=>n
def walkOk (n:Nat):List Tk->Prop
 | []=>n=0
 | k::w=>n≠0/\walkOk (stepD k n) w
def fitsC (n:Nat):List Tk->Prop
 | []=>True
 | k::w=>stepD k n<=11/\fitsC (stepD k n) w
theorem stepD_nb {k:Tk}{n:Nat}(h:nb (some k)=true):stepD k n=n:=by
 cases k with
 | sg c=>
  simp[nb,isSg] at h;simp[stepD,h.1,h.2]
 | _=>rfl
theorem walk_drop:∀ (j:Nat) (w:List Tk) (n:Nat),n≠0->j<=w.length->nbs w j->walkOk n (w.drop j)->walkOk n w
 | 0,w,n,hn,hj,h,hw=>by simpa using hw
 | j + 1,[],n,hn,hj,h,hw=>by simp at hj
 | j + 1,k::w,n,hn,hj,h,hw=>by
  have hk:nb (some k)=true:=h 0 (by omega);refine⟨hn,?_⟩;rw[stepD_nb hk];exact walk_drop j w n hn (by simpa using hj) (fun i hi=>h (i + 1) (by omega)) (by simpa using hw)
theorem fits_drop:∀ (j:Nat) (w:List Tk) (n:Nat),nbs w j->fitsC n w->fitsC n (w.drop j)
 | 0,w,n,h,hw=>by simpa using hw
 | j + 1,[],n,h,hw=>by simp[fitsC]
 | j + 1,k::w,n,h,hw=>by
  have hk:nb (some k)=true:=h 0 (by omega);obtain⟨_,h2⟩:=hw;rw[stepD_nb hk] at h2;simpa using fits_drop j w n (fun i hi=>h (i + 1) (by omega)) h2
theorem mach_walk:∀ (M:Nat) (B:List (Nat × List It × Bool)) (k:Nat) (acc:List It) (after:Bool) (w:List Tk) (l:List It),mach M B k acc after w=some l->walkOk (B.length + 1) w
 | 0,B,k,acc,after,w,l,h=>by cases h
 | M + 1,B,k,acc,after,w,l,h=>by
  have hd:∀ c,isSg c w[0]?=true->w=.sg c::w.drop 1:=by
   intro c hc;rcases w with _ | ⟨⟨k⟩ | ⟨s⟩ | _ | ⟨d⟩,r⟩
   ·cases hc
   ·cases hc
   ·cases hc
   ·cases hc
   ·simp[isSg] at hc;subst hc;rfl
  rw[mach_succ] at h;split at h
  ·rename_i q;split at h
   ·cases h
   ·rw[hd 44 q];exact⟨by omega,mach_walk M _ _ _ _ _ _ h⟩
  split at h
  ·rename_i q;split at h
   ·cases h
   ·split at h
    ·split at h
     ·rename_i q2;rw[hd 41 q];refine⟨by simp,?_⟩;have:w.drop 1=[]:=by simpa using q2
      rw[this];rfl
     ·cases h
    ·split at h
     ·cases h
     ·split at h
      ·cases h
      ·rw[hd 41 q];exact⟨by omega,mach_walk M _ _ _ _ _ _ h⟩
  split at h
  ·rename_i q;rw[hd 40 q];exact⟨by omega,mach_walk M _ _ _ _ _ _ h⟩
  split at h
  ·rename_i q;obtain⟨qa,qb⟩:=Bool.and_eq_true_iff.mp q;obtain⟨qb,qc⟩:=Bool.and_eq_true_iff.mp qb
   match w,qa,qc,h with
   | .n m::.sg d::w,qa,qc,h=>
    have hd:d=40:=by
     have:(d==40)=true:=qc;simpa using this
    subst hd;exact⟨by omega,(by show B.length + 1≠0;omega),mach_walk M _ _ _ _ _ _ h⟩
  ·split at h
   ·cases h
   ·rename_i i w' hs;split at h
    ·cases h
    ·obtain⟨j,a,b,rfl,d⟩:=singleT_nb hs;exact walk_drop j w _ (by omega) b d (mach_walk M _ _ _ _ _ _ h)
theorem eqvD:∀ (f lim c0:Nat) (acc:List It) (after:Bool) (u:Txt) (B:List (Nat × List It × Bool)) (k:Nat),u.length<=8000->u.length < f->lim + c0=11->1<=c0->fitsC c0 (tokS u)->
  (machS B k acc after (tokS u)=match itemsC f lim acc after u with
   | none=>none
   | some (l,r)=>closeS B k l (tokS r))/\∀ l r,itemsC f lim acc after u=some (l,r)->fitsC (c0 - 1) (tokS r)
 | 0,lim,c0,acc,after,u,B,k,h0,h1,h2,h3,hF=>by omega
 | f + 1,lim,c0,acc,after,u,B,k,h0,h1,h2,h3,hF=>by
  have hs:=skip_suf u;have hl:=hs.len;have hss:=skip_skip u;rw[itemsC_succ];cases hk:skip u with
  | nil=>rw[tokS_nil hk];exact⟨rfl,by simp⟩
  | cons c r=>
   rw[hk] at hl hss;simp only[LC] at hl;have hc32:c≠32:=by
    intro q;subst q;have h5:=skip_len r;rw[show skip (32::r)=skip r from rfl] at hss;rw[hss] at h5;simp only[LC] at h5;omega
   have htk:tokS u=tokS (c::r):=by rw[<- tokS_skip u,hk]
   rw[htk] at hF ⊢;simp only;by_cases q44:c=44
   ·subst q44;rw[tk_sg (by decide) (by decide) (by decide)] at hF ⊢;rw[m_comma,if_pos (show (44:Nat)=44\/(44:Nat)=41 from .inl rfl)];have:(after||(decide ((44:Nat)=44)&&acc.isEmpty))=(after||acc.isEmpty):=by simp
    rw[this];cases hz:(after||acc.isEmpty) with
    | true=>simp only[if_true];exact⟨trivial,by simp⟩
    | false=>
     simp only[BF,if_false,show ((44:Nat)=41)=False by simp];exact eqvD f lim c0 acc true r B k (by omega) (by omega) h2 h3 hF.2
   by_cases q41:c=41
   ·subst q41;rw[tk_sg (by decide) (by decide) (by decide)] at hF ⊢;rw[m_close,if_pos (show (41:Nat)=44\/(41:Nat)=41 from .inr rfl)];have:(after||(decide ((41:Nat)=44)&&acc.isEmpty))=after:=by simp
    rw[this];cases after with
    | true=>simp only[if_true];exact⟨trivial,by simp⟩
    | false=>
     simp only[BF,if_false,if_true];refine⟨trivial,?_⟩;intro l r2 h;simp only[OI,Prod.mk.injEq] at h;rw[<- h.2];exact hF.2
   rw[if_neg (show ¬ (c=44\/c=41) by omega)];have grp:∀ (kk:Nat) (r':Txt),r'.length + 1<=u.length->c0 + 1<=11->fitsC (c0 + 1) (tokS r')->(machS ((k,acc,after)::B) kk [] false (tokS r')=match (match grpC f lim kk r' with
     | none=>none
     | some (i,u')=>if !after&&!looseLast acc i then none else itemsC f lim (acc++[i]) false u') with
     | none=>none
     | some (l,r)=>closeS B k l (tokS r))/\∀ l r,(match grpC f lim kk r' with
     | none=>none
     | some (i,u')=>if !after&&!looseLast acc i then none else itemsC f lim (acc++[i]) false u')=some (l,r)->fitsC (c0 - 1) (tokS r):=by
    intro kk r' hr' hc hF';obtain⟨m,rfl⟩ : ∃ m,lim=m + 1:=⟨lim - 1,by omega⟩
    obtain⟨e1,e2⟩:=eqvD f m (c0 + 1) [] false r' ((k,acc,after)::B) kk (by omega) (by omega) (by omega) (by omega) hF';rw[e1];unfold grpC;simp only;cases hi:itemsC f m [] false r' with
    | none=>exact⟨rfl,by simp⟩
    | some p=>
     obtain⟨l,r2⟩:=p;have hr2:=(itemsC_suf _ _ _ _ _ hi).len;simp only[LC] at hr2;have e3:=e2 l r2 hi;cases l with
     | nil=>exact⟨rfl,by simp⟩
     | cons i l=>
      simp only[closeS,List.isEmpty_cons,BF,if_false];cases hz:(!after&&!looseLast acc (It.grp kk (i::l))) with
      | true=>simp only[if_true];exact⟨trivial,by simp⟩
      | false=>
       simp only[BF,if_false];exact eqvD f (m + 1) c0 _ false r2 B k (by omega) (by omega) h2 h3 (by simpa using e3)
   by_cases q40:c=40
   ·subst q40;rw[tk_sg (by decide) (by decide) (by decide)] at hF ⊢;rw[m_open];have:itemC (grpC f lim) (40::r)=grpC f lim 1 r:=by simp[itemC,isDig]
    rw[this];exact grp 1 r (by omega) hF.1 hF.2
   by_cases hnp:∃ kk r',isDig c=true/\numC (c::r)=some (some kk,40::r')/\0 < kk
   ·obtain⟨kk,r',hd,hn,hkk⟩:=hnp;have hit:itemC (grpC f lim) (c::r)=grpC f lim kk r':=by
     simp only[itemC,hd,if_true,countedC,hn];simp only[show ((40:Nat)=80)=False by simp,show ((40:Nat)=88)=False by simp,show ((40:Nat)=72)=False by simp,if_false,show ¬ kk=0 by omega,if_true]
    rw[hit];cases numCase (c::r) (by simp only[LC];omega) with
    | no v g1 g2 g3 g4=>rw[hn] at g1;simp at g1
    | big w g1 g2=>rw[hn] at g1;cases g1
    | hol k2 r1 g1 g2 g3=>rw[hn] at g1;simp at g1
    | yes k2 r1 g1 g2 g3 g4 g5=>
     rw[hn] at g1;simp at g1;obtain⟨rfl,rfl⟩:=g1;have hlen:=g5.len;simp only[LC] at hlen;rw[g4,tk_sg (by decide) (by decide) (by decide)] at hF ⊢;rw[m_nopen hkk];exact grp kk r' (by omega) hF.2.1 hF.2.2
   have hnp':∀ kk r',isDig c=true->numC (c::r)=some (some kk,40::r')->kk=0:=by
    intro kk r' hd hn;apply Classical.byContradiction;intro q;exact hnp ⟨kk,r',hd,hn,by omega⟩
   have hrel:=rel_item (g:=grpC f lim) (c:=c) (r:=r) (by omega) hc32 q40 hnp';have n44:isSg 44 (tokS (c::r))[0]?=false:=hd_no (by decide) (by rw[hss];simp[aft,q44]);have n41:isSg 41 (tokS (c::r))[0]?=false:=hd_no (by decide) (by rw[hss];simp[aft,q41]);have n40:isSg 40 (tokS (c::r))[0]?=false:=hd_no (by decide) (by rw[hss];simp[aft,q40]);have nno:(isN (tokS (c::r))[0]?&&(decide (0 < nv (tokS (c::r))[0]?)&&isSg 40 (tokS (c::r))[1]?))=false:=by
    cases numCase (c::r) (by simp only[LC];omega) with
    | no v g1 g2 g3 g4=>rw[g4];rfl
    | big w g1 g2=>rw[g2];rfl
    | hol k2 r1 g1 g2 g3=>rw[g2];rw[show isN (hTok k2 r1::tokS (r1.drop k2))[0]?=false from hTok_nN k2 r1];rfl
    | yes k2 r1 g1 g2 g3 g4 g5=>
     rw[g4];have t1:isN (Tk.n k2::tokS r1)[0]?=true:=rfl;have t2:nv (Tk.n k2::tokS r1)[0]?=k2:=rfl;have t3:(Tk.n k2::tokS r1)[1]?=(tokS r1)[0]?:=rfl;rw[t1,t2,t3,BS];by_cases q0 : 0 < k2
     ·rw[DT q0,BS];refine hd_no (by decide) ?_;rw[g3];cases r1 with
      | nil=>rfl
      | cons d r2=>
       simp only[aft];rw[if_neg];intro q;subst q;have hd:isDig c=true:=by
        cases hq:isDig c with
        | true=>rfl
        | false=>
         unfold numC at g1;rw[hss] at g1;simp[hq] at g1
       have:=hnp' k2 r2 hd g1;omega
     ·rw[DF q0];rfl
   rw[m_item n44 n41 n40 nno];have hsufI:=fun i u' (h:itemC (grpC f lim) (c::r)=some (i,u'))=>itemC_suf (g:=grpC f lim) (fun k u i r h=>(grpC_suf h).tail) h
   generalize itemC (grpC f lim) (c::r)=x at hrel hsufI;generalize hy:singleT (tokS (c::r))=y at hrel;cases hrel with
   | ok i r2=>
    have hr2:=(hsufI i r2 rfl).len;obtain⟨j,_,_,hj,hnb⟩:=singleT_nb hy;have hF2:fitsC c0 (tokS r2):=by rw[hj];exact fits_drop j _ c0 hnb hF
    simp only;cases hz:(!after&&!looseLast acc i) with
    | true=>simp only[if_true];exact⟨trivial,by simp⟩
    | false=>
     simp only[BF,if_false];exact eqvD f lim c0 _ false r2 B k (by omega) (by omega) h2 h3 hF2
   | doom x h=>
    rcases h with rfl | ⟨i,r2,rfl⟩
    ·exact⟨rfl,by simp⟩
    ·simp only;rw[itemsC_H];cases (!after&&!looseLast acc i)<;>exact⟨rfl,by simp⟩
   | doomA x i w h g1 g2=>
    have hm:=mach_t (B:=B) (k:=k) (acc:=acc) g1 g2;have hz:(match (some (i,w):Option (It × List Tk)) with
     | none=>none
     | some (i,w')=>if !after&&!looseLast acc i then none else machS B k (acc++[i]) false w')=none:=by
     simp only;rw[hm];split<;>rfl
    rcases h with rfl | ⟨i2,r2,rfl⟩
    ·exact⟨hz,by simp⟩
    ·simp only;rw[itemsC_H];cases (!after&&!looseLast acc i2)<;>exact⟨hz,by simp⟩
theorem itemC_mono {g g':Nat->Txt->Option (It × Txt)}(hg:∀ k u,g k u=none\/g k u=g' k u) (u:Txt):itemC g u=none\/itemC g u=itemC g' u:=by
 unfold itemC countedC;split
 ·exact .inl rfl
 ·split
  ·split
   ·split
    ·exact .inl rfl
    ·split
     ·exact .inr rfl
     split
     ·exact .inl rfl
     split
     ·exact .inr rfl
     split
     ·exact .inr rfl
     split
     ·exact hg _ _
     ·exact .inr rfl
   ·exact .inl rfl
  split
  ·exact .inr rfl
  split
  ·exact .inr rfl
  split
  ·exact hg _ _
  ·exact .inr rfl
theorem itemsC_mono:∀ (f lim L:Nat) (acc:List It) (after:Bool) (u:Txt),lim<=L->itemsC f lim acc after u=none\/itemsC f lim acc after u=itemsC f L acc after u
 | 0,lim,L,acc,after,u,h=>.inl rfl
 | f + 1,lim,L,acc,after,u,h=>by
  rw[itemsC_succ,itemsC_succ];have hg:∀ k u,grpC f lim k u=none\/grpC f lim k u=grpC f L k u:=by
   intro k u;unfold grpC;cases lim with
   | zero=>exact .inl rfl
   | succ m=>
    obtain⟨M,rfl⟩ : ∃ M,L=M + 1:=⟨L - 1,by omega⟩
    simp only;rcases itemsC_mono f m M [] false u (by omega) with e | e
    ·rw[e];exact .inl rfl
    ·rw[e];exact .inr rfl
  split
  ·exact .inl rfl
  ·rename_i c r e;split
   ·split
    ·exact .inl rfl
    ·split
     ·exact .inr rfl
     ·exact itemsC_mono f lim L acc true r h
   ·rcases itemC_mono hg (c::r) with e1 | e1
    ·rw[e1];exact .inl rfl
    ·rw[<- e1];cases hx:itemC (grpC f lim) (c::r) with
     | none=>exact .inl rfl
     | some p=>
      obtain⟨i,u'⟩:=p;simp only;cases hz:(!after&&!looseLast acc i) with
      | true=>exact .inl rfl
      | false=>
       simp only[BF,if_false];exact itemsC_mono f lim L _ false u' h
theorem parse_read {u:Txt}{f:Nat}(hu:u.length<=8000) (hf:u.length < f) (hD:∀ l,readC u=some l->fitsC 1 ((tokS u).drop 1)):parseC f u=readC u:=by
 have hs:=(skip_suf u).len;unfold parseC;cases hk:skip u with
 | nil=>unfold readC;rw[tokS_nil hk];rfl
 | cons c r=>
  rw[hk] at hs;simp only[LC] at hs;simp only;by_cases q:c=40
  ·subst q;rw[if_pos rfl];have htk:tokS u=.sg 40::tokS r:=by rw[tokS_cons hk];simp[tok1,isDig]
   have hrd:readC u=machS [] 1 [] false (tokS r):=by
    unfold readC;rw[htk];have t1:isSg 40 (Tk.sg 40::tokS r)[0]?=true:=rfl;simp only[t1,if_true,List.drop_succ_cons,List.drop_zero,LC];rw[mach_S (by omega)]
   have fin:∀ (x:Option (List It × Txt)),(match x with
     | none=>none
     | some (l,r')=>closeS [] 1 l (tokS r'))=(match x with
     | some (l,r')=>if skip r'=[] then some l else none
     | none=>none):=by
    intro x;cases x with
    | none=>rfl
    | some p=>
     obtain⟨l,r'⟩:=p;simp only[closeS];cases hsk:skip r' with
     | nil=>rw[tokS_nil hsk];rfl
     | cons d r2=>rw[tokS_cons hsk];rfl
   cases hr:readC u with
   | some l=>
    have hF:=hD l hr;rw[htk] at hF;simp only[List.drop_succ_cons,List.drop_zero] at hF;have e:=(eqvD f 10 1 [] false r [] 1 (by omega) (by omega) (by omega) (by omega) hF).1;rw[<- hrd,hr,fin] at e;exact e.symm
   | none=>
    rcases itemsC_mono f 10 (u.length + 10) [] false r (by omega) with e1 | e1
    ·rw[e1]
    ·have e:=eqv f (u.length + 10) [] false r [] 1 (by omega) (by omega) (by omega);rw[<- hrd,hr,<- e1] at e;exact (e.trans (fin _)).symm
  ·rw[if_neg q];unfold readC;have:isSg 40 (tokS u)[0]?=false:=hd_no (by decide) (by rw[hk];simp[aft,q]);rw[this];rfl
def tr:Bool × Nat->Nat->Option (Bool × Nat)
 | (true,0),_=>none
 | (true,d + 1),x=>if x=39 then some (false,d + 1) else if x=40 then none else some (true,d + 1)
 | (false,0),x=>if x=32 then some (false,0) else if x=40 then some (false,1) else none
 | (false,d + 1),x=>if x=39 then some (true,d + 1) else if x=40 then (if d + 1<=2 then some (false,d + 2) else none) else
  if x=41 then (if d=0 then some (true,0) else some (false,d)) else if x=72 then none else some (false,d + 1)
def run:Bool × Nat->Txt->Option (Bool × Nat)
 | s,[]=>some s
 | s,x::u=>match tr s x with
  | some s'=>run s' u
  | none=>none
theorem run_app:∀ (p u:Txt) (s:Bool × Nat),run s (p++u)=(run s p).bind fun s'=>run s' u
 | [],u,s=>rfl
 | x::p,u,s=>by
  simp only[ZI,run];cases tr s x with
  | none=>rfl
  | some s'=>exact run_app p u s'
inductive Bt:Nat->Bool × Nat->Txt->Prop
 | fin (e:Nat):Bt e (true,0) []
 | same (e:Nat) (s s':Bool × Nat) (x:Nat) (u:Txt):tr s x=some s'->Bt e s' u->Bt e s (x::u)
 | ins (e:Nat) (s:Bool × Nat) (x:Nat) (u:Txt):Bt e s u->Bt (e + 1) s (x::u)
 | del (e:Nat) (s s':Bool × Nat) (x:Nat) (u:Txt):tr s x=some s'->Bt e s' u->Bt (e + 1) s u
 | rpl (e:Nat) (s s':Bool × Nat) (x y:Nat) (u:Txt):tr s x=some s'->Bt e s' u->Bt (e + 1) s (y::u)
theorem Bt.mono {e e':Nat}{s:Bool × Nat}{u:Txt}(h:Bt e s u):e<=e'->Bt e' s u:=by
 induction h generalizing e' with
 | fin e=>exact fun _=>.fin _
 | same e s s' x u h1 h2 ih=>exact fun hl=>.same _ _ _ _ _ h1 (ih hl)
 | ins e s x u h ih=>intro hl;obtain⟨k,rfl⟩ : ∃ k,e'=k + 1:=⟨e' - 1,by omega⟩;exact .ins _ _ _ _ (ih (by omega))
 | del e s s' x u h1 h2 ih=>intro hl;obtain⟨k,rfl⟩ : ∃ k,e'=k + 1:=⟨e' - 1,by omega⟩;exact .del _ _ _ _ _ h1 (ih (by omega))
 | rpl e s s' x y u h1 h2 ih=>intro hl;obtain⟨k,rfl⟩ : ∃ k,e'=k + 1:=⟨e' - 1,by omega⟩;exact .rpl _ _ _ _ _ _ h1 (ih (by omega))
theorem Bt.of_run:∀ (u:Txt) (s:Bool × Nat),run s u=some (true,0)->Bt 0 s u
 | [],s,h=>by simp[run] at h;subst h;exact .fin 0
 | x::u,s,h=>by
  simp only[run] at h;cases ht:tr s x with
  | none=>rw[ht] at h;cases h
  | some s'=>rw[ht] at h;exact .same _ _ _ _ _ ht (Bt.of_run u s' h)
theorem Bt.zero {e:Nat}{s:Bool × Nat}{u:Txt}(h:Bt e s u):e=0->run s u=some (true,0):=by
 induction h with
 | fin e=>exact fun _=>rfl
 | same e s s' x u h1 h2 ih=>intro he;simp only[run,h1];exact ih he
 | ins e s x u h ih=>intro he;omega
 | del e s s' x u h1 h2 ih=>intro he;omega
 | rpl e s s' x y u h1 h2 ih=>intro he;omega
theorem Bt.insert {e:Nat}{s:Bool × Nat}{t:Txt}(h:Bt e s t) (c:Nat):∀ p,Bt (e + 1) s (t.take p++c::t.drop p):=by
 induction h with
 | fin e=>intro p;simpa using Bt.ins e (true,0) c [] (.fin e)
 | same e s s' x u h1 h2 ih=>
  intro p;cases p with
  | zero=>exact .ins _ _ _ _ (.same _ _ _ _ _ h1 h2)
  | succ p=>exact .same _ _ _ _ _ h1 (ih p)
 | ins e s x u h ih=>
  intro p;cases p with
  | zero=>exact .ins _ _ _ _ (.ins _ _ _ _ h)
  | succ p=>exact .ins _ _ _ _ (ih p)
 | del e s s' x u h1 h2 ih=>intro p;exact .del _ _ _ _ _ h1 (ih p)
 | rpl e s s' x y u h1 h2 ih=>
  intro p;cases p with
  | zero=>exact .ins _ _ _ _ (.rpl _ _ _ _ _ _ h1 h2)
  | succ p=>exact .rpl _ _ _ _ _ _ h1 (ih p)
theorem Bt.delete {e:Nat}{s:Bool × Nat}{t:Txt}(h:Bt e s t):∀ p,Bt (e + 1) s (t.take p++t.drop (p + 1)):=by
 induction h with
 | fin e=>intro p;simpa using Bt.fin (e + 1)
 | same e s s' x u h1 h2 ih=>
  intro p;cases p with
  | zero=>exact .del _ _ _ _ _ h1 h2
  | succ p=>exact .same _ _ _ _ _ h1 (ih p)
 | ins e s x u h ih=>
  intro p;cases p with
  | zero=>exact h.mono (by omega)
  | succ p=>exact .ins _ _ _ _ (ih p)
 | del e s s' x u h1 h2 ih=>intro p;exact .del _ _ _ _ _ h1 (ih p)
 | rpl e s s' x y u h1 h2 ih=>
  intro p;cases p with
  | zero=>exact (Bt.del _ _ _ _ _ h1 h2).mono (by omega)
  | succ p=>exact .rpl _ _ _ _ _ _ h1 (ih p)
theorem Bt.replace {e:Nat}{s:Bool × Nat}{t:Txt}(h:Bt e s t) (c:Nat):∀ p,Bt (e + 1) s (t.take p++c::t.drop (p + 1)):=by
 induction h with
 | fin e=>intro p;simpa using Bt.ins e (true,0) c [] (.fin e)
 | same e s s' x u h1 h2 ih=>
  intro p;cases p with
  | zero=>exact .rpl _ _ _ _ _ _ h1 h2
  | succ p=>exact .same _ _ _ _ _ h1 (ih p)
 | ins e s x u h ih=>
  intro p;cases p with
  | zero=>exact (Bt.ins _ _ c _ h).mono (by omega)
  | succ p=>exact .ins _ _ _ _ (ih p)
 | del e s s' x u h1 h2 ih=>intro p;exact .del _ _ _ _ _ h1 (ih p)
 | rpl e s s' x y u h1 h2 ih=>
  intro p;cases p with
  | zero=>exact (Bt.rpl _ _ _ _ c _ h1 h2).mono (by omega)
  | succ p=>exact .rpl _ _ _ _ _ _ h1 (ih p)
theorem Bt.bend {e:Nat}{s:Bool × Nat}{t t':Txt}(h:Bt e s t) (hb:Bend t t'):Bt (e + 1) s t':=by
 cases hb with
 | same=>exact h.mono (by omega)
 | ins p c _=>exact h.insert c p
 | del p=>exact h.delete p
 | rpl p c _=>exact h.replace c p
theorem tr_nz {s s':Bool × Nat}{x:Nat}(h:tr s x=some s'):(s'=(false,0)->s=(false,0))/\(s.2<=3->s'.2<=3):=by
 obtain⟨f,d⟩:=s;cases f<;>cases d<;>simp only[tr] at h
 ·split at h
  ·cases h;exact⟨fun h=>h,fun h=>h⟩
  ·split at h
   ·cases h;exact⟨fun h=>by simp at h,fun h=>by simp⟩
   ·cases h
 ·rename_i d;split at h
  ·cases h;exact⟨fun h=>by simp at h,fun h=>h⟩
  split at h
  ·split at h
   ·cases h;exact⟨fun h=>by simp at h,fun h=>by simp;omega⟩
   ·cases h
  split at h
  ·split at h
   ·cases h;exact⟨fun h=>by simp at h,fun h=>by simp⟩
   ·cases h;exact⟨fun h=>by simp at h;omega,fun h=>by simp at h ⊢;omega⟩
  split at h
  ·cases h
  ·cases h;exact⟨fun h=>by simp at h,fun h=>h⟩
 ·cases h
 ·split at h
  ·cases h;exact⟨fun h=>by simp at h,fun h=>h⟩
  split at h
  ·cases h
  ·cases h;exact⟨fun h=>by simp at h,fun h=>h⟩
theorem Bt.inv {e:Nat}{s:Bool × Nat}{t:Txt}(h:Bt e s t):∀ x u,t=x::u->∃ e' s',e'<=e/\Bt e' s' u/\(s'=(false,0)->s=(false,0))/\(s.2<=3->s'.2<=3)/\(e'=e->tr s x=some s'):=by
 induction h with
 | fin e=>intro x u h;cases h
 | same e s s' x u h1 h2 ih=>
  intro y v h;injection h with hx hu
  subst hx;subst hu;exact⟨e,s',by omega,h2,(tr_nz h1).1,(tr_nz h1).2,fun _=>h1⟩
 | ins e s x u h ih=>
  intro y v hh;injection hh with hx hu
  subst hu;exact⟨e,s,by omega,h,fun h=>h,fun h=>h,fun h=>by omega⟩
 | del e s s' x u h1 h2 ih=>
  intro y v hh;obtain⟨e',s2,a,b,c,d,_⟩:=ih y v hh;exact⟨e',s2,by omega,b,fun h=>(tr_nz h1).1 (c h),fun h=>d ((tr_nz h1).2 h),fun h=>by omega⟩
 | rpl e s s' x y u h1 h2 ih=>
  intro z v hh;injection hh with hx hu
  subst hu;exact⟨e,s',by omega,h2,(tr_nz h1).1,(tr_nz h1).2,fun h=>by omega⟩
theorem Bt.invs:∀ (p u:Txt) (e:Nat) (s:Bool × Nat),Bt e s (p++u)->∃ e' s',e'<=e/\Bt e' s' u/\(s'=(false,0)->s=(false,0))/\(s.2<=3->s'.2<=3)/\(e'=e->run s p=some s')
 | [],u,e,s,h=>⟨e,s,by omega,h,fun h=>h,fun h=>h,fun _=>rfl⟩
 | x::p,u,e,s,h=>by
  obtain⟨e1,s1,a,b,c,d,f⟩:=h.inv x (p++u) rfl;obtain⟨e2,s2,a2,b2,c2,d2,f2⟩:=Bt.invs p u e1 s1 b;refine⟨e2,s2,by omega,b2,fun h=>c (c2 h),fun h=>d2 (d h),fun h=>?_⟩;simp only[run,f (by omega)];exact f2 (by omega)
def bd:Bool × Nat->Nat->Nat
 | (false,0),g=>g
 | (false,d + 1),g=>d + 1 + 3 * g
 | (true,_),g=>1 + 3 * g
theorem bd_edit {s s':Bool × Nat}{g g':Nat}(hn:s'=(false,0)->s=(false,0)) (hs:s.2<=3) (hg:g < g'):bd s g + 1<=bd s' g':=by
 obtain⟨f,d⟩:=s;obtain⟨f',d'⟩:=s';cases f<;>cases d<;>cases f'<;>cases d'<;>simp only[bd] at *<;>first | omega | (exfalso;simp at hn)
inductive Qp:Txt->Prop
 | nil:Qp []
 | ch (c:Nat) (q:Txt):c≠39->Qp q->Qp (c::q)
 | qq (q:Txt):Qp q->Qp (39::39::q)
theorem qs_split:∀ (m:Nat) (r out:Txt),r.length<=m->(qs out r).2=[]\/∃ q rest,(qs out r).2=39::rest/\r=q++39::rest/\Qp q
 | _,[],out,h=>.inl rfl
 | m + 1,c::r,out,h=>by
  simp only[LC] at h;rw[qs.eq_def];by_cases q:c=39
  ·subst q;simp only[ne_eq,not_true_eq_false,if_false];cases r with
   | nil=>exact .inr ⟨[],[],rfl,rfl,.nil⟩
   | cons d r'=>
    simp only[LC] at h;by_cases q2:d=39
    ·subst q2;simp only[if_true];rcases qs_split m r' (out++[39]) (by omega) with e | ⟨q,rest,e1,e2,e3⟩
     ·exact .inl e
     ·exact .inr ⟨39::39::q,rest,e1,by rw[e2];rfl,.qq q e3⟩
    ·simp only[if_neg q2];exact .inr ⟨[],d::r',rfl,rfl,.nil⟩
  ·simp only[ne_eq,q,not_false_eq_true,if_true];rcases qs_split m r (out++[c]) (by omega) with e | ⟨q',rest,e1,e2,e3⟩
   ·exact .inl e
   ·exact .inr ⟨c::q',rest,e1,by rw[e2];rfl,.ch c q' q e3⟩
theorem dGo_split:∀ (r:Txt) (v:Nat),∃ q,r=q++(dGo v r).2/\∀ c∈q,c=32\/isDig c=true
 | [],v=>⟨[],rfl,by simp⟩
 | c::r,v=>by
  unfold dGo;by_cases q:c=32
  ·rw[if_pos q];obtain⟨q',e,h⟩:=dGo_split r v;refine⟨c::q',by rw[ZI,<- e],?_⟩;intro x hx;rcases MI.mp hx with rfl | hx
   ·exact .inl q
   ·exact h x hx
  ·rw[if_neg q];by_cases q2:isDig c=true
   ·rw[if_pos q2];obtain⟨q',e,h⟩:=dGo_split r (10 * v + (c - 48));refine⟨c::q',by rw[ZI,<- e],?_⟩;intro x hx;rcases MI.mp hx with rfl | hx
    ·exact .inr q2
    ·exact h x hx
   ·rw[if_neg q2];exact⟨[],rfl,by simp⟩
theorem run_dig {f:Bool}{d:Nat}:∀ (q:Txt),(∀ c∈q,c=32\/isDig c=true)->run (f,d + 1) q=some (f,d + 1)
 | [],h=>rfl
 | c::q,h=>by
  have hc:=h c (MS ..);have hcc:c≠39/\c≠40/\c≠41/\c≠72:=by
   rcases hc with rfl | hc
   ·decide
   ·refine⟨?_,?_,?_,?_⟩<;>(intro q;subst q;simp[isDig] at hc)
  have ht:tr (f,d + 1) c=some (f,d + 1):=by
   cases f<;>simp[tr,hcc]
  simp only[run,ht];exact run_dig q (fun c hc=>h c (MC _ hc))
theorem run_in {d:Nat}{q:Txt}(h:Qp q):∀ {s},run (true,d + 1) q=some s->s=(true,d + 1):=by
 induction h with
 | nil=>intro s hs;simp[run] at hs;exact hs.symm
 | ch c q hc hq ih=>
  intro s hs;simp only[run,tr,if_neg hc] at hs;by_cases q4:c=40
  ·rw[if_pos q4] at hs;cases hs
  ·rw[if_neg q4] at hs;exact ih hs
 | qq q hq ih=>
  intro s hs;exact ih hs
theorem run_out {q:Txt}(h:Qp q):∀ {d:Nat} {s},run (false,d + 1) q=some s->(∃ d',s=(false,d' + 1))\/s=(true,0):=by
 induction h with
 | nil=>intro d s hs;simp[run] at hs;exact .inl ⟨d,hs.symm⟩
 | ch c q hc hq ih=>
  intro d s hs;simp only[run,tr,if_neg hc] at hs;by_cases q4:c=40
  ·rw[if_pos q4] at hs;by_cases q5:d + 1<=2
   ·rw[if_pos q5] at hs;exact ih hs
   ·rw[if_neg q5] at hs;cases hs
  rw[if_neg q4] at hs;by_cases q5:c=41
  ·rw[if_pos q5] at hs;cases d with
   | zero=>
    rw[if_pos rfl] at hs;cases q with
    | nil=>simp[run] at hs;exact .inr hs.symm
    | cons x q=>simp[run,tr] at hs
   | succ d=>rw[if_neg (by omega)] at hs;exact ih hs
  rw[if_neg q5] at hs;by_cases q6:c=72
  ·rw[if_pos q6] at hs;cases hs
  rw[if_neg q6] at hs;exact ih hs
 | qq q hq ih=>
  intro d s hs;exact ih hs
theorem stepD_q (p:Txt × Txt) (c:Nat):stepD (qTok p).1 c=c:=by
 rcases qTok_head p with e | ⟨s,e⟩<;>rw[e]<;>rfl
theorem stepD_n (p:Nat × Txt) (c:Nat):stepD (nTok p).1 c=c:=by
 rcases nTok_head p with e | ⟨s,e⟩ | ⟨k,e⟩<;>rw[e]<;>rfl
theorem tokS_q (r:Txt):tokS (39::r)=(qTok (qs [] r)).1::tokS (qTok (qs [] r)).2:=by
 rw[tokS_cons (show skip (39::r)=39::r by simp[skip])];simp[tok1]
theorem tokS_n {x:Nat}(r:Txt) (hd:isDig x=true):tokS (x::r)=(nTok (dGo (x - 48) r)).1::tokS (nTok (dGo (x - 48) r)).2:=by
 have h1:x≠32:=by intro q;subst q;simp[isDig] at hd
 have h2:x≠39:=by intro q;subst q;simp[isDig] at hd
 rw[tokS_cons (show skip (x::r)=x::r by simp[skip,h1])];simp[tok1,h2,hd]
theorem nTok_no {p:Nat × Txt}(h:aft 72 p.2=none):(nTok p).2=p.2:=by simp[nTok,h]
theorem nTok_yes {p:Nat × Txt}{r:Txt}(h:aft 72 p.2=some r):(nTok p).2=r.drop p.1:=by simp[nTok,h]
theorem sync:∀ (n:Nat) (u:Txt) (d c:Nat),u.length < n->run (false,d + 1) u=some (true,0)->walkOk c (tokS u)->c=d + 1
 | n + 1,[],d,c,h1,h2,h3=>by simp[run] at h2
 | n + 1,x::r,d,c,h1,h2,h3=>by
  simp only[LC] at h1;by_cases q32:x=32
  ·subst q32;rw[tokS_blank] at h3;have:run (false,d + 1) (32::r)=run (false,d + 1) r:=by simp[run,tr]
   rw[this] at h2;exact sync n r d c (by omega) h2 h3
  by_cases q39:x=39
  ·subst q39;rw[tokS_q] at h3;obtain⟨_,h3⟩:=h3;rw[stepD_q] at h3;rcases qs_split _ r [] (Nat.le_refl _) with e | ⟨q,rest,e1,e2,e3⟩
   ·have:(qTok (qs [] r)).2=[]:=by unfold qTok;rw[e]
    rw[this] at h3;have hc:c=0:=h3;omega
   ·have:(qTok (qs [] r)).2=rest:=by unfold qTok;rw[e1]
    rw[this] at h3;have hrun:run (false,d + 1) (39::r)=run (true,d + 1) r:=by simp[run,tr]
    rw[hrun,e2,run_app] at h2;cases hq:run (true,d + 1) q with
    | none=>rw[hq] at h2;cases h2
    | some s=>
     have hs:=run_in e3 hq;rw[hq,hs] at h2;have h2':run (false,d + 1) rest=some (true,0):=by simpa [run,tr] using h2
     have hlen:r.length=q.length + (rest.length + 1):=by rw[e2];simp
     exact sync n rest d c (by omega) h2' h3
  by_cases qd:isDig x=true
  ·rw[tokS_n r qd] at h3;obtain⟨_,h3⟩:=h3;rw[stepD_n] at h3;obtain⟨q,e1,e2⟩:=dGo_split r (x - 48);have hx:run (false,d + 1) (x::q)=some (false,d + 1):=run_dig (x::q) (fun c hc=>by
    rcases MI.mp hc with rfl | hc
    ·exact .inr qd
    ·exact e2 c hc)
   have h2':run (false,d + 1) (x::r)=run (false,d + 1) (dGo (x - 48) r).2:=by
    rw[e1];have hh:(dGo (x - 48) (q++(dGo (x - 48) r).2)).2=(dGo (x - 48) r).2:=by rw[<- e1]
    rw[hh,<- ZI,run_app,hx];rfl
   rw[h2'] at h2;have hlen:(dGo (x - 48) r).2.length<=r.length:=(dGo_suf r _).len;cases ha:aft 72 (dGo (x - 48) r).2 with
   | none=>
    rw[nTok_no ha] at h3;exact sync n _ d c (by omega) h2 h3
   | some r3=>
    rw[aft_eq ha] at h2;simp[run,tr] at h2
  ·have qd':isDig x=false:=by simpa using qd
   rw[tk_sg q32 q39 qd'] at h3;obtain⟨h0,h3⟩:=h3;simp only[run,tr,if_neg q39] at h2;by_cases q40:x=40
   ·subst q40;rw[if_pos rfl] at h2;by_cases q5:d + 1<=2
    ·rw[if_pos q5] at h2;have:=sync n r (d + 1) (c + 1) (by omega) h2 h3;omega
    ·rw[if_neg q5] at h2;cases h2
   rw[if_neg q40] at h2;by_cases q41:x=41
   ·subst q41;rw[if_pos rfl] at h2;have h3':walkOk (c - 1) (tokS r):=h3;cases d with
    | zero=>
     rw[if_pos rfl] at h2;cases r with
     | nil=>
      have:c - 1=0:=h3';omega
     | cons y r=>simp[run,tr] at h2
    | succ d=>
     rw[if_neg (by omega)] at h2;have:=sync n r d (c - 1) (by omega) h2 h3';omega
   rw[if_neg q41] at h2;by_cases q72:x=72
   ·rw[if_pos q72] at h2;cases h2
   rw[if_neg q72] at h2;have:stepD (.sg x) c=c:=by simp[stepD,q40,q41]
   rw[this] at h3;exact sync n r d c (by omega) h2 h3
theorem low {u:Txt}{e:Nat}{s:Bool × Nat}{c:Nat}(h:Bt e s u) (hs:s.2<=3) (hc:c<=bd s (3 - e)) (hw:walkOk c (tokS u)):c<=11:=by
 obtain⟨f,d⟩:=s;by_cases he:e=0
 ·have hr:=h.zero he;subst he;cases f with
  | true=>simp only[bd] at hc;omega
  | false=>
   cases d with
   | zero=>simp only[bd] at hc;omega
   | succ d=>
    have:=sync _ u d c (Nat.lt_succ_self _) hr hw;simp only at hs;omega
 ·cases f with
  | true=>simp only[bd] at hc;omega
  | false=>
   cases d with
   | zero=>simp only[bd] at hc;omega
   | succ d=>simp only[bd] at hc;simp only at hs;omega
theorem fitsB:∀ (n:Nat) (u:Txt) (e:Nat) (s:Bool × Nat) (c:Nat),u.length < n->Bt e s u->s.2<=3->e<=3->c<=bd s (3 - e)->walkOk c (tokS u)->fitsC c (tokS u)
 | n + 1,[],e,s,c,h1,h2,h3,he,h4,h5=>trivial
 | n + 1,x::r,e,s,c,h1,h2,h3,he,h4,h5=>by
  simp only[LC] at h1;have one:∀ (p rest:Txt) (k:Tk) (c':Nat),x::r=p++rest->tokS (x::r)=k::tokS rest->rest.length < n->stepD k c=c'->c'<=c + 1->(∀ s',run s p=some s'->(s'=(false,0)->s=(false,0))->c'<=bd s' (3 - e))->fitsC c (tokS (x::r)):=by
   intro p rest k c' hp ht hl hk hc1 hrun;rw[hp] at h2;obtain⟨e',s',a,b,cc,d,f⟩:=Bt.invs p rest e s h2;have hb:c'<=bd s' (3 - e'):=by
    by_cases q:e'=e
    ·subst q;exact hrun s' (f rfl) cc
    ·have:=bd_edit (s:=s) (s':=s') (g:=3 - e) (g':=3 - e') cc h3 (by omega);omega
   rw[ht] at h5 ⊢;obtain⟨h6,h7⟩:=h5;rw[hk] at h7;refine⟨?_,?_⟩
   ·rw[hk];exact low b (d h3) hb h7
   ·rw[hk];exact fitsB n rest e' s' c' hl b (d h3) (by omega) hb h7
  by_cases q32:x=32
  ·subst q32;rw[tokS_blank] at h5 ⊢;obtain⟨e',s',a,b,cc,d,f⟩:=h2.inv 32 r rfl;have hb:c<=bd s' (3 - e'):=by
    by_cases q:e'=e
    ·subst q;have ht:=f rfl;have hss:s'=s:=by
      obtain⟨ff,dd⟩:=s;cases ff<;>cases dd<;>simp[tr] at ht<;>exact ht.symm
     rw[hss];exact h4
    ·have:=bd_edit (s:=s) (s':=s') (g:=3 - e) (g':=3 - e') cc h3 (by omega);omega
   exact fitsB n r e' s' c (by omega) b (d h3) (by omega) hb h5
  by_cases q39:x=39
  ·subst q39;rcases qs_split _ r [] (Nat.le_refl _) with e0 | ⟨q,rest,e1,e2,e3⟩
   ·rw[tokS_q] at h5;obtain⟨g1,g2⟩:=h5;rw[stepD_q] at g2;have:(qTok (qs [] r)).2=[]:=by unfold qTok;rw[e0]
    rw[this] at g2;exact absurd (show c=0 from g2) g1
   ·have hr2:(qTok (qs [] r)).2=rest:=by unfold qTok;rw[e1]
    have hlen:r.length=q.length + (rest.length + 1):=by rw[e2];simp
    refine one (39::(q++[39])) rest _ c (by rw[e2];simp) (by rw[tokS_q,hr2]) (by omega) (stepD_q _ _) (by omega) ?_;intro s' hs' hnz;obtain⟨ff,dd⟩:=s;cases ff with
    | true=>
     cases dd with
     | zero=>simp[run,tr] at hs'
     | succ dd=>
      have h0:run (true,dd + 1) (39::(q++[39]))=run (false,dd + 1) (q++[39]):=by simp[run,tr]
      rw[h0,run_app] at hs';cases hq:run (false,dd + 1) q with
      | none=>rw[hq] at hs';cases hs'
      | some s2=>
       rw[hq] at hs';rcases run_out e3 hq with ⟨d',rfl⟩ | rfl
       ·have:s'=(true,d' + 1):=by simpa [run,tr,eq_comm] using hs'
        subst this;simp only[bd] at h4 ⊢;exact h4
       ·simp[run,tr] at hs'
    | false=>
     cases dd with
     | zero=>simp[run,tr] at hs'
     | succ dd=>
      have h0:run (false,dd + 1) (39::(q++[39]))=run (true,dd + 1) (q++[39]):=by simp[run,tr]
      rw[h0,run_app] at hs';cases hq:run (true,dd + 1) q with
      | none=>rw[hq] at hs';cases hs'
      | some s2=>
       rw[hq,run_in e3 hq] at hs';have:s'=(false,dd + 1):=by simpa [run,tr,eq_comm] using hs'
       subst this;exact h4
  by_cases qd:isDig x=true
  ·obtain⟨q,e1,e2⟩:=dGo_split r (x - 48);have hdq:∀ c∈x::q,c=32\/isDig c=true:=fun c hc=>by
    rcases MI.mp hc with rfl | hc
    ·exact .inr qd
    ·exact e2 c hc
   have hlen:(dGo (x - 48) r).2.length<=r.length:=(dGo_suf r _).len;have zero0:∀ {p:Txt},run (false,0) (x::p)=none:=by
    intro p;have:x≠40:=by intro z;subst z;simp[isDig] at qd
    simp[run,tr,q32,this]
   cases ha:aft 72 (dGo (x - 48) r).2 with
   | none=>
    refine one (x::q) (dGo (x - 48) r).2 _ c (by rw[ZI,<- e1]) (by rw[tokS_n r qd,nTok_no ha]) (by omega) (stepD_n _ _) (by omega) ?_;intro s' hs' hnz;obtain⟨ff,dd⟩:=s;cases dd with
    | zero=>
     cases ff with
     | true=>simp[run,tr] at hs'
     | false=>rw[zero0] at hs';cases hs'
    | succ dd=>
     rw[run_dig _ hdq] at hs';cases hs';exact h4
   | some r3=>
    have h72:=aft_eq ha;have hl3:(r3.drop (dGo (x - 48) r).1).length<=r3.length:=(suf_drop _ r3).len;have hl4:r3.length + 1<=r.length:=by rw[h72] at hlen;simpa using hlen
    refine one (x::q++72::r3.take (dGo (x - 48) r).1) (r3.drop (dGo (x - 48) r).1) _ c ?_ (by rw[tokS_n r qd,nTok_yes ha]) (by omega) (stepD_n _ _) (by omega) ?_
    ·have:r=q++72::r3:=by rw[<- h72];exact e1
     have h3':r3=r3.take (dGo (x - 48) r).1++r3.drop (dGo (x - 48) r).1:=(List.take_append_drop _ _).symm;rw[LX,ZI,ZI,<- h3',<- this]
    ·intro s' hs' hnz;obtain⟨ff,dd⟩:=s;cases dd with
     | zero=>
      cases ff with
      | true=>simp[run,tr] at hs'
      | false=>rw[ZI,zero0] at hs';cases hs'
     | succ dd=>
      rw[run_app,run_dig _ hdq] at hs';cases ff with
      | false=>simp[run,tr] at hs'
      | true=>
       obtain⟨f',d'⟩:=s';simp only[bd] at h4;cases f' with
       | true=>simp only[bd];exact h4
       | false=>
        cases d' with
        | zero=>have:=hnz rfl;simp at this
        | succ d'=>simp only[bd];omega
  ·have qd':isDig x=false:=by simpa using qd
   refine one [x] r (.sg x) (stepD (.sg x) c) rfl (tk_sg q32 q39 qd') (by omega) rfl (by simp only[stepD];split<;>(try split)<;>omega) ?_;intro s' hs' hnz;simp only[run] at hs';cases ht:tr s x with
   | none=>rw[ht] at hs';cases hs'
   | some s2=>
    rw[ht] at hs';cases hs';obtain⟨ff,dd⟩:=s;cases ff with
    | true=>
     cases dd with
     | zero=>simp[tr] at ht
     | succ dd=>
      simp only[tr,if_neg q39] at ht;by_cases q40:x=40
      ·rw[if_pos q40] at ht;cases ht
      ·rw[if_neg q40] at ht;cases ht;simp only[bd] at h4 ⊢;simp only[stepD,if_neg q40];split<;>omega
    | false=>
     cases dd with
     | zero=>
      simp only[tr,if_neg q32] at ht;by_cases q40:x=40
      ·rw[if_pos q40] at ht;cases ht;simp only[bd] at h4 ⊢;simp only[stepD,if_pos q40];omega
      ·rw[if_neg q40] at ht;cases ht
     | succ dd=>
      simp only[tr,if_neg q39] at ht;by_cases q40:x=40
      ·rw[if_pos q40] at ht;by_cases q5:dd + 1<=2
       ·rw[if_pos q5] at ht;cases ht;simp only[bd] at h4 ⊢;simp only[stepD,if_pos q40];omega
       ·rw[if_neg q5] at ht;cases ht
      rw[if_neg q40] at ht;by_cases q41:x=41
      ·rw[if_pos q41] at ht;have hst:stepD (.sg x) c=c - 1:=by simp[stepD,q41]
       rw[hst];cases dd with
       | zero=>rw[if_pos rfl] at ht;cases ht;simp only[bd] at h4 ⊢;omega
       | succ dd=>rw[if_neg (by omega)] at ht;cases ht;simp only[bd] at h4 ⊢;omega
      rw[if_neg q41] at ht;by_cases q72:x=72
      ·rw[if_pos q72] at ht;cases ht
      rw[if_neg q72] at ht;cases ht;simp only[stepD,if_neg q40,if_neg q41];exact h4
theorem skip_split:∀ u:Txt,∃ p,u=p++skip u/\∀ c∈p,c=32
 | []=>⟨[],rfl,by simp⟩
 | c::u=>by
  unfold skip;by_cases q:c=32
  ·rw[if_pos q];obtain⟨p,e,h⟩:=skip_split u;refine⟨c::p,by rw[ZI,<- e],?_⟩;intro x hx;rcases MI.mp hx with rfl | hx
   ·exact q
   ·exact h x hx
  ·rw[if_neg q];exact⟨[],rfl,by simp⟩
theorem run_bl:∀ (p:Txt),(∀ c∈p,c=32)->run (false,0) p=some (false,0)
 | [],h=>rfl
 | c::p,h=>by
  have hc:=h c (MS ..);subst hc;simp only[run,tr,if_true];exact run_bl p (fun c hc=>h c (MC _ hc))
theorem bent_fits {u:Txt}{l:List It}(hb:Bt 3 (false,0) u) (hr:readC u=some l):fitsC 1 ((tokS u).drop 1):=by
 unfold readC at hr;split at hr
 ·rename_i q;cases hk:skip u with
  | nil=>rw[tokS_nil hk] at q;cases q
  | cons c r=>
   have hc:c=40:=by
    apply Classical.byContradiction;intro z;have:isSg 40 (tokS u)[0]?=false:=hd_no (by decide) (by rw[hk];simp[aft,z]);rw[this] at q;cases q
   subst hc;have htk:tokS u=.sg 40::tokS r:=by rw[tokS_cons hk];simp[tok1,isDig]
   rw[htk] at hr ⊢;simp only[List.drop_succ_cons,List.drop_zero] at hr ⊢;have hw:=mach_walk _ _ _ _ _ _ _ hr;obtain⟨p,e,hp⟩:=skip_split u;rw[hk] at e;have e2:u=(p++[40])++r:=by rw[e];simp
   rw[e2] at hb;obtain⟨e',s',a,b,cc,d,f⟩:=Bt.invs (p++[40]) r 3 (false,0) hb;refine fitsB _ r e' s' 1 (Nat.lt_succ_self _) b (d (by decide)) a ?_ hw;by_cases q3:e'=3
   ·have h1:=f q3;rw[run_app,run_bl p hp] at h1;have:s'=(false,1):=by simpa [run,tr,eq_comm] using h1
    subst this;simp only[bd];omega
   ·have:=bd_edit (s:=(false,0)) (s':=s') (g:=0) (g':=3 - e') cc (by decide) (by omega);have h0:bd (false,0) 0=0:=rfl;rw[h0] at this;omega
 ·cases hr
def sepC (rest:Txt):Prop:=∃ c r,rest=c::r/\(c=44\/c=41\/c=47\/c=58)
theorem tk_num {k c:Nat}{r:Txt}(hk:k<=15) (h1:c≠32) (h2:isDig c=false) (h3:c≠72):tokS (dig k++c::r)=.n k::tokS (c::r):=by
 have ha:aft 72 (c::r)=none:=by simp[aft,h3]
 have hn:∀ m,m < 10000->nTok (m,c::r)=(.n m,c::r):=fun m hm=>by simp[nTok,ha,hm]
 have hd:∀ m,dGo m (c::r)=(m,c::r):=fun m=>by simp[dGo,h1,h2]
 unfold dig;by_cases q:k < 10
 ·rw[if_pos q];have hx:isDig (48 + k)=true:=by simp[isDig];omega
  rw[ZI,ZJ,tokS_n _ hx,hd,show 48 + k - 48=k by omega,hn k (by omega)]
 ·rw[if_neg q];have hx:isDig 49=true:=rfl;have hy:isDig (38 + k)=true:=by simp[isDig];omega
  have hz:¬ 38 + k=32:=by omega
  rw[ZI,ZI,ZJ,tokS_n _ hx];have:dGo (49 - 48) ((38 + k)::c::r)=(k,c::r):=by
   rw[dGo,if_neg hz,if_pos hy,hd]
   congr 1;omega
  rw[this,hn k (by omega)]
theorem tk_sep {rest:Txt}(h:sepC rest):∃ c r,rest=c::r/\tokS rest=.sg c::tokS r/\(c=44\/c=41\/c=47\/c=58):=by
 obtain⟨c,r,rfl,hc⟩:=h;refine⟨c,r,rfl,?_,hc⟩;rcases hc with rfl | rfl | rfl | rfl<;>exact tk_sg (by decide) (by decide) (by decide)
theorem tk_num_sep {k:Nat}{rest:Txt}(hk:k<=15) (h:sepC rest):tokS (dig k++rest)=.n k::tokS rest:=by
 obtain⟨c,r,rfl,hc⟩:=h;rcases hc with rfl | rfl | rfl | rfl<;>exact tk_num hk (by decide) (by decide) (by decide)
def hd0 (w:List Tk):Prop:=isSg 44 w[0]?=false/\isSg 41 w[0]?=false/\isSg 40 w[0]?=false/\(isN w[0]?&&(decide (0 < nv w[0]?)&&isSg 40 w[1]?))=false
theorem tn {k:Nat}(h:k<=15):textOf (k:Int)=dig k:=textOf_nat h
theorem leaf_tok {j:Txt}{i:It}(h:Leaf i){rest:Txt}(hr:sepC rest):∃ c w,isVal c=true/\tokS (wText j i++rest)=.sg c::w/\valuedT (.sg c::w)=some (i,tokS rest):=by
 obtain⟨s,r,e,hs,hc⟩:=tk_sep hr;have s46:s≠46:=by omega
 have s69:s≠69:=by omega
 have num:=fun {k:Nat}(hk:k<=15)=>tk_num_sep (k:=k) (rest:=rest) hk hr
 have dot:∀ {r:Txt},tokS (46::r)=.sg 46::tokS r:=tk_sg (by decide) (by decide) (by decide);have ee:∀ {r:Txt},tokS (69::r)=.sg 69::tokS r:=tk_sg (by decide) (by decide) (by decide);have numd:=fun {k:Nat}{r:Txt}(hk:k<=15)=>tk_num (k:=k) (c:=46) (r:=r) hk (by decide) (by decide) (by decide)
 have nume:=fun {k:Nat}{r:Txt}(hk:k<=15)=>tk_num (k:=k) (c:=69) (r:=r) hk (by decide) (by decide) (by decide)
 cases h with
 | i0 w h1 h2=>
  refine⟨73,.n w::tokS rest,by decide,?_,?_⟩
  ·simp only[wText,tail3,JS,nI,tn (show w<=15 by omega),show ¬ (([73]:Txt)=[88]\/([73]:Txt)=[80]) by decide,if_false,ZJ,List.append_nil,ZI];rw[tk_sg (by decide) (by decide) (by decide),num (by omega)]
  ·rw[hs];simp[valuedT,isN,nAt,nv,isSg,s46,h1]
 | i1 w d h1 h2 h3=>
  refine⟨73,.n w::.sg 46::.n d::tokS rest,by decide,?_,?_⟩
  ·simp only[wText,tail3,JS,nI,tn (show w<=15 by omega),tn (show d<=15 by omega),show ¬ (([73]:Txt)=[88]\/([73]:Txt)=[80]) by decide,if_false,ZJ,List.append_nil,ZI,LX];rw[tk_sg (by decide) (by decide) (by decide),numd (by omega),dot,num (by omega)]
  ·have:¬ w < d:=by omega
   simp[valuedT,isN,nAt,nv,isSg,h1,this]
 | l w h1 h2=>
  refine⟨76,.n w::tokS rest,by decide,?_,?_⟩
  ·simp only[wText,tail3,JS,nI,tn (show w<=15 by omega),show ¬ (([76]:Txt)=[88]\/([76]:Txt)=[80]) by decide,if_false,ZJ,List.append_nil,ZI];rw[tk_sg (by decide) (by decide) (by decide),num (by omega)]
  ·simp[valuedT,isN,nAt,nv,isSg,h1]
 | a0=>
  refine⟨65,tokS rest,by decide,?_,?_⟩
  ·simp only[wText,tail3,JS,nI,show ¬ (([65]:Txt)=[88]\/([65]:Txt)=[80]) by decide,if_false,ZJ,List.append_nil,ZI];rw[tk_sg (by decide) (by decide) (by decide)]
  ·rw[hs];simp[valuedT,isN]
 | a1 w h1 h2=>
  refine⟨65,.n w::tokS rest,by decide,?_,?_⟩
  ·simp only[wText,tail3,JS,nI,tn (show w<=15 by omega),show ¬ (([65]:Txt)=[88]\/([65]:Txt)=[80]) by decide,if_false,ZJ,List.append_nil,ZI];rw[tk_sg (by decide) (by decide) (by decide),num (by omega)]
  ·simp[valuedT,isN,nAt,nv,isSg,h1]
 | fd c w d hcc h1 h2 h3=>
  have nx:¬ (([c]:Txt)=[88]\/([c]:Txt)=[80]):=by rcases hcc with rfl | rfl<;>decide
  refine⟨c,.n w::.sg 46::.n d::tokS rest,by rcases hcc with rfl | rfl<;>decide,?_,?_⟩
  ·simp only[wText,tail3,JS,nI,tn (show w<=15 by omega),tn (show d<=15 by omega),nx,if_false,ZJ,List.append_nil,ZI,LX];rw[tk_sg (by omega) (by omega) (by rcases hcc with rfl | rfl<;>decide),numd (by omega),dot,num (by omega)]
  ·rcases hcc with rfl | rfl<;>simp[valuedT,realsT,isN,nAt,nv,isSg,h1]
 | e0 c w d hcc h1 h2 h3=>
  have nx:¬ (([c]:Txt)=[88]\/([c]:Txt)=[80]):=by rcases hcc with rfl | rfl<;>decide
  refine⟨c,.n w::.sg 46::.n d::tokS rest,by rcases hcc with rfl | rfl<;>decide,?_,?_⟩
  ·simp only[wText,tail3,JS,nI,tn (show w<=15 by omega),tn (show d<=15 by omega),nx,if_false,ZJ,List.append_nil,ZI,LX];rw[tk_sg (by omega) (by omega) (by rcases hcc with rfl | rfl<;>decide),numd (by omega),dot,num (by omega)]
  ·rw[hs];rcases hcc with rfl | rfl<;>simp[valuedT,realsT,isN,nAt,nv,isSg,h1,s69]
 | e1 c w d x hcc h1 h2 h3 h4 h5=>
  have nx:¬ (([c]:Txt)=[88]\/([c]:Txt)=[80]):=by rcases hcc with rfl | rfl<;>decide
  refine⟨c,.n w::.sg 46::.n d::.sg 69::.n x::tokS rest,by rcases hcc with rfl | rfl<;>decide,?_,?_⟩
  ·simp only[wText,tail3,JS,nI,tn (show w<=15 by omega),tn (show d<=15 by omega),tn (show x<=15 by omega),nx,if_false,ZJ,List.append_nil,ZI,LX];rw[tk_sg (by omega) (by omega) (by rcases hcc with rfl | rfl<;>decide),numd (by omega),dot,nume (by omega),ee,num (by omega)]
  ·rcases hcc with rfl | rfl<;>simp[valuedT,realsT,isN,nAt,nv,isSg,h1,h4]
theorem leaf_head {j:Txt}{i:It}(h:Leaf i):∃ c r,wText j i=c::r/\isVal c=true:=by
 have v:∀ c:Nat,(c=70\/c=68\/c=69\/c=71)->isVal c=true/\¬ (([c]:Txt)=[88]\/([c]:Txt)=[80]):=by
  intro c hc;rcases hc with rfl | rfl | rfl | rfl<;>decide
 cases h with
 | i0 w h1 h2=>exact⟨73,_,(by simp[wText];rfl),by decide⟩
 | i1 w d h1 h2 h3=>exact⟨73,_,(by simp[wText];rfl),by decide⟩
 | l w h1 h2=>exact⟨76,_,(by simp[wText];rfl),by decide⟩
 | a0=>exact⟨65,_,(by simp[wText];rfl),by decide⟩
 | a1 w h1 h2=>exact⟨65,_,(by simp[wText];rfl),by decide⟩
 | fd c w d hc h1 h2 h3=>exact⟨c,_,by simp only[wText,if_neg (v c (by omega)).2];rfl,(v c (by omega)).1⟩
 | e0 c w d hc h1 h2 h3=>exact⟨c,_,by simp only[wText,if_neg (v c (by omega)).2];rfl,(v c (by omega)).1⟩
 | e1 c w d x hc h1 h2 h3 h4 h5=>exact⟨c,_,by simp only[wText,if_neg (v c (by omega)).2];rfl,(v c (by omega)).1⟩
theorem qs_dbl:∀ (s out rest:Txt),(∀ r,rest≠39::r)->qs out (dbl s++39::rest)=(out++s,39::rest)
 | [],out,rest,h=>by
  simp only[dbl,ZJ,List.append_nil];rw[qs.eq_def];cases rest with
  | nil=>rfl
  | cons d r=>
   have:d≠39:=by intro q;subst q;exact h r rfl
   simp[this]
 | c::s,out,rest,h=>by
  have ih:=qs_dbl s (out++[c]) rest h;by_cases q:c=39
  ·subst q;have e:dbl (39::s)++39::rest=39::39::(dbl s++39::rest):=by simp[dbl]
   rw[e,qs.eq_def];simp only[ne_eq,not_true_eq_false,if_false,if_true];rw[ih];simp
  ·have e:dbl (c::s)++39::rest=c::(dbl s++39::rest):=by simp[dbl,q]
   rw[e,qs.eq_def];simp only[ne_eq,q,not_false_eq_true,if_true];rw[ih];simp
def Nx (i:It) (rest:Txt):Prop:=(i.word=[47]\/i.word=[58]\/i.word=[80])\/sepC rest
theorem good_single {d:Nat}{j:Txt}{i:It}(h:Good d i){rest:Txt}(hr:Nx i rest) (hg:∀ k l,i≠.grp k l):hd0 (tokS (wText j i++rest))/\singleT (tokS (wText j i++rest))=some (i,tokS rest):=by
 cases h with
 | leaf _ _ h=>
  have hs:sepC rest:=by
   rcases hr with hr | hr
   ·exfalso;obtain⟨w,ps,rfl,_,_,_,hw,_⟩:=leaf_form h;simp only[It.word] at hr;rcases hw with rfl | rfl | rfl | rfl | rfl | rfl | rfl<;>simp at hr
   ·exact hr
  obtain⟨c,w,hv,e1,e2⟩:=leaf_tok (j:=j) h hs;have hvn:=val_ne hv;have h41:c≠41:=by intro q;subst q;simp[isVal] at hv
  have h44:c≠44:=by intro q;subst q;simp[isVal] at hv
  rw[e1,singleT_sg,if_pos hv];exact⟨⟨by simp[isSg,h44],by simp[isSg,h41],by simp[isSg,hvn.2.2.2.1],rfl⟩,e2⟩
 | rep _ k i h1 h2 h=>
  have hs:sepC rest:=by
   rcases hr with hr | hr
   ·simp[It.word] at hr
   ·exact hr
  obtain⟨c,w,hv,e1,e2⟩:=leaf_tok (j:=j) h hs;obtain⟨c2,r2,e3,hv2⟩:=leaf_head (j:=j) h;have hvn:=val_ne hv;have hvn2:=val_ne hv2;have h32:c2≠32:=by intro q;subst q;simp[isVal] at hv2
  have et:tokS (wText j (.rep (k:Int) i)++rest)=.n k::.sg c::w:=by
   simp only[wText,tn h2,LX];rw[<- e1,e3,ZI,tk_num h2 h32 hvn2.2.2.2.2.2.2.2 hvn2.2.2.1]
  rw[et];have t1:isSg 40 (Tk.n k::.sg c::w)[1]?=false:=by simp[isSg,hvn.2.2.2.1]
  refine⟨⟨rfl,rfl,rfl,by rw[t1];simp⟩,?_⟩;simp only[singleT];have t2:isSg 80 (Tk.sg c::w)[0]?=false:=by simp[isSg,hvn.1]
  have t3:isSg 88 (Tk.sg c::w)[0]?=false:=by simp[isSg,hvn.2.1]
  have t4:valO (Tk.sg c::w)[0]?=true:=hv;rw[t2,t3,t4];simp only[BF,if_false,and_false,and_true,if_pos (show 0 < k by omega),e2,ZE,if_pos (show 1 < k by omega)]
 | text _ s h1 h2 h3=>
  have hs:sepC rest:=by
   rcases hr with hr | hr
   ·simp[It.word] at hr
   ·exact hr
  obtain⟨c,r,rfl,hc⟩:=hs;have e:wText j (.text s)++c::r=39::(dbl s++39::(c::r)):=by simp[wText]
  have hq:=qs_dbl s [] (c::r) (by intro x hx;injection hx with hx _;omega);rw[e,tokS_q,hq];have:qTok ([]++s,39::c::r)=(.t s,c::r):=by simp[qTok,h1]
  rw[this];exact⟨⟨rfl,rfl,rfl,rfl⟩,rfl⟩
 | x _ k h1 h2=>
  have e:wText j (.nums [88] [nI k])++rest=dig k++88::rest:=by simp[wText,tail3,nI,tn (show k<=15 by omega)]
  rw[e,tk_num (by omega) (by decide) (by decide) (by decide),tk_sg (by decide) (by decide) (by decide)];refine⟨⟨rfl,rfl,rfl,by simp[isSg]⟩,?_⟩;have h0 : 0 < k:=by omega
  simp[singleT,isSg,h0]
 | t _ k w hw h1 h2=>
  have hs:sepC rest:=by
   rcases hr with hr | hr
   ·simp at hw;simp only[It.word] at hr;rcases hw with rfl | rfl | rfl<;>simp at hr
   ·exact hr
  have num:=tk_num_sep (k:=k) (rest:=rest) (by omega) hs;have h1' : 1<=k:=h1;simp at hw;rcases hw with rfl | rfl | rfl
  ·have e:wText j (.nums [84] [nI k])++rest=84::(dig k++rest):=by simp[wText,tail3,JS,nI,tn (show k<=15 by omega)]
   rw[e,tk_sg (by decide) (by decide) (by decide),num];exact⟨⟨rfl,rfl,rfl,rfl⟩,by simp[singleT,isVal,controlT,isSg,isN,nAt,nv,h1']⟩
  ·have e:wText j (.nums [84,76] [nI k])++rest=84::76::(dig k++rest):=by simp[wText,tail3,JS,nI,tn (show k<=15 by omega)]
   rw[e,tk_sg (by decide) (by decide) (by decide),tk_sg (by decide) (by decide) (by decide),num];exact⟨⟨rfl,rfl,rfl,rfl⟩,by simp[singleT,isVal,controlT,isSg,isN,nAt,nv,h1']⟩
  ·have e:wText j (.nums [84,82] [nI k])++rest=84::82::(dig k++rest):=by simp[wText,tail3,JS,nI,tn (show k<=15 by omega)]
   rw[e,tk_sg (by decide) (by decide) (by decide),tk_sg (by decide) (by decide) (by decide),num];exact⟨⟨rfl,rfl,rfl,rfl⟩,by simp[singleT,isVal,controlT,isSg,isN,nAt,nv,h1']⟩
 | c _ w hw=>
  simp at hw;have key:∀ (a:Nat),(a=47\/a=58)->hd0 (tokS (a::rest))/\singleT (tokS (a::rest))=some (.nums [a] [],tokS rest):=by
   intro a ha;rcases ha with rfl | rfl<;>(rw[tk_sg (by decide) (by decide) (by decide)];exact⟨⟨rfl,rfl,rfl,rfl⟩,by simp[singleT,isVal,controlT]⟩)
  rcases hw with rfl | rfl | hw
  ·have e:wText j (.nums [47] [])++rest=47::rest:=by simp[wText,tail3,JS]
   rw[e];exact key 47 (by omega)
  ·have e:wText j (.nums [58] [])++rest=58::rest:=by simp[wText,tail3,JS]
   rw[e];exact key 58 (by omega)
  ·have hs:sepC rest:=by
    rcases hr with hr | hr
    ·simp only[It.word] at hr;rcases hw with rfl | rfl | rfl | rfl | rfl<;>simp at hr
    ·exact hr
   obtain⟨c,r,e0,hs,hc⟩:=tk_sep hs;have c80:c≠80:=by omega
   have c83:c≠83:=by omega
   rcases hw with rfl | rfl | rfl | rfl | rfl
   ·have e:wText j (.nums [83] [])++rest=83::rest:=by simp[wText,tail3,JS]
    rw[e,tk_sg (by decide) (by decide) (by decide),hs];exact⟨⟨rfl,rfl,rfl,rfl⟩,by simp[singleT,isVal,controlT,isSg,c80,c83]⟩
   ·have e:wText j (.nums [83,80] [])++rest=83::80::rest:=by simp[wText,tail3,JS]
    rw[e,tk_sg (by decide) (by decide) (by decide),tk_sg (by decide) (by decide) (by decide)];exact⟨⟨rfl,rfl,rfl,rfl⟩,by simp[singleT,isVal,controlT,isSg]⟩
   ·have e:wText j (.nums [83,83] [])++rest=83::83::rest:=by simp[wText,tail3,JS]
    rw[e,tk_sg (by decide) (by decide) (by decide),tk_sg (by decide) (by decide) (by decide)];exact⟨⟨rfl,rfl,rfl,rfl⟩,by simp[singleT,isVal,controlT,isSg]⟩
   ·have e:wText j (.nums [66,78] [])++rest=66::78::rest:=by simp[wText,tail3,JS]
    rw[e,tk_sg (by decide) (by decide) (by decide),tk_sg (by decide) (by decide) (by decide)];exact⟨⟨rfl,rfl,rfl,rfl⟩,by simp[singleT,isVal,controlT,isSg]⟩
   ·have e:wText j (.nums [66,90] [])++rest=66::90::rest:=by simp[wText,tail3,JS]
    rw[e,tk_sg (by decide) (by decide) (by decide),tk_sg (by decide) (by decide) (by decide)];exact⟨⟨rfl,rfl,rfl,rfl⟩,by simp[singleT,isVal,controlT,isSg]⟩
 | p _ k h1 h2=>
  by_cases q : 0<=k
  ·obtain⟨n,rfl⟩:=Int.eq_ofNat_of_zero_le q;have e:wText j (.nums [80] [some (n:Int)])++rest=dig n++80::rest:=by simp[wText,tail3,tn (show n<=15 by omega)]
   rw[e,tk_num (by omega) (by decide) (by decide) (by decide),tk_sg (by decide) (by decide) (by decide)];refine⟨⟨rfl,rfl,rfl,by simp[isSg]⟩,?_⟩;simp[singleT,isSg,nI]
  ·obtain⟨n,hn⟩ : ∃ n:Nat,k=-(n:Int):=⟨k.natAbs,by omega⟩
   subst hn;have e:wText j (.nums [80] [some (-(n:Int))])++rest=45::(dig n++80::rest):=by simp[wText,tail3,textOf_neg (show n<=6 by omega) (by omega)]
   rw[e,tk_sg (by decide) (by decide) (by decide),tk_num (by omega) (by decide) (by decide) (by decide),tk_sg (by decide) (by decide) (by decide)];exact⟨⟨rfl,rfl,rfl,rfl⟩,by simp[singleT,isVal,controlT,isSg,isN,nv]⟩
 | grp d k l h1 h2 h3 h4 h5=>exact absurd rfl (hg _ _)
theorem mach_items {j:Txt}(hj:j=[]\/j=[44]):∀ (d:Nat) (l:List It) (B:List (Nat × List It × Bool)) (k:Nat) (acc:List It) (rest:Txt),(∀ i∈l,Good d i)->sepC rest->
  machS B k acc false (tokS (wItems j acc.getLast? l++rest))=machS B k (acc++l) false (tokS rest)
 | d,[],B,k,acc,rest,h,hr=>by simp[wItems]
 | d,i::l,B,k,acc,rest,h,hr=>by
  have hi:=h i (MS ..);have ih:=mach_items hj d l B k (acc++[i]) rest (fun i hi=>h i (MC _ hi)) hr;have hgl:(acc++[i]).getLast?=some i:=by simp
  rw[hgl] at ih;have e:wItems j acc.getLast? (i::l)++rest=sepr j acc.getLast? i++(wText j i++(wItems j (some i) l++rest)):=by simp[wItems]
  have ea:acc++i::l=acc++[i]++l:=by simp
  rw[e,ea];have hnx:Nx i (wItems j (some i) l++rest):=by
   cases l with
   | nil=>exact .inr (by simpa [wItems] using hr)
   | cons i2 l=>
    have hgood2:=h i2 (by simp);simp only[wItems,sepr];cases hlo:loose i i2 with
    | false=>
     simp only[BF,if_false];exact .inr ⟨44,_,rfl,.inl rfl⟩
    | true=>
     simp only[if_true];rcases hj with rfl | rfl
     ·by_cases hp:i.word=[47]\/i.word=[58]\/i.word=[80]
      ·exact .inl hp
      ·
       have hw2:i2.word=[47]\/i2.word=[58]:=by
        simp[loose] at hlo;rcases hlo with ((hlo | hlo) | hlo) | hlo
        ·rcases hlo with hlo | hlo
         ·exact absurd (.inl hlo) hp
         ·exact absurd (.inr (.inl hlo)) hp
        ·exact .inl hlo
        ·exact .inr hlo
        ·exact absurd (.inr (.inr hlo.1)) hp
       refine .inr ?_;cases hgood2 with
       | leaf _ _ hlf=>
        exfalso;obtain⟨w,ps,rfl,_,_,_,hw,_⟩:=leaf_form hlf;simp only[It.word] at hw2;rcases hw with rfl | rfl | rfl | rfl | rfl | rfl | rfl<;>simp at hw2
       | rep=>simp[It.word] at hw2
       | text=>simp[It.word] at hw2
       | x=>simp[It.word] at hw2
       | t _ k w hw=>
        exfalso;simp at hw;simp only[It.word] at hw2;rcases hw with rfl | rfl | rfl<;>simp at hw2
       | p=>simp[It.word] at hw2
       | grp=>simp[It.word] at hw2
       | c _ w hw=>
        simp only[It.word] at hw2;rcases hw2 with rfl | rfl
        ·exact⟨47,_,by simp[wText,tail3,JS];rfl,by simp⟩
        ·exact⟨58,_,by simp[wText,tail3,JS];rfl,by simp⟩
     ·exact .inr ⟨44,_,rfl,.inl rfl⟩
  have item:∀ after,(after=true\/looseLast acc i=true)->machS B k acc after (tokS (wText j i++(wItems j (some i) l++rest)))=machS B k (acc++[i]) false (tokS (wItems j (some i) l++rest)):=by
   intro after ha;have hno:(!after&&!looseLast acc i)=false:=by
    rcases ha with h | h<;>rw[h]<;>simp
   by_cases hg:∃ kk m,i=.grp kk m
   ·obtain⟨kk,m,rfl⟩:=hg;cases hi with
    | leaf _ _ hlf=>obtain⟨w,ps,hh,_⟩:=leaf_form hlf;cases hh
    | grp d kn _ h1 h2 h3 h4 h5=>
     have hsub:=fun B k rest hr=>mach_items hj d m B k [] rest h5 hr
     have hcl:sepC (41::(wItems j (some (.grp (kn:Int) m)) l++rest)):=⟨41,_,rfl,by simp⟩
     have hnil:(([]:List It).getLast?)=none:=rfl;have body:∀ kk,machS ((k,acc,after)::B) kk [] false (tokS (wItems j none m++41::(wItems j (some (.grp (kn:Int) m)) l++rest)))=closeS ((k,acc,after)::B) kk m (tokS (wItems j (some (.grp (kn:Int) m)) l++rest)):=by
      intro kk;have:=hsub ((k,acc,after)::B) kk _ hcl;rw[hnil] at this;rw[this,tk_sg (by decide) (by decide) (by decide),m_close];simp
     have hmne:m.isEmpty=false:=by cases m with | nil=>exact absurd rfl h3 | cons=>rfl
     have fin:closeS ((k,acc,after)::B) kn m (tokS (wItems j (some (.grp (kn:Int) m)) l++rest))=machS B k (acc++[.grp (kn:Int) m]) false (tokS (wItems j (some (.grp (kn:Int) m)) l++rest)):=by
      simp only[closeS,hmne,hno,BF,if_false]
     by_cases q1:kn=1
     ·subst q1;have ew:wText j (.grp ((1:Nat):Int) m)++(wItems j (some (.grp ((1:Nat):Int) m)) l++rest)=40::(wItems j none m++41::(wItems j (some (.grp ((1:Nat):Int) m)) l++rest)):=by
       simp[wText]
      rw[ew,tk_sg (by decide) (by decide) (by decide),m_open,body,fin]
     ·have hk1:¬ ((kn:Int)=1):=by omega
      have ew:wText j (.grp (kn:Int) m)++(wItems j (some (.grp (kn:Int) m)) l++rest)=dig kn++40::(wItems j none m++41::(wItems j (some (.grp (kn:Int) m)) l++rest)):=by
       simp[wText,hk1,tn (show kn<=15 by omega)]
      rw[ew,tk_num (by omega) (by decide) (by decide) (by decide),tk_sg (by decide) (by decide) (by decide),m_nopen (by omega),body,fin]
   ·obtain⟨⟨a,b,c,dd⟩,hs⟩:=good_single (j:=j) hi hnx (fun kk m h=>hg ⟨kk,m,h⟩);rw[m_item a b c dd,hs];simp only[hno,BF,if_false]
  rcases List.eq_nil_or_concat acc with rfl | ⟨m,a,rfl⟩
  ·have:sepr j ([]:List It).getLast? i=[]:=rfl;rw[this,ZJ,item false (.inr rfl)];exact ih
  ·simp only[List.concat_eq_append] at *;have hgl2:(m++[a]).getLast?=some a:=by simp
   have hll:looseLast (m++[a]) i=loose a i:=by simp[looseLast]
   rw[hgl2];have comma:machS B k (m++[a]) false (tokS (44::(wText j i++(wItems j (some i) l++rest))))=machS B k (m++[a]) true (tokS (wText j i++(wItems j (some i) l++rest))):=by
    rw[tk_sg (by decide) (by decide) (by decide),m_comma];simp
   simp only[sepr];cases hlo:loose a i with
   | false=>
    simp only[BF,if_false];rw[ZI,ZJ,comma,item true (.inl rfl)];exact ih
   | true=>
    simp only[if_true];rcases hj with rfl | rfl
    ·rw[ZJ,item false (.inr (by rw[hll,hlo]))];exact ih
    ·rw[ZI,ZJ,comma,item true (.inl rfl)];exact ih
 termination_by d l=>(d,l.length)
theorem read_whole {j:Txt}(hj:j=[]\/j=[44]){d:Nat}{l:List It}(h:∀ i∈l,Good d i):readC (wWhole j l)=some l:=by
 unfold readC wWhole;rw[tk_sg (by decide) (by decide) (by decide)];have t1:∀ w,isSg 40 (Tk.sg 40::w)[0]?=true:=fun w=>rfl
 simp only[t1,if_true,List.drop_succ_cons,List.drop_zero];rw[mach_S (by simp only[LC];omega)];have:=mach_items hj d l [] 1 [] [41] h ⟨41,[],rfl,by simp⟩;rw[show (([]:List It).getLast?)=none from rfl] at this;rw[this,tk_sg (by decide) (by decide) (by decide),m_close];rfl
abbrev pl (c:Nat):Prop:=c < 100/\c≠63/\c≠39/\c≠40/\c≠41/\c≠72
theorem dig_pl {k c:Nat}(hk:k<=15) (h:c∈dig k):pl c:=by
 unfold dig at h;split at h
 ·simp at h;subst h;unfold pl;omega
 ·simp at h;rcases h with rfl | rfl<;>(unfold pl;omega)
theorem textOf_pl {k:Int}(h1 : -6<=k) (h2:k<=15){c:Nat}(h:c∈textOf k):pl c:=by
 by_cases q : 0<=k
 ·obtain⟨n,rfl⟩:=Int.eq_ofNat_of_zero_le q;rw[textOf_nat (by omega)] at h;exact dig_pl (by omega) h
 ·obtain⟨n,hn⟩ : ∃ n:Nat,k=-(n:Int):=⟨k.natAbs,by omega⟩
  subst hn;rw[textOf_neg (by omega) (by omega)] at h;rcases MI.mp h with rfl | h
  ·unfold pl;omega
  ·exact dig_pl (by omega) h
theorem tail3_pl:∀ (js:List Txt) (ps:List (Option Int)),(∀ j∈js,∀ c∈j,pl c)->(∀ k,some k∈ps->-6<=k/\k<=15)->∀ c∈tail3 js ps,pl c
 | [],ps,hj,hp,c,hc=>by cases ps<;>simp[tail3] at hc
 | j::js,[],hj,hp,c,hc=>by simp[tail3] at hc
 | j::js,none::ps,hj,hp,c,hc=>by
  simp only[tail3] at hc;exact tail3_pl js ps (fun j h=>hj j (MC _ h)) (fun k h=>hp k (MC _ h)) c hc
 | j::js,some k::ps,hj,hp,c,hc=>by
  simp only[tail3] at hc;rcases List.mem_append.mp hc with hc | hc
  ·rcases List.mem_append.mp hc with hc | hc
   ·exact hj j (MS ..) c hc
   ·have:=hp k (MS ..);exact textOf_pl this.1 this.2 hc
  ·exact tail3_pl js ps (fun j h=>hj j (MC _ h)) (fun k h=>hp k (MC _ h)) c hc
theorem words_pl:∀ w∈words,∀ c∈w,pl c:=by decide
theorem nums_pl {j w:Txt}{ps:List (Option Int)}(hw:w∈words) (hp:∀ k,some k∈ps->-6<=k/\k<=15):∀ c∈wText j (.nums w ps),pl c:=by
 intro c hc;simp only[wText] at hc;split at hc
 ·rcases List.mem_append.mp hc with hc | hc
  ·exact tail3_pl [[]] ps (by simp) hp c hc
  ·exact words_pl w hw c hc
 ·rcases List.mem_append.mp hc with hc | hc
  ·exact words_pl w hw c hc
  ·exact tail3_pl JS ps (by decide) hp c hc
theorem leaf_small {i:It}(h:Leaf i):∃ w ps,i=.nums w ps/\w∈words/\∀ k,some k∈ps->-6<=k/\k<=15:=by
 have v:∀ c:Nat,(c=70\/c=68\/c=69\/c=71)->([c]:Txt)∈words:=by
  intro c hc;rcases hc with rfl | rfl | rfl | rfl<;>decide
 cases h with
 | i0 w h1 h2=>exact⟨_,_,rfl,by decide,by intro k hk;simp[nI] at hk;omega⟩
 | i1 w d h1 h2 h3=>exact⟨_,_,rfl,by decide,by intro k hk;simp[nI] at hk;omega⟩
 | l w h1 h2=>exact⟨_,_,rfl,by decide,by intro k hk;simp[nI] at hk;omega⟩
 | a0=>exact⟨_,_,rfl,by decide,by intro k hk;simp[nI] at hk⟩
 | a1 w h1 h2=>exact⟨_,_,rfl,by decide,by intro k hk;simp[nI] at hk;omega⟩
 | fd c w d hc h1 h2 h3=>exact⟨_,_,rfl,v c (by omega),by intro k hk;simp[nI] at hk;omega⟩
 | e0 c w d hc h1 h2 h3=>exact⟨_,_,rfl,v c (by omega),by intro k hk;simp[nI] at hk;omega⟩
 | e1 c w d e hc h1 h2 h3 h4 h5=>exact⟨_,_,rfl,v c (by omega),by intro k hk;simp[nI] at hk;omega⟩
theorem leaf_pl {j:Txt}{i:It}(h:Leaf i):∀ c∈wText j i,pl c:=by
 obtain⟨w,ps,rfl,hw,hp⟩:=leaf_small h;exact nums_pl hw hp
theorem pl_ok {u:Txt}(h:∀ c∈u,pl c):okT u:=fun c hc=>⟨(h c hc).1,(h c hc).2.1⟩
theorem run_pl {d:Nat}:∀ (u:Txt),(∀ c∈u,pl c)->run (false,d + 1) u=some (false,d + 1)
 | [],h=>rfl
 | c::u,h=>by
  obtain⟨_,_,a,b,cc,e⟩:=h c (MS ..);have:tr (false,d + 1) c=some (false,d + 1):=by simp[tr,a,b,cc,e]
  simp only[run,this];exact run_pl u (fun c hc=>h c (MC _ hc))
theorem dbl_mem:∀ (s:Txt) (c:Nat),c∈dbl s->c∈s
 | [],c,h=>by simp[dbl] at h
 | x::s,c,h=>by
  have ih:=dbl_mem s c;unfold dbl at h;split at h
  ·rename_i q;rcases MI.mp h with rfl | h
   ·rw[q];exact MS ..
   ·rcases MI.mp h with rfl | h
    ·rw[q];exact MS ..
    ·exact MC _ (ih h)
  ·rcases MI.mp h with rfl | h
   ·exact MS ..
   ·exact MC _ (ih h)
theorem run_dbl {d:Nat}:∀ (s:Txt),(∀ c∈s,c≠40)->run (true,d + 1) (dbl s)=some (true,d + 1)
 | [],h=>rfl
 | c::s,h=>by
  have hc:=h c (MS ..);have ih:=run_dbl (d:=d) s (fun c hc=>h c (MC _ hc));unfold dbl;by_cases q:c=39
  ·rw[if_pos q];have:run (true,d + 1) (39::39::dbl s)=run (true,d + 1) (dbl s):=by simp[run,tr]
   rw[this];exact ih
  ·rw[if_neg q];have:run (true,d + 1) (c::dbl s)=run (true,d + 1) (dbl s):=by simp[run,tr,q,hc]
   rw[this];exact ih
def okR2 (d:Nat) (u:Txt):Prop:=run (false,d + 1) u=some (false,d + 1)/\okT u
theorem okR2.app {d:Nat}{u v:Txt}(h1:okR2 d u) (h2:okR2 d v):okR2 d (u++v):=by
 refine⟨?_,fun c hc=>?_⟩
 ·rw[run_app,h1.1];exact h2.1
 ·rcases List.mem_append.mp hc with hc | hc
  ·exact h1.2 c hc
  ·exact h2.2 c hc
theorem okR2.pl {d:Nat}{u:Txt}(h:∀ c∈u,pl c):okR2 d u:=⟨run_pl u h,pl_ok h⟩
theorem sepr_pl {j:Txt}(hj:j=[]\/j=[44]) (p:Option It) (i:It):∀ c∈sepr j p i,Mine.P.pl c:=by
 have h44:∀ c∈([44]:Txt),Mine.P.pl c:=by decide
 cases p with
 | none=>simp[sepr]
 | some p=>
  simp only[sepr];split
  ·rcases hj with rfl | rfl
   ·simp
   ·exact h44
  ·exact h44
theorem hAlph_ok:∀ c∈hAlph,c < 100/\c≠63/\c≠40:=by decide
theorem items_ok {j:Txt}(hj:j=[]\/j=[44]){d:Nat}:∀ (l:List It) (p:Option It),(∀ i∈l,okR2 d (wText j i))->okR2 d (wItems j p l)
 | [],p,h=>⟨rfl,fun c hc=>by simp[wItems] at hc⟩
 | i::l,p,h=>by
  simp only[wItems];exact (okR2.pl (sepr_pl hj p i)).app ((h i (MS ..)).app (items_ok hj l (some i) (fun i hi=>h i (MC _ hi))))
theorem good_ok {j:Txt}(hj:j=[]\/j=[44]){dd:Nat}{i:It}(h:Good dd i):∀ d,d + 1 + dd<=3->okR2 d (wText j i):=by
 have w1:∀ w∈([[84],[84,76],[84,82]]:List Txt),w∈words:=by decide
 have w2:∀ w∈([[47],[58],[83],[83,80],[83,83],[66,78],[66,90]]:List Txt),w∈words:=by decide
 induction h with
 | leaf dd i h=>intro d _;exact .pl (leaf_pl h)
 | rep dd k i h1 h2 h=>
  intro d _;simp only[wText];exact (okR2.pl (fun c hc=>textOf_pl (by omega) (by omega) hc)).app (.pl (leaf_pl h))
 | text dd s h1 h2 h3=>
  intro d _;simp only[wText];refine⟨?_,?_⟩
  ·have:run (false,d + 1) (39::(dbl s++[39]))=run (true,d + 1) (dbl s++[39]):=by simp[run,tr]
   rw[this,run_app,run_dbl s (fun c hc=>(hAlph_ok c (h3 c hc)).2.2)];simp[run,tr]
  ·intro c hc;rcases MI.mp hc with rfl | hc
   ·decide
   rcases List.mem_append.mp hc with hc | hc
   ·have:=hAlph_ok c (h3 c (dbl_mem s c hc));exact⟨this.1,this.2.1⟩
   ·simp at hc;subst hc;decide
 | x dd k h1 h2=>intro d _;exact .pl (nums_pl (by decide) (by intro k hk;simp[nI] at hk;omega))
 | t dd k w hw h1 h2=>intro d _;exact .pl (nums_pl (w1 w hw) (by intro k hk;simp[nI] at hk;omega))
 | c dd w hw=>intro d _;exact .pl (nums_pl (w2 w hw) (by intro k hk;cases hk))
 | p dd k h1 h2=>intro d _;exact .pl (nums_pl (by decide) (by intro x hx;simp at hx;omega))
 | grp dd k l h1 h2 h3 h4 h5 ih=>
  intro d hd;simp only[wText];have hk:okR2 d (if (k:Int)=1 then ([]:Txt) else textOf (k:Int)):=by
   split
   ·exact .pl (by simp)
   ·exact .pl (fun c hc=>textOf_pl (by omega) (by omega) hc)
  refine hk.app ?_;have hi:=items_ok hj (d:=d + 1) l none (fun i hi=>ih i hi (d + 1) (by omega));refine⟨?_,?_⟩
  ·have h40:run (false,d + 1) (40::(wItems j none l++[41]))=run (false,d + 2) (wItems j none l++[41]):=by
    have:d + 1<=2:=by omega
    simp[run,tr,this]
   rw[h40,run_app,hi.1];simp[run,tr]
  ·intro c hc;rcases MI.mp hc with rfl | hc
   ·decide
   rcases List.mem_append.mp hc with hc | hc
   ·exact hi.2 c hc
   ·simp at hc;subst hc;decide
theorem whole_ok {j:Txt}(hj:j=[]\/j=[44]){l:List It}(h:∀ i∈l,Good 2 i):run (false,0) (wWhole j l)=some (true,0)/\okT (wWhole j l):=by
 have hi:=items_ok hj (d:=0) l none (fun i hi=>good_ok hj (h i hi) 0 (by omega));unfold wWhole;refine⟨?_,?_⟩
 ·have h40:run (false,0) (40::(wItems j none l++[41]))=run (false,1) (wItems j none l++[41]):=by simp[run,tr]
  rw[h40,run_app,hi.1];simp[run,tr]
 ·intro c hc;rcases MI.mp hc with rfl | hc
  ·decide
  rcases List.mem_append.mp hc with hc | hc
  ·exact hi.2 c hc
  ·simp at hc;subst hc;decide
theorem Sp.ok {f q:Bool}{u v:Txt}(h:Sp f q u v):okT u->okT v:=by
 induction h with
 | nil=>exact id
 | keep f q c u v h ih=>
  intro ho x hx;rcases MI.mp hx with rfl | hx
  ·exact ho x (MS ..)
  ·exact ih (fun c hc=>ho c (MC _ hc)) x hx
 | put c u v h ih=>
  intro ho x hx;rcases MI.mp hx with rfl | hx
  ·decide
  rcases MI.mp hx with rfl | hx
  ·exact ho x (MS ..)
  ·exact ih (fun c hc=>ho c (MC _ hc)) x hx
theorem Bend.ok {t t':Txt}(h:Bend t t') (ho:okT t):okT t':=by
 have hsg:∀ c∈signs,c < 100/\c≠63:=by decide
 cases h with
 | same=>exact ho
 | ins p c hc=>
  intro x hx;rcases List.mem_append.mp hx with hx | hx
  ·exact ho x (List.mem_of_mem_take hx)
  rcases MI.mp hx with rfl | hx
  ·exact hsg _ hc
  ·exact ho x (List.mem_of_mem_drop hx)
 | del p=>
  intro x hx;rcases List.mem_append.mp hx with hx | hx
  ·exact ho x (List.mem_of_mem_take hx)
  ·exact ho x (List.mem_of_mem_drop hx)
 | rpl p c hc=>
  intro x hx;rcases List.mem_append.mp hx with hx | hx
  ·exact ho x (List.mem_of_mem_take hx)
  rcases MI.mp hx with rfl | hx
  ·exact hsg _ hc
  ·exact ho x (List.mem_of_mem_drop hx)
theorem tr_flag {f:Bool}{d c:Nat}{s:Bool × Nat}(h:tr (f,d) c=some s):s.1=(if c=39 then !f else f)\/s=(true,0):=by
 cases f<;>cases d<;>simp only[tr] at h
 ·split at h
  ·rename_i q;subst q;cases h;exact .inl rfl
  ·split at h
   ·rename_i q;subst q;cases h;exact .inl rfl
   ·cases h
 ·rename_i d;split at h
  ·rename_i q;rw[if_pos q];cases h;exact .inl rfl
  rename_i q;rw[if_neg q];split at h
  ·split at h
   ·cases h;exact .inl rfl
   ·cases h
  split at h
  ·split at h
   ·cases h;exact .inr rfl
   ·cases h;exact .inl rfl
  split at h
  ·cases h
  ·cases h;exact .inl rfl
 ·cases h
 ·split at h
  ·rename_i q;rw[if_pos q];cases h;exact .inl rfl
  rename_i q;rw[if_neg q];split at h
  ·cases h
  ·cases h;exact .inl rfl
theorem run_end {c:Nat}{u:Txt}:run (true,0) (c::u)=none:=rfl
theorem run_sp {f q:Bool}{u v:Txt}(h:Sp f q u v):∀ {s x},(s.1=f\/s=(true,0))->run s u=some x->run s v=some x:=by
 induction h with
 | nil=>intro s x _ h;exact h
 | keep f q c u v h ih=>
  intro s x hs hr;simp only[run] at hr ⊢;cases ht:tr s c with
  | none=>rw[ht] at hr;cases hr
  | some s'=>
   rw[ht] at hr;refine ih ?_ hr;rcases hs with rfl | rfl
   ·exact tr_flag ht
   ·cases ht
 | put c u v h ih=>
  intro s x hs hr;rcases hs with hs | rfl
  ·obtain⟨sf,sd⟩:=s;simp only at hs;subst hs;have h32:run (false,sd) (32::c::v)=run (false,sd) (c::v):=by cases sd<;>simp[run,tr]
   rw[h32];simp only[run] at hr ⊢;cases ht:tr (false,sd) c with
   | none=>rw[ht] at hr;cases hr
   | some s'=>
    rw[ht] at hr;refine ih ?_ hr;rcases tr_flag ht with h | h
    ·exact .inl (by rw[h];rfl)
    ·exact .inr h
  ·rw[run_end] at hr;cases hr
theorem sp_q {q:Txt}(hq:Qp q):∀ {qq:Bool}{rest v:Txt},Sp true qq (q++39::rest) v->∃ rv,v=q++39::rv/\Sp false true rest rv:=by
 induction hq with
 | nil=>
  intro qq rest v h;cases h with
  | keep _ _ _ _ v h=>exact⟨v,rfl,h⟩
 | ch c q hc hq ih=>
  intro qq rest v h;cases h with
  | keep _ _ _ _ v h=>
   rw[if_neg hc] at h;obtain⟨rv,e,hs⟩:=ih h;exact⟨rv,by rw[e];rfl,hs⟩
 | qq q hq ih=>
  intro qq rest v h;cases h with
  | keep _ _ _ _ v h=>
   cases h with
   | keep _ _ _ _ v h=>
    obtain⟨rv,e,hs⟩:=ih h;exact⟨rv,by rw[e];rfl,hs⟩
theorem qs_q {q:Txt}(hq:Qp q):∀ (out:Txt),∃ s,∀ rest:Txt,(∀ r,rest≠39::r)->qs out (q++39::rest)=(s,39::rest):=by
 induction hq with
 | nil=>
  intro out;refine⟨out,fun rest h=>?_⟩;have:=qs_dbl [] out rest h;simpa [dbl] using this
 | ch c q hc hq ih=>
  intro out;obtain⟨s,hs⟩:=ih (out++[c]);refine⟨s,fun rest h=>?_⟩;rw[ZI,qs.eq_def];simp only[ne_eq,hc,not_false_eq_true,if_true];exact hs rest h
 | qq q hq ih=>
  intro out;obtain⟨s,hs⟩:=ih (out++[39]);refine⟨s,fun rest h=>?_⟩;rw[ZI,ZI,qs.eq_def];simp only[ne_eq,not_true_eq_false,if_false,if_true];exact hs rest h
theorem qs_head:∀ (m:Nat) (r out:Txt),r.length<=m->∀ rest x,(qs out r).2=39::rest->rest≠39::x
 | _,[],out,h,rest,x,e=>by cases e
 | m + 1,c::r,out,h,rest,x,e=>by
  simp only[LC] at h;rw[qs.eq_def] at e;by_cases q:c=39
  ·subst q;simp only[ne_eq,not_true_eq_false,if_false] at e;cases r with
   | nil=>simp at e;subst e;simp
   | cons d r'=>
    simp only[LC] at h;by_cases q2:d=39
    ·subst q2;simp only[if_true] at e;exact qs_head m r' _ (by omega) rest x e
    ·simp only[if_neg q2] at e;intro hr;rw[hr] at e;simp at e;exact q2 e.1
  ·simp only[ne_eq,q,not_false_eq_true,if_true] at e;exact qs_head m r _ (by omega) rest x e
theorem sp_dig:∀ (u v:Txt) (a:Nat),Sp false false u v->(dGo a v).1=(dGo a u).1/\Sp false false (dGo a u).2 (dGo a v).2
 | [],v,a,h=>by cases h;exact⟨rfl,.nil _ _⟩
 | c::u,v,a,h=>by
  have core:∀ v',Sp (if c=39 then true else false) (c==39) u v'->(dGo a (c::v')).1=(dGo a (c::u)).1/\Sp false false (dGo a (c::u)).2 (dGo a (c::v')).2:=by
   intro v' h';by_cases q:c=32
   ·subst q;have h2:Sp false false u v':=h';have e:∀ w:Txt,dGo a (32::w)=dGo a w:=fun w=>by simp[dGo]
    rw[e,e];exact sp_dig u v' a h2
   ·by_cases q2:isDig c=true
    ·have q39:c≠39:=by intro z;subst z;simp[isDig] at q2
     have h2:Sp false false u v':=by rw[if_neg q39,BN.mpr q39] at h';exact h'
     have e:∀ w:Txt,dGo a (c::w)=dGo (10 * a + (c - 48)) w:=fun w=>by simp[dGo,q,q2]
     rw[e,e];exact sp_dig u v' _ h2
    ·have e:∀ w:Txt,dGo a (c::w)=(a,c::w):=fun w=>by simp[dGo,q,q2]
     rw[e,e];exact⟨rfl,.keep _ _ _ _ _ h'⟩
  cases h with
  | keep _ _ _ _ v h'=>exact core v h'
  | put _ _ v h'=>
   have e:dGo a (32::c::v)=dGo a (c::v):=by simp[dGo]
   rw[e];exact core v h'
theorem tok_sp:∀ (n:Nat) (u v:Txt) (q:Bool) (d:Nat),u.length < n->Sp false q u v->run (false,d) u=some (true,0)->tokS v=tokS u
 | n + 1,[],v,q,d,hn,h,hr=>by cases h;rfl
 | n + 1,c::u,v,q,d,hn,h,hr=>by
  simp only[LC] at hn;have core:∀ v',Sp (if c=39 then true else false) (c==39) u v'->tokS (c::v')=tokS (c::u):=by
   intro v' h';by_cases q32:c=32
   ·subst q32;have h2:Sp false false u v':=h';rw[tokS_blank,tokS_blank];have hr2:run (false,d) u=some (true,0):=by
     have:run (false,d) (32::u)=run (false,d) u:=by cases d<;>simp[run,tr]
     rw[<- this];exact hr
    exact tok_sp n u v' false d (by omega) h2 hr2
   by_cases q39:c=39
   ·subst q39;have h2:Sp true true u v':=h';cases d with
    | zero=>simp[run,tr] at hr
    | succ d=>
     have hr1:run (true,d + 1) u=some (true,0):=by
      have:run (false,d + 1) (39::u)=run (true,d + 1) u:=by simp[run,tr]
      rw[<- this];exact hr
     rcases qs_split _ u [] (Nat.le_refl _) with e0 | ⟨w,rest,e1,e2,e3⟩
     ·
      exfalso;have:∀ (m:Nat) (u out:Txt),u.length<=m->(qs out u).2=[]->run (true,d + 1) u≠some (true,0):=by
       intro m
       induction m with
       | zero=>
        intro u out hm _ h;cases u with
        | nil=>simp[run] at h
        | cons x u=>simp at hm
       | succ m ih=>
        intro u out hm he h;cases u with
        | nil=>simp[run] at h
        | cons x u=>
         simp only[LC] at hm;rw[qs.eq_def] at he;by_cases z:x=39
         ·subst z;simp only[ne_eq,not_true_eq_false,if_false] at he;cases u with
          | nil=>simp at he
          | cons y u=>
           simp only[LC] at hm;by_cases z2:y=39
           ·subst z2;simp only[if_true] at he;have:run (true,d + 1) (39::39::u)=run (true,d + 1) u:=by simp[run,tr]
            rw[this] at h;exact ih u _ (by omega) he h
           ·simp[if_neg z2] at he
         ·simp only[ne_eq,z,not_false_eq_true,if_true] at he;simp only[run,tr,if_neg z] at h;by_cases z4:x=40
          ·rw[if_pos z4] at h;cases h
          ·rw[if_neg z4] at h;exact ih u _ (by omega) he h
      exact this _ u [] (Nat.le_refl _) e0 hr1
     ·have hne:=qs_head _ u [] (Nat.le_refl _) rest;have hne':∀ r,rest≠39::r:=fun r=>hne r e1
      rw[e2] at h2;obtain⟨rv,e4,hs⟩:=sp_q e3 h2;have hrv:∀ r,rv≠39::r:=by
       intro r hx;subst hx;cases hs with
       | keep _ _ _ u2 _ _=>exact hne' u2 rfl
      obtain⟨s,hqs⟩:=qs_q e3 [];rw[e4,tokS_q,tokS_q,e2,hqs rest hne',hqs rv hrv];have e5:∀ x:Txt,qTok (s,39::x)=((if s=[] then .bad else .t s),x):=fun x=>rfl
      rw[e5,e5];have hlen:u.length=w.length + (rest.length + 1):=by rw[e2];simp
      have hr2:run (false,d + 1) rest=some (true,0):=by
       rw[e2,run_app] at hr1;cases hq:run (true,d + 1) w with
       | none=>rw[hq] at hr1;cases hr1
       | some s2=>
        rw[hq,run_in e3 hq] at hr1;simpa [run,tr] using hr1
      show _::tokS rv=_::tokS rest;rw[tok_sp n rest rv true (d + 1) (by omega) hs hr2]
   have h2:Sp false false u v':=by rw[if_neg q39,BN.mpr q39] at h';exact h'
   by_cases qd:isDig c=true
   ·cases d with
    | zero=>
     have:c≠40:=by intro z;subst z;simp[isDig] at qd
     simp[run,tr,q32,this] at hr
    | succ d=>
     obtain⟨g1,g2⟩:=sp_dig u v' (c - 48) h2;obtain⟨w,e1,e2⟩:=dGo_split u (c - 48);have hx:run (false,d + 1) (c::w)=some (false,d + 1):=run_dig (c::w) (fun x hx=>by
      rcases MI.mp hx with rfl | hx
      ·exact .inr qd
      ·exact e2 x hx)
     have hr2:run (false,d + 1) (dGo (c - 48) u).2=some (true,0):=by
      have:run (false,d + 1) (c::u)=run (false,d + 1) (dGo (c - 48) u).2:=by
       rw[e1];have hh:(dGo (c - 48) (w++(dGo (c - 48) u).2)).2=(dGo (c - 48) u).2:=by rw[<- e1]
       rw[hh,<- ZI,run_app,hx];rfl
      rw[<- this];exact hr
     have hlen:(dGo (c - 48) u).2.length<=u.length:=(dGo_suf u _).len;rw[tokS_n _ qd,tokS_n _ qd];generalize dGo (c - 48) u=p at *;generalize dGo (c - 48) v'=p' at *;have ha:aft 72 p.2=none:=by
      cases hz:aft 72 p.2 with
      | none=>rfl
      | some r3=>rw[aft_eq hz] at hr2;simp[run,tr] at hr2
     have ha':aft 72 p'.2=none:=by
      cases hz:aft 72 p'.2 with
      | none=>rfl
      | some r3=>
       exfalso;rw[aft_eq hz] at g2;generalize p.2=z at *;cases g2 with
       | keep _ _ _ u2 _ _=>simp[aft] at ha
     have hk:nTok p'=((nTok p).1,p'.2):=by simp[nTok,ha,ha',g1]
     have hk2:(nTok p).2=p.2:=nTok_no ha;rw[hk,hk2];show _::tokS p'.2=_::tokS p.2;rw[tok_sp n p.2 p'.2 false (d + 1) (by omega) g2 hr2]
   ·have qd':isDig c=false:=by simpa using qd
    rw[tk_sg q32 q39 qd',tk_sg q32 q39 qd'];simp only[run] at hr;cases ht:tr (false,d) c with
    | none=>rw[ht] at hr;cases hr
    | some s'=>
     rw[ht] at hr;rcases tr_flag ht with hf | hf
     ·rw[if_neg q39] at hf;obtain⟨sf,sd⟩:=s';simp only at hf;subst hf;rw[tok_sp n u v' false sd (by omega) h2 hr]
     ·subst hf;cases u with
      | nil=>cases h2;rfl
      | cons x u=>exact absurd (show run (true,0) (x::u)=some (true,0) from hr) (by rw[run_end];simp)
  cases h with
  | keep _ _ _ _ v h'=>exact core v h'
  | put _ _ v h'=>rw[tokS_blank];exact core v h'
theorem readC_tok {u v:Txt}(h:tokS v=tokS u):readC v=readC u:=by unfold readC;rw[h]
theorem itemC_P {P:It->Prop}(key:∀ w:Txt,w∈words->∀ ps,P (.nums w ps)) (keyT:∀ s,P (.text s)) (keyR:∀ n w ps,w∈words->P (.rep n (.nums w ps))){g:Nat->Txt->Option (It × Txt)}(hg:∀ k u i r,g k u=some (i,r)->P i){u r:Txt}{i:It}(h:itemC g u=some (i,r)):P i:=by
 have valP:∀ {k:Nat}{u r:Txt}{i:It},isVal k=true->valueC k u=some (i,r)->P i/\∀ n,P (.rep n i):=by
  intro k u r i hk h;have hw:i.word∈words:=(valueC_wd hk h).2 0;cases i with
  | nums w ps=>exact⟨key w hw ps,fun n=>keyR n w ps hw⟩
  | text s=>exact absurd hw (by show ([72]:Txt) ∉ words;decide)
  | rep n i=>exact absurd hw (by show ([114,101,112,101,97,116]:Txt) ∉ words;decide)
  | grp n l=>exact absurd hw (by show ([103,114,111,117,112]:Txt) ∉ words;decide)
 have quo:∀ (m:Nat) (u out:Txt){r:Txt}{i:It},u.length<=m->quotedGo out u=some (i,r)->P i:=by
  intro m
  induction m with
  | zero=>
   intro u out r i hm h;cases u with
   | nil=>simp[quotedGo] at h
   | cons c u=>simp at hm
  | succ m ih=>
   intro u out r i hm h;cases u with
   | nil=>simp[quotedGo] at h
   | cons c u=>
    simp only[LC] at hm;unfold quotedGo at h;split at h
    ·exact ih _ _ (by omega) h
    ·split at h
     ·split at h
      ·cases h
      ·simp at h;rw[<- h.1];exact keyT _
     ·simp only[LC] at hm;split at h
      ·exact ih _ _ (by omega) h
      ·split at h
       ·cases h
       ·simp at h;rw[<- h.1];exact keyT _
 unfold itemC at h;split at h
 ·cases h
 split at h
 ·unfold countedC at h;split at h
  ·split at h
   ·cases h
   split at h
   ·simp at h;rw[<- h.1];exact key _ (by decide) _
   split at h
   ·cases h
   split at h
   ·simp at h;rw[<- h.1];exact key _ (by decide) _
   split at h
   ·unfold countedText at h;split at h
    ·simp at h;rw[<- h.1];exact keyT _
    ·cases h
   split at h
   ·exact hg _ _ _ _ h
   split at h
   ·rename_i hv;rw[Option.map_eq_some_iff] at h;obtain⟨p,hp,h2⟩:=h;obtain⟨q1,q3⟩:=valP hv hp;simp at h2;rw[<- h2.1];split
    ·exact q3 _
    ·exact q1
   ·cases h
  ·cases h
 split at h
 ·exact quo _ _ _ (Nat.le_refl _) h
 split at h
 ·unfold scaleC at h;split at h
  ·cases h
  split at h
  ·cases h
  ·simp at h;rw[<- h.1];exact key _ (by decide) _
 split at h
 ·exact hg _ _ _ _ h
 split at h
 ·rename_i hv;exact (valP hv h).1
 ·unfold controlC at h;split at h
  ·rename_i hc;simp at h;rw[<- h.1];rcases hc with rfl | rfl<;>exact key _ (by decide) _
  split at h
  ·split at h
   ·split at h
    ·rename_i hc;simp at h;rw[<- h.1];rcases hc with rfl | rfl<;>exact key _ (by decide) _
    ·simp at h;rw[<- h.1];exact key _ (by decide) _
   ·simp at h;rw[<- h.1];exact key _ (by decide) _
  split at h
  ·split at h
   ·split at h
    ·rename_i hc;simp at h;rw[<- h.1];rcases hc with rfl | rfl<;>exact key _ (by decide) _
    ·cases h
   ·cases h
  split at h
  ·split at h
   ·split at h
    ·rename_i hc;unfold tabC at h;rw[Option.map_eq_some_iff] at h;obtain⟨p,hp,h2⟩:=h;simp at h2;rw[<- h2.1];rcases hc with rfl | rfl<;>exact key _ (by decide) _
    ·unfold tabC at h;rw[Option.map_eq_some_iff] at h;obtain⟨p,hp,h2⟩:=h;simp at h2;rw[<- h2.1];exact key _ (by decide) _
   ·cases h
  ·cases h
def PlI (n:Nat) (i:It):Prop:=V.plain n i.toV=true
theorem plain_nums (n:Nat) (w:Txt) (ps:List (Option Int)):V.plain (n + 1) (It.nums w ps).toV=true:=by
 have:∀ ps:List (Option Int),(ps.map pV).all (V.plain n)=true:=by
  intro ps
  induction ps with
  | nil=>rfl
  | cons p ps ih=>cases p<;>simp[pV,ih,pl_none,pl_int]
 simp[It.toV,V.plain,pl_str,this]
theorem plain_lst {n:Nat}{l:List It}(h:∀ i∈l,PlI n i):V.plain (n + 1) (.lst (toVs l))=true:=by
 simp only[V.plain];rw[toVs_map,List.all_map,List.all_eq_true];exact h
theorem itemsC_plain:∀ (f lim:Nat) (acc:List It) (after:Bool) (u:Txt) (l:List It) (r:Txt),itemsC f lim acc after u=some (l,r)->(∀ i∈acc,PlI (39 + 2 * lim) i)->∀ i∈l,PlI (39 + 2 * lim) i
 | 0,lim,acc,after,u,l,r,h,ha=>by cases h
 | f + 1,lim,acc,after,u,l,r,h,ha=>by
  rw[itemsC_succ] at h;split at h
  ·cases h
  ·split at h
   ·split at h
    ·cases h
    ·split at h
     ·simp at h;rw[<- h.1];exact ha
     ·exact itemsC_plain f lim acc true _ l r h ha
   ·split at h
    ·cases h
    ·rename_i i u' hit;split at h
     ·cases h
     ·refine itemsC_plain f lim _ false u' l r h ?_;intro x hx;rcases List.mem_append.mp hx with hx | hx
      ·exact ha x hx
      ·simp at hx;subst hx;obtain⟨m,hm⟩ : ∃ m,39 + 2 * lim=m + 2:=⟨37 + 2 * lim,by omega⟩
       refine itemC_P (P:=PlI (39 + 2 * lim)) ?_ ?_ ?_ ?_ hit
       ·intro w _ ps;rw[hm];exact plain_nums _ w ps
       ·intro s;rw[hm];simp[PlI,It.toV,V.plain,pl_str]
       ·intro n w ps _;rw[hm];simp[PlI,It.toV,V.plain,pl_str,pl_int];have:=plain_nums m w ps;simpa [It.toV,V.plain] using this
       ·intro k u i r hg;unfold grpC at hg;cases lim with
        | zero=>cases hg
        | succ q=>
         simp only at hg;split at hg
         ·rename_i i0 l0 r0 hi;simp at hg;have:=itemsC_plain f q [] false u _ _ hi (by simp);have hl:=plain_lst this;rw[<- hg.1];show V.plain (39 + 2 * (q + 1)) _=true;rw[show 39 + 2 * (q + 1)=(39 + 2 * q + 1) + 1 by omega];simp only[V.plain] at hl;simp only[It.toV,V.plain,List.all_cons,List.all_nil,pl_str,pl_int,hl,BA,BV]
         ·cases hg
theorem parse_plain {f:Nat}{u:Txt}:V.plain 60 (optL (parseC f u))=true:=by
 unfold parseC;split
 ·split
  ·split
   ·rename_i l r' h;split
    ·exact plain_lst (n:=59) (itemsC_plain f 10 [] false _ l r' h (by simp))
    ·rfl
   ·rfl
  ·rfl
 ·rfl
mutual
theorem V.beq_self:∀ v:V,v.beq v=true
 | .none=>rfl
 | .bool b=>by simp[V.beq]
 | .int i=>by simp[V.beq]
 | .str s=>by simp[V.beq]
 | .tup l=>by simp[V.beq,V.beqs_self l]
 | .lst l=>by simp[V.beq,V.beqs_self l]
 | .ref i=>by simp[V.beq]
theorem V.beqs_self:∀ l:List V,V.beqs l l=true
 | []=>rfl
 | v::l=>by simp[V.beqs,V.beq_self v,V.beqs_self l]
end
theorem cmp_same {v:V}(h:V.plain 60 v=true):cmpV .eq v v=some true/\cmpV .ne v v=some false:=by
 have hb:=V.beq_self v;have hh:(v.plain 60&&v.plain 60)=true:=by rw[h];rfl
 constructor
 ·simp only[cmpV,hh,if_true,hb]
 ·simp only[cmpV,hh,if_true,hb,BQ]
section
variable {call:Nat->List V->Hp->Option (Res V)}{N:Nat}
theorem e_draw1 {L:List Int}{a b x:Nat}{T:Hp}{l:Loc}{m:Nat}{v:V}{H':Hp}(hl:l[x]?=some (some (.ref 0))) (h:call 23 [.ref 0,.int m] (pen L a T)=some (.ok v H')) :
  EC call b l (.call 23 (.cons (.loc x) (.cons (.int m) .nil))) (pen L a T)=some (.ok v H'):=by
 rw[EC];simp only[ED,e_loc hl,e_int,EG,h]
theorem e_call1 {b f:Nat}{l:Loc}{x:E}{v:V}{H H1:Hp}{r:Option (Res V)}(hx:EC call b l x H=some (.ok v H1)) (h:call f [v] H1=r):EC call b l (.call f (.cons x .nil)) H=r:=by
 rw[EC];simp only[ED,hx,EG,h]
theorem e_call2 {b f:Nat}{l:Loc}{x y:E}{v w:V}{H H1 H2:Hp}{r:Option (Res V)}(hx:EC call b l x H=some (.ok v H1)) (hy:EC call b l y H1=some (.ok w H2)) (h:call f [v,w] H2=r):EC call b l (.call f (.cons x (.cons y .nil))) H=r:=by
 rw[EC];simp only[ED,hx,hy,EG,h]
end
theorem law_true (is:List Int) (hlen:is.length<=63):runF (cF 2000 200) 2000 F_law [.lst (is.map V.int)] []=some (.ok (.bool true) []):=by
 have fD:∀ (L:List Int) (m a:Nat) (T:Hp),0 < m->a<=100000->cF 2000 200 23 [.ref 0,.int m] (pen L a T)=some (.ok (.int (drawv L a m)) (pen L (a + 1) T)):=
  fun L m a T hm ha=>s_draw (n:=199) hm ha
 have fI:∀ (L:List Int) (a:Nat) (T:Hp),a + 33<=90000->∃ i a',Good 2 i/\a'<=a + 33/\cF 2000 200 25 [.ref 0,.int 2] (pen L a T)=some (.ok i.toV (pen L a' T)):=
  fun L a T ha=>s_litem (N:=2000) (L:=L) 2 200 a T (by omega) ha
 have fF:∀ (l:List It) (H:Hp),l.length<=5->(∀ i∈l,Good 2 i)->cF 2000 200 22 [.lst (toVs l)] H=some (.ok (.str (wWhole [44] l)) H):=
  fun l H hl h=>s_write_format (d:=2) (by omega) hl h (by omega)
 have fW:∀ (j:Txt) (l:List It) (H:Hp),j.length<=1->l.length<=5->(∀ i∈l,Good 2 i)->cF 2000 200 28 [.lst (toVs l),.str j] H=some (.ok (.str (wWhole j l)) H):=
  fun j l H hj hl h=>s_whole (d:=2) hj (by omega) hl h (by omega)
 have fP:∀ (t:Txt) (H:Hp),t.length<=900->cF 2000 200 19 [.str t] H=rsP H (parseC 1000 t):=
  fun t H ht=>s_parse_format (by omega) (by omega) (by omega) (by omega) (by omega)
 have fH:∀ (t:Txt) (H:Hp),t.length<=900->cF 2000 200 38 [.str t] H=some (.ok (optL (parseC 1000 t)) H):=
  fun t H ht=>s_heard (by omega) (by omega) (by omega) (by omega) (by omega)
 have fR:∀ (t:Txt) (H:Hp),t.length<=600->okT t->cF 2000 200 37 [.str t] H=some (.ok (optL (readC t)) H):=
  fun t H ht ho=>s_read (n:=194) ht (by omega) ho
 have fS:∀ (L:List Int) (a:Nat) (T:Hp) (u:Txt),a + u.length<=90000->2 * u.length<=90000->∃ v a',Sp false false u v/\a'<=a + u.length/\cF 2000 200 29 [.ref 0,.str u] (pen L a T)=some (.ok (.str v) (pen L a' T)):=
  fun L a T u h1 h2=>s_spaced (n:=198) h1 h2
 have fB:∀ (L:List Int) (a:Nat) (T:Hp) (t:Txt),a<=80000->t.length<=4000->∃ t1 t2 t3,Bend t t1/\Bend t1 t2/\Bend t2 t3/\cF 2000 200 30 [.ref 0,.str t] (pen L a T)=some (.ok (.str t3) (pen L (a + 3) T)):=
  fun L a T t h1 h2=>s_bent (n:=198) h1 h2
 generalize cF 2000 200=call at *;obtain⟨L,hL⟩ : ∃ L:List Int,slV (.lst (is.map V.int)) .none (.int 48)=some (.lst (L.map V.int)):=by
  have h0:bound (is.map V.int).length 0 .none=some 0:=rfl;have h1:bound (is.map V.int).length (is.map V.int).length (.int 48)=some (min 48 (is.map V.int).length):=bound_nat' (k:=48) (by omega);refine⟨is.take (min 48 (is.map V.int).length),?_⟩;simp only[slV,cut,h0,h1,ZE,List.drop_zero,List.map_take]
 have ePen:EC call 0 [some (.lst (is.map V.int)),none,none,none,none] (.lstM (.cons (.sl (.loc 0) .none (.int 48)) (.cons (.int 0) .nil))) []=some (.ok (.ref 0) (pen L 0 [])):=by
  have e1:EC call 0 [some (.lst (is.map V.int)),none,none,none,none] (.sl (.loc 0) .none (.int 48)) []=some (.ok (.lst (L.map V.int)) []):=e_slE (e_loc rfl) e_none e_int hL;have two:(0 + 1 + 1)<=capL:=cp2;rw[EC];simp only[ED,e1,e_int,EG,LC,LN,two,if_true];rfl
 have d0:=fD L 5 0 [] (by omega) (by omega);have l0:=drawv_lt L 0 (m:=5) (by omega);have eN:EC call 0 [some (.lst (is.map V.int)),some (.ref 0),none,none,none] (.bin .add (.int 1) (.call 23 (.cons (.loc 1) (.cons (.int 5) .nil)))) (pen L 0 [])=some (.ok (.int ((1 + drawv L 0 5:Nat):Int)) (pen L 1 [])):=by
  have ex:EC call 0 [some (.lst (is.map V.int)),some (.ref 0),none,none,none] (.call 23 (.cons (.loc 1) (.cons (.int 5) .nil))) (pen L 0 [])=some (.ok (.int (drawv L 0 5)) (pen L 1 [])):=e_draw1 (m:=5) rfl d0;rw[EC,e_int];simp only[EG,ex,binV,EH,ZE];rw[show (1:Int) + (drawv L 0 5:Nat)=((1 + drawv L 0 5:Nat):Int) by omega]
 generalize drawv L 0 5=m at *;have hm33:(1 + m) * 33<=165:=by omega
 obtain⟨vs,a1,g1,g2,g3,g4⟩:=e_comp (L:=L) (call:=call) (b:=0) (l:=[some (.lst (is.map V.int)),some (.ref 0),none,none,none]) (e:=.call 25 (.cons (.loc 1) (.cons (.int 2) .nil))) (x:=3) (K:=33) (P:=fun v=>∃ i,Good 2 i/\v=It.toV i) (fun v hv=>by obtain⟨i,_,rfl⟩:=hv;exact It.pure i) eN (by omega) (by omega) (by
  intro i a T' ha;obtain⟨i,a2,h1,h2,h3⟩:=fI L a T' ha;exact⟨i.toV,a2,⟨i,h1,rfl⟩,h2,e_call2 (e_loc rfl) e_int h3⟩)
 obtain⟨l,h1,hG⟩:=unmap (f:=It.toV) (Q:=fun i=>Good 2 i) vs g2;subst h1;rw[<- toVs_map] at g4;have hll:l.length=1 + m:=by simpa using g1
 have hl5:l.length<=5:=by omega
 have wl:∀ j:Txt,j.length<=1->(wWhole j l).length<=262:=by
  intro j hj;have h1:=items_len hj l none hG;have h2:lenB 2=51:=rfl;rw[h2] at h1;have h3:l.length * (51 + 1)<=5 * 52:=Nat.mul_le_mul_right _ hl5;simp only[wWhole,LC,LA,LN];omega
 have pars:∀ u:Txt,u.length<=900->Bt 3 (false,0) u->parseC 1000 u=readC u:=fun u hu hb=>parse_read (by omega) (by omega) (fun l hr=>bent_fits hb hr)
 have pw:∀ j:Txt,(j=[]\/j=[44])->parseC 1000 (wWhole j l)=some l:=by
  intro j hj;have hj1:j.length<=1:=by rcases hj with rfl | rfl<;>simp
  rw[pars _ (by have:=wl j hj1;omega) ((Bt.of_run _ _ (whole_ok hj hG).1).mono (by omega)),read_whole hj hG]
 have hpl:V.plain 60 (.lst (toVs l))=true:=by
  have:=parse_plain (f:=1000) (u:=wWhole [44] l);rw[pw [44] (.inr rfl)] at this;exact this
 have hne:=(cmp_same hpl).2;have w44:=wl [44] (by decide);have d1:=fD L 2 a1 [none] (by omega) (by omega);have l1:=drawv_lt L a1 (m:=2) (by omega);obtain⟨j,hj,hjm⟩:=get_in (s:=([[],[44]]:List Txt)) (k:=drawv L a1 2) l1;have hj2:j=[]\/j=[44]:=by simpa using hjm
 have hj1:j.length<=1:=by rcases hj2 with rfl | rfl<;>simp
 have hwj:=wl j hj1;obtain⟨v,a2,hsp,ha2,eS⟩:=fS L (a1 + 1) [none] (wWhole j l) (by omega) (by omega);have hvl:=hsp.len;have hvrun:run (false,0) v=some (true,0):=run_sp hsp (.inl rfl) (whole_ok hj2 hG).1;have hvok:okT v:=hsp.ok (whole_ok hj2 hG).2;have hvread:readC v=some l:=by rw[readC_tok (tok_sp _ _ v false 0 (Nat.lt_succ_self _) hsp (whole_ok hj2 hG).1),read_whole hj2 hG]
 have hvb:Bt 0 (false,0) v:=Bt.of_run _ _ hvrun;have hvp:parseC 1000 v=some l:=by rw[pars v (by omega) (hvb.mono (by omega)),hvread]
 obtain⟨t1,t2,t3,b1,b2,b3,eB⟩:=fB L a2 [none] v (by omega) (by omega);have n1:=b1.len;have n2:=b2.len;have n3:=b3.len;have ht3:Bt 3 (false,0) t3:=((hvb.bend b1).bend b2).bend b3;have hok3:okT t3:=b3.ok (b2.ok (b1.ok hvok));have hp3:=pars t3 (by omega) ht3;have hcmp:=(cmp_same (parse_plain (f:=1000) (u:=t3))).1;rw[hp3] at hcmp;refine run_ret2 (H':=pen L (a2 + 3) [none]) rfl (st2 (loc:=[some (.lst (is.map V.int)),none,none,none,none]) rfl ?_) rfl rfl;refine ss_next (l':=[some (.lst (is.map V.int)),some (.ref 0),none,none,none]) (H':=pen L 0 []) ?_ ?_
 ·show EB call 2000 0 _ _ _=_;rw[EB,ePen];rfl
 refine ss_next (l':=[some (.lst (is.map V.int)),some (.ref 0),some (.lst (toVs l)),none,none]) (H':=pen L a1 [none]) ?_ ?_
 ·show EB call 2000 0 _ _ _=_;rw[EB,g4];rfl
 have e22:=fF l (pen L a1 [none]) hl5 hG;have e28:=fW [44] l (pen L a1 [none]) (by decide) hl5 hG;have e19:=fP (wWhole [44] l) (pen L a1 [none]) (by omega);rw[pw [44] (.inr rfl),rsP] at e19;refine ite_skip (e_cmp (e_call1 (e_loc rfl) e22) (e_call2 (e_loc rfl) e_str e28) (by rw[cmp_nes];simp)) ?_;refine ite_skip (e_cmp (e_call1 (e_call2 (e_loc rfl) e_str e28) e19) (e_loc rfl) hne) ?_;refine ss_next (l':=[some (.lst (is.map V.int)),some (.ref 0),some (.lst (toVs l)),none,some (.str v)]) (H':=pen L a2 [none]) ?_ ?_
 ·have two:(V.pures [.str [],.str [44]]&&decide (([.str [],.str [44]]:List V).length<=capL))=true:=by
   rw[DT (show ([.str [],.str [44]]:List V).length<=capL from cp2)];rfl
  have eJ:EC call 0 [some (.lst (is.map V.int)),some (.ref 0),some (.lst (toVs l)),none,none] (.idx (.lstF (.cons (.str []) (.cons (.str [44]) .nil))) (.call 23 (.cons (.loc 1) (.cons (.int 2) .nil)))) (pen L a1 [none])=some (.ok (.str j) (pen L (a1 + 1) [none])):=by
   have el:EC call 0 [some (.lst (is.map V.int)),some (.ref 0),some (.lst (toVs l)),none,none] (.lstF (.cons (.str []) (.cons (.str [44]) .nil))) (pen L a1 [none])=some (.ok (.lst [.str [],.str [44]]) (pen L a1 [none])):=by
    rw[EC];simp only[ED,e_str,EG];exact if_pos two
   have ed:EC call 0 [some (.lst (is.map V.int)),some (.ref 0),some (.lst (toVs l)),none,none] (.call 23 (.cons (.loc 1) (.cons (.int 2) .nil))) (pen L a1 [none])=some (.ok (.int (drawv L a1 2)) (pen L (a1 + 1) [none])):=e_draw1 (m:=2) rfl d1;have hi:idxV (pen L (a1 + 1) [none]) (.lst [.str [],.str [44]]) (.int (drawv L a1 2))=some (.str j):=by
    have h0:(0:Int)<=(drawv L a1 2:Nat):=by omega
    have hm:([.str [],.str [44]]:List V)=([[],[44]]:List Txt).map V.str:=rfl;rw[idxV,getAt,if_pos h0,Int.toNat_natCast,hm,List.getElem?_map,hj];rfl
   rw[EC,el];simp only[EG,ed,hi,EH,ZE]
  have eW:=fW j l (pen L (a1 + 1) [none]) hj1 hl5 hG;show EB call 2000 0 _ _ _=_;rw[EB,e_call2 (e_loc rfl) (e_call2 (e_loc rfl) eJ eW) eS];rfl
 have e19v:=fP v (pen L a2 [none]) (by omega);rw[hvp,rsP] at e19v;refine ite_skip (e_cmp (e_call1 (e_loc rfl) e19v) (e_loc rfl) hne) ?_;refine ss_next (l':=[some (.lst (is.map V.int)),some (.ref 0),some (.lst (toVs l)),none,some (.str t3)]) (H':=pen L (a2 + 3) [none]) ?_ (ss_ret ?_)
 ·show EB call 2000 0 _ _ _=_;rw[EB,e_call2 (e_loc rfl) (e_loc rfl) eB];rfl
 ·have e38:=fH t3 (pen L (a2 + 3) [none]) (by omega);have e37:=fR t3 (pen L (a2 + 3) [none]) (by omega) hok3;rw[hp3] at e38;show EB call 2000 0 _ _ _=_;rw[EB,e_cmp (e_call1 (e_loc rfl) e38) (e_call1 (e_loc rfl) e37) hcmp];rfl
end P
end Mine
section
open PySem PySem.W PyProof.Rows
namespace Mine
def tx (s:Str):Txt:=s.cps.toList
def fnm (f:Nat):Option Txt:=(theFn f).map Fn.name
def pyCop:Cop->CmpOp
 | .eq=>.Eq | .ne=>.NotEq | .lt=>.Lt | .le=>.LtE | .gt=>.Gt | .ge=>.GtE | .isIn=>.In | .notIn=>.NotIn
def pyBop:Bop->Operator
 | .add=>.Add | .sub=>.Sub | .mul=>.Mult | .fdiv=>.FloorDiv | .mod=>.Mod
def isLoc (nm : List Txt) (x : Nat) (id : Str) : Bool := nm[x]? == some (tx id) && id != ("__debug__" : Str) && id != ("__classdict__" : Str)
def isVarK:Option NameKind->Bool
 | some .local=>true
 | some .cell=>true
 | some .free=>true
 | _=>false
def isGlob (kd : Str -> Option NameKind) (id : Str) (t : Txt) : Bool := tx id == t && kd id == some .globalImplicit && id != ("__debug__" : Str)
def constStrs:List Expr->List Txt->Bool
 | [],[]=>true
 | .Constant (.str s) _ _::r,w::ws=>tx s==w&&constStrs r ws
 | _,_=>false
def chkWs (es:List Expr) (ws:List Txt):Bool:=constStrs es ws&&decide (ws.length<=100)&&ws.all fun w=>w.all (· < 1114112)
def copOk (o:Cop) (op:CmpOp):Bool:=decide (op=pyCop o)
def notDisp:Expr->Bool
 | .Set ..=>false
 | .ListComp ..=>false
 | .SetComp ..=>false
 | .DictComp ..=>false
 | _=>true
def methOk (o:Expr) (ap pos:Pos):Bool:=(match o with | .Call ..=>false | _=>true)&&ap.endLine==pos.line
def notStar:Expr->Bool
 | .Starred ..=>false
 | _=>true
mutual
def chkE (nm:List Txt) (kd:Str->Option NameKind):E->Expr->Bool
 | .none,e=>match e with
  | .Constant .none _ _=>true
  | _=>false
 | .bool b,e=>match e with
  | .Constant (.bool c) _ _=>b==c
  | _=>false
 | .int i,e=>match e with
  | .Constant (.int j) _ _=>i==j
  | _=>false
 | .str s,e=>match e with
  | .Constant (.str x) _ _=>tx x==s&&s.all (· < 1114112)&&decide (s.length<=capL)
  | _=>false
 | .loc x,e=>match e with
  | .Name id _=>isLoc nm x id&&isVarK (kd id)
  | _=>false
 | .gint x i,e=>match e with
  | .Name id _=>isGlob kd id x&&gints.contains (x,i)
  | _=>false
 | .gstr x s,e=>match e with
  | .Name id _=>isGlob kd id x&&gstrs.contains (x,s)
  | _=>false
 | .bin o a b,e=>match e with
  | .BinOp l op r _=>decide (op=pyBop o)&&chkE nm kd a l&&chkE nm kd b r
  | _=>false
 | .million,e=>match e with
  | .BinOp (.Constant (.int i) _ _) .Pow (.Constant (.int j) _ _) _=>i==10&&j==6
  | _=>false
 | .neg a,e=>match e with
  | .UnaryOp .USub x _=>chkE nm kd a x
  | _=>false
 | .not a,e=>match e with
  | .UnaryOp .Not x _=>chkE nm kd a x
  | _=>false
 | .and a b,e=>match e with
  | .BoolOp .And (x::y::r) pos=>chkE nm kd a x&&(match r with | []=>chkE nm kd b y | _=>chkE nm kd b (.BoolOp .And (y::r) pos))
  | _=>false
 | .or a b,e=>match e with
  | .BoolOp .Or (x::y::r) pos=>chkE nm kd a x&&(match r with | []=>chkE nm kd b y | _=>chkE nm kd b (.BoolOp .Or (y::r) pos))
  | _=>false
 | .ife c a b,e=>match e with
  | .IfExp t x y _=>chkE nm kd c t&&chkE nm kd a x&&chkE nm kd b y
  | _=>false
 | .cmp o a b,e=>match e with
  | .Compare l [op] [r] _=>copOk o op&&notDisp r&&chkE nm kd a l&&chkE nm kd b r
  | _=>false
 | .between a b c,e=>match e with
  | .Compare l [.Lt,.Lt] [m,r] _=>notDisp m&&notDisp r&&chkE nm kd a l&&chkE nm kd b m&&chkE nm kd c r
  | _=>false
 | .isNone a,e=>match e with
  | .Compare l [.Is] [.Constant .none _ _] _=>chkE nm kd a l
  | _=>false
 | .notNone a,e=>match e with
  | .Compare l [.IsNot] [.Constant .none _ _] _=>chkE nm kd a l
  | _=>false
 | .isNil a,e=>match e with
  | .Compare l [.Eq] [.List [] _] _=>chkE nm kd a l
  | _=>false
 | .notNil a,e=>match e with
  | .Compare l [.NotEq] [.List [] _] _=>chkE nm kd a l
  | _=>false
 | .inC a ws,e=>match e with
  | .Compare l [.In] [.Tuple es _ _] _=>chkE nm kd a l&&chkWs es ws
  | .Compare l [.In] [.List es _] _=>chkE nm kd a l&&chkWs es ws
  | _=>false
 | .ninC a ws,e=>match e with
  | .Compare l [.NotIn] [.Tuple es _ _] _=>chkE nm kd a l&&chkWs es ws
  | _=>false
 | .call f es,e=>match e with
  | .Call (.Name id _) as [] _ => fnm f == some (tx id) && kd id == some .globalImplicit && id != ("__debug__" : Str) && chkEs nm kd es as
  | _=>false
 | .len a,e=>match e with
  | .Call (.Name id _) [x] [] _=>notStar x&&isGlob kd id [108,101,110]&&chkE nm kd a x
  | _=>false
 | .toStr a,e=>match e with
  | .Call (.Name id _) [x] [] _=>notStar x&&isGlob kd id [115,116,114]&&chkE nm kd a x
  | _=>false
 | .toInt a,e=>match e with
  | .Call (.Name id _) [x] [] _=>notStar x&&isGlob kd id [105,110,116]&&chkE nm kd a x
  | _=>false
 | .find a b,e=>match e with
  | .Call (.Attribute o m ap) [x] [] pos=>methOk o ap pos&&notStar x&&tx m==[102,105,110,100]&&chkE nm kd a o&&chkE nm kd b x
  | _=>false
 | .replace a c t,e=>match e with
  | .Call (.Attribute o m ap) [.Constant (.str y) _ _,.Constant (.str z) _ _] [] pos=>tx m==[114,101,112,108,97,99,101]&&methOk o ap pos&&tx y==[c]&&tx z==t&&chkE nm kd a o&&t.all (· < 1114112)
  | _=>false
 | .join a b,e=>match e with
  | .Call (.Attribute o m ap) [x] [] pos=>methOk o ap pos&&notStar x&&tx m==[106,111,105,110]&&chkE nm kd a o&&chkE nm kd b x
  | _=>false
 | .split a b,e=>match e with
  | .Call (.Attribute o m ap) [x] [] pos=>methOk o ap pos&&notStar x&&tx m==[115,112,108,105,116]&&chkE nm kd a o&&chkE nm kd b x
  | _=>false
 | .pop a,e=>match e with
  | .Call (.Attribute o m ap) [] [] pos=>methOk o ap pos&&tx m==[112,111,112]&&chkE nm kd a o
  | _=>false
 | .seal x,e=>match e with
  | .Name id _=>isLoc nm x id&&isVarK (kd id)
  | _=>false
 | .idx a b,e=>match e with
  | .Subscript v i _=>(match i with | .Slice ..=>false | _=>true)&&chkE nm kd a v&&chkE nm kd b i
  | _=>false
 | .sl a lo hi,e=>match e with
  | .Subscript v (.Slice l u none _) _=>chkE nm kd a v&&
    (match l with | some x=>chkE nm kd lo x | none=>(match lo with | .none=>true | _=>false))&&
    (match u with | some x=>chkE nm kd hi x | none=>(match hi with | .none=>true | _=>false))
  | _=>false
 | .tup es,e=>match e with
  | .Tuple xs _ _=>chkEs nm kd es xs
  | _=>false
 | .lstF es,e=>match e with
  | .List xs _=>chkEs nm kd es xs
  | _=>false
 | .lstM es,e=>match e with
  | .List xs _=>chkEs nm kd es xs
  | _=>false
 | .comp e x n,p=>match p with
  | .ListComp elt [⟨.Name y _,.Call (.Name id _) [k] [] _,[],0⟩] scope _=>
   isGlob kd id [114,97,110,103,101]&&isLoc nm x y&&chkE nm kd n k&&chkE nm (fun z=>scope.names.lookup z) e elt&&
   scope.kind==.function&&scope.names.lookup y==some .local&&scope.names.all (fun z=>z.2 != .cell)&&
   scope.names.all (fun z=>z.2 != .local||((z.1==y||tx z.1==[46,48])&&scope.names.lookup z.1==some .local))&&!nm.contains [46,48]&&
   scope.names.all (fun z=>z.2 != .free||kd z.1==some .cell||kd z.1==some .free)&&notStar k
  | _=>false
def chkEs (nm:List Txt) (kd:Str->Option NameKind):Es->List Expr->Bool
 | .nil,l=>l.isEmpty
 | .cons e es,l=>match l with
  | x::r=>notStar x&&chkE nm kd e x&&chkEs nm kd es r
  | []=>false
end
def isStore (nm:List Txt) (kd:Str->Option NameKind) (x:Nat) (id:Str):Bool:=isLoc nm x id&&kd id==some .local
def isStoreC (nm:List Txt) (kd:Str->Option NameKind) (x:Nat) (id:Str):Bool:=isLoc nm x id&&kd id==some .cell
def chkNames (nm:List Txt) (kd:Str->Option NameKind):List Nat->List Expr->Bool
 | [],[]=>true
 | x::xs,.Name id _::r=>isStore nm kd x id&&chkNames nm kd xs r
 | _,_=>false
def notComp:Expr->Bool
 | .ListComp ..=>false
 | .SetComp ..=>false
 | .DictComp ..=>false
 | .Tuple ..=>false
 | _=>true
mutual
def chkS (nm:List Txt) (kd:Str->Option NameKind):S->Stmt->Bool
 | .assign x e,s=>match s with
  | .Assign [.Name id _] v _=>(isStore nm kd x id||isStoreC nm kd x id)&&(match v with | .ListComp ..=>false | .SetComp ..=>false | .DictComp ..=>false | _=>true)&&chkE nm kd e v
  | _=>false
 | .assignC x e y n,s=>match s with
  | .Assign [.Name id p] v pos=>isStore nm kd x id&&chkE nm kd (.comp e y n) v&&
    (match v with
     | .ListComp _ _ scope q=>p.line==q.line&&pos.line==q.line&&!(scope.names.any fun (z,k)=>z==id&&(k==.local||k==.cell))
     | _=>false)
  | _=>false
 | .unpack xs e,s=>match s with
  | .Assign [.Tuple ts _ _] v _=>chkNames nm kd xs ts&&notComp v&&chkE nm kd e v
  | _=>false
 | .setIdx a i e,s=>match s with
  | .Assign [.Subscript o k _] v _=>(match k with | .Slice ..=>false | _=>true)&&(match v with | .ListComp ..=>false | .SetComp ..=>false | .DictComp ..=>false | _=>true)&&chkE nm kd a o&&chkE nm kd i k&&chkE nm kd e v
  | _=>false
 | .aug x e,s=>match s with
  | .AugAssign (.Name id _) .Add v _=>isStore nm kd x id&&chkE nm kd e v
  | _=>false
 | .append a e,s=>match s with
  | .Expr (.Call (.Attribute o m ap) [x] [] pos) _=>methOk o ap pos&&tx m==[97,112,112,101,110,100]&&chkE nm kd a o&&chkE nm kd e x&&notStar x
  | _=>false
 | .ite c a b,s=>match s with
  | .If t x y _=>chkE nm kd c t&&chkSs nm kd a x&&chkSs nm kd b y
  | _=>false
 | .while c a,s=>match s with
  | .While t x [] _=>chkE nm kd c t&&chkSs nm kd a x
  | _=>false
 | .forE x e a,s=>match s with
  | .For (.Name id _) it y [] _=>isStore nm kd x id&&notDisp it&&chkE nm kd e it&&chkSs nm kd a y
  | _=>false
 | .forR x e a,s=>match s with
  | .For (.Name id _) (.Call (.Name g _) [k] [] _) y [] _=>isStore nm kd x id&&isGlob kd g [114,97,110,103,101]&&notStar k&&chkE nm kd e k&&chkSs nm kd a y
  | _=>false
 | .zipStr x z t e f,s=>match s with
  | .For (.Tuple [.Name id _,.Name id' _] _ _) (.Call (.Name g _) [k,k'] [] _)
    [.If (.Compare (.Name p1 _) [.IsNot] [.Constant .none _ _] _) [.Assign [.Name t1 _] (.BinOp (.BinOp (.Name t2 _) .Add (.Name j1 _) _) .Add (.Call (.Name sg _) [.Name p2 _] [] _) _) _] [] _] [] _=>
   isStore nm kd x id&&isStore nm kd z id'&&id != id'&&isGlob kd g [122,105,112]&&isGlob kd sg [115,116,114]&&isStore nm kd t t1&&t1==t2&&id==j1&&id'==p1&&id'==p2&&
    id != t1&&id' != t1&&notStar k&&notStar k'&&chkE nm kd e k&&chkE nm kd f k'
  | _=>false
 | .ret e,s=>match s with
  | .Return (some v) _=>chkE nm kd e v
  | _=>false
 | .raise a,s=>match s with
  | .Raise (some (.Call (.Name id _) [x,.Constant (.str t) _ _] [] _)) none _=>notStar x&&isGlob kd id [70,111,114,109,97,116,70,97,117,108,116]&&chkE nm kd a x&&decide (t.length<=capL)
  | _=>false
 | .tryRet e,s=>match s with
  | .Try [.Return (some v) _] [.ExceptHandler (some (.Name id _)) none [.Return (some (.Constant .none _ _)) _] _] [] [] _=>isGlob kd id [70,111,114,109,97,116,70,97,117,108,116]&&chkE nm kd e v
  | _=>false
 | .cont,s=>match s with
  | .Continue _=>true
  | _=>false
def chkSs (nm:List Txt) (kd:Str->Option NameKind):Ss->List Stmt->Bool
 | .nil,l=>l.isEmpty
 | .cons s r,l=>match l with
  | x::q=>chkS nm kd s x&&chkSs nm kd r q
  | []=>false
end
def plainParams (a:Arguments):Bool:=a.posonlyargs.isEmpty&&a.vararg.isNone&&a.kwonlyargs.isEmpty&&a.kw_defaults.isEmpty&&a.kwarg.isNone&&a.defaults.isEmpty
def nodupB:List Txt->Bool
 | []=>true
 | x::r=>!r.contains x&&nodupB r
def chkDef (fn:Fn) (d:DefRec):Bool:=
 tx d.name==fn.name&&plainParams d.params&&d.params.args.map (fun a=>tx a.arg)==fn.vars.take fn.params&&d.params.args.length==fn.params&&nodupB fn.vars&&
 d.scope.kind==.function&&!d.scope.isCoroutine&&!d.scope.isGenerator&&
 (d.params.args.all fun a=>d.scope.names.lookup a.arg==some .local||d.scope.names.lookup a.arg==some .cell)&&
 (d.scope.names.all fun y=>y.2 != .free)&&
 nodupB (d.scope.names.map fun y=>tx y.1)&&
 chkSs fn.vars (fun z=>d.scope.names.lookup z) fn.body d.body
def theDef (p:Program) (t:Txt):Option DefRec:=(recsOf p).find? fun d=>tx d.name==t
def chkAll (p:Program):Bool:=(List.range 40).all fun f=>match theFn f with
 | some fn=>(match theDef p fn.name with | some d=>chkDef fn d | none=>false)
 | none=>false
end Mine
end
section
open PySem PySem.W PyProof.Rows
namespace Mine
def IsSeq (o:Obj):Prop:=∃ arr n,o.data=.seq arr n
def TupO (arr : Array Value) (n : Nat) : Obj := { cls := .type "tuple", data := .seq arr n }
def LstO (arr : Array Value) (n : Nat) : Obj := { cls := .type "list", data := .seq arr n }
mutual
inductive VR (h:Heap) (F:Addr->Prop) (σ : List Addr):Value->V->Prop
 | none:VR h F σ .none .none
 | bool (b:Bool):VR h F σ (.bool b) (.bool b)
 | int (i:Int) (t:Tok):VR h F σ (.int i t) (.int i)
 | str (x:Str) (t:Tok):x.cps.size<=capL->(∀ c∈x.cps.toList,c < 1114112)->VR h F σ (.str x t) (.str x.cps.toList)
 | tup {a:Addr}{arr:Array Value}{n:Nat}{l:List V}:h.get? a=some (TupO arr n)->¬ F a->arr.size<=capL->VRs h F σ arr.toList l->VR h F σ (.ref a) (.tup l)
 | lst {a:Addr}{arr:Array Value}{n:Nat}{l:List V}:h.get? a=some (LstO arr n)->¬ F a->arr.size<=capL->VRs h F σ arr.toList l->VR h F σ (.ref a) (.lst l)
 | ref {a:Addr}{i:Nat} : σ[i]?=some a->VR h F σ (.ref a) (.ref i)
inductive VRs (h:Heap) (F:Addr->Prop) (σ : List Addr):List Value->List V->Prop
 | nil:VRs h F σ [] []
 | cons {v:Value}{vs:List Value}{x:V}{xs:List V}:VR h F σ v x->VRs h F σ vs xs->VRs h F σ (v::vs) (x::xs)
end
def Step (F:Addr->Prop) (h h':Heap):Prop:=
 ∀ b o,¬ F b->h.get? b=some o->h'.get? b=some o\/((∃ m,h.Ns b m)/\∀ m,h.Ns b m->h'.Ns b m)
theorem ns_not_seq {h:Heap}{b:Addr}{o:Obj}{m:Str->Option Value}(hn:h.Ns b m) (e:h.get? b=some o):∃ es n,o.data=.dict es n:=by
 obtain⟨o',es,ep,ho,hd,r⟩:=hn;rw[ho] at e;cases e;exact⟨es,ep,hd⟩
theorem Step.exact {F:Addr->Prop}{h h':Heap}(k:∀ b o,¬ F b->h.get? b=some o->h'.get? b=some o):Step F h h':=
 fun b o hb e=>.inl (k b o hb e)
theorem Step.seq {F:Addr->Prop}{h h':Heap}(S:Step F h h'){b:Addr}{o:Obj}(hb:¬ F b) (e:h.get? b=some o) (hs:∀ es n,o.data≠.dict es n):h'.get? b=some o:=by
 rcases S b o hb e with q | ⟨⟨m,hn⟩,_⟩
 ·exact q
 ·obtain⟨es,n,q⟩:=ns_not_seq hn e;exact absurd q (hs es n)
theorem IsSeq.nd {o:Obj}(x:IsSeq o):∀ es n,o.data≠.dict es n:=fun es n q=>by
 obtain⟨arr,k,r⟩:=x;rw[q] at r;cases r
mutual
theorem VR.mono {h h':Heap}{F F':Addr->Prop} {σ σ':List Addr}(k:∀ b o,¬ F b->h.get? b=some o->IsSeq o->h'.get? b=some o)
  (hf:∀ b,F' b->(∃ o,h.get? b=some o)->F b) (hs:∀ (i:Nat) (a:Addr),σ[i]?=some a->σ'[i]?=some a) :
  ∀ {v:Value}{x:V},VR h F σ v x->VR h' F' σ' v x
 | _,_,.none=>.none
 | _,_,.bool b=>.bool b
 | _,_,.int i t=>.int i t
 | _,_,.str x t a b=>.str x t a b
 | _,_,.tup e n c r=>.tup (k _ _ n e ⟨_,_,rfl⟩) (fun q=>n (hf _ q ⟨_,e⟩)) c (VRs.mono k hf hs r)
 | _,_,.lst e n c r=>.lst (k _ _ n e ⟨_,_,rfl⟩) (fun q=>n (hf _ q ⟨_,e⟩)) c (VRs.mono k hf hs r)
 | _,_,.ref e=>.ref (hs _ _ e)
theorem VRs.mono {h h':Heap}{F F':Addr->Prop} {σ σ':List Addr}(k:∀ b o,¬ F b->h.get? b=some o->IsSeq o->h'.get? b=some o)
  (hf:∀ b,F' b->(∃ o,h.get? b=some o)->F b) (hs:∀ (i:Nat) (a:Addr),σ[i]?=some a->σ'[i]?=some a) :
  ∀ {v:List Value}{x:List V},VRs h F σ v x->VRs h' F' σ' v x
 | _,_,.nil=>.nil
 | _,_,.cons a b=>.cons (VR.mono k hf hs a) (VRs.mono k hf hs b)
end
mutual
theorem VR.pure {h:Heap}{F:Addr->Prop} {σ σ':List Addr}:∀ {v:Value}{x:V},VR h F σ v x->x.pure=true->VR h F σ' v x
 | _,_,.none,_=>.none
 | _,_,.bool b,_=>.bool b
 | _,_,.int i t,_=>.int i t
 | _,_,.str x t a b,_=>.str x t a b
 | _,_,.tup e n c r,p=>.tup e n c (VRs.pure r (by simpa [V.pure] using p))
 | _,_,.lst e n c r,p=>.lst e n c (VRs.pure r (by simpa [V.pure] using p))
 | _,_,.ref e,p=>by simp[V.pure] at p
theorem VRs.pure {h:Heap}{F:Addr->Prop} {σ σ':List Addr}:∀ {v:List Value}{x:List V},VRs h F σ v x->V.pures x=true->VRs h F σ' v x
 | _,_,.nil,_=>.nil
 | _,_,.cons a b,p=>by
  simp only[V.pures,Bool.and_eq_true] at p;exact .cons (VR.pure a p.1) (VRs.pure b p.2)
end
theorem VRs.length {h:Heap}{F:Addr->Prop} {σ : List Addr}:∀ {v:List Value}{x:List V},VRs h F σ v x->v.length=x.length
 | _,_,.nil=>rfl
 | _,_,.cons _ b=>by rw[List.length_cons,List.length_cons,VRs.length b]
theorem VRs.append {h:Heap}{F:Addr->Prop} {σ : List Addr}{w:List Value}{y:List V}(q:VRs h F σ w y):∀ {v:List Value}{x:List V},VRs h F σ v x->VRs h F σ (v++w) (x++y)
 | _,_,.nil=>q
 | _,_,.cons a b=>.cons a (VRs.append q b)
theorem VRs.get {h:Heap}{F:Addr->Prop} {σ : List Addr}:∀ {v:List Value}{x:List V},VRs h F σ v x->∀ (i:Nat) (y:V),x[i]?=some y->∃ w,v[i]?=some w/\VR h F σ w y
 | _,_,.nil,i,y,e=>by simp at e
 | _,_,.cons a b,0,y,e=>by simp at e;subst e;exact⟨_,rfl,a⟩
 | _,_,.cons a b,i + 1,y,e=>by
  simp at e;obtain⟨w,hw,r⟩:=VRs.get b i y e;exact⟨w,by simpa using hw,r⟩
theorem VRs.take {h:Heap}{F:Addr->Prop} {σ : List Addr}:∀ {v:List Value}{x:List V},VRs h F σ v x->∀ n,VRs h F σ (v.take n) (x.take n)
 | _,_,_,0=>.nil
 | _,_,.nil,_ + 1=>.nil
 | _,_,.cons a b,n + 1=>.cons a (VRs.take b n)
theorem VRs.drop {h:Heap}{F:Addr->Prop} {σ : List Addr}:∀ {v:List Value}{x:List V},VRs h F σ v x->∀ n,VRs h F σ (v.drop n) (x.drop n)
 | _,_,q,0=>q
 | _,_,.nil,_ + 1=>.nil
 | _,_,.cons _ b,n + 1=>VRs.drop b n
theorem VRs.set {h:Heap}{F:Addr->Prop} {σ : List Addr}{w:Value}{y:V}(q:VR h F σ w y):∀ {v:List Value}{x:List V},VRs h F σ v x->∀ n,VRs h F σ (v.set n w) (x.set n y)
 | _,_,.nil,_=>.nil
 | _,_,.cons _ b,0=>.cons q b
 | _,_,.cons a b,n + 1=>.cons a (VRs.set q b n)
def Live (σ : List Addr) (H:Hp) (a:Addr):Prop:=∃ (i:Nat) (l:List V),σ[i]?=some a/\H[i]?=some (some l)
def takeO (k:Option Nat) (σ : List Addr):List Addr:=match k with
 | none=>σ
 | some n=>σ.take n
structure FRx (base:Heap) (envs:List Env) (b:Nat) (lim:Nat->Option Nat) (h:Heap) (σ : List Addr) (H:Hp):Prop where
 stays:base.StaysIn h
 frames:h.FunFrames base envs
 frd:∀ env∈envs,∀ L,env.frame=some L->∃ m,h.Ns L m
 len:H.length=σ.length
 nodup : σ.Nodup
 apart:∀ a∈σ,base.get? a=none
 dom:∀ a∈σ,∃ arr n,h.get? a=some (LstO arr n)
 objs:∀ (i:Nat) l,H[i]?=some (some l)->∃ a arr n,σ[i]?=some a/\h.get? a=some (LstO arr n)/\arr.size<=capL/\VRs h (Live σ H) (takeO (lim i) σ) arr.toList l
 loc:∀ i,b<=i->lim i=none
 blen:b<=σ.length
 hi:∀ i,i < b->∀ k,lim i=some k->k<=b
 hs:∀ i,i < b->lim i≠none
structure Adv (O:Addr->Prop) (h:Heap) (σ : List Addr) (H:Hp) (h':Heap) (σ':List Addr) (H':Hp):Prop where
 step:Step (fun a=>Live σ H a\/O a) h h'
 pre:∀ (i:Nat) (a:Addr),σ[i]?=some a->σ'[i]?=some a
 live:∀ a,Live σ' H' a->(∃ o,h.get? a=some o)->Live σ H a
 dom:∀ a o,h.get? a=some o->∃ o',h'.get? a=some o'
theorem Adv.refl (O:Addr->Prop) (h:Heap) (σ : List Addr) (H:Hp):Adv O h σ H h σ H:=
 ⟨.exact fun _ _ _ e=>e,fun _ _ e=>e,fun _ e _=>e,fun _ o e=>⟨o,e⟩⟩
theorem Adv.trans {O:Addr->Prop}{h h₁ h₂ : Heap} {σ σ₁ σ₂ : List Addr}{H H₁ H₂ : Hp}(x:Adv O h σ H h₁ σ₁ H₁) (y:Adv O h₁ σ₁ H₁ h₂ σ₂ H₂):Adv O h σ H h₂ σ₂ H₂:=by
 refine⟨fun b o hb e=>?_,fun i a e=>y.pre i a (x.pre i a e),fun a ha ho=>x.live a (y.live a ha ?_) ho,fun a o e=>?_⟩
 ·have hb₁ : ¬ (Live σ₁ H₁ b\/O b):=fun z=>hb (z.elim (fun z=>.inl (x.live b z ⟨o,e⟩)) .inr)
  rcases x.step b o hb e with q | ⟨⟨m,hm⟩,q⟩
  ·rcases y.step b o hb₁ q with q' | ⟨⟨m',hm'⟩,q'⟩
   ·exact .inl q'
   ·have back:∀ m,h.Ns b m->h₁.Ns b m:=fun m ⟨o',es,ep,ho,r⟩=>⟨o',es,ep,by rw[e] at ho;cases ho;exact q,r⟩
    have forth:∀ m,h₁.Ns b m->h.Ns b m:=fun m ⟨o',es,ep,ho,r⟩=>⟨o',es,ep,by rw[q] at ho;cases ho;exact e,r⟩
    exact .inr ⟨⟨m',forth m' hm'⟩,fun m hm=>q' m (back m hm)⟩
  ·refine .inr ⟨⟨m,hm⟩,fun m' hm'=>?_⟩;have h1:=q m' hm';obtain⟨o₁,es,ep,ho₁,r⟩:=id h1;rcases y.step b o₁ hb₁ ho₁ with q' | ⟨_,q'⟩
   ·exact⟨o₁,es,ep,q',r⟩
   ·exact q' m' h1
 ·obtain⟨o,e⟩:=ho;exact x.dom a o e
 ·obtain⟨o',e'⟩:=x.dom a o e;exact y.dom a o' e'
theorem Adv.weaken {O O':Addr->Prop}{h h₁ : Heap} {σ σ₁ : List Addr}{H H₁ : Hp}(x:Adv O h σ H h₁ σ₁ H₁) (k:∀ a,O a->(∃ o,h.get? a=some o)->O' a):Adv O' h σ H h₁ σ₁ H₁:=
 ⟨fun b o hb e=>x.step b o (fun z=>hb (z.imp id fun z=>k b z ⟨o,e⟩)) e,x.pre,x.live,x.dom⟩
theorem VR.adv {O:Addr->Prop}{h h₁ : Heap} {σ σ₁ : List Addr}{H H₁ : Hp}(x:Adv O h σ H h₁ σ₁ H₁) (hO:∀ a o,O a->h.get? a=some o->¬ IsSeq o){v:Value}{y:V}(q:VR h (Live σ H) σ v y):VR h₁ (Live σ₁ H₁) σ₁ v y:=
 VR.mono (fun b o hb e hs=>x.step.seq (fun z=>z.elim hb fun z=>hO b o z e hs) e hs.nd) x.live x.pre q
theorem VRs.adv {O:Addr->Prop}{h h₁ : Heap} {σ σ₁ : List Addr}{H H₁ : Hp}(x:Adv O h σ H h₁ σ₁ H₁) (hO:∀ a o,O a->h.get? a=some o->¬ IsSeq o){v:List Value}{y:List V}(q:VRs h (Live σ H) σ v y):VRs h₁ (Live σ₁ H₁) σ₁ v y:=
 VRs.mono (fun b o hb e hs=>x.step.seq (fun z=>z.elim hb fun z=>hO b o z e hs) e hs.nd) x.live x.pre q
def LocAt (env:Env) (h:Heap) (x:Str) (v:Value):Prop:=
 (env.kindOf x=some .local/\∃ m,h.Ns env.locals m/\m x=some v)\/
 ((env.kindOf x=some .cell\/env.kindOf x=some .free)/\∃ c,env.cells.lookup x=some c/\h.IsCell c (some v))
theorem ns_step {F:Addr->Prop}{h h':Heap}(S:Step F h h'){a:Addr}{m:Str->Option Value}(hn:h.Ns a m) (ha:¬ F a):h'.Ns a m:=by
 obtain⟨o,es,ep,ho,r⟩:=id hn;rcases S a o ha ho with q | ⟨_,q⟩
 ·exact⟨o,es,ep,q,r⟩
 ·exact q m hn
theorem cell_step {F:Addr->Prop}{h h':Heap}(S:Step F h h'){a:Addr}{v:Option Value}(hn:h.IsCell a v) (ha:¬ F a):h'.IsCell a v:=by
 obtain⟨o,ho,hd⟩:=hn;exact⟨o,S.seq ha ho (fun es n q=>by rw[hd] at q;cases q),hd⟩
theorem FRx.live_seq {base:Heap}{envs:List Env}{b:Nat}{lim:Nat->Option Nat}{h:Heap} {σ : List Addr}{H:Hp}(X:FRx base envs b lim h σ H){a:Addr}(z:Live σ H a):∃ arr n,h.get? a=some (LstO arr n):=by
 obtain⟨i,l,e,_⟩:=z;exact X.dom a (List.mem_of_getElem? e)
theorem FRx.not_live {base:Heap}{envs:List Env}{b:Nat}{lim:Nat->Option Nat}{h:Heap} {σ : List Addr}{H:Hp}(X:FRx base envs b lim h σ H){a:Addr}{o:Obj}(e:h.get? a=some o) (hs:¬ IsSeq o):¬ Live σ H a:=fun z=>by
 obtain⟨arr,n,q⟩:=X.live_seq z;rw[e] at q;cases q;exact hs ⟨_,_,rfl⟩
theorem LocAt.adv {O:Addr->Prop}{base:Heap}{envs:List Env}{b:Nat}{lim:Nat->Option Nat}{h h₁ : Heap} {σ σ₁ : List Addr}{H H₁ : Hp}(X:FRx base envs b lim h σ H) (x:Adv O h σ H h₁ σ₁ H₁){env:Env}{y:Str}{v:Value}
  (hO:¬ O env.locals) (hC:∀ p∈env.cells,¬ O p.2) (q:LocAt env h y v):LocAt env h₁ y v:=by
 rcases q with ⟨hk,m,hn,hv⟩ | ⟨hk,c,hc,hv⟩
 ·refine .inl ⟨hk,m,ns_step x.step hn fun z=>z.elim (fun z=>?_) hO,hv⟩;obtain⟨o,es,ep,ho,hd,r⟩:=hn;exact X.not_live ho (fun ⟨arr,n,q⟩=>by rw[hd] at q;cases q) z
 ·refine .inr ⟨hk,c,hc,cell_step x.step hv fun z=>z.elim (fun z=>?_) (hC _ (PySem.mem_of_lookup hc))⟩;obtain⟨o,ho,hd⟩:=hv;exact X.not_live ho (fun ⟨arr,n,q⟩=>by rw[hd] at q;cases q) z
def Vars (nm:List Txt) (env:Env) (h:Heap) (σ : List Addr) (H:Hp) (loc:Loc):Prop:=
 ∀ (i:Nat) (v:V),loc[i]?=some (some v)->∀ x,nm[i]?=some (tx x)->isVarK (env.kindOf x)=true->∃ val,LocAt env h x val/\VR h (Live σ H) σ val v
theorem tx_inj {a b:Str}(h:tx a=tx b):a=b:=by
 obtain⟨⟨l⟩⟩:=a;obtain⟨⟨m⟩⟩:=b;simp only[tx] at h;subst h;rfl
theorem Vars.adv {O:Addr->Prop}{base:Heap}{envs:List Env}{b:Nat}{lim:Nat->Option Nat}{h h₁ : Heap} {σ σ₁ : List Addr}{H H₁ : Hp}(X:FRx base envs b lim h σ H) (x:Adv O h σ H h₁ σ₁ H₁){nm:List Txt}{env:Env}{loc:Loc}
  (hO:¬ O env.locals) (hC:∀ p∈env.cells,¬ O p.2) (hOs:∀ a o,O a->h.get? a=some o->¬ IsSeq o) (q:Vars nm env h σ H loc):Vars nm env h₁ σ₁ H₁ loc:=fun i v e y hy hk=>by
 obtain⟨val,a2,a3⟩:=q i v e y hy hk;exact⟨val,a2.adv X x hO hC,a3.adv x hOs⟩
end Mine
end
section
open PySem PySem.W PyProof.Rows PySem.Calls
namespace Mine
def allBut (h:Heap) (L:Addr):List (Addr × Obj):=(List.range h.objs.size).filterMap fun a=>if a=L then none else (h.get? a).map fun o=>(a,o)
theorem mem_allBut {h:Heap}{L b:Addr}{o:Obj}(hb:b≠L) (e:h.get? b=some o):(b,o)∈allBut h L:=by
 unfold allBut;rw[List.mem_filterMap];exact⟨b,List.mem_range.mpr (Heap.lt_size e),by rw[if_neg hb,e];rfl⟩
theorem of_allBut {h:Heap}{L:Addr}{p:Addr × Obj}(hp:p∈allBut h L):p.1≠L/\h.get? p.1=some p.2:=by
 unfold allBut at hp;rw[List.mem_filterMap] at hp;obtain⟨a,_,e⟩:=hp;by_cases ha:a=L
 ·rw[if_pos ha] at e;cases e
 ·rw[if_neg ha] at e;cases q:h.get? a with
  | none=>rw[q] at e;cases e
  | some o=>rw[q] at e;cases e;exact⟨ha,q⟩
def h00:Heap:={}
theorem h00_none (a:Addr):h00.get? a=none:=by
 cases q:h00.get? a with
 | none=>rfl
 | some o=>exact absurd (Heap.lt_size q) (Nat.not_lt_zero _)
theorem fr0 {h:Heap}{L:Addr}{m:Str->Option Value}(hn:h.Ns L m):Fr h00 L h m:=
 ⟨hn,fun b o e=>absurd e (by rw[h00_none];intro q;cases q),Nat.zero_le _⟩
theorem news0 (h:Heap) (L:Addr):News h00 L h (allBut h L):=fun _ hp=>⟨(of_allBut hp).2,(of_allBut hp).1,h00_none _⟩
theorem ns_fun {h:Heap}{L:Addr}{m m':Str->Option Value}(a:h.Ns L m) (b:h.Ns L m'):m=m':=by
 obtain⟨o,es,ep,ho,hd,_,hf⟩:=a;obtain⟨o',es',ep',ho',hd',_,hf'⟩:=b;rw[ho] at ho';cases ho';rw[hd] at hd';cases hd'
 funext x;rw[<- hf x,<- hf' x]
structure Grow (base h h':Heap):Prop where
 stays:base.StaysIn h'
 step:Step (fun _=>False) h h'
 dom:∀ a o,h.get? a=some o->∃ o',h'.get? a=some o'
theorem grow_of {base h h':Heap}{L:Addr}{m:Str->Option Value}{news:List (Addr × Obj)}(hs:base.StaysIn h) (hL:base.get? L=none) (hn:h.Ns L m) (F:Fr h00 L h' m) (N:News h00 L h' news)
  (sub:∀ p∈allBut h L,p∈news):Grow base h h':=by
 have ex:∀ b o,b≠L->h.get? b=some o->h'.get? b=some o:=fun b o hb e=>(N _ (sub _ (mem_allBut hb e))).1
 refine⟨fun b o e=>ex b o (fun q=>by rw[q,hL] at e;cases e) (hs b o e),fun b o _ e=>?_,fun a o e=>?_⟩
 ·by_cases hb:b=L
  ·subst hb;exact .inr ⟨⟨m,hn⟩,fun m' hm'=>by rw[<- ns_fun hn hm'];exact F.ns⟩
  ·exact .inl (ex b o hb e)
 ·by_cases ha:a=L
  ·subst ha;obtain⟨o',_,_,ho',_⟩:=F.ns;exact⟨o',ho'⟩
  ·exact⟨o,ex a o ha e⟩
theorem grow_keeps {base h h':Heap}(hs:base.StaysIn h) (k:∀ b o,h.get? b=some o->h'.get? b=some o):Grow base h h':=
 ⟨fun b o e=>k b o (hs b o e),.exact fun b o _ e=>k b o e,fun a o e=>⟨o,k a o e⟩⟩
structure Cx where
 base:Heap
 envs:List Env
 b:Nat
 lim:Nat->Option Nat
 C:Value
abbrev Cx.Ok (c:Cx) (h:Heap) (σ : List Addr) (H:Hp):Prop:=FRx c.base c.envs c.b c.lim h σ H
def No:Addr->Prop:=fun _=>False
def Exc (base:Heap) (C:Value) (h0:Heap) (e:Addr) (h:Heap):Prop:=
 h0.get? e=none/\base.get? e=none/\∃ oe vs a0,h.get? e=some oe/\oe.cls=C/\oe.data=.fields vs/\vs[0]?=some a0/\
  (vs[1]?=some .none\/∃ T oT ts,vs[1]?=some (.ref T)/\h0.get? T=none/\base.get? T=none/\T≠e/\h.get? T=some oT/\oT.data=.fields ts/\ts[3]?=some .none)
def Cont (c:Cx) (s:Shared) (σ : List Addr) (H:Hp) (Q E:Value->Shared->Prop):Res V->Prop
 | .ok v H'=>∀ val h' tk σ',c.Ok h' σ' H'->Adv No s.heap σ H h' σ' H'->VR h' (Live σ' H') σ' val v->Q val { s with heap:=h',toks:=tk }
 | .exc H'=>∀ e h' tk σ',c.Ok h' σ' H'->Adv No s.heap σ H h' σ' H'->Exc c.base c.C s.heap e h'->E (.ref e) { s with heap:=h',toks:=tk }
def ContL (c:Cx) (s:Shared) (σ : List Addr) (H:Hp) (Q:List Value->Shared->Prop) (E:Value->Shared->Prop):Res (List V)->Prop
 | .ok v H'=>∀ val h' tk σ',c.Ok h' σ' H'->Adv No s.heap σ H h' σ' H'->VRs h' (Live σ' H') σ' val v->Q val { s with heap:=h',toks:=tk }
 | .exc H'=>∀ e h' tk σ',c.Ok h' σ' H'->Adv No s.heap σ H h' σ' H'->Exc c.base c.C s.heap e h'->E (.ref e) { s with heap:=h',toks:=tk }
theorem Exc.adv {base:Heap}{C:Value}{O:Addr->Prop}{h h₁ h₂ : Heap} {σ σ₁ : List Addr}{H H₁ : Hp}{e:Addr}(x:Adv O h σ H h₁ σ₁ H₁) (q:Exc base C h₁ e h₂):Exc base C h e h₂:=by
 have back:∀ a,h₁.get? a=none->h.get? a=none:=fun a ha=>by
  cases z:h.get? a with
  | none=>rfl
  | some o=>obtain⟨o',ho'⟩:=x.dom a o z;rw[ha] at ho';cases ho'
 obtain⟨a1,a2,oe,vs,a0,b1,b2,b3,b4,b5⟩:=q;refine⟨back _ a1,a2,oe,vs,a0,b1,b2,b3,b4,b5.imp id ?_⟩
 rintro ⟨T,oT,ts,c1,c2,r⟩
 exact⟨T,oT,ts,c1,back _ c2,r⟩
theorem Cont.adv {c:Cx}{s:Shared} {σ σ₁ : List Addr}{H H₁ : Hp}{Q E:Value->Shared->Prop}{r:Res V}(k:Cont c s σ H Q E r){h₁ : Heap}{tk:Nat}(x:Adv No s.heap σ H h₁ σ₁ H₁) :
  Cont c { s with heap:=h₁,toks:=tk } σ₁ H₁ Q E r:=by
 cases r with
 | ok v H'=>exact fun val h' tk σ' a b d=>k val h' tk σ' a (x.trans b) d
 | exc H'=>exact fun e h' tk σ' a b d=>k e h' tk σ' a (x.trans b) (d.adv x)
theorem ContL.adv {c:Cx}{s:Shared} {σ σ₁ : List Addr}{H H₁ : Hp}{Q:List Value->Shared->Prop}{E:Value->Shared->Prop}{r:Res (List V)}(k:ContL c s σ H Q E r){h₁ : Heap}{tk:Nat}(x:Adv No s.heap σ H h₁ σ₁ H₁) :
  ContL c { s with heap:=h₁,toks:=tk } σ₁ H₁ Q E r:=by
 cases r with
 | ok v H'=>exact fun val h' tk σ' a b d=>k val h' tk σ' a (x.trans b) d
 | exc H'=>exact fun e h' tk σ' a b d=>k e h' tk σ' a (x.trans b) (d.adv x)
theorem frames_keep {base h h':Heap}(k:∀ b o,h.get? b=some o->(∀ vs,o.data≠.fields vs)->∃ o',h'.get? b=some o'/\∀ vs,o'.data≠.fields vs):∀ {l:List Env},h.FunFrames base l->h'.FunFrames base l
 | [],_=>trivial
 | _::_,⟨hk,⟨L,o,hf,hn,ho,hd⟩,hr⟩=>by
  obtain⟨o',ho',hd'⟩:=k L o ho hd;exact⟨hk,⟨L,o',hf,hn,ho',hd'⟩,frames_keep k hr⟩
theorem step_keep {F:Addr->Prop}{h h':Heap}(S:Step F h h'){b:Addr}{o:Obj}(hb:¬ F b) (e:h.get? b=some o) (hnf:∀ vs,o.data≠.fields vs):∃ o',h'.get? b=some o'/\∀ vs,o'.data≠.fields vs:=by
 rcases S b o hb e with q | ⟨⟨m,hm⟩,q⟩
 ·exact⟨o,q,hnf⟩
 ·obtain⟨o',es,ep,ho',hd',_⟩:=q m hm;exact⟨o',ho',fun vs z=>by rw[hd'] at z;cases z⟩
theorem FRx.grow {base:Heap}{envs:List Env}{b:Nat}{lim:Nat->Option Nat}{h h':Heap} {σ : List Addr}{H:Hp}(X:FRx base envs b lim h σ H) (g:Grow base h h'):FRx base envs b lim h' σ H where
 stays:=g.stays
 frames:=frames_keep (fun b o e hnf=>step_keep g.step (fun z=>z) e hnf) X.frames
 frd:=fun env he L hL=>by
  obtain⟨m,hm⟩:=X.frd env he L hL;exact⟨m,ns_step g.step hm fun z=>z⟩
 len:=X.len
 nodup:=X.nodup
 apart:=X.apart
 dom:=fun a ha=>by
  obtain⟨arr,n,e⟩:=X.dom a ha;exact⟨arr,n,g.step.seq (fun z=>z) e (IsSeq.nd ⟨_,_,rfl⟩)⟩
 objs:=fun i l e=>by
  obtain⟨a,arr,n,h1,h2,h3,h4⟩:=X.objs i l e;exact⟨a,arr,n,h1,g.step.seq (fun z=>z) h2 (IsSeq.nd ⟨_,_,rfl⟩),h3,VRs.mono (fun b o _ e hs=>g.step.seq (fun z=>z) e hs.nd) (fun _ q _=>q) (fun _ _ q=>q) h4⟩
 loc:=X.loc
 blen:=X.blen
 hi:=X.hi
 hs:=X.hs
theorem Grow.adv {base h h':Heap}(g:Grow base h h') (σ : List Addr) (H:Hp):Adv No h σ H h' σ H:=
 ⟨fun b o _ e=>g.step b o (fun z=>z) e,fun _ _ e=>e,fun _ e _=>e,g.dom⟩
end Mine
end
section
open PySem PySem.W PyProof.Rows PySem.Calls
namespace Mine
mutual
def toPy:V->PyData
 | .none=>.none
 | .bool b=>.bool b
 | .int i=>.int i
 | .str s=>.str ⟨s.toArray⟩
 | .tup l=>.tuple (toPys l)
 | .lst l=>.list (toPys l)
 | .ref _=>.none
def toPys:List V->List PyData
 | []=>[]
 | v::l=>toPy v::toPys l
end
mutual
theorem VR.reads {h:Heap}{F:Addr->Prop} {σ : List Addr}:∀ {v:Value}{x:V},VR h F σ v x->x.pure=true->∃ as,PySem.Reads h v (toPy x) as
 | _,_,.none,_=>⟨_,.none⟩
 | _,_,.bool b,_=>⟨_,.bool b⟩
 | _,_,.int i t,_=>⟨_,.int i t⟩
 | _,_,.str x t _ _,_=>⟨_,.str x t⟩
 | _,_,.tup e _ _ r,p=>by
  obtain⟨as,q⟩:=VRs.reads r (by simpa [V.pure] using p);exact⟨_,.tuple e rfl rfl q⟩
 | _,_,.lst e _ _ r,p=>by
  obtain⟨as,q⟩:=VRs.reads r (by simpa [V.pure] using p);exact⟨_,.list e rfl rfl q⟩
 | _,_,.ref _,p=>by simp[V.pure] at p
theorem VRs.reads {h:Heap}{F:Addr->Prop} {σ : List Addr}:∀ {v:List Value}{x:List V},VRs h F σ v x->V.pures x=true->∃ as,PySem.ReadsAll h v (toPys x) as
 | _,_,.nil,_=>⟨_,.nil⟩
 | _,_,.cons a b,p=>by
  simp only[V.pures,Bool.and_eq_true] at p;obtain⟨as,q⟩:=VR.reads a p.1;obtain⟨bs,q'⟩:=VRs.reads b p.2;exact⟨_,.cons q q'⟩
end
theorem plain_pures:∀ (n:Nat),(∀ x:V,x.plain n=true->x.pure=true)->∀ l:List V,(∀ x∈l,V.plain n x=true)->V.pures l=true
 | _,_,[],_=>rfl
 | n,ih,x::l,h=>by
  simp only[V.pures,Bool.and_eq_true];exact⟨ih x (h x List.mem_cons_self),plain_pures n ih l fun y hy=>h y (List.mem_cons_of_mem _ hy)⟩
theorem plain_pure:∀ (n:Nat) (x:V),x.plain n=true->x.pure=true
 | 0,x,h=>by cases x<;>simp_all [V.plain,V.pure]
 | n + 1,x,h=>by
  cases x with
  | tup l=>simp only[V.plain,List.all_eq_true] at h;simpa [V.pure] using plain_pures n (plain_pure n) l h
  | lst l=>simp only[V.plain,List.all_eq_true] at h;simpa [V.pure] using plain_pures n (plain_pure n) l h
  | _=>simp_all [V.plain,V.pure]
mutual
theorem VR.canLay {h:Heap}{F:Addr->Prop} {σ : List Addr}:∀ {v:Value}{x:V},VR h F σ v x->(toPy x).canLay0=true
 | _,_,.none=>rfl
 | _,_,.bool b=>rfl
 | _,_,.int i t=>rfl
 | _,_,.str x t _ q=>by
  simp only[toPy,PyData.canLay0,PyData.strOk];rw[Array.all_eq_true];intro i hi;simpa using q (x.cps[i]) (by simp)
 | _,_,.tup _ _ _ r=>by simp only[toPy,PyData.canLay0];exact VRs.canLay r
 | _,_,.lst _ _ _ r=>by simp only[toPy,PyData.canLay0];exact VRs.canLay r
 | _,_,.ref _=>rfl
theorem VRs.canLay {h:Heap}{F:Addr->Prop} {σ : List Addr}:∀ {v:List Value}{x:List V},VRs h F σ v x->PyData.canLayAll0 (toPys x)=true
 | _,_,.nil=>rfl
 | _,_,.cons a b=>by simp only[toPys,PyData.canLayAll0,VR.canLay a,VRs.canLay b,Bool.and_self]
end
theorem plain_depths:∀ (n:Nat),(∀ x:V,x.plain n=true->(toPy x).depth<=n)->∀ l:List V,(∀ x∈l,V.plain n x=true)->PyData.depthAll (toPys l)<=n
 | _,_,[],_=>by simp[toPys,PyData.depthAll]
 | n,ih,x::l,h=>by
  have h1:=ih x (h x List.mem_cons_self);have h2:=plain_depths n ih l fun y hy=>h y (List.mem_cons_of_mem _ hy)
  simp only[toPys,PyData.depthAll];omega
theorem plain_depth:∀ (n:Nat) (x:V),x.plain n=true->(toPy x).depth<=n
 | 0,x,h=>by cases x<;>simp_all [V.plain,toPy,PyData.depth]
 | n + 1,x,h=>by
  cases x with
  | tup l=>
   simp only[V.plain,List.all_eq_true] at h;have:=plain_depths n (plain_depth n) l h;simp only[toPy,PyData.depth];omega
  | lst l=>
   simp only[V.plain,List.all_eq_true] at h;have:=plain_depths n (plain_depth n) l h;simp only[toPy,PyData.depth];omega
  | _=>simp_all [V.plain,toPy,PyData.depth]
mutual
theorem eqv_beq:∀ (x y:V) (n m:Nat),x.plain n=true->y.plain m=true->PyData.eqv (toPy x) (toPy y)=x.beq y
 | .none,y,n,m,_,hy=>by cases y<;>cases m<;>simp_all [V.plain,toPy,PyData.eqv,V.beq]
 | .bool b,y,n,m,hx,hy=>by cases n<;>simp[V.plain] at hx
 | .int i,y,n,m,_,hy=>by cases y<;>cases m<;>simp_all [V.plain,toPy,PyData.eqv,V.beq]
 | .str s,y,n,m,_,hy=>by
  cases y<;>cases m<;>simp_all [V.plain,toPy,PyData.eqv,V.beq]
  all_goals (rw[Bool.eq_iff_iff];simp)
 | .tup l,y,n,m,hx,hy=>by
  cases n with
  | zero=>simp[V.plain] at hx
  | succ n=>
   cases y with
   | tup k=>
    cases m with
    | zero=>simp[V.plain] at hy
    | succ m=>
     simp only[V.plain,List.all_eq_true] at hx hy;simp only[toPy,PyData.eqv,V.beq];exact eqv_beqs l k n m hx hy
   | _=>cases m<;>simp_all [V.plain,toPy,PyData.eqv,V.beq]
 | .lst l,y,n,m,hx,hy=>by
  cases n with
  | zero=>simp[V.plain] at hx
  | succ n=>
   cases y with
   | lst k=>
    cases m with
    | zero=>simp[V.plain] at hy
    | succ m=>
     simp only[V.plain,List.all_eq_true] at hx hy;simp only[toPy,PyData.eqv,V.beq];exact eqv_beqs l k n m hx hy
   | _=>cases m<;>simp_all [V.plain,toPy,PyData.eqv,V.beq]
 | .ref i,y,n,m,hx,hy=>by cases n<;>simp[V.plain] at hx
theorem eqv_beqs:∀ (x y:List V) (n m:Nat),(∀ a∈x,V.plain n a=true)->(∀ a∈y,V.plain m a=true)->PyData.eqvAll (toPys x) (toPys y)=V.beqs x y
 | [],[],_,_,_,_=>rfl
 | [],_::_,_,_,_,_=>by simp[toPys,PyData.eqvAll,V.beqs]
 | _::_,[],_,_,_,_=>by simp[toPys,PyData.eqvAll,V.beqs]
 | a::x,b::y,n,m,hx,hy=>by
  simp only[toPys,PyData.eqvAll,V.beqs];rw[eqv_beq a b n m (hx a List.mem_cons_self) (hy b List.mem_cons_self),eqv_beqs x y n m (fun z hz=>hx z (List.mem_cons_of_mem _ hz)) fun z hz=>hy z (List.mem_cons_of_mem _ hz)]
end
theorem VR.str' {h:Heap}{F:Addr->Prop} {σ : List Addr}{x:Str}{t:Tok}{s:Txt}(e:x.cps.toList=s) (a:s.length<=capL) (b:∀ c∈s,c < 1114112):VR h F σ (.str x t) (.str s):=by
 subst e;exact .str x t (by simpa using a) b
theorem sizeLine_cap:capL<=sizeLine:=by decide
section
variable {prog:Program}{w:World}{A:Around}{E:Value->Shared->Prop}{s:Shared}{c:Cx} {σ : List Addr}{H:Hp}{Q:Value->Shared->Prop}
theorem Cont.val {v:V}(k:Cont c s σ H Q E (.ok v H)) (X:c.Ok s.heap σ H){val:Value}(r:VR s.heap (Live σ H) σ val v) (tk:Nat):Q val { s with toks:=tk }:=
 k val s.heap tk σ X (.refl ..) r
theorem Cont.here {v:V}(k:Cont c s σ H Q E (.ok v H)) (X:c.Ok s.heap σ H){val:Value}(r:VR s.heap (Live σ H) σ val v):Q val s:=
 k val s.heap s.toks σ X (.refl ..) r
theorem Cont.grown {v:V}(k:Cont c s σ H Q E (.ok v H)) (X:c.Ok s.heap σ H){h':Heap}(g:Grow c.base s.heap h'){val:Value}(r:VR h' (Live σ H) σ val v) (tk:Nat):Q val { s with heap:=h',toks:=tk }:=
 k val h' tk σ (X.grow g) (g.adv σ H) r
theorem Cont.push {v:V}(k:Cont c s σ H Q E (.ok v H)) (X:c.Ok s.heap σ H){o:Obj}{val:Value}(r:VR (s.heap.push o) (Live σ H) σ val v):Q val { s with heap:=s.heap.push o }:=
 k.grown X (grow_keeps X.stays fun _ _ e=>Heap.get?_push_of_some _ e) r s.toks
theorem FRx.frame (hne:c.envs≠[]) (X:c.Ok s.heap σ H):∃ L m,c.base.get? L=none/\s.heap.Ns L m:=by
 obtain⟨base,envs,b,lim,C⟩:=c;cases envs with
 | nil=>exact absurd rfl hne
 | cons env r=>
  obtain⟨_,⟨L,o,hf,hn,_⟩,_⟩:=X.frames;obtain⟨m,hm⟩:=X.frd env List.mem_cons_self L hf;exact⟨L,m,hn,hm⟩
theorem not_live_new (X:c.Ok s.heap σ H):¬ Live σ H s.heap.objs.size:=fun z=>by
 obtain⟨arr,n,e⟩:=X.live_seq z;exact absurd (Heap.lt_size e) (Nat.lt_irrefl _)
theorem VRs.grow {h h':Heap}{base:Heap}(g:Grow base h h'){v:List Value}{x:List V}(q:VRs h (Live σ H) σ v x):VRs h' (Live σ H) σ v x:=
 q.adv (g.adv σ H) fun _ _ z=>z.elim
theorem VR.grow {h h':Heap}{base:Heap}(g:Grow base h h'){v:Value}{x:V}(q:VR h (Live σ H) σ v x):VR h' (Live σ H) σ v x:=
 q.adv (g.adv σ H) fun _ _ z=>z.elim
theorem new_tup (X:c.Ok s.heap σ H){vs:List Value}{l:List V}(q:VRs s.heap (Live σ H) σ vs l) (hl:l.length<=capL) (k:Cont c s σ H Q E (.ok (.tup l) H)):wpAny (model prog w) A (newTuple vs) Q E s:=by
 have hz:vs.length<=capL:=by rw[q.length];exact hl
 refine wpAny_newObj_type ?_ (show vs.toArray.size<=sizeLine by rw[List.size_toArray];exact Nat.le_trans hz sizeLine_cap);refine k.push X (.tup (arr:=vs.toArray) (n:=0) (Heap.get?_push_size _ rfl) (not_live_new X) (by simpa using hz) ?_);exact q.grow (base:=c.base) (grow_keeps X.stays fun _ _ e=>Heap.get?_push_of_some _ e)
theorem new_lst (X:c.Ok s.heap σ H){vs:List Value}{l:List V}(q:VRs s.heap (Live σ H) σ vs l) (hl:l.length<=capL) (k:Cont c s σ H Q E (.ok (.lst l) H)):wpAny (model prog w) A (newList vs) Q E s:=by
 have hz:vs.length<=capL:=by rw[q.length];exact hl
 refine wpAny_newObj_type ?_ (show vs.toArray.size<=sizeLine by rw[List.size_toArray];exact Nat.le_trans hz sizeLine_cap);refine k.push X (.lst (arr:=vs.toArray) (n:=0) (Heap.get?_push_size _ rfl) (not_live_new X) (by simpa using hz) ?_);exact q.grow (base:=c.base) (grow_keeps X.stays fun _ _ e=>Heap.get?_push_of_some _ e)
theorem reads_eq {va vb:Value}{a b:V}(hx:VR s.heap (Live σ H) σ va a) (hy:VR s.heap (Live σ H) σ vb b) (pa:a.plain 60=true) (pb:b.plain 60=true) (hu:A.units + 64 < cLine)
  (h:Q (.bool (a.beq b)) s):wpAny (model prog w) A (compareOp .Eq va vb) Q E s:=by
 obtain⟨as,ra⟩:=hx.reads (plain_pure 60 a pa);obtain⟨bs,rb⟩:=hy.reads (plain_pure 60 b pb);refine eq_dataH ra rb ?_ ?_ hu (by rw[eqv_beq a b 60 60 pa pb];exact h)
 ·unfold SeqAt.shaped;rw[hx.canLay,Bool.true_and];exact decide_eq_true (Nat.le_trans (plain_depth 60 a pa) (by decide))
 ·unfold SeqAt.shaped;rw[hy.canLay,Bool.true_and];exact decide_eq_true (Nat.le_trans (plain_depth 60 b pb) (by decide))
theorem reads_ne {va vb:Value}{a b:V}(hx:VR s.heap (Live σ H) σ va a) (hy:VR s.heap (Live σ H) σ vb b) (pa:a.plain 60=true) (pb:b.plain 60=true) (hu:A.units + 64 < cLine)
  (h:Q (.bool (!a.beq b)) s):wpAny (model prog w) A (compareOp .NotEq va vb) Q E s:=by
 obtain⟨as,ra⟩:=hx.reads (plain_pure 60 a pa);obtain⟨bs,rb⟩:=hy.reads (plain_pure 60 b pb);refine ne_dataH ra rb ?_ ?_ hu (by rw[eqv_beq a b 60 60 pa pb];exact h)
 ·unfold SeqAt.shaped;rw[hx.canLay,Bool.true_and];exact decide_eq_true (Nat.le_trans (plain_depth 60 a pa) (by decide))
 ·unfold SeqAt.shaped;rw[hy.canLay,Bool.true_and];exact decide_eq_true (Nat.le_trans (plain_depth 60 b pb) (by decide))
end
end Mine
end
section
open PySem PySem.W PyProof.Rows PySem.Calls
namespace Mine
theorem isPre_iff:∀ (a b:Txt),isPre a b=true↔b.take a.length=a
 | [],b=>by simp[isPre]
 | a::x,[]=>by simp[isPre]
 | a::x,b::y=>by
  simp only[isPre,Bool.and_eq_true,beq_iff_eq,List.length_cons,List.take_succ_cons,List.cons.injEq,isPre_iff x y];constructor
  ·rintro ⟨rfl,h⟩;exact⟨rfl,h⟩
  ·rintro ⟨rfl,h⟩;exact⟨rfl,h⟩
theorem isSub_iff (a:Txt):∀ b:Txt,isSub a b=true↔∃ i,i + a.length<=b.length/\(b.drop i).take a.length=a
 | []=>by
  simp only[isSub];constructor
  ·intro h;have:a=[]:=by simpa using h
   exact⟨0,by simp[this],by simp[this]⟩
  ·rintro ⟨i,h,_⟩
   have:a.length=0:=by simp at h;simp[h]
   have:a=[]:=List.eq_nil_of_length_eq_zero this;simp[this]
 | c::t=>by
  simp only[isSub,Bool.or_eq_true,isPre_iff,isSub_iff a t];constructor
  ·rintro (h | ⟨i,h1,h2⟩)
   ·refine⟨0,?_,by simpa using h⟩;have:=congrArg List.length h;rw[List.length_take] at this;omega
   ·exact⟨i + 1,by simp;omega,by simpa using h2⟩
  ·rintro ⟨i,h1,h2⟩
   cases i with
   | zero=>exact .inl (by simpa using h2)
   | succ i=>exact .inr ⟨i,by simp at h1;omega,by simpa using h2⟩
theorem contains_isSub (x y:Str):(!(Builtin.Str.occurrences x y 0 x.length 1).isEmpty)=isSub y.cps.toList x.cps.toList:=by
 rw[Bool.eq_iff_iff,StrLaws.found_iff,isSub_iff];simp only[StrLaws.subAt_eq,beq_iff_eq,Str.length,Array.length_toList]
section
variable {prog:Program}{w:World}{A:Around}{E:Value->Shared->Prop}{s:Shared}{c:Cx} {σ : List Addr}{H:Hp}{Q:Value->Shared->Prop}
theorem sndCmp {o:Cop}{va vb:Value}{a b:V}{r:Bool}(hu:A.units + 64 < cLine) (hx:VR s.heap (Live σ H) σ va a) (hy:VR s.heap (Live σ H) σ vb b) (e:cmpV o a b=some r)
  (k:Q (.bool r) s):wpAny (model prog w) A (compareOp (pyCop o) va vb) Q E s:=by
 unfold cmpV at e;split at e
 ·cases e;cases hx;cases hy;exact PyProof.Rows.lt_int k
 ·cases e;cases hx;cases hy;exact PyProof.Rows.le_int k
 ·cases e;cases hx;cases hy;exact PyProof.Rows.gt_int k
 ·cases e;cases hx;cases hy;exact PyProof.Rows.ge_int k
 ·cases e;cases hx;cases hy;exact PyProof.Rows.in_str (by rw[contains_isSub];exact k)
 ·cases e;cases hx;cases hy;exact P.notIn_str (by rw[contains_isSub];exact k)
 ·split at e
  ·rename_i hp;cases e;simp only[Bool.and_eq_true] at hp;exact reads_eq hx hy hp.1 hp.2 hu k
  ·cases e
 ·split at e
  ·rename_i hp;cases e;simp only[Bool.and_eq_true] at hp;exact reads_ne hx hy hp.1 hp.2 hu k
  ·cases e
 ·cases e
theorem fitsI_mul {x y:Int}(h:fitsI x=true):IntMulOk x y:=by
 simp only[fitsI,decide_eq_true_eq] at h
 replace h : -(2 ^ 62) < x/\x < 2 ^ 62:=by omega
 exact IntMulOk.of_left (intBits_le_64 (by omega) (by omega))
theorem lst_read (X:c.Ok s.heap σ H){va:Value}{a:V}{l:List V}(hx:VR s.heap (Live σ H) σ va a) (e:lstOf H a=some l) :
  ∃ r arr n,va=.ref r/\s.heap.get? r=some (LstO arr n)/\arr.size<=capL/\VRs s.heap (Live σ H) σ arr.toList l:=by
 cases hx with
 | lst e' n cp r=>simp only[lstOf,Option.some.injEq] at e;subst e;exact⟨_,_,_,rfl,e',cp,r⟩
 | ref e'=>
  simp only[lstOf,hget] at e;split at e
  ·rename_i l' hl;cases e;obtain⟨a,arr,n,h1,h2,h3,h4⟩:=X.objs _ _ hl;rw[e'] at h1;cases h1;refine⟨_,arr,n,rfl,h2,h3,VRs.mono (fun _ _ _ e _=>e) (fun _ q _=>q) (fun j a q=>?_) h4⟩;unfold takeO at q;split at q
   ·exact q
   ·rw[List.getElem?_take] at q;split at q
    ·exact q
    ·cases q
  ·cases e
 | _=>simp[lstOf] at e
theorem flat_arr {α : Type}(a:Array α):∀ n,(List.foldl (fun x y=>x++y) #[] (List.replicate (if a.isEmpty=true then 0 else n) a)).toList=List.flatten (List.replicate n a.toList):=by
 intro n;have fold:∀ (m:Nat) (z:Array α),(List.foldl (fun x y=>x++y) z (List.replicate m a)).toList=z.toList++List.flatten (List.replicate m a.toList):=by
  intro m
  induction m with
  | zero=>intro z;simp
  | succ m ih=>intro z;rw[List.replicate_succ,List.foldl_cons,ih];simp[List.replicate_succ]
 rw[fold];by_cases h:a.isEmpty=true
 ·have:a=#[]:=by simpa using h
  subst this;simp
 ·simp[h]
theorem VRs.rep {h:Heap}{F:Addr->Prop}{v:List Value}{x:List V}(q:VRs h F σ v x):∀ n,VRs h F σ (List.flatten (List.replicate n v)) (List.flatten (List.replicate n x))
 | 0=>.nil
 | n + 1=>by rw[List.replicate_succ,List.replicate_succ,List.flatten_cons,List.flatten_cons];exact (VRs.rep q n).append q
theorem sndBin {o:Bop}{va vb:Value}{a b r:V}(hne:c.envs≠[]) (X:c.Ok s.heap σ H) (hx:VR s.heap (Live σ H) σ va a) (hy:VR s.heap (Live σ H) σ vb b) (e:binV H o a b=some r)
  (k:Cont c s σ H Q E (.ok r H)):wpAny (model prog w) A (binaryOp (pyBop o) va vb) Q E s:=by
 unfold binV at e;split at e
 ·cases e;cases hx;cases hy;exact PyProof.Rows.add_int (k.val X (.int _ _) _)
 ·cases e;cases hx;cases hy;exact PyProof.Rows.sub_int (k.val X (.int _ _) _)
 ·split at e
  ·rename_i hf;simp only[Bool.and_eq_true] at hf;cases e;cases hx;cases hy;exact PyProof.Rows.mul_int (k.val X (.int _ _) _) (fitsI_mul hf.1)
  ·cases e
 ·split at e
  ·rename_i y hf;have h2:y<=1048576:=hf.2;cases e;cases hx;cases hy;exact PyProof.Rows.floordiv_int (by omega) (k.val X (.int _ _) _) (.inl (PyProof.noPylong_small (by omega)))
  ·cases e
 ·split at e
  ·cases e
  ·rename_i hf;cases e;cases hx;cases hy;exact PyProof.Rows.mod_int' hf (k.val X (.int _ _) _)
 ·split at e
  ·rename_i x y hz;cases e;cases hx with
   | str x t a1 a2=>
    cases hy with
    | str y u b1 b2=>
     have hz':x.length + y.length<=capL:=by simpa [PySem.Str.length] using hz
     refine PyProof.Rows.add_str (fun t' tk=>k.val X (VR.str' (by rw[PySem.Str.cps_append];simp) (by simpa using hz) ?_) tk) (Nat.le_trans hz' sizeLine_cap);intro z hz;rcases List.mem_append.mp hz with q | q
     ·exact a2 z q
     ·exact b2 z q
  ·cases e
 ·split at e
  ·rename_i x y hz;cases e;cases hx with
   | tup e1 n1 c1 r1=>
    cases hy with
    | tup e2 n2 c2 r2=>
     rename_i t1 arr1 k1 t2 arr2 k2;obtain⟨L,m,hL,hn⟩:=X.frame hne;have z1:=r1.length;have z2:=r2.length;refine add_tuples (vs:=arr1.toList) (ws:=arr2.toList) (fr0 hn) (news0 _ L) ⟨_,e1,rfl,_,by simp[TupO];rfl⟩ ⟨_,e2,rfl,_,by simp[TupO];rfl⟩ (fun q=>?_) (fun q1 q2=>?_) (fun _ _ h' F' N'=>?_) ?_
     ·rw[q] at r1;cases r1;exact k.here X (.tup e2 n2 c2 r2)
     ·rw[q2] at r2;cases r2;rw[List.append_nil] at k;exact k.here X (.tup e1 n1 c1 r1)
     ·have g:=grow_of X.stays hL hn F' N' fun p hp=>List.mem_cons_of_mem _ hp
      refine k.grown X g (.tup (arr:=(arr1.toList++arr2.toList).toArray) (n:=0) (N' _ List.mem_cons_self).1 (not_live_new X) ?_ ?_) s.toks
      ·rw[List.size_toArray,List.length_append,z1,z2];exact hz
      ·exact (r2.grow g).append (r1.grow g)
     ·rw[z1,z2];exact Nat.le_trans hz sizeLine_cap
  ·cases e
 ·split at e
  ·rename_i x y hz;cases e;cases hy;cases hx with
   | lst e1 n1 c1 r1=>
    rename_i t1 arr1 k1;obtain⟨L,m,hL,hn⟩:=X.frame hne;have z1:=r1.length;rw[Array.length_toList] at z1;have hcap:x.length * y.toNat<=1048576:=hz.2.2;have hcy:y<=1048576:=hz.2.1;refine mul_list (items:=arr1) (k:=k1) (fr0 hn) (news0 _ L) e1 (by omega) (by omega) (by rw[z1];omega) fun h' F' N'=>?_
    ·have g:=grow_of X.stays hL hn F' N' fun p hp=>List.mem_cons_of_mem _ hp
     refine k.grown X g (.lst (n:=0) (N' _ List.mem_cons_self).1 (not_live_new X) ?_ ?_) s.toks
     ·rw[<- Array.length_toList,flat_arr];simp[z1];rw[Nat.mul_comm];exact hz.2.2
     ·rw[flat_arr];exact (r1.grow g).rep _
  ·cases e
 ·split at e
  ·rename_i l m h1 h2;split at e
   ·rename_i hz;cases e;simp only[Bool.and_eq_true,decide_eq_true_eq] at hz;obtain⟨t1,arr1,k1,rfl,e1,c1,r1⟩:=lst_read X hx h1;obtain⟨t2,arr2,k2,rfl,e2,c2,r2⟩:=lst_read X hy h2;obtain⟨L,m',hL,hn⟩:=X.frame hne;have z1:=r1.length;have z2:=r2.length;refine add_lists (vs:=arr1.toList) (ws:=arr2.toList) (fr0 hn) (news0 _ L) ⟨_,e1,rfl,_,by simp[LstO];rfl⟩ ⟨_,e2,rfl,_,by simp[LstO];rfl⟩ (fun h' F' N'=>?_) ?_
    ·have g:=grow_of X.stays hL hn F' N' fun p hp=>List.mem_cons_of_mem _ hp
     refine k.grown X g (.lst (arr:=(arr1.toList++arr2.toList).toArray) (n:=0) (N' _ List.mem_cons_self).1 (not_live_new X) ?_ ?_) s.toks
     ·rw[List.size_toArray,List.length_append,z1,z2];exact hz.1.1
     ·exact (r2.grow g).append (r1.grow g)
    ·rw[z1,z2];exact Nat.le_trans hz.1.1 sizeLine_cap
   ·cases e
  ·cases e
 ·cases e
end
end Mine
end
section
open PySem PySem.W PyProof.Rows PySem.Calls PySem.Builtin.Str
namespace Mine
theorem range_nat (a b:Nat):sliceRange (a:Int) (b:Int) 1=(List.range (b - a)).map fun k=>a + k:=by
 unfold sliceRange;have e:(if (1:Int) > 0 then (if (a:Int) < b then ((b:Int) - a + 1 - 1) / 1 else 0) else (if (a:Int) > b then ((a:Int) - b - 1 - 1) / (-1) else 0)).toNat=b - a:=by
  rw[if_pos (by decide)];split<;>omega
 simp only[e];refine List.map_congr_left fun k _=>?_
 omega
def optOf:V->Option Int
 | .int k=>some k
 | _=>none
def clipN (n d:Nat):Option Int->Nat
 | none=>d
 | some k=>clampI n k
theorem bound_clip {n d m:Nat}{v:V}(h:bound n d v=some m):m=clipN n d (optOf v):=by
 cases v<;>simp only[bound] at h
 ·cases h;rfl
 ·cases h
 ·split at h
  ·cases h;rfl
  ·cases h
 all_goals cases h
theorem bounds_eq (lo hi:Option Int) (n:Nat):sliceBounds lo hi none n=((clipN n 0 lo:Int),(clipN n n hi:Int),1):=by
 unfold sliceBounds;cases lo<;>cases hi<;>simp only[clipN,clampI,Option.getD_none,Prod.mk.injEq]<;>refine⟨?_,?_,trivial⟩<;>simp<;>(try split)<;>omega
theorem cut_pick (items:Array Value) (lo hi:V){l:List Value}(h:cut items.toList lo hi=some l):(slicePick items (optOf lo) (optOf hi) none).toList=l:=by
 unfold cut at h;split at h
 ·rename_i a b h1 h2;cases h;rw[kmk_pick_nat items (bounds_eq (optOf lo) (optOf hi) items.size),bound_clip h1,bound_clip h2];simp[List.drop_take]
 ·cases h
theorem cutL_len {α β : Type}{x:List α}{y:List β}(e:x.length=y.length){lo hi:V}{l:List β}(h:cut y lo hi=some l):∃ k,cut x lo hi=some k/\∃ a b,k=(x.take b).drop a/\l=(y.take b).drop a:=by
 unfold cut at h ⊢;rw[e];split at h
 ·rename_i a b h1 h2;cases h;exact⟨_,rfl,a,b,rfl,rfl⟩
 ·cases h
theorem strIdx_eq (lo hi:Option Int) (n:Nat):strSliceIndices lo hi 1 n=(List.range (clipN n n hi - clipN n 0 lo)).map fun k=>clipN n 0 lo + k:=by
 rw[<- range_nat];unfold strSliceIndices;cases lo<;>cases hi<;>simp only[clipN,clampI]<;>congr 1<;>simp<;>(try split)<;>omega
theorem picksA {α : Type}(l:List α):∀ (n a:Nat),((List.range n).map (fun k=>a + k)).filterMap (l[·]?)=(l.drop a).take n:=by
 intro n
 induction n with
 | zero=>intro a;simp
 | succ n ih=>
  intro a;rw[List.range_succ,List.map_append,List.filterMap_append,ih];simp only[List.map_cons,List.map_nil,List.filterMap_cons,List.filterMap_nil];rw[List.take_add_one,List.getElem?_drop];cases l[a + n]?<;>rfl
theorem strCut (x:Str) (lo hi:V){s:Txt}(h:cut x.cps.toList lo hi=some s):((strSliceIndices (optOf lo) (optOf hi) 1 x.length).filterMap (x.cps[·]?))=s:=by
 unfold cut at h;split at h
 ·rename_i a b h1 h2;cases h;rw[strIdx_eq];have e:(fun (i:Nat)=>x.cps[i]?)=fun (i:Nat)=>x.cps.toList[i]?:=by funext i;simp
  rw[e,picksA,bound_clip h1,bound_clip h2,List.drop_take];simp[PySem.Str.length]
 ·cases h
section
variable {prog:Program}{w:World}{A:Around}{E:Value->Shared->Prop}{s:Shared}{c:Cx} {σ : List Addr}{H:Hp}{Q:Value->Shared->Prop}
theorem sub_int {slice:Expr}{o:Value}{i:Int}{t:Tok}(hs:(match slice with | .Slice ..=>false | _=>true)=true):subscripted slice false o (.int i t)=operate [o,.int i t] (getItem o (.int i t)):=by
 cases slice<;>first | rfl | cases hs
theorem idx_fit {l:List V}{k:Int}{r:V}(h:getAt l k=some r) (hl:l.length<=capL):k < 2 ^ 63/\((0<=k/\l[k.toNat]?=some r)\/(k < 0/\-(l.length:Int)<=k/\l[(k + l.length).toNat]?=some r)):=by
 have hc:(l.length:Int)<=1048576:=by have:l.length<=1048576:=hl;omega
 unfold getAt at h;split at h
 ·rename_i h0;have:=(List.getElem?_eq_some_iff.mp h).1;exact⟨by omega,.inl ⟨h0,h⟩⟩
 ·rename_i h0;split at h
  ·rename_i h1;exact⟨by omega,.inr ⟨by omega,by omega,h⟩⟩
  ·cases h
theorem sndIdx {value slice:Expr}{va vb:Value}{a b r:V}(hs:(match slice with | .Slice ..=>false | _=>true)=true) (X:c.Ok s.heap σ H) (hx:VR s.heap (Live σ H) σ va a) (hy:VR s.heap (Live σ H) σ vb b)
  (e:idxV H a b=some r) (k:Cont c s σ H Q E (.ok r H)):wpAny (model prog w) A (subscriptTail value slice va vb) Q E s:=by
 have list_case:∀ (l:List V) (i:Int),lstOf H a=some l->b=.int i->getAt l i=some r->wpAny (model prog w) A (subscriptTail value slice va vb) Q E s:=by
  intro l i hl hb hg;subst hb;obtain⟨t1,arr1,k1,rfl,e1,c1,r1⟩:=lst_read X hx hl;have z:=r1.length;rw[Array.length_toList] at z;cases hy with
  | int i t=>
   have hI:s.heap.IsList t1 arr1:=⟨_,e1,rfl,_,rfl⟩
   obtain⟨h63,⟨h0,hv⟩ | ⟨h0,h1,hv⟩⟩:=idx_fit hg (by rw[<- z];exact c1)
   ·obtain⟨x,hx',rx⟩:=r1.get _ _ hv;exact tail_any hI.typeIs list_getitem_lookup (wpAny_getItem_list hI h0 h63 (by simpa using hx') (k.here X rx)) (sub_int hs)
   ·obtain⟨x,hx',rx⟩:=r1.get _ _ hv;have hc:l.length<=1048576:=by rw[<- z];exact c1
    exact tail_any hI.typeIs list_getitem_lookup (wpAny_getItem_list_neg hI h0 (by rw[z];exact h1) (by omega) (by rw[z];simpa using hx') (k.here X rx)) (sub_int hs)
 unfold idxV at e;split at e
 ·split at e
  ·rename_i h0;rw[Option.map_eq_some_iff] at e;obtain⟨ch,hc,rfl⟩:=e;cases hx with
   | str x t a1 a2=>
    cases hy with
    | int i u=>
     have hlt:=(List.getElem?_eq_some_iff.mp hc).1;have a1':x.cps.size<=1048576:=a1;rw[Array.length_toList] at hlt;refine tail_any (typeIs_str s x t) PyProof.Rows.slot_str_getitem.lookup (PyProof.Rows.getItem_str ?_ (StrLaws.at_nonneg h0 (by simpa using hc)) ?_) (sub_int hs)
     ·simp only[Bool.or_eq_false_iff,decide_eq_false_iff_not];omega
     ·exact k.val X (VR.str' rfl (by show 1<=1048576;omega) fun z hz=>by
       simp at hz;subst hz;exact a2 _ (List.mem_of_getElem? hc)) _
  ·cases e
 ·split at e
  ·rename_i h0;cases hx with
   | tup e1 n1 c1 r1=>
    cases hy with
    | int i u=>
     rename_i t1 arr1 k1;have z:=r1.length;have hlt:=(List.getElem?_eq_some_iff.mp e).1;obtain⟨x,hx',rx⟩:=r1.get _ _ e;have c1':arr1.size<=1048576:=c1;rw[Array.length_toList] at z;have hT:IsTup s.heap t1 arr1:=⟨_,e1,rfl,_,rfl⟩
     exact tail_any hT.typeIs PyProof.Rows.slot_tuple_getitem.lookup (PyProof.Rows.getItem_tuple hT (by omega) (by omega) (StrLaws.seqIndex_nonneg h0 (by omega)) (by simpa using hx') (k.here X rx)) (sub_int hs)
  ·cases e
 ·exact list_case _ _ rfl rfl e
 ·rw[Option.bind_eq_some_iff] at e;obtain⟨l,hl,hg⟩:=e;exact list_case l _ hl rfl hg
 ·cases e
def SliceO (vl vu : Value) : Obj := { cls := .type "slice", data := .fields #[vl, vu, .none] }
theorem bound_part {h:Heap}{F:Addr->Prop}{n d m:Nat}{v:Value}{x:V}(q:VR h F σ v x) (e:bound n d x=some m):∃ p:Option (Int × Tok),v=partValue p/\optOf x=p.map (·.1)/\IsPart v (optOf x):=by
 cases q<;>simp only[bound] at e
 ·exact⟨none,rfl,rfl,.none⟩
 ·cases e
 ·rename_i i t;exact⟨some (i,t),rfl,rfl,.int i t⟩
 all_goals cases e
theorem cut_bounds {α : Type}{l r:List α}{lo hi:V}(e:cut l lo hi=some r):(∃ m,bound l.length 0 lo=some m)/\∃ m,bound l.length l.length hi=some m:=by
 unfold cut at e;split at e
 ·rename_i a b h1 h2;exact⟨⟨a,h1⟩,b,h2⟩
 ·cases e
theorem cut_len {α : Type}{l r:List α}{lo hi:V}(e:cut l lo hi=some r):r.length<=l.length:=by
 unfold cut at e;split at e
 ·cases e;simp;omega
 ·cases e
theorem cut_mem {α : Type}{l r:List α}{lo hi:V}(e:cut l lo hi=some r){x : α}(h:x∈r):x∈l:=by
 unfold cut at e;split at e
 ·cases e;exact List.mem_of_mem_take (List.mem_of_mem_drop h)
 ·cases e
theorem clip_le {n:Nat}(v:Option Int):clipN n n v<=n:=by
 cases v with
 | none=>exact Nat.le_refl _
 | some k=>unfold clipN clampI;dsimp only;split<;>omega
theorem cut_full {α : Type}{l r:List α}{lo hi:V}(e:cut l lo hi=some r) :
  r=(l.take (clipN l.length l.length (optOf hi))).drop (clipN l.length 0 (optOf lo))/\r.length=clipN l.length l.length (optOf hi) - clipN l.length 0 (optOf lo):=by
 unfold cut at e;split at e
 ·rename_i a b h1 h2;cases e;have z:=clip_le (n:=l.length) (optOf hi);rw[bound_clip h1,bound_clip h2];refine⟨rfl,?_⟩;simp;omega
 ·cases e
theorem sndSl {value:Expr}{le ue:Option Expr}{pos:Pos}{va vl vu:Value}{a lo hi r:V}(X₀ : c.Ok s.heap σ H) (hx₀ : VR s.heap (Live σ H) σ va a) (hl:VR s.heap (Live σ H) σ vl lo) (hu:VR s.heap (Live σ H) σ vu hi)
  (e:slV a lo hi=some r) (k₀ : Cont c s σ H Q E (.ok r H)) :
  wpAny (model prog w) A (subscriptTail value (.Slice le ue none pos) va (.ref s.heap.objs.size)) Q E { s with heap:=s.heap.push (SliceO vl vu) }:=by
 have g:Grow c.base s.heap (s.heap.push (SliceO vl vu)):=grow_keeps X₀.stays fun _ _ e=>Heap.get?_push_of_some _ e
 have X:=X₀.grow g;have hx:=hx₀.grow g;have k:=k₀.adv (tk:=s.toks) (g.adv σ H);have hS:(s.heap.push (SliceO vl vu)).IsSliceOf s.heap.objs.size vl vu .none:=Heap.IsSliceOf.new ..
 revert k
 generalize hs1:({ s with heap:=s.heap.push (SliceO vl vu) }:Shared)=s₁;have hh:s.heap.push (SliceO vl vu)=s₁.heap:=by rw[<- hs1]
 rw[hh] at X hx hS;intro k;unfold slV at e;split at e
 ·rw[Option.map_eq_some_iff] at e;obtain⟨z,hz,rfl⟩:=e;cases hx with
  | str x t a1 a2=>
   obtain⟨⟨m1,b1⟩,m2,b2⟩:=cut_bounds hz;obtain⟨p,rfl,o1,_⟩:=bound_part hl b1;obtain⟨q,rfl,o2,_⟩:=bound_part hu b2;refine tail_any (typeIs_str s₁ x t) PyProof.Rows.slot_str_getitem.lookup (wpAny_getItem_str_slice (l:=p) (u:=q) (st:=none) hS rfl ?_) rfl;have key:(slicePicked x p q none).filterMap (x.cps[·]?)=z:=by
    unfold slicePicked;rw[<- o1,<- o2];exact strCut x lo hi hz
   have idx:slicePicked x p q none=strSliceIndices (optOf lo) (optOf hi) 1 x.length:=by unfold slicePicked;rw[o1,o2];rfl
   obtain⟨f1,f2⟩:=cut_full hz;unfold sliceMade;split
   ·rename_i hc;simp only[Option.map_none,Option.getD_none,beq_self_eq_true,Bool.true_and,beq_iff_eq] at hc;have:z=x.cps.toList:=by
     rw[idx,strIdx_eq,List.length_map,List.length_range] at hc;have hle:=clip_le (n:=x.cps.toList.length) (optOf hi);have hx:x.length=x.cps.toList.length:=by simp[PySem.Str.length]
     rw[hx] at hc;have e1:clipN x.cps.toList.length x.cps.toList.length (optOf hi)=x.cps.toList.length:=by omega
     have e2:clipN x.cps.toList.length 0 (optOf lo)=0\/x.cps.toList.length=0:=by omega
     rw[f1,e1,List.take_length];rcases e2 with e2 | e2
     ·rw[e2];rfl
     ·rw[List.eq_nil_of_length_eq_zero e2];simp
    subst this;exact k.here X (.str x t a1 a2)
   ·refine⟨?_,k.val X (VR.str' (by rw[key]) ?_ ?_) _⟩
    ·have:=cut_len hz;rw[Array.length_toList] at this;show (List.toArray _).size<=sizeLine;rw[key,List.size_toArray];exact Nat.le_trans this (Nat.le_trans a1 sizeLine_cap)
    ·have:=cut_len hz;rw[Array.length_toList] at this;exact Nat.le_trans this a1
    ·exact fun c hc=>a2 c (cut_mem hz hc)
 ·split at e
  ·rename_i l lo hi i;split at e
   ·rename_i h1;cases e;cases hx with
    | tup e1 n1 c1 r1=>
     rename_i t1 arr1 k1;cases hl with
     | int i t=>
      cases hu;have z:=r1.length;rw[Array.length_toList] at z;have hT:IsTup s₁.heap t1 arr1:=⟨_,e1,rfl,_,rfl⟩
      obtain⟨n,rfl⟩ : ∃ n:Nat,i=(n:Int):=⟨i.toNat,by omega⟩
      refine tail_any hT.typeIs PyProof.Rows.slot_tuple_getitem.lookup (getItem_tuple_from (a:=n) hT hS (by omega) (by rw[z];simpa using h1.2) ?_ (Nat.le_trans c1 sizeLine_cap)) rfl;refine k.push X (.tup (n:=0) (Heap.get?_push_size _ rfl) (not_live_new X) ?_ ?_)
      ·have c1':arr1.size<=1048576:=c1;show _<=1048576;simp;omega
      ·exact (r1.drop n).grow (base:=c.base) (grow_keeps X.stays fun _ _ e=>Heap.get?_push_of_some _ e)
   ·cases e
  ·cases e
 ·rw[Option.map_eq_some_iff] at e;obtain⟨z,hz,rfl⟩:=e;cases hx with
  | lst e1 n1 c1 r1=>
   rename_i t1 arr1 k1;have hI:s₁.heap.IsList t1 arr1:=⟨_,e1,rfl,_,rfl⟩
   obtain⟨⟨m1,b1⟩,m2,b2⟩:=cut_bounds hz;obtain⟨_,_,_,p1⟩:=bound_part hl b1;obtain⟨_,_,_,p2⟩:=bound_part hu b2;obtain⟨vs,hv,x,y,e2,e3⟩:=cutL_len r1.length hz;refine tail_any hI.typeIs list_getitem_lookup (wpAny_getItem_list_slice hI hS p1 p2 .none (by simp) ?_ (Nat.le_trans c1 sizeLine_cap)) rfl;refine k.push X (.lst (n:=0) (Heap.get?_push_size _ rfl) (not_live_new X) ?_ ?_)
   ·exact Nat.le_trans (slicePick_size_le ..) c1
   ·rw[cut_pick arr1 lo hi hv,e2,e3];exact ((r1.take y).drop x).grow (base:=c.base) (grow_keeps X.stays fun _ _ e=>Heap.get?_push_of_some _ e)
 ·cases e
end
end Mine
end
section
open PySem PySem.W PyProof.Rows PySem.Calls PySem.Builtin.Str
namespace Mine
theorem live_set {σ : List Addr}{H:Hp}{i:Nat}{l l':List V}(hi:H[i]?=some (some l)) (a:Addr):Live σ (H.set i (some l')) a↔Live σ H a:=by
 constructor
 ·rintro ⟨j,k,h1,h2⟩
  by_cases hj:j=i
  ·subst hj;exact⟨j,l,h1,hi⟩
  ·rw[List.getElem?_set_ne (fun q=>hj q.symm)] at h2;exact⟨j,k,h1,h2⟩
 ·rintro ⟨j,k,h1,h2⟩
  by_cases hj:j=i
  ·subst hj;refine⟨j,l',h1,?_⟩;rw[List.getElem?_set_self (List.getElem?_eq_some_iff.mp hi).1]
  ·exact⟨j,k,h1,by rw[List.getElem?_set_ne (fun q=>hj q.symm)];exact h2⟩
theorem live_seal {σ : List Addr}{H:Hp}{i:Nat}{a:Addr}(z:Live σ (H.set i none) a):Live σ H a/\σ[i]?≠some a\/(Live σ H a/\∃ j,j≠i/\σ[j]?=some a):=by
 obtain⟨j,k,h1,h2⟩:=z;by_cases hj:j=i
 ·subst hj;by_cases hl:j < H.length
  ·rw[List.getElem?_set_self hl] at h2;cases h2
  ·rw[List.getElem?_eq_none (by simp;omega)] at h2;cases h2
 ·rw[List.getElem?_set_ne (fun q=>hj q.symm)] at h2;exact .inr ⟨⟨j,k,h1,h2⟩,j,hj,h1⟩
theorem nodup_get {σ : List Addr}(hn : σ.Nodup){i j:Nat}{a:Addr}(h1 : σ[i]?=some a) (h2 : σ[j]?=some a):i=j:=by
 obtain⟨hi,e1⟩:=List.getElem?_eq_some_iff.mp h1;obtain⟨hj,e2⟩:=List.getElem?_eq_some_iff.mp h2;exact (List.getElem_inj hn).mp (e1.trans e2.symm)
section
variable {c:Cx} {σ : List Addr}{H:Hp}
theorem turn_list {h h':Heap}(X:c.Ok h σ H){i:Nat}{l l':List V}{a:Addr}{arr':Array Value}{n':Nat}(hi:H[i]?=some (some l)) (ha : σ[i]?=some a)
  (hs:Heap.SameBut a h h') (he:h'.get? a=some (LstO arr' n')) (hz:arr'.size<=capL) (r:VRs h (Live σ H) (takeO (c.lim i) σ) arr'.toList l') :
  c.Ok h' σ (H.set i (some l'))/\Adv No h σ H h' σ (H.set i (some l')):=by
 have hlive:Live σ H a:=⟨i,l,ha,hi⟩
 have hF:∀ b,Live σ (H.set i (some l')) b↔Live σ H b:=live_set hi;have keep:∀ b o,b≠a->h.get? b=some o->h'.get? b=some o:=fun b o hb e=>hs.extBut b o hb e
 have kv:∀ {v x} {τ : List Addr},VRs h (Live σ H) τ v x->VRs h' (Live σ (H.set i (some l'))) τ v x:=fun q=>
  VRs.mono (fun b o hb e _=>keep b o (fun z=>hb (z ▸ hlive)) e) (fun b q _=>(hF b).mp q) (fun _ _ e=>e) q
 have hns:∀ b o,h.get? b=some o->¬ IsSeq o->b≠a:=fun b o e hs z=>by
  obtain⟨arr,n,q⟩:=X.live_seq hlive;rw[z,q] at e;cases e;exact hs ⟨_,_,rfl⟩
 refine⟨{ stays:=fun b o e=>keep b o (fun z=>?_) (X.stays b o e),frames:=?_,frd:=fun env he' L hL=>?_,len:=by rw[List.length_set];exact X.len,nodup:=X.nodup,apart:=X.apart,dom:=fun b hb=>?_,objs:=fun j k e=>?_,loc:=X.loc,blen:=X.blen,hi:=X.hi,hs:=X.hs },
  ⟨fun b o hb e=>.inl (keep b o (fun z=>hb (.inl (z ▸ hlive))) e),fun _ _ e=>e,fun b q _=>(hF b).mp q,fun b o e=>?_⟩⟩
 ·have:=X.apart a (List.mem_of_getElem? ha);rw[z,this] at e;cases e
 ·refine frames_keep (fun b o e hnf=>?_) X.frames;by_cases hb:b=a
  ·subst hb;exact⟨_,he,fun vs q=>by cases q⟩
  ·exact⟨o,keep b o hb e,hnf⟩
 ·obtain⟨m,hm⟩:=X.frd env he' L hL;obtain⟨o,es,ep,ho,hd,q⟩:=hm;exact⟨m,o,es,ep,keep L o (hns L o ho fun ⟨arr,n,z⟩=>by rw[hd] at z;cases z) ho,hd,q⟩
 ·by_cases hb':b=a
  ·subst hb';exact⟨_,_,he⟩
  ·obtain⟨arr,n,e⟩:=X.dom b hb;exact⟨arr,n,keep b _ hb' e⟩
 ·by_cases hj:j=i
  ·subst hj;rw[List.getElem?_set_self (List.getElem?_eq_some_iff.mp hi).1] at e;cases e;exact⟨a,arr',n',ha,he,hz,kv r⟩
  ·rw[List.getElem?_set_ne (fun q=>hj q.symm)] at e;obtain⟨b,arr,n,h1,h2,h3,h4⟩:=X.objs j k e;refine⟨b,arr,n,h1,keep b _ (fun z=>hj ?_) h2,h3,kv h4⟩;exact nodup_get X.nodup (z ▸ h1) ha
 ·by_cases hb:b=a
  ·subst hb;exact⟨_,he⟩
  ·exact⟨o,keep b o hb e⟩
theorem seal_list {h:Heap}(X:c.Ok h σ H){i:Nat}{l:List V}{a:Addr}(hi:H[i]?=some (some l)) (ha : σ[i]?=some a) :
  c.Ok h σ (H.set i none)/\Adv No h σ H h σ (H.set i none)/\(V.pures l=true->VR h (Live σ (H.set i none)) σ (.ref a) (.lst l)):=by
 have hF:∀ b,Live σ (H.set i none) b->Live σ H b:=fun b z=>(live_seal z).elim (·.1) (·.1)
 have kv:∀ {v x} {τ : List Addr},VRs h (Live σ H) τ v x->VRs h (Live σ (H.set i none)) τ v x:=fun q=>
  VRs.mono (fun b o _ e _=>e) (fun b q _=>hF b q) (fun _ _ e=>e) q
 refine⟨{ X with len:=by rw[List.length_set];exact X.len,objs:=fun j k e=>?_ },⟨fun b o _ e=>.inl e,fun _ _ e=>e,fun b q _=>hF b q,fun b o e=>⟨o,e⟩⟩,fun p=>?_⟩
 ·by_cases hj:j=i
  ·subst hj;rw[List.getElem?_set_self (List.getElem?_eq_some_iff.mp hi).1] at e;cases e
  ·rw[List.getElem?_set_ne (fun q=>hj q.symm)] at e;obtain⟨b,arr,n,h1,h2,h3,h4⟩:=X.objs j k e;exact⟨b,arr,n,h1,h2,h3,kv h4⟩
 ·obtain⟨b,arr,n,h1,h2,h3,h4⟩:=X.objs i l hi;rw[ha] at h1;cases h1;refine .lst h2 (fun z=>?_) h3 ((kv h4).pure p);rcases live_seal z with ⟨_,q⟩ | ⟨_,j,hj,q⟩
  ·exact q ha
  ·exact hj (nodup_get X.nodup q ha)
theorem open_list {h:Heap}(X:c.Ok h σ H){vs:List Value}{l:List V}(q:VRs h (Live σ H) σ vs l) (hz:l.length<=capL) :
  c.Ok (h.push (LstO vs.toArray 0)) (σ++[h.objs.size]) (H++[some l])/\Adv No h σ H (h.push (LstO vs.toArray 0)) (σ++[h.objs.size]) (H++[some l]):=by
 have hnew:h.get? h.objs.size=none:=by
  cases e:h.get? h.objs.size with
  | none=>rfl
  | some o=>exact absurd (Heap.lt_size e) (Nat.lt_irrefl _)
 have keep:∀ b o,h.get? b=some o->(h.push (LstO vs.toArray 0)).get? b=some o:=fun _ _ e=>Heap.get?_push_of_some _ e
 have here:(h.push (LstO vs.toArray 0)).get? h.objs.size=some (LstO vs.toArray 0):=Heap.get?_push_size _ rfl;have hsz:∀ a∈σ,a≠h.objs.size:=fun a ha z=>by
  obtain⟨arr,n,e⟩:=X.dom a ha;rw[z,hnew] at e;cases e
 have hF:∀ b,Live (σ++[h.objs.size]) (H++[some l]) b->b=h.objs.size\/Live σ H b:=by
  rintro b ⟨j,k,h1,h2⟩
  by_cases hj:j < σ.length
  ·rw[List.getElem?_append_left hj] at h1;rw[List.getElem?_append_left (by rw[X.len];exact hj)] at h2;exact .inr ⟨j,k,h1,h2⟩
  ·rw[List.getElem?_append_right (by omega)] at h1;have:=List.mem_of_getElem? h1;exact .inl (by simpa using this)
 have hpre:∀ (i:Nat) (a:Addr),σ[i]?=some a->(σ++[h.objs.size])[i]?=some a:=fun i a e=>by
  rw[List.getElem?_append_left (List.getElem?_eq_some_iff.mp e).1];exact e
 have kv:∀ {v x} {τ τ':List Addr},(∀ (i:Nat) (a:Addr),τ[i]?=some a->τ'[i]?=some a)->VRs h (Live σ H) τ v x->VRs (h.push (LstO vs.toArray 0)) (Live (σ++[h.objs.size]) (H++[some l])) τ' v x:=fun hp q=>
  VRs.mono (fun b o _ e _=>keep b o e) (fun b q ho=>(hF b q).elim (fun z=>by obtain⟨o,e⟩:=ho;rw[z,hnew] at e;cases e) id) hp q
 have hz':vs.length<=capL:=by rw[q.length];exact hz
 refine⟨{ stays:=fun b o e=>keep b o (X.stays b o e),frames:=frames_keep (fun b o e hnf=>⟨o,keep b o e,hnf⟩) X.frames,frd:=fun env he L hL=>(X.frd env he L hL).imp fun m hm=>hm.keeps keep,len:=by rw[List.length_append,List.length_append,X.len];rfl,nodup:=?_,apart:=fun a ha=>?_,dom:=fun a ha=>?_,objs:=fun j k e=>?_,loc:=X.loc,blen:=by rw[List.length_append];exact Nat.le_trans X.blen (Nat.le_add_right _ _),hi:=X.hi,hs:=X.hs },
  ⟨fun b o _ e=>.inl (keep b o e),hpre,fun b z ho=>(hF b z).elim (fun z=>by obtain⟨o,e⟩:=ho;rw[z,hnew] at e;cases e) id,fun b o e=>⟨o,keep b o e⟩⟩⟩
 ·rw[List.nodup_append];refine⟨X.nodup,by simp,fun a ha b hb=>?_⟩;rw[List.mem_singleton.mp hb];exact hsz a ha
 ·rcases List.mem_append.mp ha with ha | ha
  ·exact X.apart a ha
  ·rw[List.mem_singleton.mp ha];cases e:c.base.get? h.objs.size with
   | none=>rfl
   | some o=>have:=X.stays _ o e;rw[hnew] at this;cases this
 ·rcases List.mem_append.mp ha with ha | ha
  ·obtain⟨arr,n,e⟩:=X.dom a ha;exact⟨arr,n,keep a _ e⟩
  ·rw[List.mem_singleton.mp ha];exact⟨_,_,here⟩
 ·by_cases hj:j < H.length
  ·rw[List.getElem?_append_left hj] at e;obtain⟨a,arr,n,h1,h2,h3,h4⟩:=X.objs j k e;refine⟨a,arr,n,hpre j a h1,keep a _ h2,h3,kv (fun i a e=>?_) h4⟩;unfold takeO at e ⊢;split at e
   ·exact hpre i a e
   ·rw[List.getElem?_take] at e ⊢;split at e
    ·rename_i hlt;rw[if_pos hlt];exact hpre i a e
    ·cases e
  ·rw[List.getElem?_append_right (by omega)] at e;have hj':j - H.length=0:=by
    have:=(List.getElem?_eq_some_iff.mp e).1;simp at this;omega
   rw[hj'] at e;simp only[List.getElem?_cons_zero,Option.some.injEq] at e;have hj2:j=H.length:=by omega
   subst hj2;subst e;refine⟨h.objs.size,vs.toArray,0,?_,here,by simpa using hz',?_⟩
   ·rw[X.len,List.getElem?_append_right (Nat.le_refl _)];simp
   ·have hl:c.lim H.length=none:=X.loc _ (by rw[X.len];exact X.blen);rw[hl];exact kv hpre q
end
end Mine
end
section
open PySem PySem.W PyProof.Rows PySem.Calls PySem.Builtin.Str
namespace Mine
def sOf (t:Txt):Str:=⟨t.toArray⟩
theorem tx_sOf (t:Txt):tx (sOf t)=t:=by simp[tx,sOf]
theorem sOf_tx (x:Str):sOf (tx x)=x:=tx_inj (tx_sOf _)
structure EnvOk (env:Env):Prop where
 kind:env.scope.kind=.function
 glob:env.globals=mainGlobals
 blt:env.builtins=builtinsNs
 cells:∀ x,env.kindOf x=some .cell\/env.kindOf x=some .free->∃ a,env.cells.lookup x=some a
structure Gd (base:Heap) where
 mg:Str->Option Value
 mb:Str->Option Value
 g:base.Ns mainGlobals mg
 b:base.Ns builtinsNs mb
 nolimit:base.NoLimit
 hlen : mg (sOf [108, 101, 110]) = none /\ mb (sOf [108, 101, 110]) = some (.builtin "len")
 hstr : mg (sOf [115, 116, 114]) = none /\ mb (sOf [115, 116, 114]) = some (.type "str")
 hint : mg (sOf [105, 110, 116]) = none /\ mb (sOf [105, 110, 116]) = some (.type "int")
 hrange : mg (sOf [114, 97, 110, 103, 101]) = none /\ mb (sOf [114, 97, 110, 103, 101]) = some (.type "range")
 hzip : mg (sOf [122, 105, 112]) = none /\ mb (sOf [122, 105, 112]) = some (.type "zip")
 hints:∀ x i,gints.contains (x,i)=true->∃ t,mg (sOf x)=some (.int i t)
 hstrs:∀ x s,gstrs.contains (x,s)=true->∃ t,mg (sOf x)=some (.str (sOf s) t)
theorem glob_id {kd : Str -> Option NameKind} {id : Str} {t : Txt} (h : isGlob kd id t = true) : id = sOf t /\ kd id = some .globalImplicit /\ (id == ("__debug__" : Str)) = false := by
 simp only[isGlob,Bool.and_eq_true,beq_iff_eq,bne_iff_ne,ne_eq] at h;refine⟨?_,h.1.2,by simpa using h.2⟩;rw[<- h.1.1,sOf_tx]
section
variable {prog:Program}{w:World}{A:Around}{E:Value->Shared->Prop}{s:Shared}{c:Cx} {σ : List Addr}{H:Hp}{Q:Value->Shared->Prop}{env:Env}
theorem name_mg (G:Gd c.base) (eo:EnvOk env){id:Str}{t:Txt}{pos:Pos}{v:Value}(h:isGlob env.kindOf id t=true) (X:c.Ok s.heap σ H) (hv:G.mg (sOf t)=some v) (k:Q v s) :
  wpAny (model prog w) A (eval (.Name id pos) env) Q E s:=by
 obtain⟨rfl,hk,hd⟩:=glob_id h;refine Name_function_global eo.kind hk (loadGlobal_global (mg:=G.mg) ?_ hv k) hd;rw[eo.glob];exact G.g.keeps X.stays
theorem name_mb (G:Gd c.base) (eo:EnvOk env){id:Str}{t:Txt}{pos:Pos}{v:Value}(h:isGlob env.kindOf id t=true) (X:c.Ok s.heap σ H) (hm:G.mg (sOf t)=none) (hv:G.mb (sOf t)=some v) (k:Q v s) :
  wpAny (model prog w) A (eval (.Name id pos) env) Q E s:=by
 obtain⟨rfl,hk,hd⟩:=glob_id h;refine Name_function_global eo.kind hk (loadGlobal_builtin (mg:=G.mg) (mb:=G.mb) ?_ hm ?_ hv k) hd
 ·rw[eo.glob];exact G.g.keeps X.stays
 ·rw[eo.blt];exact G.b.keeps X.stays
theorem notStar_each {e:Expr}{rest:List Expr}(h:notStar e=true):starEach (e::rest) env=(false,eval e env)::starEach rest env:=by
 cases e<;>first | rfl | cases h
theorem attrBase {o:Expr}{name:Str}{whole:Sem Value}{ap pos:Pos}(h:methOk o ap pos=true):attributeBase o name env whole=whole:=by
 cases o<;>first | rfl | (simp[methOk] at h)
theorem MethodC {o:Expr}{name:Str}{ap pos:Pos}{args:List Expr}(hm:methOk o ap pos=true) (hf:methodCallForm args.length (backTo pos (starEach args env)) []=true)
  (h:∀ pl,wpAny (model prog w) A (eval o env) (fun ov s₁=>wpAny (model prog w) A (getMethod ov name pl) (fun fx s₂=>wpAny (model prog w) A (callWith pos fx.1 fx.2 (backTo pos (starEach args env)) []) Q E s₂) E s₁) E s) :
  wpAny (model prog w) A (eval (.Call (.Attribute o name ap) args [] pos) env) Q E s:=by
 show wpAny _ _ (do
  let ov <- attributeBase o name env (eval o env)
  standAt ap.atName
  methodCall o name ap pos env ov (args.length + 0) (backTo pos (starEach args env)) []) Q E s
 rw[attrBase hm];refine wpAny_bind (wpAny_mono (h (do return (<- importBound o env).getD true)) (fun ov s₁ h₁=>wpAny_bind (wpAny_standAt ?_)) fun _ _ x=>x);unfold methodCall;rw[show args.length + 0=args.length from rfl,hf];refine wpAny_bind (wpAny_holding (wpAny_mono (?_:wpAny _ _ (calleeOf true o env ov name) (fun fx s₂=>wpAny (model prog w) A (callWith pos fx.1 fx.2 (backTo pos (starEach args env)) []) Q E s₂) E s₁) (fun fx s₂ h₂=>?_) fun _ _ x=>x))
 ·exact h₁
 ·have hp:methodCallPos true o env ap pos=pure pos:=by
   have:(ap.endLine==pos.line)=true:=by
    simp only[methOk,Bool.and_eq_true] at hm;exact hm.2
   unfold methodCallPos;rw[this];rfl
  obtain⟨f,first⟩:=fx;show wpAny _ _ (do let callPos <- methodCallPos true o env ap pos;callWith callPos f first (backTo pos (starEach args env)) []) Q E s₂;rw[hp];exact wpAny_bind (wpAny_pure h₂)
theorem form0 {pos:Pos}:methodCallForm ([]:List Expr).length (backTo pos (starEach [] env)) []=true:=rfl
theorem form1 {pos:Pos}{a:Expr}(h:notStar a=true):methodCallForm [a].length (backTo pos (starEach [a] env)) []=true:=by rw[notStar_each h];rfl
end
end Mine
end
section
open PySem PySem.W PyProof.Rows PySem.Calls PySem.Builtin.Str
namespace Mine
theorem sOf_cps (t:Txt):(sOf t).cps.toList=t:=by simp[sOf]
theorem str_eq_of {x y:Str}(h:x.cps.toList=y.cps.toList):x=y:=tx_inj h
theorem joinT_eq (j:Str):∀ ws:List Str,(Str.join j ws).cps.toList=joinT j.cps.toList (ws.map fun w=>w.cps.toList)
 | []=>rfl
 | [x]=>rfl
 | x::y::r=>by
  show (x++j++Str.join j (y::r)).cps.toList=_;have h:=joinT_eq j (y::r);simp only[Str.cps_append,Array.toList_append,h,List.map_cons,joinT]
theorem split1_ne (c:Nat):∀ t,split1 c t≠[]
 | []=>by simp[split1]
 | a::t=>by
  simp only[split1];split
  ·simp
  ·split<;>simp
theorem split1_free (c:Nat):∀ w:Txt,c ∉ w->split1 c w=[w]
 | [],_=>rfl
 | a::t,h=>by
  have h1:a≠c:=fun q=>h (q ▸ List.mem_cons_self)
  have h2:=split1_free c t fun q=>h (List.mem_cons_of_mem _ q)
  simp only[split1,if_neg h1,h2]
theorem split1_cat (c:Nat) (y:Txt):∀ w:Txt,c ∉ w->split1 c (w++c::y)=w::split1 c y
 | [],_=>by simp[split1]
 | a::t,h=>by
  have h1:a≠c:=fun q=>h (q ▸ List.mem_cons_self)
  have h2:=split1_cat c y t fun q=>h (List.mem_cons_of_mem _ q)
  simp only[List.cons_append,split1,if_neg h1,h2]
theorem split1_join (c:Nat):∀ ws:List Txt,ws≠[]->(∀ w∈ws,c ∉ w)->split1 c (joinT [c] ws)=ws
 | [],h,_=>absurd rfl h
 | [w],_,h=>split1_free c w (h w List.mem_cons_self)
 | w::v::r,_,h=>by
  have ih:=split1_join c (v::r) (by simp) fun z hz=>h z (List.mem_cons_of_mem _ hz)
  show split1 c (w++[c]++joinT [c] (v::r))=_;rw[List.append_assoc,List.singleton_append,split1_cat c _ w (h w List.mem_cons_self),ih]
theorem split_ne (x y:Str):Txt.split x y≠[]:=by
 unfold Txt.split;split
 ·simp
 ·split
  ·simp
  ·rw[StrLaws.partsBetween_eq];cases occurrences x y 0 x.length (x.length + 1)<;>simp[StrLaws.partsFrom]
theorem split_eq (x:Str) (c:Nat):(Txt.split x ⟨#[c]⟩).map (fun w=>w.cps.toList)=split1 c x.cps.toList:=by
 have h1:=StrLaws.join_split x ⟨#[c]⟩;have h2:=StrLaws.split_free x c;have h3:=joinT_eq ⟨#[c]⟩ (Txt.split x ⟨#[c]⟩);rw[h1] at h3;rw[h3];refine (split1_join c _ (by simpa using split_ne x _) ?_).symm;intro w hw;obtain⟨p,hp,rfl⟩:=List.mem_map.mp hw;exact h2 p hp
theorem at_one (x:Str) (c i:Nat):StrLaws.At x ⟨#[c]⟩ x.length i↔x.cps.toList[i]?=some c:=StrLaws.subAt_one x c i
theorem findT_none (c:Nat):∀ (t:Txt) (k:Nat),(∀ i:Nat,t[i]?≠some c)->findT c t k=-1
 | [],_,_=>rfl
 | a::t,k,h=>by
  have h1:a≠c:=fun q=>h 0 (by simp[q])
  simp only[findT,if_neg h1];exact findT_none c t (k + 1) fun i q=>h (i + 1) (by simpa using q)
theorem findT_some (c:Nat):∀ (t:Txt) (k i:Nat),t[i]?=some c->(∀ j,j < i->t[j]?≠some c)->findT c t k=((k + i:Nat):Int)
 | [],_,i,h,_=>by simp at h
 | a::t,k,0,h,_=>by simp at h;simp[findT,h]
 | a::t,k,i + 1,h,hn=>by
  have h1:a≠c:=fun q=>hn 0 (Nat.succ_pos _) (by simp[q])
  simp only[findT,if_neg h1];have:=findT_some c t (k + 1) i (by simpa using h) fun j hj q=>hn (j + 1) (by omega) (by simpa using q)
  rw[this];congr 1;omega
theorem find_eq (x:Str) (c:Nat):Txt.find x ⟨#[c]⟩=findT c x.cps.toList 0:=by
 rcases find_whole x ⟨#[c]⟩ with ⟨h,hn⟩ | ⟨i,h,hi,hn⟩
 ·rw[h,findT_none];exact fun i q=>hn i ((at_one x c i).mpr q)
 ·rw[h,findT_some c _ 0 i ((at_one x c i).mp hi) fun j hj q=>hn j hj ((at_one x c j).mpr q),Nat.zero_add]
theorem find_le (c:Nat):∀ (t:Txt) (k:Nat),findT c t k<=(k + t.length:Nat)
 | [],k=>by simp[findT]
 | a::t,k=>by
  simp only[findT];split
  ·simp only[List.length_cons];omega
  ·have:=find_le c t (k + 1);simp only[List.length_cons];omega
theorem joinT_mem {j:Txt}{P:Nat->Prop}(hj:∀ c∈j,P c):∀ ws:List Txt,(∀ w∈ws,∀ c∈w,P c)->∀ c∈joinT j ws,P c
 | [],_,c,h=>by simp[joinT] at h
 | [w],hw,c,h=>hw w List.mem_cons_self c h
 | w::v::r,hw,c,h=>by
  simp only[joinT,List.mem_append] at h;rcases h with (h | h) | h
  ·exact hw w List.mem_cons_self c h
  ·exact hj c h
  ·exact joinT_mem hj (v::r) (fun z hz=>hw z (List.mem_cons_of_mem _ hz)) c h
theorem split1_mem (a:Nat):∀ (t:Txt),∀ w∈split1 a t,(∀ c∈w,c∈t)/\w.length<=t.length
 | [],w,h=>by simp[split1] at h;subst h;simp
 | b::t,w,h=>by
  have ih:=split1_mem a t;simp only[split1] at h;split at h
  ·rcases List.mem_cons.mp h with rfl | h
   ·simp
   ·exact⟨fun c hc=>List.mem_cons_of_mem _ ((ih w h).1 c hc),by have:=(ih w h).2;simp only[List.length_cons];omega⟩
  ·split at h
   ·simp at h;subst h;simp
   ·rename_i v vs e;rw[e] at ih;rcases List.mem_cons.mp h with rfl | h
    ·have:=ih v List.mem_cons_self;refine⟨fun c hc=>?_,by simp only[List.length_cons];omega⟩;rcases List.mem_cons.mp hc with rfl | hc
     ·exact List.mem_cons_self
     ·exact List.mem_cons_of_mem _ (this.1 c hc)
    ·have:=ih w (List.mem_cons_of_mem _ h);exact⟨fun c hc=>List.mem_cons_of_mem _ (this.1 c hc),by simp only[List.length_cons];omega⟩
theorem split1_count (a:Nat):∀ (t:Txt),(split1 a t).length<=t.length + 1
 | []=>by simp[split1]
 | b::t=>by
  have ih:=split1_count a t;simp only[split1];split
  ·simp only[List.length_cons];omega
  ·split
   ·simp
   ·rename_i v vs e;rw[e] at ih;simp only[List.length_cons] at ih ⊢;omega
section
variable {prog:Program}{w:World}{A:Around}{E:Value->Shared->Prop}{s:Shared}{c:Cx} {σ : List Addr}{H:Hp}{Q:Value->Shared->Prop}{env:Env}
theorem strs_of {h:Heap}{F:Addr->Prop} {σ : List Addr}:∀ {vs:List Value}{l:List V}{ws:List Txt},VRs h F σ vs l->textsOf l=some ws->∃ l':List (Str × Tok),vs=strValues l'/\l'.map (fun p=>p.1.cps.toList)=ws/\∀ w∈ws,∀ c∈w,c < 1114112
 | _,_,ws,.nil,e=>by simp[textsOf] at e;subst e;exact⟨[],rfl,rfl,by simp⟩
 | _,_,ws,.cons a b,e=>by
  cases a with
  | str x t h1 h2=>
   simp only[textsOf,Option.map_eq_some_iff] at e;obtain⟨ws',e',rfl⟩:=e;obtain⟨l',q1,q2,q3⟩:=strs_of b e';refine⟨(x,t)::l',by rw[q1];rfl,by simp[q2],?_⟩;intro w hw;rcases List.mem_cons.mp hw with rfl | hw
   ·exact h2
   ·exact q3 w hw
  | _=>simp[textsOf] at e
theorem strs_vr {h:Heap}{F:Addr->Prop} {σ : List Addr}:∀ (l':List (Str × Tok)),(∀ p∈l',p.1.cps.toList.length<=capL/\∀ c∈p.1.cps.toList,c < 1114112)->VRs h F σ (strValues l') ((l'.map fun p=>p.1.cps.toList).map V.str)
 | [],_=>.nil
 | p::r,q=>.cons (VR.str' rfl (q p List.mem_cons_self).1 (q p List.mem_cons_self).2) (strs_vr r fun z hz=>q z (List.mem_cons_of_mem _ hz))
theorem sndFind {x y:Value}{sx:Txt}{a:Nat}(X:c.Ok s.heap σ H) (hx:VR s.heap (Live σ H) σ x (.str sx)) (hy:VR s.heap (Live σ H) σ y (.str [a])) (k:Cont c s σ H Q E (.ok (.int (findT a sx 0)) H)) :
  wpAny (model prog w) A (call (.builtin "str.find") [x, y]) Q E s := by
 generalize e1:V.str sx=v1 at hx;generalize e2:V.str [a]=v2 at hy;cases hx<;>cases e1;cases hy with
 | str y u h1 h2=>
  injection e2 with e2
  have:y=⟨#[a]⟩:=str_eq_of (by simpa using e2.symm);subst this;refine SC.find ?_;rw[find_eq];exact k.val X (.int _ _) _
 | _=>cases e2
theorem sndJoin {x y:Value}{j:Txt}{v:V}{l:List V}{ws:List Txt}(X:c.Ok s.heap σ H) (hx:VR s.heap (Live σ H) σ x (.str j)) (hy:VR s.heap (Live σ H) σ y v) (hl:lstOf H v=some l) (e:textsOf l=some ws)
  (h1:j.length<=1000) (h2:ws.length<=1000) (h3:∀ w∈ws,w.length<=10000) (h4:(joinT j ws).length<=capL) (k:Cont c s σ H Q E (.ok (.str (joinT j ws)) H)) :
  wpAny (model prog w) A (call (.builtin "str.join") [x, y]) Q E s := by
 obtain⟨D,arr,n,rfl,hD,hz,hv⟩:=lst_read X hy hl;obtain⟨l',q1,q2,q3⟩:=strs_of hv e;generalize e1:V.str j=v1 at hx;cases hx<;>cases e1;rename_i x t hx1 hx2;refine SC.join (l:=l') (texts:=l'.map (·.1)) ⟨_,hD,rfl,n,by rw[<- q1];simp[LstO]⟩ rfl ?_ fun t' kk=>?_
 ·unfold JoinOk;rw[Bool.not_eq_true'];refine StrLaws.joinFits (B:=10000) (fun y hy=>?_) ?_
  ·obtain⟨p,hp,rfl⟩:=List.mem_map.mp hy;have:=h3 p.1.cps.toList (by rw[<- q2];exact List.mem_map_of_mem hp);simpa [Str.length] using this
  ·have e1:(l'.map (·.1)).length<=1000:=by rw[<- q2] at h2;simpa using h2
   have e2:x.length<=1000:=by simpa [Str.length] using h1
   have e3:=Nat.mul_le_mul e1 e2;omega
 ·have e5:(Txt.join x (l'.map (·.1))).cps.toList=joinT x.cps.toList ws:=by
   unfold Txt.join;rw[StrLaws.glued_eq_join,joinT_eq,List.map_map,<- q2];rfl
  exact k.val X (VR.str' e5 h4 (joinT_mem hx2 ws q3)) kk
theorem sndReplace {x:Value}{sx:Txt}{a:Nat}{z:Txt}{y z':Str}{u v:Tok}(X:c.Ok s.heap σ H) (hx:VR s.heap (Live σ H) σ x (.str sx)) (hy:tx y=[a]) (hz:tx z'=z) (hu:u≠0) (hv:v≠0) (huv:u≠v)
  (h1:sx.length<=100000) (h2:z.length<=10) (h3:z≠[a]) (h4:(joinT z (split1 a sx)).length<=capL) (hc:∀ b∈z,b < 1114112) (k:Cont c s σ H Q E (.ok (.str (joinT z (split1 a sx))) H)) :
  wpAny (model prog w) A (call (.builtin "str.replace") [x, .str y u, .str z' v]) Q E s := by
 generalize e1:V.str sx=v1 at hx;cases hx<;>cases e1;rename_i x t hx1 hx2;have ey:y=⟨#[a]⟩:=str_eq_of (by simpa [tx] using hy);subst ey;subst hz;have hl:z'.length=(tx z').length:=by simp[tx,Str.length]
 refine SC.replaceW hu hv huv ?_ ?_ ?_ fun t' kk=>?_
 ·rw[beq_eq_false_iff_ne];rintro rfl;exact h3 (by simp[tx])
 ·have:x.length=x.cps.toList.length:=by simp[Str.length]
  omega
 ·omega
 ·have e5:(Txt.replace x ⟨#[a]⟩ z').cps.toList=joinT (tx z') (split1 a x.cps.toList):=by
   rw[StrLaws.replace_one,joinT_eq,split_eq];rfl
  refine k.val X (VR.str' e5 h4 (joinT_mem hc _ fun w hw d hd=>hx2 d ((split1_mem a _ w hw).1 d hd))) kk
theorem sndSplit {x y:Value}{sx:Txt}{a:Nat}(hne:c.envs≠[]) (X:c.Ok s.heap σ H) (hx:VR s.heap (Live σ H) σ x (.str sx)) (hy:VR s.heap (Live σ H) σ y (.str [a])) (h1:sx.length<=100000)
  (k:Cont c s σ H Q E (.ok (.lst ((split1 a sx).map V.str)) H)) :
  wpAny (model prog w) A (call (.builtin "str.split") [x, y]) Q E s := by
 generalize e1:V.str sx=v1 at hx;generalize e2:V.str [a]=v2 at hy;cases hx<;>cases e1;rename_i x t hx1 hx2;cases hy with
 | str y u g1 g2=>
  injection e2 with e2
  have:y=⟨#[a]⟩:=str_eq_of (by simpa using e2.symm);subst this;obtain⟨L,m,hL,hm⟩:=FRx.frame hne X;refine splitN1 (fr0 hm) (news0 s.heap L) rfl (fun l h' kk el F N=>?_) (by
   have e3:x.length=x.cps.toList.length:=by simp[Str.length]
   have e4:sizeLine=16777216:=by decide
   omega)
  have g:Grow c.base s.heap h':=grow_of X.stays hL hm F N (fun p hp=>List.mem_cons_of_mem _ hp);have el':l.map (fun p=>p.1.cps.toList)=split1 a x.cps.toList:=by
   rw[<- split_eq,<- el,List.map_map];rfl
  refine k.grown X g ?_ kk;rw[<- el'];have hcnt:(strValues l).length<=capL:=by
   have e5:=congrArg List.length el';simp only[List.length_map] at e5;have e6:=split1_count a x.cps.toList;have e7:(strValues l).length=l.length:=by simp[strValues]
   have e8:capL=1048576:=rfl;omega
  refine .lst (arr:=(strValues l).toArray) (n:=0) (N _ (.head _)).1 (not_live_new X) (by simpa using hcnt) (strs_vr l fun p hp=>?_);have hm':p.1.cps.toList∈split1 a x.cps.toList:=by rw[<- el'];exact List.mem_map_of_mem (f:=fun p:Str × Tok=>p.1.cps.toList) hp
  have:=split1_mem a _ _ hm';exact⟨by have e8:capL=1048576:=rfl;omega,fun d hd=>hx2 d (this.1 d hd)⟩
 | _=>cases e2
theorem sndLen {x : Value} {v : V} {n : Nat} (X : c.Ok s.heap σ H) (hx : VR s.heap (Live σ H) σ x v) (e : lenV H v = some n) (k : Cont c s σ H Q E (.ok (.int n) H)) : wpAny (model prog w) A (call (.builtin "len") [x]) Q E s := by
 have hc:capL=1048576:=rfl;have lcase : ∀ l, lstOf H v = some l -> l.length = n -> wpAny (model prog w) A (call (.builtin "len") [x]) Q E s := by
  intro l hl hn;obtain⟨D,arr,m,rfl,hD,hz,hv⟩:=lst_read X hx hl;have hlen:=hv.length;have hs:(arr.size:Int)=(n:Int):=by rw[<- hn,<- hlen];simp
  refine PyProof.Rows.len_list (items:=arr) ⟨_,hD,rfl,m,rfl⟩ (by omega) ?_;rw[hs];exact k.val X (.int _ _) _
 cases hx with
 | str x t h1 h2=>
  simp only[lenV,Option.some.injEq] at e;have hs:x.length=n:=by rw[<- e];simp[Str.length]
  have h1':x.length<=capL:=by simpa [Str.length] using h1
  refine PyProof.Rows.len_str (by omega) ?_;rw[hs];exact k.val X (.int _ _) _
 | tup he hF hz hv=>
  rename_i a arr m l;simp only[lenV,Option.some.injEq] at e;have hlen:=hv.length;have hs:(arr.size:Int)=(n:Int):=by rw[<- e,<- hlen];simp
  refine PyProof.Rows.len_tuple (items:=arr) ⟨_,he,rfl,m,rfl⟩ (by omega) ?_;rw[hs];exact k.val X (.int _ _) _
 | lst he hF hz hv=>simp only[lenV,lstOf,Option.map_some,Option.some.injEq] at e;exact lcase _ rfl e
 | ref he=>
  simp only[lenV,Option.map_eq_some_iff] at e;obtain⟨l,e1,e2⟩:=e;exact lcase l e1 e2
 | _=>simp[lenV,lstOf] at e
theorem sndToStr {x : Value} {v : V} {t : Txt} (X : c.Ok s.heap σ H) (hx : VR s.heap (Live σ H) σ x v) (e : toStrV v = some t) (k : Cont c s σ H Q E (.ok (.str t) H)) : wpAny (model prog w) A (call (.type "str") [x]) Q E s := by
 cases hx with
 | int i u=>
  simp only[toStrV] at e;split at e
  ·rename_i hi;cases e;have hl:i.natAbs.log2 < 1920:=by
    by_cases h0:i.natAbs=0
    ·rw[h0];decide
    ·have h40:i.natAbs.log2 < 40:=(Nat.log2_lt h0).mpr (Nat.lt_trans hi (by decide));omega
   refine P.str_of_int hl ?_;have e1:(Str.ofString (toString i)).cps.toList=textOf i:=by rw[signs_ofString];rfl
   have e2:(textOf i).length<=11:=by
    unfold textOf;rw[List.length_map];obtain⟨m,rfl | rfl⟩:=Int.eq_nat_or_neg i
    ·show (Nat.repr m).toList.length<=11;rw[Nat.toList_repr];have:=(Nat.length_toDigits_le_iff (b:=10) (n:=m) (k:=10) (by decide) (by decide)).mpr (by omega);omega
    ·cases m with
     | zero=>decide
     | succ m=>
      show ("-" ++ Nat.repr (m + 1)).toList.length <= 11;rw[String.toList_append,List.length_append,Nat.toList_repr];have:=(Nat.length_toDigits_le_iff (b:=10) (n:=m + 1) (k:=10) (by decide) (by decide)).mpr (by omega);show 1 + _<=11;omega
   have e3:∀ d∈textOf i,d < 1114112:=by
    intro d hd;obtain⟨ch,_,rfl⟩:=List.mem_map.mp hd;have:=ch.valid;unfold Char.toNat;rcases this with h | h
    ·have:=h;omega
    ·exact h.2
   exact k.val X (VR.str' e1 (by have e8:capL=1048576:=rfl;omega) e3) _
  ·cases e
 | _=>simp[toStrV] at e
theorem sndToInt {x : Value} {v : V} {i : Int} (X : c.Ok s.heap σ H) (hx : VR s.heap (Live σ H) σ x v) (e : toIntV v = some i) (k : Cont c s σ H Q E (.ok (.int i) H)) : wpAny (model prog w) A (call (.type "int") [x]) Q E s := by
 cases hx with
 | str x u h1 h2=>
  simp only[toIntV] at e;split at e
  ·rename_i hd;cases e;have hl:x.length<=640:=by simpa [Str.length] using hd.2.1
   refine KIN.call_text (n:=((NumText.digitsVal x.cps.toList:Nat):Int)) (PySem.intText_digits ?_ hd.1 (by omega)) hl (k.val X (.int _ _) _);intro ch hch;have:=List.all_eq_true.mp hd.2.2 ch hch;simpa [isDigit] using this
  ·cases e
 | _=>simp[toIntV] at e
end
end Mine
end
section
open PySem PySem.W PyProof.Rows PySem.Calls PySem.Builtin.Str
namespace Mine
structure AOk (c:Cx) (A:Around) (n:Nat):Prop where
 frames:A.frames=some c.envs
 units:A.units + 3 * n + 70 < cLine
 depth:A.depth + n < recursionLimit
 handled:A.handled=none
def CallSnd (prog:Program) (w:World) (b0:Heap) (C:Value) (fa:Nat->Addr) (call:Nat->List V->Hp->Option (Res V)) (n:Nat):Prop:=
 ∀ (c:Cx) (A:Around) (s:Shared) (σ : List Addr) (H:Hp) (f:Nat) (vs:List V) (vals:List Value) (r:Res V) (Q E:Value->Shared->Prop),
  c.base=b0->c.C=C->c.envs≠[]->AOk c A n->0 < s.toks->c.Ok s.heap σ H->VRs s.heap (Live σ H) σ vals vs->call f vs H=some r->Cont c s σ H Q E r->
  wpAny (model prog w) A (PySem.call (.ref (fa f)) vals) Q E s
structure Rdy (prog:Program) (w:World) (c:Cx) (A:Around) (call:Nat->List V->Hp->Option (Res V)) (n:Nat) where
 G:Gd c.base
 hne:c.envs≠[]
 au:AOk c A n
 fa:Nat->Addr
 hfa:∀ f fn,theFn f=some fn->G.mg (sOf fn.name)=some (.ref (fa f))/\∃ o fd,c.base.get? (fa f)=some o/\o.data=.func fd
 cs:CallSnd prog w c.base c.C fa call n
structure KdOk (kd:Str->Option NameKind) (env:Env):Prop where
 glob:∀ id,kd id=some .globalImplicit->env.kindOf id=some .globalImplicit
 var:∀ id,isVarK (kd id)=true->isVarK (env.kindOf id)=true
 cf:∀ id,kd id=some .cell\/kd id=some .free->env.kindOf id=some .cell\/env.kindOf id=some .free
theorem KdOk.isGlob {kd:Str->Option NameKind}{env:Env}(k:KdOk kd env){id:Str}{t:Txt}(h:isGlob kd id t=true):isGlob env.kindOf id t=true:=by
 simp only[Mine.isGlob,Bool.and_eq_true,beq_iff_eq] at h ⊢;exact⟨⟨h.1.1,k.glob _ h.1.2⟩,h.2⟩
def ExcK (c:Cx) (s:Shared) (σ : List Addr) (H:Hp) (E:Value->Shared->Prop) (H':Hp):Prop:=
 ∀ e h' tk σ',c.Ok h' σ' H'->Adv No s.heap σ H h' σ' H'->Exc c.base c.C s.heap e h'->E (.ref e) { s with heap:=h',toks:=tk }
theorem ExcK.adv {c:Cx}{s:Shared} {σ σ₁ : List Addr}{H H₁ H':Hp}{E:Value->Shared->Prop}(k:ExcK c s σ H E H'){h₁ : Heap}{tk:Nat}(x:Adv No s.heap σ H h₁ σ₁ H₁) :
  ExcK c { s with heap:=h₁,toks:=tk } σ₁ H₁ E H':=fun e h' tk σ' a b d=>k e h' tk σ' a (x.trans b) (d.adv x)
def ContT (c:Cx) (s:Shared) (σ : List Addr) (H:Hp) (Q:Bool->Shared->Prop) (E:Value->Shared->Prop):Res V->Prop
 | .ok v H'=>∃ b,v=.bool b/\∀ h' tk σ',c.Ok h' σ' H'->Adv No s.heap σ H h' σ' H'->Q b { s with heap:=h',toks:=tk }
 | .exc H'=>ExcK c s σ H E H'
theorem ContT.adv {c:Cx}{s:Shared} {σ σ₁ : List Addr}{H H₁ : Hp}{Q:Bool->Shared->Prop}{E:Value->Shared->Prop}{r:Res V}(k:ContT c s σ H Q E r){h₁ : Heap}{tk:Nat}(x:Adv No s.heap σ H h₁ σ₁ H₁) :
  ContT c { s with heap:=h₁,toks:=tk } σ₁ H₁ Q E r:=by
 cases r with
 | ok v H'=>
  obtain⟨b,hb,k⟩:=k;exact⟨b,hb,fun h' tk σ' a y=>k h' tk σ' a (x.trans y)⟩
 | exc H'=>exact ExcK.adv k x
theorem VR.bool_inv {h:Heap}{F:Addr->Prop} {σ : List Addr}{val:Value}{b:Bool}(q:VR h F σ val (.bool b)):val=.bool b:=by
 generalize e:V.bool b=v at q;cases q<;>cases e;rfl
theorem VR.int_inv {h:Heap}{F:Addr->Prop} {σ : List Addr}{val:Value}{i:Int}(q:VR h F σ val (.int i)):∃ t,val=.int i t:=by
 generalize e:V.int i=v at q;cases q<;>cases e;exact⟨_,rfl⟩
theorem VR.none_inv {h:Heap}{F:Addr->Prop} {σ : List Addr}{val:Value}(q:VR h F σ val .none):val=.none:=by
 generalize e:V.none=v at q;cases q<;>cases e;rfl
theorem VR.str_inv {h:Heap}{F:Addr->Prop} {σ : List Addr}{val:Value}{s:Txt}(q:VR h F σ val (.str s)):∃ x t,val=.str x t/\x.cps.toList=s/\s.length<=capL/\∀ c∈s,c < 1114112:=by
 generalize e:V.str s=v at q;cases q with
 | str x t a b=>cases e;exact⟨x,t,rfl,rfl,by simpa using a,b⟩
 | _=>cases e
section
variable {prog:Program}{w:World}{A:Around}{E:Value->Shared->Prop}{s:Shared}{c:Cx} {σ : List Addr}{H:Hp}{Q:Value->Shared->Prop}{env:Env}
theorem ContT.toCont {M:Model}{QT:Bool->Shared->Prop}{r:Res V}(k:ContT c s σ H QT E r):Cont c s σ H (fun v s'=>wpAny M A (truthy v) QT E s') E r:=by
 cases r with
 | ok v H'=>
  obtain⟨b,rfl,k⟩:=k;intro val h' tk σ' X x q;rw[q.bool_inv];exact wpAny_truthy_bool (k h' tk σ' X x)
 | exc H'=>exact k
def Both (prog:Program) (w:World) (A:Around) (env:Env) (c:Cx) (s:Shared) (σ : List Addr) (H:Hp) (E:Value->Shared->Prop) (x:Expr) (r:Res V):Prop:=
 (∀ Q,Cont c s σ H Q E r->wpAny (model prog w) A (eval x env) Q E s)/\(∀ QT,ContT c s σ H QT E r->wpAny (model prog w) A (isTrue x env (eval x env)) QT E s)
theorem Both.plain {x:Expr}{r:Res V}(he:isTrue x env (eval x env)=(do let v <- eval x env;standAt x.pos;holding [v] (truthy v)))
  (h:∀ Q,Cont c s σ H Q E r->wpAny (model prog w) A (eval x env) Q E s):Both prog w A env c s σ H E x r:=
 ⟨h,fun QT k=>isTrue_plain (h _ k.toCont) he⟩
theorem bnd_go {α β : Type}{x:Option (Res α)}{f : α->Hp->Option (Res β)}{r:Res β}(hb:EG x f=some r) :
  (∃ v H1,x=some (.ok v H1)/\f v H1=some r)\/∃ H1,x=some (.exc H1)/\r=.exc H1:=by
 unfold EG at hb;split at hb
 ·exact .inl ⟨_,_,rfl,hb⟩
 ·cases hb;exact .inr ⟨_,rfl,rfl⟩
 ·cases hb
theorem ExcK.pos (k:ExcK c s σ H E H'):ExcK c s σ H (fun e s'=>1<=s'.toks->E e s') H':=fun e h' tk σ' a b d _=>k e h' tk σ' a b d
theorem go {β : Type}{e:Expr}{x:Option (Res V)}{f:V->Hp->Option (Res β)}{r:Res β}{Q1:Value->Shared->Prop}(ht : 0 < s.toks) (hb:EG x f=some r) (hx:∀ H1,r=.exc H1->ExcK c s σ H E H1)
  (ih:∀ r1,x=some r1->∀ E',Both prog w A env c s σ H E' e r1)
  (k:∀ v H1,f v H1=some r->∀ val h' tk σ',0 < tk->c.Ok h' σ' H1->Adv No s.heap σ H h' σ' H1->VR h' (Live σ' H1) σ' val v->Q1 val { s with heap:=h',toks:=tk }) :
  wpAny (model prog w) A (eval e env) Q1 E s:=by
 refine wpAny_with_toks (n:=1) ht ?_;rcases bnd_go hb with ⟨v,H1,e1,e2⟩ | ⟨H1,e1,rfl⟩
 ·exact (ih _ e1 _).1 _ fun val h' tk σ' X a q hp=>k v H1 e2 val h' tk σ' hp X a q
 ·exact (ih _ e1 _).1 _ (hx H1 rfl).pos
theorem goT {β : Type}{e:Expr}{x:Option (Res V)}{f:V->Hp->Option (Res β)}{r:Res β}{Q1:Bool->Shared->Prop}(ht : 0 < s.toks) (hb:EG x f=some r) (hx:∀ H1,r=.exc H1->ExcK c s σ H E H1)
  (hbool:∀ v H1,f v H1=some r->∃ b,v=.bool b)
  (ih:∀ r1,x=some r1->∀ E',Both prog w A env c s σ H E' e r1)
  (k:∀ b H1,f (.bool b) H1=some r->∀ h' tk σ',0 < tk->c.Ok h' σ' H1->Adv No s.heap σ H h' σ' H1->Q1 b { s with heap:=h',toks:=tk }) :
  wpAny (model prog w) A (isTrue e env (eval e env)) Q1 E s:=by
 refine wpAny_with_toks (n:=1) ht ?_;rcases bnd_go hb with ⟨v,H1,e1,e2⟩ | ⟨H1,e1,rfl⟩
 ·obtain⟨b,rfl⟩:=hbool v H1 e2;exact (ih _ e1 _).2 _ ⟨b,rfl,fun h' tk σ' X a hp=>k b H1 e2 h' tk σ' hp X a⟩
 ·exact (ih _ e1 _).2 _ (hx H1 rfl).pos
def BothL (prog:Program) (w:World) (A:Around) (env:Env) (c:Cx) (s:Shared) (σ : List Addr) (H:Hp) (E:Value->Shared->Prop) (xs:List Expr) (r:Res (List V)):Prop:=
 ∀ pos QL,ContL c s σ H QL E r->wpAny (model prog w) A (spliced (backTo pos (starEach xs env))) QL E s
theorem goL {β : Type}{es:List Expr}{pos:Pos}{x:Option (Res (List V))}{f:List V->Hp->Option (Res β)}{r:Res β}{Q1:List Value->Shared->Prop}(ht : 0 < s.toks) (hb:EG x f=some r) (hx:∀ H1,r=.exc H1->ExcK c s σ H E H1)
  (ih:∀ r1,x=some r1->∀ E',BothL prog w A env c s σ H E' es r1)
  (k:∀ v H1,f v H1=some r->∀ val h' tk σ',0 < tk->c.Ok h' σ' H1->Adv No s.heap σ H h' σ' H1->VRs h' (Live σ' H1) σ' val v->Q1 val { s with heap:=h',toks:=tk }) :
  wpAny (model prog w) A (spliced (backTo pos (starEach es env))) Q1 E s:=by
 refine wpAny_with_toks (n:=1) ht ?_;rcases bnd_go hb with ⟨v,H1,e1,e2⟩ | ⟨H1,e1,rfl⟩
 ·exact ih _ e1 _ pos _ fun val h' tk σ' X a q hp=>k v H1 e2 val h' tk σ' hp X a q
 ·exact ih _ e1 _ pos _ (hx H1 rfl).pos
theorem Cont.exk {r:Res V}(k:Cont c s σ H Q E r):∀ H1,r=.exc H1->ExcK c s σ H E H1:=by rintro H1 rfl;exact k
theorem ContT.exk {QT:Bool->Shared->Prop}{r:Res V}(k:ContT c s σ H QT E r):∀ H1,r=.exc H1->ExcK c s σ H E H1:=by rintro H1 rfl;exact k
theorem ContL.exk {QL:List Value->Shared->Prop}{r:Res (List V)}(k:ContL c s σ H QL E r):∀ H1,r=.exc H1->ExcK c s σ H E H1:=by rintro H1 rfl;exact k
theorem VR.adv0 {h h₁ : Heap} {σ σ₁ : List Addr}{H H₁ : Hp}(x:Adv No h σ H h₁ σ₁ H₁){v:Value}{y:V}(q:VR h (Live σ H) σ v y):VR h₁ (Live σ₁ H₁) σ₁ v y:=q.adv x fun _ _ z=>z.elim
theorem VRs.adv0 {h h₁ : Heap} {σ σ₁ : List Addr}{H H₁ : Hp}(x:Adv No h σ H h₁ σ₁ H₁){v:List Value}{y:List V}(q:VRs h (Live σ H) σ v y):VRs h₁ (Live σ₁ H₁) σ₁ v y:=q.adv x fun _ _ z=>z.elim
theorem Vars.adv0 {h₁ : Heap} {σ₁ : List Addr}{H₁ : Hp}{nm:List Txt}{loc:Loc}{h:Heap}(X:c.Ok h σ H) (x:Adv No h σ H h₁ σ₁ H₁) (q:Vars nm env h σ H loc):Vars nm env h₁ σ₁ H₁ loc:=
 q.adv X x (fun z=>z) (fun _ _ z=>z) fun _ _ z=>z.elim
theorem not_behind {op:CmpOp}{e:Expr}(h:notDisp e=true):behindInMarks op e=false:=by
 cases e<;>first | rfl | cases h
theorem isLoc_iff {nm : List Txt} {x : Nat} {id : Str} (h : isLoc nm x id = true) : nm[x]? = some (tx id) /\ (id == ("__debug__" : Str)) = false /\ (id == ("__classdict__" : Str)) = false := by
 simp only[isLoc,Bool.and_eq_true,beq_iff_eq,bne_iff_ne,ne_eq] at h;exact⟨h.1.1,by simpa using h.1.2,by simpa using h.2⟩
theorem name_loc {M:Model}{nm:List Txt}{x:Nat}{id:Str}{pos:Pos}{loc:Loc}{v:V}(eo:EnvOk env) (h:isLoc nm x id=true) (hk:isVarK (env.kindOf id)=true) (hv:Vars nm env s.heap σ H loc)
  (hl:loc[x]?=some (some v)) (k:∀ val,VR s.heap (Live σ H) σ val v->Q val s):wpAny M A (eval (.Name id pos) env) Q E s:=by
 obtain⟨hn,hd,hcd⟩:=isLoc_iff h;obtain⟨val,ha,hr⟩:=hv x v hl id hn hk;refine wpAny_Name ?_ hd;rcases ha with ⟨h1,m,hm,he⟩ | ⟨h1 | h1,a,ha,hc⟩
 ·exact wpAny_loadName_local eo.kind h1 hm he (k val hr)
 ·exact wpAny_loadName_cell eo.kind h1 ha hc (k val hr)
 ·exact wpAny_loadName_free eo.kind h1 ha hc (k val hr) hcd
theorem nil_eq {a:Addr}{va:Value}{v:V}{l:List V}(hu:A.units < cLine) (X:c.Ok s.heap σ H) (hx:VR s.heap (Live σ H) σ va v) (e:lstOf H v=some l)
  (hb:s.heap.get? a=some (LstO #[] 0)) (h:Q (.bool l.isEmpty) s):wpAny (model prog w) A (compareOp .Eq va (.ref a)) Q E s:=by
 obtain⟨b,arr,m,rfl,hD,hz,hv⟩:=lst_read X hx e;have hl:=hv.length;rw[Array.length_toList] at hl;cases l with
 | nil=>
  have h0:arr.size=0:=hl;refine SeqAt.eq_listAt (e:=fun _=>true) ⟨_,hD,rfl,m,rfl⟩ ⟨_,hb,rfl,0,rfl⟩ (by rw[h0];rfl) hu (fun j h1=>absurd h1 (by rw[h0];exact Nat.not_lt_zero _)) ?_;rw[h0];exact h
 | cons x l=>
  refine SeqAt.eq_list_lengthsAt ⟨_,hD,rfl,m,rfl⟩ ⟨_,hb,rfl,0,rfl⟩ ?_ hu h;rw[hl];rfl
theorem nil_ne {a:Addr}{va:Value}{v:V}{l:List V}(hu:A.units < cLine) (X:c.Ok s.heap σ H) (hx:VR s.heap (Live σ H) σ va v) (e:lstOf H v=some l)
  (hb:s.heap.get? a=some (LstO #[] 0)) (h:Q (.bool (!l.isEmpty)) s):wpAny (model prog w) A (compareOp .NotEq va (.ref a)) Q E s:=by
 obtain⟨b,arr,m,rfl,hD,hz,hv⟩:=lst_read X hx e;have hl:=hv.length;rw[Array.length_toList] at hl;cases l with
 | nil=>
  have h0:arr.size=0:=hl;refine SeqAt.RcNeAt.lists (e:=fun _=>true) ⟨_,hD,rfl,m,rfl⟩ ⟨_,hb,rfl,0,rfl⟩ (by rw[h0];rfl) hu (fun j h1=>absurd h1 (by rw[h0];exact Nat.not_lt_zero _)) prog w E Q ?_;rw[h0];exact h
 | cons x l=>
  refine SeqAt.RcNeAt.lists_lengths ⟨_,hD,rfl,m,rfl⟩ ⟨_,hb,rfl,0,rfl⟩ ?_ hu prog w E Q h;rw[hl];rfl
theorem newList0 (X:c.Ok s.heap σ H) (k:∀ h',s.heap.get? s.heap.objs.size=none->Grow c.base s.heap h'->h'.get? s.heap.objs.size=some (LstO #[] 0)->Q (.ref s.heap.objs.size) { s with heap:=h' }):wpAny (model prog w) A (newList []) Q E s:=by
 refine wpAny_newObj_type (k _ ?_ (grow_keeps X.stays fun _ _ e=>Heap.get?_push_of_some _ e) (Heap.get?_push_size _ rfl)) (Nat.zero_le _);cases e:s.heap.get? s.heap.objs.size with
 | none=>rfl
 | some o=>exact absurd (Heap.lt_size e) (Nat.lt_irrefl _)
theorem constStrs_cons {e:Expr}{es:List Expr}{ws:List Txt}(h:constStrs (e::es) ws=true):∃ x p q ws',e=.Constant (.str x) p q/\ws=tx x::ws'/\constStrs es ws'=true:=by
 unfold constStrs at h;split at h
 ·rename_i hh;cases hh
 ·rename_i x p q r w ws' hh;simp only[Bool.and_eq_true,beq_iff_eq] at h;obtain⟨rfl,h2⟩:=h;cases hh;exact⟨_,_,_,_,rfl,rfl,h2⟩
 ·cases h
theorem strs_made:∀ {es:List Expr}{ws:List Txt}(_:constStrs es ws=true) (s:Shared) (pos:Pos) (QL:List Value->Shared->Prop) (_:∀ (vs:List Value) (tk:Nat),(∀ h,∃ as,PySem.ReadsAll h vs (ws.map fun t=>PyData.str (sOf t)) as)->vs.length=ws.length->QL vs { s with toks:=tk }),
  wpAny (model prog w) A (spliced (backTo pos (starEach es env))) QL E s
 | [],ws,h,s,pos,QL,k=>by
  cases ws with
  | nil=>exact args_nil (k [] s.toks (fun _=>⟨_,.nil⟩) rfl)
  | cons=>simp[constStrs] at h
 | e::es,ws,h,s,pos,QL,k=>by
  obtain⟨x,p,q,ws',rfl,rfl,h2⟩:=constStrs_cons h;refine args_cons (Constant_str (strs_made h2 _ pos _ fun vs tk hr hn=>?_));refine k (.str x s.toks::vs) tk (fun hp=>?_) (by simp[hn]);obtain⟨as,r⟩:=hr hp;have e:=sOf_tx x;simp only[List.map_cons,e];exact⟨_,.cons (.str x s.toks) r⟩
theorem words_eqv (x:Str):∀ ws:List Txt,((ws.map fun t=>PyData.str (sOf t)).any fun y=>PyData.eqv y (.str x))=ws.contains x.cps.toList
 | []=>rfl
 | t::ws=>by
  simp only[List.map_cons,List.any_cons,List.contains_cons,words_eqv x ws]
  congr 1
  simp only[PyData.eqv];rw[Bool.eq_iff_iff];simp only[beq_iff_eq];constructor
  ·intro h;rw[<- h];simp[sOf]
  ·intro h;subst h;exact sOf_tx x
end
end Mine
end
section
open PySem PySem.W PyProof.Rows PySem.Calls PySem.Builtin.Str
namespace Mine
theorem closure_go {env:Env}(f:Str × NameKind->List (Str × Addr)->PySem.Sem (ForInStep (List (Str × Addr))))
  (hf:∀ n k cs,f (n,k) cs=if (k==.free)=true then (do let a <- cellOf env n;pure (.yield ((n,a)::cs))) else pure (.yield cs)) :
  ∀ (names:List (Str × NameKind)) (cs:List (Str × Addr)),(∀ x∈names,x.2=.free->∃ a,env.cells.lookup x.1=some a)->(∀ p∈cs,env.cells.lookup p.1=some p.2)->
   ∃ cl,forIn names cs f=pure cl/\(∀ p∈cl,env.cells.lookup p.1=some p.2)/\(∀ p∈cs,p∈cl)/\∀ x∈names,x.2=.free->∃ a,(x.1,a)∈cl
 | [],cs,_,h2=>⟨cs,rfl,h2,fun _ h=>h,fun _ h=>nomatch h⟩
 | (n,k)::r,cs,h1,h2=>by
  by_cases hk:k=.free
  ·subst hk;obtain⟨a,ha⟩:=h1 (n,.free) List.mem_cons_self rfl;obtain⟨cl,e,q1,q2,q3⟩:=closure_go f hf r ((n,a)::cs) (fun x hx=>h1 x (List.mem_cons_of_mem _ hx)) (fun p hp=>by
    rcases List.mem_cons.mp hp with rfl | hp
    ·exact ha
    ·exact h2 p hp)
   refine⟨cl,?_,q1,fun p hp=>q2 p (List.mem_cons_of_mem _ hp),fun x hx hfree=>?_⟩
   ·rw[List.forIn_cons,hf];simp only[beq_self_eq_true,if_true];unfold cellOf;rw[show env.cells.lookup n=some a from ha];exact e
   ·rcases List.mem_cons.mp hx with rfl | hx
    ·exact⟨a,q2 _ List.mem_cons_self⟩
    ·exact q3 x hx hfree
  ·obtain⟨cl,e,q1,q2,q3⟩:=closure_go f hf r cs (fun x hx=>h1 x (List.mem_cons_of_mem _ hx)) h2;refine⟨cl,?_,q1,q2,fun x hx hfree=>?_⟩
   ·have hk':(k==NameKind.free)=false:=by simpa using hk
    rw[List.forIn_cons,hf];simp only[hk',Bool.false_eq_true,if_false];exact e
   ·rcases List.mem_cons.mp hx with rfl | hx
    ·exact absurd hfree hk
    ·exact q3 x hx hfree
theorem closure_ok {scope:Scope}{env:Env}(h1:∀ x∈scope.names,x.2=.free->∃ a,env.cells.lookup x.1=some a) :
  ∃ cl,closureFor scope env=pure cl/\(∀ p∈cl,env.cells.lookup p.1=some p.2)/\∀ x∈scope.names,x.2=.free->∃ a,cl.lookup x.1=some a:=by
 obtain⟨cl,e,q1,q2,q3⟩:=closure_go (env:=env) (fun x cs=>if (x.2==NameKind.free)=true then (do let a <- cellOf env x.1;pure (.yield ((x.1,a)::cs))) else pure (.yield cs)) (fun _ _ _=>rfl) scope.names [] h1 (fun _ h=>nomatch h);refine⟨cl,?_,q1,fun x hx hfree=>?_⟩
 ·unfold closureFor;exact congrArg (fun m:PySem.Sem (List (Str × Addr))=>m >>= fun r=>pure r) e
 ·obtain⟨a,ha⟩:=q3 x hx hfree;have:(cl.lookup x.1).isSome:=by
   rw[List.lookup_isSome_iff];exact⟨(x.1,a),ha,by simp⟩
  obtain⟨b,hb⟩:=Option.isSome_iff_exists.mp this;exact⟨b,hb⟩
theorem Adv.fresh {O:Addr->Prop}{h h₁ : Heap} {σ σ₁ : List Addr}{H H₁ : Hp}(x:Adv O h σ H h₁ σ₁ H₁) (hO:∀ a,O a->h.get? a=none):Adv No h σ H h₁ σ₁ H₁:=
 x.weaken fun a z ⟨o,e⟩=>by rw[hO a z] at e;cases e
theorem changeF {base:Heap}{envs:List Env}{b:Nat}{lim:Nat->Option Nat}{h0 h h':Heap} {σ0 σ : List Addr}{H0 H:Hp}{O0:Addr->Prop}(X:FRx base envs b lim h σ H) (a1:Adv O0 h0 σ0 H0 h σ H){O:Addr->Prop}
  (hfr:∀ a,O a->h0.get? a=none) (hk:∀ b o,¬ O b->h.get? b=some o->h'.get? b=some o)
  (hO:∀ a,O a->base.get? a=none/\(∀ o,h.get? a=some o->¬ IsSeq o)/\((∃ m,h'.Ns a m)\/∀ env∈envs,env.frame≠some a)):FRx base envs b lim h' σ H/\Adv O0 h0 σ0 H0 h' σ H:=by
 have nO:∀ a o,h0.get? a=some o->¬ O a:=fun a o e z=>by rw[hfr a z] at e;cases e
 have hh:FRx base envs b lim h' σ H:=by
  have seq:∀ b o,h.get? b=some o->IsSeq o->h'.get? b=some o:=fun b o e hs=>hk b o (fun z=>(hO b z).2.1 o e hs) e
  refine { stays:=fun b o e=>hk b o (fun z=>?_) (X.stays b o e),frames:=?_,frd:=fun env he L hL=>?_,len:=X.len,nodup:=X.nodup,apart:=X.apart,dom:=fun a ha=>?_,objs:=fun i l e=>?_,loc:=X.loc,blen:=X.blen,hi:=X.hi,hs:=X.hs }
  ·rw[(hO b z).1] at e;cases e
  ·have go:∀ {l:List Env},(∀ env∈l,env∈envs)->h.FunFrames base l->h'.FunFrames base l:=by
    intro l
    induction l with
    | nil=>exact fun _ _=>trivial
    | cons env r ih=>
     rintro hm ⟨hkd,⟨L,o,hf,hn,ho,hdt⟩,hr⟩
     refine⟨hkd,?_,ih (fun env he=>hm env (List.mem_cons_of_mem _ he)) hr⟩;by_cases z:O L
     ·rcases (hO L z).2.2 with ⟨m,hm'⟩ | hne
      ·obtain⟨o',es,ep,ho',hd',_⟩:=hm';exact⟨L,o',hf,hn,ho',fun vs q=>by rw[hd'] at q;cases q⟩
      ·exact absurd hf (hne env (hm env List.mem_cons_self))
     ·exact⟨L,o,hf,hn,hk L o z ho,hdt⟩
   exact go (fun _ h=>h) X.frames
  ·obtain⟨m,hm⟩:=X.frd env he L hL;by_cases z:O L
   ·rcases (hO L z).2.2 with q | hne
    ·exact q
    ·exact absurd hL (hne env he)
   ·obtain⟨o,es,ep,ho,r⟩:=hm;exact⟨m,o,es,ep,hk L o z ho,r⟩
  ·obtain⟨arr,n,e⟩:=X.dom a ha;exact⟨arr,n,seq a _ e ⟨_,_,rfl⟩⟩
  ·obtain⟨a,arr,n,h1,h2,h3,h4⟩:=X.objs i l e;exact⟨a,arr,n,h1,seq a _ h2 ⟨_,_,rfl⟩,h3,VRs.mono (fun b o _ e hs=>seq b o e hs) (fun _ q _=>q) (fun _ _ q=>q) h4⟩
 refine⟨hh,fun b o hb e=>?_,a1.pre,a1.live,fun a o e=>?_⟩
 ·rcases a1.step b o hb e with q | ⟨⟨m,hm⟩,q⟩
  ·exact .inl (hk b o (nO b o e) q)
  ·refine .inr ⟨⟨m,hm⟩,fun m' hm'=>?_⟩;obtain⟨o',es,ep,ho',r⟩:=q m' hm';exact⟨o',es,ep,hk b o' (nO b o e) ho',r⟩
 ·obtain⟨o',e'⟩:=a1.dom a o e;exact⟨o',hk a o' (nO a o e) e'⟩
theorem Adv.next {O:Addr->Prop}{h h₁ h₂ : Heap} {σ σ₁ σ₂ : List Addr}{H H₁ H₂ : Hp}(x:Adv No h σ H h₁ σ₁ H₁) (y:Adv O h₁ σ₁ H₁ h₂ σ₂ H₂) (hO:∀ a,O a->h.get? a=none):Adv No h σ H h₂ σ₂ H₂:=
 Adv.fresh (Adv.trans (x.weaken fun _ z _=>z.elim) y) hO
theorem iterC_succ {ev:Nat->Hp->Option (Res V)}{j n i:Nat}{H H2:Hp}(h:iterC ev j (n + 1) i H=some H2) :
  ∃ v H' l,ev i H=some (.ok v H')/\v.pure=true/\hget H' j=some l/\l.length < capL/\iterC ev j n (i + 1) (H'.set j (some (l++[v])))=some H2:=by
 simp only[iterC] at h;split at h<;>try cases h
 rename_i v H' e;split at h<;>try cases h
 rename_i hp;split at h<;>try cases h
 rename_i l hl;split at h<;>try cases h
 rename_i hz;exact⟨v,H',l,e,hp,hl,hz,h⟩
theorem hget_iff {H:Hp}{i:Nat}{l:List V}(h:hget H i=some l):H[i]?=some (some l):=by
 unfold hget at h;split at h
 ·cases h;assumption
 ·cases h
theorem ns_keep {h h':Heap}{a:Addr}{m:Str->Option Value}(hn:h.Ns a m) (k:∀ o,h.get? a=some o->h'.get? a=some o):h'.Ns a m:=
 let ⟨o,es,ep,e,r⟩:=hn;⟨o,es,ep,k o e,r⟩
theorem ns_noseq {h:Heap}{a:Addr}{m:Str->Option Value}(hn:h.Ns a m):∀ o,h.get? a=some o->¬ IsSeq o:=fun o e ⟨arr,n,q⟩=>by
 obtain⟨o',es,ep,e',hd,_⟩:=hn;rw[e] at e';cases e';rw[q] at hd;cases hd
theorem ri_noseq {h:Heap}{I:Addr}{x l st:Int}(hi:IsRangeIter h I x l st):∀ o,h.get? I=some o->¬ IsSeq o:=fun o e ⟨arr,n,q⟩=>by
 rw[hi] at e;cases e;cases q
theorem frame_ne {base:Heap}{envs:List Env}{b:Nat}{lim:Nat->Option Nat}{h:Heap} {σ : List Addr}{H:Hp}(X:FRx base envs b lim h σ H){a:Addr}(e:h.get? a=none):∀ env∈envs,env.frame≠some a:=fun env he hf=>by
 obtain⟨m,o,_,_,ho,_⟩:=X.frd env he a hf;rw[e] at ho;cases ho
theorem base_none {base:Heap}{envs:List Env}{b:Nat}{lim:Nat->Option Nat}{h:Heap} {σ : List Addr}{H:Hp}(X:FRx base envs b lim h σ H){a:Addr}(e:h.get? a=none):base.get? a=none:=by
 cases q:base.get? a with
 | none=>rfl
 | some o=>have:=X.stays a o q;rw[e] at this;cases this
section
variable {prog:Program}{w:World}{A:Around}{c:Cx}{call:Nat->List V->Hp->Option (Res V)}
structure CInv (c:Cx) (s:Shared) (σ : List Addr) (H:Hp) (C I D:Addr) (n j:Nat) (ev:Nat->Hp->Option (Res V)) (Hend:Hp) (i:Nat) (s':Shared) where
 h:Heap
 tk:Nat
 σ':List Addr
 H':Hp
 m:Str->Option Value
 st:s'={ s with heap:=h,toks:=tk }
 pos : 0 < tk
 ok:c.Ok h σ' H'
 adv:Adv No s.heap σ H h σ' H'
 ns:h.Ns C m
 it:IsRangeIter h I (0 + (i:Nat) * 1) ((n:Int) - (i:Nat)) 1
 dd : σ'[j]?=some D
 go:iterC ev j (n - i) i H'=some Hend
 le:i<=n
theorem compLoop {elt iter:Expr}{y:Str}{p pos:Pos}{scope:Scope}{cenv:Env}{s:Shared} {σ : List Addr}{H:Hp}{C I D:Addr}{n j x:Nat}{e:Mine.E}{Hend:Hp}{RR:Result->Shared->Prop}{nm:List Txt}{loc:Loc}
  (hh:A.handled=none) (hloc:cenv.locals=C) (hkind:cenv.scope.kind=.function) (hy:cenv.kindOf y=some .local)
  (hC:s.heap.get? C=none) (hI:s.heap.get? I=none) (hCI:C≠I) (hbC:c.base.get? C=none) (hbI:c.base.get? I=none) (hfC:∀ env∈c.envs,env.frame≠some C) (hfI:∀ env∈c.envs,env.frame≠some I) (hbj:c.b<=j)
  (hvars:∀ {h':Heap} {σ':List Addr}{H':Hp}{m:Str->Option Value}{i:Int}{t:Tok},Adv No s.heap σ H h' σ' H'->h'.Ns C m->m y=some (.int i t)->Vars nm cenv h' σ' H' (loc.set x (some (.int i))))
  (ihe:∀ {s1:Shared} {σ1:List Addr}{H1:Hp}{E1:Value->Shared->Prop}{loc1:Loc}{r1:Res V},0 < s1.toks->EC call c.b loc1 e H1=some r1->c.Ok s1.heap σ1 H1->Vars nm cenv s1.heap σ1 H1 loc1->Both prog w A cenv c s1 σ1 H1 E1 elt r1)
  (hR:∀ h' tk σ' m,0 < tk->c.Ok h' σ' Hend->Adv No s.heap σ H h' σ' Hend->h'.Ns C m->σ'[j]?=some D->RR (.ok .next) { s with heap:=h',toks:=tk })
  {s':Shared}(h0:CInv c s σ H C I D n j (fun i H=>EC call c.b (loc.set x (some (.int i))) e H) Hend 0 s') :
  codeAny (model prog w) A (.compLoop (.ListComp elt [⟨.Name y p,iter,[],0⟩] scope pos) 0 (.ref I) (.ref D) cenv) RR s':=by
 subst hloc;have W:=Walks.range (prog:=prog) (w:=w) hh I 0 1 n;refine codeAny_compLoop_list (fun k s'=>∃ i,k=n - i/\Nonempty (CInv c s σ H cenv.locals I D n j (fun i H=>EC call c.b (loc.set x (some (.int i))) e H) Hend i s')) ?_ n ⟨0,rfl,⟨h0⟩⟩
 rintro k s' ⟨i,rfl,⟨⟨h,tk,σ1,H1,m,rfl,hp,X1,a1,hn,hit,hd,hgo,hle⟩⟩⟩
 by_cases hlt:i < n
 ·refine wpAny_with_toks (n:=1) hp (W.item i _ _ _ hlt hit fun v h2 tk2 hPv hit2 hk2 hp2=>?_);obtain⟨t,rfl⟩:=hPv;have hn2:h2.Ns cenv.locals m:=ns_keep hn fun o e=>hk2 _ o (by simpa using hCI) e
  obtain⟨X2,a12⟩:=changeF (O:=fun a=>a=I) (h':=h2) X1 a1 (fun a z=>by rw[z];exact hI) (fun b o hb e=>hk2 b o (by simpa using hb) e) (fun a z=>by subst z;exact⟨hbI,ri_noseq hit,.inr hfI⟩);refine wpAny_assign_Name (wpAny_storeName_local hy hn2 (fun h3 hn3 hs3=>?_) (by simp[hkind]));obtain⟨X3,a13⟩:=changeF (O:=fun a=>a=cenv.locals) (h':=h3) X2 a12 (fun a z=>by rw[z];exact hC) (fun b o hb e=>hs3.extBut b o hb e) (fun a z=>by subst z;exact⟨hbC,ns_noseq hn2,.inl ⟨_,hn3⟩⟩);have hit3:IsRangeIter h3 I (0 + ((i + 1:Nat):Int) * 1) ((n:Int) - ((i + 1:Nat):Int)) 1:=hs3.extBut _ _ (Ne.symm hCI) hit2;obtain⟨n',hn'⟩ : ∃ n',n - i=n' + 1:=⟨n - i - 1,by omega⟩
  rw[hn'] at hgo;obtain⟨v,H',l,hev,hpure,hl,hz,hgo'⟩:=iterC_succ hgo;have hv3:=hvars (i:=i) (t:=t) a13 hn3 (by rw[if_pos rfl];congr 2;omega);refine wpAny_with_toks (n:=1) (Nat.succ_pos _) ((ihe (Nat.succ_pos _) hev X3 hv3).1 _ fun val h4 tk4 σ4 X4 a4 q4 hp4=>?_);have hn4:h4.Ns cenv.locals _:=ns_step a4.step hn3 fun z=>z.elim (fun z=>by obtain⟨arr,k,q⟩:=X3.live_seq z;exact ns_noseq hn3 _ q ⟨_,_,rfl⟩) fun z=>z
  have hit4:IsRangeIter h4 I (0 + ((i + 1:Nat):Int) * 1) ((n:Int) - ((i + 1:Nat):Int)) 1:=
   a4.step.seq (fun z=>z.elim (fun z=>by obtain⟨arr,k,q⟩:=X3.live_seq z;exact ri_noseq hit3 _ q ⟨_,_,rfl⟩) fun z=>z) hit3 (fun es k q=>by cases q)
  have hd4 : σ4[j]?=some D:=a4.pre _ _ hd;have hj:=hget_iff hl;obtain⟨D',arr,k,h1,h2',h3',h4'⟩:=X4.objs j l hj;rw[hd4] at h1;cases h1;have hlim:c.lim j=none:=X4.loc j hbj;rw[hlim] at h4';refine wpAny_list_append_plain ⟨k,h2'⟩ (fun h5 hl5 hs5=>?_) (Nat.le_trans h3' sizeLine_cap);obtain⟨k',hl5⟩:=hl5;have hlen:=h4'.length;rw[Array.length_toList] at hlen;obtain⟨X5,a5⟩:=turn_list (l':=l++[v]) X4 hj hd4 hs5 hl5 (by rw[Array.size_push];omega) (by
   rw[hlim,Array.toList_push];exact VRs.append (.cons q4 .nil) h4')
  have hDC:cenv.locals≠D:=by rintro q;exact ns_noseq hn4 _ (q ▸ h2') ⟨_,_,rfl⟩
  have hDI:I≠D:=by rintro q;exact ri_noseq hit4 _ (q ▸ h2') ⟨_,_,rfl⟩
  refine⟨n - (i + 1),by omega,i + 1,rfl,⟨⟨h5,tk4,σ4,_,_,rfl,hp4,X5,(a13.trans a4).trans a5,ns_keep hn4 fun o e=>hs5.extBut _ o hDC e,hs5.extBut _ _ hDI hit4,hd4,?_,hlt⟩⟩⟩;rw[show n - (i + 1)=n' by omega];exact hgo'
 ·have hin:i=n:=by omega
  subst hin;refine wpAny_with_toks (n:=1) hp (W.done _ _ _ hit fun h2 tk2 hk2 hp2=>?_);rw[Nat.sub_self] at hgo;simp only[iterC,Option.some.injEq] at hgo;subst hgo;have hn2:h2.Ns cenv.locals m:=ns_keep hn fun o e=>hk2 _ o (by simpa using hCI) e
  obtain⟨X2,a2⟩:=changeF (O:=fun a=>a=I) (h':=h2) X1 a1 (fun a z=>by rw[z];exact hI) (fun b o hb e=>hk2 b o (by simpa using hb) e) (fun a z=>by subst z;exact⟨hbI,ri_noseq hit,.inr hfI⟩);exact hR h2 tk2 σ1 m hp2 X2 a2 hn2 hd
theorem relabel_lookup (env:Env) (z:Str):∀ (names:List (Str × NameKind)),(names.map fun (n,k)=>if (k==NameKind.free&&env.scope.kind==.function&&env.kindOf n==some .cell) then (n,NameKind.cell) else (n,k)).lookup z =
  (names.lookup z).map fun k=>if (k==NameKind.free&&env.scope.kind==.function&&env.kindOf z==some .cell) then NameKind.cell else k
 | []=>rfl
 | (n,k)::r=>by
  have ih:=relabel_lookup env z r;rw[List.map_cons];cases hx:z==n with
  | true=>
   have:z=n:=by simpa using hx
   subst this;dsimp only;split
   ·rename_i h;simp only[List.lookup_cons,beq_self_eq_true,Option.map_some,h,if_true]
   ·rename_i h;simp only[List.lookup_cons,beq_self_eq_true,Option.map_some,h,Bool.false_eq_true,if_false]
  | false=>
   dsimp only;split
   ·simp only[List.lookup_cons,hx];exact ih
   ·simp only[List.lookup_cons,hx];exact ih
theorem kind_rel {env:Env}{scope:Scope}{cl:List (Str × Addr)}{C:Addr}(z:Str):(compEnvC scope cl C env).kindOf z=(scope.names.lookup z).map fun k=>if (k==NameKind.free&&env.scope.kind==.function&&env.kindOf z==some .cell) then NameKind.cell else k:=
 relabel_lookup env z scope.names
theorem rel_cases {env:Env}{scope:Scope}{cl:List (Str × Addr)}{C:Addr}{z:Str}{k:NameKind}(h:(compEnvC scope cl C env).kindOf z=some k):∃ k0,scope.names.lookup z=some k0/\(k=k0\/(k0=.free/\k=.cell)):=by
 rw[kind_rel,Option.map_eq_some_iff] at h;obtain⟨k0,e,h⟩:=h;refine⟨k0,e,?_⟩;split at h
 ·rename_i hc;simp only[Bool.and_eq_true,beq_iff_eq] at hc;exact .inr ⟨hc.1.1,h.symm⟩
 ·exact .inl h.symm
structure CompChk (nm:List Txt) (kd:Str->Option NameKind) (x:Nat) (y:Str) (scope:Scope):Prop where
 loc:isLoc nm x y=true
 kind:scope.kind=.function
 loopv:scope.names.lookup y=some .local
 nocell:∀ z∈scope.names,z.2≠.cell
 locals:∀ z∈scope.names,z.2=.local->(z.1=y\/tx z.1=[46,48])/\scope.names.lookup z.1=some .local
 nodot:[46,48] ∉ nm
 free:∀ z∈scope.names,z.2=.free->kd z.1=some .cell\/kd z.1=some .free
theorem CompChk.env {nm:List Txt}{kd:Str->Option NameKind}{x:Nat}{y:Str}{scope:Scope}(K:CompChk nm kd x y scope){env:Env}(eo:EnvOk env) (ko:KdOk kd env) (hnd:nm.Nodup) :
  ∃ cl,closureFor scope env=pure cl/\∀ C,EnvOk (compEnvC scope cl C env)/\KdOk (fun z=>scope.names.lookup z) (compEnvC scope cl C env)/\
   ∀ {h':Heap} {σ':List Addr}{H':Hp}{loc:Loc}{m:Str->Option Value}{i:Int}{t:Tok},Vars nm env h' σ' H' loc->h'.Ns C m->m y=some (.int i t)->Vars nm (compEnvC scope cl C env) h' σ' H' (loc.set x (some (.int i))):=by
 have hfree:∀ z∈scope.names,z.2=.free->env.kindOf z.1=some .cell\/env.kindOf z.1=some .free:=fun z hz hf=>ko.cf _ (K.free z hz hf)
 obtain⟨cl,hcl,q1,q2⟩:=closure_ok (scope:=scope) (env:=env) fun z hz hf=>eo.cells _ (hfree z hz hf)
 refine⟨cl,hcl,fun C=>⟨⟨K.kind,eo.glob,eo.blt,fun z hz=>?_⟩,⟨fun z hz=>?_,fun z hz=>?_,fun z hz=>?_⟩,fun {h' σ' H' loc m i t} hv hn hm k v hk z hz hkz=>?_⟩⟩
 ·have:scope.names.lookup z=some .free:=by
   rcases hz with hz | hz<;>obtain⟨k0,e,h | h⟩:=rel_cases hz
   ·subst h;exact absurd rfl (K.nocell _ (PySem.mem_of_lookup e))
   ·rw[e,h.1]
   ·subst h;exact e
   ·cases h.2
  exact q2 _ (PySem.mem_of_lookup this) rfl
 ·rw[kind_rel,hz];rfl
 ·rw[kind_rel];cases e:scope.names.lookup z with
  | none=>rw[e] at hz;cases hz
  | some k0=>
   rw[e] at hz;simp only[Option.map_some];split
   ·rfl
   ·exact hz
 ·rw[kind_rel];rcases hz with hz | hz<;>rw[hz]<;>simp only[Option.map_some]<;>split<;>simp
 ·obtain⟨hl1,hl2,hl3⟩:=isLoc_iff K.loc;by_cases hkx:k=x
  ·subst hkx;have hlt:k < loc.length:=by
    have:=(List.getElem?_eq_some_iff.mp hk).1;simpa using this
   rw[List.getElem?_set_self hlt] at hk;simp only[Option.some.injEq] at hk;subst hk;rw[hl1] at hz;have:y=z:=tx_inj (Option.some.inj hz);subst this;refine⟨_,.inl ⟨?_,m,hn,hm⟩,.int i t⟩;rw[kind_rel,K.loopv];rfl
  ·rw[List.getElem?_set_ne (fun q=>hkx q.symm)] at hk;cases e:(compEnvC scope cl C env).kindOf z with
   | none=>rw[e] at hkz;cases hkz
   | some k1=>
    obtain⟨k0,e0,h0⟩:=rel_cases e;have hmem:=PySem.mem_of_lookup e0;have hf:k0=.free:=by
     rw[e] at hkz;rcases h0 with rfl | ⟨h0,_⟩
     ·cases k1<;>first | cases hkz | skip
      ·exfalso;rcases (K.locals _ hmem rfl).1 with q | q
       ·rw[show z=y from q,<- hl1] at hz;have h1:=(List.getElem?_eq_some_iff.mp hl1).1;obtain⟨h2,_⟩:=List.getElem?_eq_some_iff.mp (hz.trans hl1);have:nm[k]=nm[x]:=by
         have e1:=List.getElem?_eq_getElem h2;have e2:=List.getElem?_eq_getElem h1;rw[e1,e2] at hz;exact Option.some.inj hz
        exact hkx ((List.getElem_inj hnd).mp this)
       ·have:=List.mem_of_getElem? hz;rw[show tx z=[46,48] from q] at this;exact K.nodot this
      ·exact absurd rfl (K.nocell _ hmem)
      ·rfl
     ·exact h0
    subst hf;have hek:=hfree _ hmem rfl;obtain⟨val,hla,hr⟩:=hv k v hk z hz (by rcases hek with h | h<;>(have h':env.kindOf z=_:=h;rw[h'];rfl));refine⟨val,.inr ⟨?_,?_⟩,hr⟩
    ·rcases h0 with rfl | ⟨_,rfl⟩
     ·exact .inr e
     ·exact .inl e
    ·rcases hla with ⟨hl,_⟩ | ⟨_,a,ha,hc⟩
     ·rcases hek with h | h<;>(have h':env.kindOf z=_:=h;rw[h'] at hl;cases hl)
     ·obtain⟨a',ha'⟩:=q2 _ hmem rfl;have:=q1 _ (PySem.mem_of_lookup ha');have ha'':env.cells.lookup z=some a':=this;rw[ha] at ha'';cases ha'';exact⟨a,ha',hc⟩
theorem chk_comp {nm:List Txt}{kd:Str->Option NameKind}{e:Mine.E}{x:Nat}{n:Mine.E}{ex:Expr}(h:chkE nm kd (.comp e x n) ex=true) :
  ∃ elt y p id q k cpos scope pos,ex=.ListComp elt [⟨.Name y p,.Call (.Name id q) [k] [] cpos,[],0⟩] scope pos/\CompChk nm kd x y scope/\isGlob kd id [114,97,110,103,101]=true/\chkE nm kd n k=true/\
   chkE nm (fun z=>scope.names.lookup z) e elt=true/\notStar k=true:=by
 simp only[chkE] at h;split at h<;>try cases h
 rename_i elt y p id q k cpos scope pos;simp only[Bool.and_eq_true,beq_iff_eq,List.all_eq_true,Bool.or_eq_true,bne_iff_ne,ne_eq,Bool.not_eq_true',List.contains_eq_mem,decide_eq_false_iff_not] at h;obtain⟨⟨⟨⟨⟨⟨⟨⟨⟨⟨h1,h2⟩,h3⟩,h4⟩,h5⟩,h6⟩,h7⟩,h8⟩,h9⟩,h10⟩,h11⟩:=h;refine⟨elt,y,p,id,q,k,cpos,scope,pos,rfl,⟨h2,h5,h6,h7,fun z hz hl=>?_,h9,fun z hz hf=>?_⟩,h1,h3,h4,h11⟩
 ·rcases h8 z hz with q | q
  ·exact absurd hl q
  ·exact q
 ·rcases h10 z hz with (q | q) | q
  ·exact absurd hf q
  ·exact .inl q
  ·exact .inr q
theorem size_none (h:Heap){a:Addr}(ha:h.objs.size<=a):h.get? a=none:=by
 cases e:h.get? a with
 | none=>rfl
 | some o=>exact absurd (Heap.lt_size e) (Nat.not_lt.mpr ha)
theorem Adv.old {O:Addr->Prop}{h h':Heap} {σ σ':List Addr}{H H':Hp}(x:Adv O h σ H h' σ' H'){a:Addr}(e:h'.get? a=none):h.get? a=none:=by
 cases q:h.get? a with
 | none=>rfl
 | some o=>obtain⟨o',e'⟩:=x.dom a o q;rw[e] at e';cases e'
theorem compCore {n':Nat}(R:Rdy prog w c A call n'){elt k:Expr}{y id:Str}{p q cpos pos fp:Pos}{scope:Scope}{e n:Mine.E}{x:Nat}{nm:List Txt}{kd:Str->Option NameKind}{loc:Loc}{env:Env}{s:Shared} {σ : List Addr}{H:Hp}{r:Res V}
  {use:Option (Value->PySem.Sem Unit)}{Q E:Value->Shared->Prop}
  (eo:EnvOk env) (ko:KdOk kd env) (hnd:nm.Nodup) (ht : 0 < s.toks) (K:CompChk nm kd x y scope) (hg:isGlob kd id [114,97,110,103,101]=true) (hs:notStar k=true) (X:c.Ok s.heap σ H) (hv:Vars nm env s.heap σ H loc)
  (ihn:∀ r1,EC call c.b loc n H=some r1->∀ E',Both prog w A env c s σ H E' k r1)
  (ihe:∀ {s1:Shared} {σ1:List Addr}{H1:Hp}{E1:Value->Shared->Prop}{env1:Env}{loc1:Loc}{r1:Res V},EnvOk env1->KdOk (fun z=>scope.names.lookup z) env1->0 < s1.toks->EC call c.b loc1 e H1=some r1->c.Ok s1.heap σ1 H1->Vars nm env1 s1.heap σ1 H1 loc1->Both prog w A env1 c s1 σ1 H1 E1 elt r1)
  (hb:EC call c.b loc (.comp e x n) H=some r) (hx:∀ H1,r=.exc H1->ExcK c s σ H E H1)
  (KK:∀ l H2 j D C h' tk σ',r=.ok (.lst l) (H2.set j none)->V.pures l=true->H2[j]?=some (some l)->σ'[j]?=some D->0 < tk->c.Ok h' σ' H2->Adv No s.heap σ H h' σ' H2->s.heap.get? C=none->(∃ m,h'.Ns C m)->c.base.get? C=none->
   (∀ env∈c.envs,env.frame≠some C)->compPost (model prog w) A E use Q (.ref D) C (.ok .next) { s with heap:=h',toks:=tk }) :
  wpAny (model prog w) A (comprehension (.ListComp elt [⟨.Name y p,.Call (.Name id q) [k] [] cpos,[],0⟩] scope pos) scope env fp (newList []) false (eval (.Call (.Name id q) [k] [] cpos) env) use) Q E s:=by
 obtain⟨cl,hcl,hC⟩:=K.env eo ko hnd;simp only[EC] at hb;refine wpAny_comprehension_free rfl (fun _=>rfl) hcl K.kind (fun z hz hl=>(K.locals z hz hl).2) ?_;refine Call_ (name_mb R.G eo (ko.isGlob hg) X R.G.hrange.1 R.G.hrange.2 (PyProof.Rows.callWith_type1 (args_cons (go ht hb hx ihn fun v H1 e1 va h1 tk σ1 hp X1 a1 q1=>args_nil ?_) (notStar_each hs)) (notStar_each hs)));split at e1<;>try cases e1
 rename_i kk;split at e1<;>try cases e1
 rename_i hkk;split at e1<;>try cases e1
 rename_i H2 hit;split at e1<;>try cases e1
 rename_i l hl;split at e1<;>try cases e1
 rename_i hpure;obtain⟨t,rfl⟩:=q1.int_inv;have hk2:kk<=1048576:=hkk.2;refine call_range_1 (wpAny_pyIter_range (IsRange.new ..) (small_one (by omega) (by omega) (by omega) (by omega)) (wpAny_newObj_type (data:=.seq ([]:List Value).toArray) ?_ (Nat.zero_le _)));dsimp only;generalize hhR : h1.push { cls := .type "range", data := .fields #[.int 0 tk, .int kk t, .int 1 (tk + 1)] } = hR;generalize hh2 : hR.push { cls := .type "range_iterator", data := .fields #[rawInt 0, rawInt (Builtin.Range.rangeSize 0 kk 1), rawInt 1] } = h2;have k12:∀ b o,h1.get? b=some o->h2.get? b=some o:=fun b o e=>by rw[<- hh2];exact Heap.get?_push_of_some _ (by rw[<- hhR];exact Heap.get?_push_of_some _ e)
 have g:Grow c.base h1 h2:=grow_keeps X1.stays k12;have X2:=X1.grow g;have a2:=a1.trans (g.adv σ1 H1);have hIn:h1.get? hR.objs.size=none:=size_none _ (by rw[<- hhR,Heap.size_push];exact Nat.le_succ _);obtain⟨X3,a3⟩:=open_list (l:=[]) (vs:=[]) X2 .nil (Nat.zero_le _);have a13:=a2.trans a3
 change wpAny _ _ (newFunctionEnv scope env.globals cl [] env.qual none .none (some env)) _ _ { s with heap:=h2.push (LstO [].toArray 0),toks:=tk + 1 + 1 }
 generalize hh3:h2.push (LstO [].toArray 0)=h3 at X3 a3 a13;refine wpAny_newFunctionEnv K.nocell (by intro z hz;simp at hz) (fun h4 hn4 hs4=>?_) K.kind;dsimp only at hn4 hs4 ⊢;have k34:∀ b o,h3.get? b=some o->h4.get? b=some o:=fun b o e=>hs4.extBut b o (Nat.ne_of_lt (Heap.lt_size e)) (Heap.get?_push_of_some _ e)
 have g4:Grow c.base h3 h4:=grow_keeps X3.stays k34;have X4:=X3.grow g4;have a4:=a13.trans (g4.adv (σ1++[h2.objs.size]) (H1++[some []]));have hI4 : h4.get? hR.objs.size = some { cls := .type "range_iterator", data := .fields #[rawInt 0, rawInt (Builtin.Range.rangeSize 0 kk 1), rawInt 1] } :=
  k34 _ _ (by rw[<- hh3];exact Heap.get?_push_of_some _ (by rw[<- hh2];exact Heap.get?_push_size _ rfl))
 have hC3:h3.get? h3.objs.size=none:=size_none _ (Nat.le_refl _);have hsC:s.heap.get? h3.objs.size=none:=a13.old hC3;have hsI:s.heap.get? hR.objs.size=none:=a1.old hIn;have hCI:h3.objs.size≠hR.objs.size:=by
  rw[<- hh3,Heap.size_push,<- hh2,Heap.size_push];omega
 have hsz:Builtin.Range.rangeSize 0 kk 1=((kk.toNat:Nat):Int):=by rw[rangeSize_one];split<;>omega
 have hj:c.b<=H1.length:=by rw[X1.len];exact X1.blen
 obtain⟨eo',ko',hvars⟩:=hC h3.objs.size;have loop:∀ s3:Shared,s3={ s with heap:=h4,toks:=tk + 1 + 1 + ([]:List (Str × Value)).length }->
   codeAny (model prog w) A (.compLoop (.ListComp elt [⟨.Name y p,.Call (.Name id q) [k] [] cpos,[],0⟩] scope pos) 0 (.ref hR.objs.size) (.ref h2.objs.size) (compEnvC scope cl h3.objs.size env))
    (compPost (model prog w) A E use Q (.ref h2.objs.size) h3.objs.size) s3:=by
  rintro s3 rfl
  refine compLoop (n:=kk.toNat) (j:=H1.length) (x:=x) (e:=e) (Hend:=H2) (nm:=nm) (loc:=loc) (s:=s) (σ:=σ) (H:=H) R.au.handled rfl (by simp[compEnvC,relabel,K.kind]) (by rw[kind_rel,K.loopv];rfl) hsC hsI hCI (base_none X hsC) (base_none X hsI) (frame_ne X hsC) (frame_ne X hsI) hj
   (fun a hn hm=>hvars (hv.adv0 X a) hn hm) (fun hp' e' X' hv'=>ihe eo' ko' hp' e' X' hv') (fun h' tk' σ' m hp' X' a' hn' hd'=>?_)
   ⟨h4,_,σ1++[h2.objs.size],H1++[some []],_,rfl,by omega,X4,a4,hn4,?_,?_,?_,Nat.zero_le _⟩
  ·have hl':=hget_iff hl;exact KK l H2 H1.length h2.objs.size h3.objs.size h' tk' σ' rfl hpure hl' hd' hp' X' a' hsC ⟨m,hn'⟩ (base_none X hsC) (frame_ne X hsC)
  ·show h4.get? _=_;rw[hI4,hsz];simp
  ·rw[X1.len,List.getElem?_append_right (Nat.le_refl _)];simp
  ·rw[Nat.sub_zero];exact hit
 exact codeAny_compStart_list (loop _ rfl) (wpAny_pyIter_rangeiter hI4 (loop _ rfl))
end
end Mine
end
section
open PySem PySem.W PyProof.Rows PySem.Calls PySem.Builtin.Str
namespace Mine
section
variable {prog:Program}{w:World}{A:Around}{c:Cx}{call:Nat->List V->Hp->Option (Res V)}{n:Nat}
theorem cU (au:AOk c A n):A.units < cLine:=by have:=au.units;omega
theorem cU64 (au:AOk c A n):A.units + 64 < cLine:=by have:=au.units;omega
theorem tell_some {x:Option V}{H:Hp}{r:Res V}(h:EH x H=some r):∃ v,x=some v/\r=.ok v H:=by
 unfold EH at h;rw[Option.map_eq_some_iff] at h;obtain⟨v,e,rfl⟩:=h;exact⟨v,e,rfl⟩
def V.isN:V->Bool
 | .none=>true
 | _=>false
theorem vr_isNone {h:Heap}{F:Addr->Prop} {σ : List Addr}{val:Value}{v:V}(q:VR h F σ val v):(val==.none)=v.isN:=by
 cases q<;>simp[V.isN]
theorem nm_find : sOf [102, 105, 110, 100] = Str.ofString "find" := by decide +kernel
theorem nm_replace : sOf [114, 101, 112, 108, 97, 99, 101] = Str.ofString "replace" := by decide +kernel
theorem nm_join : sOf [106, 111, 105, 110] = Str.ofString "join" := by decide +kernel
theorem nm_split : sOf [115, 112, 108, 105, 116] = Str.ofString "split" := by decide +kernel
theorem nm_pop : sOf [112, 111, 112] = Str.ofString "pop" := by decide +kernel
theorem nm_append : sOf [97, 112, 112, 101, 110, 100] = Str.ofString "append" := by decide +kernel
theorem chkWs_iff {es:List Expr}{ws:List Txt}(h:chkWs es ws=true):constStrs es ws=true/\ws.length<=100/\∀ w∈ws,∀ ch∈w,ch < 1114112:=by
 simp only[chkWs,Bool.and_eq_true,decide_eq_true_eq,List.all_eq_true] at h;exact⟨h.1.1,h.1.2,h.2⟩
theorem words_size {vs:List Value}(h:vs.length<=100):vs.toArray.size<=sizeLine:=by
 rw[List.size_toArray];exact Nat.le_trans h (by decide)
theorem word_lay {h:Heap}{F:Addr->Prop} {σ : List Addr}{y:Str}{t:Tok}{v:V}(q:VR h F σ (.str y t) v):(PyData.str y).canLay0=true:=by
 have:=q.canLay;cases q with
 | str x t a b=>simpa [toPy] using this
 | _=>trivial
theorem words_lay:∀ {ws:List Txt},(∀ w∈ws,∀ ch∈w,ch < 1114112)->PyData.canLayAll0 (ws.map fun t=>PyData.str (sOf t))=true
 | [],_=>rfl
 | t::ws,h=>by
  simp only[List.map_cons,PyData.canLayAll0,Bool.and_eq_true];refine⟨?_,words_lay fun w hw=>h w (List.mem_cons_of_mem _ hw)⟩;have:VR {} (fun _=>False) [] (.str (sOf t) 0) (.str (sOf t).cps.toList)\/True:=.inr trivial;simp only[PyData.canLay0,PyData.strOk,sOf];rw[Array.all_eq_true];intro i hi;simp only[decide_eq_true_eq];exact h t List.mem_cons_self _ (by simpa using List.getElem_mem (l:=t) (by simpa using hi))
theorem name_is {m:Str}{t:Txt}{z:Str}(h:tx m=t) (e:sOf t=z):m=z:=by rw[<- e,<- h,sOf_tx]
theorem star_none {env:Env}{nm:List Txt}{kd:Str->Option NameKind}{pos:Pos}:∀ {es:Es}{xs:List Expr},chkEs nm kd es xs=true->(backTo pos (starEach xs env)).any (·.1)=false
 | .nil,xs,h=>by
  simp only[chkEs,List.isEmpty_iff] at h;subst h;rfl
 | .cons e es,xs,h=>by
  simp only[chkEs] at h;split at h<;>try cases h
  simp only[Bool.and_eq_true] at h;rw[notStar_each h.1.1];exact (Bool.false_or _).trans (star_none h.2)
theorem call_fn {M:Model}{s:Shared}{E:Value->Shared->Prop}{Q:Value->Shared->Prop}{env:Env}{pos:Pos}{f:Addr}{o:Obj}{fd:FuncData}{xs:List Expr}(hdat:o.data=.func fd)
  (h:wpAny M A (spliced (backTo pos (starEach xs env))) (fun vs s₁=>s₁.heap.get? f=some o/\wpAny M A (PySem.call (.ref f) vs) Q E s₁) E s) (hs:(backTo pos (starEach xs env)).any (·.1)=false) :
  wpAny M A (callWith pos (.ref f) [] (backTo pos (starEach xs env)) []) Q E s:=by
 generalize backTo pos (starEach xs env)=ts at h hs;cases ts with
 | nil=>
  refine callWith_function (o:=o) (fd:=fd) ?_;unfold evalArgs;show wpAny M A (spliced [] >>= _) _ E s;refine wpAny_bind (wpAny_mono h (fun vs s₁ h₁=>wpAny_bind (wpAny_pure ?_)) fun _ _ x=>x);refine wpAny_holding ?_;exact wpAny_bind (wpAny_pure (wpAny_bind (wpAny_pure (wpAny_pure ⟨⟨h₁.1,hdat⟩,h₁.2⟩))))
 | cons t ts=>
  obtain⟨b,t⟩:=t;simp only[List.any_cons,Bool.or_eq_false_iff] at hs;obtain⟨rfl,_⟩:=hs;exact callWith_function (o:=o) (fd:=fd) (evalArgs_plain (wpAny_mono h (fun vs s₁ h₁=>⟨⟨h₁.1,hdat⟩,h₁.2⟩) fun _ _ x=>x))
theorem methStr {s:Shared} {σ : List Addr}{E:Value->Shared->Prop}{Q:Value->Shared->Prop}{K:Addr->Prop}{pl:PySem.Sem Bool}{pos:Pos}{env:Env}{va:Value}{sx:Txt}{id:String}{name:Str}{x:Expr}{rest:List Expr}
  (slot : Slot "str" name id) (ty : typeOf (.builtin id) = pure (.type "method_descriptor")) (q : VR s.heap K σ va (.str sx)) (hs : notStar x = true) (hr : (backTo pos (starEach rest env)).any (·.1) = false)
  (h:wpAny (model prog w) A (spliced (backTo pos (starEach (x::rest) env))) (fun vs s₁=>wpAny (model prog w) A (PySem.call (.builtin id) ([va]++vs)) Q E s₁) E s) :
  wpAny (model prog w) A (getMethod va name pl) (fun fx s₂=>wpAny (model prog w) A (callWith pos fx.1 fx.2 (backTo pos (starEach (x::rest) env)) []) Q E s₂) E s:=by
 obtain⟨y,t,rfl,_⟩:=q.str_inv;have h':=callWith_method1 (pos:=pos) h (notStar_each hs) hr
 with_reducible exact GM.of (.str y t) (typeIs_str _ _ _) slot ty GM.noRef h'
theorem VR.ref_inv {h:Heap}{F:Addr->Prop} {σ : List Addr}{val:Value}{i:Nat}(q:VR h F σ val (.ref i)):∃ a,val=.ref a/\σ[i]?=some a:=by
 generalize e:V.ref i=v at q;cases q<;>cases e;exact⟨_,rfl,by assumption⟩
theorem goP {β : Type}{s:Shared} {σ : List Addr}{H:Hp}{E:Value->Shared->Prop}{T:PySem.Sem Value}{x:Option (Res V)}{f:V->Hp->Option (Res β)}{r:Res β}{Q1:Value->Shared->Prop}(ht : 0 < s.toks) (hb:EG x f=some r) (hx:∀ H1,r=.exc H1->ExcK c s σ H E H1)
  (ih:∀ r1,x=some r1->∀ (Q E':Value->Shared->Prop),Cont c s σ H Q E' r1->wpAny (model prog w) A T Q E' s)
  (k:∀ v H1,f v H1=some r->∀ val h' tk σ',0 < tk->c.Ok h' σ' H1->Adv No s.heap σ H h' σ' H1->VR h' (Live σ' H1) σ' val v->Q1 val { s with heap:=h',toks:=tk }) :
  wpAny (model prog w) A T Q1 E s:=by
 refine wpAny_with_toks (n:=1) ht ?_;rcases bnd_go hb with ⟨v,H1,e1,e2⟩ | ⟨H1,e1,rfl⟩
 ·exact ih _ e1 _ _ fun val h' tk σ' X a q hp=>k v H1 e2 val h' tk σ' hp X a q
 ·exact ih _ e1 _ _ (hx H1 rfl).pos
theorem new_mut {s:Shared} {σ : List Addr}{H:Hp}{E:Value->Shared->Prop}{Q:Value->Shared->Prop}(X:c.Ok s.heap σ H){vs:List Value}{l:List V}(q:VRs s.heap (Live σ H) σ vs l) (hl:l.length<=capL) (k:Cont c s σ H Q E (.ok (.ref H.length) (H++[some l]))):wpAny (model prog w) A (newList vs) Q E s:=by
 have hz:vs.length<=capL:=by rw[q.length];exact hl
 obtain⟨X1,a1⟩:=open_list X q hl;refine wpAny_newObj_type (k _ _ s.toks _ X1 a1 (.ref ?_)) (show vs.toArray.size<=sizeLine by rw[List.size_toArray];exact Nat.le_trans hz sizeLine_cap);rw[X.len,List.getElem?_append_right (Nat.le_refl _)];simp
theorem sndPop {s:Shared} {σ : List Addr}{H:Hp}{E:Value->Shared->Prop}{Q:Value->Shared->Prop}{pl:PySem.Sem Bool}{pos:Pos}{env:Env}{va:Value}{i:Nat}{l:List V}(X:c.Ok s.heap σ H) (hx:VR s.heap (Live σ H) σ va (.ref i)) (hl:hget H i=some l) (hne:l≠[]) (hb:c.b<=i)
  (k:Cont c s σ H Q E (.ok (l.getLast hne) (H.set i (some l.dropLast)))) :
  wpAny (model prog w) A (getMethod va (Str.ofString "pop") pl) (fun fx s₂ => wpAny (model prog w) A (callWith pos fx.1 fx.2 (backTo pos (starEach [] env)) []) Q E s₂) E s := by
 obtain⟨a,rfl,ha⟩:=hx.ref_inv;have hi:=hget_iff hl;obtain⟨a',arr,m,h1,h2,h3,h4⟩:=X.objs i l hi;rw[ha] at h1;cases h1;have hlim:c.lim i=none:=X.loc i hb;rw[hlim] at h4;have h4':VRs s.heap (Live σ H) σ arr.toList l:=h4;have hlen:=h4'.length;rw[Array.length_toList] at hlen;have hpos : 0 < arr.size:=by rw[hlen];exact List.length_pos_iff.mpr hne
 refine getMethod_builtin (T := "list") ⟨_, h2, rfl⟩ F.plainAttrs_list F.slot_list_pop F.type_list_pop (fun b e => by cases e; exact ⟨_, h2, rfl⟩) ?_;dsimp only;have hy:arr[arr.size - 1]?=some (arr[arr.size - 1]):=by simp[hpos]
 refine P.pop_list h2 hy ?_ (Nat.le_trans h3 sizeLine_cap);have he:(s.heap.update a (Obj.mapSeq fun xs=>xs.eraseIdxIfInBounds (arr.size - 1))).get? a=some (Obj.mapSeq (fun xs=>xs.eraseIdxIfInBounds (arr.size - 1)) (LstO arr m)):=Heap.get?_update_self _ h2 rfl;have e1:arr.eraseIdxIfInBounds (arr.size - 1)=arr.pop:=by
  rw[Array.eraseIdxIfInBounds,dif_pos (by omega)];apply Array.ext';rw[Array.toList_eraseIdx,Array.toList_pop,List.dropLast_eq_take,Array.length_toList];rw[List.eraseIdx_eq_take_drop_succ,List.drop_of_length_le (by rw[Array.length_toList];omega),List.append_nil]
 obtain⟨m',he'⟩ : ∃ m',(s.heap.update a (Obj.mapSeq fun xs=>xs.eraseIdxIfInBounds (arr.size - 1))).get? a=some (LstO arr.pop m'):=⟨_,by rw[he];simp only[Obj.mapSeq,LstO,e1];rfl⟩
 have hdl:arr.pop.toList=arr.toList.dropLast:=Array.toList_pop ..;obtain⟨X1,a1⟩:=turn_list (l':=l.dropLast) X hi ha (Heap.SameBut.update ..) he' (by rw[Array.size_pop];omega) (by
  rw[hlim,hdl,List.dropLast_eq_take,List.dropLast_eq_take,Array.length_toList,hlen];exact h4'.take _)
 refine k _ _ s.toks σ X1 a1 ?_;obtain⟨v,hv,r⟩:=h4'.get (l.length - 1) (l.getLast hne) (by rw[<- List.getLast?_eq_getElem?,List.getLast?_eq_some_getLast hne]);have:arr[arr.size - 1]=v:=by
  rw[<- hlen,Array.getElem?_toList,hy] at hv;exact Option.some.inj hv
 rw[this];exact r.adv0 a1
theorem Both.compare1 {s:Shared} {σ : List Addr}{H:Hp}{E:Value->Shared->Prop}{env:Env}{r:Res V}{l rr:Expr}{op:CmpOp}{pos:Pos}(hm:behindInMarks op rr=false)
  (h:∀ Q,Cont c s σ H Q E r->wpAny (model prog w) A (eval l env) (fun a s₁=>wpAny (model prog w) A (eval rr env) (fun b s₂=>wpAny (model prog w) A (compareOp op a b) Q E s₂) E s₁) E s) :
  Both prog w A env c s σ H E (.Compare l [op] [rr] pos) r:=
 ⟨fun Q k=>wpAny_Compare1 (h Q k) hm,fun _ k=>wpAny_isTrue_Compare1 (h _ k.toCont) hm⟩
mutual
theorem sndE (R:Rdy prog w c A call n):∀ (e:Mine.E){s:Shared} {σ : List Addr}{H:Hp}{E:Value->Shared->Prop}{env:Env}{nm:List Txt}{kd:Str->Option NameKind}{loc:Loc}{x:Expr}{r:Res V},
  EnvOk env->KdOk kd env->nm.Nodup->0 < s.toks->chkE nm kd e x=true->EC call c.b loc e H=some r->c.Ok s.heap σ H->Vars nm env s.heap σ H loc->Both prog w A env c s σ H E x r
 | .none,s,σ,H,E,env,nm,kd,loc,x,r,eo,ko,hnd,ht,hc,he,X,hv=>by
  simp only[chkE] at hc;split at hc<;>try cases hc
  simp only[EC,Option.some.injEq] at he;subst he;exact .plain rfl fun Q k=>wpAny_Constant_none (k.here X .none)
 | .bool b,s,σ,H,E,env,nm,kd,loc,x,r,eo,ko,hnd,ht,hc,he,X,hv=>by
  simp only[chkE] at hc;split at hc<;>try cases hc
  simp only[beq_iff_eq] at hc;subst hc;simp only[EC,Option.some.injEq] at he;subst he;exact .plain rfl fun Q k=>wpAny_Constant_bool (k.here X (.bool _))
 | .int i,s,σ,H,E,env,nm,kd,loc,x,r,eo,ko,hnd,ht,hc,he,X,hv=>by
  simp only[chkE] at hc;split at hc<;>try cases hc
  simp only[beq_iff_eq] at hc;subst hc;simp only[EC,Option.some.injEq] at he;subst he;exact .plain rfl fun Q k=>wpAny_Constant_int (k.val X (.int _ _) _)
 | .str t,s,σ,H,E,env,nm,kd,loc,x,r,eo,ko,hnd,ht,hc,he,X,hv=>by
  simp only[chkE] at hc;split at hc<;>try cases hc
  simp only[Bool.and_eq_true,beq_iff_eq,decide_eq_true_eq,List.all_eq_true] at hc;obtain⟨⟨rfl,h1⟩,h2⟩:=hc;simp only[EC,Option.some.injEq] at he;subst he;exact .plain rfl fun Q k=>Constant_str (k.val X (VR.str' rfl h2 h1) _)
 | .loc i,s,σ,H,E,env,nm,kd,loc,x,r,eo,ko,hnd,ht,hc,he,X,hv=>by
  simp only[chkE] at hc;split at hc<;>try cases hc
  simp only[Bool.and_eq_true] at hc;simp only[EC] at he;split at he<;>try cases he
  rename_i v hl;exact .plain rfl fun Q k=>name_loc eo hc.1 (ko.var _ hc.2) hv hl fun val q=>k.here X q
 | .gint t i,s,σ,H,E,env,nm,kd,loc,x,r,eo,ko,hnd,ht,hc,he,X,hv=>by
  simp only[chkE] at hc;split at hc<;>try cases hc
  simp only[Bool.and_eq_true] at hc;simp only[EC,Option.some.injEq] at he;subst he;obtain⟨u,hu⟩:=R.G.hints _ _ hc.2;exact .plain rfl fun Q k=>name_mg R.G eo (ko.isGlob hc.1) X hu (k.here X (.int _ _))
 | .gstr t z,s,σ,H,E,env,nm,kd,loc,x,r,eo,ko,hnd,ht,hc,he,X,hv=>by
  simp only[chkE] at hc;split at hc<;>try cases hc
  simp only[Bool.and_eq_true] at hc;simp only[EC,Option.some.injEq] at he;subst he;obtain⟨u,hu⟩:=R.G.hstrs _ _ hc.2;have hz:z.length<=capL/\∀ ch∈z,ch < 1114112:=by
   have h:=hc.2;simp only[gstrs,List.contains_eq_mem,List.mem_cons,Prod.mk.injEq,List.not_mem_nil,or_false,decide_eq_true_eq] at h;rcases h with ⟨_,rfl⟩ | ⟨_,rfl⟩<;>decide
  exact .plain rfl fun Q k=>name_mg R.G eo (ko.isGlob hc.1) X hu (k.here X (VR.str' (sOf_cps z) hz.1 hz.2))
 | .bin o a b,s,σ,H,E,env,nm,kd,loc,x,r,eo,ko,hnd,ht,hc,he,X,hv=>by
  simp only[chkE] at hc;split at hc<;>try cases hc
  simp only[Bool.and_eq_true,decide_eq_true_eq] at hc;obtain⟨⟨rfl,h1⟩,h2⟩:=hc;simp only[EC] at he;refine .plain rfl fun Q k=>wpAny_BinOp (go ht he k.exk (fun r1 e1 E'=>sndE R a eo ko hnd ht h1 e1 X hv) fun v H1 e1 va h' tk σ' hp X1 a1 q1=>?_)
  refine go hp e1 (fun H2 e2=>(k.exk H2 e2).adv a1) (fun r2 e2 E'=>sndE R b eo ko hnd hp h2 e2 X1 (hv.adv0 X a1)) fun v2 H2 e2 vb h2' tk2 σ2 hp2 X2 a2 q2=>?_
  obtain⟨rv,e3,rfl⟩:=tell_some e2;exact sndBin R.hne X2 (q1.adv0 a2) q2 e3 ((k.adv (tk:=tk) a1).adv (tk:=tk2) a2)
 | .million,s,σ,H,E,env,nm,kd,loc,x,r,eo,ko,hnd,ht,hc,he,X,hv=>by
  simp only[chkE] at hc;split at hc<;>try cases hc
  simp only[Bool.and_eq_true,beq_iff_eq] at hc;obtain⟨rfl,rfl⟩:=hc;simp only[EC,Option.some.injEq] at he;subst he;exact .plain rfl fun Q k=>wpAny_BinOp (wpAny_Constant_int (wpAny_Constant_int (pow_int (by decide) (by decide +kernel) (k.val X (.int _ _) _))))
 | .neg a,s,σ,H,E,env,nm,kd,loc,x,r,eo,ko,hnd,ht,hc,he,X,hv=>by
  simp only[chkE] at hc;split at hc<;>try cases hc
  simp only[EC] at he;refine .plain rfl fun Q k=>UnaryOp_ (go ht he k.exk (fun r1 e1 E'=>sndE R a eo ko hnd ht hc e1 X hv) fun v H1 e1 va h' tk σ' hp X1 a1 q1=>?_)
  split at e1<;>try cases e1
  obtain⟨t,rfl⟩:=q1.int_inv;exact PyProof.Rows.neg_int ((k.adv (tk:=tk) a1).val X1 (.int _ _) _)
 | .not a,s,σ,H,E,env,nm,kd,loc,x,r,eo,ko,hnd,ht,hc,he,X,hv=>by
  simp only[chkE] at hc;split at hc<;>try cases hc
  simp only[EC] at he;refine⟨fun Q k=>UnaryOp_ (go ht he k.exk (fun r1 e1 E'=>sndE R a eo ko hnd ht hc e1 X hv) fun v H1 e1 va h' tk σ' hp X1 a1 q1=>?_),fun Q k=>isTrue_not (goT ht he k.exk (fun v H1 e1=>?_) (fun r1 e1 E'=>sndE R a eo ko hnd ht hc e1 X hv) fun b H1 e1 h' tk σ' hp X1 a1=>?_)⟩
  ·split at e1<;>try cases e1
   cases q1.bool_inv;exact not_of (wpAny_truthy_bool ((k.adv (tk:=tk) a1).here X1 (.bool _)))
  ·split at e1<;>try cases e1
   exact⟨_,rfl⟩
  ·simp only[Option.some.injEq] at e1;subst e1;obtain⟨b',hb,k⟩:=k;cases hb;exact k h' tk σ' X1 a1
 | .and a b,s,σ,H,E,env,nm,kd,loc,x,r,eo,ko,hnd,ht,hc,he,X,hv=>by
  simp only[chkE] at hc;split at hc<;>try cases hc
  rename_i ea eb er pos;simp only[Bool.and_eq_true] at hc;obtain⟨h1,h2⟩:=hc;simp only[EC] at he;have ihb:∀ {s1:Shared} {σ1:List Addr}{H1:Hp}{E1:Value->Shared->Prop},0 < s1.toks->EC call c.b loc b H1=some r->c.Ok s1.heap σ1 H1->Vars nm env s1.heap σ1 H1 loc->Both prog w A env c s1 σ1 H1 E1 (.BoolOp .And (eb::er) pos) r:=by
   intro s1 σ1 H1 E1 hp e1 X1 hv1;cases er with
   | nil=>
    have ih:=sndE R b (E:=E1) eo ko hnd hp h2 e1 X1 hv1;refine⟨fun Q k=>BoolOp_one (ih.1 Q k),fun Q k=>isTrue_and (wpAny_mono (ih.2 Q k) (fun c' s' h'=>?_) fun _ _ y=>y)⟩;cases c' with
    | true=>exact isTrue_and_nil h'
    | false=>exact h'
   | cons e2 er=>exact sndE R b eo ko hnd hp h2 e1 X1 hv1
  refine⟨fun Q k=>BoolOp_and (go ht he k.exk (fun r1 e1 E'=>sndE R a eo ko hnd ht h1 e1 X hv) fun v H1 e1 va h' tk σ' hp X1 a1 q1=>?_),fun Q k=>isTrue_and (goT ht he k.exk (fun v H1 e1=>?_) (fun r1 e1 E'=>sndE R a eo ko hnd ht h1 e1 X hv) fun t H1 e1 h' tk σ' hp X1 a1=>?_)⟩
  ·split at e1<;>try cases e1
   ·cases q1.bool_inv;refine wpAny_truthy_bool ?_;rw[if_pos rfl];exact (ihb hp e1 X1 (hv.adv0 X a1)).1 _ (k.adv a1)
   ·cases q1.bool_inv;refine wpAny_truthy_bool ?_;rw[if_neg (by decide)];exact (k.adv (tk:=tk) a1).here X1 (.bool _)
  ·split at e1<;>try cases e1
   ·exact⟨_,rfl⟩
   ·exact⟨_,rfl⟩
  ·cases t with
   | true=>
    rw[if_pos rfl];exact (ihb hp e1 X1 (hv.adv0 X a1)).2 _ (k.adv a1)
   | false=>
    rw[if_neg (by decide)];simp only[Option.some.injEq] at e1;subst e1;obtain⟨b',hb,k⟩:=k;cases hb;exact k h' tk σ' X1 a1
 | .or a b,s,σ,H,E,env,nm,kd,loc,x,r,eo,ko,hnd,ht,hc,he,X,hv=>by
  simp only[chkE] at hc;split at hc<;>try cases hc
  rename_i ea eb er pos;simp only[Bool.and_eq_true] at hc;obtain⟨h1,h2⟩:=hc;simp only[EC] at he;have ihb:∀ {s1:Shared} {σ1:List Addr}{H1:Hp}{E1:Value->Shared->Prop},0 < s1.toks->EC call c.b loc b H1=some r->c.Ok s1.heap σ1 H1->Vars nm env s1.heap σ1 H1 loc->Both prog w A env c s1 σ1 H1 E1 (.BoolOp .Or (eb::er) pos) r:=by
   intro s1 σ1 H1 E1 hp e1 X1 hv1;cases er with
   | nil=>
    have ih:=sndE R b (E:=E1) eo ko hnd hp h2 e1 X1 hv1;refine⟨fun Q k=>BoolOp_one (ih.1 Q k),fun Q k=>isTrue_or (wpAny_mono (ih.2 Q k) (fun c' s' h'=>?_) fun _ _ y=>y)⟩;cases c' with
    | true=>exact h'
    | false=>exact isTrue_or_nil h'
   | cons e2 er=>exact sndE R b eo ko hnd hp h2 e1 X1 hv1
  refine⟨fun Q k=>BoolOp_or (go ht he k.exk (fun r1 e1 E'=>sndE R a eo ko hnd ht h1 e1 X hv) fun v H1 e1 va h' tk σ' hp X1 a1 q1=>?_),fun Q k=>isTrue_or (goT ht he k.exk (fun v H1 e1=>?_) (fun r1 e1 E'=>sndE R a eo ko hnd ht h1 e1 X hv) fun t H1 e1 h' tk σ' hp X1 a1=>?_)⟩
  ·split at e1<;>try cases e1
   ·cases q1.bool_inv;refine wpAny_truthy_bool ?_;rw[if_pos rfl];exact (k.adv (tk:=tk) a1).here X1 (.bool _)
   ·cases q1.bool_inv;refine wpAny_truthy_bool ?_;rw[if_neg (by decide)];exact (ihb hp e1 X1 (hv.adv0 X a1)).1 _ (k.adv a1)
  ·split at e1<;>try cases e1
   ·exact⟨_,rfl⟩
   ·exact⟨_,rfl⟩
  ·cases t with
   | false=>
    rw[if_neg (by decide)];exact (ihb hp e1 X1 (hv.adv0 X a1)).2 _ (k.adv a1)
   | true=>
    rw[if_pos rfl];simp only[Option.some.injEq] at e1;subst e1;obtain⟨b',hb,k⟩:=k;cases hb;exact k h' tk σ' X1 a1
 | .ife t a b,s,σ,H,E,env,nm,kd,loc,x,r,eo,ko,hnd,ht,hc,he,X,hv=>by
  simp only[chkE] at hc;split at hc<;>try cases hc
  simp only[Bool.and_eq_true] at hc;obtain⟨⟨h0,h1⟩,h2⟩:=hc;simp only[EC] at he;refine⟨fun Q k=>IfExp_ (goT ht he k.exk (fun v H1 e1=>?_) (fun r1 e1 E'=>sndE R t eo ko hnd ht h0 e1 X hv) fun tt H1 e1 h' tk σ' hp X1 a1=>?_),fun Q k=>isTrue_IfExp (goT ht he k.exk (fun v H1 e1=>?_) (fun r1 e1 E'=>sndE R t eo ko hnd ht h0 e1 X hv) fun tt H1 e1 h' tk σ' hp X1 a1=>?_)⟩
  ·split at e1<;>try cases e1
   ·exact⟨_,rfl⟩
   ·exact⟨_,rfl⟩
  ·cases tt with
   | true=>rw[if_pos rfl];exact (sndE R a eo ko hnd hp h1 e1 X1 (hv.adv0 X a1)).1 _ (k.adv a1)
   | false=>rw[if_neg (by decide)];exact (sndE R b eo ko hnd hp h2 e1 X1 (hv.adv0 X a1)).1 _ (k.adv a1)
  ·split at e1<;>try cases e1
   ·exact⟨_,rfl⟩
   ·exact⟨_,rfl⟩
  ·cases tt with
   | true=>rw[if_pos rfl];exact (sndE R a eo ko hnd hp h1 e1 X1 (hv.adv0 X a1)).2 _ (k.adv a1)
   | false=>rw[if_neg (by decide)];exact (sndE R b eo ko hnd hp h2 e1 X1 (hv.adv0 X a1)).2 _ (k.adv a1)
 | .cmp o a b,s,σ,H,E,env,nm,kd,loc,x,r,eo,ko,hnd,ht,hc,he,X,hv=>by
  simp only[chkE] at hc;split at hc<;>try cases hc
  simp only[Bool.and_eq_true,copOk,decide_eq_true_eq] at hc;obtain⟨⟨⟨rfl,h0⟩,h1⟩,h2⟩:=hc;simp only[EC] at he;refine .compare1 (not_behind h0) fun Q k=>go ht he k.exk (fun r1 e1 E'=>sndE R a eo ko hnd ht h1 e1 X hv) fun v H1 e1 va h' tk σ' hp X1 a1 q1=>?_
  refine go hp e1 (fun H2 e2=>(k.exk H2 e2).adv a1) (fun r2 e2 E'=>sndE R b eo ko hnd hp h2 e2 X1 (hv.adv0 X a1)) fun v2 H2 e2 vb h2' tk2 σ2 hp2 X2 a2 q2=>?_
  obtain⟨rv,e3,rfl⟩:=tell_some e2;rw[Option.map_eq_some_iff] at e3;obtain⟨rb,e3,rfl⟩:=e3;exact sndCmp (cU64 R.au) (q1.adv0 a2) q2 e3 (((k.adv (tk:=tk) a1).adv (tk:=tk2) a2).here X2 (.bool _))
 | .between a b d,s,σ,H,E,env,nm,kd,loc,x,r,eo,ko,hnd,ht,hc,he,X,hv=>by
  simp only[chkE] at hc;split at hc<;>try cases hc
  simp only[Bool.and_eq_true] at hc;obtain⟨⟨⟨⟨h0,h0'⟩,h1⟩,h2⟩,h3⟩:=hc;simp only[EC] at he;rename_i l m rr pos;have hm:lastMarks [CmpOp.Lt,CmpOp.Lt] [m,rr]=false:=not_behind h0';refine⟨fun Q k=>Compare_chain (go ht he k.exk (fun r1 e1 E'=>sndE R a eo ko hnd ht h1 e1 X hv) fun v H1 e1 va h' tk σ' hp X1 a1 q1=>chain_link ?_) hm,fun Q k=>isTrue_chain (go ht he k.exk (fun r1 e1 E'=>sndE R a eo ko hnd ht h1 e1 X hv) fun v H1 e1 va h' tk σ' hp X1 a1 q1=>test_link ?_) hm⟩
  ·refine go hp e1 (fun H2 e2=>(k.exk H2 e2).adv a1) (fun r2 e2 E'=>sndE R b eo ko hnd hp h2 e2 X1 (hv.adv0 X a1)) fun v2 H2 e2 vb h2' tk2 σ2 hp2 X2 a2 q2=>?_
   have hv2:=(hv.adv0 X a1).adv0 X1 a2;split at e2<;>try cases e2
   obtain⟨t1,rfl⟩:=q1.int_inv;obtain⟨t2,rfl⟩:=q2.int_inv;have k2:=(k.adv (tk:=tk) a1).adv (tk:=tk2) a2;refine PyProof.Rows.lt_int (wpAny_truthy_bool ?_);split at e2
   ·rename_i hlt;rw[if_pos (by simpa using hlt)];refine chain_last (go hp2 e2 (fun H3 e3=>k2.exk H3 e3) (fun r3 e3 E'=>sndE R d eo ko hnd hp2 h3 e3 X2 hv2) fun v3 H3 e3 vc h3' tk3 σ3 hp3 X3 a3 q3=>?_);split at e3<;>try cases e3
    obtain⟨t3,rfl⟩:=q3.int_inv;exact PyProof.Rows.lt_int ((k2.adv (tk:=tk3) a3).here X3 (.bool _))
   ·rename_i hlt;rw[if_neg (by simpa using hlt)];simp only[Option.some.injEq] at e2;subst e2;rw[decide_eq_false hlt];exact k2.here X2 (.bool _)
  ·refine go hp e1 (fun H2 e2=>(k.exk H2 e2).adv a1) (fun r2 e2 E'=>sndE R b eo ko hnd hp h2 e2 X1 (hv.adv0 X a1)) fun v2 H2 e2 vb h2' tk2 σ2 hp2 X2 a2 q2=>?_
   have hv2:=(hv.adv0 X a1).adv0 X1 a2;split at e2<;>try cases e2
   obtain⟨t1,rfl⟩:=q1.int_inv;obtain⟨t2,rfl⟩:=q2.int_inv;have k2:=(k.adv (tk:=tk) a1).adv (tk:=tk2) a2;refine PyProof.Rows.lt_int (wpAny_truthy_bool ?_);split at e2
   ·rename_i hlt;rw[if_pos (by simpa using hlt)];refine test_last (go hp2 e2 (fun H3 e3=>k2.exk H3 e3) (fun r3 e3 E'=>sndE R d eo ko hnd hp2 h3 e3 X2 hv2) fun v3 H3 e3 vc h3' tk3 σ3 hp3 X3 a3 q3=>?_);split at e3<;>try cases e3
    obtain⟨t3,rfl⟩:=q3.int_inv;obtain⟨b',hb,k2⟩:=k2;cases hb;exact PyProof.Rows.lt_int (wpAny_truthy_bool (k2 h3' tk3 σ3 X3 a3))
   ·rename_i hlt;rw[if_neg (by simpa using hlt)];simp only[Option.some.injEq] at e2;subst e2;obtain⟨b',hb,k2⟩:=k2;cases hb;exact k2 h2' tk2 σ2 X2 (.refl ..)
 | .isNone a,s,σ,H,E,env,nm,kd,loc,x,r,eo,ko,hnd,ht,hc,he,X,hv=>by
  simp only[chkE] at hc;split at hc<;>try cases hc
  simp only[EC] at he;refine .compare1 rfl fun Q k=>go ht he k.exk (fun r1 e1 E'=>sndE R a eo ko hnd ht hc e1 X hv) fun v H1 e1 va h' tk σ' hp X1 a1 q1=>wpAny_Constant_none (is_none_gen ?_)
  simp only[Option.some.injEq] at e1;subst e1;rw[vr_isNone q1];exact (k.adv (tk:=tk) a1).here X1 (.bool _)
 | .notNone a,s,σ,H,E,env,nm,kd,loc,x,r,eo,ko,hnd,ht,hc,he,X,hv=>by
  simp only[chkE] at hc;split at hc<;>try cases hc
  simp only[EC] at he;refine .compare1 rfl fun Q k=>go ht he k.exk (fun r1 e1 E'=>sndE R a eo ko hnd ht hc e1 X hv) fun v H1 e1 va h' tk σ' hp X1 a1 q1=>wpAny_Constant_none (isnot_none_gen ?_)
  simp only[Option.some.injEq] at e1;subst e1;rw[vr_isNone q1];have k1:=k.adv (tk:=tk) a1;clear k q1;cases v<;>exact k1.here X1 (.bool _)
 | .isNil a,s,σ,H,E,env,nm,kd,loc,x,r,eo,ko,hnd,ht,hc,he,X,hv=>by
  simp only[chkE] at hc;split at hc<;>try cases hc
  simp only[EC] at he;refine .compare1 rfl fun Q k=>go ht he k.exk (fun r1 e1 E'=>sndE R a eo ko hnd ht hc e1 X hv) fun v H1 e1 va h' tk σ' hp X1 a1 q1=>List_ (args_nil (newList0 X1 fun h2 hf g hn=>?_))
  obtain⟨rv,e3,rfl⟩:=tell_some e1;rw[Option.map_eq_some_iff] at e3;obtain⟨l,e3,rfl⟩:=e3;exact nil_eq (cU R.au) (X1.grow g) (q1.grow g) e3 hn (((k.adv (tk:=tk) a1)).grown X1 g (.bool _) tk)
 | .notNil a,s,σ,H,E,env,nm,kd,loc,x,r,eo,ko,hnd,ht,hc,he,X,hv=>by
  simp only[chkE] at hc;split at hc<;>try cases hc
  simp only[EC] at he;refine .compare1 rfl fun Q k=>go ht he k.exk (fun r1 e1 E'=>sndE R a eo ko hnd ht hc e1 X hv) fun v H1 e1 va h' tk σ' hp X1 a1 q1=>List_ (args_nil (newList0 X1 fun h2 hf g hn=>?_))
  obtain⟨rv,e3,rfl⟩:=tell_some e1;rw[Option.map_eq_some_iff] at e3;obtain⟨l,e3,rfl⟩:=e3;exact nil_ne (cU R.au) (X1.grow g) (q1.grow g) e3 hn (((k.adv (tk:=tk) a1)).grown X1 g (.bool _) tk)
 | .inC a ws,s,σ,H,E,env,nm,kd,loc,x,r,eo,ko,hnd,ht,hc,he,X,hv=>by
  simp only[chkE] at hc;split at hc<;>try cases hc
  all_goals
   simp only[Bool.and_eq_true] at hc;simp only[EC] at he;refine .compare1 rfl fun Q k=>go ht he k.exk (fun r1 e1 E'=>sndE R a eo ko hnd ht hc.1 e1 X hv) fun v H1 e1 va h' tk σ' hp X1 a1 q1=>?_
   split at e1<;>try cases e1
   obtain⟨y,t,rfl,rfl,_⟩:=id q1.str_inv;have k1:=k.adv (tk:=tk) a1
  ·obtain⟨w1,w2,w3⟩:=chkWs_iff hc.2;refine Tuple_ (strs_made w1 _ _ _ fun vs tk2 hr hn=>wpAny_newObj_type ?_ (words_size (by omega)));obtain⟨as,hR⟩:=hr _;have g:Grow c.base h' (h'.push (TupO vs.toArray 0)):=grow_keeps X1.stays fun _ _ e=>Heap.get?_push_of_some _ e
   exact SeqAt.in_tuple_reads (.tuple (Heap.get?_push_size _ rfl) rfl rfl (by simpa using hR)) (.str y t) (words_lay w3) (word_lay q1) (by have:=cU64 R.au;simp[PyData.depth];omega) (by rw[words_eqv];exact k1.grown X1 g (.bool _) tk2)
  ·obtain⟨w1,w2,w3⟩:=chkWs_iff hc.2;refine List_ (strs_made w1 _ _ _ fun vs tk2 hr hn=>wpAny_newObj_type ?_ (words_size (by omega)));obtain⟨as,hR⟩:=hr _;have g:Grow c.base h' (h'.push (LstO vs.toArray 0)):=grow_keeps X1.stays fun _ _ e=>Heap.get?_push_of_some _ e
   exact SeqAt.in_list_reads (.list (Heap.get?_push_size _ rfl) rfl rfl (by simpa using hR)) (.str y t) (words_lay w3) (word_lay q1) (by have:=cU64 R.au;simp[PyData.depth];omega) (by rw[words_eqv];exact k1.grown X1 g (.bool _) tk2)
 | .ninC a ws,s,σ,H,E,env,nm,kd,loc,x,r,eo,ko,hnd,ht,hc,he,X,hv=>by
  simp only[chkE] at hc;split at hc<;>try cases hc
  simp only[Bool.and_eq_true] at hc;simp only[EC] at he;refine .compare1 rfl fun Q k=>go ht he k.exk (fun r1 e1 E'=>sndE R a eo ko hnd ht hc.1 e1 X hv) fun v H1 e1 va h' tk σ' hp X1 a1 q1=>?_
  split at e1<;>try cases e1
  obtain⟨y,t,rfl,rfl,_⟩:=id q1.str_inv;have k1:=k.adv (tk:=tk) a1;obtain⟨w1,w2,w3⟩:=chkWs_iff hc.2;refine Tuple_ (strs_made w1 _ _ _ fun vs tk2 hr hn=>wpAny_newObj_type ?_ (words_size (by omega)));obtain⟨as,hR⟩:=hr _;have g:Grow c.base h' (h'.push (TupO vs.toArray 0)):=grow_keeps X1.stays fun _ _ e=>Heap.get?_push_of_some _ e
  exact SeqAt.notIn_tuple_reads (.tuple (Heap.get?_push_size _ rfl) rfl rfl (by simpa using hR)) (.str y t) (words_lay w3) (word_lay q1) (by have:=cU64 R.au;simp[PyData.depth];omega) (by rw[words_eqv];exact k1.grown X1 g (.bool _) tk2)
 | .call f es,s,σ,H,E,env,nm,kd,loc,x,r,eo,ko,hnd,ht,hc,he,X,hv=>by
  simp only[chkE] at hc;split at hc<;>try cases hc
  simp only[Bool.and_eq_true,beq_iff_eq,bne_iff_ne,ne_eq] at hc;obtain⟨⟨⟨h1,h2⟩,h3⟩,h4⟩:=hc;simp only[EC] at he;unfold fnm at h1;rw[Option.map_eq_some_iff] at h1;obtain⟨fn,hf,hn⟩:=h1;obtain⟨hg,o,fd,ho,hd⟩:=R.hfa f fn hf;rename_i id np as pos;have hid:sOf fn.name=id:=by rw[hn,sOf_tx]
  rw[hid] at hg;refine .plain rfl fun Q k=>Call_ (Name_function_global eo.kind (ko.glob _ h2) (loadGlobal_global (mg:=R.G.mg) (by rw[eo.glob];exact R.G.g.keeps X.stays) hg ?_) (by simpa using h3))
  refine call_fn (o:=o) (fd:=fd) hd (goL ht he k.exk (fun r1 e1 E'=>sndEs R es eo ko hnd ht h4 e1 X hv) fun vs H1 e1 vals h' tk σ' hp X1 a1 q1=>⟨X1.stays _ _ ho,?_⟩) (star_none h4);exact R.cs c A _ σ' H1 f vs vals r Q _ rfl rfl R.hne R.au hp X1 q1 e1 (k.adv a1)
 | .len a,s,σ,H,E,env,nm,kd,loc,x,r,eo,ko,hnd,ht,hc,he,X,hv=>by
  simp only[chkE] at hc;split at hc<;>try cases hc
  simp only[Bool.and_eq_true] at hc;obtain⟨⟨h1,h2⟩,h3⟩:=hc;simp only[EC] at he;refine .plain rfl fun Q k=>Call_ (name_mb R.G eo (ko.isGlob h2) X R.G.hlen.1 R.G.hlen.2 (PyProof.Rows.callWith_builtin1 (args_cons (go ht he k.exk (fun r1 e1 E'=>sndE R a eo ko hnd ht h3 e1 X hv) fun v H1 e1 va h' tk σ' hp X1 a1 q1=>args_nil ?_) (notStar_each h1)) (notStar_each h1)))
  obtain⟨rv,e3,rfl⟩:=tell_some e1;rw[Option.map_eq_some_iff] at e3;obtain⟨l,e3,rfl⟩:=e3;exact sndLen X1 q1 e3 (k.adv a1)
 | .toStr a,s,σ,H,E,env,nm,kd,loc,x,r,eo,ko,hnd,ht,hc,he,X,hv=>by
  simp only[chkE] at hc;split at hc<;>try cases hc
  simp only[Bool.and_eq_true] at hc;obtain⟨⟨h1,h2⟩,h3⟩:=hc;simp only[EC] at he;refine .plain rfl fun Q k=>Call_ (name_mb R.G eo (ko.isGlob h2) X R.G.hstr.1 R.G.hstr.2 (PyProof.Rows.callWith_type1 (args_cons (go ht he k.exk (fun r1 e1 E'=>sndE R a eo ko hnd ht h3 e1 X hv) fun v H1 e1 va h' tk σ' hp X1 a1 q1=>args_nil ?_) (notStar_each h1)) (notStar_each h1)))
  obtain⟨rv,e3,rfl⟩:=tell_some e1;rw[Option.map_eq_some_iff] at e3;obtain⟨l,e3,rfl⟩:=e3;exact sndToStr X1 q1 e3 (k.adv a1)
 | .toInt a,s,σ,H,E,env,nm,kd,loc,x,r,eo,ko,hnd,ht,hc,he,X,hv=>by
  simp only[chkE] at hc;split at hc<;>try cases hc
  simp only[Bool.and_eq_true] at hc;obtain⟨⟨h1,h2⟩,h3⟩:=hc;simp only[EC] at he;refine .plain rfl fun Q k=>Call_ (name_mb R.G eo (ko.isGlob h2) X R.G.hint.1 R.G.hint.2 (PyProof.Rows.callWith_type1 (args_cons (go ht he k.exk (fun r1 e1 E'=>sndE R a eo ko hnd ht h3 e1 X hv) fun v H1 e1 va h' tk σ' hp X1 a1 q1=>args_nil ?_) (notStar_each h1)) (notStar_each h1)))
  obtain⟨rv,e3,rfl⟩:=tell_some e1;rw[Option.map_eq_some_iff] at e3;obtain⟨l,e3,rfl⟩:=e3;exact sndToInt X1 q1 e3 (k.adv a1)
 | .find a b,s,σ,H,E,env,nm,kd,loc,x,r,eo,ko,hnd,ht,hc,he,X,hv=>by
  simp only[chkE] at hc;split at hc<;>try cases hc
  simp only[Bool.and_eq_true,beq_iff_eq] at hc;obtain⟨⟨⟨⟨h1,h2⟩,h3⟩,h4⟩,h5⟩:=hc;simp only[EC] at he;have hm:=name_is h3 nm_find;subst hm;refine .plain rfl fun Q k=>MethodC h1 (form1 h2) fun pl=>go ht he k.exk (fun r1 e1 E'=>sndE R a eo ko hnd ht h4 e1 X hv) fun v H1 e1 va h' tk σ' hp X1 a1 q1=>?_
  split at e1<;>try cases e1
  refine methStr F.slot_str_find F.type_str_find q1 h2 rfl (args_cons (go hp e1 (fun H2 e2=>(k.exk H2 e2).adv a1) (fun r2 e2 E'=>sndE R b eo ko hnd hp h5 e2 X1 (hv.adv0 X a1)) fun v2 H2 e2 vb h2' tk2 σ2 hp2 X2 a2 q2=>args_nil ?_) (notStar_each h2));split at e2<;>try cases e2
  exact sndFind X2 (q1.adv0 a2) q2 ((k.adv (tk:=tk) a1).adv (tk:=tk2) a2)
 | .replace a ch t,s,σ,H,E,env,nm,kd,loc,x,r,eo,ko,hnd,ht,hc,he,X,hv=>by
  simp only[chkE] at hc;split at hc<;>try cases hc
  simp only[Bool.and_eq_true,beq_iff_eq,List.all_eq_true,decide_eq_true_eq] at hc;obtain⟨⟨⟨⟨⟨h1,h2⟩,h3⟩,h4⟩,h5⟩,h6⟩:=hc;simp only[EC] at he;have hm:=name_is h1 nm_replace;subst hm;refine .plain rfl fun Q k=>MethodC h2 rfl fun pl=>go ht he k.exk (fun r1 e1 E'=>sndE R a eo ko hnd ht h5 e1 X hv) fun v H1 e1 va h' tk σ' hp X1 a1 q1=>?_
  split at e1<;>try cases e1
  split at e1<;>try cases e1
  rename_i hk;refine methStr F.slot_str_replace F.type_str_replace q1 rfl rfl (args_cons (Constant_str (args_cons (Constant_str (args_nil ?_)))));have k1:=k.adv (tk:=tk) a1;exact sndReplace X1 q1 h3 h4 (by show tk≠0;omega) (by show tk + 1≠0;omega) (by show tk≠tk + 1;omega) hk.1 hk.2.1 hk.2.2.1 hk.2.2.2 h6 (k1.adv (tk:=tk + 1 + 1) (.refl ..))
 | .join a b,s,σ,H,E,env,nm,kd,loc,x,r,eo,ko,hnd,ht,hc,he,X,hv=>by
  simp only[chkE] at hc;split at hc<;>try cases hc
  simp only[Bool.and_eq_true,beq_iff_eq] at hc;obtain⟨⟨⟨⟨h1,h2⟩,h3⟩,h4⟩,h5⟩:=hc;simp only[EC] at he;have hm:=name_is h3 nm_join;subst hm;refine .plain rfl fun Q k=>MethodC h1 (form1 h2) fun pl=>go ht he k.exk (fun r1 e1 E'=>sndE R a eo ko hnd ht h4 e1 X hv) fun v H1 e1 va h' tk σ' hp X1 a1 q1=>?_
  split at e1<;>try cases e1
  refine methStr F.slot_str_join F.type_str_join q1 h2 rfl (args_cons (go hp e1 (fun H2 e2=>(k.exk H2 e2).adv a1) (fun r2 e2 E'=>sndE R b eo ko hnd hp h5 e2 X1 (hv.adv0 X a1)) fun v2 H2 e2 vb h2' tk2 σ2 hp2 X2 a2 q2=>args_nil ?_) (notStar_each h2));split at e2<;>try cases e2
  rename_i ws hws;split at e2<;>try cases e2
  rename_i hk;rw[Option.bind_eq_some_iff] at hws;obtain⟨l,hl,hws⟩:=hws;exact sndJoin X2 (q1.adv0 a2) q2 hl hws hk.1 hk.2.1 hk.2.2.1 hk.2.2.2 ((k.adv (tk:=tk) a1).adv (tk:=tk2) a2)
 | .split a b,s,σ,H,E,env,nm,kd,loc,x,r,eo,ko,hnd,ht,hc,he,X,hv=>by
  simp only[chkE] at hc;split at hc<;>try cases hc
  simp only[Bool.and_eq_true,beq_iff_eq] at hc;obtain⟨⟨⟨⟨h1,h2⟩,h3⟩,h4⟩,h5⟩:=hc;simp only[EC] at he;have hm:=name_is h3 nm_split;subst hm;refine .plain rfl fun Q k=>MethodC h1 (form1 h2) fun pl=>go ht he k.exk (fun r1 e1 E'=>sndE R a eo ko hnd ht h4 e1 X hv) fun v H1 e1 va h' tk σ' hp X1 a1 q1=>?_
  split at e1<;>try cases e1
  refine methStr F.slot_str_split F.type_str_split q1 h2 rfl (args_cons (go hp e1 (fun H2 e2=>(k.exk H2 e2).adv a1) (fun r2 e2 E'=>sndE R b eo ko hnd hp h5 e2 X1 (hv.adv0 X a1)) fun v2 H2 e2 vb h2' tk2 σ2 hp2 X2 a2 q2=>args_nil ?_) (notStar_each h2));split at e2<;>try cases e2
  split at e2<;>try cases e2
  rename_i hk;exact sndSplit R.hne X2 (q1.adv0 a2) q2 hk ((k.adv (tk:=tk) a1).adv (tk:=tk2) a2)
 | .pop a,s,σ,H,E,env,nm,kd,loc,x,r,eo,ko,hnd,ht,hc,he,X,hv=>by
  simp only[chkE] at hc;split at hc<;>try cases hc
  simp only[Bool.and_eq_true,beq_iff_eq] at hc;obtain⟨⟨h1,h2⟩,h3⟩:=hc;simp only[EC] at he;have hm:=name_is h2 nm_pop;subst hm;refine .plain rfl fun Q k=>MethodC h1 form0 fun pl=>go ht he k.exk (fun r1 e1 E'=>sndE R a eo ko hnd ht h3 e1 X hv) fun v H1 e1 va h' tk σ' hp X1 a1 q1=>?_
  split at e1<;>try cases e1
  split at e1<;>try cases e1
  rename_i l hl;split at e1<;>try cases e1
  rename_i hnil;split at e1<;>try cases e1
  rename_i hb;exact sndPop X1 q1 hl hnil hb (k.adv (tk:=tk) a1)
 | .seal i,s,σ,H,E,env,nm,kd,loc,x,r,eo,ko,hnd,ht,hc,he,X,hv=>by
  simp only[chkE] at hc;split at hc<;>try cases hc
  simp only[Bool.and_eq_true] at hc;simp only[EC] at he;split at he<;>try cases he
  rename_i j hl;split at he<;>try cases he
  rename_i l hg;split at he<;>try cases he
  rename_i hp;simp only[Bool.and_eq_true,decide_eq_true_eq] at hp;refine .plain rfl fun Q k=>name_loc eo hc.1 (ko.var _ hc.2) hv hl fun val q=>?_
  obtain⟨a,rfl,ha⟩:=q.ref_inv;obtain⟨X1,a1,q1⟩:=seal_list X (hget_iff hg) ha;exact k _ s.heap s.toks σ X1 a1 (q1 hp.1)
 | .idx a b,s,σ,H,E,env,nm,kd,loc,x,r,eo,ko,hnd,ht,hc,he,X,hv=>by
  simp only[chkE] at hc;split at hc<;>try cases hc
  simp only[Bool.and_eq_true] at hc;obtain⟨⟨h0,h1⟩,h2⟩:=hc;simp only[EC] at he;refine .plain rfl fun Q k=>Subscript_ (go ht he k.exk (fun r1 e1 E'=>sndE R a eo ko hnd ht h1 e1 X hv) fun v H1 e1 va h' tk σ' hp X1 a1 q1=>?_)
  refine go hp e1 (fun H2 e2=>(k.exk H2 e2).adv a1) (fun r2 e2 E'=>sndE R b eo ko hnd hp h2 e2 X1 (hv.adv0 X a1)) fun v2 H2 e2 vb h2' tk2 σ2 hp2 X2 a2 q2=>?_
  obtain⟨rv,e3,rfl⟩:=tell_some e2;exact sndIdx h0 X2 (q1.adv0 a2) q2 e3 ((k.adv (tk:=tk) a1).adv (tk:=tk2) a2)
 | .sl a lo hi,s,σ,H,E,env,nm,kd,loc,x,r,eo,ko,hnd,ht,hc,he,X,hv=>by
  simp only[chkE] at hc;split at hc<;>try cases hc
  simp only[Bool.and_eq_true] at hc;obtain⟨⟨h1,h2⟩,h3⟩:=hc;rename_i ev el eu p2 pos;simp only[EC] at he;have hlo:∀ {s1:Shared} {σ1:List Addr}{H1:Hp}{Q1 E1:Value->Shared->Prop}{r1:Res V},0 < s1.toks->EC call c.b loc lo H1=some r1->c.Ok s1.heap σ1 H1->Vars nm env s1.heap σ1 H1 loc->Cont c s1 σ1 H1 Q1 E1 r1->wpAny (model prog w) A (evalPart el env) Q1 E1 s1:=by
   intro s1 σ1 H1 Q1 E1 r1 hp e1 X1 hv1 k1;cases el with
   | some x=>exact (sndE R lo eo ko hnd hp h2 e1 X1 hv1).1 _ k1
   | none=>
    cases lo<;>simp only[Bool.false_eq_true] at h2;simp only[EC,Option.some.injEq] at e1;subst e1;exact wpAny_pure (k1.here X1 .none)
  have hhi:∀ {s1:Shared} {σ1:List Addr}{H1:Hp}{Q1 E1:Value->Shared->Prop}{r1:Res V},0 < s1.toks->EC call c.b loc hi H1=some r1->c.Ok s1.heap σ1 H1->Vars nm env s1.heap σ1 H1 loc->Cont c s1 σ1 H1 Q1 E1 r1->wpAny (model prog w) A (evalPart eu env) Q1 E1 s1:=by
   intro s1 σ1 H1 Q1 E1 r1 hp e1 X1 hv1 k1;cases eu with
   | some x=>exact (sndE R hi eo ko hnd hp h3 e1 X1 hv1).1 _ k1
   | none=>
    cases hi<;>simp only[Bool.false_eq_true] at h3;simp only[EC,Option.some.injEq] at e1;subst e1;exact wpAny_pure (k1.here X1 .none)
  refine .plain rfl fun Q k=>Subscript_ (go ht he k.exk (fun r1 e1 E'=>sndE R a eo ko hnd ht h1 e1 X hv) fun v H1 e1 va h' tk σ' hp X1 a1 q1=>wpAny_Slice ?_)
  have k1:=k.adv (tk:=tk) a1;have hv1:=hv.adv0 X a1;refine goP hp e1 k1.exk (fun r2 e2 Q2 E2 k2=>hlo hp e2 X1 hv1 k2) fun v2 H2 e2 vl h2' tk2 σ2 hp2 X2 a2 q2=>?_
  have k2:=k1.adv (tk:=tk2) a2;refine goP hp2 e2 k2.exk (fun r3 e3 Q2 E2 k3=>hhi hp2 e3 X2 (hv1.adv0 X1 a2) k3) fun v3 H3 e3 vu h3' tk3 σ3 hp3 X3 a3 q3=>?_
  obtain⟨rv,e4,rfl⟩:=tell_some e3;exact wpAny_pure (sndSl X3 ((q1.adv0 a2).adv0 a3) (q2.adv0 a3) q3 e4 (k2.adv (tk:=tk3) a3))
 | .tup es,s,σ,H,E,env,nm,kd,loc,x,r,eo,ko,hnd,ht,hc,he,X,hv=>by
  simp only[chkE] at hc;split at hc<;>try cases hc
  simp only[EC] at he;refine .plain rfl fun Q k=>Tuple_ (goL ht he k.exk (fun r1 e1 E'=>sndEs R es eo ko hnd ht hc e1 X hv) fun vs H1 e1 vals h' tk σ' hp X1 a1 q1=>?_)
  split at e1<;>try cases e1
  rename_i hz;exact new_tup X1 q1 hz (k.adv (tk:=tk) a1)
 | .lstF es,s,σ,H,E,env,nm,kd,loc,x,r,eo,ko,hnd,ht,hc,he,X,hv=>by
  simp only[chkE] at hc;split at hc<;>try cases hc
  simp only[EC] at he;refine .plain rfl fun Q k=>List_ (goL ht he k.exk (fun r1 e1 E'=>sndEs R es eo ko hnd ht hc e1 X hv) fun vs H1 e1 vals h' tk σ' hp X1 a1 q1=>?_)
  split at e1<;>try cases e1
  rename_i hz;simp only[Bool.and_eq_true,decide_eq_true_eq] at hz;exact new_lst X1 q1 hz.2 (k.adv (tk:=tk) a1)
 | .lstM es,s,σ,H,E,env,nm,kd,loc,x,r,eo,ko,hnd,ht,hc,he,X,hv=>by
  simp only[chkE] at hc;split at hc<;>try cases hc
  simp only[EC] at he;refine .plain rfl fun Q k=>List_ (goL ht he k.exk (fun r1 e1 E'=>sndEs R es eo ko hnd ht hc e1 X hv) fun vs H1 e1 vals h' tk σ' hp X1 a1 q1=>?_)
  split at e1<;>try cases e1
  rename_i hz;exact new_mut X1 q1 hz (k.adv (tk:=tk) a1)
 | .comp e i m,s,σ,H,E,env,nm,kd,loc,x,r,eo,ko,hnd,ht,hc,he,X,hv=>by
  obtain⟨elt,y,p,id,q,k,cpos,scope,pos,rfl,K,hg,h1,h2,h3⟩:=chk_comp hc;refine .plain rfl fun Q kk=>?_
  rw[eval_ListComp];refine compCore R eo ko hnd ht K hg h3 X hv (fun r1 e1 E'=>sndE R m eo ko hnd ht h1 e1 X hv) (fun eo' ko' hp e' X' hv'=>sndE R e eo' ko' hnd hp h2 e' X' hv') he kk.exk (fun l H2 j D C h' tk σ' hr hpure hl hd hp X' a' hC hn hbC hfC=>?_);obtain⟨m',hn⟩:=hn;refine⟨m',hn,fun h'' hs''=>?_⟩;subst hr;obtain⟨X1,a1,q1⟩:=seal_list X' hl hd;obtain⟨X2,a2⟩:=changeF (O:=fun a=>a=C) (h':=h'') X1 (a'.trans a1) (fun a z=>by rw[z];exact hC) (fun b o hb e=>hs''.extBut b o hb e) (fun a z=>by subst z;exact⟨hbC,ns_noseq hn,.inr hfC⟩);exact kk _ h'' tk σ' X2 a2 (VR.mono (fun b o hb e hs=>hs''.extBut b o (by rintro rfl;exact ns_noseq hn o e hs) e) (fun _ q _=>q) (fun _ _ q=>q) (q1 hpure))
theorem sndEs (R:Rdy prog w c A call n):∀ (es:Mine.Es){s:Shared} {σ : List Addr}{H:Hp}{E:Value->Shared->Prop}{env:Env}{nm:List Txt}{kd:Str->Option NameKind}{loc:Loc}{xs:List Expr}{r:Res (List V)},
  EnvOk env->KdOk kd env->nm.Nodup->0 < s.toks->chkEs nm kd es xs=true->ED call c.b loc es H=some r->c.Ok s.heap σ H->Vars nm env s.heap σ H loc->BothL prog w A env c s σ H E xs r
 | .nil,s,σ,H,E,env,nm,kd,loc,x,r,eo,ko,hnd,ht,hc,he,X,hv=>by
  simp only[chkEs,List.isEmpty_iff] at hc;subst hc;simp only[ED,Option.some.injEq] at he;subst he;exact fun pos QL k=>args_nil (k [] s.heap s.toks σ X (.refl ..) .nil)
 | .cons e es,s,σ,H,E,env,nm,kd,loc,x,r,eo,ko,hnd,ht,hc,he,X,hv=>by
  simp only[chkEs] at hc;split at hc<;>try cases hc
  simp only[Bool.and_eq_true] at hc;obtain⟨⟨h0,h1⟩,h2⟩:=hc;simp only[ED] at he;refine fun pos QL k=>args_cons (go ht he k.exk (fun r1 e1 E'=>sndE R e eo ko hnd ht h1 e1 X hv) fun v H1 e1 va h' tk σ' hp X1 a1 q1=>?_) (notStar_each h0)
  refine goL hp e1 (fun H2 e2=>(k.exk H2 e2).adv a1) (fun r1 e1 E'=>sndEs R es eo ko hnd hp h2 e1 X1 (hv.adv0 X a1)) fun vs H2 e2 vals h2' tk2 σ2 hp2 X2 a2 q2=>?_
  simp only[Option.some.injEq] at e2;subst e2;exact k _ h2' tk2 σ2 X2 (a1.trans a2) (.cons (q1.adv0 a2) q2)
end
end
end Mine
end
section
open PySem PySem.W PyProof.Rows PySem.Calls PySem.Builtin.Str
namespace Mine
def ExcX (fl:Value->Prop) (base:Heap) (C:Value) (h0:Heap) (e:Addr) (h:Heap):Prop:=
 h0.get? e=none/\base.get? e=none/\∃ oe vs a0,h.get? e=some oe/\oe.cls=C/\oe.data=.fields vs/\vs[0]?=some a0/\
  (vs[1]?=some .none\/∃ T oT ts f,vs[1]?=some (.ref T)/\h0.get? T=none/\base.get? T=none/\T≠e/\h.get? T=some oT/\oT.data=.fields ts/\ts[3]?=some f/\fl f)
def ExcT (f:Value) (base:Heap) (C:Value) (h0:Heap) (e:Addr) (h:Heap):Prop:=
 h0.get? e=none/\base.get? e=none/\∃ oe vs a0 T oT ts,h.get? e=some oe/\oe.cls=C/\oe.data=.fields vs/\vs[0]?=some a0/\
  vs[1]?=some (.ref T)/\h0.get? T=none/\base.get? T=none/\T≠e/\h.get? T=some oT/\oT.data=.fields ts/\ts[3]?=some f
abbrev ExcO (L:Addr):=ExcX fun f=>f=.none\/f=rawInt L
theorem Exc.x {base:Heap}{C:Value}{h0 h:Heap}{e:Addr}(x:Exc base C h0 e h){fl:Value->Prop}(hf:fl .none):ExcX fl base C h0 e h:=by
 obtain⟨a,b,oe,vs,a0,h1,h2,h3,h4,h5⟩:=x;refine⟨a,b,oe,vs,a0,h1,h2,h3,h4,h5.imp id ?_⟩
 rintro ⟨T,oT,ts,r1,r2,r3,r4,r5,r6,r7⟩
 exact⟨T,oT,ts,_,r1,r2,r3,r4,r5,r6,r7,hf⟩
theorem ExcT.x {f:Value}{base:Heap}{C:Value}{h0 h:Heap}{e:Addr}(x:ExcT f base C h0 e h){fl:Value->Prop}(hf:fl f):ExcX fl base C h0 e h:=by
 obtain⟨a,b,oe,vs,a0,T,oT,ts,h1,h2,h3,h4,r1,r2,r3,r4,r5,r6,r7⟩:=x;exact⟨a,b,oe,vs,a0,h1,h2,h3,h4,.inr ⟨T,oT,ts,_,r1,r2,r3,r4,r5,r6,r7,hf⟩⟩
theorem ExcT.exc {base:Heap}{C:Value}{h0 h:Heap}{e:Addr}(x:ExcT .none base C h0 e h):Exc base C h0 e h:=by
 obtain⟨a,b,oe,vs,a0,T,oT,ts,h1,h2,h3,h4,r1,r2,r3,r4,r5,r6,r7⟩:=x;exact⟨a,b,oe,vs,a0,h1,h2,h3,h4,.inr ⟨T,oT,ts,r1,r2,r3,r4,r5,r6,r7⟩⟩
theorem ok_after {base:Heap}{envs:List Env}{b:Nat}{lim:Nat->Option Nat}{O:Addr->Prop}{h0 h h':Heap} {σ0 σ : List Addr}{H0 H:Hp}(X:FRx base envs b lim h σ H) (a1:Adv O h0 σ0 H0 h σ H){P:Addr->Prop}
  (hP:∀ a,P a->base.get? a=none/\h0.get? a=none/\(∀ o,h.get? a=some o->∃ vs,o.data=.fields vs))
  (hk:∀ b o,¬ P b->b ∉ envs.filterMap (·.frame)->h.get? b=some o->h'.get? b=some o)
  (hf:∀ b o,h.get? b=some o->(∀ vs,o.data≠.fields vs)->∃ sl,h'.get? b=some { o with slots:=sl }) :
  FRx base envs b lim h' σ H/\Adv O h0 σ0 H0 h' σ H:=by
 have fr:∀ a,a∈envs.filterMap (·.frame)->∃ m,h.Ns a m:=fun a ha=>by
  obtain⟨env,he,hf⟩:=List.mem_filterMap.mp ha;exact X.frd env he a hf
 have ns:∀ a m,h.Ns a m->h'.Ns a m:=fun a m ⟨o,es,ep,ho,hd,r⟩=>by
  obtain⟨sl,hs⟩:=hf a o ho fun vs q=>by rw[hd] at q;cases q
  exact⟨_,es,ep,hs,hd,r⟩
 have seq:∀ b o,h.get? b=some o->IsSeq o->h'.get? b=some o:=fun b o e hs=>hk b o
  (fun z=>by obtain⟨vs,q⟩:=(hP b z).2.2 o e;obtain⟨arr,n,q'⟩:=hs;rw[q] at q';cases q')
  (fun z=>by obtain⟨m,hn⟩:=fr b z;exact ns_noseq hn o e hs) e
 refine⟨{ stays:=fun b o e=>hk b o (fun z=>?_) (fun z=>?_) (X.stays b o e),frames:=X.frames.of_keeps fun b o ho hd=>let ⟨sl,e⟩:=hf b o ho hd;⟨_,e,rfl⟩,frd:=fun env he L hL=>let ⟨m,hn⟩:=X.frd env he L hL;⟨m,ns L m hn⟩,len:=X.len,nodup:=X.nodup,apart:=X.apart,dom:=fun a ha=>?_,objs:=fun i l e=>?_,loc:=X.loc,blen:=X.blen,hi:=X.hi,hs:=X.hs },
  fun b o hb e=>?_,a1.pre,a1.live,fun a o e=>?_⟩
 ·rw[(hP b z).1] at e;cases e
 ·rw[(X.frames.mem z).1] at e;cases e
 ·obtain⟨arr,n,e⟩:=X.dom a ha;exact⟨arr,n,seq a _ e ⟨_,_,rfl⟩⟩
 ·obtain⟨a,arr,n,h1,h2,h3,h4⟩:=X.objs i l e;exact⟨a,arr,n,h1,seq a _ h2 ⟨_,_,rfl⟩,h3,VRs.mono (fun b o _ e hs=>seq b o e hs) (fun _ q _=>q) (fun _ _ q=>q) h4⟩
 ·have nP:¬ P b:=fun z=>by rw[(hP b z).2.1] at e;cases e
  rcases a1.step b o hb e with q | ⟨⟨m,hm⟩,q⟩
  ·by_cases hfr:b∈envs.filterMap (·.frame)
   ·obtain⟨m,o',es,ep,ho,r⟩:=fr b hfr;rw[q] at ho;cases ho;refine .inr ⟨⟨m,o,es,ep,e,r⟩,fun m' hm'=>ns b m' ?_⟩;obtain⟨o'',es',ep',ho',r'⟩:=hm';rw[e] at ho';cases ho';exact⟨o,es',ep',q,r'⟩
   ·exact .inl (hk b o nP hfr q)
  ·exact .inr ⟨⟨m,hm⟩,fun m' hm'=>ns b m' (q m' hm')⟩
 ·obtain⟨o',e'⟩:=a1.dom a o e;have nP:¬ P a:=fun z=>by rw[(hP a z).2.1] at e;cases e
  by_cases hfr:a∈envs.filterMap (·.frame)
  ·obtain⟨m,hn⟩:=fr a hfr;obtain⟨o'',_,_,ho,_⟩:=ns a m hn;exact⟨o'',ho⟩
  ·exact⟨o',hk a o' nP hfr e'⟩
theorem hidden_frames {base h h':Heap}{S:List Addr}:∀ {l:List Env},h.FunFrames base l->(∀ env∈l,∀ a,env.frame=some a->a∈S)->h.FunFrames (hideAll h' S) l
 | [],_,_=>trivial
 | _::_,⟨hk,⟨L,o,hf,hn,ho,hd⟩,hr⟩,hS=>⟨hk,⟨L,o,hf,hideAll_none S (hS _ List.mem_cons_self L hf),ho,hd⟩,hidden_frames hr fun env he=>hS env (List.mem_cons_of_mem _ he)⟩
section
variable {M:Model}{A:Around}{E:Value->Shared->Prop}{s:Shared}{c:Cx} {σ σ0:List Addr}{H H0:Hp}{h0:Heap}{O:Addr->Prop}{env:Env}{outer:List Env}{L e:Addr}{Q:Unit->Shared->Prop}
theorem exc_note (hen:c.envs=env::outer) (hfr:A.frames=some c.envs) (hf:env.frame=some L) (X:c.Ok s.heap σ H) (a1:Adv O h0 σ0 H0 s.heap σ H) (hx:ExcO L c.base c.C h0 e s.heap)
  (k:∀ h',c.Ok h' σ H->Adv O h0 σ0 H0 h' σ H->ExcT (rawInt L) c.base c.C h0 e h'->Q () { s with heap:=h' }):wpAny M A (noteFrame (.ref e) env) Q E s:=by
 obtain⟨hn,hbn,oe,vs,a0,he,hcl,hd,hv0,hv1⟩:=hx;have hfr':A.frames=some (env::outer):=by rw[<- hen];exact hfr
 have XF:s.heap.FunFrames c.base (env::outer):=by rw[<- hen];exact X.frames
 have noframe:∀ a o,s.heap.get? a=some o->(∃ vs,o.data=.fields vs)->a ∉ c.envs.filterMap (·.frame):=fun a o ha ⟨vs,hd⟩ hm=>by
  obtain⟨_,o',ho',hnd⟩:=X.frames.mem hm;rw[ha] at ho';cases ho';exact hnd vs hd
 have fin:∀ (S:List Addr),(∀ a,a∈S↔(a∈c.envs.filterMap (·.frame)\/a=e\/vs[1]?=some (.ref a)))->(∀ T,vs[1]?=some (.ref T)->h0.get? T=none/\c.base.get? T=none/\∃ oT ts,s.heap.get? T=some oT/\oT.data=.fields ts)->
   ∀ h',Heap.NotedW (hideAll s.heap S) (env::outer) e oe.cls a0 (rawInt L) s.heap h'->Q () { s with heap:=h' }:=by
  intro S hS hT h' ⟨n1,n2,n3,n4⟩;obtain⟨X',a'⟩:=ok_after (h':=h') X a1 (P:=fun a=>a=e\/vs[1]?=some (.ref a)) (fun a z=>by
   rcases z with rfl | z
   ·exact⟨hbn,hn,fun o ho=>by rw[he] at ho;cases ho;exact⟨vs,hd⟩⟩
   ·obtain⟨q1,q2,oT,ts,q3,q4⟩:=hT a z;exact⟨q2,q1,fun o ho=>by rw[q3] at ho;cases ho;exact⟨ts,q4⟩⟩)
   (fun b o hb hfb ho=>n1 b o (hideAll_get S ho fun z=>by
    rcases (hS b).mp z with z | z
    ·exact hfb z
    ·exact hb z)) n4
  obtain⟨oe',vs',T',oT',ts',m1,⟨m2,m3⟩,m4,m5,m6,m7,m8,m9,m10⟩:=n3;have hT':h0.get? T'=none/\c.base.get? T'=none:=by
   by_cases hin:T'∈S
   ·rcases (hS T').mp hin with z | z | z
    ·exfalso;obtain⟨env',he',hf'⟩:=List.mem_filterMap.mp z;obtain⟨m,o,es,ep,ho,hdd,_⟩:=X'.frd env' he' T' hf';rw[m8] at ho;cases ho;rw[m9] at hdd;cases hdd
    ·exact absurd z m7
    ·exact⟨(hT T' z).1,(hT T' z).2.1⟩
   ·have hno:s.heap.get? T'=none:=by
     cases q:s.heap.get? T' with
     | none=>rfl
     | some o=>rw[hideAll_get S q hin] at m6;cases m6
    exact⟨a1.old hno,base_none X hno⟩
  exact k h' X' a' ⟨hn,hbn,oe',vs',a0,T',oT',ts',m1,m2.trans hcl,m4,m3,m5,hT'.1,hT'.2,m7,m8,m9,m10⟩
 have hid:∀ (S:List Addr),(hideAll s.heap S).StaysIn s.heap:=fun S b o e=>of_hideAll S e
 have hsub:∀ S:List Addr,(∀ a,a∈c.envs.filterMap (·.frame)->a∈S)->∀ env'∈env::outer,∀ a,env'.frame=some a->a∈S:=fun S hS env' he' a ha=>hS a (List.mem_filterMap.mpr ⟨env',by rw[hen];exact he',ha⟩)
 rcases hv1 with hv1 | ⟨T,oT,ts,f,hv1,hT0,hTb,hTe,hT,hTd,hT3,hfl⟩
 ·unfold noteFrame;simp only[hf];refine wpAny_bind (wpAny_field he hd hv1 ?_);rw[if_neg (by decide)]
  let S:=e::c.envs.filterMap (·.frame)
  have hS:∀ a,a∈S↔(a∈c.envs.filterMap (·.frame)\/a=e\/vs[1]?=some (.ref a)):=fun a=>by
   simp only[S,List.mem_cons];constructor
   ·rintro (z | z)
    ·exact .inr (.inl z)
    ·exact .inl z
   ·rintro (z | z | z)
    ·exact .inr z
    ·exact .inl z
    ·rw[hv1] at z;cases z
  exact wpAny_entryW (base:=hideAll s.heap S) hfr' (hidden_frames XF (hsub S fun a ha=>List.mem_cons_of_mem _ ha)) hf he (hid S) (hideAll_none S List.mem_cons_self) hd (Array.getElem?_eq_some_iff.mp hv1).1 hv0 (fin S hS fun T z=>by rw[hv1] at z;cases z)
 ·rcases hfl with rfl | rfl
  ·let S:=e::T::c.envs.filterMap (·.frame)
   have hS:∀ a,a∈S↔(a∈c.envs.filterMap (·.frame)\/a=e\/vs[1]?=some (.ref a)):=fun a=>by
    simp only[S,List.mem_cons];constructor
    ·rintro (z | z | z)
     ·exact .inr (.inl z)
     ·exact .inr (.inr (by rw[z];exact hv1))
     ·exact .inl z
    ·rintro (z | z | z)
     ·exact .inr (.inr z)
     ·exact .inl z
     ·rw[hv1] at z;cases z;exact .inr (.inl rfl)
   have ht:s.heap.TracedW (hideAll s.heap S) e oe.cls a0:=⟨oe,vs,T,oT,ts,he,⟨rfl,hv0⟩,hd,hv1,hideAll_none S (List.mem_cons_of_mem _ List.mem_cons_self),hTe,hT,hTd,hT3⟩
   exact wpAny_noteFrame_onW (base:=hideAll s.heap S) hfr' (hidden_frames XF (hsub S fun a ha=>List.mem_cons_of_mem _ (List.mem_cons_of_mem _ ha))) hf ht (hid S) (hideAll_none S List.mem_cons_self)
    (fin S hS fun T' z=>by rw[hv1] at z;cases z;exact⟨hT0,hTb,oT,ts,hT,hTd⟩)
  ·refine wpAny_noteFrame_againW (base:=c.base) (cls:=oe.cls) (a0:=a0) hf ⟨oe,vs,T,oT,ts,he,⟨rfl,hv0⟩,hd,hv1,hTb,hTe,hT,hTd,hT3⟩ ?_;exact k s.heap X a1 ⟨hn,hbn,oe,vs,a0,T,oT,ts,he,hcl,hd,hv0,hv1,hT0,hTb,hTe,hT,hTd,hT3⟩
theorem exc_fly {f:Value}(fr:Option Addr) (X:c.Ok s.heap σ H) (a1:Adv O h0 σ0 H0 s.heap σ H) (hx:ExcT f c.base c.C h0 e s.heap)
  (k:∀ h',c.Ok h' σ H->Adv O h0 σ0 H0 h' σ H->ExcT (fr.elim .none fun a=>rawInt a) c.base c.C h0 e h'->Q () { s with heap:=h' }):wpAny M A (setFlight (.ref e) fr) Q E s:=by
 obtain⟨hn,hbn,oe,vs,a0,T,oT,ts,he,hcl,hd,hv0,hv1,hT0,hTb,hTe,hT,hTd,hT3⟩:=hx;have hsz3 : 3 < ts.size:=(Array.getElem?_eq_some_iff.mp hT3).1;have other:∀ b,b≠T->(s.heap.update T (Obj.mapFields (·.setIfInBounds 3 (fr.elim Value.none fun f=>rawInt f)))).get? b=s.heap.get? b:=
  fun b hb=>Heap.get?_update_other _ _ (Ne.symm hb)
 unfold setFlight;refine wpAny_bind (wpAny_field he hd hv1 ?_);rw[if_pos (show (Value.ref T != Value.none)=true from by simp)];refine wpAny_setField hT hTd hsz3 ?_;obtain⟨X',a'⟩:=ok_after (h':=s.heap.update T (Obj.mapFields (·.setIfInBounds 3 (fr.elim Value.none fun f=>rawInt f)))) X a1 (P:=fun a=>a=T)
  (fun a z=>by subst z;exact⟨hTb,hT0,fun o ho=>by rw[hT] at ho;cases ho;exact⟨ts,hTd⟩⟩) (fun b o hb _ ho=>(other b hb).trans ho)
  (fun b o ho hnf=>⟨o.slots,(other b (fun q=>by rw[q,hT] at ho;cases ho;exact hnf ts hTd)).trans ho⟩)
 exact k _ X' a' ⟨hn,hbn,oe,vs,a0,T,_,_,(other e (Ne.symm hTe)).trans he,hcl,hd,hv0,hv1,hT0,hTb,hTe,Heap.get?_update_self _ hT (Obj.isFreed_of_fields (Obj.data_mapFields hTd _)),Obj.data_mapFields hTd _,by simp[hsz3]⟩
theorem exc_up (hen:c.envs=env::outer) (hfr:A.frames=some c.envs) (hf:env.frame=some L){s1:Shared}{E1:Value->Shared->Prop}(X:c.Ok s.heap σ H) (a1:Adv O h0 σ0 H0 s.heap σ H) (hx:ExcO L c.base c.C h0 e s.heap)
  (k:∀ h',c.Ok h' σ H->Adv O h0 σ0 H0 h' σ H->ExcO L c.base c.C h0 e h'->E1 (.ref e) { s with heap:=h' }):notedBy M A env (cameBackBy M A env E1) (.ref e) s:=by
 unfold notedBy;refine exc_note hen hfr hf X a1 hx fun h1 X1 a1 x1=>?_
 unfold cameBackBy;have x1':=x1;obtain⟨hn,hbn,oe,vs,a0,T,oT,ts,he,hcl,hd,hv0,hv1,_⟩:=x1;refine wpAny_bind (wpAny_field (s:={ s with heap:=h1 }) he hd hv1 ?_);rw[if_neg (show ¬ ((Value.ref T==Value.none)=true) from by simp)]
 first
  | exact wpAny_bind (wpAny_pure (exc_fly (s:={ s with heap:=h1 }) env.frame X1 a1 x1' fun h2 X2 a2 x2=>k h2 X2 a2 (x2.x (by rw[hf];exact .inr rfl))))
  | exact exc_fly (s:={ s with heap:=h1 }) env.frame X1 a1 x1' fun h2 X2 a2 x2=>k h2 X2 a2 (x2.x (by rw[hf];exact .inr rfl))
theorem exc_leave (hen:c.envs=env::outer) (hfr:A.frames=some c.envs) (hf:env.frame=some L) (X:c.Ok s.heap σ H) (a1:Adv O h0 σ0 H0 s.heap σ H) (hx:ExcO L c.base c.C h0 e s.heap)
  (k:∀ h',c.Ok h' σ H->Adv O h0 σ0 H0 h' σ H->Exc c.base c.C h0 e h'->Q () { s with heap:=h' }):wpAny M A (leaving env (.ref e)) Q E s:=by
 unfold leaving;exact wpAny_bind (exc_note hen hfr hf X a1 hx fun h1 X1 a1 x1=>exc_fly (s:={ s with heap:=h1 }) none X1 a1 x1 fun h2 X2 a2 x2=>k h2 X2 a2 x2.exc)
end
end Mine
end
section
open PySem PySem.W PyProof.Rows PySem.Calls PySem.Builtin.Str
namespace Mine
theorem adv00 (O:Addr->Prop) (h:Heap) (σ : List Addr) (H:Hp):Adv O h00 [] [] h σ H where
 step:=fun b o _ e=>by rw[h00_none] at e;cases e
 pre:=fun i b e=>by simp at e
 live:=fun b _ ⟨o,e⟩=>by rw[h00_none] at e;cases e
 dom:=fun b o e=>by rw[h00_none] at e;cases e
structure FnE (c:Cx) (env:Env):Prop where
 eo:EnvOk env
 head:∃ outer,c.envs=env::outer
 loc:env.frame=some env.locals
 inj:∀ x y a,env.cells.lookup x=some a->env.cells.lookup y=some a->x=y
 cb:∀ x a,env.cells.lookup x=some a->c.base.get? a=none
def Own (env:Env) (a:Addr):Prop:=a=env.locals\/∃ x,env.cells.lookup x=some a
def Fm (env:Env) (h:Heap):Prop:=(∃ m,h.Ns env.locals m)/\∀ x a,env.cells.lookup x=some a->∃ v,h.IsCell a v
theorem cell_noseq {h:Heap}{a:Addr}{v:Option Value}(hc:h.IsCell a v):∀ o,h.get? a=some o->¬ IsSeq o:=fun o e ⟨arr,n,q⟩=>by
 obtain⟨o',e',hd⟩:=hc;rw[e] at e';cases e';rw[q] at hd;cases hd
theorem Fm.noseq {env:Env}{h:Heap}(f:Fm env h):∀ a o,Own env a->h.get? a=some o->¬ IsSeq o:=fun a o z e=>by
 rcases z with rfl | ⟨x,hx⟩
 ·obtain⟨m,hn⟩:=f.1;exact ns_noseq hn o e
 ·obtain⟨v,hc⟩:=f.2 x a hx;exact cell_noseq hc o e
theorem Fm.adv0 {c:Cx}{env:Env}{h h':Heap} {σ σ':List Addr}{H H':Hp}(f:Fm env h) (X:c.Ok h σ H) (a:Adv No h σ H h' σ' H'):Fm env h':=
 ⟨f.1.imp fun m hn=>ns_step a.step hn fun z=>z.elim (fun z=>by obtain⟨arr,k,q⟩:=X.live_seq z;exact ns_noseq hn _ q ⟨_,_,rfl⟩) fun z=>z,
  fun x b hx=>(f.2 x b hx).imp fun v hc=>cell_step a.step hc fun z=>z.elim (fun z=>by obtain⟨arr,k,q⟩:=X.live_seq z;exact cell_noseq hc _ q ⟨_,_,rfl⟩) fun z=>z⟩
theorem ExcX.adv {fl:Value->Prop}{base:Heap}{C:Value}{O:Addr->Prop}{h h₁ h₂ : Heap} {σ σ₁ : List Addr}{H H₁ : Hp}{e:Addr}(x:Adv O h σ H h₁ σ₁ H₁) (q:ExcX fl base C h₁ e h₂):ExcX fl base C h e h₂:=by
 obtain⟨a1,a2,oe,vs,a0,b1,b2,b3,b4,b5⟩:=q;refine⟨x.old a1,a2,oe,vs,a0,b1,b2,b3,b4,b5.imp id ?_⟩
 rintro ⟨T,oT,ts,f,c1,c2,r⟩
 exact⟨T,oT,ts,f,c1,x.old c2,r⟩
def ContS (c:Cx) (env:Env) (nm:List Txt) (s:Shared) (σ : List Addr) (H:Hp) (Q:Flow->Shared->Prop) (E:Value->Shared->Prop):RS->Prop
 | .next l H'=>∀ h' tk σ',0 < tk->c.Ok h' σ' H'->Adv (Own env) s.heap σ H h' σ' H'->Vars nm env h' σ' H' l->Fm env h'->Q .next { s with heap:=h',toks:=tk }
 | .cont l H'=>∀ h' tk σ',0 < tk->c.Ok h' σ' H'->Adv (Own env) s.heap σ H h' σ' H'->Vars nm env h' σ' H' l->Fm env h'->Q .cont { s with heap:=h',toks:=tk }
 | .ret v H'=>∀ val h' tk σ',c.Ok h' σ' H'->Adv (Own env) s.heap σ H h' σ' H'->VR h' (Live σ' H') σ' val v->Q (.ret val) { s with heap:=h',toks:=tk }
 | .exc H'=>∀ e h' tk σ',c.Ok h' σ' H'->Adv (Own env) s.heap σ H h' σ' H'->ExcO env.locals c.base c.C s.heap e h'->E (.ref e) { s with heap:=h',toks:=tk }
theorem ContS.adv {c:Cx}{env:Env}{nm:List Txt}{s:Shared} {σ σ₁ : List Addr}{H H₁ : Hp}{Q:Flow->Shared->Prop}{E:Value->Shared->Prop}{r:RS}(k:ContS c env nm s σ H Q E r){h₁ : Heap}{tk:Nat}(x:Adv (Own env) s.heap σ H h₁ σ₁ H₁) :
  ContS c env nm { s with heap:=h₁,toks:=tk } σ₁ H₁ Q E r:=by
 cases r with
 | next l H'=>exact fun h' tk σ' hp a b d f=>k h' tk σ' hp a (x.trans b) d f
 | cont l H'=>exact fun h' tk σ' hp a b d f=>k h' tk σ' hp a (x.trans b) d f
 | ret v H'=>exact fun val h' tk σ' a b d=>k val h' tk σ' a (x.trans b) d
 | exc H'=>exact fun e h' tk σ' a b d=>k e h' tk σ' a (x.trans b) (d.adv x)
theorem Adv.own {env:Env}{h h₁ : Heap} {σ σ₁ : List Addr}{H H₁ : Hp}(x:Adv No h σ H h₁ σ₁ H₁):Adv (Own env) h σ H h₁ σ₁ H₁:=x.weaken fun _ z _=>z.elim
theorem ContS.adv0 {c:Cx}{env:Env}{nm:List Txt}{s:Shared} {σ σ₁ : List Addr}{H H₁ : Hp}{Q:Flow->Shared->Prop}{E:Value->Shared->Prop}{r:RS}(k:ContS c env nm s σ H Q E r){h₁ : Heap}{tk:Nat}(x:Adv No s.heap σ H h₁ σ₁ H₁) :
  ContS c env nm { s with heap:=h₁,toks:=tk } σ₁ H₁ Q E r:=k.adv x.own
theorem ContS.exk {c:Cx}{env:Env}{nm:List Txt}{s:Shared} {σ : List Addr}{H:Hp}{Q:Flow->Shared->Prop}{E:Value->Shared->Prop}{r:RS}(k:ContS c env nm s σ H Q E r):∀ H1,r=.exc H1->ExcK c s σ H E H1:=by
 rintro H1 rfl e h' tk σ' X a x
 exact k e h' tk σ' X a.own (x.x (.inl rfl))
section
variable {prog:Program}{w:World}{A:Around}{c:Cx}{call:Nat->List V->Hp->Option (Res V)}{n:Nat}
variable {s:Shared} {σ : List Addr}{H:Hp}{E:Value->Shared->Prop}{env:Env}{nm:List Txt}{loc:Loc}
theorem bndS_go {x:Option (Res V)}{f:V->Hp->Option RS}{r:RS}(hb:EF x f=some r) :
  (∃ v H1,x=some (.ok v H1)/\f v H1=some r)\/∃ H1,x=some (.exc H1)/\r=.exc H1:=by
 unfold EF at hb;split at hb
 ·exact .inl ⟨_,_,rfl,hb⟩
 ·cases hb;exact .inr ⟨_,rfl,rfl⟩
 ·cases hb
theorem goS {e:Expr}{x:Option (Res V)}{f:V->Hp->Option RS}{r:RS}{Q1:Value->Shared->Prop}(ht : 0 < s.toks) (hb:EF x f=some r) (hx:∀ H1,r=.exc H1->ExcK c s σ H E H1)
  (ih:∀ r1,x=some r1->∀ E',Both prog w A env c s σ H E' e r1)
  (k:∀ v H1,f v H1=some r->∀ val h' tk σ',0 < tk->c.Ok h' σ' H1->Adv No s.heap σ H h' σ' H1->VR h' (Live σ' H1) σ' val v->Q1 val { s with heap:=h',toks:=tk }) :
  wpAny (model prog w) A (eval e env) Q1 E s:=by
 refine wpAny_with_toks (n:=1) ht ?_;rcases bndS_go hb with ⟨v,H1,e1,e2⟩ | ⟨H1,e1,rfl⟩
 ·exact (ih _ e1 _).1 _ fun val h' tk σ' X a q hp=>k v H1 e2 val h' tk σ' hp X a q
 ·exact (ih _ e1 _).1 _ (hx H1 rfl).pos
theorem goST {e:Expr}{x:Option (Res V)}{f:V->Hp->Option RS}{r:RS}{Q1:Bool->Shared->Prop}(ht : 0 < s.toks) (hb:EF x f=some r) (hx:∀ H1,r=.exc H1->ExcK c s σ H E H1)
  (hbool:∀ v H1,f v H1=some r->∃ b,v=.bool b)
  (ih:∀ r1,x=some r1->∀ E',Both prog w A env c s σ H E' e r1)
  (k:∀ b H1,f (.bool b) H1=some r->∀ h' tk σ',0 < tk->c.Ok h' σ' H1->Adv No s.heap σ H h' σ' H1->Q1 b { s with heap:=h',toks:=tk }) :
  wpAny (model prog w) A (isTrue e env (eval e env)) Q1 E s:=by
 refine wpAny_with_toks (n:=1) ht ?_;rcases bndS_go hb with ⟨v,H1,e1,e2⟩ | ⟨H1,e1,rfl⟩
 ·obtain⟨b,rfl⟩:=hbool v H1 e2;exact (ih _ e1 _).2 _ ⟨b,rfl,fun h' tk σ' X a hp=>k b H1 e2 h' tk σ' hp X a⟩
 ·exact (ih _ e1 _).2 _ (hx H1 rfl).pos
theorem store {M:Model}{id:Str}{i:Nat}{val:Value}{v:V}{Q:Unit->Shared->Prop}(F:FnE c env) (hnd:nm.Nodup) (hl:isLoc nm i id=true) (hk:env.kindOf id=some .local\/env.kindOf id=some .cell)
  (X:c.Ok s.heap σ H) (hv:Vars nm env s.heap σ H loc) (f:Fm env s.heap) (q:VR s.heap (Live σ H) σ val v)
  (k:∀ h' tk,c.Ok h' σ H->Adv (Own env) s.heap σ H h' σ H->Vars nm env h' σ H (loc.set i (some v))->Fm env h'->(s.toks<=tk)->Q () { s with heap:=h',toks:=tk }) :
  wpAny M A (storeName env id val) Q E s:=by
 obtain⟨hl1,_,_⟩:=isLoc_iff hl;have hidx:∀ j z,nm[j]?=some (tx z)->z=id->j=i:=fun j z hz hzi=>by
  subst hzi;have h1:=(List.getElem?_eq_some_iff.mp hl1).1;obtain⟨h2,e2⟩:=List.getElem?_eq_some_iff.mp hz;obtain⟨h3,e3⟩:=List.getElem?_eq_some_iff.mp hl1;exact (List.getElem_inj hnd).mp (e2.trans e3.symm)
 have fin:∀ (a:Addr) (h':Heap) (tk:Nat),Own env a->Heap.SameBut a s.heap h'->(∀ o,s.heap.get? a=some o->¬ IsSeq o)->c.base.get? a=none->(∃ o,h'.get? a=some o)->((∃ m,h'.Ns a m)\/∀ env∈c.envs,env.frame≠some a)->
   Fm env h'->LocAt env h' id val->(∀ z,z≠id->∀ u,LocAt env s.heap z u->LocAt env h' z u)->s.toks<=tk->Q () { s with heap:=h',toks:=tk }:=by
  intro a h' tk ho hs hnq hb hex hfr f' hloc hoth ht;have hkeep:∀ b o,b≠a->s.heap.get? b=some o->h'.get? b=some o:=fun b o hb e=>hs.extBut b o hb e
  have adv:Adv (Own env) s.heap σ H h' σ H:=⟨fun b o hb e=>.inl (hkeep b o (fun z=>hb (.inr (z ▸ ho))) e),fun _ _ e=>e,fun _ e _=>e,fun b o e=>by
   by_cases hba:b=a
   ·subst hba;exact hex
   ·exact⟨o,hkeep b o hba e⟩⟩
  have X':c.Ok h' σ H:=(changeF (O:=fun b=>b=a) (h0:=h00) (H0:=[]) (σ0:=[]) (O0:=No) (h':=h') X (adv00 _ _ _ _)
   (fun b _=>h00_none b) (fun b o hb e=>hkeep b o hb e) (fun b z=>by subst z;exact⟨hb,hnq,hfr⟩)).1
  refine k h' tk X' adv (fun j v' e z hz hkz=>?_) f' ht;by_cases hji:j=i
  ·subst hji;have hlt:j < loc.length:=by
    have:=(List.getElem?_eq_some_iff.mp e).1;simpa using this
   rw[List.getElem?_set_self hlt] at e;simp only[Option.some.injEq] at e;subst e;rw[hl1] at hz;have:id=z:=tx_inj (Option.some.inj hz);subst this;exact⟨val,hloc,q.adv adv f.noseq⟩
  ·rw[List.getElem?_set_ne (fun z=>hji z.symm)] at e;obtain⟨u,hu,hr⟩:=hv j v' e z hz hkz;exact⟨u,hoth z (fun zi=>hji (hidx j z hz zi)) u hu,hr.adv adv f.noseq⟩
 obtain⟨outer,hen⟩:=F.head;have hmem:env∈c.envs:=by rw[hen];exact List.mem_cons_self
 rcases hk with hk | hk
 ·obtain⟨m,hn⟩:=f.1;refine wpAny_storeName_local hk hn (fun h' hn' hs=>?_) (by simp[F.eo.kind]);refine fin env.locals h' (s.toks + 1) (.inl rfl) hs (ns_noseq hn) ?_ ?_ (.inl ⟨_,hn'⟩) ⟨⟨_,hn'⟩,fun x a hx=>?_⟩ (.inl ⟨hk,_,hn',by simp⟩) (fun z hz u hu=>?_) (Nat.le_succ _)
  ·exact (X.frames.mem (List.mem_filterMap.mpr ⟨env,hmem,F.loc⟩)).1
  ·obtain⟨o,_,_,ho,_⟩:=hn';exact⟨o,ho⟩
  ·obtain⟨v,o,ho,hd⟩:=f.2 x a hx;refine⟨v,o,hs.extBut a o ?_ ho,hd⟩
   rintro rfl
   obtain⟨o',es,ep,ho',hd',_⟩:=hn;rw[ho] at ho';cases ho';rw[hd] at hd';cases hd'
  ·rcases hu with ⟨h1,m',h2,h3⟩ | ⟨h1,a,h2,o,h3,h4⟩
   ·refine .inl ⟨h1,_,hn',?_⟩;rw[if_neg hz,<- h3];rw[ns_fun hn h2]
   ·refine .inr ⟨h1,a,h2,o,hs.extBut a o ?_ h3,h4⟩
    rintro rfl
    obtain⟨o',es,ep,ho',hd',_⟩:=hn;rw[h3] at ho';cases ho';rw[h4] at hd';cases hd'
 ·obtain⟨a,ha⟩:=F.eo.cells id (.inl hk);obtain⟨v0,hc⟩:=f.2 id a ha;refine wpAny_storeName_cell F.eo.kind hk ha hc fun h' hc' hs=>?_
  refine fin a h' s.toks (.inr ⟨id,ha⟩) hs (cell_noseq hc) (F.cb id a ha) ?_ (.inr ?_) ⟨?_,fun x b hx=>?_⟩ (.inr ⟨.inl hk,a,ha,hc'⟩) (fun z hz u hu=>?_) (Nat.le_refl _)
  ·obtain⟨o,ho,_⟩:=hc';exact⟨o,ho⟩
  ·intro env' he' hf;obtain⟨m,o,es,ep,ho,hd,_⟩:=X.frd env' he' a hf;obtain⟨o',ho',hd'⟩:=hc;rw[ho] at ho';cases ho';rw[hd] at hd';cases hd'
  ·obtain⟨m,hn⟩:=f.1;refine⟨m,ns_keep hn fun o e=>hs.extBut _ o ?_ e⟩
   rintro rfl
   obtain⟨o',es,ep,ho',hd',_⟩:=hn;obtain⟨o'',ho'',hd''⟩:=hc;rw[ho'] at ho'';cases ho'';rw[hd'] at hd'';cases hd''
  ·by_cases hba:b=a
   ·subst hba;exact⟨_,hc'⟩
   ·obtain⟨v,o,ho,hd⟩:=f.2 x b hx;exact⟨v,o,hs.extBut b o hba ho,hd⟩
  ·rcases hu with ⟨h1,m',hn,h3⟩ | ⟨h1,b,h2,o,h3,h4⟩
   ·refine .inl ⟨h1,m',ns_keep hn fun o e=>hs.extBut _ o ?_ e,h3⟩
    rintro rfl
    obtain⟨o',es,ep,ho',hd',_⟩:=hn;obtain⟨o'',ho'',hd''⟩:=hc;rw[ho'] at ho'';cases ho'';rw[hd'] at hd'';cases hd''
   ·refine .inr ⟨h1,b,h2,o,hs.extBut b o ?_ h3,h4⟩
    rintro rfl
    exact hz (F.inj z id b h2 ha)
end
end Mine
end
section
open PySem PySem.W PyProof.Rows PySem.Calls PySem.Builtin.Str
namespace Mine
section
variable {prog:Program}{w:World}{A:Around}{c:Cx}{call:Nat->List V->Hp->Option (Res V)}{n:Nat}
variable {s:Shared} {σ : List Addr}{H:Hp}{E:Value->Shared->Prop}{env:Env}{nm:List Txt}{loc:Loc}
structure LInv (c:Cx) (env:Env) (nm:List Txt) (s:Shared) (σ : List Addr) (H:Hp) (s':Shared) (l:Loc) (H':Hp) where
 h:Heap
 tk:Nat
 σ':List Addr
 st:s'={ s with heap:=h,toks:=tk }
 pos : 0 < tk
 ok:c.Ok h σ' H'
 adv:Adv (Own env) s.heap σ H h σ' H'
 vars:Vars nm env h σ' H' l
 fm:Fm env h
def SndBody (prog:Program) (w:World) (A:Around) (c:Cx) (env:Env) (nm:List Txt) (bd:Loc->Hp->Option RS) (body:List Stmt):Prop:=
 ∀ {s1:Shared} {σ1:List Addr}{H1:Hp}{Q1:Flow->Shared->Prop}{E1:Value->Shared->Prop}{l1:Loc}{r1:RS},0 < s1.toks->bd l1 H1=some r1->c.Ok s1.heap σ1 H1->Vars nm env s1.heap σ1 H1 l1->Fm env s1.heap->
  ContS c env nm s1 σ1 H1 Q1 E1 r1->wpAny (model prog w) A (execs body env) Q1 E1 s1
theorem exc_loop (F:FnE c env) (hfr:A.frames=some c.envs){Q:Flow->Shared->Prop}{H1:Hp}(K:ContS c env nm s σ H Q E (.exc H1)){h:Heap} {σ1:List Addr}{H':Hp}(a1:Adv (Own env) s.heap σ H h σ1 H')
  {e:Addr}{h':Heap}{tk:Nat} {σ':List Addr}(X:c.Ok h' σ' H1) (a:Adv (Own env) h σ1 H' h' σ' H1) (x:ExcO env.locals c.base c.C h e h') :
  notedBy (model prog w) A env (cameBackBy (model prog w) A env E) (.ref e) { s with heap:=h',toks:=tk }:=by
 obtain⟨outer,hen⟩:=F.head;have a2:=a1.trans a;exact exc_up (s:={ s with heap:=h',toks:=tk }) (s1:=s) hen hfr F.loc X a2 (x.adv a1) fun h2 X2 a3 x2=>K e h2 tk σ' X2 a3 x2
theorem sndWhile (F:FnE c env) (au:AOk c A n){cd bd:Loc->Hp->Option RS}{cdv:Loc->Hp->Option (Res V)}{test:Expr}{body:List Stmt}{Q:Flow->Shared->Prop}{r:RS}
  (ihc:∀ {s1:Shared} {σ1:List Addr}{H1:Hp}{E1:Value->Shared->Prop}{l1:Loc}{r1:Res V},0 < s1.toks->cdv l1 H1=some r1->c.Ok s1.heap σ1 H1->Vars nm env s1.heap σ1 H1 l1->Both prog w A env c s1 σ1 H1 E1 test r1)
  (ihb:SndBody prog w A c env nm bd body) (K:ContS c env nm s σ H Q E r){N:Nat}{s':Shared}{l:Loc}{H':Hp}(I:LInv c env nm s σ H s' l H') (he:whileL cdv bd N l H'=some r) :
  codeAny (model prog w) A (.whileLoop test body [] env) (fun r s'=>match r with | .ok f=>Q f s' | .error e=>cameBackBy (model prog w) A env E e s') s':=by
 refine codeAny_whileLoop (fun k s'=>∃ l H',Nonempty (LInv c env nm s σ H s' l H')/\whileL cdv bd k l H'=some r) ?_ N ⟨l,H',⟨I⟩,he⟩
 rintro k s1 ⟨l1,H1,⟨I1⟩,he1⟩
 have I1':=I1;obtain⟨h,tk,σ1,rfl,hp,X1,a1,hv1,f1⟩:=I1;cases k with
 | zero=>simp[whileL] at he1
 | succ k=>
  simp only[whileL] at he1;refine goST hp he1 (fun H2 e2 e h' tk' σ' X' a' x'=>?_) (fun v H2 e2=>?_) (fun r1 e1 E'=>ihc hp e1 X1 hv1) fun b H2 e2 h' tk' σ' hp' X' a'=>?_
  ·subst e2;exact exc_loop F au.frames K a1 X' a'.own (x'.x (.inl rfl))
  ·split at e2<;>try cases e2
   ·exact⟨_,rfl⟩
   ·exact⟨_,rfl⟩
  ·have K':ContS c env nm { s with heap:=h',toks:=tk' } σ' H2 Q E r:=K.adv (a1.trans a'.own);have hv':=hv1.adv0 X1 a';have f':=f1.adv0 X1 a';have I2:LInv c env nm s σ H { s with heap:=h',toks:=tk' } l1 H2:=⟨h',tk',σ',rfl,hp',X',a1.trans a'.own,hv',f'⟩
   cases b with
   | false=>
    simp only[Option.some.injEq] at e2;subst e2;rw[if_neg (by decide)];exact wpAny_execs_nil (K h' tk' σ' hp' X' (a1.trans a'.own) hv' f')
   | true=>
    rw[if_pos rfl];dsimp only at e2;refine wpAny_with_toks (n:=1) hp' ?_;cases hb:bd l1 H2 with
    | none=>rw[hb] at e2;cases e2
    | some rb=>
     rw[hb] at e2;refine ihb (s1:={ s with heap:=h',toks:=tk' }) hp' hb X' hv' f' ?_;cases rb with
     | next l2 H3=>exact fun h2 tk2 σ2 hp2 X2 a2 hv2 f2 _=>⟨k,Nat.lt_succ_self _,l2,H3,⟨⟨h2,tk2,σ2,rfl,hp2,X2,(a1.trans a'.own).trans a2,hv2,f2⟩⟩,e2⟩
     | cont l2 H3=>exact fun h2 tk2 σ2 hp2 X2 a2 hv2 f2 _=>⟨k,Nat.lt_succ_self _,l2,H3,⟨⟨h2,tk2,σ2,rfl,hp2,X2,(a1.trans a'.own).trans a2,hv2,f2⟩⟩,e2⟩
     | ret v H3=>
      simp only[Option.some.injEq] at e2;subst e2;exact fun val h2 tk2 σ2 X2 a2 q2 _=>K' val h2 tk2 σ2 X2 a2 q2
     | exc H3=>
      simp only[Option.some.injEq] at e2;subst e2;exact fun e h2 tk2 σ2 X2 a2 x2 _=>exc_loop F au.frames K (a1.trans a'.own) X2 a2 x2
theorem sndFor (F:FnE c env) (au:AOk c A n) (hnd:nm.Nodup){bd:Loc->Hp->Option RS}{body:List Stmt}{Q:Flow->Shared->Prop}{r:RS}{id:Str}{p:Pos}{i:Nat}{I:Addr}{fp:List Addr}{m:Nat}{P:Nat->Value->Prop}{St:Nat->Heap->Prop}{vs:List V}
  (W:Walks prog w A I fp [I] m P St) (hl:isLoc nm i id=true) (hk:env.kindOf id=some .local) (hI:s.heap.get? I=none) (hX:c.Ok s.heap σ H) (hIO:¬ Own env I)
  (hSt:∀ j h,St j h->∀ o,h.get? I=some o->∃ ws,o.data=.fields ws)
  (hfp:∀ b∈fp,b≠I->(∃ o,s.heap.get? b=some o/\IsSeq o)/\¬ Live σ H b/\¬ Own env b)
  (hlen:vs.length=m) (hP:∀ j v,j < m->P j v->∀ {h':Heap} {σ':List Addr}{H':Hp},Adv (Own env) s.heap σ H h' σ' H'->∃ y,vs[j]?=some y/\VR h' (Live σ' H') σ' v y)
  (hOs:∀ a o,Own env a->s.heap.get? a=some o->¬ IsSeq o)
  (ihb:SndBody prog w A c env nm bd body) (K:ContS c env nm s σ H Q E r){s':Shared}{l:Loc}{H':Hp}(J:LInv c env nm s σ H s' l H') (hst:St 0 s'.heap) (he:forL (put1 i) bd vs l H'=some r) :
  codeAny (model prog w) A (.forLoop (.Name id p) (.ref I) body [] env) (fun r s'=>match r with | .ok f=>Q f s' | .error e=>cameBackBy (model prog w) A env E e s') s':=by
 have hbI:=base_none hX hI;have hfI:=frame_ne hX hI;refine codeAny_forLoop (fun k s'=>∃ j l H',k=m - j/\j<=m/\Nonempty (LInv c env nm s σ H s' l H')/\St j s'.heap/\forL (put1 i) bd (vs.drop j) l H'=some r) ?_ m ⟨0,l,H',rfl,Nat.zero_le _,⟨J⟩,hst,he⟩
 rintro k s1 ⟨j,l1,H1,rfl,hj,⟨J1⟩,hst1,he1⟩
 obtain⟨h,tk,σ1,rfl,hp,X1,a1,hv1,f1⟩:=J1;have nsI:∀ o,h.get? I=some o->¬ IsSeq o:=fun o e ⟨arr,k,q⟩=>by obtain⟨ws,q'⟩:=hSt j h hst1 o e;rw[q] at q';cases q'
 by_cases hlt:j < m
 ·refine wpAny_with_toks (n:=1) hp (W.item j _ _ _ hlt hst1 fun v h2 tk2 hPv hst2 hk2 hp2=>?_);obtain⟨X2,a2⟩:=changeF (O:=fun a=>a=I) (h':=h2) X1 a1 (fun a z=>by rw[z];exact hI) (fun b o hb e=>hk2 b o (by simpa using hb) e) (fun a z=>by subst z;exact⟨hbI,nsI,.inr hfI⟩);have k12:∀ b,b≠I->∀ o,h.get? b=some o->h2.get? b=some o:=fun b hb o e=>hk2 b o (by simpa using hb) e
  have f2:Fm env h2:=⟨f1.1.imp fun m' hn=>ns_keep hn (k12 _ fun z=>hIO (.inl z.symm)),fun x a hx=>(f1.2 x a hx).imp fun v ⟨o,ho,hd⟩=>⟨o,k12 a (fun z=>hIO (.inr ⟨x,z ▸ hx⟩)) o ho,hd⟩⟩
  have hv2:Vars nm env h2 σ1 H1 l1:=fun q v' e z hz hkz=>by
   obtain⟨u,hu,hr⟩:=hv1 q v' e z hz hkz;refine⟨u,?_,VR.mono (fun b o _ e hs=>k12 b (fun z=>nsI o (z ▸ e) hs) o e) (fun _ q _=>q) (fun _ _ q=>q) hr⟩;rcases hu with ⟨h1,m',hn,h3⟩ | ⟨h1,b,h2',o,h3,h4⟩
   ·exact .inl ⟨h1,m',ns_keep hn (k12 _ fun z=>hIO (.inl z.symm)),h3⟩
   ·exact .inr ⟨h1,b,h2',o,k12 b (fun z=>hIO (.inr ⟨_,z ▸ h2'⟩)) o h3,h4⟩
  obtain⟨y,hy,hr⟩:=hP j v hlt hPv a2;have hdrop:vs.drop j=y::vs.drop (j + 1):=by
   rw[List.drop_eq_getElem_cons (by omega)]
   congr 1
   have:=(List.getElem?_eq_some_iff.mp hy).2;exact this
  rw[hdrop] at he1;simp only[forL,put1] at he1;refine wpAny_assign_Name (store (s:={ s with heap:=h2,toks:=tk2 }) F hnd hl (.inl hk) X2 hv2 f2 hr fun h3 tk3 X3 a3 hv3 f3 ht3=>?_);have a13:Adv (Own env) s.heap σ H h3 σ1 H1:=a2.trans a3;have hp3 : 0 < tk3:=Nat.lt_of_lt_of_le hp2 ht3;have hst3:St (j + 1) h3:=W.frame _ _ _ hst2 fun b hb o e=>by
   by_cases hbI':b=I
   ·subst hbI';exact a3.step.seq (fun z=>z.elim (fun z=>by
     obtain⟨arr,k,q⟩:=X2.live_seq z;rw[e] at q;cases q;obtain⟨ws,q'⟩:=hSt (j + 1) h2 hst2 _ e;cases q') hIO) e (fun es k q=>by obtain⟨ws,q'⟩:=hSt (j + 1) h2 hst2 o e;rw[q] at q';cases q')
   ·obtain⟨⟨ob,hob,hsq⟩,hnl,hno⟩:=hfp b hb hbI';have e2:h2.get? b=some ob:=a2.step.seq (fun z=>z.elim hnl hno) hob hsq.nd;rw[e2] at e;cases e;exact a13.step.seq (fun z=>z.elim hnl hno) hob hsq.nd
  have J3:LInv c env nm s σ H { s with heap:=h3,toks:=tk3 } (l1.set i (some y)) H1:=⟨h3,tk3,σ1,rfl,hp3,X3,a13,hv3,f3⟩
  have K':ContS c env nm { s with heap:=h3,toks:=tk3 } σ1 H1 Q E r:=K.adv a13;refine wpAny_with_toks (n:=1) hp3 ?_;have stay:∀ {h4:Heap} {σ4:List Addr}{H4:Hp},Adv (Own env) h3 σ1 H1 h4 σ4 H4->St (j + 1) h4:=fun {h4 σ4 H4} a4=>W.frame _ _ _ hst3 fun b hb o e=>by
   by_cases hbI':b=I
   ·subst hbI';exact a4.step.seq (fun z=>z.elim (fun z=>by
     obtain⟨arr,k,q⟩:=X3.live_seq z;rw[e] at q;cases q;obtain⟨ws,q'⟩:=hSt (j + 1) h3 hst3 _ e;cases q') hIO) e (fun es k q=>by obtain⟨ws,q'⟩:=hSt (j + 1) h3 hst3 o e;rw[q] at q';cases q')
   ·obtain⟨⟨ob,hob,hsq⟩,hnl,hno⟩:=hfp b hb hbI';have e2:h3.get? b=some ob:=a13.step.seq (fun z=>z.elim hnl hno) hob hsq.nd;rw[e2] at e;cases e;exact (a13.trans a4).step.seq (fun z=>z.elim hnl hno) hob hsq.nd
  cases hb:bd (l1.set i (some y)) H1 with
  | none=>rw[hb] at he1;cases he1
  | some rb=>
   rw[hb] at he1;refine ihb (s1:={ s with heap:=h3,toks:=tk3 }) hp3 hb X3 hv3 f3 ?_;cases rb with
   | next l2 H3=>exact fun h4 tk4 σ4 hp4 X4 a4 hv4 f4 _=>⟨m - (j + 1),by omega,j + 1,l2,H3,rfl,hlt,⟨⟨h4,tk4,σ4,rfl,hp4,X4,a13.trans a4,hv4,f4⟩⟩,stay a4,he1⟩
   | cont l2 H3=>exact fun h4 tk4 σ4 hp4 X4 a4 hv4 f4 _=>⟨m - (j + 1),by omega,j + 1,l2,H3,rfl,hlt,⟨⟨h4,tk4,σ4,rfl,hp4,X4,a13.trans a4,hv4,f4⟩⟩,stay a4,he1⟩
   | ret v' H3=>
    simp only[Option.some.injEq] at he1;subst he1;exact fun val h4 tk4 σ4 X4 a4 q4 _=>K' val h4 tk4 σ4 X4 a4 q4
   | exc H3=>
    simp only[Option.some.injEq] at he1;subst he1;exact fun e h4 tk4 σ4 X4 a4 x4 _=>exc_loop F au.frames K a13 X4 a4 x4
 ·have hjm:j=m:=by omega
  subst hjm;rw[List.drop_of_length_le (by omega)] at he1;simp only[forL,Option.some.injEq] at he1;subst he1;refine wpAny_with_toks (n:=1) hp (W.done _ _ _ hst1 fun h2 tk2 hk2 hp2=>wpAny_execs_nil ?_);obtain⟨X2,a2⟩:=changeF (O:=fun a=>a=I) (h':=h2) X1 a1 (fun a z=>by rw[z];exact hI) (fun b o hb e=>hk2 b o (by simpa using hb) e) (fun a z=>by subst z;exact⟨hbI,nsI,.inr hfI⟩);have k12:∀ b,b≠I->∀ o,h.get? b=some o->h2.get? b=some o:=fun b hb o e=>hk2 b o (by simpa using hb) e
  have f2:Fm env h2:=⟨f1.1.imp fun m' hn=>ns_keep hn (k12 _ fun z=>hIO (.inl z.symm)),fun x a hx=>(f1.2 x a hx).imp fun v ⟨o,ho,hd⟩=>⟨o,k12 a (fun z=>hIO (.inr ⟨x,z ▸ hx⟩)) o ho,hd⟩⟩
  have hv2:Vars nm env h2 σ1 H1 l1:=fun q v' e z hz hkz=>by
   obtain⟨u,hu,hr⟩:=hv1 q v' e z hz hkz;refine⟨u,?_,VR.mono (fun b o _ e hs=>k12 b (fun z=>nsI o (z ▸ e) hs) o e) (fun _ q _=>q) (fun _ _ q=>q) hr⟩;rcases hu with ⟨h1,m',hn,h3⟩ | ⟨h1,b,h2',o,h3,h4⟩
   ·exact .inl ⟨h1,m',ns_keep hn (k12 _ fun z=>hIO (.inl z.symm)),h3⟩
   ·exact .inr ⟨h1,b,h2',o,k12 b (fun z=>hIO (.inr ⟨_,z ▸ h2'⟩)) o h3,h4⟩
  exact K h2 tk2 σ1 hp2 X2 a2 hv2 f2
end
end Mine
end
section
open PySem PySem.W PyProof.Rows PySem.Calls PySem.Builtin.Str
namespace Mine
section
variable {prog:Program}{w:World}{A:Around}{c:Cx}{call:Nat->List V->Hp->Option (Res V)}{n:Nat}
variable {s:Shared} {σ : List Addr}{H:Hp}{E:Value->Shared->Prop}{env:Env}{nm:List Txt}{loc:Loc}
theorem setItem_lst {l:Addr}{arr:Array Value}{m:Nat}{k:Int}{t:Tok}{v:Value}{Q:Unit->Shared->Prop}(hl:s.heap.get? l=some (LstO arr m)) (h0 : 0<=k) (hfit:k < 2 ^ 63) (hn:k < arr.size)
  (h:Q () { s with heap:=s.heap.update l (Obj.mapSeq (·.setIfInBounds k.toNat v)) }):wpAny (model prog w) A (setItem (.ref l) (.int k t) v) Q E s:=by
 have hL:s.heap.IsList l arr:=⟨_,hl,rfl,m,rfl⟩
 unfold setItem
 try with_reducible refine wpAny_holding ?_
 first | refine wpAny_bind (wpAny_pure ?_) | skip
 refine wpAny_bind (wpAny_sequenceKey hL.typeIs (by decide) ?_);refine wpAny_bind (wpAny_callSpecial?_slot (name := Str.ofString "__setitem__") hL.typeIs slot_list_setitem
  (wpAny_call_entry slot_list_setitem hL.typeIs entry_list_setitem ?_ (args_list_setitem _ _ _)))
 show wpAny _ _ (Builtin.List.listSubscript? (.int k t) >>= _) _ _ s;refine wpAny_bind (wpAny_listSubscript_int (fitsIndex_of h0 hfit) ?_);clear hfit;obtain⟨j,rfl⟩:=Int.eq_ofNat_of_zero_le h0;have hj:j < arr.size:=by omega
 have hx':arr[j]?=some arr[j]:=Array.getElem?_eq_getElem hj;show wpAny _ _ ((seqItemAt l j >>= fun r=>pure (r.map (j,·))) >>= _) _ _ s;refine wpAny_bind (wpAny_bind (wpAny_seqItemAt hl rfl (wpAny_pure ?_)));rw[hx'];show wpAny _ _ (setSeqItemAt l j v >>= _) _ _ s;refine wpAny_bind (wpAny_setSeqItemAt hl rfl ?_)
 first
  | exact wpAny_bind (wpAny_pure (wpAny_pure ⟨.none,rfl,wpAny_pure h⟩))
  | exact wpAny_pure ⟨.none,rfl,wpAny_pure h⟩
theorem turn_stmt {i:Nat}{l l':List V}{a:Addr}{arr arr':Array Value}{m m':Nat}{f:Obj->Obj}(X:c.Ok s.heap σ H) (hg:hget H i=some l) (ha : σ[i]?=some a) (hL:s.heap.get? a=some (LstO arr m))
  (hf:f (LstO arr m)=LstO arr' m') (hz:arr'.size<=capL) (r:VRs s.heap (Live σ H) (takeO (c.lim i) σ) arr'.toList l') :
  c.Ok (s.heap.update a f) σ (H.set i (some l'))/\Adv No s.heap σ H (s.heap.update a f) σ (H.set i (some l')):=
 turn_list X (hget_iff hg) ha (Heap.SameBut.update ..) (by rw[Heap.get?_update_self _ hL (by rw[hf];rfl),hf]) hz r
theorem lim_vr {i:Nat}{v:V}{val:Value}{h:Heap}{F:Addr->Prop}(X:c.Ok s.heap σ H) (hm:mayMut c.b i v=true) (q:VR h F σ val v):VR h F (takeO (c.lim i) σ) val v:=by
 simp only[mayMut,Bool.or_eq_true,decide_eq_true_eq] at hm;rcases hm with hm | hm
 ·rw[X.loc i hm];exact q
 ·exact q.pure hm
theorem assignNames {M:Model}(F:FnE c env) (hnd:nm.Nodup):∀ {xs:List Nat}{ts:List Expr}{vs:List V}{vals:List Value}{s:Shared}{H:Hp}{loc l':Loc}{Q:Unit->Shared->Prop},
  chkNames nm env.kindOf xs ts=true->setAll xs vs loc=some l'->0 < s.toks->c.Ok s.heap σ H->Vars nm env s.heap σ H loc->Fm env s.heap->VRs s.heap (Live σ H) σ vals vs->
  (∀ h' tk,0 < tk->c.Ok h' σ H->Adv (Own env) s.heap σ H h' σ H->Vars nm env h' σ H l'->Fm env h'->Q () { s with heap:=h',toks:=tk })->
  wpAny M A (assignInOrder ((assignEach ts env).map (·.2)) vals) Q E s
 | [],ts,vs,vals,s,H,loc,l',Q,hc,hs,ht,X,hv,f,q,k=>by
  cases ts with
  | cons=>simp[chkNames] at hc
  | nil=>
   cases vs with
   | cons=>simp[setAll] at hs
   | nil=>
    cases q;simp only[setAll,Option.some.injEq] at hs;subst hs;exact wpAny_pure (k s.heap s.toks ht X (.refl ..) hv f)
 | x::xs,ts,vs,vals,s,H,loc,l',Q,hc,hs,ht,X,hv,f,q,k=>by
  cases ts with
  | nil=>simp[chkNames] at hc
  | cons t ts=>
   cases vs with
   | nil=>simp[setAll] at hs
   | cons v vs=>
    cases q with
    | cons q1 q2=>
     rename_i val vals;simp only[setAll] at hs;unfold chkNames at hc;split at hc
     ·rename_i h1 h2;cases h1
     ·rename_i x' xs' id p ts' h1 h2;cases h1;cases h2;simp only[Bool.and_eq_true,isStore,beq_iff_eq] at hc;show wpAny M A (do holding vals (assign (.Name id p) env val);assignInOrder ((assignEach ts env).map (·.2)) vals) Q E s;refine wpAny_bind (wpAny_holding (assign_Name (store F hnd hc.1.1 (.inl hc.1.2) X hv f q1 fun h' tk X' a' hv' f' ht'=>?_)));exact assignNames (s:={ s with heap:=h',toks:=tk }) F hnd hc.2 hs (Nat.lt_of_lt_of_le ht ht') X' hv' f' (q2.adv a' f.noseq) fun h2 tk2 hp2 X2 a2 hv2 f2=>k h2 tk2 hp2 X2 (a'.trans a2) hv2 f2
     ·cases hc
theorem names_plain {M:Model}:∀ {xs:List Nat}{ts:List Expr}{kd:Str->Option NameKind},chkNames nm kd xs ts=true->(assignEach ts env).length=xs.length/\(assignEach ts env).findIdx? (·.1)=none
 | [],ts,kd,hc=>by
  cases ts with
  | cons=>simp[chkNames] at hc
  | nil=>exact⟨rfl,rfl⟩
 | x::xs,ts,kd,hc=>by
  cases ts with
  | nil=>simp[chkNames] at hc
  | cons t ts=>
   unfold chkNames at hc;split at hc
   ·rename_i h1 h2;cases h1
   ·rename_i x' xs' id p ts' h1 h2;cases h1;cases h2;simp only[Bool.and_eq_true] at hc;obtain⟨e1,e2⟩:=names_plain (M:=M) hc.2;refine⟨congrArg Nat.succ e1,?_⟩;show List.findIdx? _ ((false,assign (.Name id p) env)::assignEach ts env)=none;rw[List.findIdx?_cons,e2];rfl
   ·cases hc
theorem setAll_len:∀ {xs:List Nat}{vs:List V}{l l':Loc},setAll xs vs l=some l'->vs.length=xs.length
 | [],[],_,_,_=>rfl
 | [],_::_,_,_,h=>by simp[setAll] at h
 | _::_,[],_,_,h=>by simp[setAll] at h
 | x::xs,v::vs,l,l',h=>by
  simp only[setAll] at h;rw[List.length_cons,List.length_cons,setAll_len h]
theorem assignTup {x1:Nat}{tpos:Pos}{xs:List Nat}{ts:List Expr}{vs:List V}{val:Value}{l':Loc}{Q:Unit->Shared->Prop}(hh:A.handled=none) (F:FnE c env) (hnd:nm.Nodup)
  (hc:chkNames nm env.kindOf xs ts=true) (hs:setAll xs vs loc=some l') (ht : 0 < s.toks) (X:c.Ok s.heap σ H) (hv:Vars nm env s.heap σ H loc) (f:Fm env s.heap) (q:VR s.heap (Live σ H) σ val (.tup vs))
  (k:∀ h' tk,0 < tk->c.Ok h' σ H->Adv (Own env) s.heap σ H h' σ H->Vars nm env h' σ H l'->Fm env h'->Q () { s with heap:=h',toks:=tk }) :
  wpAny (model prog w) A (assign (.Tuple ts x1 tpos) env val) Q E s:=by
 generalize e:V.tup vs=v at q;cases q with
 | tup he hF hz hr=>
  cases e;rename_i a arr m;obtain⟨n1,n2⟩:=names_plain (M:=model prog w) (env:=env) hc;have hlen:=hr.length;rw[Array.length_toList] at hlen;refine assign_Tuple_tuple hh (items:=arr) ⟨_,he,rfl,m,rfl⟩ (by rw[n1,hlen];exact (setAll_len hs).symm) n2 fun h1 he1=>?_
  have g:Grow c.base s.heap h1:=grow_keeps X.stays fun b o e=>he1 b o (Nat.ne_of_lt (Heap.lt_size e)) e
  have a1:=g.adv σ H;exact assignNames (s:={ s with heap:=h1 }) F hnd hc hs ht (X.grow g) (hv.adv0 X a1) (f.adv0 X a1) (hr.adv0 a1) fun h' tk hp X' a' hv' f'=>k h' tk hp X' (a1.own.trans a') hv' f'
 | _=>cases e
end
end Mine
end
section
open PySem PySem.W PyProof.Rows PySem.Calls PySem.Builtin.Str
namespace Mine
section
variable {prog:Program}{w:World}{A:Around}{E:Value->Shared->Prop}{s:Shared}
theorem nextOf_tup_item {it t:Addr}{i:Nat}{items:Array Value}{x:Value}{Q:Value->Shared->Prop}(hit:s.heap.IsTupleIter it t i) (ht:s.heap.IsTuple t items) (hx:items[i]?=some x)
  (hQ:∀ h',h'.IsTupleIter it t (i + 1)->Heap.SameBut it s.heap h'->Q x { s with heap:=h' }):wpAny (model prog w) A (Builtin.SmallTypes.nextOf (.ref it)) Q E s:=by
 obtain⟨o,ho,hc,hd⟩:=id hit;obtain⟨ol,hol,_,nl,hdl⟩:=ht;unfold Builtin.SmallTypes.nextOf;refine wpAny_bind (wpAny_callSpecial?_slot (name := Str.ofString "__next__") hit.typeIs PySem.F.slot_tuple_iterator_next
  (wpAny_call_entry PySem.F.slot_tuple_iterator_next hit.typeIs PySem.F.entry_tuple_iterator_next ?_ (PySem.F.args_tuple_iterator_next_1 _)))
 show wpAny _ _ (field (.ref it) 0 >>= _) _ _ s;refine wpAny_bind (wpAny_field ho hd (x:=.ref t) rfl ?_);show wpAny _ _ (if (Value.ref t==Value.none)=true then _ else _) _ _ s;rw[if_neg (show ¬ ((Value.ref t==Value.none)=true) from Bool.false_ne_true)];show wpAny _ _ (field (.ref it) 1 >>= _) _ _ s;refine wpAny_bind (wpAny_field ho hd (x:=.int i 0) rfl ?_);show wpAny _ _ (seqItems? (.ref t) >>= _) _ _ s;refine wpAny_bind (wpAny_seqItems hol hdl ?_);simp only[Int.toNat_natCast,hx];refine wpAny_bind (wpAny_setField ho hd (by simp) (wpAny_pure ⟨x,rfl,wpAny_pure (hQ _ ?_ (Heap.SameBut.update ..))⟩));exact⟨_,Heap.get?_update_self _ ho (Obj.isFreed_of_fields (Obj.data_mapFields hd _)),(Obj.cls_mapFields ..).trans hc,by
  rw[Obj.data_mapFields hd];simp[rawInt]⟩
theorem nextOf_tup_end {it t:Addr}{i:Nat}{items:Array Value}{Q:Value->Shared->Prop}(hh:A.handled=none) (hit:s.heap.IsTupleIter it t i) (ht:s.heap.IsTuple t items) (hx:items[i]?=none)
  (hE : ∀ h' e, Heap.ExtBut it s.heap h' -> (∃ o, h'.get? e = some o /\ o.cls = .type "StopIteration") -> E (.ref e) { s with heap := h' }) : wpAny (model prog w) A (Builtin.SmallTypes.nextOf (.ref it)) Q E s := by
 obtain⟨o,ho,hc,hd⟩:=id hit;obtain⟨ol,hol,_,nl,hdl⟩:=ht;unfold Builtin.SmallTypes.nextOf;refine wpAny_bind (wpAny_callSpecial?_slot (name := Str.ofString "__next__") hit.typeIs PySem.F.slot_tuple_iterator_next
  (wpAny_call_entry PySem.F.slot_tuple_iterator_next hit.typeIs PySem.F.entry_tuple_iterator_next ?_ (PySem.F.args_tuple_iterator_next_1 _)))
 show wpAny _ _ (field (.ref it) 0 >>= _) _ _ s;refine wpAny_bind (wpAny_field ho hd (x:=.ref t) rfl ?_);show wpAny _ _ (if (Value.ref t==Value.none)=true then _ else _) _ _ s;rw[if_neg (show ¬ ((Value.ref t==Value.none)=true) from Bool.false_ne_true)];show wpAny _ _ (field (.ref it) 1 >>= _) _ _ s;refine wpAny_bind (wpAny_field ho hd (x:=.int i 0) rfl ?_);show wpAny _ _ (seqItems? (.ref t) >>= _) _ _ s;refine wpAny_bind (wpAny_seqItems hol hdl ?_);simp only[Int.toNat_natCast,hx];refine wpAny_bind (wpAny_rule (wpAny_bind (wpAny_setField ho hd (by simp) ?_)));show wpAny _ _ (newExc (.type "StopIteration") [] >>= _) _ _ _;refine wpAny_bind ?_;simp only[newExc,newTuple];refine wpAny_bind (wpAny_newObj_type ?_ (Nat.zero_le _));refine wpAny_bind (m:=firstArgMember _ _) (wpAny_of_eq (a:=Value.none) (by first | rfl | (simp only[firstArgMember];rfl)) ?_);refine wpAny_newObj_type ?_ (by size_fits);simp only[raiseNew];refine wpAny_bind (wpAny_handled ?_)
 first | rw[show A.in1.handled=none from hh] | rw[hh]
 refine wpAny_bind (wpAny_pure (wpAny_throw ?_));exact hE _ _ (((Heap.SameBut.update ..).extBut.push _).push _) ⟨_,Heap.get?_push_size _ rfl,rfl⟩
theorem drawsTup (hh:A.handled=none) (it l:Addr) (hne:l≠it) (items:Array Value) :
  Draws prog w A it [it,l] items.size (fun i v=>items[i]?=some v) (fun i h=>h.IsTupleIter it l i/\h.IsTuple l items) where
 live:=fun _ _ st=>let ⟨o,ho,_⟩:=st.1;⟨o,ho⟩
 frame:=fun _ _ _ st hk=>⟨st.1.at fun o e=>hk it (by simp) o e,let ⟨o,ho,r⟩:=st.2;⟨o,hk l (by simp) o ho,r⟩⟩
 item:=fun i s Q E hi st hQ=>by
  refine nextOf_tup_item st.1 st.2 (x:=items[i]) (by simp[hi]) fun h' hit' hs'=>?_
  exact hQ _ h' s.toks (by simp[hi]) ⟨hit',st.2.extBut hs'.extBut hne⟩ hs'
 done:=fun s Q E st hE=>nextOf_tup_end hh st.1 st.2 (by simp) hE
structure Zap (z TI TO i1 i2:Addr) (f1 f2:List Addr):Prop where
 TIz:TI≠z
 TOz:TO≠z
 i1z:i1≠z
 i2z:i2≠z
 TITO:TI≠TO
 TIi1:TI≠i1
 TIi2:TI≠i2
 TOi1:TO≠i1
 TOi2:TO≠i2
 i12:i1≠i2
 a1:∀ b∈f1,b≠z/\b≠TO/\b≠i2
 a2:∀ b∈f2,b≠z/\b≠TO/\b≠i1
section
variable {z TI TO i1 i2:Addr}{f1 f2:List Addr}{n1 n2:Nat}{P1 P2:Nat->Value->Prop}{S1 S2:Nat->Heap->Prop}
structure ZSt (z TI TO i1 i2:Addr) (S1 S2:Nat->Heap->Prop) (f0:Value) (i:Nat) (h:Heap):Prop where
 zz:IsZip h z TI TO f0
 ti:IsPair h TI (.ref i1) (.ref i2)
 to:∃ a b,IsPair h TO a b
 s1:S1 i h
 s2:S2 i h
theorem zst_keep (D:Zap z TI TO i1 i2 f1 f2) (W1:Draws prog w A.in1 i1 f1 n1 P1 S1) (W2:Draws prog w A.in1 i2 f2 n2 P2 S2){f0:Value}{i:Nat}{h h':Heap}(x:ZSt z TI TO i1 i2 S1 S2 f0 i h)
  (hk:∀ b∈[z,TI,TO]++f1++f2,∀ o,h.get? b=some o->h'.get? b=some o):ZSt z TI TO i1 i2 S1 S2 f0 i h':=
 ⟨hk z (by simp) _ x.zz,hk TI (by simp) _ x.ti,let ⟨a,b,e⟩:=x.to;⟨a,b,hk TO (by simp) _ e⟩,W1.frame _ _ _ x.s1 fun b hb=>hk b (by simp[hb]),W2.frame _ _ _ x.s2 fun b hb=>hk b (by simp[hb])⟩
theorem zip_item (D:Zap z TI TO i1 i2 f1 f2) (W1:Draws prog w A.in1 i1 f1 n1 P1 S1) (W2:Draws prog w A.in1 i2 f2 n2 P2 S2){i:Nat}{Q:Option Value->Shared->Prop}(St:ZSt z TI TO i1 i2 S1 S2 .none i s.heap) (hi1:i < n1) (hi2:i < n2)
  (hQ:∀ x y h' tk T,T=s.heap.objs.size->P1 i x->P2 i y->ZSt z TI TO i1 i2 S1 S2 (rawInt T) (i + 1) h'->IsPair h' T x y->
   (∀ c o,c≠z->c≠TO->c≠i1->c≠i2->s.heap.get? c=some o->h'.get? c=some o)->Q (some (.ref T)) { s with heap:=h',toks:=tk }) :
  wpAny (model prog w) A (pyNext (.ref z)) Q E s:=by
 obtain⟨hz,hTI,⟨a,b,hTO⟩,h1,h2⟩:=St;have hT : s.TypeIs (.ref z) "zip" := ⟨_, hz, rfl⟩
 unfold pyNext;refine wpAny_bind (wpAny_attempt (wpAny_callSpecial?_slot (name := Str.ofString "__next__") hT PySem.F.slot_zip_next
  (wpAny_call_entry PySem.F.slot_zip_next hT PySem.F.entry_zip_next ?_ (PySem.F.args_zip_next_1 _))))
 show wpAny _ _ (field (.ref z) 2 >>= _) _ _ _;refine wpAny_bind (wpAny_field hz rfl (x:=.bool false) rfl ?_);show wpAny _ _ (field (.ref z) 3 >>= _) _ _ _;refine wpAny_bind (wpAny_field hz rfl (x:=.ref TI) rfl ?_);refine wpAny_bind (wpAny_seqItems hTI rfl ?_);show wpAny _ _ (Builtin.SmallTypes.ownedTupleIsFree (.ref z) >>= _) _ _ _;refine wpAny_bind ?_;unfold Builtin.SmallTypes.ownedTupleIsFree;refine wpAny_bind (wpAny_field hz rfl (x:=.none) rfl (wpAny_pure ?_));simp only[if_true];refine wpAny_bind (wpAny_rule ?_);refine wpAny_bind (wpAny_field hz rfl (x:=.ref TO) rfl ?_);refine wpAny_bind (wpAny_setField_rec hz (by simp) fun g1 hz1 k1=>?_)
 replace hz1:IsZip g1 z TI TO .ellipsis:=hz1
 refine wpAny_bind ?_;simp only[List.zipIdx_cons,List.zipIdx_nil,List.forIn_cons,List.forIn_nil];refine wpAny_bind (wpAny_bind (wpAny_onRaise ?_));show wpAny _ _ (Builtin.SmallTypes.nextOf (.ref i1) >>= _) _ _ _;have h1a:S1 i g1:=W1.frame _ _ _ h1 fun b hb o e=>k1.extBut b o (D.a1 b hb).1 e
 refine wpAny_bind (W1.item i _ _ _ hi1 h1a fun x g2 tk2 hx h1b k2=>wpAny_pure ?_);have hTO2:IsPair g2 TO a b:=k2.extBut _ _ D.TOi1 (k1.extBut _ _ D.TOz hTO);refine wpAny_bind (wpAny_seqItems hTO2 rfl ?_);refine wpAny_bind (wpAny_updateSeq_pair hTO2 fun g3 hTO3 k3=>?_)
 replace hTO3:IsPair g3 TO x b:=hTO3
 refine wpAny_bind (wpAny_letGo (wpAny_pure ?_));refine wpAny_bind (wpAny_bind (wpAny_onRaise ?_));show wpAny _ _ (Builtin.SmallTypes.nextOf (.ref i2) >>= _) _ _ _;have h2a:S2 i g3:=W2.frame _ _ _ h2 fun b hb o e=>k3.extBut b o (D.a2 b hb).2.1 (k2.extBut b o (D.a2 b hb).2.2 (k1.extBut b o (D.a2 b hb).1 e))
 refine wpAny_bind (W2.item i _ _ _ hi2 h2a fun y g4 tk4 hy h2b k4=>wpAny_pure ?_);have hTO4:IsPair g4 TO x b:=k4.extBut _ _ D.TOi2 hTO3;refine wpAny_bind (wpAny_seqItems hTO4 rfl ?_);refine wpAny_bind (wpAny_updateSeq_pair hTO4 fun g5 hTO5 k5=>?_)
 replace hTO5:IsPair g5 TO x y:=hTO5
 refine wpAny_bind (wpAny_letGo (wpAny_pure (wpAny_pure ?_)));refine wpAny_bind (wpAny_seqItems hTO5 rfl ?_);refine wpAny_bind (wpAny_newTuple ?_);have hsz:g5.objs.size=s.heap.objs.size:=by rw[k5.1,k4.1,k3.1,k2.1,k1.1]
 have hz5:IsZip g5 z TI TO .ellipsis:=k5.extBut _ _ D.TOz.symm (k4.extBut _ _ D.i2z.symm (k3.extBut _ _ D.TOz.symm (k2.extBut _ _ D.i1z.symm hz1)));have k:∀ c o,c≠z->c≠TO->c≠i1->c≠i2->s.heap.get? c=some o->g5.get? c=some o:=fun c o c1 c2 c3 c4 e=>
  k5.extBut _ _ c2 (k4.extBut _ _ c4 (k3.extBut _ _ c2 (k2.extBut _ _ c3 (k1.extBut _ _ c1 e))))
 have h1c:S1 (i + 1) g5:=W1.frame _ _ _ h1b fun b hb o e=>k5.extBut b o (D.a1 b hb).2.1 (k4.extBut b o (D.a1 b hb).2.2 (k3.extBut b o (D.a1 b hb).2.1 e))
 have h2c:S2 (i + 1) g5:=W2.frame _ _ _ h2b fun b hb o e=>k5.extBut b o (D.a2 b hb).2.1 e
 have hzlt:z < g5.objs.size:=Heap.lt_size hz5;show wpAny _ _ (Builtin.SmallTypes.ownedTupleHandOut (.ref z) (.ref g5.objs.size) >>= _) _ _ _;refine wpAny_bind ?_;unfold Builtin.SmallTypes.ownedTupleHandOut;have hz6 : IsZip (g5.push { cls := .type "tuple", data := .seq #[x, y] }) z TI TO .ellipsis := Heap.get?_push_of_some _ hz5;refine wpAny_bind (wpAny_setField_rec hz6 (by simp) fun g7 hz7 k7=>?_)
 replace hz7:IsZip g7 z TI TO (rawInt g5.objs.size):=hz7
 refine wpAny_setField_rec hz7 (by simp) fun g8 hz8 k8=>?_
 replace hz8:IsZip g8 z TI TO (rawInt g5.objs.size):=hz8
 have up:∀ c o,c≠z->g5.get? c=some o->g8.get? c=some o:=fun c o c1 e=>k8.extBut _ _ c1 (k7.extBut _ _ c1 (Heap.get?_push_of_some _ e))
 have hT8:IsPair g8 g5.objs.size x y:=k8.extBut _ _ (Nat.ne_of_gt hzlt) (k7.extBut _ _ (Nat.ne_of_gt hzlt) (Heap.get?_push_size _ rfl));refine wpAny_pure ⟨_,rfl,wpAny_pure ?_⟩;exact hQ x y g8 tk4 g5.objs.size hsz hx hy ⟨hz8,up _ _ D.TIz (k _ _ D.TIz D.TITO D.TIi1 D.TIi2 hTI),⟨_,_,up _ _ D.TOz hTO5⟩,
  W1.frame _ _ _ h1c fun b hb o e=>up b o (D.a1 b hb).1 e,W2.frame _ _ _ h2c fun b hb o e=>up b o (D.a2 b hb).1 e⟩ hT8 fun c o c1 c2 c3 c4 e=>up c o c1 (k c o c1 c2 c3 c4 e)
theorem zip_end (D:Zap z TI TO i1 i2 f1 f2) (W1:Draws prog w A.in1 i1 f1 n1 P1 S1) (W2:Draws prog w A.in1 i2 f2 n2 P2 S2){i:Nat}{Q:Option Value->Shared->Prop}(St:ZSt z TI TO i1 i2 S1 S2 .none i s.heap) (hi:i=n1\/(i < n1/\i=n2))
  (hQ:∀ h' tk,(∀ c o,c≠z->c≠TO->c≠i1->c≠i2->s.heap.get? c=some o->h'.get? c=some o)->Q none { s with heap:=h',toks:=tk }) :
  wpAny (model prog w) A (pyNext (.ref z)) Q E s:=by
 obtain⟨hz,hTI,⟨a,b,hTO⟩,h1,h2⟩:=St;have hT : s.TypeIs (.ref z) "zip" := ⟨_, hz, rfl⟩
 unfold pyNext;refine wpAny_bind (wpAny_attempt (wpAny_callSpecial?_slot (name := Str.ofString "__next__") hT PySem.F.slot_zip_next
  (wpAny_call_entry PySem.F.slot_zip_next hT PySem.F.entry_zip_next ?_ (PySem.F.args_zip_next_1 _))))
 have fin : ∀ {h' : Heap} {tk : Nat} {e : Addr}, (∀ c o, c ≠ z -> c ≠ TO -> c ≠ i1 -> c ≠ i2 -> s.heap.get? c = some o -> h'.get? c = some o) -> (∃ o, h'.get? e = some o /\ o.cls = .type "StopIteration") ->
   wpAny (model prog w) A (do
    let b <- isInstance (.ref e) (.type "StopIteration")
    if b=true then pure none else throw (.ref e)) Q E { s with heap:=h',toks:=tk }:=by
  rintro h' tk e hk ⟨o,ho,hc⟩
  refine wpAny_bind (wpAny_isInstance (T := "StopIteration") (b := true) ⟨o, ho, hc⟩ isSubtype_stop ?_);exact wpAny_pure (hQ _ _ hk)
 show wpAny _ _ (field (.ref z) 2 >>= _) _ _ _;refine wpAny_bind (wpAny_field hz rfl (x:=.bool false) rfl ?_);show wpAny _ _ (field (.ref z) 3 >>= _) _ _ _;refine wpAny_bind (wpAny_field hz rfl (x:=.ref TI) rfl ?_);refine wpAny_bind (wpAny_seqItems hTI rfl ?_);show wpAny _ _ (Builtin.SmallTypes.ownedTupleIsFree (.ref z) >>= _) _ _ _;refine wpAny_bind ?_;unfold Builtin.SmallTypes.ownedTupleIsFree;refine wpAny_bind (wpAny_field hz rfl (x:=.none) rfl (wpAny_pure ?_));simp only[if_true];refine wpAny_bind (wpAny_rule ?_);refine wpAny_bind (wpAny_field hz rfl (x:=.ref TO) rfl ?_);refine wpAny_bind (wpAny_setField_rec hz (by simp) fun g1 hz1 k1=>?_)
 replace hz1:IsZip g1 z TI TO .ellipsis:=hz1
 refine wpAny_bind ?_;simp only[List.zipIdx_cons,List.zipIdx_nil,List.forIn_cons,List.forIn_nil];refine wpAny_bind (wpAny_bind (wpAny_onRaise ?_));show wpAny _ _ (Builtin.SmallTypes.nextOf (.ref i1) >>= _) _ _ _;have h1a:S1 i g1:=W1.frame _ _ _ h1 fun b hb o e=>k1.extBut b o (D.a1 b hb).1 e
 rcases hi with rfl | ⟨hi1,rfl⟩
 ·refine wpAny_bind (W1.done _ _ _ h1a fun g2 e k2 he=>?_);obtain⟨oe,hoe,hce⟩:=he;have hz2:IsZip g2 z TI TO .ellipsis:=k2 _ _ D.i1z.symm hz1;have hez:e≠z:=fun x=>by subst x;rw[hz2] at hoe;cases hoe;simp at hce
  refine wpAny_setField_rec hz2 (by simp) fun g3 _ k3=>?_
  exact fin (fun c o c1 _ c3 _ x=>k3.extBut _ _ c1 (k2 _ _ c3 (k1.extBut _ _ c1 x))) ⟨oe,k3.extBut _ _ hez hoe,hce⟩
 ·refine wpAny_bind (W1.item i _ _ _ hi1 h1a fun x g2 tk2 hx h1b k2=>wpAny_pure ?_);have hTO2:IsPair g2 TO a b:=k2.extBut _ _ D.TOi1 (k1.extBut _ _ D.TOz hTO);refine wpAny_bind (wpAny_seqItems hTO2 rfl ?_);refine wpAny_bind (wpAny_updateSeq_pair hTO2 fun g3 hTO3 k3=>?_);refine wpAny_bind (wpAny_letGo (wpAny_pure ?_));refine wpAny_bind (wpAny_bind (wpAny_onRaise ?_));show wpAny _ _ (Builtin.SmallTypes.nextOf (.ref i2) >>= _) _ _ _;have h2a:S2 i g3:=W2.frame _ _ _ h2 fun b hb o e=>k3.extBut b o (D.a2 b hb).2.1 (k2.extBut b o (D.a2 b hb).2.2 (k1.extBut b o (D.a2 b hb).1 e))
  refine wpAny_bind (W2.done _ _ _ h2a fun g4 e k4 he=>?_);obtain⟨oe,hoe,hce⟩:=he;have hz4:IsZip g4 z TI TO .ellipsis:=k4 _ _ D.i2z.symm (k3.extBut _ _ D.TOz.symm (k2.extBut _ _ D.i1z.symm hz1));have hez:e≠z:=fun x=>by subst x;rw[hz4] at hoe;cases hoe;simp at hce
  refine wpAny_setField_rec hz4 (by simp) fun g5 _ k5=>?_
  exact fin (fun c o c1 c2 c3 c4 x=>k5.extBut _ _ c1 (k4 _ _ c4 (k3.extBut _ _ c2 (k2.extBut _ _ c3 (k1.extBut _ _ c1 x))))) ⟨oe,k5.extBut _ _ hez hoe,hce⟩
end
def zh1 (h : Heap) (l1 : Addr) : Heap := h.push { cls := .type "list_iterator", data := .fields #[.ref l1, .int 0 0] }
def zh2 (h : Heap) (l1 l2 : Addr) : Heap := (zh1 h l1).push { cls := .type "tuple_iterator", data := .fields #[.ref l2, .int 0 0] }
def zh3 (h : Heap) (l1 l2 : Addr) : Heap := (zh2 h l1 l2).push { cls := .type "tuple", data := .seq #[.ref h.objs.size, .ref (zh1 h l1).objs.size] }
def zh4 (h : Heap) (l1 l2 : Addr) : Heap := (zh3 h l1 l2).push { cls := .type "tuple", data := .seq #[.none, .none] }
def zh5 (h : Heap) (l1 l2 : Addr) : Heap := (zh4 h l1 l2).push { cls := .type "zip", data := .fields #[.none, .bool false, .bool false, .ref (zh2 h l1 l2).objs.size, .ref (zh3 h l1 l2).objs.size] }
theorem meets_zip (l1 l2:Addr) (xs ys:Array Value) :
  Meets (Builtin.«zip.__new__» ⟨[.type "zip", .ref l1, .ref l2], []⟩) (fun _ R s => s.heap.IsList l1 xs /\ s.heap.IsTuple l2 ys /\
   R (.ok (.ret (.ref (zh4 s.heap l1 l2).objs.size))) { s with heap:=zh5 s.heap l1 l2 }):=
 .of_wp fun prog w A R s h=>by
  obtain⟨hp,g,d,tk,os⟩:=s;obtain⟨hl1,hl2,h⟩:=h;have hsub:=sub_zip;have hL1:Heap.IsList (Shared.heap ⟨hp,g,d,tk,os⟩) l1 xs:=hl1;have hL2 : Heap.IsTuple (Shared.heap ⟨hp.push { cls := .type "list_iterator", data := .fields #[.ref l1, .int 0 0] }, g, d, tk, os⟩) l2 ys := Heap.IsTuple.push hl2 _
  wp_walk using wpAny_pyIter_list hL1,wpAny_pyIter_tuple hL2
  exact⟨_,rfl,h⟩
section
variable {prog:Program}{w:World}{A:Around}{E:Value->Shared->Prop}{s:Shared}
theorem call_zip_lt {l1 l2:Addr}{xs ys:Array Value}{Q:Value->Shared->Prop}(hl1:s.heap.IsList l1 xs) (hl2:s.heap.IsTuple l2 ys)
  (h:∀ h',IsZip h' (s.heap.objs.size + 4) (s.heap.objs.size + 2) (s.heap.objs.size + 3) .none->IsPair h' (s.heap.objs.size + 2) (.ref s.heap.objs.size) (.ref (s.heap.objs.size + 1))->
   IsPair h' (s.heap.objs.size + 3) .none .none->h'.IsListIter s.heap.objs.size l1 0->h'.IsTupleIter (s.heap.objs.size + 1) l2 0->h'.objs.size=s.heap.objs.size + 5->
   (∀ c o,s.heap.get? c=some o->h'.get? c=some o)->Q (.ref (s.heap.objs.size + 4)) { s with heap:=h' }) :
  wpAny (model prog w) A (call (.type "zip") [.ref l1, .ref l2]) Q E s := by
 refine callType_new PySem.F.called_zip (by decide) (PySem.F.typeCall_zip_2 _ _) (PySem.F.newCall_zip_2 _ _) (fun obj=>PySem.F.args_object_init_3 obj _ _) PySem.F.entry_zip_new
  (meets_zip l1 l2 xs ys) ⟨hl1,hl2,?_⟩
 have z1:(zh1 s.heap l1).objs.size=s.heap.objs.size + 1:=Heap.size_push ..;have z2:(zh2 s.heap l1 l2).objs.size=s.heap.objs.size + 2:=by unfold zh2;rw[Heap.size_push,z1]
 have z3:(zh3 s.heap l1 l2).objs.size=s.heap.objs.size + 3:=by unfold zh3;rw[Heap.size_push,z2]
 have z4:(zh4 s.heap l1 l2).objs.size=s.heap.objs.size + 4:=by unfold zh4;rw[Heap.size_push,z3]
 have z5:(zh5 s.heap l1 l2).objs.size=s.heap.objs.size + 5:=by unfold zh5;rw[Heap.size_push,z4]
 have e5:(zh5 s.heap l1 l2).get? (zh4 s.heap l1 l2).objs.size=some _:=Heap.get?_push_size _ rfl;have e4:(zh5 s.heap l1 l2).get? (zh3 s.heap l1 l2).objs.size=some _:=Heap.get?_push_of_some _ (Heap.get?_push_size _ rfl);have e3:(zh5 s.heap l1 l2).get? (zh2 s.heap l1 l2).objs.size=some _:=Heap.get?_push_of_some _ (Heap.get?_push_of_some _ (Heap.get?_push_size _ rfl));have e2:(zh5 s.heap l1 l2).get? (zh1 s.heap l1).objs.size=some _:=Heap.get?_push_of_some _ (Heap.get?_push_of_some _ (Heap.get?_push_of_some _ (Heap.get?_push_size _ rfl)));have e1:(zh5 s.heap l1 l2).get? s.heap.objs.size=some _:=Heap.get?_push_of_some _ (Heap.get?_push_of_some _ (Heap.get?_push_of_some _ (Heap.get?_push_of_some _ (Heap.get?_push_size _ rfl))));show _/\_;rw[z2,z3,z4] at e5;rw[z1,z2] at e3;rw[z3] at e4;rw[z1] at e2;rw[z4];exact⟨⟨_,e5,rfl⟩,h _ e5 e3 e4 ⟨_,e1,rfl,rfl⟩ ⟨_,e2,rfl,rfl⟩ z5 fun c o x=>
  Heap.get?_push_of_some _ (Heap.get?_push_of_some _ (Heap.get?_push_of_some _ (Heap.get?_push_of_some _ (Heap.get?_push_of_some _ x))))⟩
end
end
section
variable {prog:Program}{w:World}{A:Around}{z TI TO i1 i2:Addr}{f1 f2:List Addr}{n1 n2:Nat}{P1 P2:Nat->Value->Prop}{S1 S2:Nat->Heap->Prop}
theorem walksZip (D:Zap z TI TO i1 i2 f1 f2) (W1:Draws prog w A.in1 i1 f1 n1 P1 S1) (W2:Draws prog w A.in1 i2 f2 n2 P2 S2) (h1:i1∈f1) (h2:i2∈f2) :
  WalksT prog w A z ([z,TI,TO]++f1++f2) [z,TO,i1,i2] (min n1 n2) (fun i vals=>∃ x y,P1 i x/\P2 i y/\vals=#[x,y])
   (fun i h=>ZSt z TI TO i1 i2 S1 S2 .none i h) (fun i T h=>ZSt z TI TO i1 i2 S1 S2 (rawInt T) (i + 1) h/\T ∉ [z,TO,i1,i2]) where
 sub:=fun c hc=>by
  simp only[List.mem_cons,List.not_mem_nil,or_false] at hc;rcases hc with rfl | rfl | rfl | rfl<;>simp[h1,h2]
 frame:=fun i h h' st hk=>zst_keep D W1 W2 st hk
 item:=fun i s Q E hi st hQ=>by
  have st':=st;refine zip_item D W1 W2 st (Nat.lt_of_lt_of_le hi (Nat.min_le_left ..)) (Nat.lt_of_lt_of_le hi (Nat.min_le_right ..)) fun x y h' tk T hT hx hy st2 hp hk=>?_
  have lt:∀ {c o},s.heap.get? c=some o->T≠c:=fun e=>by rw[hT];exact Nat.ne_of_gt (Heap.lt_size e)
  obtain⟨hz,hTI,⟨a,b,hTO⟩,q1,q2⟩:=st';obtain⟨o1,e1⟩:=W1.live _ _ q1;obtain⟨o2,e2⟩:=W2.live _ _ q2;refine hQ T #[x,y] h' tk ⟨x,y,hx,hy,rfl⟩ (by rw[hT];exact Nat.le_refl _) ⟨_,hp,rfl,_,rfl⟩ ⟨st2,?_⟩ fun c o hc e=>
   hk c o (fun q=>hc (by simp[q])) (fun q=>hc (by simp[q])) (fun q=>hc (by simp[q])) (fun q=>hc (by simp[q])) e
  simp only[List.mem_cons,List.not_mem_nil,or_false,not_or];exact⟨lt hz,lt hTO,lt e1,lt e2⟩
 go:=fun elts k pos i T s Q E hm hQ=>by
  obtain⟨⟨hz,hTI,⟨a,b,hTO⟩,q1,q2⟩,_⟩:=hm;refine wpAny_letOwnedTupleGo_zip hz fun h' hz' hs'=>hQ h' ⟨hz',hs'.extBut _ _ D.TIz hTI,⟨a,b,hs'.extBut _ _ D.TOz hTO⟩,W1.frame _ _ _ q1 fun b hb o e=>hs'.extBut b o (D.a1 b hb).1 e,W2.frame _ _ _ q2 fun b hb o e=>hs'.extBut b o (D.a2 b hb).1 e⟩ fun c o hc e=>hs'.extBut _ _ (fun x=>hc (by simp[x])) e
 apart:=fun i T h hm=>hm.2
 done:=fun s Q E st hQ=>by
  refine zip_end D W1 W2 st ?_ fun h' tk hk=>hQ h' tk fun c o hc e=>hk c o (fun x=>hc (by simp[x])) (fun x=>hc (by simp[x])) (fun x=>hc (by simp[x])) (fun x=>hc (by simp[x])) e
  rcases Nat.le_total n1 n2 with h | h
  ·exact .inl (Nat.min_eq_left h)
  ·rw[Nat.min_eq_right h];rcases Nat.lt_or_ge n2 n1 with h' | h'
   ·exact .inr ⟨h',rfl⟩
   ·exact .inl (by omega)
 self:=fun i s Q E st hQ=>wpAny_pyIter_zip st.zz hQ
end
section
variable {prog:Program}{w:World}{A:Around}{E:Value->Shared->Prop}{s:Shared}
theorem strInt {i:Int}{u:Tok}{Q:Value->Shared->Prop}(hi:i.natAbs < 10000000000) (k:∀ x t tk,x.cps.toList=textOf i->x.cps.size<=11->(∀ c∈x.cps.toList,c < 1114112)->Q (.str x t) { s with toks:=tk }) :
  wpAny (model prog w) A (call (.type "str") [.int i u]) Q E s := by
 have hl:i.natAbs.log2 < 1920:=by
  by_cases h0:i.natAbs=0
  ·rw[h0];decide
  ·have h40:i.natAbs.log2 < 40:=(Nat.log2_lt h0).mpr (Nat.lt_trans hi (by decide));omega
 refine P.str_of_int hl ?_;have e1:(Str.ofString (toString i)).cps.toList=textOf i:=by rw[signs_ofString];rfl
 have e2:(textOf i).length<=11:=by
  unfold textOf;rw[List.length_map];obtain⟨m,rfl | rfl⟩:=Int.eq_nat_or_neg i
  ·show (Nat.repr m).toList.length<=11;rw[Nat.toList_repr];have:=(Nat.length_toDigits_le_iff (b:=10) (n:=m) (k:=10) (by decide) (by decide)).mpr (by omega);omega
  ·cases m with
   | zero=>decide
   | succ m=>
    show ("-" ++ Nat.repr (m + 1)).toList.length <= 11;rw[String.toList_append,List.length_append,Nat.toList_repr];have:=(Nat.length_toDigits_le_iff (b:=10) (n:=m + 1) (k:=10) (by decide) (by decide)).mpr (by omega);show 1 + _<=11;omega
 have e3:∀ d∈textOf i,d < 1114112:=by
  intro d hd;obtain⟨ch,_,rfl⟩:=List.mem_map.mp hd;have:=ch.valid;unfold Char.toNat;rcases this with h | h
  ·have:=h;omega
  ·exact h.2
 exact k _ _ _ e1 (by rw[<- Array.length_toList,e1];exact e2) (by rw[e1];exact e3)
end
end Mine
end
section
open PySem PySem.W PyProof.Rows PySem.Calls PySem.Builtin.Str
namespace Mine
def LocM (env:Env) (h:Heap) (m:Str->Option Value) (y:Str) (v:Value):Prop:=
 (env.kindOf y=some .local/\m y=some v)\/((env.kindOf y=some .cell\/env.kindOf y=some .free)/\∃ c,env.cells.lookup y=some c/\h.IsCell c (some v))
def VZ (nm:List Txt) (env:Env) (h:Heap) (σ : List Addr) (H:Hp) (m:Str->Option Value) (l:Loc):Prop:=
 ∀ (i:Nat) (v:V),l[i]?=some (some v)->∀ y,nm[i]?=some (tx y)->isVarK (env.kindOf y)=true->∃ val,LocM env h m y val/\VR h (Live σ H) σ val v
theorem VZ.set {nm:List Txt}{env:Env}{h:Heap} {σ : List Addr}{H:Hp}{m:Str->Option Value}{l:Loc}(q:VZ nm env h σ H m l) (hnd:nm.Nodup){x:Nat}{id:Str}{val:Value}{v:V}
  (hl:isLoc nm x id=true) (hk:env.kindOf id=some .local) (r:VR h (Live σ H) σ val v):VZ nm env h σ H (fun y=>if y=id then some val else m y) (l.set x (some v)):=by
 obtain⟨hl1,_,_⟩:=isLoc_iff hl;intro j v' e y hy hky;by_cases hji:j=x
 ·subst hji;have hlt:j < l.length:=by
   have:=(List.getElem?_eq_some_iff.mp e).1;simpa using this
  rw[List.getElem?_set_self hlt] at e;simp only[Option.some.injEq] at e;subst e;rw[hl1] at hy;have:id=y:=tx_inj (Option.some.inj hy);subst this;exact⟨val,.inl ⟨hk,if_pos rfl⟩,r⟩
 ·rw[List.getElem?_set_ne (fun z=>hji z.symm)] at e;obtain⟨u,hu,hr⟩:=q j v' e y hy hky;have hne:y≠id:=fun z=>hji (by
   subst z;obtain⟨h2,e2⟩:=List.getElem?_eq_some_iff.mp hy;obtain⟨h3,e3⟩:=List.getElem?_eq_some_iff.mp hl1;exact (List.getElem_inj hnd).mp (e2.trans e3.symm))
  refine⟨u,hu.imp (fun ⟨a,b⟩=>⟨a,?_⟩) (fun z=>z),hr⟩;show (if y=id then some val else m y)=some u;rw[if_neg hne];exact b
theorem VZ.load {nm:List Txt}{env:Env}{h:Heap} {σ : List Addr}{H:Hp}{m:Str->Option Value}{l:Loc}(q:VZ nm env h σ H m l){x:Nat}{id:Str}{v:V}
  (hl:isLoc nm x id=true) (hk:env.kindOf id=some .local) (e:l[x]?=some (some v)):∃ val,m id=some val/\VR h (Live σ H) σ val v:=by
 obtain⟨hl1,_,_⟩:=isLoc_iff hl;obtain⟨val,hu,hr⟩:=q x v e id hl1 (by rw[hk];rfl);rcases hu with ⟨_,hm⟩ | ⟨h' | h',_⟩
 ·exact⟨val,hm,hr⟩
 ·rw[hk] at h';cases h'
 ·rw[hk] at h';cases h'
theorem pairs_get:∀ {vs ws:List V}{i:Nat}{a c:V},vs[i]?=some a->ws[i]?=some c->(pairs vs ws)[i]?=some (a,c)
 | [],_,i,a,c,h,_=>by simp at h
 | _::_,[],i,a,c,_,h=>by simp at h
 | v::vs,w::ws,0,a,c,h1,h2=>by simp at h1 h2;subst h1;subst h2;rfl
 | v::vs,w::ws,i + 1,a,c,h1,h2=>by
  simp only[List.getElem?_cons_succ] at h1 h2;exact pairs_get (vs:=vs) (ws:=ws) (i:=i) h1 h2
theorem pairs_len:∀ (vs ws:List V),(pairs vs ws).length=min vs.length ws.length
 | [],ws=>by simp[pairs]
 | _::_,[]=>by simp[pairs]
 | v::vs,w::ws=>by simp only[pairs,List.length_cons,pairs_len vs ws];omega
theorem nne {a b:Nat}(h:a < b\/b < a) : @Ne Addr a b:=fun (e:a=b)=>by omega
theorem nlt {a n:Nat}(k:Nat) (h:a < n) : @Ne Addr a (n + k):=fun (e:a=n + k)=>by omega
theorem zap_new (n aL aT:Nat) (hL:aL < n) (hT:aT < n):Zap (n + 4) (n + 2) (n + 3) n (n + 1) [n,aL] [n + 1,aT]:=
 ⟨nne (by omega),nne (by omega),nne (by omega),nne (by omega),nne (by omega),nne (by omega),nne (by omega),nne (by omega),nne (by omega),nne (by omega),fun b hb=>by
  simp only[List.mem_cons,List.not_mem_nil,or_false] at hb;rcases hb with rfl | rfl<;>exact⟨nne (by omega),nne (by omega),nne (by omega)⟩,fun b hb=>by
  simp only[List.mem_cons,List.not_mem_nil,or_false] at hb;rcases hb with rfl | rfl<;>exact⟨nne (by omega),nne (by omega),nne (by omega)⟩⟩
section
variable {prog:Program}{w:World}{A:Around}{c:Cx}{n:Nat}
variable {s:Shared} {σ : List Addr}{H:Hp}{E:Value->Shared->Prop}{env:Env}{nm:List Txt}
theorem isStore_iff {x:Nat}{id:Str}(h:isStore nm env.kindOf x id=true):isLoc nm x id=true/\env.kindOf id=some .local:=by
 simpa [isStore] using h
set_option maxHeartbeats 1000000 in
theorem zipTurn {x z t:Nat}{id id' t1 g:Str}{a v0 v1 : _}{cc:V}{h:Heap}{m:Str->Option Value}{l l2:Loc}{Q:Flow->Shared->Prop}{q1 q2 q3 q4 q5 q6 q7 q8 q9 q10 q11 q12 q13:Pos}{kk:Nat}{h0:Heap}
  (G:Gd c.base) (F:FnE c env) (hnd:nm.Nodup) (hx:isStore nm env.kindOf x id=true) (hz:isStore nm env.kindOf z id'=true) (hxz:id≠id') (ht:isStore nm env.kindOf t t1=true)
  (hg:isGlob env.kindOf g [115,116,114]=true) (hs:c.base.StaysIn h)
  (hn:h.Ns env.locals (fun y=>if y=id' then some v1 else if y=id then some v0 else m y)) (V:VZ nm env h0 σ H m l) (r0:VR h0 (Live σ H) σ v0 a) (r1:VR h0 (Live σ H) σ v1 cc)
  (he:zip1 x z t a cc l=some l2)
  (k:∀ h' tk m',h'.Ns env.locals m'->Heap.ExtBut env.locals h h'->VZ nm env h0 σ H m' l2->Q .next { s with heap:=h',toks:=tk }) :
  wpAny (model prog w) A (execs [.If (.Compare (.Name id' q1) [.IsNot] [.Constant .none kk q2] q3) [.Assign [.Name t1 q4] (.BinOp (.BinOp (.Name t1 q5) .Add (.Name id q6) q7) .Add (.Call (.Name g q8) [.Name id' q9] [] q10) q11) q12] [] q13] env) Q E { s with heap:=h }:=by
 obtain⟨hx1,hx2⟩:=isStore_iff hx;obtain⟨hz1,hz2⟩:=isStore_iff hz;obtain⟨ht1,ht2⟩:=isStore_iff ht;have V2:=(V.set hnd hx1 hx2 r0).set hnd hz1 hz2 r1;have eid:∀ (Q:Value->Shared->Prop) (tk:Nat) (p:Pos),Q v1 { s with heap:=h,toks:=tk }->wpAny (model prog w) A (eval (.Name id' p) env) Q E { s with heap:=h,toks:=tk }:=fun Q tk p hQ=>
  wpAny_Name (wpAny_loadName_local F.eo.kind hz2 hn (if_pos rfl) hQ) (isLoc_iff hz1).2.1
 have kstop:∀ l2,VZ nm env h0 σ H (fun y=>if y=id' then some v1 else if y=id then some v0 else m y) l2->(∀ h' tk m',h'.Ns env.locals m'->Heap.ExtBut env.locals h h'->VZ nm env h0 σ H m' l2->Q .next { s with heap:=h',toks:=tk })->Q .next { s with heap:=h }:=fun l2 q k=>
  k h s.toks _ hn (fun _ _ _ e=>e) q
 refine wpAny_execs_cons (wpAny_If (wpAny_isTrue_Compare1 (eid _ s.toks q1 (wpAny_Constant_none (isnot_none_gen (wpAny_truthy_bool ?_)))) rfl));unfold zip1 at he;split at he
 ·
  rw[r1.none_inv];cases he;rw[if_neg (by decide)];exact wpAny_execs_nil (wpAny_execs_nil (kstop _ V2 k))
 ·rename_i i;obtain⟨tv,rfl⟩:=r1.int_inv;rw[if_pos (show (!(Value.int i tv==Value.none))=true from rfl)];split at he<;>try cases he
  rename_i sv j hsv;split at he<;>try cases he
  rename_i hcap;obtain⟨val,hm,hr⟩:=V2.load ht1 ht2 hsv;obtain⟨sx,st,rfl,rfl,hs1,hs2⟩:=hr.str_inv;obtain⟨jx,jt,rfl,rfl,hj1,hj2⟩:=r0.str_inv;have hm1:(if t1=id' then some (Value.int i tv) else if t1=id then some (Value.str jx jt) else m t1)=some (.str sx st):=hm;refine wpAny_execs_cons (wpAny_Assign_Name (wpAny_BinOp (wpAny_BinOp (wpAny_Name (wpAny_loadName_local F.eo.kind ht2 hn hm1 ?_) (isLoc_iff ht1).2.1))) rfl);refine wpAny_Name (wpAny_loadName_local F.eo.kind hx2 hn (v:=.str jx jt) (by show (if id=id' then _ else if id=id then _ else _)=_;rw[if_neg hxz,if_pos rfl]) ?_) (isLoc_iff hx1).2.1;refine PyProof.Rows.add_str (fun u1 tk1=>?_) (Nat.le_trans (by have:=hcap.2;simp[Str.length] at this ⊢;omega) sizeLine_cap);obtain⟨rfl,hgk,hgd⟩:=glob_id hg;refine Call_ (Name_function_global F.eo.kind hgk (loadGlobal_builtin (mg:=G.mg) (mb:=G.mb) (by rw[F.eo.glob];exact G.g.keeps hs) G.hstr.1 (by rw[F.eo.blt];exact G.b.keeps hs) G.hstr.2 ?_) hgd);refine PyProof.Rows.callWith_type1 (args_cons (eid _ tk1 _ (args_nil (strInt hcap.1 fun ix it tk2 hi1 hi2 hi3=>?_))));refine PyProof.Rows.add_str (fun u2 tk3=>?_) (Nat.le_trans ?_ sizeLine_cap)
  ·refine wpAny_storeName_local ht2 hn (fun h5 hn5 hs5=>wpAny_execs_nil (wpAny_execs_nil ?_)) (by simp[F.eo.kind]);refine k h5 _ _ hn5 hs5.extBut ?_;refine V2.set hnd ht1 ht2 (VR.str' ?_ ?_ fun ch hch=>?_)
   ·rw[Str.cps_append,Str.cps_append];simp[hi1]
   ·have:=hcap.2;simp at this ⊢;omega
   ·simp only[List.mem_append] at hch;rcases hch with (q | q) | q
    ·exact hs2 ch q
    ·exact hj2 ch q
    ·exact hi3 ch (by rw[hi1];exact q)
  ·have:=hcap.2;have e:ix.length=(textOf i).length:=by rw[<- hi1];simp[Str.length]
   rw[e];simp[Str.length,Str.cps_append] at this ⊢;omega
 ·cases he
set_option maxHeartbeats 1000000 in
theorem sndZip {x z t:Nat}{id id' t1 g:Str}{l l':Loc}{Q:Flow->Shared->Prop}{p1 p2 p3 q1 q2 q3 q4 q5 q6 q7 q8 q9 q10 q11 q12 q13:Pos}{x1 kk:Nat}{aL aT:Addr}{arrL arrT:Array Value}{m1 m2:Nat}{vs ws:List V}
  (G:Gd c.base) (F:FnE c env) (hh:A.handled=none) (hnd:nm.Nodup) (hx:isStore nm env.kindOf x id=true) (hz:isStore nm env.kindOf z id'=true) (hxz:id≠id') (ht:isStore nm env.kindOf t t1=true)
  (hg:isGlob env.kindOf g [115,116,114]=true) (X:c.Ok s.heap σ H) (hv:Vars nm env s.heap σ H l) (f:Fm env s.heap)
  (hL:s.heap.get? aL=some (LstO arrL m1)) (hT:s.heap.get? aT=some (TupO arrT m2)) (rL:VRs s.heap (Live σ H) σ arrL.toList vs) (rT:VRs s.heap (Live σ H) σ arrT.toList ws)
  (he:zipL x z t (pairs vs ws) l=some l')
  (k:∀ h' tk,c.Ok h' σ H->Adv (Own env) s.heap σ H h' σ H->Vars nm env h' σ H l'->Fm env h'->Q .next { s with heap:=h',toks:=tk }) :
  wpAny (model prog w) A (call (.type "zip") [.ref aL, .ref aT]) (fun zv s1 => wpAny (model prog w) A (pyIter zv) (fun it s2 => codeAny (model prog w) A (.forLoop (.Tuple [.Name id p1, .Name id' p2] x1 p3) it
   [.If (.Compare (.Name id' q1) [.IsNot] [.Constant .none kk q2] q3) [.Assign [.Name t1 q4] (.BinOp (.BinOp (.Name t1 q5) .Add (.Name id q6) q7) .Add (.Call (.Name g q8) [.Name id' q9] [] q10) q11) q12] [] q13] [] env)
   (fun r s'=>match r with | .ok f=>Q f s' | .error e=>cameBackBy (model prog w) A env E e s') s2) E s1) E s:=by
 have hIL:s.heap.IsList aL arrL:=⟨_,hL,rfl,m1,rfl⟩
 have hIT:s.heap.IsTuple aT arrT:=⟨_,hT,rfl,m2,rfl⟩
 obtain⟨m0,hn0⟩:=f.1;have lL:=Heap.lt_size hL;have lT:=Heap.lt_size hT;have lE:env.locals < s.heap.objs.size:=by obtain⟨o,_,_,ho,_⟩:=hn0;exact Heap.lt_size ho
 have neL:env.locals≠aL:=fun q=>ns_noseq hn0 _ (q ▸ hL) ⟨_,_,rfl⟩
 have neT:env.locals≠aT:=fun q=>ns_noseq hn0 _ (q ▸ hT) ⟨_,_,rfl⟩
 refine call_zip_lt hIL hIT fun h1 hz1 hTI1 hTO1 hi1 hi2 hsz hk1=>?_
 refine wpAny_pyIter_zip (s:={ s with heap:=h1 }) hz1 ?_;have D:=zap_new s.heap.objs.size aL aT lL lT;have W:=walksZip (prog:=prog) (w:=w) (A:=A) D (Draws.list (A:=A.in1) hh s.heap.objs.size aL (nne (.inl lL)) arrL) (drawsTup (A:=A.in1) hh (s.heap.objs.size + 1) aT (nne (.inl (Nat.lt_succ_of_lt lT))) arrT) (by simp) (by simp);have pub:(env.scope.kind==.class||(env.scope.kind==.module&&env.locals != env.globals))=false:=by simp[F.eo.kind]
 obtain⟨hx1,hx2⟩:=isStore_iff hx;obtain⟨hz1',hz2⟩:=isStore_iff hz;have base0:c.base.get? env.locals=none:=by
  obtain⟨outer,hen⟩:=F.head;exact (X.frames.mem (List.mem_filterMap.mpr ⟨env,by rw[hen];exact List.mem_cons_self,F.loc⟩)).1
 have szL:arrL.size=vs.length:=by rw[<- rL.length,Array.length_toList]
 have szT:arrT.size=ws.length:=by rw[<- rT.length,Array.length_toList]
 refine codeAny_forLoop_frT (s:={ s with heap:=h1 }) (h₀:=h00) (m:=m0) (news:=allBut s.heap env.locals) (P2:=fun i x y=>arrL[i]?=some x/\arrT[i]?=some y) hh W (fun i vals ⟨x,y,a,b,d⟩=>⟨x,y,d,a,b⟩) hx2 hz2 pub ?_ (fun b _=>h00_none b) ?_ ?_ ?_ ?_
  (fun i m₁ news₁=>news₁=allBut s.heap env.locals/\∃ li,zipL x z t ((pairs vs ws).drop i) li=some l'/\VZ nm env s.heap σ H m₁ li) ⟨rfl,l,he,?_⟩ ?_ ?_
 ·simp only[List.mem_append,List.mem_cons,List.not_mem_nil,or_false,not_or];exact⟨⟨⟨nlt 4 lE,nlt 2 lE,nlt 3 lE⟩,nlt 0 lE,neL⟩,nlt 1 lE,neT⟩
 ·intro p hp;have:=Heap.lt_size (of_allBut hp).2;simp only[List.mem_cons,List.not_mem_nil,or_false,not_or];exact⟨nlt 4 this,nlt 3 this,nlt 0 this,nlt 1 this⟩
 ·exact⟨hz1,hTI1,⟨_,_,hTO1⟩,⟨hi1,⟨_,hk1 _ _ hL,rfl,m1,rfl⟩⟩,⟨hi2,⟨_,hk1 _ _ hT,rfl,m2,rfl⟩⟩⟩
 ·exact fr0 (ns_keep hn0 (hk1 _))
 ·exact fun p hp=>⟨hk1 _ _ (of_allBut hp).2,(of_allBut hp).1,h00_none _⟩
 ·intro i v e y hy hky;obtain⟨u,hu,hr⟩:=hv i v e y hy hky;refine⟨u,hu.imp (fun ⟨a,m',b,d⟩=>⟨a,?_⟩) (fun q=>q),hr⟩;rw[ns_fun hn0 b];exact d
 ·rintro i v0 v1 m₁ news₁ s₁ own ⟨h,tk,rfl⟩ hi ⟨g0,g1⟩ ⟨rfl,li,hli,Vi⟩ _ hown Fi Ni
  have hi1:i < arrL.size:=Nat.lt_of_lt_of_le hi (Nat.min_le_left ..);have hi2:i < arrT.size:=Nat.lt_of_lt_of_le hi (Nat.min_le_right ..);obtain⟨w0,e0,r0⟩:=rL.get i (vs[i]'(by omega)) (List.getElem?_eq_getElem (by omega));obtain⟨w1,e1,r1⟩:=rT.get i (ws[i]'(by omega)) (List.getElem?_eq_getElem (by omega));rw[Array.getElem?_toList,g0] at e0;rw[Array.getElem?_toList,g1] at e1;cases e0;cases e1;have hp:=pairs_get (vs:=vs) (ws:=ws) (i:=i) (List.getElem?_eq_getElem (by omega)) (List.getElem?_eq_getElem (by omega));have hdrop:(pairs vs ws).drop i=(vs[i]'(by omega),ws[i]'(by omega))::(pairs vs ws).drop (i + 1):=by
   have hl:=(List.getElem?_eq_some_iff.mp hp).1;rw[List.drop_eq_getElem_cons hl]
   congr 1
   exact (List.getElem?_eq_some_iff.mp hp).2
  rw[hdrop] at hli;simp only[zipL] at hli;cases hz1:zip1 x z t (vs[i]'(by omega)) (ws[i]'(by omega)) li with
  | none=>rw[hz1] at hli;cases hli
  | some l2=>
   rw[hz1] at hli;refine zipTurn (s:={ s with heap:=h,toks:=tk }) (σ:=σ) (H:=H) (h0:=s.heap) G F hnd hx hz hxz ht hg (fun b o e=>(Ni (b,o) (List.mem_append_right _ (mem_allBut (fun q=>by rw[q,base0] at e;cases e) (X.stays b o e)))).1) Fi.ns Vi r0 r1 hz1 fun h' tk' m' hn' hk' V'=>?_
   have Nn:News h00 env.locals h' (own++allBut s.heap env.locals):=fun p hp=>⟨hk' _ _ (Ni p hp).2.1 (Ni p hp).1,(Ni p hp).2⟩
   exact⟨rfl,h',tk',m',_,rfl,fr0 hn',Nn,rfl,rfl,l2,hli,V'⟩
 ·rintro h' tk m' news' F' N' _ ⟨rfl,li,hli,V'⟩
  have hend:(pairs vs ws).drop (min arrL.size arrT.size)=[]:=List.drop_of_length_le (by rw[pairs_len];omega);rw[hend] at hli;simp only[zipL,Option.some.injEq] at hli;subst hli;have keep:∀ b o,b≠env.locals->s.heap.get? b=some o->h'.get? b=some o:=fun b o hb e=>(N' (b,o) (mem_allBut hb e)).1
  have X':c.Ok h' σ H:=(changeF (O:=fun b=>b=env.locals) (h0:=h00) (H0:=[]) (σ0:=[]) (O0:=No) (h':=h') X (adv00 _ _ _ _)
   (fun b _=>h00_none b) (fun b o hb e=>keep b o hb e) (fun b z=>by subst z;exact⟨base0,ns_noseq hn0,.inl ⟨_,F'.ns⟩⟩)).1
  have adv:Adv (Own env) s.heap σ H h' σ H:=⟨fun b o hb e=>.inl (keep b o (fun z=>hb (.inr (.inl z))) e),fun _ _ e=>e,fun _ e _=>e,fun b o e=>by
   by_cases hba:b=env.locals
   ·subst hba;obtain⟨o',_,_,ho',_⟩:=F'.ns;exact⟨o',ho'⟩
   ·exact⟨o,keep b o hba e⟩⟩
  have cells:∀ x a,env.cells.lookup x=some a->a≠env.locals:=fun x a hx hq=>by
   obtain⟨v,o,ho,hd⟩:=f.2 x a hx;obtain⟨o',es,ep,ho',hd',_⟩:=hn0;subst hq;rw[ho] at ho';cases ho';rw[hd] at hd';cases hd'
  refine k h' tk X' adv (fun i v e y hy hky=>?_) ⟨⟨_,F'.ns⟩,fun x a hx=>?_⟩
  ·obtain⟨u,hu,hr⟩:=V' i v e y hy hky;refine⟨u,?_,hr.adv adv f.noseq⟩;rcases hu with ⟨a,b⟩ | ⟨a,cc,hc,o,ho,hd⟩
   ·exact .inl ⟨a,m',F'.ns,b⟩
   ·exact .inr ⟨a,cc,hc,o,keep _ _ (cells _ _ hc) ho,hd⟩
  ·obtain⟨v,o,ho,hd⟩:=f.2 x a hx;exact⟨v,o,keep _ _ (cells _ _ hx) ho,hd⟩
end
end Mine
end
section
open PySem PySem.W PyProof.Rows PySem.Calls PySem.Builtin.Str
namespace Mine
def RaiseSnd (prog:Program) (w:World) (b0:Heap) (C:Value):Prop:=
 ∀ (c:Cx) (A:Around) (s:Shared) (σ : List Addr) (H:Hp) (env:Env) (i:Int) (t u:Tok) (x:Str) (Q:Flow->Shared->Prop) (E:Value->Shared->Prop),c.base=b0->c.C=C->c.envs≠[]->AOk c A 4->0 < s.toks->c.Ok s.heap σ H->x.length<=capL->
  (∀ e h' tk,c.Ok h' σ H->Adv No s.heap σ H h' σ H->Exc c.base c.C s.heap e h'->E (.ref e) { s with heap:=h',toks:=tk })->
  wpAny (model prog w) A (PySem.call C [.int i t,.str x u]) (fun xv s'=>wpAny (model prog w) A (raiseStmt env (some (pure xv)) none) Q E s') E s
def ClsSnd (prog:Program) (w:World) (b0:Heap) (C:Value):Prop:=
 ∀ (A:Around) (s:Shared) (pos:Pos) (T:PySem.Sem Value) (args:List (Bool × PySem.Sem Value)) (Q E:Value->Shared->Prop),args.any (·.1)=false->
  wpAny (model prog w) A (spliced ((false,T)::args)) (fun vs s₁=>b0.StaysIn s₁.heap/\wpAny (model prog w) A (PySem.call C vs) Q E s₁) E s->wpAny (model prog w) A (callWith pos C [] ((false,T)::args) []) Q E s
def CatchSnd (prog:Program) (w:World) (b0:Heap) (C:Value):Prop:=
 ∀ (c:Cx) (A:Around) (s:Shared) (σ σ0:List Addr) (H H0:Hp) (h0:Heap) (O:Addr->Prop) (env:Env) (e:Addr) (t:Expr) (hpos rpos kpos:Pos) (k:Nat) (Q:Flow->Shared->Prop) (E:Value->Shared->Prop),c.base=b0->c.C=C->c.envs≠[]->AOk c A 4->c.Ok s.heap σ H->Adv O h0 σ0 H0 s.heap σ H->ExcT .none c.base c.C h0 e s.heap->
  (∀ (A':Around) (s':Shared) (Q' E':Value->Shared->Prop),c.Ok s'.heap σ H->Q' C s'->wpAny (model prog w) A' (eval t env) Q' E' s')->
  (∀ h' tk,c.Ok h' σ H->Adv O h0 σ0 H0 h' σ H->Q (.ret .none) { s with heap:=h',toks:=tk })->
  wpAny (model prog w) A (handleBy (.ref e) env [.ExceptHandler (some t) none [.Return (some (.Constant .none k kpos)) rpos] hpos]) Q E s
structure RdyS (prog:Program) (w:World) (c:Cx) (A:Around) (call:Nat->List V->Hp->Option (Res V)) (n:Nat) extends Rdy prog w c A call n where
 hC:G.mg (sOf [70,111,114,109,97,116,70,97,117,108,116])=some c.C
 rs:RaiseSnd prog w c.base c.C
 ct:CatchSnd prog w c.base c.C
 kc:ClsSnd prog w c.base c.C
 n4 : 4<=n
theorem upto_get:∀ (n i j:Nat),j < n->(upto n i)[j]?=some (.int ((i + j:Nat):Int))
 | 0,_,_,h=>by omega
 | n + 1,i,0,_=>rfl
 | n + 1,i,j + 1,h=>by
  have:=upto_get n (i + 1) j (by omega);show (upto n (i + 1))[j]?=_;rw[this];congr 3;omega
theorem upto_len:∀ (n i:Nat),(upto n i).length=n
 | 0,_=>rfl
 | n + 1,i=>by rw[upto,List.length_cons,upto_len n]
theorem kdSelf (env:Env):KdOk env.kindOf env:=⟨fun _ h=>h,fun _ h=>h,fun _ h=>h⟩
theorem noSwap {v:Expr}{t:Option Expr}{ln:Nat}{env:Env}(h:(match v with | .ListComp ..=>false | .SetComp ..=>false | .DictComp ..=>false | _=>true)=true):swapsWith v t ln env=pure false:=by
 cases v<;>first | rfl | cases h
theorem noFold {v:Expr}{env:Env}(h:notDisp v=true) (x:Value):foldedSetIterable v env x=pure x:=by
 cases v<;>first | rfl | cases h
section
variable {prog:Program}{w:World}{A:Around}{c:Cx}{call:Nat->List V->Hp->Option (Res V)}{n N:Nat}{env:Env}{nm:List Txt}
theorem AOk.less {m:Nat}(au:AOk c A n) (h:m<=n):AOk c A m:=⟨au.frames,by have:=au.units;omega,by have:=au.depth;omega,au.handled⟩
mutual
theorem sndS (R:RdyS prog w c A call n) (F:FnE c env) (hnd:nm.Nodup):∀ (x:Mine.S){s:Shared} {σ : List Addr}{H:Hp}{Q:Flow->Shared->Prop}{E:Value->Shared->Prop}{loc:Loc}{st:Stmt}{r:RS},
  0 < s.toks->chkS nm env.kindOf x st=true->EB call N c.b x loc H=some r->c.Ok s.heap σ H->Vars nm env s.heap σ H loc->Fm env s.heap->ContS c env nm s σ H Q E r->wpAny (model prog w) A (exec st env) Q E s
 | .assign i e,s,σ,H,Q,E,loc,st,r,ht,hc,he,X,hv,f,k=>by
  simp only[chkS] at hc;split at hc<;>try cases hc
  simp only[Bool.and_eq_true,Bool.or_eq_true,isStore,isStoreC,beq_iff_eq] at hc;obtain⟨⟨h1,h2⟩,h3⟩:=hc;simp only[EB] at he;refine wpAny_Assign_Name (goS ht he k.exk (fun r1 e1 E'=>sndE R.toRdy e F.eo (kdSelf env) hnd ht h3 e1 X hv) fun v H1 e1 va h' tk σ' hp X1 a1 q1=>?_) (noSwap h2);simp only[Option.some.injEq] at e1;subst e1;refine store (s:={ s with heap:=h',toks:=tk }) F hnd (h1.elim (·.1) (·.1)) (h1.imp (·.2) (·.2)) X1 (hv.adv0 X a1) (f.adv0 X a1) q1 fun h2 tk2 X2 a2 hv2 f2 ht2=>?_
  exact k h2 tk2 σ' (Nat.lt_of_lt_of_le hp ht2) X2 (a1.own.trans a2) hv2 f2
 | .assignC i e y m,s,σ,H,Q,E,loc,st,r,ht,hc,he,X,hv,f,k=>by
  simp only[chkS] at hc;split at hc<;>try cases hc
  rename_i id p v pos;simp only[Bool.and_eq_true,isStore,beq_iff_eq] at hc;obtain⟨⟨h1,h2⟩,h3⟩:=hc;obtain⟨elt,y',p',id',q',k',cpos,scope,pos',rfl,K,hg,g1,g2,g3⟩:=chk_comp h2;simp only[Bool.and_eq_true,beq_iff_eq,Bool.not_eq_true'] at h3;have hsw:swapsWith (.ListComp elt [⟨.Name y' p',.Call (.Name id' q') [k'] [] cpos,[],0⟩] scope pos') (some (.Name id p)) pos.line env=pure true:=by
   show pure (env.blockKind==.function&&env.kindOf id==some .local&&p.line==pos'.line&&!(scope.names.any fun (z,k)=>z==id&&(k==.local||k==.cell)))=_;have hb:env.blockKind=.function:=by
    unfold Env.blockKind;rw[F.eo.kind];rfl
   rw[hb,h1.2,h3.1.1,h3.2];simp
  simp only[EB] at he;rw[exec_Assign_Name_used _ _ _ _ hsw];refine wpAny_bind (wpAny_standAt (wpAny_bind ?_));show wpAny _ A (do let _ <- comprehension (.ListComp elt [⟨.Name y' p',.Call (.Name id' q') [k'] [] cpos,[],0⟩] scope pos') scope env _ (newList []) false (eval (.Call (.Name id' q') [k'] [] cpos) env) (some (assign (.Name id p) env))) _ _ s;rcases bndS_go he with ⟨v,H1,e1,e2⟩ | ⟨H1,e1,rfl⟩
  ·simp only[Option.some.injEq] at e2;subst e2;refine wpAny_bind (wpAny_mono (compCore (Q:=fun _ s'=>Q .next s') R.toRdy F.eo (kdSelf env) hnd ht K hg g3 X hv (fun r1 e1 E'=>sndE R.toRdy m F.eo (kdSelf env) hnd ht g1 e1 X hv) (fun eo' ko' hp e' X' hv'=>sndE R.toRdy e eo' ko' hnd hp g2 e' X' hv') e1 (fun H1 e=>by cases e) (fun l H2 j D C h' tk σ' hr hpure hl hd hp X' a' hC hn hbC hfC=>?_)) (fun _ s' hq=>wpAny_pure (wpAny_pure hq)) fun _ _ e=>e);obtain⟨m',hn⟩:=hn;cases hr;obtain⟨X1,a1,q1⟩:=seal_list X' hl hd;have a2:=a'.trans a1;refine assign_Name (store (s:={ s with heap:=h',toks:=tk }) F hnd h1.1 (.inl h1.2) X1 (hv.adv0 X a2) (f.adv0 X a2) (q1 hpure) fun h3 tk3 X3 a3 hv3 f3 ht3=>?_);have hCO:¬ Own env C:=fun z=>by
    rcases z with rfl | ⟨x,hx⟩
    ·obtain⟨m,o,_,_,ho,_⟩:=f.1;rw[hC] at ho;cases ho
    ·obtain⟨v,o,ho,_⟩:=f.2 x C hx;rw[hC] at ho;cases ho
   have hn3:h3.Ns C m':=ns_step a3.step hn fun z=>z.elim (fun z=>by obtain⟨arr,k,q⟩:=X1.live_seq z;exact ns_noseq hn _ q ⟨_,_,rfl⟩) hCO
   refine⟨m',hn3,fun h4 hs4=>?_⟩;obtain⟨X4,a4⟩:=changeF (O:=fun a=>a=C) (h':=h4) X3 (a2.own.trans a3) (fun a z=>by rw[z];exact hC) (fun b o hb e=>hs4.extBut b o hb e) (fun a z=>by subst z;exact⟨hbC,ns_noseq hn3,.inr hfC⟩);have k34:∀ b,b≠C->∀ o,h3.get? b=some o->h4.get? b=some o:=fun b hb o e=>hs4.extBut b o hb e
   refine k h4 tk3 σ' (Nat.lt_of_lt_of_le hp ht3) X4 a4 (fun i v e z hz hkz=>?_) ⟨f3.1.imp fun m hn=>ns_keep hn (k34 _ fun z=>hCO (.inl z.symm)),fun x a hx=>(f3.2 x a hx).imp fun v ⟨o,ho,hd⟩=>⟨o,k34 a (fun z=>hCO (.inr ⟨x,z ▸ hx⟩)) o ho,hd⟩⟩;obtain⟨u,hu,hr⟩:=hv3 i v e z hz hkz;refine⟨u,?_,VR.mono (fun b o _ e hs=>k34 b (fun z=>ns_noseq hn3 o (z ▸ e) hs) o e) (fun _ q _=>q) (fun _ _ q=>q) hr⟩;rcases hu with ⟨h1,m',hn,h3⟩ | ⟨h1,b,h2',o,h3,h4⟩
   ·exact .inl ⟨h1,m',ns_keep hn (k34 _ fun z=>hCO (.inl z.symm)),h3⟩
   ·exact .inr ⟨h1,b,h2',o,k34 b (fun z=>hCO (.inr ⟨_,z ▸ h2'⟩)) o h3,h4⟩
  ·refine wpAny_bind (wpAny_mono (compCore (Q:=fun _ s'=>Q .next s') R.toRdy F.eo (kdSelf env) hnd ht K hg g3 X hv (fun r1 e1 E'=>sndE R.toRdy m F.eo (kdSelf env) hnd ht g1 e1 X hv) (fun eo' ko' hp e' X' hv'=>sndE R.toRdy e eo' ko' hnd hp g2 e' X' hv') e1 (fun H1 e=>by cases e;exact k.exk _ rfl) (fun l H2 j D C h' tk σ' hr=>by cases hr)) (fun _ s' hq=>wpAny_pure (wpAny_pure hq)) fun _ _ e=>e)
 | .unpack xs e,s,σ,H,Q,E,loc,st,r,ht,hc,he,X,hv,f,k=>by
  simp only[chkS] at hc;split at hc<;>try cases hc
  rename_i ts x1 tpos v pos;simp only[Bool.and_eq_true] at hc;obtain⟨⟨h1,h2⟩,h3⟩:=hc;simp only[EB] at he;refine Assign_Tuple (goS ht he k.exk (fun r1 e1 E'=>sndE R.toRdy e F.eo (kdSelf env) hnd ht h3 e1 X hv) fun v H1 e1 va h' tk σ' hp X1 a1 q1=>?_) (by cases v<;>first | rfl | cases h2) (by cases v<;>first | rfl | cases h2);split at e1<;>try cases e1
  rw[Option.map_eq_some_iff] at e1;obtain⟨l',e1,rfl⟩:=e1;exact assignTup (s:={ s with heap:=h',toks:=tk }) R.au.handled F hnd h1 e1 hp X1 (hv.adv0 X a1) (f.adv0 X a1) q1 fun h2 tk2 hp2 X2 a2 hv2 f2=>k h2 tk2 σ' hp2 X2 (a1.own.trans a2) hv2 f2
 | .setIdx a i e,s,σ,H,Q,E,loc,st,r,ht,hc,he,X,hv,f,k=>by
  simp only[chkS] at hc;split at hc<;>try cases hc
  simp only[Bool.and_eq_true] at hc;obtain⟨⟨⟨⟨h1,h2⟩,h3⟩,h4⟩,h5⟩:=hc;simp only[EB] at he;refine wpAny_Assign_Subscript (goS ht he k.exk (fun r1 e1 E'=>sndE R.toRdy e F.eo (kdSelf env) hnd ht h5 e1 X hv) fun v H1 e1 va h1' tk1 σ1 hp1 X1 a1 q1=>?_) (noSwap h2);have k1:=k.adv0 (tk:=tk1) a1;have hv1:=hv.adv0 X a1;refine goS (s:={ s with heap:=h1',toks:=tk1 }) hp1 e1 k1.exk (fun r1 e1 E'=>sndE R.toRdy a F.eo (kdSelf env) hnd hp1 h3 e1 X1 hv1) fun v2 H2 e2 va2 h2' tk2 σ2 hp2 X2 a2 q2=>?_
  have k2:=k1.adv0 (tk:=tk2) a2;have hv2:=hv1.adv0 X1 a2;refine goS (s:={ s with heap:=h2',toks:=tk2 }) hp2 e2 k2.exk (fun r1 e1 E'=>sndE R.toRdy i F.eo (kdSelf env) hnd hp2 h4 e1 X2 hv2) fun v3 H3 e3 va3 h3' tk3 σ3 hp3 X3 a3 q3=>?_
  have k3:=k2.adv0 (tk:=tk3) a3;split at e3<;>try cases e3
  rename_i j kk;split at e3<;>try cases e3
  rename_i xs hg;split at e3<;>try cases e3
  rename_i hm;rw[Option.map_eq_some_iff] at e3;obtain⟨xs',e4,rfl⟩:=e3;unfold setAt at e4;split at e4<;>try cases e4
  rename_i hkk;obtain⟨t3,rfl⟩:=q3.int_inv;obtain⟨b,rfl,hb⟩:=(q2.adv0 a3).ref_inv;obtain⟨b',arr,m,g1,g2,g3,g4⟩:=X3.objs j xs (hget_iff hg);rw[hb] at g1;cases g1;have hlen:=g4.length;rw[Array.length_toList] at hlen;have hcap:arr.size<=1048576:=g3;refine setItem_lst (s:={ s with heap:=h3',toks:=tk3 }) g2 hkk.1 (by omega) (by omega) ?_;obtain⟨X4,a4⟩:=turn_stmt (s:={ s with heap:=h3',toks:=tk3 }) (l':=xs.set kk.toNat v) (f:=Obj.mapSeq (·.setIfInBounds kk.toNat va)) X3 hg hb g2 (arr':=arr.setIfInBounds kk.toNat va) rfl (by rw[Array.size_setIfInBounds];exact g3) (by
   rw[Array.toList_setIfInBounds];exact VRs.set (lim_vr (s:={ s with heap:=h3',toks:=tk3 }) X3 hm ((q1.adv0 a2).adv0 a3)) g4 _)
  exact k3 _ tk3 σ3 hp3 X4 a4.own ((hv2.adv0 X2 a3).adv0 X3 a4) ((((f.adv0 X a1).adv0 X1 a2).adv0 X2 a3).adv0 X3 a4)
 | .aug i e,s,σ,H,Q,E,loc,st,r,ht,hc,he,X,hv,f,k=>by
  simp only[chkS] at hc;split at hc<;>try cases hc
  rename_i id np v pos;simp only[Bool.and_eq_true,isStore,beq_iff_eq] at hc;obtain⟨⟨h1,h2⟩,h3⟩:=hc;simp only[EB] at he;split at he<;>try cases he
  rename_i u hu;obtain⟨hl1,hl2,hl3⟩:=isLoc_iff h1;refine wpAny_AugAssign_Name ?_;obtain⟨old,hla,hr⟩:=hv i u hu id hl1 (by rw[h2];rfl);rcases hla with ⟨_,m,hm,hme⟩ | ⟨h' | h',_⟩
  case inr.inl=>rw[h2] at h';cases h'
  case inr.inr=>rw[h2] at h';cases h'
  refine wpAny_loadName_local F.eo.kind h2 hm hme ?_;refine goS ht he k.exk (fun r1 e1 E'=>sndE R.toRdy e F.eo (kdSelf env) hnd ht h3 e1 X hv) fun v' H1 e1 va h1' tk1 σ1 hp1 X1 a1 q1=>?_
  have k1:=k.adv0 (tk:=tk1) a1;have hv1:=hv.adv0 X a1;have f1:=f.adv0 X a1;have hr1:=hr.adv0 a1;split at e1<;>try cases e1
  ·rename_i a b;obtain⟨t1,rfl⟩:=hr1.int_inv;obtain⟨t2,rfl⟩:=q1.int_inv;exact iadd_int (store (s:={ s with heap:=h1',toks:=tk1 + 1 }) F hnd h1 (.inl h2) X1 hv1 f1 (.int _ _) fun h4 tk4 X4 a4 hv4 f4 ht4=>k1 h4 tk4 σ1 (Nat.lt_of_lt_of_le (Nat.succ_pos _) ht4) X4 a4 hv4 f4)
  ·rename_i a b;split at e1<;>try cases e1
   rename_i hz;obtain⟨x,t1,rfl,rfl,hx1,hx2⟩:=hr1.str_inv;obtain⟨y,t2,rfl,rfl,hy1,hy2⟩:=q1.str_inv;have fin:∀ (z:Str) (t:Tok) (tk:Nat),0 < tk->z.cps.toList=x.cps.toList++y.cps.toList->wpAny (model prog w) A (storeName env id (.str z t)) (fun _=>Q .next) E { s with heap:=h1',toks:=tk }:=by
    intro z t tk htk hzz;refine store (s:={ s with heap:=h1',toks:=tk }) F hnd h1 (.inl h2) X1 hv1 f1 (v:=.str (x.cps.toList++y.cps.toList)) (VR.str' hzz (by rw[List.length_append];exact hz) fun ch hch=>?_) fun h4 tk4 X4 a4 hv4 f4 ht4=>k1 h4 tk4 σ1 (Nat.lt_of_lt_of_le htk ht4) X4 a4 hv4 f4
    rcases List.mem_append.mp hch with q | q
    ·exact hx2 ch q
    ·exact hy2 ch q
   refine wpAny_with_toks (n:=1) hp1 (PyProof.Rows.iadd_str (fun t' tk htk=>fin (x++y) t' tk htk (by rw[Str.cps_append];simp)) ?_);exact Nat.le_trans (by simpa [Str.length] using hz) sizeLine_cap
 | .append a e,s,σ,H,Q,E,loc,st,r,ht,hc,he,X,hv,f,k=>by
  simp only[chkS] at hc;split at hc<;>try cases hc
  simp only[Bool.and_eq_true,beq_iff_eq] at hc;obtain⟨⟨⟨⟨h1,h2⟩,h3⟩,h4⟩,h5⟩:=hc;rename_i o m ap x pos epos;simp only[EB] at he;have hm:=name_is h2 nm_append;subst hm;have hint:interactive env=false:=by
   unfold interactive;rw[F.eo.kind];rfl
  refine wpAny_Expr (MethodC h1 (form1 h5) fun pl=>goS ht he k.exk (fun r1 e1 E'=>sndE R.toRdy a F.eo (kdSelf env) hnd ht h3 e1 X hv) fun v H1 e1 va h1' tk1 σ1 hp1 X1 a1 q1=>?_) hint;have k1:=k.adv0 (tk:=tk1) a1;have hv1:=hv.adv0 X a1;split at e1<;>try cases e1
  rename_i j;obtain⟨b,rfl,hb⟩:=q1.ref_inv;obtain⟨ob,m',hob⟩:=X1.dom b (List.mem_of_getElem? hb);refine getMethod_builtin (T := "list") ⟨_, hob, rfl⟩ PySem.F.plainAttrs_list PySem.F.slot_list_append PySem.F.type_list_append (fun c e => by cases e; exact ⟨_, hob, rfl⟩) ?_;dsimp only;refine callWith_method1 (args_cons (goS (s:={ s with heap:=h1',toks:=tk1 }) hp1 e1 k1.exk (fun r1 e1 E'=>sndE R.toRdy e F.eo (kdSelf env) hnd hp1 h4 e1 X1 hv1) fun v3 H3 e3 va3 h3' tk3 σ3 hp3 X3 a3 q3=>args_nil ?_) (notStar_each h5)) (notStar_each h5);have k3:=k1.adv0 (tk:=tk3) a3;split at e3<;>try cases e3
  rename_i xs hg;split at e3<;>try cases e3
  rename_i hm;simp only[Bool.and_eq_true,decide_eq_true_eq] at hm;have hb3:=a3.pre _ _ hb;obtain⟨b',arr,m',g1,g2,g3,g4⟩:=X3.objs j xs (hget_iff hg);rw[hb3] at g1;cases g1;have hlen:=g4.length;rw[Array.length_toList] at hlen;refine wpAny_list_append_plain (s:={ s with heap:=h3',toks:=tk3 }) ⟨m',g2⟩ (fun h4 hl4 hs4=>?_) (Nat.le_trans g3 sizeLine_cap);obtain⟨m4,hl4⟩:=hl4;obtain⟨X4,a4⟩:=turn_list (l':=xs++[v3]) X3 (hget_iff hg) hb3 hs4 hl4 (by rw[Array.size_push];omega) (by
   rw[Array.toList_push];exact VRs.append (.cons (lim_vr (s:={ s with heap:=h3',toks:=tk3 }) X3 hm.1 q3) .nil) g4)
  exact k3 h4 tk3 σ3 hp3 X4 a4.own ((hv1.adv0 X1 a3).adv0 X3 a4) (((f.adv0 X a1).adv0 X1 a3).adv0 X3 a4)
 | .ite t a b,s,σ,H,Q,E,loc,st,r,ht,hc,he,X,hv,f,k=>by
  simp only[chkS] at hc;split at hc<;>try cases hc
  simp only[Bool.and_eq_true] at hc;obtain⟨⟨h1,h2⟩,h3⟩:=hc;simp only[EB] at he;refine wpAny_If (goST ht he k.exk (fun v H1 e1=>?_) (fun r1 e1 E'=>sndE R.toRdy t F.eo (kdSelf env) hnd ht h1 e1 X hv) fun tt H1 e1 h' tk σ' hp X1 a1=>?_)
  ·split at e1<;>try cases e1
   ·exact⟨_,rfl⟩
   ·exact⟨_,rfl⟩
  ·cases tt with
   | true=>rw[if_pos rfl];exact sndSs R F hnd a (s:={ s with heap:=h',toks:=tk }) hp h2 e1 X1 (hv.adv0 X a1) (f.adv0 X a1) (k.adv0 a1)
   | false=>rw[if_neg (by decide)];exact sndSs R F hnd b (s:={ s with heap:=h',toks:=tk }) hp h3 e1 X1 (hv.adv0 X a1) (f.adv0 X a1) (k.adv0 a1)
 | .while t a,s,σ,H,Q,E,loc,st,r,ht,hc,he,X,hv,f,k=>by
  simp only[chkS] at hc;split at hc<;>try cases hc
  simp only[Bool.and_eq_true] at hc;obtain⟨h1,h2⟩:=hc;simp only[EB] at he;refine wpAny_While (sndWhile (cd:=fun _ _=>none) F R.au (fun hp e1 X1 hv1=>sndE R.toRdy t F.eo (kdSelf env) hnd hp h1 e1 X1 hv1) (fun hp e1 X1 hv1 f1 k1=>sndSs R F hnd a hp h2 e1 X1 hv1 f1 k1) k ⟨s.heap,s.toks,σ,rfl,ht,X,.refl ..,hv,f⟩ he)
 | .ret e,s,σ,H,Q,E,loc,st,r,ht,hc,he,X,hv,f,k=>by
  simp only[chkS] at hc;split at hc<;>try cases hc
  simp only[EB] at he;refine wpAny_Return_some (goS ht he k.exk (fun r1 e1 E'=>sndE R.toRdy e F.eo (kdSelf env) hnd ht hc e1 X hv) fun v H1 e1 va h' tk σ' hp X1 a1 q1=>?_);simp only[Option.some.injEq] at e1;subst e1;exact k va h' tk σ' X1 a1.own q1
 | .raise a,s,σ,H,Q,E,loc,st,r,ht,hc,he,X,hv,f,k=>by
  simp only[chkS] at hc;split at hc<;>try cases hc
  simp only[Bool.and_eq_true,decide_eq_true_eq] at hc;obtain⟨⟨⟨h0,h1⟩,h2⟩,h3⟩:=hc;rename_i id np x t kk cp cpos pos;simp only[EB] at he;show wpAny (model prog w) A (do standAt pos;raiseStmt env (some (do let v <- eval (.Call (.Name id np) [x,.Constant (.str t) kk cp] [] cpos) env;standAt pos;pure v)) none) Q E s;refine wpAny_bind (wpAny_standAt ?_);show wpAny (model prog w) A (do let xv <- (do let v <- eval (.Call (.Name id np) [x,.Constant (.str t) kk cp] [] cpos) env;standAt pos;pure v);raiseStmt env (some (pure xv)) none) Q E s;refine wpAny_bind (wpAny_bind (Call_ (name_mg R.G F.eo h1 X R.hC ?_)));rw[notStar_each h0];refine R.kc A _ _ _ _ _ _ rfl (spliced_cons (goS ht he k.exk (fun r1 e1 E'=>sndE R.toRdy a F.eo (kdSelf env) hnd ht h2 e1 X hv) fun v H1 e1 va h' tk σ' hp X1 a1 q1=>spliced_cons (Constant_str (k:=kk) (pos:=cp) (spliced_nil ⟨X1.stays,?_⟩))));split at e1<;>try cases e1
  obtain⟨t1,rfl⟩:=q1.int_inv;refine wpAny_mono (R.rs c A _ σ' H1 env _ t1 _ t Q E rfl rfl R.hne (R.au.less R.n4) (Nat.succ_pos _) X1 h3 fun e h2 tk2 X2 a2 x2=>?_) (fun xv s' h'=>wpAny_bind (wpAny_standAt (wpAny_pure h'))) fun _ _ y=>y
  exact k e h2 tk2 σ' X2 (a1.own.trans a2.own) ((x2.x (.inl rfl)).adv a1)
 | .cont,s,σ,H,Q,E,loc,st,r,ht,hc,he,X,hv,f,k=>by
  simp only[chkS] at hc;split at hc<;>try cases hc
  simp only[EB,Option.some.injEq] at he;subst he;exact wpAny_Continue (k s.heap s.toks σ ht X (.refl ..) hv f)
 | .tryRet e,s,σ,H,Q,E,loc,st,r,ht,hc,he,X,hv,f,k=>by
  simp only[chkS] at hc;split at hc<;>try cases hc
  simp only[Bool.and_eq_true] at hc;obtain⟨h1,h2⟩:=hc;rename_i ve rpos id np kk kpos rpos2 hpos pos;simp only[EB] at he;obtain⟨outer,hen⟩:=F.head;refine wpAny_Try_except (wpAny_execs_cons (wpAny_Return_some ?_));cases hev:EC call c.b loc e H with
  | none=>rw[hev] at he;cases he
  | some r1=>
   rw[hev] at he;cases r1 with
   | ok v H1=>
    simp only[Option.some.injEq] at he;subst he;exact (sndE R.toRdy e F.eo (kdSelf env) hnd ht h2 hev X hv).1 _ fun val h' tk σ' X1 a1 q1=>k val h' tk σ' X1 a1.own q1
   | exc H1=>
    simp only[Option.some.injEq] at he;subst he;refine (sndE R.toRdy e F.eo (kdSelf env) hnd ht h2 hev X hv).1 _ fun ex h' tk σ' X1 a1 x1=>?_
    refine exc_note (s:={ s with heap:=h',toks:=tk }) (O:=Own env) hen R.au.frames F.loc X1 a1.own (x1.x (.inl rfl)) fun h2 X2 a2 x2=>?_
    refine exc_fly (s:={ s with heap:=h2,toks:=tk }) none X2 a2 x2 fun h3 X3 a3 x3=>?_
    exact R.ct c A { s with heap:=h3,toks:=tk } σ' σ H1 H s.heap (Own env) env ex _ hpos rpos2 kpos kk Q E rfl rfl R.hne (R.au.less R.n4) X3 a3 x3
     (fun A' s' Q' E' X' hq=>name_mg R.G F.eo h1 X' R.hC hq) fun h4 tk4 X4 a4=>k .none h4 tk4 σ' X4 a4 .none
 | .forE i e a,s,σ,H,Q,E,loc,st,r,ht,hc,he,X,hv,f,k=>by
  simp only[chkS] at hc;split at hc<;>try cases hc
  simp only[Bool.and_eq_true,isStore,beq_iff_eq] at hc;obtain⟨⟨⟨h1,h2⟩,h3⟩,h4⟩:=hc;simp only[EB] at he;refine wpAny_For (goS ht he k.exk (fun r1 e1 E'=>sndE R.toRdy e F.eo (kdSelf env) hnd ht h3 e1 X hv) fun v H1 e1 va h1' tk1 σ1 hp1 X1 a1 q1=>?_) (noFold h2);have k1:=k.adv0 (tk:=tk1) a1;have hv1:=hv.adv0 X a1;have f1:=f.adv0 X a1;have nOwn:∀ {b:Addr},h1'.get? b=none->¬ Own env b:=fun {b} hb z=>by
   rcases z with rfl | ⟨x,hx⟩
   ·obtain⟨m,o,_,_,ho,_⟩:=f1.1;rw[hb] at ho;cases ho
   ·obtain⟨v,o,ho,_⟩:=f1.2 x b hx;rw[hb] at ho;cases ho
  have hnew:h1'.get? h1'.objs.size=none:=size_none _ (Nat.le_refl _);have gp:∀ o:Obj,Grow c.base h1' (h1'.push o):=fun o=>grow_keeps X1.stays fun _ _ e=>Heap.get?_push_of_some _ e
  have I1:∀ o:Obj,LInv c env nm { s with heap:=h1',toks:=tk1 } σ1 H1 { s with heap:=h1'.push o,toks:=tk1 } loc H1:=fun o=>
   ⟨h1'.push o,tk1,σ1,rfl,hp1,X1.grow (gp o),((gp o).adv σ1 H1).own,hv1.adv0 X1 ((gp o).adv σ1 H1),f1.adv0 X1 ((gp o).adv σ1 H1)⟩
  have body:SndBody prog w A c env nm (fun l H=>EA call N c.b a l H) _:=fun hp e1 X1 hv1 f1 k1=>sndSs R F hnd a hp h4 e1 X1 hv1 f1 k1
  split at e1<;>try cases e1
  ·rename_i vs;generalize ev:V.lst vs=vv at q1;cases q1 with
   | lst hob hF hz hr=>
    cases ev;rename_i b arr mm;have hL:h1'.IsList b arr:=⟨_,hob,rfl,mm,rfl⟩
    have hlt:=Heap.lt_size hob;refine wpAny_pyIter_list (s:={ s with heap:=h1',toks:=tk1 }) hL ?_;refine sndFor (s:={ s with heap:=h1',toks:=tk1 }) (vs:=vs) F R.au hnd (Walks.list R.au.handled h1'.objs.size b (Nat.ne_of_lt hlt) arr) h1.1 h1.2 hnew X1 (nOwn hnew) (fun j h hst o ho=>?_) (fun b' hb' hne=>?_) (by rw[<- hr.length,Array.length_toList]) (fun j v _ hv'=>?_) f1.noseq body k1 (I1 _) ?_ e1
    ·obtain⟨⟨o',ho',_,hd'⟩,_⟩:=hst;rw[ho] at ho';cases ho';exact⟨_,hd'⟩
    ·simp only[List.mem_cons,List.not_mem_nil,or_false] at hb';rcases hb' with rfl | rfl
     ·exact absurd rfl hne
     ·exact⟨⟨_,hob,_,_,rfl⟩,hF,fun z=>f1.noseq _ _ z hob ⟨_,_,rfl⟩⟩
    ·intro h' σ' H' a';have hjl:vs[j]?≠none:=by
      intro hn;have e1:=List.getElem?_eq_none_iff.mp hn;have e2:=hr.length;rw[Array.length_toList] at e2;have e3:=(Array.getElem?_eq_some_iff.mp hv').1;omega
     obtain⟨y,hy⟩:=Option.ne_none_iff_exists'.mp hjl;obtain⟨v2,hv2,hr2⟩:=hr.get j y hy;rw[Array.getElem?_toList] at hv2;rw[hv'] at hv2;cases hv2;exact⟨y,hy,hr2.adv a' f1.noseq⟩
    ·exact⟨⟨_,Heap.get?_push_size _ rfl,rfl,rfl⟩,⟨_,Heap.get?_push_of_some _ hob,rfl,mm,rfl⟩⟩
   | _=>cases ev
  ·rename_i t;obtain⟨x,u,rfl,rfl,hx1,hx2⟩:=q1.str_inv;have hsz:(x.cps.toList.map fun ch=>V.str [ch]).length=x.cps.size:=by simp
   have hP:∀ j v,j < x.cps.size->SignAt x j v->∀ {h':Heap} {σ':List Addr}{H':Hp},Adv (Own env) h1' σ1 H1 h' σ' H'->∃ y,(x.cps.toList.map fun ch=>V.str [ch])[j]?=some y/\VR h' (Live σ' H') σ' v y:=by
    rintro j v _ ⟨ch,u',hch,rfl⟩ h' σ' H' a'
    have hch':x.cps.toList[j]?=some ch:=by rw[Array.getElem?_toList];exact hch
    refine⟨.str [ch],by rw[List.getElem?_map,hch'];rfl,VR.str' rfl (by show 1<=1048576;omega) fun z hz=>?_⟩;simp only[List.mem_singleton] at hz;subst hz;exact hx2 _ (List.mem_of_getElem? hch')
   cases ha:x.cps.all (· < 128)
   ·refine wpAny_pyIter_wide (s:={ s with heap:=h1',toks:=tk1 }) ha ?_;refine sndFor (s:={ s with heap:=h1',toks:=tk1 }) (vs:=x.cps.toList.map fun ch=>V.str [ch]) F R.au hnd (Walks.strWide R.au.handled h1'.objs.size x u) h1.1 h1.2 hnew X1 (nOwn hnew) (fun j h hst o ho=>?_) (fun b' hb' hne=>?_) hsz hP f1.noseq body k1 (I1 _) ⟨_,Heap.get?_push_size _ rfl,rfl,rfl⟩ e1
    ·obtain⟨o',ho',_,hd'⟩:=hst;rw[ho] at ho';cases ho';exact⟨_,hd'⟩
    ·simp only[List.mem_singleton] at hb';exact absurd hb' hne
   ·refine wpAny_pyIter_ascii (s:={ s with heap:=h1',toks:=tk1 }) ha ?_;refine sndFor (s:={ s with heap:=h1',toks:=tk1 }) (vs:=x.cps.toList.map fun ch=>V.str [ch]) F R.au hnd (Walks.strAscii R.au.handled h1'.objs.size x u) h1.1 h1.2 hnew X1 (nOwn hnew) (fun j h hst o ho=>?_) (fun b' hb' hne=>?_) hsz hP f1.noseq body k1 (I1 _) ⟨_,Heap.get?_push_size _ rfl,rfl,rfl⟩ e1
    ·obtain⟨o',ho',_,hd'⟩:=hst;rw[ho] at ho';cases ho';exact⟨_,hd'⟩
    ·simp only[List.mem_singleton] at hb';exact absurd hb' hne
 | .forR i e a,s,σ,H,Q,E,loc,st,r,ht,hc,he,X,hv,f,k=>by
  simp only[chkS] at hc;split at hc<;>try cases hc
  simp only[Bool.and_eq_true,isStore,beq_iff_eq] at hc;obtain⟨⟨⟨⟨h1,h2⟩,h0⟩,h3⟩,h4⟩:=hc;simp only[EB] at he;refine wpAny_For (Call_ (name_mb R.G F.eo h2 X R.G.hrange.1 R.G.hrange.2 (PyProof.Rows.callWith_type1 (args_cons (goS ht he k.exk (fun r1 e1 E'=>sndE R.toRdy e F.eo (kdSelf env) hnd ht h3 e1 X hv) fun v H1 e1 va h1' tk1 σ1 hp1 X1 a1 q1=>args_nil ?_) (notStar_each h0)) (notStar_each h0)))) (noFold rfl);have k1:=k.adv0 (tk:=tk1) a1;have hv1:=hv.adv0 X a1;have f1:=f.adv0 X a1;have nOwn:∀ {b:Addr},h1'.get? b=none->¬ Own env b:=fun {b} hb z=>by
   rcases z with rfl | ⟨x,hx⟩
   ·obtain⟨m,o,_,_,ho,_⟩:=f1.1;rw[hb] at ho;cases ho
   ·obtain⟨v,o,ho,_⟩:=f1.2 x b hx;rw[hb] at ho;cases ho
  have body:SndBody prog w A c env nm (fun l H=>EA call N c.b a l H) _:=fun hp e1 X1 hv1 f1 k1=>sndSs R F hnd a hp h4 e1 X1 hv1 f1 k1
  split at e1<;>try cases e1
  rename_i kk;split at e1<;>try cases e1
  rename_i hkk;obtain⟨t,rfl⟩:=q1.int_inv;have hc2:=hkk.2;have hcp:capL=1048576:=rfl;refine call_range_1 (wpAny_pyIter_range (IsRange.new ..) (small_one (by omega) (by omega) (by omega) (by omega)) ?_);have hsz:Builtin.Range.rangeSize 0 kk 1=((kk.toNat:Nat):Int):=by rw[rangeSize_one];split<;>omega
  generalize hhR : h1'.push { cls := .type "range", data := .fields #[.int 0 tk1, .int kk t, .int 1 (tk1 + 1)] } = hR;have gR:∀ b o,h1'.get? b=some o->hR.get? b=some o:=fun b o e=>by rw[<- hhR];exact Heap.get?_push_of_some _ e
  have g1:Grow c.base h1' hR:=grow_keeps X1.stays gR;have hnew:hR.get? hR.objs.size=none:=size_none _ (Nat.le_refl _);have hle:h1'.get? hR.objs.size=none:=by
   cases q:h1'.get? hR.objs.size with
   | none=>rfl
   | some o=>exact absurd (gR _ _ q) (by rw[hnew];intro z;cases z)
  have g2:∀ o:Obj,Grow c.base h1' (hR.push o):=fun o=>grow_keeps X1.stays fun b o' e=>Heap.get?_push_of_some _ (gR b o' e)
  refine sndFor (s:={ s with heap:=h1',toks:=tk1 }) (I:=hR.objs.size) (fp:=[hR.objs.size]) (m:=kk.toNat) (vs:=upto kk.toNat 0) F R.au hnd (Walks.range R.au.handled hR.objs.size 0 1 kk.toNat) h1.1 h1.2 hle X1 (nOwn hle) (fun j h hst o ho=>?_) (fun b' hb' hne=>?_) (upto_len _ _) (fun j v hj hv'=>?_) f1.noseq body k1
   ⟨hR.push _,_,σ1,rfl,?_,X1.grow (g2 _),((g2 _).adv σ1 H1).own,hv1.adv0 X1 ((g2 _).adv σ1 H1),f1.adv0 X1 ((g2 _).adv σ1 H1)⟩ ?_ e1
  ·rw[hst] at ho;cases ho;exact⟨_,rfl⟩
  ·simp only[List.mem_singleton] at hb';exact absurd hb' hne
  ·intro h' σ' H' a';obtain⟨t',rfl⟩:=hv';refine⟨_,upto_get _ _ _ hj,?_⟩;rw[show (0:Int) + (j:Int) * 1=((0 + j:Nat):Int) by omega];exact .int _ _
  ·exact Nat.succ_pos _
  ·show IsRangeIter _ _ _ _ _;rw[hsz];exact Heap.get?_push_size _ rfl
 | .zipStr x z t e e2,s,σ,H,Q,E,loc,st,r,ht,hc,he,X,hv,f,k=>by
  simp only[chkS] at hc;split at hc<;>try cases hc
  simp only[Bool.and_eq_true,bne_iff_ne,ne_eq,beq_iff_eq] at hc;obtain⟨⟨⟨⟨⟨⟨⟨⟨⟨⟨⟨⟨⟨⟨⟨h1,h2⟩,h3⟩,h4⟩,h5⟩,h6⟩,h7⟩,h8⟩,h9⟩,h10⟩,h11⟩,h12⟩,h13⟩,h14⟩,h15⟩,h16⟩:=hc;subst h7 h8 h9 h10;simp only[EB] at he;refine wpAny_with_toks (n:=1) ht ?_;refine wpAny_For (Call_ (name_mb R.G F.eo h4 X R.G.hzip.1 R.G.hzip.2 (PyProof.Rows.callWith_type1 (args_cons (goS ht he (fun H1 e=>(k.exk H1 e).pos) (fun r1 e1 E'=>sndE R.toRdy e F.eo (kdSelf env) hnd ht h15 e1 X hv) fun v H1 e1 va h1' tk1 σ1 hp1 X1 a1 q1=>?_) (notStar_each h13)) (notStar_each h13) (by rw[notStar_each h14];rfl)))) (noFold rfl);have k1:=k.adv0 (tk:=tk1) a1;have hv1:=hv.adv0 X a1;have f1:=f.adv0 X a1;refine args_cons (goS (s:={ s with heap:=h1',toks:=tk1 }) hp1 e1 (fun H1 e=>(k1.exk H1 e).pos) (fun r1 e1 E'=>sndE R.toRdy e2 F.eo (kdSelf env) hnd hp1 h16 e1 X1 hv1) fun v2 H2 e3 va2 h2' tk2 σ2 hp2 X2 a2 q2=>args_nil ?_) (notStar_each h14);have k2:=k1.adv0 (tk:=tk2) a2;have hv2:=hv1.adv0 X1 a2;have f2:=f1.adv0 X1 a2;have q1':=q1.adv0 a2;split at e3<;>try cases e3
  rename_i vs ws;rw[Option.map_eq_some_iff] at e3;obtain⟨l2,e3,rfl⟩:=e3;generalize ev:V.lst vs=vv at q1';cases q1' with
  | lst hL _ _ rL=>
   cases ev;generalize ev2:V.tup ws=vv2 at q2;cases q2 with
   | tup hT _ _ rT=>
    cases ev2;exact sndZip (s:={ s with heap:=h2',toks:=tk2 }) R.G F R.au.handled hnd h1 h2 h3 h6 h5 X2 hv2 f2 hL hT rL rT e3 fun h' tk X' a' hv' f' hp=>k2 h' tk σ2 hp X' a' hv' f'
   | _=>cases ev2
  | _=>cases ev
theorem sndSs (R:RdyS prog w c A call n) (F:FnE c env) (hnd:nm.Nodup):∀ (x:Mine.Ss){s:Shared} {σ : List Addr}{H:Hp}{Q:Flow->Shared->Prop}{E:Value->Shared->Prop}{loc:Loc}{st:List Stmt}{r:RS},
  0 < s.toks->chkSs nm env.kindOf x st=true->EA call N c.b x loc H=some r->c.Ok s.heap σ H->Vars nm env s.heap σ H loc->Fm env s.heap->ContS c env nm s σ H Q E r->wpAny (model prog w) A (execs st env) Q E s
 | .nil,s,σ,H,Q,E,loc,st,r,ht,hc,he,X,hv,f,k=>by
  simp only[chkSs,List.isEmpty_iff] at hc;subst hc;simp only[EA,Option.some.injEq] at he;subst he;exact wpAny_execs_nil (k s.heap s.toks σ ht X (.refl ..) hv f)
 | .cons x y,s,σ,H,Q,E,loc,st,r,ht,hc,he,X,hv,f,k=>by
  simp only[chkSs] at hc;split at hc<;>try cases hc
  simp only[Bool.and_eq_true] at hc;simp only[EA] at he;refine wpAny_execs_cons ?_;cases h1:EB call N c.b x loc H with
  | none=>rw[h1] at he;cases he
  | some r1=>
   rw[h1] at he;refine sndS R F hnd x ht hc.1 h1 X hv f ?_;cases r1 with
   | next l1 H1=>exact fun h' tk σ' hp X' a' hv' f'=>sndSs R F hnd y (s:={ s with heap:=h',toks:=tk }) hp hc.2 he X' hv' f' (k.adv a')
   | cont l1 H1=>simp only[Option.some.injEq] at he;subst he;exact k
   | ret v H1=>simp only[Option.some.injEq] at he;subst he;exact k
   | exc H1=>simp only[Option.some.injEq] at he;subst he;exact k
end
end
end Mine
end
section
set_option maxRecDepth 100000
open PySem PySem.W PyProof.Rows PySem.Calls Builtin Builtin.ObjectAttr
namespace Mine
structure FK (K:Frag) (C D f1 f2:Addr):Prop where
 objC : ∃ dd cd sl, K.lookup C = some ⟨.type "type", dd, .cls cd, sl⟩ /\ cd.mro = [.ref C, .ref D, .type "Exception", .type "BaseException", .type "object"] /\ cd.hasDict = true /\ cd.hasDel = false /\ (sl[4]?).join = some (.builtin "Exception.__new__")
 call : specialIn K (.ref C) "__call__" = some (some (.builtin "type.__call__"))
 typ : instIn K (.ref C) (.type "type") = some true
 init : findIn K (.ref C) "__init__" = some (some (.ref f1))
 t1 : typeIn K (.ref f1) = some (.type "function")
def excObj (C:Addr) (T:Addr):Obj:={ cls:=.ref C,data:=.fields #[.ref T,.none,.none,.none,.bool false,.none] }
def tupO (l : List Value) : Obj := { cls := .type "tuple", data := .seq l.toArray }
section
variable {prog:Program}{w:World}{A:Around}{K:Frag}{C D f1 f2:Addr}{R:Result->Shared->Prop}{h:Heap}{g:Array GenState}{d:Drawn}{t:Nat}{os:OsState}
theorem mro_looks {M : Model} (X : K.In h) (Y : FK K C D f1 f2) : Looks M h (mroOf (.ref C)) [.ref C, .ref D, .type "Exception", .type "BaseException", .type "object"] := by
 obtain⟨dd,cd,sl,ho,hm,_⟩:=Y.objC;rw[<- hm];exact (looks_clsIn X (by unfold clsIn;rw[ho])).andThen .now
theorem sub_looks {M : Model} (X : K.In h) (Y : FK K C D f1 f2) (base : Value) {b : Bool} (e : [Value.ref C, .ref D, .type "Exception", .type "BaseException", .type "object"].contains base = b) : Looks M h (isSubtype (.ref C) base) b := by
 obtain⟨dd,cd,sl,ho,hm,_⟩:=Y.objC;refine looks_mroIn X ?_;unfold mroIn;rw[show clsIn K C=some cd by unfold clsIn;rw[ho],Option.bind_some,hm,if_neg (by simp),e]
theorem made_looks {M : Model} (X : K.In h) (Y : FK K C D f1 f2) : Looks M h (Bind.madeBy (.ref C)) (some "Exception.__new__") := by
 intro A Q E s k q;have L:=mro_looks (M:=M) X Y;obtain⟨dd,cd,sl,ho,hm,_,_,hs⟩:=Y.objC;unfold Bind.madeBy;refine wpAny_bind (L A _ E s k ?_);rw[List.forIn_cons];refine wpAny_bind (wpAny_bind (wpAny_bind (wpAny_bind (wpAny_loadPart (k _ _ (X _ _ ho)) (wpAny_pure ?_)))));dsimp only;rw[hs];exact wpAny_pure (wpAny_pure (wpAny_pure q))
theorem base_looks {M:Model}(X:K.In h) (Y:FK K C D f1 f2):Looks M h (Bind.staticBase (.ref C)) (.ref C):=by
 intro A Q E s k q;have L:=mro_looks (M:=M) X Y;have m:=made_looks (M:=M) X Y;unfold Bind.staticBase;refine wpAny_bind (L A _ E s k ?_);rw[List.forIn_cons];exact wpAny_bind (wpAny_bind (wpAny_bind (m A _ E s k (wpAny_pure (wpAny_pure (wpAny_pure q))))))
theorem fault_new (X:K.In h) (Y:FK K C D f1 f2){rest:List Value}(hrest:rest.length<=sizeLine)
  (hq:R (.ok (.ret (.ref (h.objs.size + 1)))) ⟨(h.push (tupO rest)).push (excObj C h.objs.size),g,d,t,os⟩) :
  codeAny (model prog w) A (.call (.builtin "Exception.__new__") ⟨.ref C :: rest, []⟩) R ⟨h, g, d, t, os⟩ := by
 have F:=PySem.F.excBase_Exception;have m:=made_looks (M:=model prog w) X Y;have b:=base_looks (M:=model prog w) X Y;have s1 := sub_looks (M := model prog w) X Y (.type "Exception") (b := true) (by simp);have s2 := sub_looks (M := model prog w) X Y (.type "AttributeError") (b := false) (by simp);have s3 := sub_looks (M := model prog w) X Y (.type "NameError") (b := false) (by simp);have hstar:=F.noStar;obtain⟨dd,cd,sl,ho,hm,hd,hdel,hs⟩:=Y.objC;have hC:=X _ _ ho;refine codeAny_call_builtin_code (Code.quiet_builtin _ F.quiet) ?_;simp only[checkBuiltinCall,F.newKind,F.newSplit,F.newRow]
 repeat (first | simp only[bne_self_eq_false,Bool.false_eq_true,if_false] | lk)
 have hends:=F.ends;have here : Looks (model prog w) h (Bind.madeHere "BaseException.__new__" (.ref C)) () := b.andThen (m.andThen (Looks.of_pure (by simp only [Option.map_some, F.canon, bne_self_eq_false, Bool.false_eq_true, if_false])));refine PySem.codeAny_builtinAt F.entry ?_;unfold Builtin.«BaseException.__new__»;refine PySem.wpAt_bind ?_;show PySem.wpAt _ _ _ (stack >>= _) _ _ _;refine PySem.wpAt_bind (PySem.wpAt_stack fun p below=>PySem.wpAt_of_wpAny ?_)
 wp_walk
 refine PySem.wpAt_of_wpAny ?_;rw[F.owner];have hcd : ∀ o o' : Obj, ((h.push o).push o').get? C = some { cls := Value.type "type", dict := dd, data := Data.cls cd, slots := sl } := fun o o' => Heap.get?_push_of_some _ (Heap.get?_push_of_some _ hC)
 repeat (first | simp only[Bool.false_eq_true,if_false,Bool.not_true] | lk)
 rw[if_neg (Nat.not_lt.mpr (by simpa using hrest))];unfold newObjAsIs;refine wpAny_bind (wpAny_alloc (wpAny_pure (wpAny_bind ?_)));show wpAny _ _ (newObjAsIs _ _ _) _ _ _;unfold newObjAsIs classHasDel;refine wpAny_bind (wpAny_alloc (wpAny_bind (wpAny_bind (wpAny_load (hcd _ _) (wpAny_pure ?_)))));rw[hdel];refine wpAny_pure (wpAny_pure ?_);show R _ _;rw[Heap.size_push];exact hq
theorem fault_core (X:K.In h) (Y:FK K C D f1 f2){rest:List Value}(hrest:rest.length<=sizeLine)
  (hq : codeAny (model prog w) (A.under (.builtin "type.__call__" ⟨.ref C :: rest, []⟩)) (.call (.ref f1) ⟨.ref (h.objs.size + 1) :: rest, []⟩) (InitBack (h.objs.size + 1) R) ⟨(h.push (tupO rest)).push (excObj C h.objs.size), g, d, t, os⟩) :
  codeAny (model prog w) A (.call (.ref C) ⟨rest,[]⟩) R ⟨h,g,d,t,os⟩:=by
 have hm:=mro_looks (M:=model prog w) X Y;have made:=made_looks (M:=model prog w) X Y;have call:=looks_specialIn (M:=model prog w) X Y.call;have typ:=looks_instIn (M:=model prog w) X Y.typ;have hi:=looks_findIn (M:=model prog w) X Y.init;have self:=sub_looks (M:=model prog w) X Y (.ref C) (b:=true) (by simp);obtain⟨dd,cd,sl,ho,_⟩:=Y.objC;have hC:=X _ _ ho;refine codeAny_of_tree ?_;show wpAny _ _ (callAny (.ref C) _) _ _ _;refine nd_load hC ?_;show wpAny _ _ (callAny.viaDunder (.ref C) _) _ _ _;unfold callAny.viaDunder;refine wpAny_bind (call.at ?_);dsimp only;rw[PySem.tc_bind];refine wpAny_bind (wpAny_pure (wpAny_bind (wpAny_pure ?_)));refine wpAny_pure (a := Fin.again (.call (.builtin "type.__call__") ⟨.ref C :: rest, []⟩)) (And.intro rfl ?_);refine codeAny_call_builtin_at (Code.quiet_builtin _ (by decide +kernel)) PySem.entry_typeCall (check_slot PySem.tc_kind PySem.tc_split typ (tc_args _ _ _) ?_);unfold Builtin.«type.__call__»
 repeat (first | simp only[List.isEmpty_cons,Bool.false_eq_true,if_false] | with_reducible refine wpAny_call ?_ | lk)
 refine fault_new X Y hrest ?_;have k:∀ b o,h.get? b=some o->((h.push (tupO rest)).push (excObj C h.objs.size)).get? b=some o:=fun b o e=>Heap.get?_push_of_some _ (Heap.get?_push_of_some _ e)
 have hx:((h.push (tupO rest)).push (excObj C h.objs.size)).get? (h.objs.size + 1)=some (excObj C h.objs.size):=by heap_get
 have t1:Looks (model prog w) ((h.push (tupO rest)).push (excObj C h.objs.size)) (typeOf (.ref (h.objs.size + 1))) (.ref C):=(Looks.ld hx).andThen .now;have s1:=self.keeps k;have i1:=hi.keeps k;have b1:=(bind_fn (M:=model prog w) X (.ref (h.objs.size + 1)) Y.t1).keeps k;unfold isInstance callSpecial? specialOf
 repeat (first | with_reducible refine wpAny_call ?_ | lk)
 refine codeAny_mono hq fun r s' z=>?_
 rcases r with e | (v | _ | _ | _)<;>first | exact z | exact z.elim | skip
 obtain⟨rfl,z⟩:=z;exact wpAny_pure (wpAny_pure z)
theorem fstore {x:Addr}{mA:Str->Option Value}{name:Str}{v:Value}{ns:List Str}{E:Value->Shared->Prop}{Q:Unit->Shared->Prop}(X:K.In h) (Y:FK K C D f1 f2)
  (hsa : findIn K (.ref C) "__setattr__" = some (some (.builtin "object.__setattr__"))) (hna : findIn K (.ref C) name = some none) (I : h.Inst x C mA)
  (hq:∀ h' tk',t<=tk'->h'.Inst x C (fun y=>if y=name then some v else mA y)->
   (∀ b o,b≠x->(∀ o₀ dx,h.get? x=some o₀->o₀.dict=some dx->b≠dx)->h.get? b=some o->h'.get? b=some o)->
   (∀ o₀,h.get? x=some o₀->∃ o₁,h'.get? x=some o₁/\o₁.cls=o₀.cls/\o₁.data=o₀.data/\(∀ dx,o₀.dict=some dx->o₁.dict=some dx)/\(o₀.dict=none->o₁.dict=some h.objs.size))->Q () ⟨h',g,d,tk',os⟩) (hw:Within mA ns) (hsz:ns.length<=sizeLine) :
  wpAny (model prog w) A (setAttr (.ref x) name v) Q E ⟨h,g,d,t,os⟩:=by
 obtain⟨o,hx,hc,hnc,hd⟩:=I;have SF:=PySem.F.store_object;have SE:=PySem.F.store_Exception;have ty:Looks (model prog w) h (typeOf (.ref x)) (.ref C):=by
  rw[<- hc];exact (Looks.ld hx).andThen .now
 have hm:=mro_looks (M:=model prog w) X Y;have sub : Looks (model prog w) h (isInstance (.ref x) (.type "object")) true := ty.andThen (sub_looks X Y _ (by simp));have l1:=looks_findIn (M:=model prog w) X hsa;have l2:=looks_findIn (M:=model prog w) X hna;obtain⟨dd,cd,sl,ho,_,hdc,_⟩:=Y.objC;have hC:=X _ _ ho;have kt:∀ b o,h.get? b=some o->({ heap:=h,gens:=g,drawn:=d,toks:=t + 1,os:=os }:Shared).heap.get? b=some o:=fun b o e=>e
 refine wpAny_bind (wpAny_mkText (wpAny_bind (wpAny_bind (wpAny_bind (ty _ _ _ _ (fun _ _ e=>e) (l1 _ _ _ _ (fun _ _ e=>e) (wpAny_holding ?_)))))));rw[SF.slot.bind];refine wpAny_bind (wpAny_pure (wpAny_bind (wpAny_call ?_)));refine codeAny_call_builtin SF.slot.plain SF.entry (@check_slot (model prog w) _ _ _ "object.__setattr__" "object" "__setattr__" (.ref x) [.str name t, v] [] _ SF.kind SF.split sub (SF.args (.ref x) (.str name t) v) ?_);show wpAny _ _ (Builtin.«object.__setattr__» ⟨[.ref x,.str name t,v],[]⟩) _ _ _;rw[osa_eq,refuse_eq];refine wpAny_bind (wpAny_bind (ty.here (wpAny_bind (hm.here ?_))));rw[refuseLoop_ref,refuseLoop_ref,SE.passes];refine wpAny_pure (wpAny_bind (ty.here (wpAny_bind (l2.here (wpAny_bind (wpAny_pure ?_))))));refine wpAny_bind (wpAny_pure (wpAny_bind (wpAny_bind (wpAny_loadPart hx ?_))));rw[hc];refine wpAny_bind (wpAny_bind (wpAny_load hC (wpAny_pure ?_)));dsimp only;rw[hdc,if_neg (by decide)];rcases hd with ⟨hdn,hmA⟩ | ⟨dx,hdx,hne,hns⟩
 ·rw[hdn,if_neg (by simp[typeHasDict])];split
  ·rename_i hcd;cases hcd
  split
  ·rename_i c hcd;exact absurd hcd (hnc c)
  ·have hx₁ : (h.push { cls := .type "dict", data := .dict #[] }).get? x = some o := Heap.get?_push_of_some _ hx;have hxs:x≠h.objs.size:=Nat.ne_of_lt (Heap.lt_size hx);refine wpAny_bind (wpAny_alloc ?_);refine wpAny_bind (wpAny_update hx₁ ?_);refine wpAny_pure ?_;have hgd : ((h.push { cls := .type "dict", data := .dict #[] }).update x fun o => { cls := o.cls, dict := some h.objs.size, data := o.data, slots := o.slots }).get? h.objs.size
     = some { cls := .type "dict", data := .dict #[] } :=
    (Heap.get?_update_ne _ _ _ _ hxs.symm).trans (Heap.get?_push_at rfl rfl)
   have hnd : ((h.push { cls := .type "dict", data := .dict #[] }).update x fun o => { cls := o.cls, dict := some h.objs.size, data := o.data, slots := o.slots }).Ns h.objs.size (fun _ => none) :=
    ⟨_,#[],_,hgd,rfl,fun e he=>absurd he (by simp),fun _=>rfl⟩
   show wpAny _ _ (storeInDict h.objs.size (.str name t) name v) _ _ _;unfold storeInDict newKeyGuard;refine wpAny_bind (wpAny_pure (wpAny_bind (wpAny_nsSet1 (Heap.Ns1.of_empty hnd) fun h' hn' hs=>?_)));obtain⟨oD,esD,epD,hoD,hdD,hcD⟩:=hn'.count (Within.cons name v Within.nil);refine wpAny_bind (wpAny_lookBehind hoD (by rw[hdD];exact pastItsLine_dict (Nat.le_trans hcD (by rw[List.length_cons,List.length_nil,sizeLine_eq];omega))) ?_);refine wpAny_pure (wpAny_pure (wpAny_pure ?_));have hx':h'.get? x=some { cls:=o.cls,dict:=some h.objs.size,data:=o.data,slots:=o.slots }:=?_;refine hq h' _ (by show t<=t + 1 + 1;omega) ⟨{ cls:=o.cls,dict:=some h.objs.size,data:=o.data,slots:=o.slots },hx',hc,hnc,.inr ⟨h.objs.size,rfl,hxs.symm,?_⟩⟩ (fun b ob hbx _ hb=>?_)
    (fun o₀ h₀=>by obtain rfl:o=o₀:=Option.some.inj (hx.symm.trans h₀);exact⟨_,hx',rfl,rfl,(fun dx e=>by rw[hdn] at e;cases e),fun _=>rfl⟩)
   ·obtain⟨o',es,ep,e1,e2,e3,eu,e4⟩:=hn';exact⟨o',es,ep,e1,e2,e3,eu,fun y=>by rw[e4 y];by_cases hy:y=name<;>simp[hy,hmA]⟩
   ·exact (hs.2 b (Nat.ne_of_lt (Heap.lt_size hb))).trans ((Heap.get?_update_ne _ _ _ _ hbx).trans (Heap.get?_push_of_some _ hb))
   ·refine (hs.2 x hxs).trans (Heap.get?_update_self _ hx₁ ?_);have hfr:=(Heap.get?_some_iff.mp hx).2;obtain⟨oc,od,odt,osl⟩:=o;cases odt<;>first | rfl | exact hfr
 ·rw[hdx];refine wpAny_pure ?_;show wpAny _ _ (storeInDict dx (.str name t) name v) _ _ _;unfold storeInDict newKeyGuard;refine wpAny_bind (wpAny_pure (wpAny_bind (wpAny_nsSet1 hns fun h' hn' hs=>?_)));obtain⟨oD,esD,epD,hoD,hdD,hcD⟩:=hn'.count (Within.cons name v hw);refine wpAny_bind (wpAny_lookBehind hoD (by rw[hdD];exact pastItsLine_dict (Nat.le_trans hcD (by rw[List.length_cons];omega))) ?_);refine wpAny_pure (wpAny_pure (wpAny_pure ?_));refine hq h' _ (by show t<=t + 1 + 1;omega) ⟨o,(hs.2 x hne.symm).trans hx,hc,hnc,.inr ⟨dx,hdx,hne,hn'⟩⟩ (fun b ob _ hbd hb=>?_)
   (fun o₀ h₀=>⟨o₀,(hs.2 x hne.symm).trans h₀,rfl,rfl,(fun _ e=>e),fun e=>?_⟩)
  ·exact (hs.2 b (hbd o dx hx hdx)).trans hb
  ·obtain rfl:o=o₀:=Option.some.inj (hx.symm.trans h₀);rw[hdx] at e;cases e
end
end Mine
end
section
set_option maxRecDepth 100000
open PySem PySem.W PyProof.Rows PySem.Calls Builtin Builtin.ObjectAttr
namespace Mine
structure InitFn (K:Frag) (f:Addr) (fd:FuncData) (ps:List Str) (body:List Stmt):Prop where
 obj:∃ o,K.lookup f=some o/\o.data=.func fd
 code:codeIn K fd.code fd.qualname=true
 body:fd.body=.stmts body
 co:fd.scope.isCoroutine=false
 gen:fd.scope.isGenerator=false
 kind:fd.scope.kind=.function
 cell:∀ x∈fd.scope.names,x.2≠.cell
 glob:fd.globals=mainGlobals
 blt:fd.builtins=builtinsNs
 loc:∀ x∈ps,fd.scope.names.lookup x=some .local
structure FZ (K:Frag) (C D f1 f2:Addr):Prop extends FK K C D f1 f2 where
 sa : findIn K (.ref C) "__setattr__" = some (some (.builtin "object.__setattr__"))
 atT : findIn K (.ref C) "text" = some none
 atA : findIn K (.ref C) "at" = some none
 exi : findCls K (.type "Exception") (.type "type") "__init__" = some (.val (.builtin "Exception.__init__"))
 rdD : readsIn K D (.type "type") = true
 fiD : findCls K (.ref D) (.type "type") "__init__" = some (.val (.ref f2))
 fn1 : ∃ fd p1 p2 p3 p4 p5 p6 p7 p8 p9 p10, InitFn K f1 fd ["self", "at", "text"] [.Expr (.Call (.Attribute (.Name "F77Error" p1) "__init__" p2) [.Name "self" p3, .Name "text" p4] [] p5) p6, .Assign [.Attribute (.Name "self" p7) "at" p8] (.Name "at" p9) p10] /\
  p2.endLine = p5.line /\ fd.scope.names.lookup ("F77Error" : Str) = some .globalImplicit /\ ∀ a b c, bindArgs fd ⟨[a, b, c], []⟩ = pure [(("self" : Str), a), (("at" : Str), b), (("text" : Str), c)]
 fn2 : ∃ fd p1 p2 p3 p4 p5 p6 p7 p8 p9 p10, InitFn K f2 fd ["self", "text"] [.Expr (.Call (.Attribute (.Name "Exception" p1) "__init__" p2) [.Name "self" p3, .Name "text" p4] [] p5) p6, .Assign [.Attribute (.Name "self" p7) "text" p8] (.Name "text" p9) p10] /\
  p2.endLine = p5.line /\ fd.scope.names.lookup ("Exception" : Str) = some .globalImplicit /\ ∀ a b, bindArgs fd ⟨[a, b], []⟩ = pure [(("self" : Str), a), (("text" : Str), b)]
structure EI (hb h:Heap) (C e:Addr) (mA:Str->Option Value):Prop where
 keep:∀ b o,hb.get? b=some o->h.get? b=some o
 new:hb.get? e=none
 inst:h.Inst e C mA
 obj:∃ oe vs a0,h.get? e=some oe/\oe.cls=.ref C/\oe.data=.fields vs/\vs[0]?=some a0/\vs[1]?=some .none/\∀ dx,oe.dict=some dx->hb.get? dx=none
theorem EI.keeps {hb h h':Heap}{C e:Addr}{mA:Str->Option Value}(x:EI hb h C e mA) (k:∀ b o,h.get? b=some o->h'.get? b=some o):EI hb h' C e mA:=by
 obtain⟨o,ho,hc,hn,hd⟩:=x.inst;obtain⟨oe,vs,a0,h1,r⟩:=x.obj;refine⟨fun b o e=>k _ _ (x.keep b o e),x.new,⟨o,k _ _ ho,hc,hn,hd.imp id ?_⟩,⟨oe,vs,a0,k _ _ h1,r⟩⟩
 rintro ⟨d,e1,e2,o',es,ep,e3,r⟩
 exact⟨d,e1,e2,o',es,ep,k _ _ e3,r⟩
section
variable {prog:Program}{w:World}{A:Around}{K:Frag}{C D f1 f2:Addr}{hb:Heap}{s:Shared}
theorem EI.store {E:Value->Shared->Prop}{e:Addr}{mA:Str->Option Value}{name:Str}{v:Value}{ns:List Str}{Q:Unit->Shared->Prop}(Y:FZ K C D f1 f2) (Xb:K.In hb) (I:EI hb s.heap C e mA) (hna:findIn K (.ref C) name=some none) (hw:Within mA ns) (hsz:ns.length<=10)
  (hq:∀ h' tk,s.toks<=tk->EI hb h' C e (fun y=>if y=name then some v else mA y)->(∀ b o,b≠e->(∀ o₀ dx,s.heap.get? e=some o₀->o₀.dict=some dx->b≠dx)->s.heap.get? b=some o->h'.get? b=some o)->Q () { s with heap:=h',toks:=tk }) :
  wpAny (model prog w) A (setAttr (.ref e) name v) Q E s:=by
 obtain⟨h,g,d,t,os⟩:=s;have X:K.In h:=Xb.keeps I.keep;refine fstore X Y.toFK Y.sa hna I.inst (fun h' tk ht I' hk hs=>hq h' tk ht ?_ hk) hw (by rw[sizeLine_eq];omega);obtain⟨oe,vs,a0,h1,h2,h3,h4,h5,h6⟩:=I.obj;obtain⟨o1,g1,g2,g3,g4,g5⟩:=hs oe h1;refine⟨fun b o q=>hk b o (fun z=>?_) (fun o₀ dx q1 q2 z=>?_) (I.keep b o q),I.new,I',o1,vs,a0,g1,g2.trans h2,g3.trans h3,h4,h5,fun dx q=>?_⟩
 ·subst z;rw[I.new] at q;cases q
 ·subst z;rw[h1] at q1;cases q1;rw[h6 _ q2] at q;cases q
 ·cases hd:oe.dict with
  | none=>
   rw[g5 hd] at q;cases q;cases z:hb.get? h.objs.size with
   | none=>rfl
   | some o=>exact absurd (Heap.lt_size (I.keep _ _ z)) (Nat.lt_irrefl _)
  | some dy=>
   rw[g4 dy hd] at q;cases q;exact h6 dx hd
theorem exc_init {E:Value->Shared->Prop}{e:Addr}{mA:Str->Option Value}{v:Value}{Q:Value->Shared->Prop}(Y:FZ K C D f1 f2) (Xb:K.In hb) (I:EI hb s.heap C e mA)
  (hq:∀ h',EI hb h' C e mA->(∀ b o,b≠e->s.heap.get? b=some o->h'.get? b=some o)->(∀ oe oe',s.heap.get? e=some oe->h'.get? e=some oe'->oe'.dict=oe.dict)->Q .none { s with heap:=h' }) :
  wpAny (model prog w) A (PySem.call (.builtin "Exception.__init__") [.ref e, v]) Q E s := by
 have F:=PySem.F.excBase_Exception;have hshort:=F.noStar;obtain⟨h,g,d,t,os⟩:=s;have X:K.In h:=Xb.keeps I.keep;obtain⟨oe,vs,a0,h1,h2,h3,h4,h5,h6⟩:=I.obj;have ty:Looks (model prog w) h (typeOf (.ref e)) (.ref C):=by
  rw[<- h2];exact (Looks.ld h1).andThen .now
 have sub := sub_looks (M := model prog w) X Y.toFK (.type "Exception") (b := true) (by simp);obtain⟨dd,cd,sl,ho,_⟩:=Y.objC;have hC:=X _ _ ho;refine wpAny_call (codeAny_call_builtin F.init.plain F.initEntry ?_);simp only[checkBuiltinCall,F.initKind,F.initSplit,F.initRow];unfold isInstance
 repeat (first | simp only[bne_self_eq_false,Bool.false_eq_true,if_false] | lk)
 have h1' : (h.push { cls := Value.type "tuple", data := Data.seq #[v] }).get? e = some oe := Heap.get?_push_of_some _ h1;refine nd_load h1' (nd_pure ?_);rw[h3];refine wpAny_pure ?_;rw[h4];have hz1 : 1 < vs.size:=(Array.getElem?_eq_some_iff.mp h5).1;refine wpAny_pure (wpAny_bind (wpAny_setField h1' h3 (by omega) ?_));have fin : ∀ {A' : Around}, Q .none ⟨(h.push { cls := Value.type "tuple", data := Data.seq #[v] }).update e (Obj.mapFields (·.setIfInBounds 0 (.ref h.objs.size))), g, d, t, os⟩ := by
  intro A';have hself:=Heap.get?_update_self (Obj.mapFields (·.setIfInBounds 0 (.ref h.objs.size))) h1' (Obj.isFreed_of_fields (Obj.data_mapFields h3 _));have oth : ∀ b o, b ≠ e -> h.get? b = some o -> ((h.push { cls := Value.type "tuple", data := Data.seq #[v] }).update e (Obj.mapFields (·.setIfInBounds 0 (.ref h.objs.size)))).get? b = some o := fun b o hbe q =>
   (Heap.get?_update_other _ _ (Ne.symm hbe)).trans (Heap.get?_push_of_some _ q)
  refine hq _ ⟨fun b o q=>oth b o (fun z=>by subst z;rw[I.new] at q;cases q) (I.keep b o q),I.new,?_,_,_,.ref h.objs.size,hself,?_,Obj.data_mapFields h3 _,Array.getElem?_setIfInBounds_self_of_lt (by omega),(Array.getElem?_setIfInBounds_ne (by decide)).trans h5,fun dx q=>h6 dx ?_⟩ oth (fun o1 o2 q1 q2=>?_)
  ·obtain⟨o',g1,g2,g3,g4⟩:=I.inst;rw[h1] at g1;cases g1;refine⟨_,hself,?_,fun c q=>?_,?_⟩
   ·obtain⟨oc,od,odt,osl⟩:=oe;cases odt<;>exact h2
   ·rw[Obj.data_mapFields h3 _] at q;cases q
   ·have hdict:(Obj.mapFields (·.setIfInBounds 0 (.ref h.objs.size)) oe).dict=oe.dict:=by obtain⟨oc,od,odt,osl⟩:=oe;cases odt<;>rfl
    rw[hdict];refine g4.imp id ?_
    rintro ⟨d',e1,e2,o',es,ep,e3,r⟩
    exact⟨d',e1,e2,o',es,ep,oth d' o' e2 e3,r⟩
  ·obtain⟨oc,od,odt,osl⟩:=oe;cases odt<;>exact h2
  ·obtain⟨oc,od,odt,osl⟩:=oe;cases odt<;>exact q
  ·rw[hself] at q2;have q1':h.get? e=some o1:=q1;rw[h1] at q1';cases q1';cases q2;obtain⟨oc,od,odt,osl⟩:=oe;cases odt<;>rfl
 cases a0<;>first | exact wpAny_letGo (wpAny_pure (fin (A':=A))) | exact wpAny_pure (wpAny_pure (fin (A':=A)))
theorem lk2 (a b : Value) : (fun x : Str => ([(("self" : Str), a), (("text" : Str), b)] : List (Str × Value)).reverse.lookup x) "self" = some a /\ (fun x : Str => ([(("self" : Str), a), (("text" : Str), b)] : List (Str × Value)).reverse.lookup x) "text" = some b := ⟨by kernel_rfl, by kernel_rfl⟩
theorem lk3 (a b c : Value) : (fun x : Str => ([(("self" : Str), a), (("at" : Str), b), (("text" : Str), c)] : List (Str × Value)).reverse.lookup x) "self" = some a /\
  (fun x : Str => ([(("self" : Str), a), (("at" : Str), b), (("text" : Str), c)] : List (Str × Value)).reverse.lookup x) "at" = some b /\ (fun x : Str => ([(("self" : Str), a), (("at" : Str), b), (("text" : Str), c)] : List (Str × Value)).reverse.lookup x) "text" = some c := ⟨by kernel_rfl, by kernel_rfl, by kernel_rfl⟩
structure FG (hb:Heap) (C D:Addr) where
 mg:Str->Option Value
 mb:Str->Option Value
 g:hb.Ns mainGlobals mg
 b:hb.Ns builtinsNs mb
 nolimit:hb.NoLimit
 exc : mg "Exception" = none /\ mb "Exception" = some (.type "Exception")
 cD : mg "F77Error" = some (.ref D)
theorem init2 {E:Value->Shared->Prop}{e:Addr}{mA:Str->Option Value}{v:Value}{Q:Value->Shared->Prop}(Y:FZ K C D f1 f2) (Xb:K.In hb) (G:FG hb C D) (hroom:A.depth < recursionLimit) (I:EI hb s.heap C e mA) (hw:Within mA []) (hnd:∀ oe,s.heap.get? e=some oe->oe.dict=none)
  (hq : ∀ h' tk, s.toks <= tk -> EI hb h' C e (fun y => if y = "text" then some v else mA y) -> (∀ b o, b ≠ e -> s.heap.get? b = some o -> h'.get? b = some o) -> Q .none { s with heap := h', toks := tk }) :
  wpAny (model prog w) A (PySem.call (.ref f2) [.ref e,v]) Q E s:=by
 obtain⟨fd,p1,p2,p3,p4,p5,p6,p7,p8,p9,p10,F,hp,hx,hbind⟩:=Y.fn2;obtain⟨o,ho,hd⟩:=F.obj;have X:K.In s.heap:=Xb.keeps I.keep;have hl1 := F.loc "self" (by simp);have hl2 := F.loc "text" (by simp);obtain⟨oe,vs,a0,he,_⟩:=I.obj;have hlt:=Heap.lt_size he;refine wpAny_call (codeAny_call_def hroom (X _ _ ho) hd (G.nolimit.keeps I.keep) (codeRec_of X F.code) F.body (.of_eq (hbind _ _)) F.cell (fun x hx=>?_) (fun h₀ hns hk=>?_) F.co F.gen F.kind)
 ·simp only[List.mem_cons,List.not_mem_nil,or_false] at hx;rcases hx with rfl | rfl
  ·exact hl1
  ·exact hl2
 have hk':(callEnv fd s.heap.objs.size f2).scope.kind=.function:=F.kind;have F0 : Fr s.heap s.heap.objs.size h₀ (fun x => ([(("self" : Str), Value.ref e), (("text" : Str), v)] : List (Str × Value)).reverse.lookup x) := ⟨hns, hk, Nat.le_refl _⟩
 have I0:EI hb h₀ C e mA:=I.keeps hk;have hint:interactive (callEnv fd s.heap.objs.size f2)=false:=by
  unfold interactive;rw[hk'];rfl
 refine wpAny_execs_cons (wpAny_Expr (MethodC (by simp[methOk,hp]) rfl fun pl=>?_) hint);refine Name_function_global hk' hx (loadGlobal_builtin (mg:=G.mg) (mb:=G.mb) ?_ G.exc.1 ?_ G.exc.2 ?_) (by decide +kernel)
 ·show h₀.Ns fd.globals G.mg;rw[F.glob];exact (G.g.keeps I.keep).keeps hk
 ·show h₀.Ns fd.builtins G.mb;rw[F.blt];exact (G.b.keeps I.keep).keeps hk
 refine method_type F0 X (by kernel_rfl) (by decide +kernel) Y.exi (by decide +kernel) ?_;refine callWith_builtin rfl (evalArgs_plain (args_cons (wpAny_Name (wpAny_loadName_local hk' hl1 hns (lk2 _ _).1 (args_cons (wpAny_Name (wpAny_loadName_local hk' hl2 hns (lk2 _ _).2 (args_nil ?_)) (by decide +kernel)))) (by decide +kernel))));refine exc_init Y Xb I0 fun h1 I1 hk1 hd1=>?_
 have hns1:=ns_keep hns fun o q=>hk1 s.heap.objs.size o (Nat.ne_of_gt hlt) q
 refine wpAny_execs_cons (plainObj_wpAny_Assign_Attribute (wpAny_Name (wpAny_loadName_local hk' hl2 hns1 (lk2 _ _).2 (wpAny_Name (wpAny_loadName_local hk' hl1 hns1 (lk2 _ _).1 ?_) (by decide +kernel))) (by decide +kernel)));refine EI.store Y Xb I1 Y.atT hw (by simp) fun h2 tk ht I2 hk2=>wpAny_execs_nil ?_
 refine hq h2 tk (Nat.le_trans ?_ ht) I2 fun b o hb q=>hk2 b o hb (fun o₀ dx q1 q2=>?_) (hk1 b o hb (hk b o q))
 ·show s.toks<=s.toks + _ + _;omega
 ·rw[hd1 _ o₀ (hk _ _ he) q1,hnd oe he] at q2;cases q2
theorem init1 {R:Result->Shared->Prop}{e:Addr}{u v:Value}(Y:FZ K C D f1 f2) (Xb:K.In hb) (G:FG hb C D) (hroom:A.depth + 1 < recursionLimit) (I:EI hb s.heap C e fun _=>none) (hnd:∀ oe,s.heap.get? e=some oe->oe.dict=none)
  (hq:∀ h' tk mA,s.toks<=tk->EI hb h' C e mA->R (.ok (.ret .none)) { s with heap:=h',toks:=tk }) :
  codeAny (model prog w) A (.call (.ref f1) ⟨[.ref e,u,v],[]⟩) R s:=by
 obtain⟨fd,p1,p2,p3,p4,p5,p6,p7,p8,p9,p10,F,hp,hx,hbind⟩:=Y.fn1;obtain⟨o,ho,hd⟩:=F.obj;have X:K.In s.heap:=Xb.keeps I.keep;have hl1 := F.loc "self" (by simp);have hl2 := F.loc "at" (by simp);have hl3 := F.loc "text" (by simp);obtain⟨oe,vs,a0,he,_⟩:=I.obj;have hlt:=Heap.lt_size he;refine codeAny_call_def (by omega) (X _ _ ho) hd (G.nolimit.keeps I.keep) (codeRec_of X F.code) F.body (.of_eq (hbind _ _ _)) F.cell (fun x hx=>?_) (fun h₀ hns hk=>?_) F.co F.gen F.kind
 ·simp only[List.mem_cons,List.not_mem_nil,or_false] at hx;rcases hx with rfl | rfl | rfl
  ·exact hl1
  ·exact hl2
  ·exact hl3
 have hk':(callEnv fd s.heap.objs.size f1).scope.kind=.function:=F.kind;have I0:EI hb h₀ C e (fun _=>none):=I.keeps hk;have X0:K.In h₀:=X.keeps hk;have hint:interactive (callEnv fd s.heap.objs.size f1)=false:=by
  unfold interactive;rw[hk'];rfl
 have lk:=lk3 (.ref e) u v;obtain⟨fd2,_,_,_,_,_,_,_,_,_,_,F2,_⟩:=Y.fn2;obtain⟨o2,ho2,hd2⟩:=F2.obj;refine wpAny_execs_cons (wpAny_Expr (MethodC (by simp[methOk,hp]) rfl fun pl=>?_) hint);refine Name_function_global hk' hx (loadGlobal_global (mg:=G.mg) ?_ G.cD ?_) (by decide +kernel)
 ·show h₀.Ns fd.globals G.mg;rw[F.glob];exact (G.g.keeps I.keep).keeps hk
 refine method_cls X0 ?_ (cls_value X0 Y.rdD Y.fiD rfl ?_)
 ·have:=Y.rdD;simp only[readsIn,Bool.and_eq_true,beq_iff_eq] at this;unfold specialIn;rw[this.1.1.1.2];exact this.1.1.2
 refine callWith_function (o:=o2) (fd:=fd2) (evalArgs_plain (args_cons (wpAny_Name (wpAny_loadName_local hk' hl1 hns lk.1 (args_cons (wpAny_Name (wpAny_loadName_local hk' hl3 hns lk.2.2 (args_nil ⟨⟨X0 _ _ ho2,hd2⟩,?_⟩)) (by decide +kernel)))) (by decide +kernel))));refine init2 Y Xb G (by show A.depth + 1 < _;omega) I0 .nil (fun oe' q=>?_) fun h1 tk1 ht1 I1 hk1=>?_
 ·have q':h₀.get? e=some oe':=q;rw[hk _ _ he] at q';cases q';exact hnd oe he
 have hns1:=ns_keep hns fun o q=>hk1 s.heap.objs.size o (Nat.ne_of_gt hlt) q
 refine wpAny_execs_cons (plainObj_wpAny_Assign_Attribute (wpAny_Name (wpAny_loadName_local hk' hl2 hns1 lk.2.1 (wpAny_Name (wpAny_loadName_local hk' hl1 hns1 lk.1 ?_) (by decide +kernel))) (by decide +kernel)));refine EI.store Y Xb I1 Y.atA (Within.cons _ _ .nil) (by simp) fun h2 tk2 ht2 I2 hk2=>wpAny_execs_nil ?_
 exact hq h2 tk2 _ (Nat.le_trans (Nat.le_trans (show s.toks<=s.toks + _ + _ by omega) ht1) ht2) I2
end
end Mine
end
section
set_option maxRecDepth 100000
open PySem PySem.W PyProof.Rows PySem.Calls
namespace Mine
section
variable {prog:Program}{w:World}{K:Frag}{b0:Heap}{C D f1 f2:Addr}
theorem clsSnd (Y:FZ K C D f1 f2) (Xb:K.In b0):ClsSnd prog w b0 (.ref C):=by
 intro A s pos T args Q E hplain h;have hk:keepIn K (.ref C)=true:=by
  obtain⟨dd,cd,sl,ho,_⟩:=Y.objC;unfold keepIn;simp only[ho];rw[Y.call];rfl
 refine callWith_of (P:=b0.StaysIn) (by simpa using hplain) (fun h k=>keeps_K hk h (fun a o e=>k a o (Xb a o e))) (evalArgs_plain h)
theorem raise_now {A:Around}{env:Env}{s:Shared}{e:Addr}{a0:Value}{oe:Obj}{vs:Array Value}{Q:Flow->Shared->Prop}{E:Value->Shared->Prop}(Y:FZ K C D f1 f2) (X:K.In s.heap) (hh:A.handled=none)
  (h1:s.heap.get? e=some oe) (h2:oe.cls=.ref C) (h3:oe.data=.fields vs) (h4:vs[0]?=some a0) (h5:vs[1]?=some .none) (k:E (.ref e) s):wpAny (model prog w) A (raiseStmt env (some (pure (.ref e))) none) Q E s:=by
 obtain⟨h,g,d,t,os⟩:=s;have ty:Looks (model prog w) h (typeOf (.ref e)) (.ref C):=by
  rw[<- h2];exact (Looks.ld h1).andThen .now
 have sub := sub_looks (M := model prog w) X Y.toFK (.type "BaseException") (b := true) (by simp);obtain⟨dd,cd,sl,ho,_⟩:=Y.objC;have hC:=X _ _ ho;have tyC : Looks (model prog w) h (typeOf (.ref C)) (.type "type") := (Looks.ld hC).andThen .now;have nt:Looks (model prog w) h (isType (.ref e)) false:=(Looks.ld h1).andThen (by rw[h3];exact .now);have f1:=looks_field (M:=model prog w) (p:=e) (c:=oe.cls) (d:=oe.dict) (sl:=oe.slots) (vs:=vs) (by rw[h1,<- h3]) 1 h5;unfold raiseStmt;dsimp only;unfold excFromValue isExcClass raisedInstance isInstance setFlight
 repeat (first | simp only[Bool.false_eq_true,if_false,if_true,bne_self_eq_false] | lk)
 refine wpAny_handled ?_;rw[hh];exact wpAny_throw k
theorem raiseSnd (Y:FZ K C D f1 f2) (Xb:K.In b0) (G:FG b0 C D):RaiseSnd prog w b0 (.ref C):=by
 intro c A s σ H env i t u x Q E hb hC hne au ht X hx k;subst hb;have Xs:K.In s.heap:=fun a o e=>X.stays a o (Xb a o e)
 have Gs:FG s.heap C D:=⟨G.mg,G.mb,G.g.keeps X.stays,G.b.keeps X.stays,G.nolimit.keeps X.stays,G.exc,G.cD⟩
 obtain⟨h,g,d,tk,os⟩:=s;refine wpAny_call (fault_core Xs Y.toFK (by rw[sizeLine_eq];simp) ?_);have hnew:h.get? (h.objs.size + 1)=none:=size_none _ (by omega);have hget:((h.push (tupO [.int i t,.str x u])).push (excObj C h.objs.size)).get? (h.objs.size + 1)=some (excObj C h.objs.size):=by heap_get
 have hdep : (A.under (.builtin "type.__call__" ⟨[.ref C, .int i t, .str x u], []⟩)).depth = A.depth + 1 := depth_under_make ..;have I0:EI h ((h.push (tupO [.int i t,.str x u])).push (excObj C h.objs.size)) C (h.objs.size + 1) fun _=>none:=by
  refine⟨fun b o e=>Heap.get?_push_of_some _ (Heap.get?_push_of_some _ e),hnew,⟨_,hget,rfl,fun c q=>?_,.inl ⟨rfl,fun _=>rfl⟩⟩,_,_,_,hget,rfl,rfl,rfl,rfl,fun dx q=>?_⟩
  ·cases q
  ·cases q
 refine init1 (hb:=h) (s:=⟨(h.push (tupO [.int i t,.str x u])).push (excObj C h.objs.size),g,d,tk,os⟩) Y Xs Gs (by rw[hdep];have:=au.depth;omega) I0 (fun oe q=>?_) fun h' tk' mA ht' I=>?_
 ·have q':((h.push (tupO [.int i t,.str x u])).push (excObj C h.objs.size)).get? (h.objs.size + 1)=some oe:=q;rw[hget] at q';cases q';rfl
 refine⟨rfl,?_⟩;obtain⟨oe,vs,a0,h1,h2,h3,h4,h5,h6⟩:=I.obj;have gr:Grow c.base h h':=grow_keeps X.stays I.keep;refine raise_now (s:=⟨h',g,d,tk',os⟩) Y (Xs.keeps I.keep) au.handled h1 h2 h3 h4 h5 ?_;refine k _ h' tk' (X.grow gr) (gr.adv σ H) ⟨hnew,base_none X hnew,oe,vs,a0,h1,h2.trans hC.symm,h3,h4,.inl h5⟩
theorem catchSnd (Y:FZ K C D f1 f2) (Xb:K.In b0):CatchSnd prog w b0 (.ref C):=by
 intro c A s σ σ0 H H0 h0 O env e t hpos rpos kpos k Q E hb hC hne au X a1 hx ht kq;subst hb;have Xs:K.In s.heap:=fun a o e=>X.stays a o (Xb a o e)
 have hx':=hx;obtain⟨hn,hbn,oe,vs,a0,T,oT,ts,h1,h2,h3,_⟩:=hx;refine wpAny_handleBy_cons (codeAny_handlers_test (ht _ s _ _ X ?_)) (by intro q;cases q);obtain⟨h,g,d,tk,os⟩:=s;have ty:Looks (model prog w) h (typeOf (.ref e)) (.ref C):=by
  rw[<- hC,<- h2];exact (Looks.ld h1).andThen .now
 have sub := sub_looks (M := model prog w) Xs Y.toFK (.type "BaseException") (b := true) (by simp);have sub2:=sub_looks (M:=model prog w) Xs Y.toFK (.ref C) (b:=true) (by simp);obtain⟨dd,cd,sl,ho,_⟩:=Y.objC;have hCo:=Xs _ _ ho;have tyC : Looks (model prog w) h (typeOf (.ref C)) (.type "type") := (Looks.ld hCo).andThen .now;have f:=PySem.tc_notTuple;have nt : Looks (model prog w) h (isInstance (.ref C) (.type "tuple")) false := tyC.andThen (Looks.of_pure f);unfold excMatches isExcClass
 repeat (first | simp only[Bool.false_eq_true,if_false,if_true,Bool.not_true,List.forIn_cons] | lk)
 refine codeAny_handlers_suite ?_;refine exc_fly (s:=⟨h,g,d,tk,os⟩) none X a1 hx' fun h' X' a' x'=>?_
 exact wpAny_execs_cons (wpAny_Return_some (Constant_none (kq h' tk X' a')))
end
end Mine
end
section
set_option maxRecDepth 100000
open PySem PySem.W PyProof.Rows PySem.Calls
namespace Mine
theorem lookup_zip:∀ {ns:List Str}{vs:List Value},ns.Nodup->∀ (i:Nat) (n:Str) (v:Value),ns[i]?=some n->vs[i]?=some v->(ns.zip vs).lookup n=some v
 | [],_,_,i,n,v,h,_=>by simp at h
 | _::_,[],_,i,n,v,_,h=>by simp at h
 | a::ns,b::vs,_,0,n,v,h1,h2=>by
  simp at h1 h2;subst h1;subst h2;simp[List.lookup]
 | a::ns,b::vs,hd,i + 1,n,v,h1,h2=>by
  simp only[List.getElem?_cons_succ] at h1 h2;obtain⟨q1,q2⟩:=List.nodup_cons.mp hd;have hne:(n==a)=false:=by
   rw[beq_eq_false_iff_ne]
   rintro rfl
   exact q1 (List.mem_of_getElem? h1)
  rw[List.zip_cons_cons,List.lookup_cons,hne];exact lookup_zip q2 i n v h1 h2
theorem filterMap_zip {ns:List Str}{vs:List Value}(hd:ns.Nodup) (hl:vs.length=ns.length):ns.filterMap (fun n=>((ns.zip vs).lookup n).map (n,·))=ns.zip vs:=by
 have:∀ (l:List (Str × Value)),(∀ p∈l,(ns.zip vs).lookup p.1=some p.2)->(l.map (·.1)).filterMap (fun n=>((ns.zip vs).lookup n).map (n,·))=l:=by
  intro l
  induction l with
  | nil=>intro _;rfl
  | cons p l ih=>
   intro h;rw[List.map_cons,List.filterMap_cons,h p List.mem_cons_self];simp only[Option.map_some];rw[ih fun q hq=>h q (List.mem_cons_of_mem _ hq)]
 have h1:(ns.zip vs).map (·.1)=ns:=by
  rw[<- List.unzip_fst,List.unzip_zip_left (by omega)]
 conv=>lhs;arg 2;rw[<- h1]
 refine this _ fun p hp=>?_
 obtain⟨i,hi⟩:=List.getElem?_of_mem hp;rw[List.getElem?_zip_eq_some] at hi;exact lookup_zip hd i _ _ hi.1 hi.2
theorem binds_plain {fd:FuncData}{vs:List Value}(h1:fd.params.posonlyargs=[]) (h2:fd.params.vararg=none) (h3:fd.params.kwonlyargs=[]) (h4:fd.params.kwarg=none) (h5:fd.defaults=.none)
  (hd:(fd.params.args.map (·.arg)).Nodup) (hl:vs.length=(fd.params.args.map (·.arg)).length):bindArgs fd ⟨vs,[]⟩=pure ((fd.params.args.map (·.arg)).zip vs):=by
 have hf:=filterMap_zip hd hl;have hmiss:(fd.params.args.map (·.arg)).filter (fun n=>(((fd.params.args.map (·.arg)).zip vs).lookup n).isNone)=[]:=by
  rw[List.filter_eq_nil_iff];intro n hn;obtain⟨i,hi⟩:=List.getElem?_of_mem hn;have hlt:=(List.getElem?_eq_some_iff.mp hi).1;rw[lookup_zip hd i n vs[i] hi (by rw[List.getElem?_eq_getElem])];simp
 unfold bindArgs;simp only[h1,h2,h3,h4,h5,List.map_nil,List.nil_append,List.append_nil,Option.isNone_none,Bool.and_true];have hs:seqItems? Value.none=pure none:=by rfl
 rw[hs];simp only[pure_bind,List.forIn_nil,Option.getD_none,List.length_map,gt_iff_lt];rw[List.length_map] at hl;have htake:List.take (fd.params.args.length - (List.drop (([]:List Value).length - fd.params.args.length) ([]:List Value)).length) (fd.params.args.map (·.arg))=fd.params.args.map (·.arg):=by
  rw[List.take_of_length_le (by simp)]
 rw[show decide (fd.params.args.length < vs.length)=false by rw[hl];simp];simp only[Bool.false_eq_true,if_false]
 change (if (!(List.filter _ (List.take _ _)).isEmpty)=true then _ else _)=_
 simp only[show (#[]:Array Value).toList=[] from rfl] at *;rw[htake,hmiss];simp only[List.isEmpty_nil,Bool.not_true,Bool.false_eq_true,if_false,List.drop_nil,List.zip_nil_right,List.forIn_nil,pure_bind];rw[hf]
theorem bindL_skip (kd:Str->Option NameKind){x:Str}:∀ {l:List (Str × Value)}{m:Str->Option Value},(∀ p∈l,p.1≠x)->bindL kd l m x=m x
 | [],_,_=>rfl
 | (n,v)::r,m,h=>by
  unfold bindL;rw[bindL_skip kd fun p hp=>h p (List.mem_cons_of_mem _ hp)];split
  ·exact if_neg (fun z=>h (n,v) List.mem_cons_self z.symm)
  ·rfl
theorem bindC_skip (kd:Str->Option NameKind){x:Str}:∀ {l:List (Str × Value)}{m:Str->Option Value},(∀ p∈l,p.1≠x)->bindC kd l m x=m x
 | [],_,_=>rfl
 | (n,v)::r,m,h=>by
  unfold bindC;rw[bindC_skip kd fun p hp=>h p (List.mem_cons_of_mem _ hp)];split
  ·rfl
  ·exact if_neg (fun z=>h (n,v) List.mem_cons_self z.symm)
theorem zip_fst_mem {ns:List Str}{vs:List Value}{p:Str × Value}(h:p∈ns.zip vs):p.1∈ns:=(List.of_mem_zip (a:=p.1) (b:=p.2) h).1
theorem bindL_zip (kd:Str->Option NameKind):∀ {ns:List Str}{vs:List Value}{m:Str->Option Value}{i:Nat}{n:Str}{v:Value},ns.Nodup->ns[i]?=some n->vs[i]?=some v->kd n=some .local->bindL kd (ns.zip vs) m n=some v
 | [],_,_,i,n,v,_,h,_,_=>by simp at h
 | _::_,[],_,i,n,v,_,_,h,_=>by simp at h
 | a::ns,b::vs,m,0,n,v,hd,h1,h2,hk=>by
  simp at h1 h2;subst h1;subst h2;rw[List.zip_cons_cons];unfold bindL;rw[if_pos hk,bindL_skip kd (x:=a) fun p hp z=>(List.nodup_cons.mp hd).1 (by rw[<- z];exact zip_fst_mem hp)];exact if_pos rfl
 | a::ns,b::vs,m,i + 1,n,v,hd,h1,h2,hk=>by
  rw[List.zip_cons_cons];unfold bindL;exact bindL_zip kd (List.nodup_cons.mp hd).2 (by simpa using h1) (by simpa using h2) hk
theorem bindC_zip (kd:Str->Option NameKind):∀ {ns:List Str}{vs:List Value}{m:Str->Option Value}{i:Nat}{n:Str}{v:Value},ns.Nodup->ns[i]?=some n->vs[i]?=some v->kd n≠some .local->bindC kd (ns.zip vs) m n=some v
 | [],_,_,i,n,v,_,h,_,_=>by simp at h
 | _::_,[],_,i,n,v,_,_,h,_=>by simp at h
 | a::ns,b::vs,m,0,n,v,hd,h1,h2,hk=>by
  simp at h1 h2;subst h1;subst h2;rw[List.zip_cons_cons];unfold bindC;rw[if_neg hk,bindC_skip kd (x:=a) fun p hp z=>(List.nodup_cons.mp hd).1 (by rw[<- z];exact zip_fst_mem hp)];exact if_pos rfl
 | a::ns,b::vs,m,i + 1,n,v,hd,h1,h2,hk=>by
  rw[List.zip_cons_cons];unfold bindC;exact bindC_zip kd (List.nodup_cons.mp hd).2 (by simpa using h1) (by simpa using h2) hk
theorem cells_some:∀ (l:List (Str × NameKind)) (n:Nat) (acc:List (Str × Addr)) (x:Str),((x,NameKind.cell)∈l\/(acc.lookup x).isSome=true)->((cellsFrom n l acc).lookup x).isSome=true
 | [],n,acc,x,h=>h.elim (fun z=>by cases z) id
 | (a,k)::r,n,acc,x,h=>by
  unfold cellsFrom;split
  ·refine cells_some r _ _ x ?_;by_cases hx:x=a
   ·subst hx;exact .inr (by simp[List.lookup])
   ·rcases h with h | h
    ·rcases List.mem_cons.mp h with z | z
     ·cases z;exact absurd rfl hx
     ·exact .inl z
    ·exact .inr (by rw[List.lookup_cons,beq_eq_false_iff_ne.mpr hx];exact h)
  ·rename_i hk;refine cells_some r _ _ x ?_;rcases h with h | h
   ·rcases List.mem_cons.mp h with z | z
    ·cases z;exact absurd rfl hk
    ·exact .inl z
   ·exact .inr h
structure DefAt (b0:Heap) (fn:Fn) (f:Addr) (d:DefRec):Prop where
 at_:∃ o pm code doc,b0.get? f=some o/\o.data=.func (docDef d.name d.params d.body d.scope pm code doc)/\b0.CodeRec code d.name
 chk:chkDef fn d=true
theorem nodupB_iff:∀ {l:List Txt},nodupB l=true->l.Nodup
 | [],_=>List.nodup_nil
 | x::r,h=>by
  simp only[nodupB,Bool.and_eq_true,Bool.not_eq_true',List.contains_eq_mem,decide_eq_false_iff_not] at h;exact List.nodup_cons.mpr ⟨h.1,nodupB_iff h.2⟩
section
variable {prog:Program}{w:World}
def limOf (c:Cx) (n:Nat) (i:Nat):Option Nat:=if i < c.b then c.lim i else if i < n then some n else none
def calleeCx (c:Cx) (env:Env) (n:Nat):Cx:=⟨c.base,env::c.envs,n,limOf c n,c.C⟩
theorem callee_ok {c:Cx}{h h1:Heap} {σ : List Addr}{H:Hp}{env:Env}{L:Addr}{m:Str->Option Value}(X:c.Ok h σ H) (hk:∀ b o,h.get? b=some o->h1.get? b=some o) (hf:env.frame=some L) (hL:h.get? L=none) (hn:h1.Ns L m) (hkind:env.scope.kind=.function) :
  (calleeCx c env H.length).Ok h1 σ H where
 stays:=fun b o e=>hk b o (X.stays b o e)
 frames:=by
  refine⟨by show env.scope.kind≠.module;rw[hkind];decide,?_,(X.grow (grow_keeps X.stays hk)).frames⟩;obtain⟨o,es,ep,ho,hd,_⟩:=hn;exact⟨L,o,hf,base_none X hL,ho,fun vs q=>by rw[hd] at q;cases q⟩
 frd:=fun e he L' hL'=>by
  rcases List.mem_cons.mp he with rfl | he
  ·rw[hf] at hL';cases hL';exact⟨m,hn⟩
  ·obtain⟨m',hm'⟩:=X.frd e he L' hL';exact⟨m',hm'.keeps hk⟩
 len:=X.len
 nodup:=X.nodup
 apart:=X.apart
 dom:=fun a ha=>by obtain⟨arr,n,e⟩:=X.dom a ha;exact⟨arr,n,hk _ _ e⟩
 objs:=fun i l e=>by
  obtain⟨a,arr,n,h1,h2,h3,h4⟩:=X.objs i l e;have hi:i < H.length:=(List.getElem?_eq_some_iff.mp e).1;refine⟨a,arr,n,h1,hk _ _ h2,h3,VRs.mono (fun b o _ e hs=>hk _ _ e) (fun _ q _=>q) (fun j b q=>?_) h4⟩;show (takeO (limOf c H.length i) σ)[j]?=some b;unfold limOf;split
  ·exact q
  ·rename_i hib;rw[X.loc i (by omega)] at q;show (σ.take H.length)[j]?=some b;rw[X.len,List.take_length];exact q
 loc:=fun i hi=>by
  have hb:=X.blen;have hl:=X.len;show limOf c H.length i=none;have hi':H.length<=i:=hi;unfold limOf;rw[if_neg (by omega),if_neg (by omega)]
 blen:=by show H.length<=σ.length;rw[X.len];exact Nat.le_refl _
 hi:=fun i hi k e=>by
  have hb:=X.blen;have hl:=X.len;have e':limOf c H.length i=some k:=e;show k<=H.length;unfold limOf at e';split at e'
  ·rename_i hib;have:=X.hi i hib k e';omega
  ·split at e'
   ·cases e';exact Nat.le_refl _
   ·cases e'
 hs:=fun i hi=>by
  show limOf c H.length i≠none;have hi':i < H.length:=hi;unfold limOf;split
  ·rename_i hib;exact X.hs i hib
  ·simp
theorem back_ok {c:Cx}{h h1 h':Heap} {σ σ':List Addr}{H H':Hp}{env:Env}{O:Addr->Prop}(X:c.Ok h σ H) (hk:∀ b o,h.get? b=some o->h1.get? b=some o) (hO:∀ a,O a->h.get? a=none)
  (X':(calleeCx c env H.length).Ok h' σ' H') (a:Adv O h1 σ H h' σ' H'):c.Ok h' σ (H'.take H.length)/\Adv No h σ H h' σ (H'.take H.length)/\∀ val v,v.pure=true->VR h' (Live σ' H') σ' val v->VR h' (Live σ (H'.take H.length)) σ val v:=by
 have a1:Adv O h σ H h' σ' H':=Adv.trans ⟨.exact fun b o _ e=>hk b o e,fun _ _ e=>e,fun _ e _=>e,fun b o e=>⟨o,hk b o e⟩⟩ a;have a2:Adv No h σ H h' σ' H':=a1.weaken fun b hb ⟨o,ho⟩=>by rw[hO b hb] at ho;cases ho
 have hlen':=X'.len;have hlen:=X.len;have hle : σ.length<=σ'.length:=by
  rcases Nat.lt_or_ge σ'.length σ.length with q | q
  ·have e:=a.pre σ'.length (σ[σ'.length]) (List.getElem?_eq_getElem q);rw[List.getElem?_eq_none (Nat.le_refl _)] at e;cases e
  ·exact q
 have hpre : σ'.take σ.length=σ:=by
  apply List.ext_getElem?;intro i;rw[List.getElem?_take];split
  ·rename_i hi;rw[List.getElem?_eq_getElem hi];exact a.pre i _ (List.getElem?_eq_getElem hi)
  ·rename_i hi;rw[List.getElem?_eq_none (by omega)]
 have hF:∀ b,Live σ (H'.take H.length) b->Live σ' H' b:=by
  rintro b ⟨i,l,e1,e2⟩
  rw[List.getElem?_take] at e2;split at e2
  ·exact⟨i,l,a.pre i b e1,e2⟩
  ·cases e2
 refine⟨?_,⟨fun b o hb e=>a2.step b o hb e,fun _ _ e=>e,fun b hb ho=>a2.live b (hF b hb) ho,a2.dom⟩,fun val v hp q=>?_⟩
 ·exact {
   stays:=X'.stays
   frames:=X'.frames.2.2
   frd:=fun e he=>X'.frd e (List.mem_cons_of_mem _ he)
   len:=by rw[List.length_take];omega
   nodup:=X.nodup
   apart:=X.apart
   dom:=fun b hb=>by
    obtain⟨i,e⟩:=List.getElem?_of_mem hb;exact X'.dom b (List.mem_of_getElem? (a.pre i b e))
   objs:=fun i l e=>by
    rw[List.getElem?_take] at e;split at e
    ·rename_i hi;obtain⟨b,arr,n,h1,h2,h3,h4⟩:=X'.objs i l e;have hib : σ[i]?=some b:=by
      rw[<- hpre,List.getElem?_take,if_pos (by omega)];exact h1
     refine⟨b,arr,n,hib,h2,h3,VRs.mono (fun b o _ e _=>e) (fun b q _=>hF b q) (fun j b' q=>?_) h4⟩;have q':(takeO (limOf c H.length i) σ')[j]?=some b':=q;unfold limOf at q';split at q'
     ·rename_i hic;cases hc:c.lim i with
      | none=>exact absurd hc (X.hs i hic)
      | some k=>
       rw[hc] at q';have hk':=X.hi i hic k hc;have hb:=X.blen;show (σ.take k)[j]?=some b';have q'':(σ'.take k)[j]?=some b':=q';rw[<- hpre,List.take_take,Nat.min_eq_left (by omega)];exact q''
     ·rename_i hic;rw[X.loc i (by omega)];show σ[j]?=some b';have q'':(σ'.take H.length)[j]?=some b':=q';rw[hlen,hpre] at q'';exact q''
    ·cases e
   loc:=X.loc
   blen:=X.blen
   hi:=X.hi
   hs:=X.hs }
 ·refine (VR.mono (fun b o _ e _=>e) (fun b q _=>hF b q) (fun _ _ e=>e) q:VR h' (Live σ (H'.take H.length)) σ' val v).pure hp
theorem chk_def {fn:Fn}{d:DefRec}(h:chkDef fn d=true):d.params.posonlyargs=[]/\d.params.vararg=none/\d.params.kwonlyargs=[]/\d.params.kwarg=none/\(d.params.args.map fun a=>tx a.arg)=fn.vars.take fn.params/\d.params.args.length=fn.params/\fn.vars.Nodup/\
  d.scope.kind=.function/\d.scope.isCoroutine=false/\d.scope.isGenerator=false/\(∀ a∈d.params.args,d.scope.names.lookup a.arg=some .local\/d.scope.names.lookup a.arg=some .cell)/\(∀ y∈d.scope.names,y.2≠.free)/\(d.scope.names.map fun y=>tx y.1).Nodup/\
  chkSs fn.vars (fun z=>d.scope.names.lookup z) fn.body d.body=true:=by
 simp only[chkDef,plainParams,Bool.and_eq_true,beq_iff_eq,Bool.not_eq_true',List.isEmpty_iff,Option.isNone_iff_eq_none,List.all_eq_true,Bool.or_eq_true,bne_iff_ne,ne_eq] at h;obtain⟨⟨⟨⟨⟨⟨⟨⟨⟨⟨⟨h0,⟨⟨⟨⟨⟨p1,p2⟩,p3⟩,_⟩,p4⟩,_⟩⟩,h2⟩,h3⟩,h4⟩,h5⟩,h6⟩,h7⟩,h8⟩,h9⟩,h10⟩,h11⟩:=h;exact⟨p1,p2,p3,p4,h2,h3,nodupB_iff h4,h5,h6,h7,h8,fun y hy=>h9 y hy,nodupB_iff h10,h11⟩
theorem nodup_of_map {α β : Type}(f : α->β):∀ {l:List α},(l.map f).Nodup->l.Nodup
 | [],_=>List.nodup_nil
 | a::l,h=>by
  rw[List.map_cons] at h;obtain⟨h1,h2⟩:=List.nodup_cons.mp h;exact List.nodup_cons.mpr ⟨fun q=>h1 (List.mem_map.mpr ⟨a,q,rfl⟩),nodup_of_map f h2⟩
theorem lookup_cell_mem {l:List (Str × NameKind)}{x:Str}{k:NameKind}(h:l.lookup x=some k):(x,k)∈l:=PySem.mem_of_lookup h
theorem callSnd {b0:Heap}{C:Value}{fa:Nat->Addr}(G:Gd b0) (hfa:∀ f fn,theFn f=some fn->G.mg (sOf fn.name)=some (.ref (fa f))/\∃ d,DefAt b0 fn (fa f) d)
  (hC:G.mg (sOf [70,111,114,109,97,116,70,97,117,108,116])=some C) (rs:RaiseSnd prog w b0 C) (ct:CatchSnd prog w b0 C) (kc:ClsSnd prog w b0 C) (N:Nat):∀ n,CallSnd prog w b0 C fa (callF theFn N n) (n + 4)
 | 0=>by
  intro c A s σ H f vs vals r Q E hb hc hne au ht X hv he k;simp[callF] at he
 | n + 1=>by
  have ih:=callSnd G hfa hC rs ct kc N n;intro c A s σ H f vs vals r Q E hb hc hne au ht X hv he k;subst hb;subst hc;simp only[callF] at he;cases hf:theFn f with
  | none=>rw[hf] at he;cases he
  | some fn=>
   rw[hf] at he;obtain⟨_,d,⟨o,pm,code,doc,ho,hdat,hcd⟩,hchk⟩:=hfa f fn hf;obtain⟨p1,p2,p3,p4,hargs,hnum,hnd,hkind,hco,hgen,hpk,hfree,hnames,hbody⟩:=chk_def hchk;simp only[runF] at he;split at he<;>try cases he
   rename_i hlen;have hvl:=hv.length;have hns:(d.params.args.map (·.arg)).Nodup:=by
    have h1:((d.params.args.map (·.arg)).map tx).Nodup:=by
     rw[List.map_map];have:(fn.vars.take fn.params).Nodup:=List.Nodup.sublist (List.take_sublist _ _) hnd;rw[<- hargs] at this;exact this
    exact nodup_of_map tx h1
   have hbind:=binds_plain (fd:=docDef d.name d.params d.body d.scope pm code doc) (vs:=vals) p1 p2 p3 p4 rfl hns (by rw[List.length_map,hvl,hlen,<- hnum];rfl);have hos:=X.stays _ _ ho;have hcs:=hcd.keeps X.stays;refine wpAny_call (codeAny_call_function (by have:=au.depth;omega) hos hdat hco hgen rfl hcs ?_);rw[hbind];refine wpAny_pure (wpAny_with_toks (n:=1) ht (wpAny_newFunctionEnv_cells hkind (fun x hx=>?_) fun env henv s1 x htk=>⟨(G.nolimit.keeps X.stays).keeps x.toInCall.keep,codeAny_func ?_⟩))
   ·have hx1:=zip_fst_mem hx;obtain⟨a,ha,hax⟩:=List.mem_map.mp hx1;rcases hpk a ha with q | q
    ·exact .inl (by rw[<- hax];exact q)
    ·refine .inr ⟨by rw[<- hax];exact q,cells_some _ _ _ _ (.inl ?_)⟩;rw[<- hax];exact lookup_cell_mem q
   obtain⟨h1,tk1,rfl⟩:=x.toInCall.same;have hk1:∀ b o,s.heap.get? b=some o->h1.get? b=some o:=x.toInCall.keep;have hL:s.heap.get? s.heap.objs.size=none:=size_none _ (Nat.le_refl _);have hns1:h1.Ns s.heap.objs.size (bindL env.kindOf ((d.params.args.map (·.arg)).zip vals) fun _=>none):=by subst henv;exact x.toInCall.ns
   have hko:env.kindOf=fun z=>d.scope.names.lookup z:=by subst henv;rfl
   have hks:env.scope.kind=.function:=by subst henv;exact hkind
   have hfr:env.frame=some s.heap.objs.size:=by subst henv;rfl
   have hlo:env.locals=s.heap.objs.size:=by subst henv;rfl
   have hce:env.cells=cellsFrom (s.heap.objs.size + 1) d.scope.names []:=by subst henv;rfl
   have hgl:env.globals=mainGlobals:=by subst henv;rfl
   have hbl:env.builtins=builtinsNs:=by subst henv;rfl
   have X1:(calleeCx c env H.length).Ok h1 σ H:=callee_ok X hk1 hfr hL hns1 hks;have hab:∀ y a,env.cells.lookup y=some a->s.heap.get? a=none:=fun y a hy=>by
    have:=x.above y a (PySem.mem_of_lookup hy);rw[hlo] at this;exact size_none _ (Nat.le_of_lt this)
   have eo:EnvOk env:=⟨hks,hgl,hbl,fun y hy=>by
    rw[hko] at hy;rw[hce];rcases hy with hy | hy
    ·exact Option.isSome_iff_exists.mp (cells_some _ _ _ _ (.inl (lookup_cell_mem hy)))
    ·exact absurd rfl (hfree _ (lookup_cell_mem hy))⟩
   have F:FnE (calleeCx c env H.length) env:=⟨eo,⟨c.envs,rfl⟩,by rw[hfr,hlo],fun y z a hy hz=>PySem.name_of_addr x.apart (PySem.mem_of_lookup hy) (PySem.mem_of_lookup hz),fun y a hy=>base_none X (hab y a hy)⟩
   have hown:∀ a,Own env a->s.heap.get? a=none:=fun a z=>by
    rcases z with rfl | ⟨y,hy⟩
    ·rw[hlo];exact hL
    ·exact hab y a hy
   have gr:Grow c.base s.heap h1:=grow_keeps X.stays hk1;have hvars:Vars fn.vars env h1 σ H (vs.map some++List.replicate (fn.vars.length - fn.params) none):=fun i v hi y hy hky=>by
    have hil:i < vs.length:=by
     rcases Nat.lt_or_ge i vs.length with q | q
     ·exact q
     ·rw[List.getElem?_append_right (by simpa using q),List.getElem?_replicate] at hi;split at hi<;>cases hi
    rw[List.getElem?_append_left (by simpa using hil),List.getElem?_map] at hi;obtain⟨v',hv',e⟩:=Option.map_eq_some_iff.mp hi;cases e;obtain⟨val,hval,hr⟩:=hv.get i v hv';have hyn:(d.params.args.map (·.arg))[i]?=some y:=by
     have h2:(fn.vars.take fn.params)[i]?=some (tx y):=by rw[List.getElem?_take,if_pos (by omega)];exact hy
     rw[<- hargs,List.getElem?_map] at h2;obtain⟨a,ha,e⟩:=Option.map_eq_some_iff.mp h2;rw[List.getElem?_map,ha,Option.map_some,tx_inj e]
    obtain⟨a,ha⟩ : ∃ a,d.params.args[i]?=some a/\a.arg=y:=by
     rw[List.getElem?_map] at hyn;exact Option.map_eq_some_iff.mp hyn
    have hk':=hpk a (List.mem_of_getElem? ha.1);rw[ha.2] at hk';refine⟨val,?_,VR.mono (fun b o _ e _=>hk1 b o e) (fun _ q _=>q) (fun _ _ q=>q) hr⟩;rcases hk' with hk' | hk'
    ·refine .inl ⟨by rw[hko];exact hk',_,by rw[hlo];exact hns1,bindL_zip env.kindOf hns hyn hval (by rw[hko];exact hk')⟩
    ·have hkc:env.kindOf y=some .cell:=by rw[hko];exact hk'
     obtain⟨cl,hcl⟩:=eo.cells y (.inl hkc);have hcell:h1.IsCell cl (bindC env.kindOf ((d.params.args.map (·.arg)).zip vals) (fun _=>none) y):=x.cell y cl hcl;rw[bindC_zip env.kindOf hns hyn hval (by rw[hkc];decide)] at hcell;exact .inr ⟨.inl hkc,cl,hcl,hcell⟩
   have fm:Fm env h1:=⟨⟨_,by rw[hlo];exact hns1⟩,fun y a hy=>⟨_,x.cell y a hy⟩⟩
   have au':AOk (calleeCx c env H.length) (A.deeper env) (n + 4):=⟨Around.frames_deeper au.frames,by have:=au.units;rw[units_deeper];omega,by have:=au.depth;rw[depth_deeper];omega,au.handled⟩
   have R':RdyS prog w (calleeCx c env H.length) (A.deeper env) (callF theFn N n) (n + 4):=
    { G:=G,hne:=by simp[calleeCx],au:=au',fa:=fa,hfa:=fun f fn hf=>⟨(hfa f fn hf).1,by obtain⟨_,d,⟨o,pm,code,doc,ho,hdat,_⟩,_⟩:=hfa f fn hf;exact⟨o,_,ho,hdat⟩⟩,cs:=ih,hC:=hC,rs:=rs,ct:=ct,kc:=kc,n4:=by omega }
   have hbody':chkSs fn.vars env.kindOf fn.body d.body=true:=by rw[hko];exact hbody
   cases hev:EA (callF theFn N n) N H.length fn.body (vs.map some++List.replicate (fn.vars.length - fn.params) none) H with
   | none=>rw[hev] at he;cases he
   | some rr=>
    rw[hev] at he;refine sndSs R' F hnd fn.body (s:={ s with heap:=h1,toks:=tk1 }) htk hbody' hev X1 hvars fm ?_;cases rr with
    | next l H'=>cases he
    | cont l H'=>cases he
    | ret v H'=>
     simp only at he;split at he<;>try cases he
     rename_i hp;intro val h' tk σ' X' a' q';obtain⟨Xb,ab,vb⟩:=back_ok X hk1 hown X' a';exact k val h' tk σ Xb ab (vb val v hp q')
    | exc H'=>
     simp only[Option.some.injEq] at he;subst he;intro e h' tk σ' X' a' x';refine exc_leave (s:={ s with heap:=h',toks:=tk }) (c:=calleeCx c env H.length) (O:=Own env) (h0:=h1) (σ0:=σ) (H0:=H) (outer:=c.envs) rfl au'.frames F.loc X' a' x' fun h2 X2 a2 x2=>?_
     obtain⟨Xb,ab,_⟩:=back_ok X hk1 hown X2 a2;have x3:Exc c.base c.C s.heap e h2:=Exc.adv (gr.adv σ H) x2;exact k e h2 tk σ Xb ab x3
end
end Mine
end
section
set_option maxRecDepth 100000
open PySem PySem.W PyProof.Rows PySem.Calls
namespace Mine
section
variable {prog:Program}{w:World}{A:Around}{c:Cx}{env:Env}{n:Nat}
def lawRest:Ss:=match F_law.body with | .cons _ r=>r | .nil=>.nil
def lawHead:Mine.S:=match F_law.body with | .cons s _=>s | .nil=>.cont
theorem law_body:F_law.body=.cons lawHead lawRest:=rfl
theorem law_head:lawHead=.assign 1 (.lstM (.cons (.sl (.loc 0) .none (.int 48)) (.cons (.int 0) .nil))):=rfl
set_option maxHeartbeats 2000000 in
theorem first_step (F:FnE c env){nm:List Txt}(hnd:nm.Nodup){st:Stmt}{s:Shared}{vs l48:List V}{l0:Loc}{Q:Flow->Shared->Prop}{E:Value->Shared->Prop}
  (hc:chkS nm env.kindOf lawHead st=true) (X:c.Ok s.heap [] []) (hv:Vars nm env s.heap [] [] l0) (f:Fm env s.heap) (hl0:l0[0]?=some (some (.lst vs))) (hcut:cut vs .none (.int 48)=some l48) (hpure:V.pures l48=true)
  (k:∀ h' tk σ',0 < tk->c.Ok h' σ' [some [.lst l48,.int 0]]->Adv (Own env) s.heap [] [] h' σ' [some [.lst l48,.int 0]]->Vars nm env h' σ' [some [.lst l48,.int 0]] (l0.set 1 (some (.ref 0)))->Fm env h'->Q .next { s with heap:=h',toks:=tk }) :
  wpAny (model prog w) A (exec st env) Q E s:=by
 rw[law_head] at hc;simp only[chkS] at hc;split at hc<;>try cases hc
 rename_i id np v pos;simp only[Bool.and_eq_true,Bool.or_eq_true,isStore,isStoreC,beq_iff_eq] at hc;obtain⟨⟨h1,h2⟩,h3⟩:=hc;simp only[chkE] at h3;split at h3<;>try cases h3
 rename_i xs p3;simp only[chkEs] at h3;split at h3<;>try cases h3
 rename_i e1 r1;simp only[Bool.and_eq_true] at h3;obtain⟨⟨g1,g2⟩,g3⟩:=h3;split at g3<;>try cases g3
 rename_i e2 r2;simp only[Bool.and_eq_true,chkE] at g3 g2;obtain⟨⟨g4,g5⟩,g6⟩:=g3;simp only[List.isEmpty_iff] at g6;subst g6;split at g5<;>try cases g5
 rename_i i0 k0 p0;simp only[beq_iff_eq] at g5;subst g5;split at g2<;>try cases g2
 rename_i vv lo up p1 p2;simp only[Bool.and_eq_true] at g2;obtain⟨⟨ga,gb⟩,gc⟩:=g2;split at ga<;>try cases ga
 rename_i id0 q0;simp only[Bool.and_eq_true] at ga;split at gc<;>try cases gc
 rename_i xu;split at gc<;>try cases gc
 rename_i j0 k1 p5;simp only[beq_iff_eq] at gc;subst gc;have main:∀ (val:Value),VR s.heap (Live [] []) [] val (.lst vs)->wpAny (model prog w) A (evalPart lo env) (fun vl s1=>vl=.none/\s1=s) E s:=by
  intro val q;cases lo with
  | none=>exact wpAny_pure ⟨rfl,rfl⟩
  | some x=>
   dsimp only at gb;split at gb<;>try cases gb
   rename_i kk pp;exact wpAny_Constant_none (k:=kk) (pos:=pp) ⟨rfl,rfl⟩
 refine wpAny_Assign_Name (List_ (args_cons (Subscript_ (name_loc F.eo ga.1 ga.2 hv hl0 fun val q=>wpAny_Slice (wpAny_mono (main val q) (fun vl s1 hs=>?_) fun _ _ z=>z))) (notStar_each g1))) (noSwap h2);obtain⟨rfl,hs2⟩:=hs;rw[hs2];have hsl:slV (.lst vs) .none (.int 48)=some (.lst l48):=by
  show (cut vs .none (.int 48)).map V.lst=_;rw[hcut];rfl
 refine wpAny_Constant_int (k:=k1) (pos:=p5) (wpAny_pure (sndSl (s:={ s with toks:=s.toks + 1 }) X q .none (.int _ _) hsl ?_));intro v1 h1' tk1 σ1 X1 a1 q1;refine args_cons (wpAny_Constant_int (k:=k0) (pos:=p0) (args_nil ?_)) (notStar_each g4);refine wpAny_with_toks (n:=1) (Nat.succ_pos _) (new_mut (s:={ s with heap:=h1',toks:=tk1 + 1 }) (l:=[.lst l48,.int 0]) X1 (.cons q1 (.cons (.int _ _) .nil)) (by show 2<=1048576;omega) ?_);intro v2 h2' tk2 σ2 X2 a2 q2 hp2;have a12:=a1.trans a2;refine store (s:={ s with heap:=h2',toks:=tk2 }) (v:=.ref 0) F hnd (h1.elim (·.1) (·.1)) (h1.imp (·.2) (·.2)) X2 (hv.adv0 X a12) (f.adv0 X a12) q2 fun h3 tk3 X3 a3 hv3 f3 ht3=>?_
 exact k h3 tk3 σ2 (Nat.lt_of_lt_of_le hp2 ht3) X3 (a12.own.trans a3) hv3 f3
theorem pures_ints:∀ is:List Int,V.pures (is.map V.int)=true
 | []=>rfl
 | _::is=>by rw[List.map_cons,V.pures,pures_ints is];rfl
theorem law_walk {N m:Nat}{call:Nat->List V->Hp->Option (Res V)}(R:RdyS prog w c A call m) (F:FnE c env){s:Shared}{is:List Int}{st:List Stmt}{E:Value->Shared->Prop}(hb:c.b=0)
  (hc:chkSs F_law.vars env.kindOf F_law.body st=true) (X:c.Ok s.heap [] []) (hv:Vars F_law.vars env s.heap [] [] (some (.lst (is.map V.int))::List.replicate 4 none)) (f:Fm env s.heap)
  (he:runF call N F_law [.lst (is.map V.int)] []=some (.ok (.bool true) [])) :
  wpAny (model prog w) A (execs st env) (fun fl s'=>fl=.ret (.bool true)/\(∀ b o,c.base.get? b=some o->s'.heap.get? b=some o)/\s'.os=s.os/\s'.gens=s.gens) E s:=by
 have hnd:F_law.vars.Nodup:=by decide
 rw[law_body] at hc;simp only[chkSs] at hc;split at hc<;>try cases hc
 rename_i st1 sts;simp only[Bool.and_eq_true] at hc;have hcl:(is.map V.int).length=is.length:=List.length_map ..;have hcut:cut (is.map V.int) .none (.int 48)=some ((is.take 48).map V.int):=by
  unfold cut bound;simp only[show (-(capL:Int))<=48/\(48:Int)<=capL from ⟨by decide,by decide⟩,if_true,and_self];simp only[clampI,show ¬ ((48:Int) < 0) by decide,if_false,List.drop_zero,List.map_take]
  congr 1
  rcases Nat.le_total 48 is.length with q | q
  ·rw[show min (48:Int).toNat (is.map V.int).length=48 by rw[hcl];exact Nat.min_eq_left q]
  ·rw[show min (48:Int).toNat (is.map V.int).length=is.length by rw[hcl];exact Nat.min_eq_right q,<- hcl,List.take_length,List.take_of_length_le (by rw[hcl];exact q)]
 have hp:=pures_ints (is.take 48);simp only[runF] at he;rw[if_pos (by rfl)] at he;have hhead:EB call N 0 lawHead (some (.lst (is.map V.int))::List.replicate 4 none) []=some (.next ((some (.lst (is.map V.int))::List.replicate 4 none).set 1 (some (.ref 0))) [some [.lst ((is.take 48).map V.int),.int 0]]):=by
  rw[law_head];simp only[EB,EC,ED,EG,EF,EH,slV,List.getElem?_cons_zero,hcut,Option.map_some,List.length_cons,List.length_nil,List.nil_append];rw[if_pos (by decide)]
 have he2:∃ H',EA call N 0 lawRest ((some (.lst (is.map V.int))::List.replicate 4 none).set 1 (some (.ref 0))) [some [.lst ((is.take 48).map V.int),.int 0]]=some (.ret (.bool true) H'):=by
  have e1:EA call N ([]:Hp).length F_law.body (([V.lst (is.map V.int)].map some)++List.replicate (F_law.vars.length - F_law.params) none) [] =
    EA call N 0 lawRest ((some (.lst (is.map V.int))::List.replicate 4 none).set 1 (some (.ref 0))) [some [.lst ((is.take 48).map V.int),.int 0]]:=by
   rw[law_body];show EA call N 0 (.cons lawHead lawRest) (some (.lst (is.map V.int))::List.replicate 4 none) []=_;rw[EA,hhead]
  rw[e1] at he;cases hr:EA call N 0 lawRest ((some (.lst (is.map V.int))::List.replicate 4 none).set 1 (some (.ref 0))) [some [.lst ((is.take 48).map V.int),.int 0]] with
  | none=>rw[hr] at he;cases he
  | some r=>
   rw[hr] at he;cases r with
   | ret v H'=>
    simp only at he;split at he<;>try cases he
    exact⟨H',rfl⟩
   | _=>cases he
 obtain⟨H',he2⟩:=he2;refine wpAny_execs_cons (first_step F hnd hc.1 X hv f rfl hcut hp fun h1 tk1 σ1 hp1 X1 a1 hv1 f1=>?_);refine sndSs R F hnd lawRest (s:={ s with heap:=h1,toks:=tk1 }) hp1 hc.2 (by rw[hb];exact he2) X1 hv1 f1 ?_;intro val h' tk σ' X' a' q';rw[q'.bool_inv];exact⟨rfl,X'.stays,rfl,rfl⟩
end
end Mine
end
section
open PySem PySem.W PyProof.Rows
namespace Mine
set_option maxRecDepth 100000 in
set_option maxHeartbeats 8000000 in
open_top hd for PySem.Challenge.rw_no0245_01
end Mine
end
section
set_option maxRecDepth 100000
open PySem PySem.W PyProof.Rows PySem.Calls
namespace Mine
def PureLaw:Prop:=∀ is:List Int,is.length<=63->runF (callF theFn 2000 200) 2000 F_law [.lst (is.map V.int)] []=some (.ok (.bool true) [])
set_option maxHeartbeats 8000000 in
theorem fz (P:Params):FZ (hd.heap_39 P) 51 31 48 28 where
 objC:=⟨_,_,_,rfl,rfl,rfl,rfl,rfl⟩
 call:=by kernel_rfl
 typ:=by kernel_rfl
 init:=by kernel_rfl
 t1:=by kernel_rfl
 sa:=by kernel_rfl
 atT:=by kernel_rfl
 atA:=by kernel_rfl
 exi:=by kernel_rfl
 rdD:=by kernel_rfl
 fiD:=by kernel_rfl
 fn1:=⟨_,_,_,_,_,_,_,_,_,_,_,⟨⟨_,rfl,rfl⟩,by kernel_rfl,rfl,rfl,rfl,rfl,by decide +kernel,rfl,rfl,by decide +kernel⟩,rfl,by kernel_rfl,fun a b c=>by kernel_rfl⟩
 fn2:=⟨_,_,_,_,_,_,_,_,_,_,_,⟨⟨_,rfl,rfl⟩,by kernel_rfl,rfl,rfl,rfl,rfl,by decide +kernel,rfl,rfl,by decide +kernel⟩,rfl,by kernel_rfl,fun a b=>by kernel_rfl⟩
end Mine
end
section
set_option maxRecDepth 100000
open PySem PySem.W PyProof.Rows PySem.Calls
namespace Mine
theorem chk_all:chkAll hd.view_39=true:=by decide +kernel
theorem def_of {f:Nat}{fn:Fn}(h:theFn f=some fn):∃ d∈recsOf hd.view_39,tx d.name=fn.name/\chkDef fn d=true:=by
 have hf:f < 40:=by
  rcases Nat.lt_or_ge f 40 with q | q
  ·exact q
  ·exfalso;unfold theFn at h;split at h<;>first | omega | cases h
 have:=List.all_eq_true.mp chk_all f (List.mem_range.mpr hf);rw[h] at this;dsimp only at this;cases q:theDef hd.view_39 fn.name with
 | none=>rw[q] at this;cases this
 | some d=>
  rw[q] at this;have h1:=List.mem_of_find?_eq_some q;have h2:=List.find?_some q;exact⟨d,h1,by simpa using h2,this⟩
theorem ns_of {K:Frag}{h:Heap}{N:Addr}{mg:Str->Option Value}{n:Str}{v:Value}(X:K.In h) (G:h.Ns N mg) (e:nsIn K N n=some (some v)):mg n=some v:=by
 obtain⟨o,es,ep,ho,hd,_,hf⟩:=G;unfold nsIn at e;split at e
 ·rename_i c d es' n' sl q;have:=X _ _ q;rw[ho] at this;cases this;cases hd;split at e
  ·rename_i en he;cases e;rw[<- hf];unfold nsFind findBy;rw[<- Array.find?_toList,he];rfl
  ·split at e<;>cases e
 ·cases e
section
variable {w:World}{s₁ : Shared}{mg mb:Str->Option Value}{mean:ExcName->Option Value}{loose:List Str}
def theGd (KX:(hd.heap_39 w.params).In s₁.heap) (T:Top hd.view_39 loose mean mg mb s₁.heap):Gd s₁.heap where
 mg:=mg
 mb:=mb
 g:=T.g
 b:=T.b
 nolimit:=T.nolimit
 hlen:=⟨ns_none_of KX T.g (by kernel_rfl),(T.builtins _ (by decide +kernel)).trans (by kernel_rfl)⟩
 hstr:=⟨ns_none_of KX T.g (by kernel_rfl),(T.builtins _ (by decide +kernel)).trans (by kernel_rfl)⟩
 hint:=⟨ns_none_of KX T.g (by kernel_rfl),(T.builtins _ (by decide +kernel)).trans (by kernel_rfl)⟩
 hrange:=⟨ns_none_of KX T.g (by kernel_rfl),(T.builtins _ (by decide +kernel)).trans (by kernel_rfl)⟩
 hzip:=⟨ns_none_of KX T.g (by kernel_rfl),(T.builtins _ (by decide +kernel)).trans (by kernel_rfl)⟩
 hints:=fun x i h=>by
  simp only[gints,List.contains_eq_mem,List.mem_cons,Prod.mk.injEq,List.not_mem_nil,or_false,decide_eq_true_eq] at h;rcases h with ⟨rfl,rfl⟩ | ⟨rfl,rfl⟩
  ·exact⟨248,ns_of KX T.g (by kernel_rfl)⟩
  ·exact⟨250,ns_of KX T.g (by kernel_rfl)⟩
 hstrs:=fun x z h=>by
  simp only[gstrs,List.contains_eq_mem,List.mem_cons,Prod.mk.injEq,List.not_mem_nil,or_false,decide_eq_true_eq] at h;rcases h with ⟨rfl,rfl⟩ | ⟨rfl,rfl⟩
  ·exact⟨246,ns_of KX T.g (by kernel_rfl)⟩
  ·exact⟨486,ns_of KX T.g (by kernel_rfl)⟩
def theFG (KX:(hd.heap_39 w.params).In s₁.heap) (T:Top hd.view_39 loose mean mg mb s₁.heap):FG s₁.heap 51 31 where
 mg:=mg
 mb:=mb
 g:=T.g
 b:=T.b
 nolimit:=T.nolimit
 exc:=⟨ns_none_of KX T.g (by kernel_rfl),(T.builtins _ (by decide +kernel)).trans (by kernel_rfl)⟩
 cD:=ns_of KX T.g (by kernel_rfl)
def addrOf (mg:Str->Option Value) (f:Nat):Addr:=match theFn f with
 | some fn=>(match mg (sOf fn.name) with | some (.ref a)=>a | _=>0)
 | none=>0
theorem addr_ok (T:Top hd.view_39 loose mean mg mb s₁.heap) (f:Nat) (fn:Fn) (h:theFn f=some fn):mg (sOf fn.name)=some (.ref (addrOf mg f))/\∃ d,DefAt s₁.heap fn (addrOf mg f) d:=by
 obtain⟨d,hd,hn,hc⟩:=def_of h;obtain⟨a,o,pm,code,doc,h1,h2,h3,h4⟩:=T.fn d hd;have hx:sOf fn.name=d.name:=by rw[<- hn,sOf_tx]
 have ha:addrOf mg f=a:=by
  unfold addrOf;rw[h];simp only[hx,h1]
 rw[ha,hx];exact⟨h1,d,⟨o,pm,code,doc,h2,h3,h4⟩,hc⟩
theorem wellInts {P:Params}{h:Heap}{a:Addr}(is:List Int) (W:Well P h (.ref a) (ofPy (PyData.list (is.map PyData.int)))):∃ vs,h.get? a=some (LstO vs.toArray 0)/\∀ h' F σ,VRs h' F σ vs (is.map V.int):=by
 have go:∀ (is:List Int) (vs:List Value),WellAll P h vs (ofPys (is.map PyData.int))->∀ h' F σ,VRs h' F σ vs (is.map V.int):=by
  intro is
  induction is with
  | nil=>intro vs W h' F σ;cases W;exact .nil
  | cons i is ih=>
   intro vs W h' F σ;cases W with
   | cons w ws=>
    cases w with
    | int _ t=>exact .cons (.int _ _) (ih _ ws _ _ _)
 generalize hd:ofPy (PyData.list (is.map PyData.int))=d at W;cases W with
 | list e ws=>
  cases hd;exact⟨_,e,go is _ ws⟩
 | _=>cases hd
theorem join (PL:PureLaw){prog:Program}{A:Around}{name:Str}{scope:Scope}{body:List Stmt}{fa aL:Addr}{cd:Value}{h₁ : Heap}{tk:Nat}{is:List Int}{ocell:Obj}{E:Value->Shared->Prop}
  (KX:(hd.heap_39 w.params).In s₁.heap) (T:Top hd.view_39 loose mean mg mb s₁.heap) (hW:Well w.params s₁.heap (.ref aL) (ofPy (PyData.list (is.map PyData.int)))) (hlen:is.length<=63)
  (hA1:A.frames=some []) (hA2:A.units + 1000 < cLine) (hA3:A.depth + 300 < recursionLimit) (hA4:A.handled=none)
  (hc : chkSs F_law.vars (fun z => scope.names.lookup z) F_law.body body = true) (hk : scope.kind = .function) (hfree : ∀ y ∈ scope.names, y.2 ≠ .free) (hsc : scope.names.lookup ("script" : Str) = some .local) (hpen0 : (scope.names.all fun y => y.2 != .cell || y.1 == ("pen" : Str)) = true)
  (hcells : ∀ n, cellsFrom n scope.names [] = [(("pen" : Str), n)])
  (F : Fr s₁.heap s₁.heap.objs.size h₁ (bindL (envOfC name scope s₁.heap.objs.size fa cd).kindOf [(("script" : Str), .ref aL)] fun _ => none)) (hcell : h₁.get? (s₁.heap.objs.size + 1) = some ocell) (hcd : ocell.data = .cell none) :
  wpAny (model prog w) (A.deeper (envOfC name scope s₁.heap.objs.size fa cd)) (execs body (envOfC name scope s₁.heap.objs.size fa cd))
   (fun fl s'=>fl=.ret (.bool true)/\(∀ b o,s₁.heap.get? b=some o->s'.heap.get? b=some o)/\s'.os=s₁.os/\s'.gens=s₁.gens) E { s₁ with heap:=h₁,toks:=tk }:=by
 have hpen : ∀ x, scope.names.lookup x = some .cell -> x = ("pen" : Str) := fun x hx => by
  have:=List.all_eq_true.mp hpen0 _ (PySem.mem_of_lookup hx);simpa using this
 have Y:=fz w.params;have hFF:mg (sOf [70,111,114,109,97,116,70,97,117,108,116])=some (.ref 51):=ns_of KX T.g (by kernel_rfl);have rs:=raiseSnd (prog:=prog) (w:=w) Y KX (theFG KX T);have ct:=catchSnd (prog:=prog) (w:=w) Y KX;have kc:=clsSnd (prog:=prog) (w:=w) Y KX;have cs:=callSnd (prog:=prog) (w:=w) (theGd KX T) (addr_ok T) hFF rs ct kc 2000 200
 let env:=envOfC name scope s₁.heap.objs.size fa cd
 let c:Cx:=⟨s₁.heap,[env],0,fun _=>none,.ref 51⟩
 have hsz:s₁.heap.get? s₁.heap.objs.size=none:=size_none _ (Nat.le_refl _);have hsz1:s₁.heap.get? (s₁.heap.objs.size + 1)=none:=size_none _ (Nat.le_succ _);have X:c.Ok h₁ [] []:={
  stays:=F.keep
  frames:=by
   obtain⟨o,es,ep,ho,hd',_⟩:=F.ns;exact⟨by show scope.kind≠.module;rw[hk];decide,⟨_,o,rfl,hsz,ho,fun vs q=>by rw[hd'] at q;cases q⟩,trivial⟩
  frd:=fun e he L hL'=>by
   simp only[c,List.mem_cons,List.not_mem_nil,or_false] at he;subst he;cases hL';exact⟨_,F.ns⟩
  len:=rfl
  nodup:=List.nodup_nil
  apart:=fun a ha=>by cases ha
  dom:=fun a ha=>by cases ha
  objs:=fun i l e=>by simp at e
  loc:=fun i _=>rfl
  blen:=Nat.le_refl _
  hi:=fun i hi=>absurd hi (Nat.not_lt_zero _)
  hs:=fun i hi=>absurd hi (Nat.not_lt_zero _) }
 have hce : env.cells = [(("pen" : Str), s₁.heap.objs.size + 1)] := hcells _;have clk : ∀ x a, env.cells.lookup x = some a -> x = ("pen" : Str) /\ a = s₁.heap.objs.size + 1 := fun x a hx => by
  rw[hce] at hx;simp only[List.lookup] at hx;split at hx
  ·rename_i q;cases hx;exact⟨by simpa using q,rfl⟩
  ·cases hx
 have eo:EnvOk env:=⟨hk,rfl,rfl,fun x hx=>by
  rw[hce];rcases hx with hx | hx
  ·rw[hpen x hx];exact⟨s₁.heap.objs.size + 1,by simp[List.lookup]⟩
  ·exact absurd rfl (hfree _ (PySem.mem_of_lookup hx))⟩
 have FE:FnE c env:=⟨eo,⟨[],rfl⟩,rfl,fun x y a hx hy=>by rw[(clk x a hx).1,(clk y a hy).1],fun x a hx=>by rw[(clk x a hx).2];exact hsz1⟩
 have fm:Fm env h₁:=⟨⟨_,F.ns⟩,fun x a hx=>⟨none,by rw[(clk x a hx).2];exact⟨ocell,hcell,hcd⟩⟩⟩
 have au:AOk c (A.deeper env) 204:=⟨Around.frames_deeper hA1,by rw[units_deeper];omega,by rw[depth_deeper];omega,hA4⟩
 have R:RdyS prog w c (A.deeper env) (callF theFn 2000 200) 204:=
  { G:=theGd KX T,hne:=by simp[c],au:=au,fa:=addrOf mg,hfa:=fun f fn hf=>⟨(addr_ok T f fn hf).1,by obtain⟨_,d,⟨o,pm,code,doc,ho,hdat,_⟩,_⟩:=addr_ok T f fn hf;exact⟨o,_,ho,hdat⟩⟩,cs:=cs,hC:=hFF,rs:=rs,ct:=ct,kc:=kc,n4:=by omega }
 obtain⟨vs,hoL,hvs⟩:=wellInts is hW;have hlist:VR h₁ (Live [] []) [] (.ref aL) (.lst (is.map V.int)):=by
  have hl:vs.length=is.length:=by have:=(hvs h₁ (Live [] []) []).length;simpa using this
  exact .lst (n:=0) (F.keep _ _ hoL) (fun z=>by obtain⟨i,l,e,_⟩:=z;simp at e) (by rw[List.size_toArray,hl];show _<=1048576;omega) (hvs _ _ _)
 have hvars:Vars F_law.vars env h₁ [] [] (some (.lst (is.map V.int))::List.replicate 4 none):=fun i v e x hx hkx=>by
  cases i with
  | succ i=>
   rw[List.getElem?_cons_succ,List.getElem?_replicate] at e;split at e<;>cases e
  | zero=>
   simp only[List.getElem?_cons_zero,Option.some.injEq] at e;subst e;have hxs : x = "script" := tx_inj (by rw [<- Option.some.inj hx]; decide +kernel);subst hxs;refine⟨.ref aL,.inl ⟨hsc,_,F.ns,?_⟩,hlist⟩;show bindL _ _ _ _=_;unfold bindL;rw [if_pos (show env.kindOf ("script" : Str) = some .local from hsc)];unfold bindL;exact if_pos rfl
 exact law_walk (c:=c) (env:=env) (s:={ s₁ with heap:=h₁,toks:=tk }) (E:=E) R FE rfl hc X hvars fm (PL is hlen)
end
end Mine
end
section
set_option maxRecDepth 100000
open PySem PySem.W PyProof.Rows PySem.Calls
namespace Mine
set_option maxHeartbeats 8000000 in
theorem main (PL:PureLaw):PySem.Challenge.rw_no0245_01.Holds:=hd (by
 k_go0
 all_goals (
 rename_i w s₀ s₁ mg mb G Y fa o pm doc ho hg KX XX V GL T B TE TW bm ob M cdA w7 hcd is hs hlay0 hLay hr1 hl2 as5 as4 aL vs as1 hL ra w1 r0 hI hr hcond hcond2 K0 hD h₁ tk₁ F oc hoc N0 X0;refine wpAny_mono (join (E:=_) PL KX T w1 (by omega) rfl (by decide) (by decide) rfl (by decide +kernel) rfl (by decide +kernel) (by decide +kernel) (by decide +kernel) (fun n=>rfl) F (N0 _ (List.mem_singleton.mpr rfl)).1 (hoc.trans (by rfl))) (fun fl s' h=>?_) (fun _ _ h=>h);obtain⟨rfl,hkeep,hos,hgens⟩:=h;refine⟨.inl ⟨.bool true,.bool true,[],rfl,fun _=>rfl,.bool true,?_,unshared_nil⟩,hkeep,hos,hgens.trans hg⟩;exact postW_of rfl (X:=true) (by
  show WTm.value _ (WTm.eq .res (.lit (.bool true))) _=_;simp[WTm.value,same]
  ) rfl))
end Mine
end
theorem PySem.Challenge.cw_no0245_01_holds : PySem.Challenge.rw_no0245_01.Holds := by
  exact Mine.main Mine.P.law_true
