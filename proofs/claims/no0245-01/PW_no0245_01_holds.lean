import PyProof.Rows.All
import Wide.All
import OpenK.AllK
import Wide.FinOn
import KE.KSlice
import KE.KIntText
import KE.IntTextLaws
import ObjForm.ListNI
import KE.KItem
import Lean
import PySem.Challenge.RW_no0245_01
set_option linter.all false
set_option Elab.async false
local macro_rules | `(tactic| omega)=>`(tactic| first | lia -matchEqs | omega +splitNatSub)
set_option tactic.hygienic false
section
set_option genSizeOf false
set_option genInjectivity false
namespace Mine
noncomputable abbrev Txt:=List Nat
inductive V where
 | none
 | bool (b:Bool)
 | int (i:Int)
 | str (s:Txt)
 | tup (l:List V)
 | lst (l:List V)
 | ref (i:Nat)
inductive Bop where
 | add | sub | mul | fdiv | mod
 deriving DecidableEq
inductive Cop where
 | eq | ne | lt | le | gt | ge | isIn | notIn
 deriving DecidableEq
mutual
inductive E where
 | none
 | bool (b:Bool)
 | int (i:Int)
 | str (s:Txt)
 | loc (x:Nat)
 | gint (x:Txt) (i:Int)
 | gstr (x:Txt) (s:Txt)
 | bin (o:Bop) (a b:E)
 | million
 | neg (a:E)
 | not (a:E)
 | and (a b:E)
 | or (a b:E)
 | ife (c a b:E)
 | cmp (o:Cop) (a b:E)
 | between (a b c:E)
 | isNone (a:E)
 | notNone (a:E)
 | isNil (a:E)
 | notNil (a:E)
 | inC (a:E) (ws:List Txt)
 | ninC (a:E) (ws:List Txt)
 | call (f:Nat) (es:Es)
 | len (a:E)
 | toStr (a:E)
 | toInt (a:E)
 | find (a b:E)
 | replace (a:E) (c:Nat) (t:Txt)
 | join (a b:E)
 | split (a b:E)
 | pop (a:E)
 | seal (x:Nat)
 | idx (a b:E)
 | sl (a lo hi:E)
 | tup (es:Es)
 | lstF (es:Es)
 | lstM (es:Es)
 | comp (e:E) (x:Nat) (n:E)
inductive Es where
 | nil
 | cons (e:E) (es:Es)
end
mutual
inductive S where
 | assign (x:Nat) (e:E)
 | assignC (x:Nat) (e:E) (y:Nat) (n:E)
 | unpack (xs:List Nat) (e:E)
 | setIdx (a i e:E)
 | aug (x:Nat) (e:E)
 | append (a e:E)
 | ite (c:E) (a b:Ss)
 | while (c:E) (b:Ss)
 | forE (x:Nat) (e:E) (b:Ss)
 | forR (x:Nat) (e:E) (b:Ss)
 | zipStr (x z t:Nat) (e f:E)
 | ret (e:E)
 | raise (a:E)
 | tryRet (e:E)
 | cont
inductive Ss where
 | nil
 | cons (s:S) (r:Ss)
end
noncomputable def gints:List (Txt × Int):=[([77,79,83,84,95,78,85,77,66,69,82],9999),([77,79,83,84,95,68,69,80,84,72],10)]
noncomputable def gstrs:List (Txt × Txt):=[([68,73,71,73,84,83],[48,49,50,51,52,53,54,55,56,57]),
 ([95,108,97,119,95,115,105,103,110,115],[73,70,69,68,71,76,65,88,84,80,83,66,72,78,82,90,47,58,44,46,40,41,39,43,45,48,49,50,51,32,53,57])]
structure Fn where
 name:Txt
 params:Nat
 vars:List Txt
 body:Ss
noncomputable abbrev Hp:=List (Option (List V))
noncomputable abbrev Loc:=List (Option V)
inductive Res (α:Type) where
 | ok (a:α) (H:Hp)
 | exc (H:Hp)
noncomputable def bnd {α β:Type} (x:Option (Res α)) (f:α→Hp→Option (Res β)):Option (Res β) :=
 match x with
 | some (.ok a H)=>f a H
 | some (.exc H)=>some (.exc H)
 | .none=>.none
inductive RS where
 | next (l:Loc) (H:Hp)
 | cont (l:Loc) (H:Hp)
 | ret (v:V) (H:Hp)
 | exc (H:Hp)
mutual
noncomputable def V.pure:V→Bool
 | .tup l=>V.pures l
 | .lst l=>V.pures l
 | .ref _=>false
 | _=>true
noncomputable def V.pures:List V→Bool
 | []=>true
 | v :: l=>v.pure&&V.pures l
end
noncomputable def capL:Nat:=1048576
mutual
noncomputable def V.beq:V→V→Bool
 | .none,.none=>true
 | .bool a,.bool b=>a==b
 | .int a,.int b=>a==b
 | .str a,.str b=>a==b
 | .tup a,.tup b=>V.beqs a b
 | .lst a,.lst b=>V.beqs a b
 | .ref a,.ref b=>a==b
 | _,_=>false
noncomputable def V.beqs:List V→List V→Bool
 | [],[]=>true
 | a :: l,b :: m=>a.beq b&&V.beqs l m
 | _,_=>false
end
noncomputable def V.plain:Nat→V→Bool
 | _,.none=>true
 | _,.int _=>true
 | _,.str _=>true
 | n + 1,.tup l=>l.all (V.plain n)
 | n + 1,.lst l=>l.all (V.plain n)
 | _,_=>false
noncomputable def hget (H:Hp) (i:Nat):Option (List V) :=
 match H[i]? with
 | some (some l)=>some l
 | _=>.none
noncomputable def lstOf (H:Hp):V→Option (List V)
 | .lst l=>some l
 | .ref i=>hget H i
 | _=>.none
noncomputable def getAt {α:Type} (l:List α) (k:Int):Option α :=
 if 0≤k then l[k.toNat]? else if 0≤k + l.length then l[(k + l.length).toNat]? else .none
noncomputable def clampI (n:Nat) (k:Int):Nat:=if k < 0 then (k + n).toNat else min k.toNat n
noncomputable def bound (n d:Nat):V→Option Nat
 | .none=>some d
 | .int k=>if -capL≤k∧k≤capL then some (clampI n k) else .none
 | _=>.none
noncomputable def cut {α:Type} (l:List α) (lo hi:V):Option (List α) :=
 match bound l.length 0 lo,bound l.length l.length hi with
 | some a,some b=>some ((l.take b).drop a)
 | _,_=>.none
noncomputable def idxV (H:Hp):V→V→Option V
 | .str s,.int k=>if 0≤k then (s[k.toNat]?).map fun c=>V.str [c] else .none
 | .tup l,.int k=>if 0≤k then l[k.toNat]? else .none
 | .lst l,.int k=>getAt l k
 | .ref i,.int k=>(hget H i).bind fun l=>getAt l k
 | _,_=>.none
noncomputable def slV (v lo hi:V):Option V :=
 match v with
 | .str s=>(cut s lo hi).map V.str
 | .tup l=>(match lo,hi with
  | .int k,.none=>if 1≤k∧k.toNat≤l.length then some (.tup (l.drop k.toNat)) else .none
  | _,_=>.none)
 | .lst l=>(cut l lo hi).map V.lst
 | _=>.none
noncomputable def fitsI (i:Int):Bool:=decide (i.natAbs < 4611686018427387904)
noncomputable def binV (H:Hp) (o:Bop) (a b:V):Option V :=
 match o,a,b with
 | .add,.int x,.int y=>some (.int (x + y))
 | .sub,.int x,.int y=>some (.int (x - y))
 | .mul,.int x,.int y=>if fitsI x&&fitsI y then some (.int (x * y)) else .none
 | .fdiv,.int x,.int y=>if 0 < y∧y≤capL then some (.int (x.fdiv y)) else .none
 | .mod,.int x,.int y=>if y=0 then .none else some (.int (x.fmod y))
 | .add,.str x,.str y=>if x.length + y.length≤capL then some (.str (x++y)) else .none
 | .add,.tup x,.tup y=>if x.length + y.length≤capL then some (.tup (x++y)) else .none
 | .mul,.lst x,.int y=>if 0≤y∧y≤capL∧x.length * y.toNat≤capL then some (.lst (List.flatten (List.replicate y.toNat x))) else .none
 | .add,x,y =>
  match lstOf H x,lstOf H y with
  | some l,some m=>if l.length + m.length≤capL&&V.pures l&&V.pures m then some (.lst (l++m)) else .none
  | _,_=>.none
 | _,_,_=>.none
noncomputable def isPre:Txt→Txt→Bool
 | [],_=>true
 | _,[]=>false
 | a :: x,b :: y=>a==b&&isPre x y
noncomputable def isSub (a:Txt):Txt→Bool
 | []=>a.isEmpty
 | c :: t=>isPre a (c :: t)||isSub a t
noncomputable def cmpV (o:Cop) (a b:V):Option Bool :=
 match o,a,b with
 | .lt,.int x,.int y=>some (decide (x < y))
 | .le,.int x,.int y=>some (decide (x≤y))
 | .gt,.int x,.int y=>some (decide (y < x))
 | .ge,.int x,.int y=>some (decide (y≤x))
 | .isIn,.str x,.str y=>some (isSub x y)
 | .notIn,.str x,.str y=>some (!isSub x y)
 | .eq,x,y=>if x.plain 60&&y.plain 60 then some (x.beq y) else .none
 | .ne,x,y=>if x.plain 60&&y.plain 60 then some (!x.beq y) else .none
 | _,_,_=>.none
noncomputable def textOf (i:Int):Txt:=(toString i).toList.map Char.toNat
noncomputable def digVal (cs:Txt):Nat:=cs.foldl (fun a c=>a * 10 + (c - 48)) 0
noncomputable def isDigit (c:Nat):Bool:=48≤c&&c≤57
noncomputable def split1 (a:Nat):Txt→List Txt
 | []=>[[]]
 | c :: t=>if c=a then [] :: split1 a t else
  match split1 a t with
  | []=>[[c]]
  | w :: ws=>(c :: w) :: ws
noncomputable def joinT (j:Txt):List Txt→Txt
 | []=>[]
 | [w]=>w
 | w :: ws=>w++j++joinT j ws
noncomputable def textsOf:List V→Option (List Txt)
 | []=>some []
 | .str s :: l=>(textsOf l).map (s :: ·)
 | _ :: _=>.none
noncomputable def findT (a:Nat):Txt→Nat→Int
 | [],_=>-1
 | c :: t,i=>if c=a then (i:Int) else findT a t (i + 1)
noncomputable def lenV (H:Hp):V→Option Nat
 | .str s=>some s.length
 | .tup l=>some l.length
 | v=>(lstOf H v).map List.length
noncomputable def toIntV:V→Option Int
 | .str s=>if s≠[]∧s.length≤640∧s.all isDigit=true then some (digVal s) else .none
 | _=>.none
noncomputable def toStrV:V→Option Txt
 | .int i=>if i.natAbs < 10000000000 then some (textOf i) else .none
 | _=>.none
noncomputable def mayMut (b:Nat) (i:Nat) (v:V):Bool:=(b≤i)||v.pure
noncomputable def setAt (l:List V) (k:Int) (v:V):Option (List V) :=
 if 0≤k∧k.toNat < l.length then some (l.set k.toNat v) else .none
noncomputable def truth:V→Option Bool
 | .bool b=>some b
 | _=>.none
noncomputable def tell (x:Option V) (H:Hp):Option (Res V):=x.map fun v=>.ok v H
noncomputable def iterC (ev:Nat→Hp→Option (Res V)) (j:Nat):Nat→Nat→Hp→Option Hp
 | 0,_,H=>some H
 | n + 1,i,H =>
  match ev i H with
  | some (.ok v H') =>
   if v.pure then
    match hget H' j with
    | some l=>if l.length < capL then iterC ev j n (i + 1) (H'.set j (some (l++[v]))) else .none
    | .none=>.none
   else .none
  | _=>.none
mutual
noncomputable def evE (call:Nat→List V→Hp→Option (Res V)) (b:Nat) (loc:Loc):E→Hp→Option (Res V)
 | .none,H=>some (.ok .none H)
 | .bool c,H=>some (.ok (.bool c) H)
 | .int i,H=>some (.ok (.int i) H)
 | .str s,H=>some (.ok (.str s) H)
 | .loc x,H =>
  match loc[x]? with
  | some (some v)=>some (.ok v H)
  | _=>.none
 | .gint _ i,H=>some (.ok (.int i) H)
 | .gstr _ s,H=>some (.ok (.str s) H)
 | .bin o x y,H=>bnd (evE call b loc x H) fun v H=>bnd (evE call b loc y H) fun w H=>tell (binV H o v w) H
 | .million,H=>some (.ok (.int 1000000) H)
 | .neg x,H=>bnd (evE call b loc x H) fun v H=>match v with | .int i=>some (.ok (.int (-i)) H) | _=>.none
 | .not x,H=>bnd (evE call b loc x H) fun v H=>match v with | .bool c=>some (.ok (.bool (!c)) H) | _=>.none
 | .and x y,H=>bnd (evE call b loc x H) fun v H =>
  match v with
  | .bool true=>evE call b loc y H
  | .bool false=>some (.ok (.bool false) H)
  | _=>.none
 | .or x y,H=>bnd (evE call b loc x H) fun v H =>
  match v with
  | .bool true=>some (.ok (.bool true) H)
  | .bool false=>evE call b loc y H
  | _=>.none
 | .ife c x y,H=>bnd (evE call b loc c H) fun v H =>
  match v with
  | .bool true=>evE call b loc x H
  | .bool false=>evE call b loc y H
  | _=>.none
 | .cmp o x y,H=>bnd (evE call b loc x H) fun v H=>bnd (evE call b loc y H) fun w H=>tell ((cmpV o v w).map V.bool) H
 | .between x y z,H=>bnd (evE call b loc x H) fun u H=>bnd (evE call b loc y H) fun v H =>
  match u,v with
  | .int i,.int j =>
   if i < j then bnd (evE call b loc z H) fun w H=>match w with | .int k=>some (.ok (.bool (decide (j < k))) H) | _=>.none
   else some (.ok (.bool false) H)
  | _,_=>.none
 | .isNone x,H=>bnd (evE call b loc x H) fun v H=>some (.ok (.bool (match v with | .none=>true | _=>false)) H)
 | .notNone x,H=>bnd (evE call b loc x H) fun v H=>some (.ok (.bool (match v with | .none=>false | _=>true)) H)
 | .isNil x,H=>bnd (evE call b loc x H) fun v H=>tell ((lstOf H v).map fun l=>V.bool l.isEmpty) H
 | .notNil x,H=>bnd (evE call b loc x H) fun v H=>tell ((lstOf H v).map fun l=>V.bool (!l.isEmpty)) H
 | .inC x ws,H=>bnd (evE call b loc x H) fun v H=>match v with | .str s=>some (.ok (.bool (ws.contains s)) H) | _=>.none
 | .ninC x ws,H=>bnd (evE call b loc x H) fun v H=>match v with | .str s=>some (.ok (.bool (!ws.contains s)) H) | _=>.none
 | .call f es,H=>bnd (evEs call b loc es H) fun vs H=>call f vs H
 | .len x,H=>bnd (evE call b loc x H) fun v H=>tell ((lenV H v).map fun (n:Nat)=>V.int (n:Int)) H
 | .toStr x,H=>bnd (evE call b loc x H) fun v H=>tell ((toStrV v).map V.str) H
 | .toInt x,H=>bnd (evE call b loc x H) fun v H=>tell ((toIntV v).map V.int) H
 | .find x y,H=>bnd (evE call b loc x H) fun v H =>
  match v with
  | .str s=>bnd (evE call b loc y H) fun w H =>
   match w with
   | .str [c]=>some (.ok (.int (findT c s 0)) H)
   | _=>.none
  | _=>.none
 | .replace x c t,H=>bnd (evE call b loc x H) fun u H =>
  match u with
  | .str s=>if s.length≤100000∧t.length≤10∧t≠[c]∧(joinT t (split1 c s)).length≤capL then some (.ok (.str (joinT t (split1 c s))) H) else .none
  | _=>.none
 | .join x y,H=>bnd (evE call b loc x H) fun v H =>
  match v with
  | .str j=>bnd (evE call b loc y H) fun w H =>
   match (lstOf H w).bind textsOf with
   | some ws=>if j.length≤1000∧ws.length≤1000∧(∀ w∈ws,w.length≤10000)∧(joinT j ws).length≤capL then some (.ok (.str (joinT j ws)) H) else .none
   | .none=>.none
  | _=>.none
 | .split x y,H=>bnd (evE call b loc x H) fun v H =>
  match v with
  | .str s=>bnd (evE call b loc y H) fun w H =>
   match w with
   | .str [c]=>if s.length≤100000 then some (.ok (.lst ((split1 c s).map V.str)) H) else .none
   | _=>.none
  | _=>.none
 | .pop x,H=>bnd (evE call b loc x H) fun v H =>
  match v with
  | .ref i =>
   match hget H i with
   | some l=>if h:l≠[] then (if b≤i then some (.ok (l.getLast h) (H.set i (some l.dropLast))) else .none) else .none
   | .none=>.none
  | _=>.none
 | .seal x,H =>
  match loc[x]? with
  | some (some (.ref i)) =>
   match hget H i with
   | some l=>if V.pures l&&decide (b≤i) then some (.ok (.lst l) (H.set i .none)) else .none
   | .none=>.none
  | _=>.none
 | .idx x y,H=>bnd (evE call b loc x H) fun v H=>bnd (evE call b loc y H) fun w H=>tell (idxV H v w) H
 | .sl x y z,H=>bnd (evE call b loc x H) fun u H=>bnd (evE call b loc y H) fun v H=>bnd (evE call b loc z H) fun w H=>tell (slV u v w) H
 | .tup es,H=>bnd (evEs call b loc es H) fun vs H=>if vs.length≤capL then some (.ok (.tup vs) H) else .none
 | .lstF es,H=>bnd (evEs call b loc es H) fun vs H=>if V.pures vs&&decide (vs.length≤capL) then some (.ok (.lst vs) H) else .none
 | .lstM es,H=>bnd (evEs call b loc es H) fun vs H=>if vs.length≤capL then some (.ok (.ref H.length) (H++[some vs])) else .none
 | .comp e x n,H=>bnd (evE call b loc n H) fun v H =>
  match v with
  | .int k =>
   if 0≤k∧k≤capL then
    match iterC (fun i H=>evE call b (loc.set x (some (.int i))) e H) H.length k.toNat 0 (H++[some []]) with
    | some H' =>
     match hget H' H.length with
     | some l=>if V.pures l then some (.ok (.lst l) (H'.set H.length .none)) else .none
     | .none=>.none
    | .none=>.none
   else .none
  | _=>.none
noncomputable def evEs (call:Nat→List V→Hp→Option (Res V)) (b:Nat) (loc:Loc):Es→Hp→Option (Res (List V))
 | .nil,H=>some (.ok [] H)
 | .cons e es,H=>bnd (evE call b loc e H) fun v H=>bnd (evEs call b loc es H) fun vs H=>some (.ok (v :: vs) H)
end
noncomputable def setAll:List Nat→List V→Loc→Option Loc
 | [],[],l=>some l
 | x :: xs,v :: vs,l=>setAll xs vs (l.set x (some v))
 | _,_,_=>.none
noncomputable def bndS (x:Option (Res V)) (f:V→Hp→Option RS):Option RS :=
 match x with
 | some (.ok v H)=>f v H
 | some (.exc H)=>some (.exc H)
 | .none=>.none
noncomputable def whileL (c:Loc→Hp→Option (Res V)) (body:Loc→Hp→Option RS):Nat→Loc→Hp→Option RS
 | 0,_,_=>.none
 | n + 1,l,H=>bndS (c l H) fun v H =>
  match v with
  | .bool false=>some (.next l H)
  | .bool true =>
   match body l H with
   | some (.next l H)=>whileL c body n l H
   | some (.cont l H)=>whileL c body n l H
   | r=>r
  | _=>.none
noncomputable def forL (put:V→Loc→Option Loc) (body:Loc→Hp→Option RS):List V→Loc→Hp→Option RS
 | [],l,H=>some (.next l H)
 | v :: vs,l,H =>
  match put v l with
  | some l =>
   match body l H with
   | some (.next l H)=>forL put body vs l H
   | some (.cont l H)=>forL put body vs l H
   | r=>r
  | .none=>.none
noncomputable def put1 (x:Nat) (v:V) (l:Loc):Option Loc:=some (l.set x (some v))
noncomputable def pairs:List V→List V→List (V × V)
 | a :: l,c :: m=>(a,c) :: pairs l m
 | _,_=>[]
noncomputable def zip1 (x z t:Nat) (a c:V) (o:Loc):Option Loc :=
 match c with
 | .none=>some ((o.set x (some a)).set z (some c))
 | .int i =>
  match ((o.set x (some a)).set z (some c))[t]?,a with
  | some (some (.str s)),.str j=>if i.natAbs < 10000000000∧s.length + j.length + (textOf i).length≤capL then some (((o.set x (some a)).set z (some c)).set t (some (.str (s++j++textOf i)))) else .none
  | _,_=>.none
 | _=>.none
noncomputable def zipL (x z t:Nat):List (V × V)→Loc→Option Loc
 | [],o=>some o
 | p :: l,o =>
  match zip1 x z t p.1 p.2 o with
  | some o=>zipL x z t l o
  | .none=>.none
noncomputable def upto:Nat→Nat→List V
 | 0,_=>[]
 | n + 1,i=>.int i :: upto n (i + 1)
mutual
noncomputable def evS (call:Nat→List V→Hp→Option (Res V)) (N b:Nat):S→Loc→Hp→Option RS
 | .assign x e,l,H=>bndS (evE call b l e H) fun v H=>some (.next (l.set x (some v)) H)
 | .assignC x e y n,l,H=>bndS (evE call b l (.comp e y n) H) fun v H=>some (.next (l.set x (some v)) H)
 | .unpack xs e,l,H=>bndS (evE call b l e H) fun v H =>
  match v with
  | .tup vs=>(setAll xs vs l).map fun l=>.next l H
  | _=>.none
 | .setIdx a i e,l,H=>bndS (evE call b l e H) fun v H=>bndS (evE call b l a H) fun r H=>bndS (evE call b l i H) fun k H =>
  match r,k with
  | .ref j,.int k =>
   match hget H j with
   | some xs=>if mayMut b j v then (setAt xs k v).map fun xs=>.next l (H.set j (some xs)) else .none
   | .none=>.none
  | _,_=>.none
 | .aug x e,l,H =>
  match l[x]? with
  | some (some u)=>bndS (evE call b l e H) fun v H =>
   match u,v with
   | .int i,.int j=>some (.next (l.set x (some (.int (i + j)))) H)
   | .str s,.str t=>if s.length + t.length≤capL then some (.next (l.set x (some (.str (s++t)))) H) else .none
   | _,_=>.none
  | _=>.none
 | .append a e,l,H=>bndS (evE call b l a H) fun r H =>
  match r with
  | .ref j=>bndS (evE call b l e H) fun v H =>
   match hget H j with
   | some xs=>if mayMut b j v&&decide (xs.length < capL) then some (.next l (H.set j (some (xs++[v])))) else .none
   | .none=>.none
  | _=>.none
 | .ite c x y,l,H=>bndS (evE call b l c H) fun v H =>
  match v with
  | .bool true=>evSs call N b x l H
  | .bool false=>evSs call N b y l H
  | _=>.none
 | .while c x,l,H=>whileL (fun l H=>evE call b l c H) (fun l H=>evSs call N b x l H) N l H
 | .forE x e y,l,H=>bndS (evE call b l e H) fun v H =>
  match v with
  | .lst vs=>forL (put1 x) (fun l H=>evSs call N b y l H) vs l H
  | .str s=>forL (put1 x) (fun l H=>evSs call N b y l H) (s.map fun c=>V.str [c]) l H
  | _=>.none
 | .forR x e y,l,H=>bndS (evE call b l e H) fun v H =>
  match v with
  | .int k=>if 0≤k∧k≤capL then forL (put1 x) (fun l H=>evSs call N b y l H) (upto k.toNat 0) l H else .none
  | _=>.none
 | .zipStr x z t e f,l,H=>bndS (evE call b l e H) fun v H=>bndS (evE call b l f H) fun w H =>
  match v,w with
  | .lst vs,.tup ws=>(zipL x z t (pairs vs ws) l).map fun l=>.next l H
  | _,_=>.none
 | .ret e,l,H=>bndS (evE call b l e H) fun v H=>some (.ret v H)
 | .raise a,l,H=>bndS (evE call b l a H) fun v H =>
  match v with
  | .int _=>some (.exc H)
  | _=>.none
 | .tryRet e,l,H =>
  match evE call b l e H with
  | some (.ok v H)=>some (.ret v H)
  | some (.exc H)=>some (.ret .none H)
  | .none=>.none
 | .cont,l,H=>some (.cont l H)
noncomputable def evSs (call:Nat→List V→Hp→Option (Res V)) (N b:Nat):Ss→Loc→Hp→Option RS
 | .nil,l,H=>some (.next l H)
 | .cons x y,l,H =>
  match evS call N b x l H with
  | some (.next l H)=>evSs call N b y l H
  | r=>r
end
noncomputable def runF (call:Nat→List V→Hp→Option (Res V)) (N:Nat) (fn:Fn) (args:List V) (H:Hp):Option (Res V) :=
 if args.length=fn.params then
  match evSs call N H.length fn.body (args.map some++List.replicate (fn.vars.length - fn.params) none) H with
  | some (.ret v H')=>if v.pure then some (.ok v (H'.take H.length)) else .none
  | some (.exc H')=>some (.exc (H'.take H.length))
  | _=>.none
 else .none
noncomputable def callF (prog:Nat→Option Fn) (N:Nat):Nat→Nat→List V→Hp→Option (Res V)
 | 0,_,_,_=>.none
 | n + 1,f,args,H =>
  match prog f with
  | some fn=>runF (callF prog N n) N fn args H
  | .none=>.none
end Mine
end
section
namespace Mine
noncomputable def F_pass_blanks:Fn:=⟨[112,97,115,115,95,98,108,97,110,107,115],2,[[116,101,120,116],[97,116]],
  (.cons (.while (.and (.cmp .lt (.loc 1) (.len (.loc 0))) (.cmp .eq (.idx (.loc 0) (.loc 1)) (.str [32]))) (.cons (.aug 1 (.int 1))
  .nil))
  (.cons (.ret (.loc 1))
  .nil))⟩
noncomputable def F_number_at:Fn:=⟨[110,117,109,98,101,114,95,97,116],2,[[116,101,120,116],[97,116],[104,101,114,101],[118,97,108,117,101]],
  (.cons (.assign 2 (.call 0 (.cons (.loc 0) (.cons (.loc 1) .nil))))
  (.cons (.assign 3 .none)
  (.cons (.while (.and (.cmp .lt (.loc 2) (.len (.loc 0))) (.cmp .isIn (.idx (.loc 0) (.loc 2)) (.gstr [68,73,71,73,84,83] [48,49,50,51,52,53,54,55,56,57]))) (.cons (.ite (.isNone (.loc 3)) (.cons (.assign 3 (.int 0))
  .nil) .nil)
  (.cons (.assign 3 (.bin .add (.bin .mul (.int 10) (.loc 3)) (.find (.gstr [68,73,71,73,84,83] [48,49,50,51,52,53,54,55,56,57]) (.idx (.loc 0) (.loc 2)))))
  (.cons (.ite (.cmp .gt (.loc 3) (.gint [77,79,83,84,95,78,85,77,66,69,82] 9999)) (.cons (.raise (.loc 2))
  .nil) .nil)
  (.cons (.assign 2 (.call 0 (.cons (.loc 0) (.cons (.bin .add (.loc 2) (.int 1)) .nil))))
  .nil)))))
  (.cons (.ret (.tup (.cons (.loc 3) (.cons (.loc 2) .nil))))
  .nil))))⟩
noncomputable def F_size_at:Fn:=⟨[115,105,122,101,95,97,116],3,[[116,101,120,116],[97,116],[108,101,97,115,116],[118,97,108,117,101],[104,101,114,101]],
  (.cons (.unpack [3,4] (.call 1 (.cons (.loc 0) (.cons (.loc 1) .nil))))
  (.cons (.ite (.or (.isNone (.loc 3)) (.cmp .lt (.loc 3) (.loc 2))) (.cons (.raise (.loc 4))
  .nil) .nil)
  (.cons (.ret (.tup (.cons (.loc 3) (.cons (.loc 4) .nil))))
  .nil)))⟩
noncomputable def F_is_at:Fn:=⟨[105,115,95,97,116],3,[[116,101,120,116],[97,116],[115,105,103,110]],
  (.cons (.ret (.cmp .eq (.sl (.loc 0) (.loc 1) (.bin .add (.loc 1) (.int 1))) (.loc 2)))
  .nil)⟩
noncomputable def F_places_at:Fn:=⟨[112,108,97,99,101,115,95,97,116],2,[[116,101,120,116],[97,116]],
  (.cons (.ite (.not (.call 3 (.cons (.loc 0) (.cons (.loc 1) (.cons (.str [46]) .nil))))) (.cons (.raise (.loc 1))
  .nil) .nil)
  (.cons (.ret (.call 2 (.cons (.loc 0) (.cons (.bin .add (.loc 1) (.int 1)) (.cons (.int 0) .nil)))))
  .nil))⟩
noncomputable def F_exponent_at:Fn:=⟨[101,120,112,111,110,101,110,116,95,97,116],2,[[116,101,120,116],[97,116]],
  (.cons (.ite (.not (.call 3 (.cons (.loc 0) (.cons (.loc 1) (.cons (.str [69]) .nil))))) (.cons (.ret (.tup (.cons .none (.cons (.loc 1) .nil))))
  .nil) .nil)
  (.cons (.ret (.call 2 (.cons (.loc 0) (.cons (.bin .add (.loc 1) (.int 1)) (.cons (.int 1) .nil)))))
  .nil))⟩
noncomputable def F_whole_edit:Fn:=⟨[119,104,111,108,101,95,101,100,105,116],2,[[116,101,120,116],[97,116],[119,105,100,116,104],[104,101,114,101],[100,105,103,105,116,115]],
  (.cons (.unpack [2,3] (.call 2 (.cons (.loc 0) (.cons (.loc 1) (.cons (.int 1) .nil)))))
  (.cons (.ite (.not (.call 3 (.cons (.loc 0) (.cons (.loc 3) (.cons (.str [46]) .nil))))) (.cons (.ret (.tup (.cons (.tup (.cons (.str [73]) (.cons (.loc 2) (.cons .none .nil)))) (.cons (.loc 3) .nil))))
  .nil) .nil)
  (.cons (.unpack [4,3] (.call 2 (.cons (.loc 0) (.cons (.bin .add (.loc 3) (.int 1)) (.cons (.int 0) .nil)))))
  (.cons (.ite (.cmp .gt (.loc 4) (.loc 2)) (.cons (.raise (.loc 3))
  .nil) .nil)
  (.cons (.ret (.tup (.cons (.tup (.cons (.str [73]) (.cons (.loc 2) (.cons (.loc 4) .nil)))) (.cons (.loc 3) .nil))))
  .nil)))))⟩
noncomputable def F_real_edit:Fn:=⟨[114,101,97,108,95,101,100,105,116],3,[[108,101,116,116,101,114],[116,101,120,116],[97,116],[119,105,100,116,104],[104,101,114,101],[100,105,103,105,116,115],[101,120,112,111,110,101,110,116]],
  (.cons (.unpack [3,4] (.call 2 (.cons (.loc 1) (.cons (.loc 2) (.cons (.int 1) .nil)))))
  (.cons (.unpack [5,4] (.call 4 (.cons (.loc 1) (.cons (.loc 4) .nil))))
  (.cons (.ite (.or (.cmp .eq (.loc 0) (.str [70])) (.cmp .eq (.loc 0) (.str [68]))) (.cons (.ret (.tup (.cons (.tup (.cons (.loc 0) (.cons (.loc 3) (.cons (.loc 5) .nil)))) (.cons (.loc 4) .nil))))
  .nil) .nil)
  (.cons (.unpack [6,4] (.call 5 (.cons (.loc 1) (.cons (.loc 4) .nil))))
  (.cons (.ret (.tup (.cons (.tup (.cons (.loc 0) (.cons (.loc 3) (.cons (.loc 5) (.cons (.loc 6) .nil))))) (.cons (.loc 4) .nil))))
  .nil)))))⟩
noncomputable def F_value_edit:Fn:=⟨[118,97,108,117,101,95,101,100,105,116],2,[[116,101,120,116],[97,116],[108,101,116,116,101,114],[119,105,100,116,104],[104,101,114,101]],
  (.cons (.assign 2 (.idx (.loc 0) (.loc 1)))
  (.cons (.ite (.cmp .eq (.loc 2) (.str [73])) (.cons (.ret (.call 6 (.cons (.loc 0) (.cons (.bin .add (.loc 1) (.int 1)) .nil))))
  .nil) .nil)
  (.cons (.ite (.cmp .eq (.loc 2) (.str [76])) (.cons (.unpack [3,4] (.call 2 (.cons (.loc 0) (.cons (.bin .add (.loc 1) (.int 1)) (.cons (.int 1) .nil)))))
  (.cons (.ret (.tup (.cons (.tup (.cons (.str [76]) (.cons (.loc 3) .nil))) (.cons (.loc 4) .nil))))
  .nil)) .nil)
  (.cons (.ite (.cmp .eq (.loc 2) (.str [65])) (.cons (.unpack [3,4] (.call 1 (.cons (.loc 0) (.cons (.bin .add (.loc 1) (.int 1)) .nil))))
  (.cons (.ite (.cmp .eq (.loc 3) (.int 0)) (.cons (.raise (.loc 4))
  .nil) .nil)
  (.cons (.ret (.tup (.cons (.tup (.cons (.str [65]) (.cons (.loc 3) .nil))) (.cons (.loc 4) .nil))))
  .nil))) .nil)
  (.cons (.ret (.call 7 (.cons (.loc 2) (.cons (.loc 0) (.cons (.bin .add (.loc 1) (.int 1)) .nil)))))
  .nil)))))⟩
noncomputable def F_quoted_at:Fn:=⟨[113,117,111,116,101,100,95,97,116],2,[[116,101,120,116],[97,116],[111,117,116],[104,101,114,101]],
  (.cons (.assign 2 (.str []))
  (.cons (.assign 3 (.bin .add (.loc 1) (.int 1)))
  (.cons (.while (.cmp .lt (.loc 3) (.len (.loc 0))) (.cons (.ite (.cmp .ne (.idx (.loc 0) (.loc 3)) (.str [39])) (.cons (.aug 2 (.idx (.loc 0) (.loc 3)))
  (.cons (.aug 3 (.int 1))
  .nil)) (.cons (.ite (.call 3 (.cons (.loc 0) (.cons (.bin .add (.loc 3) (.int 1)) (.cons (.str [39]) .nil)))) (.cons (.aug 2 (.str [39]))
  (.cons (.aug 3 (.int 2))
  .nil)) (.cons (.ite (.cmp .eq (.loc 2) (.str [])) (.cons (.raise (.loc 1))
  .nil) .nil)
  (.cons (.ret (.tup (.cons (.tup (.cons (.str [72]) (.cons (.loc 2) .nil))) (.cons (.bin .add (.loc 3) (.int 1)) .nil))))
  .nil)))
  .nil))
  .nil))
  (.cons (.raise (.loc 1))
  .nil))))⟩
noncomputable def F_counted_text:Fn:=⟨[99,111,117,110,116,101,100,95,116,101,120,116],3,[[116,101,120,116],[97,116],[99,111,117,110,116]],
  (.cons (.ite (.cmp .gt (.bin .add (.loc 1) (.loc 2)) (.len (.loc 0))) (.cons (.raise (.loc 1))
  .nil) .nil)
  (.cons (.ret (.tup (.cons (.tup (.cons (.str [72]) (.cons (.sl (.loc 0) (.loc 1) (.bin .add (.loc 1) (.loc 2))) .nil))) (.cons (.bin .add (.loc 1) (.loc 2)) .nil))))
  .nil))⟩
noncomputable def F_scale_at:Fn:=⟨[115,99,97,108,101,95,97,116],2,[[116,101,120,116],[97,116],[118,97,108,117,101],[104,101,114,101]],
  (.cons (.unpack [2,3] (.call 2 (.cons (.loc 0) (.cons (.bin .add (.loc 1) (.int 1)) (.cons (.int 0) .nil)))))
  (.cons (.ite (.not (.call 3 (.cons (.loc 0) (.cons (.loc 3) (.cons (.str [80]) .nil))))) (.cons (.raise (.loc 3))
  .nil) .nil)
  (.cons (.ite (.cmp .eq (.idx (.loc 0) (.loc 1)) (.str [45])) (.cons (.assign 2 (.neg (.loc 2)))
  .nil) .nil)
  (.cons (.ret (.tup (.cons (.tup (.cons (.str [80]) (.cons (.loc 2) .nil))) (.cons (.bin .add (.loc 3) (.int 1)) .nil))))
  .nil))))⟩
noncomputable def F_control_at:Fn:=⟨[99,111,110,116,114,111,108,95,97,116],2,[[116,101,120,116],[97,116],[108,101,116,116,101,114],[104,101,114,101],[119,111,114,100],[99,111,117,110,116]],
  (.cons (.assign 2 (.idx (.loc 0) (.loc 1)))
  (.cons (.ite (.or (.cmp .eq (.loc 2) (.str [47])) (.cmp .eq (.loc 2) (.str [58]))) (.cons (.ret (.tup (.cons (.tup (.cons (.loc 2) .nil)) (.cons (.bin .add (.loc 1) (.int 1)) .nil))))
  .nil) .nil)
  (.cons (.assign 3 (.call 0 (.cons (.loc 0) (.cons (.bin .add (.loc 1) (.int 1)) .nil))))
  (.cons (.ite (.cmp .eq (.loc 2) (.str [83])) (.cons (.ite (.or (.call 3 (.cons (.loc 0) (.cons (.loc 3) (.cons (.str [80]) .nil)))) (.call 3 (.cons (.loc 0) (.cons (.loc 3) (.cons (.str [83]) .nil))))) (.cons (.ret (.tup (.cons (.tup (.cons (.bin .add (.str [83]) (.idx (.loc 0) (.loc 3))) .nil)) (.cons (.bin .add (.loc 3) (.int 1)) .nil))))
  .nil) .nil)
  (.cons (.ret (.tup (.cons (.tup (.cons (.str [83]) .nil)) (.cons (.loc 3) .nil))))
  .nil)) .nil)
  (.cons (.ite (.and (.cmp .eq (.loc 2) (.str [66])) (.or (.call 3 (.cons (.loc 0) (.cons (.loc 3) (.cons (.str [78]) .nil)))) (.call 3 (.cons (.loc 0) (.cons (.loc 3) (.cons (.str [90]) .nil)))))) (.cons (.ret (.tup (.cons (.tup (.cons (.bin .add (.str [66]) (.idx (.loc 0) (.loc 3))) .nil)) (.cons (.bin .add (.loc 3) (.int 1)) .nil))))
  .nil) .nil)
  (.cons (.ite (.cmp .eq (.loc 2) (.str [84])) (.cons (.assign 4 (.str [84]))
  (.cons (.ite (.or (.call 3 (.cons (.loc 0) (.cons (.loc 3) (.cons (.str [76]) .nil)))) (.call 3 (.cons (.loc 0) (.cons (.loc 3) (.cons (.str [82]) .nil))))) (.cons (.assign 4 (.bin .add (.str [84]) (.idx (.loc 0) (.loc 3))))
  (.cons (.aug 3 (.int 1))
  .nil)) .nil)
  (.cons (.unpack [5,3] (.call 2 (.cons (.loc 0) (.cons (.loc 3) (.cons (.int 1) .nil)))))
  (.cons (.ret (.tup (.cons (.tup (.cons (.loc 4) (.cons (.loc 5) .nil))) (.cons (.loc 3) .nil))))
  .nil)))) .nil)
  (.cons (.raise (.loc 1))
  .nil)))))))⟩
noncomputable def F_group_at:Fn:=⟨[103,114,111,117,112,95,97,116],4,[[116,101,120,116],[97,116],[99,111,117,110,116],[100,101,112,116,104],[105,116,101,109,115],[104,101,114,101]],
  (.cons (.ite (.cmp .eq (.loc 3) (.gint [77,79,83,84,95,68,69,80,84,72] 10)) (.cons (.raise (.loc 1))
  .nil) .nil)
  (.cons (.unpack [4,5] (.call 17 (.cons (.loc 0) (.cons (.bin .add (.loc 1) (.int 1)) (.cons (.bin .add (.loc 3) (.int 1)) .nil)))))
  (.cons (.ite (.isNil (.loc 4)) (.cons (.raise (.loc 5))
  .nil) .nil)
  (.cons (.ret (.tup (.cons (.tup (.cons (.str [103,114,111,117,112]) (.cons (.loc 2) (.cons (.loc 4) .nil)))) (.cons (.bin .add (.loc 5) (.int 1)) .nil))))
  .nil))))⟩
noncomputable def F_counted_at:Fn:=⟨[99,111,117,110,116,101,100,95,97,116],3,[[116,101,120,116],[97,116],[100,101,112,116,104],[99,111,117,110,116],[104,101,114,101],[108,101,116,116,101,114],[105,116,101,109],[98,101,104,105,110,100]],
  (.cons (.unpack [3,4] (.call 1 (.cons (.loc 0) (.cons (.loc 1) .nil))))
  (.cons (.assign 5 (.sl (.loc 0) (.loc 4) (.bin .add (.loc 4) (.int 1))))
  (.cons (.ite (.cmp .eq (.loc 5) (.str [80])) (.cons (.ret (.tup (.cons (.tup (.cons (.str [80]) (.cons (.loc 3) .nil))) (.cons (.bin .add (.loc 4) (.int 1)) .nil))))
  .nil) .nil)
  (.cons (.ite (.cmp .eq (.loc 3) (.int 0)) (.cons (.raise (.loc 1))
  .nil) .nil)
  (.cons (.ite (.cmp .eq (.loc 5) (.str [88])) (.cons (.ret (.tup (.cons (.tup (.cons (.str [88]) (.cons (.loc 3) .nil))) (.cons (.bin .add (.loc 4) (.int 1)) .nil))))
  .nil) .nil)
  (.cons (.ite (.cmp .eq (.loc 5) (.str [72])) (.cons (.ret (.call 10 (.cons (.loc 0) (.cons (.bin .add (.loc 4) (.int 1)) (.cons (.loc 3) .nil)))))
  .nil) .nil)
  (.cons (.ite (.cmp .eq (.loc 5) (.str [40])) (.cons (.ret (.call 13 (.cons (.loc 0) (.cons (.loc 4) (.cons (.loc 3) (.cons (.loc 2) .nil))))))
  .nil) .nil)
  (.cons (.ite (.or (.cmp .eq (.loc 5) (.str [])) (.cmp .notIn (.loc 5) (.str [73,70,69,68,71,76,65]))) (.cons (.raise (.loc 4))
  .nil) .nil)
  (.cons (.unpack [6,7] (.call 8 (.cons (.loc 0) (.cons (.loc 4) .nil))))
  (.cons (.ite (.cmp .gt (.loc 3) (.int 1)) (.cons (.assign 6 (.tup (.cons (.str [114,101,112,101,97,116]) (.cons (.loc 3) (.cons (.loc 6) .nil)))))
  .nil) .nil)
  (.cons (.ret (.tup (.cons (.loc 6) (.cons (.loc 7) .nil))))
  .nil)))))))))))⟩
noncomputable def F_item_at:Fn:=⟨[105,116,101,109,95,97,116],3,[[116,101,120,116],[97,116],[100,101,112,116,104],[115,105,103,110]],
  (.cons (.assign 3 (.idx (.loc 0) (.loc 1)))
  (.cons (.ite (.cmp .isIn (.loc 3) (.gstr [68,73,71,73,84,83] [48,49,50,51,52,53,54,55,56,57])) (.cons (.ret (.call 14 (.cons (.loc 0) (.cons (.loc 1) (.cons (.loc 2) .nil)))))
  .nil) .nil)
  (.cons (.ite (.cmp .eq (.loc 3) (.str [39])) (.cons (.ret (.call 9 (.cons (.loc 0) (.cons (.loc 1) .nil))))
  .nil) .nil)
  (.cons (.ite (.or (.cmp .eq (.loc 3) (.str [43])) (.cmp .eq (.loc 3) (.str [45]))) (.cons (.ret (.call 11 (.cons (.loc 0) (.cons (.loc 1) .nil))))
  .nil) .nil)
  (.cons (.ite (.cmp .eq (.loc 3) (.str [40])) (.cons (.ret (.call 13 (.cons (.loc 0) (.cons (.loc 1) (.cons (.int 1) (.cons (.loc 2) .nil))))))
  .nil) .nil)
  (.cons (.ite (.cmp .isIn (.loc 3) (.str [73,70,69,68,71,76,65])) (.cons (.ret (.call 8 (.cons (.loc 0) (.cons (.loc 1) .nil))))
  .nil) .nil)
  (.cons (.ret (.call 12 (.cons (.loc 0) (.cons (.loc 1) .nil))))
  .nil)))))))⟩
noncomputable def F_may_join:Fn:=⟨[109,97,121,95,106,111,105,110],2,[[108,97,115,116],[105,116,101,109]],
  (.cons (.ite (.or (.cmp .isIn (.idx (.loc 0) (.int 0)) (.str [47,58])) (.cmp .isIn (.idx (.loc 1) (.int 0)) (.str [47,58]))) (.cons (.ret (.bool true))
  .nil) .nil)
  (.cons (.ite (.cmp .eq (.idx (.loc 1) (.int 0)) (.str [114,101,112,101,97,116])) (.cons (.assign 1 (.idx (.loc 1) (.int 2)))
  .nil) .nil)
  (.cons (.ret (.and (.cmp .eq (.idx (.loc 0) (.int 0)) (.str [80])) (.cmp .isIn (.idx (.loc 1) (.int 0)) (.str [70,69,68,71]))))
  .nil)))⟩
noncomputable def F_items_at:Fn:=⟨[105,116,101,109,115,95,97,116],3,[[116,101,120,116],[97,116],[100,101,112,116,104],[105,116,101,109,115],[105,115,95,97,102,116,101,114,95,99,111,109,109,97],[104,101,114,101],[115,105,103,110],[105,116,101,109]],
  (.cons (.assign 3 (.lstM .nil))
  (.cons (.assign 4 (.bool false))
  (.cons (.while (.bool true) (.cons (.assign 5 (.call 0 (.cons (.loc 0) (.cons (.loc 1) .nil))))
  (.cons (.assign 6 (.sl (.loc 0) (.loc 5) (.bin .add (.loc 5) (.int 1))))
  (.cons (.ite (.cmp .eq (.loc 6) (.str [])) (.cons (.raise (.loc 5))
  .nil) .nil)
  (.cons (.ite (.or (.cmp .eq (.loc 6) (.str [44])) (.cmp .eq (.loc 6) (.str [41]))) (.cons (.ite (.or (.loc 4) (.and (.cmp .eq (.loc 6) (.str [44])) (.isNil (.loc 3)))) (.cons (.raise (.loc 5))
  .nil) .nil)
  (.cons (.ite (.cmp .eq (.loc 6) (.str [41])) (.cons (.ret (.tup (.cons (.seal 3) (.cons (.loc 5) .nil))))
  .nil) .nil)
  (.cons (.assign 4 (.bool true))
  (.cons (.assign 1 (.bin .add (.loc 5) (.int 1)))
  .nil)))) (.cons (.unpack [7,1] (.call 15 (.cons (.loc 0) (.cons (.loc 5) (.cons (.loc 2) .nil)))))
  (.cons (.ite (.and (.notNil (.loc 3)) (.and (.not (.loc 4)) (.not (.call 16 (.cons (.idx (.loc 3) (.neg (.int 1))) (.cons (.loc 7) .nil)))))) (.cons (.raise (.loc 5))
  .nil) .nil)
  (.cons (.append (.loc 3) (.loc 7))
  (.cons (.assign 4 (.bool false))
  .nil)))))
  .nil)))))
  .nil)))⟩
noncomputable def F_format_prefix:Fn:=⟨[102,111,114,109,97,116,95,112,114,101,102,105,120],1,[[116,101,120,116],[104,101,114,101],[105,116,101,109,115]],
  (.cons (.assign 1 (.call 0 (.cons (.loc 0) (.cons (.int 0) .nil))))
  (.cons (.ite (.not (.call 3 (.cons (.loc 0) (.cons (.loc 1) (.cons (.str [40]) .nil))))) (.cons (.raise (.loc 1))
  .nil) .nil)
  (.cons (.unpack [2,1] (.call 17 (.cons (.loc 0) (.cons (.bin .add (.loc 1) (.int 1)) (.cons (.int 0) .nil)))))
  (.cons (.ret (.tup (.cons (.loc 2) (.cons (.bin .add (.loc 1) (.int 1)) .nil))))
  .nil))))⟩
noncomputable def F_parse_format:Fn:=⟨[112,97,114,115,101,95,102,111,114,109,97,116],1,[[116,101,120,116],[105,116,101,109,115],[104,101,114,101]],
  (.cons (.unpack [1,2] (.call 18 (.cons (.loc 0) .nil)))
  (.cons (.assign 2 (.call 0 (.cons (.loc 0) (.cons (.loc 2) .nil))))
  (.cons (.ite (.cmp .lt (.loc 2) (.len (.loc 0))) (.cons (.raise (.loc 2))
  .nil) .nil)
  (.cons (.ret (.loc 1))
  .nil))))⟩
noncomputable def F_write_tail:Fn:=⟨[119,114,105,116,101,95,116,97,105,108],1,[[105,116,101,109],[116,101,120,116]],
  (.cons (.assign 1 (.str []))
  (.cons (.ite (.notNone (.idx (.loc 0) (.int 1))) (.cons (.assign 1 (.toStr (.idx (.loc 0) (.int 1))))
  .nil) .nil)
  (.cons (.ite (.and (.cmp .gt (.len (.loc 0)) (.int 2)) (.notNone (.idx (.loc 0) (.int 2)))) (.cons (.assign 1 (.bin .add (.bin .add (.loc 1) (.str [46])) (.toStr (.idx (.loc 0) (.int 2)))))
  .nil) .nil)
  (.cons (.ite (.and (.cmp .gt (.len (.loc 0)) (.int 3)) (.notNone (.idx (.loc 0) (.int 3)))) (.cons (.assign 1 (.bin .add (.bin .add (.loc 1) (.str [69])) (.toStr (.idx (.loc 0) (.int 3)))))
  .nil) .nil)
  (.cons (.ret (.loc 1))
  .nil)))))⟩
noncomputable def F_write_item:Fn:=⟨[119,114,105,116,101,95,105,116,101,109],1,[[105,116,101,109],[119,111,114,100],[99,111,117,110,116]],
  (.cons (.assign 1 (.idx (.loc 0) (.int 0)))
  (.cons (.ite (.cmp .eq (.loc 1) (.str [103,114,111,117,112])) (.cons (.assign 2 (.str []))
  (.cons (.ite (.cmp .gt (.idx (.loc 0) (.int 1)) (.int 1)) (.cons (.assign 2 (.toStr (.idx (.loc 0) (.int 1))))
  .nil) .nil)
  (.cons (.ret (.bin .add (.loc 2) (.call 22 (.cons (.idx (.loc 0) (.int 2)) .nil))))
  .nil))) .nil)
  (.cons (.ite (.cmp .eq (.loc 1) (.str [114,101,112,101,97,116])) (.cons (.ret (.bin .add (.toStr (.idx (.loc 0) (.int 1))) (.call 21 (.cons (.idx (.loc 0) (.int 2)) .nil))))
  .nil) .nil)
  (.cons (.ite (.cmp .eq (.loc 1) (.str [72])) (.cons (.ret (.bin .add (.bin .add (.str [39]) (.replace (.idx (.loc 0) (.int 1)) 39 [39,39])) (.str [39])))
  .nil) .nil)
  (.cons (.ite (.or (.cmp .eq (.loc 1) (.str [88])) (.cmp .eq (.loc 1) (.str [80]))) (.cons (.ret (.bin .add (.toStr (.idx (.loc 0) (.int 1))) (.loc 1)))
  .nil) .nil)
  (.cons (.ite (.inC (.loc 1) [[84],[84,76],[84,82]]) (.cons (.ret (.bin .add (.loc 1) (.toStr (.idx (.loc 0) (.int 1)))))
  .nil) .nil)
  (.cons (.ite (.cmp .eq (.len (.loc 0)) (.int 1)) (.cons (.ret (.loc 1))
  .nil) .nil)
  (.cons (.ret (.bin .add (.loc 1) (.call 20 (.cons (.loc 0) .nil))))
  .nil))))))))⟩
noncomputable def F_write_format:Fn:=⟨[119,114,105,116,101,95,102,111,114,109,97,116],1,[[105,116,101,109,115],[112,97,114,116,115],[105,116,101,109]],
  (.cons (.assign 1 (.lstM .nil))
  (.cons (.forE 2 (.loc 0) (.cons (.append (.loc 1) (.call 21 (.cons (.loc 2) .nil)))
  .nil))
  (.cons (.ret (.bin .add (.bin .add (.str [40]) (.join (.str [44]) (.loc 1))) (.str [41])))
  .nil)))⟩
noncomputable def F_law_draw:Fn:=⟨[95,108,97,119,95,100,114,97,119],2,[[112,101,110],[109,97,110,121],[97,116]],
  (.cons (.assign 2 (.idx (.loc 0) (.int 1)))
  (.cons (.setIdx (.loc 0) (.int 1) (.bin .add (.loc 2) (.int 1)))
  (.cons (.ite (.cmp .lt (.loc 2) (.len (.idx (.loc 0) (.int 0)))) (.cons (.ret (.bin .mod (.idx (.idx (.loc 0) (.int 0)) (.loc 2)) (.loc 1)))
  .nil) .nil)
  (.cons (.ret (.bin .mod (.bin .add (.bin .mul (.bin .mul (.int 7) (.loc 2)) (.loc 2)) (.int 3)) (.loc 1)))
  .nil))))⟩
noncomputable def F_law_value:Fn:=⟨[95,108,97,119,95,118,97,108,117,101],1,[[112,101,110],[108,101,116,116,101,114],[119,105,100,116,104],[100,105,103,105,116,115],[109,111,114,101]],
  (.cons (.assign 1 (.idx (.str [73,70,69,68,71,76,65]) (.call 23 (.cons (.loc 0) (.cons (.int 7) .nil)))))
  (.cons (.assign 2 (.bin .add (.int 1) (.call 23 (.cons (.loc 0) (.cons (.int 12) .nil)))))
  (.cons (.assign 3 (.call 23 (.cons (.loc 0) (.cons (.int 9) .nil))))
  (.cons (.assign 4 (.call 23 (.cons (.loc 0) (.cons (.int 3) .nil))))
  (.cons (.ite (.cmp .eq (.loc 1) (.str [73])) (.cons (.ret (.tup (.cons (.str [73]) (.cons (.loc 2) (.cons (.ife (.cmp .eq (.loc 4) (.int 0)) .none (.bin .mod (.loc 3) (.bin .add (.loc 2) (.int 1)))) .nil)))))
  .nil) .nil)
  (.cons (.ite (.cmp .eq (.loc 1) (.str [76])) (.cons (.ret (.tup (.cons (.str [76]) (.cons (.loc 2) .nil))))
  .nil) .nil)
  (.cons (.ite (.cmp .eq (.loc 1) (.str [65])) (.cons (.ret (.tup (.cons (.str [65]) (.cons (.ife (.cmp .eq (.loc 4) (.int 0)) .none (.loc 2)) .nil))))
  .nil) .nil)
  (.cons (.ite (.cmp .isIn (.loc 1) (.str [70,68])) (.cons (.ret (.tup (.cons (.loc 1) (.cons (.loc 2) (.cons (.loc 3) .nil)))))
  .nil) .nil)
  (.cons (.ret (.tup (.cons (.loc 1) (.cons (.loc 2) (.cons (.loc 3) (.cons (.ife (.cmp .eq (.loc 4) (.int 0)) .none (.loc 4)) .nil))))))
  .nil)))))))))⟩
noncomputable def F_law_item:Fn:=⟨[95,108,97,119,95,105,116,101,109],2,[[112,101,110],[100,101,101,112],[119,97,121],[99,111,117,110,116],[116,117,114,110]],
  (.cons (.assign 2 (.call 23 (.cons (.loc 0) (.cons (.ife (.cmp .gt (.loc 1) (.int 0)) (.int 12) (.int 11)) .nil))))
  (.cons (.assign 3 (.bin .add (.int 1) (.call 23 (.cons (.loc 0) (.cons (.int 14) .nil)))))
  (.cons (.ite (.cmp .lt (.loc 2) (.int 3)) (.cons (.ret (.call 24 (.cons (.loc 0) .nil)))
  .nil) .nil)
  (.cons (.ite (.cmp .lt (.loc 2) (.int 5)) (.cons (.ret (.tup (.cons (.str [114,101,112,101,97,116]) (.cons (.bin .add (.int 1) (.loc 3)) (.cons (.call 24 (.cons (.loc 0) .nil)) .nil)))))
  .nil) .nil)
  (.cons (.ite (.cmp .eq (.loc 2) (.int 5)) (.cons (.ret (.tup (.cons (.str [72]) (.cons (.join (.str []) (.comp (.idx (.str [65,39,53,32,44,72,41]) (.call 23 (.cons (.loc 0) (.cons (.int 7) .nil)))) 4 (.bin .add (.int 1) (.bin .mod (.loc 3) (.int 3))))) .nil))))
  .nil) .nil)
  (.cons (.ite (.cmp .eq (.loc 2) (.int 6)) (.cons (.ret (.tup (.cons (.str [88]) (.cons (.loc 3) .nil))))
  .nil) .nil)
  (.cons (.ite (.cmp .eq (.loc 2) (.int 7)) (.cons (.ret (.tup (.cons (.idx (.lstF (.cons (.str [84]) (.cons (.str [84,76]) (.cons (.str [84,82]) .nil)))) (.call 23 (.cons (.loc 0) (.cons (.int 3) .nil)))) (.cons (.loc 3) .nil))))
  .nil) .nil)
  (.cons (.ite (.cmp .eq (.loc 2) (.int 8)) (.cons (.ret (.tup (.cons (.idx (.lstF (.cons (.str [47]) (.cons (.str [58]) .nil))) (.bin .mod (.loc 3) (.int 2))) .nil)))
  .nil) .nil)
  (.cons (.ite (.cmp .eq (.loc 2) (.int 9)) (.cons (.ret (.tup (.cons (.str [80]) (.cons (.bin .sub (.loc 3) (.int 7)) .nil))))
  .nil) .nil)
  (.cons (.ite (.cmp .eq (.loc 2) (.int 10)) (.cons (.ret (.tup (.cons (.idx (.lstF (.cons (.str [83]) (.cons (.str [83,80]) (.cons (.str [83,83]) (.cons (.str [66,78]) (.cons (.str [66,90]) .nil)))))) (.call 23 (.cons (.loc 0) (.cons (.int 5) .nil)))) .nil)))
  .nil) .nil)
  (.cons (.ret (.tup (.cons (.str [103,114,111,117,112]) (.cons (.loc 3) (.cons (.comp (.call 25 (.cons (.loc 0) (.cons (.bin .sub (.loc 1) (.int 1)) .nil))) 4 (.bin .add (.int 1) (.call 23 (.cons (.loc 0) (.cons (.int 2) .nil))))) .nil)))))
  .nil)))))))))))⟩
noncomputable def F_law_text:Fn:=⟨[95,108,97,119,95,116,101,120,116],2,[[105,116,101,109],[106,111,105,110,116],[119,111,114,100],[116,101,120,116],[106,111,105,110,101,114],[112,97,114,116]],
  (.cons (.assign 2 (.idx (.loc 0) (.int 0)))
  (.cons (.ite (.cmp .eq (.loc 2) (.str [103,114,111,117,112])) (.cons (.ret (.bin .add (.ife (.cmp .eq (.idx (.loc 0) (.int 1)) (.int 1)) (.str []) (.toStr (.idx (.loc 0) (.int 1)))) (.call 28 (.cons (.idx (.loc 0) (.int 2)) (.cons (.loc 1) .nil)))))
  .nil) .nil)
  (.cons (.ite (.cmp .eq (.loc 2) (.str [114,101,112,101,97,116])) (.cons (.ret (.bin .add (.toStr (.idx (.loc 0) (.int 1))) (.call 26 (.cons (.idx (.loc 0) (.int 2)) (.cons (.loc 1) .nil)))))
  .nil) .nil)
  (.cons (.ite (.cmp .eq (.loc 2) (.str [72])) (.cons (.ret (.bin .add (.bin .add (.str [39]) (.join (.str [39,39]) (.split (.idx (.loc 0) (.int 1)) (.str [39])))) (.str [39])))
  .nil) .nil)
  (.cons (.ite (.inC (.loc 2) [[88],[80]]) (.cons (.ret (.bin .add (.toStr (.idx (.loc 0) (.int 1))) (.loc 2)))
  .nil) .nil)
  (.cons (.assign 3 (.loc 2))
  (.cons (.zipStr 4 5 3 (.lstF (.cons (.str []) (.cons (.str [46]) (.cons (.str [69]) .nil)))) (.sl (.loc 0) (.int 1) .none))
  (.cons (.ret (.loc 3))
  .nil))))))))⟩
noncomputable def F_law_is_loose:Fn:=⟨[95,108,97,119,95,105,115,95,108,111,111,115,101],2,[[111,110,101],[116,119,111],[107,105,110,100]],
  (.cons (.assign 2 (.ife (.cmp .eq (.idx (.loc 1) (.int 0)) (.str [114,101,112,101,97,116])) (.idx (.idx (.loc 1) (.int 2)) (.int 0)) (.idx (.loc 1) (.int 0))))
  (.cons (.ret (.or (.inC (.idx (.loc 0) (.int 0)) [[47],[58]]) (.or (.inC (.idx (.loc 1) (.int 0)) [[47],[58]]) (.and (.cmp .eq (.idx (.loc 0) (.int 0)) (.str [80])) (.inC (.loc 2) [[70],[69],[68],[71]])))))
  .nil))⟩
noncomputable def F_law_whole:Fn:=⟨[95,108,97,119,95,119,104,111,108,101],2,[[105,116,101,109,115],[106,111,105,110,116],[116,101,120,116],[105]],
  (.cons (.assign 2 (.str [40]))
  (.cons (.forR 3 (.len (.loc 0)) (.cons (.ite (.cmp .gt (.loc 3) (.int 0)) (.cons (.assign 2 (.bin .add (.loc 2) (.ife (.call 27 (.cons (.idx (.loc 0) (.bin .sub (.loc 3) (.int 1))) (.cons (.idx (.loc 0) (.loc 3)) .nil))) (.loc 1) (.str [44]))))
  .nil) .nil)
  (.cons (.assign 2 (.bin .add (.loc 2) (.call 26 (.cons (.idx (.loc 0) (.loc 3)) (.cons (.loc 1) .nil)))))
  .nil)))
  (.cons (.ret (.bin .add (.loc 2) (.str [41])))
  .nil)))⟩
noncomputable def F_law_spaced:Fn:=⟨[95,108,97,119,95,115,112,97,99,101,100],2,[[112,101,110],[116,101,120,116],[111,117,116],[105,115,95,105,110,115,105,100,101],[115,105,103,110]],
  (.cons (.assign 2 (.str []))
  (.cons (.assign 3 (.bool false))
  (.cons (.forE 4 (.loc 1) (.cons (.ite (.and (.not (.loc 3)) (.and (.cmp .ne (.sl (.loc 2) (.neg (.int 1)) .none) (.str [39])) (.cmp .eq (.call 23 (.cons (.loc 0) (.cons (.int 4) .nil))) (.int 0)))) (.cons (.assign 2 (.bin .add (.loc 2) (.str [32])))
  .nil) .nil)
  (.cons (.ite (.cmp .eq (.loc 4) (.str [39])) (.cons (.assign 3 (.not (.loc 3)))
  .nil) .nil)
  (.cons (.assign 2 (.bin .add (.loc 2) (.loc 4)))
  .nil))))
  (.cons (.ret (.loc 2))
  .nil))))⟩
noncomputable def F_law_bent:Fn:=⟨[95,108,97,119,95,98,101,110,116],2,[[112,101,110],[116,101,120,116],[116,117,114,110],[110,117,109,98,101,114],[112,108,97,99,101],[115,105,103,110]],
  (.cons (.forR 2 (.int 3) (.cons (.assign 3 (.call 23 (.cons (.loc 0) (.cons .million .nil))))
  (.cons (.assign 4 (.bin .mod (.bin .fdiv (.loc 3) (.int 4)) (.bin .add (.len (.loc 1)) (.int 1))))
  (.cons (.assign 5 (.idx (.gstr [95,108,97,119,95,115,105,103,110,115] [73,70,69,68,71,76,65,88,84,80,83,66,72,78,82,90,47,58,44,46,40,41,39,43,45,48,49,50,51,32,53,57]) (.bin .mod (.bin .fdiv (.loc 3) (.int 97)) (.int 32))))
  (.cons (.ite (.cmp .eq (.bin .mod (.loc 3) (.int 4)) (.int 1)) (.cons (.assign 1 (.bin .add (.bin .add (.sl (.loc 1) .none (.loc 4)) (.loc 5)) (.sl (.loc 1) (.loc 4) .none)))
  .nil) .nil)
  (.cons (.ite (.cmp .eq (.bin .mod (.loc 3) (.int 4)) (.int 2)) (.cons (.assign 1 (.bin .add (.sl (.loc 1) .none (.loc 4)) (.sl (.loc 1) (.bin .add (.loc 4) (.int 1)) .none)))
  .nil) .nil)
  (.cons (.ite (.cmp .eq (.bin .mod (.loc 3) (.int 4)) (.int 3)) (.cons (.assign 1 (.bin .add (.bin .add (.sl (.loc 1) .none (.loc 4)) (.loc 5)) (.sl (.loc 1) (.bin .add (.loc 4) (.int 1)) .none)))
  .nil) .nil)
  .nil)))))))
  (.cons (.ret (.loc 1))
  .nil))⟩
noncomputable def F_law_tokens:Fn:=⟨[95,108,97,119,95,116,111,107,101,110,115],1,[[116,101,120,116],[111,117,116],[97,116],[115,105,103,110],[112,97,114,116,115],[100,105,103,105,116,115],[110,117,109,98,101,114]],
  (.cons (.assign 1 (.lstM .nil))
  (.cons (.assign 2 (.int 0))
  (.cons (.while (.cmp .lt (.loc 2) (.len (.loc 0))) (.cons (.assign 3 (.idx (.loc 0) (.loc 2)))
  (.cons (.assign 2 (.bin .add (.loc 2) (.int 1)))
  (.cons (.ite (.cmp .eq (.loc 3) (.str [39])) (.cons (.assign 4 (.str []))
  (.cons (.while (.and (.cmp .lt (.loc 2) (.len (.loc 0))) (.or (.cmp .ne (.idx (.loc 0) (.loc 2)) (.str [39])) (.cmp .eq (.sl (.loc 0) (.loc 2) (.bin .add (.loc 2) (.int 2))) (.str [39,39])))) (.cons (.assign 4 (.bin .add (.loc 4) (.idx (.loc 0) (.loc 2))))
  (.cons (.assign 2 (.bin .add (.loc 2) (.ife (.cmp .eq (.idx (.loc 0) (.loc 2)) (.str [39])) (.int 2) (.int 1))))
  .nil)))
  (.cons (.append (.loc 1) (.ife (.and (.cmp .lt (.loc 2) (.len (.loc 0))) (.cmp .ne (.loc 4) (.str []))) (.tup (.cons (.str [116]) (.cons (.loc 4) .nil))) (.tup (.cons (.str [63]) (.cons (.int 0) .nil)))))
  (.cons (.assign 2 (.bin .add (.loc 2) (.int 1)))
  .nil)))) (.cons (.ite (.cmp .isIn (.loc 3) (.str [48,49,50,51,52,53,54,55,56,57])) (.cons (.assign 5 (.loc 3))
  (.cons (.while (.and (.cmp .lt (.loc 2) (.len (.loc 0))) (.cmp .isIn (.idx (.loc 0) (.loc 2)) (.str [48,49,50,51,52,53,54,55,56,57,32]))) (.cons (.assign 5 (.bin .add (.loc 5) (.idx (.loc 0) (.loc 2))))
  (.cons (.assign 2 (.bin .add (.loc 2) (.int 1)))
  .nil)))
  (.cons (.assign 6 (.toInt (.replace (.loc 5) 32 [])))
  (.cons (.ite (.cmp .eq (.sl (.loc 0) (.loc 2) (.bin .add (.loc 2) (.int 1))) (.str [72])) (.cons (.append (.loc 1) (.ife (.between (.int 0) (.loc 6) (.bin .sub (.len (.loc 0)) (.loc 2))) (.tup (.cons (.str [116]) (.cons (.sl (.loc 0) (.bin .add (.loc 2) (.int 1)) (.bin .add (.bin .add (.loc 2) (.int 1)) (.loc 6))) .nil))) (.tup (.cons (.str [63]) (.cons (.int 0) .nil)))))
  (.cons (.assign 2 (.bin .add (.bin .add (.loc 2) (.int 1)) (.loc 6)))
  .nil)) (.cons (.append (.loc 1) (.ife (.cmp .lt (.loc 6) (.int 10000)) (.tup (.cons (.str [110]) (.cons (.loc 6) .nil))) (.tup (.cons (.str [63]) (.cons (.int 0) .nil)))))
  .nil))
  .nil)))) (.cons (.ite (.cmp .ne (.loc 3) (.str [32])) (.cons (.append (.loc 1) (.tup (.cons (.loc 3) (.cons (.int 0) .nil))))
  .nil) .nil)
  .nil))
  .nil))
  .nil))))
  (.cons (.ret (.bin .add (.loc 1) (.bin .mul (.lstF (.cons (.tup (.cons (.str [101,110,100]) (.cons (.int 0) .nil))) .nil)) (.int 6))))
  .nil))))⟩
noncomputable def F_law_number:Fn:=⟨[95,108,97,119,95,110,117,109,98,101,114],3,[[116,111,107,101,110,115],[97,116],[108,111,119,101,114]],
  (.cons (.ret (.and (.cmp .eq (.idx (.idx (.loc 0) (.loc 1)) (.int 0)) (.str [110])) (.cmp .ge (.idx (.idx (.loc 0) (.loc 1)) (.int 1)) (.loc 2))))
  .nil)⟩
noncomputable def F_law_reals:Fn:=⟨[95,108,97,119,95,114,101,97,108,115],3,[[108,101,116,116,101,114],[116,111,107,101,110,115],[97,116],[105,116,101,109]],
  (.cons (.ite (.or (.cmp .ne (.idx (.idx (.loc 1) (.bin .add (.loc 2) (.int 1))) (.int 0)) (.str [46])) (.not (.call 32 (.cons (.loc 1) (.cons (.bin .add (.loc 2) (.int 2)) (.cons (.int 0) .nil)))))) (.cons (.ret .none)
  .nil) .nil)
  (.cons (.assign 3 (.tup (.cons (.loc 0) (.cons (.idx (.idx (.loc 1) (.loc 2)) (.int 1)) (.cons (.idx (.idx (.loc 1) (.bin .add (.loc 2) (.int 2))) (.int 1)) .nil)))))
  (.cons (.ite (.cmp .isIn (.loc 0) (.str [70,68])) (.cons (.ret (.tup (.cons (.loc 3) (.cons (.bin .add (.loc 2) (.int 3)) .nil))))
  .nil) .nil)
  (.cons (.ite (.cmp .ne (.idx (.idx (.loc 1) (.bin .add (.loc 2) (.int 3))) (.int 0)) (.str [69])) (.cons (.ret (.tup (.cons (.bin .add (.loc 3) (.tup (.cons .none .nil))) (.cons (.bin .add (.loc 2) (.int 3)) .nil))))
  .nil) .nil)
  (.cons (.ite (.not (.call 32 (.cons (.loc 1) (.cons (.bin .add (.loc 2) (.int 4)) (.cons (.int 1) .nil))))) (.cons (.ret .none)
  .nil) .nil)
  (.cons (.ret (.tup (.cons (.bin .add (.loc 3) (.tup (.cons (.idx (.idx (.loc 1) (.bin .add (.loc 2) (.int 4))) (.int 1)) .nil))) (.cons (.bin .add (.loc 2) (.int 5)) .nil))))
  .nil))))))⟩
noncomputable def F_law_valued:Fn:=⟨[95,108,97,119,95,118,97,108,117,101,100],2,[[116,111,107,101,110,115],[97,116],[108,101,116,116,101,114],[119,105,100,116,104]],
  (.cons (.assign 2 (.idx (.idx (.loc 0) (.loc 1)) (.int 0)))
  (.cons (.ite (.and (.cmp .eq (.loc 2) (.str [65])) (.cmp .ne (.idx (.idx (.loc 0) (.bin .add (.loc 1) (.int 1))) (.int 0)) (.str [110]))) (.cons (.ret (.tup (.cons (.tup (.cons (.str [65]) (.cons .none .nil))) (.cons (.bin .add (.loc 1) (.int 1)) .nil))))
  .nil) .nil)
  (.cons (.ite (.not (.call 32 (.cons (.loc 0) (.cons (.bin .add (.loc 1) (.int 1)) (.cons (.int 1) .nil))))) (.cons (.ret .none)
  .nil) .nil)
  (.cons (.assign 3 (.idx (.idx (.loc 0) (.bin .add (.loc 1) (.int 1))) (.int 1)))
  (.cons (.ite (.cmp .isIn (.loc 2) (.str [65,76])) (.cons (.ret (.tup (.cons (.tup (.cons (.loc 2) (.cons (.loc 3) .nil))) (.cons (.bin .add (.loc 1) (.int 2)) .nil))))
  .nil) .nil)
  (.cons (.ite (.cmp .ne (.loc 2) (.str [73])) (.cons (.ret (.call 33 (.cons (.loc 2) (.cons (.loc 0) (.cons (.bin .add (.loc 1) (.int 1)) .nil)))))
  .nil) .nil)
  (.cons (.ite (.cmp .ne (.idx (.idx (.loc 0) (.bin .add (.loc 1) (.int 2))) (.int 0)) (.str [46])) (.cons (.ret (.tup (.cons (.tup (.cons (.str [73]) (.cons (.loc 3) (.cons .none .nil)))) (.cons (.bin .add (.loc 1) (.int 2)) .nil))))
  .nil) .nil)
  (.cons (.ite (.or (.not (.call 32 (.cons (.loc 0) (.cons (.bin .add (.loc 1) (.int 3)) (.cons (.int 0) .nil))))) (.cmp .gt (.idx (.idx (.loc 0) (.bin .add (.loc 1) (.int 3))) (.int 1)) (.loc 3))) (.cons (.ret .none)
  .nil) .nil)
  (.cons (.ret (.tup (.cons (.tup (.cons (.str [73]) (.cons (.loc 3) (.cons (.idx (.idx (.loc 0) (.bin .add (.loc 1) (.int 3))) (.int 1)) .nil)))) (.cons (.bin .add (.loc 1) (.int 4)) .nil))))
  .nil)))))))))⟩
noncomputable def F_law_control:Fn:=⟨[95,108,97,119,95,99,111,110,116,114,111,108],2,[[116,111,107,101,110,115],[97,116],[119,111,114,100],[108,97,116,101,114]],
  (.cons (.assign 2 (.idx (.idx (.loc 0) (.loc 1)) (.int 0)))
  (.cons (.assign 3 (.idx (.idx (.loc 0) (.bin .add (.loc 1) (.int 1))) (.int 0)))
  (.cons (.ite (.cmp .eq (.loc 2) (.str [116])) (.cons (.ret (.tup (.cons (.tup (.cons (.str [72]) (.cons (.idx (.idx (.loc 0) (.loc 1)) (.int 1)) .nil))) (.cons (.bin .add (.loc 1) (.int 1)) .nil))))
  .nil) .nil)
  (.cons (.ite (.cmp .isIn (.loc 2) (.str [47,58])) (.cons (.ret (.tup (.cons (.tup (.cons (.loc 2) .nil)) (.cons (.bin .add (.loc 1) (.int 1)) .nil))))
  .nil) .nil)
  (.cons (.ite (.and (.cmp .isIn (.loc 2) (.str [43,45])) (.and (.cmp .eq (.loc 3) (.str [110])) (.cmp .eq (.idx (.idx (.loc 0) (.bin .add (.loc 1) (.int 2))) (.int 0)) (.str [80])))) (.cons (.ret (.tup (.cons (.tup (.cons (.str [80]) (.cons (.bin .mul (.idx (.idx (.loc 0) (.bin .add (.loc 1) (.int 1))) (.int 1)) (.ife (.cmp .eq (.loc 2) (.str [43])) (.int 1) (.neg (.int 1)))) .nil))) (.cons (.bin .add (.loc 1) (.int 3)) .nil))))
  .nil) .nil)
  (.cons (.ite (.cmp .eq (.loc 2) (.str [83])) (.cons (.ret (.ife (.inC (.loc 3) [[80],[83]]) (.tup (.cons (.tup (.cons (.bin .add (.str [83]) (.loc 3)) .nil)) (.cons (.bin .add (.loc 1) (.int 2)) .nil))) (.tup (.cons (.tup (.cons (.str [83]) .nil)) (.cons (.bin .add (.loc 1) (.int 1)) .nil)))))
  .nil) .nil)
  (.cons (.ite (.and (.cmp .eq (.loc 2) (.str [66])) (.inC (.loc 3) [[78],[90]])) (.cons (.ret (.tup (.cons (.tup (.cons (.bin .add (.str [66]) (.loc 3)) .nil)) (.cons (.bin .add (.loc 1) (.int 2)) .nil))))
  .nil) .nil)
  (.cons (.ite (.cmp .eq (.loc 2) (.str [84])) (.cons (.ite (.inC (.loc 3) [[76],[82]]) (.cons (.assign 2 (.bin .add (.loc 2) (.loc 3)))
  (.cons (.assign 1 (.bin .add (.loc 1) (.int 1)))
  .nil)) .nil)
  (.cons (.ret (.ife (.call 32 (.cons (.loc 0) (.cons (.bin .add (.loc 1) (.int 1)) (.cons (.int 1) .nil)))) (.tup (.cons (.tup (.cons (.loc 2) (.cons (.idx (.idx (.loc 0) (.bin .add (.loc 1) (.int 1))) (.int 1)) .nil))) (.cons (.bin .add (.loc 1) (.int 2)) .nil))) .none))
  .nil)) .nil)
  (.cons (.ret .none)
  .nil)))))))))⟩
noncomputable def F_law_single:Fn:=⟨[95,108,97,119,95,115,105,110,103,108,101],2,[[116,111,107,101,110,115],[97,116],[99,111,117,110,116],[119,111,114,100],[102,111,117,110,100]],
  (.cons (.ite (.cmp .ne (.idx (.idx (.loc 0) (.loc 1)) (.int 0)) (.str [110])) (.cons (.ite (.inC (.idx (.idx (.loc 0) (.loc 1)) (.int 0)) [[73],[70],[69],[68],[71],[76],[65]]) (.cons (.ret (.call 34 (.cons (.loc 0) (.cons (.loc 1) .nil))))
  .nil) .nil)
  (.cons (.ret (.call 35 (.cons (.loc 0) (.cons (.loc 1) .nil))))
  .nil)) .nil)
  (.cons (.assign 2 (.idx (.idx (.loc 0) (.loc 1)) (.int 1)))
  (.cons (.assign 3 (.idx (.idx (.loc 0) (.bin .add (.loc 1) (.int 1))) (.int 0)))
  (.cons (.ite (.cmp .eq (.loc 3) (.str [80])) (.cons (.ret (.tup (.cons (.tup (.cons (.str [80]) (.cons (.loc 2) .nil))) (.cons (.bin .add (.loc 1) (.int 2)) .nil))))
  .nil) .nil)
  (.cons (.ite (.and (.cmp .gt (.loc 2) (.int 0)) (.cmp .eq (.loc 3) (.str [88]))) (.cons (.ret (.tup (.cons (.tup (.cons (.str [88]) (.cons (.loc 2) .nil))) (.cons (.bin .add (.loc 1) (.int 2)) .nil))))
  .nil) .nil)
  (.cons (.ite (.or (.cmp .eq (.loc 2) (.int 0)) (.ninC (.loc 3) [[73],[70],[69],[68],[71],[76],[65]])) (.cons (.ret .none)
  .nil) .nil)
  (.cons (.assign 4 (.call 34 (.cons (.loc 0) (.cons (.bin .add (.loc 1) (.int 1)) .nil))))
  (.cons (.ite (.and (.notNone (.loc 4)) (.cmp .gt (.loc 2) (.int 1))) (.cons (.assign 4 (.tup (.cons (.tup (.cons (.str [114,101,112,101,97,116]) (.cons (.loc 2) (.cons (.idx (.loc 4) (.int 0)) .nil)))) (.cons (.idx (.loc 4) (.int 1)) .nil))))
  .nil) .nil)
  (.cons (.ret (.loc 4))
  .nil)))))))))⟩
noncomputable def F_law_read:Fn:=⟨[95,108,97,119,95,114,101,97,100],1,[[116,101,120,116],[116,111,107,101,110,115],[112,105,108,101],[97,116],[105,115,95,102,114,101,101],[105,115,95,99,111,109,109,97],[105,116,101,109,115],[119,111,114,100],[99,111,117,110,116],[102,111,117,110,100],[105,116,101,109]],
  (.cons (.assign 1 (.call 31 (.cons (.loc 0) .nil)))
  (.cons (.ite (.cmp .ne (.idx (.idx (.loc 1) (.int 0)) (.int 0)) (.str [40])) (.cons (.ret .none)
  .nil) .nil)
  (.cons (.assign 2 (.lstM (.cons (.tup (.cons (.int 1) (.cons (.lstM .nil) (.cons (.bool true) .nil)))) .nil)))
  (.cons (.assign 3 (.int 1))
  (.cons (.assign 4 (.bool true))
  (.cons (.assign 5 (.bool false))
  (.cons (.while (.bool true) (.cons (.assign 6 (.idx (.idx (.loc 2) (.neg (.int 1))) (.int 1)))
  (.cons (.assign 7 (.idx (.idx (.loc 1) (.loc 3)) (.int 0)))
  (.cons (.ite (.cmp .eq (.loc 7) (.str [44])) (.cons (.ite (.or (.loc 5) (.isNil (.loc 6))) (.cons (.ret .none)
  .nil) .nil)
  (.cons (.assign 5 (.bool true))
  (.cons (.assign 4 (.bool true))
  (.cons (.assign 3 (.bin .add (.loc 3) (.int 1)))
  (.cons .cont
  .nil))))) .nil)
  (.cons (.ite (.cmp .eq (.loc 7) (.str [41])) (.cons (.ite (.loc 5) (.cons (.ret .none)
  .nil) .nil)
  (.cons (.unpack [8,6,4] (.pop (.loc 2)))
  (.cons (.assign 3 (.bin .add (.loc 3) (.int 1)))
  (.cons (.ite (.isNil (.loc 2)) (.cons (.ret (.ife (.cmp .eq (.idx (.idx (.loc 1) (.loc 3)) (.int 0)) (.str [101,110,100])) (.seal 6) .none))
  .nil) .nil)
  (.cons (.assign 9 (.ife (.isNil (.loc 6)) .none (.tup (.cons (.tup (.cons (.str [103,114,111,117,112]) (.cons (.loc 8) (.cons (.seal 6) .nil)))) (.cons (.loc 3) .nil)))))
  .nil))))) (.cons (.ite (.or (.cmp .eq (.loc 7) (.str [40])) (.and (.cmp .eq (.loc 7) (.str [110])) (.and (.cmp .gt (.idx (.idx (.loc 1) (.loc 3)) (.int 1)) (.int 0)) (.cmp .eq (.idx (.idx (.loc 1) (.bin .add (.loc 3) (.int 1))) (.int 0)) (.str [40]))))) (.cons (.append (.loc 2) (.tup (.cons (.ife (.cmp .eq (.loc 7) (.str [110])) (.idx (.idx (.loc 1) (.loc 3)) (.int 1)) (.int 1)) (.cons (.lstM .nil) (.cons (.loc 4) .nil)))))
  (.cons (.assign 3 (.bin .add (.loc 3) (.ife (.cmp .eq (.loc 7) (.str [110])) (.int 2) (.int 1))))
  (.cons (.assign 4 (.bool true))
  (.cons (.assign 5 (.bool false))
  (.cons .cont
  .nil))))) (.cons (.assign 9 (.call 36 (.cons (.loc 1) (.cons (.loc 3) .nil))))
  .nil))
  .nil))
  (.cons (.ite (.isNone (.loc 9)) (.cons (.ret .none)
  .nil) .nil)
  (.cons (.unpack [10,3] (.loc 9))
  (.cons (.assign 6 (.idx (.idx (.loc 2) (.neg (.int 1))) (.int 1)))
  (.cons (.ite (.and (.not (.loc 4)) (.not (.call 27 (.cons (.idx (.loc 6) (.neg (.int 1))) (.cons (.loc 10) .nil))))) (.cons (.ret .none)
  .nil) .nil)
  (.cons (.append (.loc 6) (.loc 10))
  (.cons (.assign 4 (.bool false))
  (.cons (.assign 5 (.bool false))
  .nil))))))))))))
  .nil)))))))⟩
noncomputable def F_law_heard:Fn:=⟨[95,108,97,119,95,104,101,97,114,100],1,[[116,101,120,116]],
  (.cons (.tryRet (.call 19 (.cons (.loc 0) .nil)))
  .nil)⟩
noncomputable def F_law:Fn:=⟨[108,97,119],1,[[115,99,114,105,112,116],[112,101,110],[116,114,101,101],[116,117,114,110],[116,101,120,116]],
  (.cons (.assign 1 (.lstM (.cons (.sl (.loc 0) .none (.int 48)) (.cons (.int 0) .nil))))
  (.cons (.assignC 2 (.call 25 (.cons (.loc 1) (.cons (.int 2) .nil))) 3 (.bin .add (.int 1) (.call 23 (.cons (.loc 1) (.cons (.int 5) .nil)))))
  (.cons (.ite (.cmp .ne (.call 22 (.cons (.loc 2) .nil)) (.call 28 (.cons (.loc 2) (.cons (.str [44]) .nil)))) (.cons (.ret (.bool false))
  .nil) .nil)
  (.cons (.ite (.cmp .ne (.call 19 (.cons (.call 28 (.cons (.loc 2) (.cons (.str [44]) .nil))) .nil)) (.loc 2)) (.cons (.ret (.bool false))
  .nil) .nil)
  (.cons (.assign 4 (.call 29 (.cons (.loc 1) (.cons (.call 28 (.cons (.loc 2) (.cons (.idx (.lstF (.cons (.str []) (.cons (.str [44]) .nil))) (.call 23 (.cons (.loc 1) (.cons (.int 2) .nil)))) .nil))) .nil))))
  (.cons (.ite (.cmp .ne (.call 19 (.cons (.loc 4) .nil)) (.loc 2)) (.cons (.ret (.bool false))
  .nil) .nil)
  (.cons (.assign 4 (.call 30 (.cons (.loc 1) (.cons (.loc 4) .nil))))
  (.cons (.ret (.cmp .eq (.call 38 (.cons (.loc 4) .nil)) (.call 37 (.cons (.loc 4) .nil))))
  .nil))))))))⟩
noncomputable def theFn:Nat→Option Fn
 | 0=>some F_pass_blanks
 | 1=>some F_number_at
 | 2=>some F_size_at
 | 3=>some F_is_at
 | 4=>some F_places_at
 | 5=>some F_exponent_at
 | 6=>some F_whole_edit
 | 7=>some F_real_edit
 | 8=>some F_value_edit
 | 9=>some F_quoted_at
 | 10=>some F_counted_text
 | 11=>some F_scale_at
 | 12=>some F_control_at
 | 13=>some F_group_at
 | 14=>some F_counted_at
 | 15=>some F_item_at
 | 16=>some F_may_join
 | 17=>some F_items_at
 | 18=>some F_format_prefix
 | 19=>some F_parse_format
 | 20=>some F_write_tail
 | 21=>some F_write_item
 | 22=>some F_write_format
 | 23=>some F_law_draw
 | 24=>some F_law_value
 | 25=>some F_law_item
 | 26=>some F_law_text
 | 27=>some F_law_is_loose
 | 28=>some F_law_whole
 | 29=>some F_law_spaced
 | 30=>some F_law_bent
 | 31=>some F_law_tokens
 | 32=>some F_law_number
 | 33=>some F_law_reals
 | 34=>some F_law_valued
 | 35=>some F_law_control
 | 36=>some F_law_single
 | 37=>some F_law_read
 | 38=>some F_law_heard
 | 39=>some F_law
 | _=>none
end Mine
end
section
namespace Mine
noncomputable abbrev Call:=Nat→List V→Hp→Option (Res V)
noncomputable def onB (v:V) (k h:Prop):Prop:=match v with | .bool true=>k | .bool false=>h | _=>True
noncomputable def onB1 (v:V) (k:Bool→Prop):Prop:=match v with | .bool c=>k c | _=>True
noncomputable def onS (v:V) (k:Txt→Prop):Prop:=match v with | .str s=>k s | _=>True
noncomputable def onC (v:V) (k:Nat→Prop):Prop:=match v with | .str [c]=>k c | _=>True
noncomputable def onI (v:V) (k:Int→Prop):Prop:=match v with | .int s=>k s | _=>True
noncomputable def onT (v:V) (k:List V→Prop):Prop:=match v with | .tup s=>k s | _=>True
noncomputable def onR (v:V) (k:Nat→Prop):Prop:=match v with | .ref s=>k s | _=>True
noncomputable def onO {α:Type} (v:Option α) (k:α→Prop):Prop:=match v with | some s=>k s | _=>True
noncomputable def onNx (o:RS) (k:Loc→Hp→Prop) (h:Prop):Prop:=match o with | .next l H=>k l H | _=>h
noncomputable def onRe (o:Res V) (k:V→Hp→Prop) (x:Hp→Prop):Prop:=match o with | .ok v H=>k v H | .exc H=>x H
noncomputable def isNo:V→Bool
 | .none=>true
 | _=>false
set_option tactic.hygienic true in
theorem onB_ok {v:V} {k h:Prop} (x:v=.bool true→k) (y:v=.bool false→h):onB v k h:=by
 cases v <;> try trivial
 rename_i c; cases c
 ·exact y rfl
 ·exact x rfl
theorem onB1_ok {v:V} {k:Bool→Prop} (x:∀ c,v=.bool c→k c):onB1 v k:=by cases v <;> first | exact x _ rfl | trivial
theorem onS_ok {v:V} {k:Txt→Prop} (x:∀ c,v=.str c→k c):onS v k:=by cases v <;> first | exact x _ rfl | trivial
theorem onI_ok {v:V} {k:Int→Prop} (x:∀ c,v=.int c→k c):onI v k:=by cases v <;> first | exact x _ rfl | trivial
theorem onT_ok {v:V} {k:List V→Prop} (x:∀ c,v=.tup c→k c):onT v k:=by cases v <;> first | exact x _ rfl | trivial
theorem onR_ok {v:V} {k:Nat→Prop} (x:∀ c,v=.ref c→k c):onR v k:=by cases v <;> first | exact x _ rfl | trivial
set_option tactic.hygienic true in
theorem onC_ok {v:V} {k:Nat→Prop} (x:∀ c,v=.str [c]→k c):onC v k:=by
 cases v <;> try trivial
 rename_i s; cases s with
 | nil=>trivial
 | cons c s=>cases s <;> first | exact x _ rfl | trivial
theorem onO_ok {α:Type} {v:Option α} {k:α→Prop} (x:∀ c,v=some c→k c):onO v k:=by cases v <;> first | exact x _ rfl | trivial
theorem onNx_ok {o:RS} {k:Loc→Hp→Prop} {h:Prop} (x:∀ l H,o=.next l H→k l H) (y:(∀ l H,o≠.next l H)→h):onNx o k h:=by
 cases o <;> first | exact x _ _ rfl | exact y (fun _ _ e=>by cases e)
theorem onRe_ok {o:Res V} {k:V→Hp→Prop} {h:Hp→Prop} (x:∀ v H,o=.ok v H→k v H) (y:∀ H,o=.exc H→h H):onRe o k h:=by
 cases o <;> first | exact x _ _ rfl | exact y _ rfl
mutual
noncomputable def wE (call:Call) (b:Nat) (l:Loc):E→Hp→(V→Hp→Prop)→(Hp→Prop)→Prop
 | .none,H,k,_=>k .none H
 | .bool c,H,k,_=>k (.bool c) H
 | .int i,H,k,_=>k (.int i) H
 | .str s,H,k,_=>k (.str s) H
 | .loc x,H,k,_=>onO l[x]? fun v=>onO v fun v=>k v H
 | .gint _ i,H,k,_=>k (.int i) H
 | .gstr _ s,H,k,_=>k (.str s) H
 | .bin o x y,H,k,e=>wE call b l x H (fun u H=>wE call b l y H (fun w H=>∀ ⦃a⦄,binV H o u w=some a→k a H) e) e
 | .not x,H,k,e=>wE call b l x H (fun v H=>onB1 v fun c=>k (.bool (!c)) H) e
 | .and x y,H,k,e=>wE call b l x H (fun v H=>onB v (wE call b l y H k e) (k (.bool false) H)) e
 | .or x y,H,k,e=>wE call b l x H (fun v H=>onB v (k (.bool true) H) (wE call b l y H k e)) e
 | .ife c x y,H,k,e=>wE call b l c H (fun v H=>onB v (wE call b l x H k e) (wE call b l y H k e)) e
 | .cmp o x y,H,k,e=>wE call b l x H (fun u H=>wE call b l y H (fun w H=>∀ ⦃a⦄,cmpV o u w=some a→k (.bool a) H) e) e
 | .isNone x,H,k,e=>wE call b l x H (fun v H=>∀ ⦃a⦄,isNo v=a→k (.bool a) H) e
 | .notNone x,H,k,e=>wE call b l x H (fun v H=>∀ ⦃a⦄,isNo v=(!a)→k (.bool a) H) e
 | .isNil x,H,k,e=>wE call b l x H (fun v H=>∀ ⦃m a⦄,lstOf H v=some m→m.isEmpty=a→k (.bool a) H) e
 | .notNil x,H,k,e=>wE call b l x H (fun v H=>∀ ⦃m a⦄,lstOf H v=some m→(!m.isEmpty)=a→k (.bool a) H) e
 | .inC x ws,H,k,e=>wE call b l x H (fun v H=>onS v fun s=>∀ ⦃a⦄,ws.contains s=a→k (.bool a) H) e
 | .ninC x ws,H,k,e=>wE call b l x H (fun v H=>onS v fun s=>∀ ⦃a⦄,(!ws.contains s)=a→k (.bool a) H) e
 | .call f es,H,k,e=>wEs call b l es H (fun vs H=>∀ ⦃r⦄,call f vs H=some r→onRe r k e) e
 | .len x,H,k,e=>wE call b l x H (fun v H=>∀ ⦃a:Nat⦄,lenV H v=some a→k (.int (a:Int)) H) e
 | .toStr x,H,k,e=>wE call b l x H (fun v H=>∀ ⦃a⦄,toStrV v=some a→k (.str a) H) e
 | .find x y,H,k,e=>wE call b l x H (fun v H=>onS v fun s=>wE call b l y H (fun w H=>onC w fun c=>∀ ⦃z⦄,findT c s 0=z→k (.int z) H) e) e
 | .idx x y,H,k,e=>wE call b l x H (fun u H=>wE call b l y H (fun w H=>∀ ⦃a⦄,idxV H u w=some a→k a H) e) e
 | .sl x y z,H,k,e=>wE call b l x H (fun u H=>wE call b l y H (fun v H=>wE call b l z H (fun w H=>∀ ⦃a⦄,slV u v w=some a→k a H) e) e) e
 | .tup es,H,k,e=>wEs call b l es H (fun vs H=>cond (Nat.ble vs.length capL) (k (.tup vs) H) True) e
 | .lstM es,H,k,e=>wEs call b l es H (fun vs H=>cond (Nat.ble vs.length capL) (k (.ref H.length) (H++[some vs])) True) e
 | x,H,k,e=>∀ ⦃r⦄,evE call b l x H=some r→onRe r k e
noncomputable def wEs (call:Call) (b:Nat) (l:Loc):Es→Hp→(List V→Hp→Prop)→(Hp→Prop)→Prop
 | .nil,H,k,_=>k [] H
 | .cons x r,H,k,e=>wE call b l x H (fun v H=>wEs call b l r H (fun vs H=>k (v :: vs) H) e) e
end
noncomputable def aug1 (x:Nat) (l:Loc) (H:Hp) (k:RS→Prop) (u v:V):Prop :=
 match u with
 | .int i=>onI v fun j=>∀ ⦃z⦄,i + j=z→k (.next (l.set x (some (.int z))) H)
 | .str s=>onS v fun z=>s.length + z.length≤capL→k (.next (l.set x (some (.str (s++z)))) H)
 | _=>True
mutual
noncomputable def wS (call:Call) (N b:Nat):S→Loc→Hp→(RS→Prop)→Prop
 | .assign x e,l,H,k=>wE call b l e H (fun v H=>k (.next (l.set x (some v)) H)) (fun H=>k (.exc H))
 | .unpack xs e,l,H,k=>wE call b l e H (fun v H=>onT v fun vs=>onO (setAll xs vs l) fun l=>k (.next l H)) (fun H=>k (.exc H))
 | .aug x e,l,H,k=>onO l[x]? fun u=>onO u fun u=>wE call b l e H (fun v H=>aug1 x l H k u v) (fun H=>k (.exc H))
 | .append a e,l,H,k=>wE call b l a H (fun r H=>onR r fun j=>wE call b l e H (fun v H=>∀ ⦃xs⦄,
   hget H j=some xs→(mayMut b j v&&decide (xs.length < capL))=true→k (.next l (H.set j (some (xs++[v]))))) (fun H=>k (.exc H))) (fun H=>k (.exc H))
 | .ite c x y,l,H,k=>wE call b l c H (fun v H=>onB v (wSs call N b x l H k) (wSs call N b y l H k)) (fun H=>k (.exc H))
 | .ret e,l,H,k=>wE call b l e H (fun v H=>k (.ret v H)) (fun H=>k (.exc H))
 | .raise a,l,H,k=>wE call b l a H (fun v H=>onI v fun _=>k (.exc H)) (fun H=>k (.exc H))
 | .cont,l,H,k=>k (.cont l H)
 | s,l,H,k=>∀ ⦃r⦄,evS call N b s l H=some r→k r
noncomputable def wSs (call:Call) (N b:Nat):Ss→Loc→Hp→(RS→Prop)→Prop
 | .nil,l,H,k=>k (.next l H)
 | .cons s r,l,H,k=>wS call N b s l H fun o=>onNx o (fun l H=>wSs call N b r l H k) (k o)
end
theorem bnd_ok {α β:Type} {x:Option (Res α)} {v:α} {H:Hp} {f:α→Hp→Option (Res β)} {r:Option (Res β)} (h:x=some (.ok v H)) (g:f v H=r):bnd x f=r:=by rw [h]; exact g
theorem bnd_ex {α β:Type} {x:Option (Res α)} {H:Hp} {f:α→Hp→Option (Res β)} (h:x=some (.exc H)):bnd x f=some (.exc H):=by rw [h]; rfl
theorem bndS_ok {x:Option (Res V)} {v:V} {H:Hp} {f:V→Hp→Option RS} {r:Option RS} (h:x=some (.ok v H)) (g:f v H=r):bndS x f=r:=by rw [h]; exact g
theorem bndS_ex {x:Option (Res V)} {H:Hp} {f:V→Hp→Option RS} (h:x=some (.exc H)):bndS x f=some (.exc H):=by rw [h]; rfl
theorem tell_ok {x:Option V} {v:V} {H:Hp} (h:x=some v):tell x H=some (.ok v H):=by rw [h]; rfl
theorem map_ok {α β:Type} {x:Option α} {v:α} {f:α→β} (h:x=some v):x.map f=some (f v):=by rw [h]; rfl
end Mine
end
section
namespace Mine
section
variable {call:Call} {b:Nat} {l:Loc}
noncomputable abbrev OkE (call:Call) (b:Nat) (l:Loc) (e:E) (H:Hp) (k:V→Hp→Prop):Prop:=∀ v H',evE call b l e H=some (.ok v H')→k v H'
noncomputable abbrev ExE (call:Call) (b:Nat) (l:Loc) (e:E) (H:Hp) (x:Hp→Prop):Prop:=∀ H',evE call b l e H=some (.exc H')→x H'
theorem ev_loc {i:Nat} {v:V} {H:Hp} (h:l[i]?=some (some v)):evE call b l (.loc i) H=some (.ok v H):=by (conv=>lhs; whnf); rw [h]
theorem isNo_ok {y:E} {v:V} {a:Bool} {H0 H:Hp} (h1:evE call b l y H0=some (.ok v H)) (h:isNo v=a):evE call b l (.isNone y) H0=some (.ok (.bool a) H):=bnd_ok h1 (by rw [← h]; cases v <;> rfl)
theorem isSo_ok {y:E} {v:V} {a:Bool} {H0 H:Hp} (h1:evE call b l y H0=some (.ok v H)) (h:isNo v=!a):evE call b l (.notNone y) H0=some (.ok (.bool a) H):=bnd_ok h1 (by
 have:a=!isNo v:=by rw [h,Bool.not_not]
 rw [this]; cases v <;> rfl)
theorem cond_ok {c:Bool} {k:Prop} (h:c=true→k):cond c k True:=by cases c <;> first | trivial | exact h rfl
theorem bo {x y:Bool} {H:Hp} (h:x=y):some (Res.ok (V.bool x) H)=some (.ok (.bool y) H):=by rw [h]
theorem so {α:Type} {x:Option α} {v w:α} (h:x=some v) (e:v=w):x=some w:=e ▸ h
theorem wE_any {e:E} {H:Hp} {k:V→Hp→Prop} {x:Hp→Prop} (hk:OkE call b l e H k) (hx:ExE call b l e H x):∀ ⦃r⦄,evE call b l e H=some r→onRe r k x :=
 fun _ h=>onRe_ok (fun _ _ q=>hk _ _ (so h q)) fun _ q=>hx _ (so h q)
theorem bx {α β:Type} {x:Option (Res α)} {H H':Hp} {v:α} {f:α→Hp→Option (Res β)} (h:x=some (.ok v H)) (g:f v H=some (.exc H')):bnd x f=some (.exc H'):=bnd_ok h g
theorem sv {x:Option (Res V)} {v w:V} {H:Hp} (h:x=some (.ok v H)) (e:v=w):x=some (.ok w H):=e ▸ h
mutual
theorem wE_ok:∀ (e:E) (H:Hp) (k:V→Hp→Prop) (x:Hp→Prop),OkE call b l e H k→ExE call b l e H x→wE call b l e H k x
 | .none,H,k,x,hk,hx=>hk _ _ rfl
 | .bool _,H,k,x,hk,hx=>hk _ _ rfl
 | .int _,H,k,x,hk,hx=>hk _ _ rfl
 | .str _,H,k,x,hk,hx=>hk _ _ rfl
 | .gint _ _,H,k,x,hk,hx=>hk _ _ rfl
 | .gstr _ _,H,k,x,hk,hx=>hk _ _ rfl
 | .loc _,H,k,x,hk,hx=>onO_ok fun _ h=>onO_ok fun _ h'=>hk _ _ (ev_loc (h' ▸ h))
 | .bin _ y z,H,k,x,hk,hx=>wE_ok y H _ _ (fun _ H1 h1=>wE_ok z H1 _ _ (fun _ _ h2 _ h=>hk _ _ (bnd_ok h1 (bnd_ok h2 (tell_ok h)))) fun _ h2=>hx _ (bnd_ok h1 (bnd_ex h2))) fun _ h1=>hx _ (bnd_ex h1)
 | .cmp _ y z,H,k,x,hk,hx=>wE_ok y H _ _ (fun _ H1 h1=>wE_ok z H1 _ _ (fun _ _ h2 _ h=>hk _ _ (bnd_ok h1 (bnd_ok h2 (tell_ok (map_ok h))))) fun _ h2=>hx _ (bnd_ok h1 (bnd_ex h2))) fun _ h1=>hx _ (bnd_ex h1)
 | .idx y z,H,k,x,hk,hx=>wE_ok y H _ _ (fun _ H1 h1=>wE_ok z H1 _ _ (fun _ _ h2 _ h=>hk _ _ (bnd_ok h1 (bnd_ok h2 (tell_ok h)))) fun _ h2=>hx _ (bnd_ok h1 (bnd_ex h2))) fun _ h1=>hx _ (bnd_ex h1)
 | .sl y z q,H,k,x,hk,hx=>wE_ok y H _ _ (fun _ H1 h1=>wE_ok z H1 _ _ (fun _ H2 h2=>wE_ok q H2 _ _ (fun _ _ h3 _ h=>hk _ _ (bnd_ok h1 (bnd_ok h2 (bnd_ok h3 (tell_ok h))))) fun _ h3=>hx _ (bnd_ok h1 (bnd_ok h2 (bnd_ex h3)))) fun _ h2=>hx _ (bnd_ok h1 (bnd_ex h2))) fun _ h1=>hx _ (bnd_ex h1)
 | .not y,H,k,x,hk,hx=>wE_ok y H _ _ (fun _ H1 h1=>onB1_ok fun c e=>hk _ _ (bnd_ok (sv h1 e) rfl)) fun _ h1=>hx _ (bnd_ex h1)
 | .and y z,H,k,x,hk,hx=>wE_ok y H _ _ (fun _ H1 h1=>onB_ok (fun e=>wE_ok z H1 _ _ (fun _ _ h2=>hk _ _ (bnd_ok (sv h1 e) h2)) fun _ h2=>hx _ (bnd_ok (sv h1 e) h2)) fun e=>hk _ _ (bnd_ok (sv h1 e) rfl)) fun _ h1=>hx _ (bnd_ex h1)
 | .or y z,H,k,x,hk,hx=>wE_ok y H _ _ (fun _ H1 h1=>onB_ok (fun e=>hk _ _ (bnd_ok (sv h1 e) rfl)) fun e=>wE_ok z H1 _ _ (fun _ _ h2=>hk _ _ (bnd_ok (sv h1 e) h2)) fun _ h2=>hx _ (bnd_ok (sv h1 e) h2)) fun _ h1=>hx _ (bnd_ex h1)
 | .ife c y z,H,k,x,hk,hx=>wE_ok c H _ _ (fun _ H1 h1=>onB_ok (fun e=>wE_ok y H1 _ _ (fun _ _ h2=>hk _ _ (bnd_ok (sv h1 e) h2)) fun _ h2=>hx _ (bnd_ok (sv h1 e) h2)) fun e=>wE_ok z H1 _ _ (fun _ _ h2=>hk _ _ (bnd_ok (sv h1 e) h2)) fun _ h2=>hx _ (bnd_ok (sv h1 e) h2)) fun _ h1=>hx _ (bnd_ex h1)
 | .isNone y,H,k,x,hk,hx=>wE_ok y H _ _ (fun _ H1 h1 _ h=>hk _ _ (isNo_ok h1 h)) fun _ h1=>hx _ (bnd_ex h1)
 | .notNone y,H,k,x,hk,hx=>wE_ok y H _ _ (fun _ H1 h1 _ h=>hk _ _ (isSo_ok h1 h)) fun _ h1=>hx _ (bnd_ex h1)
 | .isNil y,H,k,x,hk,hx=>wE_ok y H _ _ (fun _ H1 h1 _ _ h h'=>hk _ _ (bnd_ok h1 ((tell_ok (map_ok h)).trans (bo h')))) fun _ h1=>hx _ (bnd_ex h1)
 | .notNil y,H,k,x,hk,hx=>wE_ok y H _ _ (fun _ H1 h1 _ _ h h'=>hk _ _ (bnd_ok h1 ((tell_ok (map_ok h)).trans (bo h')))) fun _ h1=>hx _ (bnd_ex h1)
 | .inC y _,H,k,x,hk,hx=>wE_ok y H _ _ (fun _ H1 h1=>onS_ok fun _ e _ h=>hk _ _ (bnd_ok (sv h1 e) (bo h))) fun _ h1=>hx _ (bnd_ex h1)
 | .ninC y _,H,k,x,hk,hx=>wE_ok y H _ _ (fun _ H1 h1=>onS_ok fun _ e _ h=>hk _ _ (bnd_ok (sv h1 e) (bo h))) fun _ h1=>hx _ (bnd_ex h1)
 | .call _ es,H,k,x,hk,hx=>wEs_ok es H _ _ (fun _ _ h1 _ h=>onRe_ok (fun _ _ q=>hk _ _ (bnd_ok h1 (so h q))) fun _ q=>hx _ (bx h1 (so h q))) fun _ h1=>hx _ (bnd_ex h1)
 | .len y,H,k,x,hk,hx=>wE_ok y H _ _ (fun _ H1 h1 _ h=>hk _ _ (bnd_ok h1 (tell_ok (map_ok h)))) fun _ h1=>hx _ (bnd_ex h1)
 | .toStr y,H,k,x,hk,hx=>wE_ok y H _ _ (fun _ H1 h1 _ h=>hk _ _ (bnd_ok h1 (tell_ok (map_ok h)))) fun _ h1=>hx _ (bnd_ex h1)
 | .find y z,H,k,x,hk,hx=>wE_ok y H _ _ (fun _ H1 h1=>onS_ok fun _ e=>wE_ok z H1 _ _ (fun _ _ h2=>onC_ok fun _ e2 _ h=>hk _ _ (bnd_ok (sv h1 e) (bnd_ok (sv h2 e2) (h ▸ rfl)))) fun _ h2=>hx _ (bnd_ok (sv h1 e) (bnd_ex h2))) fun _ h1=>hx _ (bnd_ex h1)
 | .tup es,H,k,x,hk,hx=>wEs_ok es H _ _ (fun _ _ h1=>cond_ok fun h=>hk _ _ (bnd_ok h1 (if_pos (Nat.le_of_ble_eq_true h)))) fun _ h1=>hx _ (bnd_ex h1)
 | .lstM es,H,k,x,hk,hx=>wEs_ok es H _ _ (fun _ _ h1=>cond_ok fun h=>hk _ _ (bnd_ok h1 (if_pos (Nat.le_of_ble_eq_true h)))) fun _ h1=>hx _ (bnd_ex h1)
 | .million,H,k,x,hk,hx=>wE_any hk hx
 | .neg _,H,k,x,hk,hx=>wE_any hk hx
 | .between _ _ _,H,k,x,hk,hx=>wE_any hk hx
 | .toInt _,H,k,x,hk,hx=>wE_any hk hx
 | .replace _ _ _,H,k,x,hk,hx=>wE_any hk hx
 | .join _ _,H,k,x,hk,hx=>wE_any hk hx
 | .split _ _,H,k,x,hk,hx=>wE_any hk hx
 | .pop _,H,k,x,hk,hx=>wE_any hk hx
 | .seal _,H,k,x,hk,hx=>wE_any hk hx
 | .lstF _,H,k,x,hk,hx=>wE_any hk hx
 | .comp _ _ _,H,k,x,hk,hx=>wE_any hk hx
theorem wEs_ok:∀ (es:Es) (H:Hp) (k:List V→Hp→Prop) (x:Hp→Prop),(∀ v H',evEs call b l es H=some (.ok v H')→k v H')→(∀ H',evEs call b l es H=some (.exc H')→x H')→wEs call b l es H k x
 | .nil,H,k,x,hk,_=>hk _ _ rfl
 | .cons e es,H,k,x,hk,hx=>wE_ok e H _ _ (fun _ H1 h1=>wEs_ok es H1 _ _ (fun _ _ h2=>hk _ _ (bnd_ok h1 (bnd_ok h2 rfl))) fun _ h2=>hx _ (bnd_ok h1 (bnd_ex h2))) fun _ h1=>hx _ (bnd_ex h1)
end
end
section
variable {call:Call} {N b:Nat}
noncomputable abbrev OkS (call:Call) (N b:Nat) (s:S) (l:Loc) (H:Hp) (k:RS→Prop):Prop:=∀ r,evS call N b s l H=some r→k r
theorem wS_any {s:S} {l:Loc} {H:Hp} {k:RS→Prop} (hk:OkS call N b s l H k):∀ ⦃r⦄,evS call N b s l H=some r→k r:=fun _ h=>hk _ h
theorem aug_ok {i:Nat} {e:E} {l:Loc} {H H1:Hp} {k:RS→Prop} {u v:V} (hk:OkS call N b (.aug i e) l H k) (hu:l[i]?=some (some u)) (h1:evE call b l e H=some (.ok v H1)):aug1 i l H1 k u v:=by
 cases u <;> try trivial
 ·refine onI_ok fun j ej z h=>hk _ ?_
  subst ej
  (conv=>lhs; whnf); rw [hu]; rw [← h]; exact bndS_ok h1 rfl
 ·refine onS_ok fun j ej h=>hk _ ?_
  subst ej
  (conv=>lhs; whnf); rw [hu]; exact bndS_ok h1 (if_pos h)
theorem ss_nx {s:S} {r:Ss} {l l':Loc} {H H':Hp} {x:Option RS} (h1:evS call N b s l H=some (.next l' H')) (h:evSs call N b r l' H'=x):evSs call N b (.cons s r) l H=x:=by (conv=>lhs; whnf); rw [h1]; exact h
theorem ss_no {s:S} {r:Ss} {l:Loc} {H:Hp} {o:RS} (h1:evS call N b s l H=some o) (h:∀ l' H',o≠.next l' H'):evSs call N b (.cons s r) l H=some o:=by
 (conv=>lhs; whnf); rw [h1]
 cases o with
 | next l' H'=>exact absurd rfl (h l' H')
 | _=>rfl
theorem ap_ok {a e:E} {l:Loc} {H H1 H2:Hp} {j:Nat} {v:V} {xs:List V} (h1:evE call b l a H=some (.ok (.ref j) H1)) (h2:evE call b l e H1=some (.ok v H2)) (h:hget H2 j=some xs) (h':(mayMut b j v&&decide (xs.length < capL))=true) :
 evS call N b (.append a e) l H=some (.next l (H2.set j (some (xs++[v])))):=bndS_ok h1 (bndS_ok h2 (by simp only [h,h',if_true]))
theorem ap_ex {a e:E} {l:Loc} {H H1 H2:Hp} {j:Nat} (h1:evE call b l a H=some (.ok (.ref j) H1)) (h2:evE call b l e H1=some (.exc H2)):evS call N b (.append a e) l H=some (.exc H2):=bndS_ok h1 (bndS_ex h2)
theorem au_ex {i:Nat} {e:E} {l:Loc} {H H1:Hp} {u:V} (hu:l[i]?=some (some u)) (h1:evE call b l e H=some (.exc H1)):evS call N b (.aug i e) l H=some (.exc H1):=by (conv=>lhs; whnf); rw [hu]; exact bndS_ex h1
mutual
theorem wS_ok:∀ (s:S) (l:Loc) (H:Hp) (k:RS→Prop),OkS call N b s l H k→wS call N b s l H k
 | .assign _ e,l,H,k,hk=>wE_ok e H _ _ (fun _ H1 h1=>hk _ (bndS_ok h1 rfl)) fun _ h1=>hk _ (bndS_ex h1)
 | .unpack _ e,l,H,k,hk=>wE_ok e H _ _ (fun _ H1 h1=>onT_ok fun _ q=>onO_ok fun _ h=>hk _ (bndS_ok (sv h1 q) (map_ok h))) fun _ h1=>hk _ (bndS_ex h1)
 | .aug _ e,l,H,k,hk=>onO_ok fun _ h=>onO_ok fun _ h'=>wE_ok e H _ _ (fun _ H1 h1=>aug_ok hk (so h h') h1) fun _ h1=>hk _ (au_ex (so h h') h1)
 | .append a e,l,H,k,hk=>wE_ok a H _ _ (fun _ H1 h1=>onR_ok fun _ q=>wE_ok e H1 _ _ (fun _ _ h2 _ h h'=>hk _ (ap_ok (sv h1 q) h2 h h')) fun _ h2=>hk _ (ap_ex (sv h1 q) h2)) fun _ h1=>hk _ (bndS_ex h1)
 | .ite c x y,l,H,k,hk=>wE_ok c H _ _ (fun _ H1 h1=>onB_ok (fun q=>wSs_ok x l H1 _ fun _ h=>hk _ (bndS_ok (sv h1 q) h)) fun q=>wSs_ok y l H1 _ fun _ h=>hk _ (bndS_ok (sv h1 q) h)) fun _ h1=>hk _ (bndS_ex h1)
 | .ret e,l,H,k,hk=>wE_ok e H _ _ (fun _ H1 h1=>hk _ (bndS_ok h1 rfl)) fun _ h1=>hk _ (bndS_ex h1)
 | .raise e,l,H,k,hk=>wE_ok e H _ _ (fun _ H1 h1=>onI_ok fun _ q=>hk _ (bndS_ok (sv h1 q) rfl)) fun _ h1=>hk _ (bndS_ex h1)
 | .cont,l,H,k,hk=>hk _ rfl
 | .assignC _ _ _ _,l,H,k,hk=>wS_any hk
 | .setIdx _ _ _,l,H,k,hk=>wS_any hk
 | .while _ _,l,H,k,hk=>wS_any hk
 | .forE _ _ _,l,H,k,hk=>wS_any hk
 | .forR _ _ _,l,H,k,hk=>wS_any hk
 | .zipStr _ _ _ _ _,l,H,k,hk=>wS_any hk
 | .tryRet _,l,H,k,hk=>wS_any hk
theorem wSs_ok:∀ (s:Ss) (l:Loc) (H:Hp) (k:RS→Prop),(∀ r,evSs call N b s l H=some r→k r)→wSs call N b s l H k
 | .nil,l,H,k,hk=>hk _ rfl
 | .cons s r,l,H,k,hk=>wS_ok s l H _ fun _ h1=>onNx_ok (fun l' H' q=>wSs_ok r l' H' _ fun _ h=>hk _ (ss_nx (so h1 q) h)) fun hn=>hk _ (ss_no h1 hn)
end
theorem walk (s:Ss) (l:Loc) (H:Hp):wSs call N b s l H fun r=>evSs call N b s l H=some r:=wSs_ok s l H _ fun _ h=>h
theorem walkE (e:E) (l:Loc) (H:Hp):wE call b l e H (fun v H'=>evE call b l e H=some (.ok v H')) fun H'=>evE call b l e H=some (.exc H'):=wE_ok e H _ _ (fun _ _ h=>h) fun _ h=>h
end
end Mine
end
section
section
namespace Mine.P
theorem ZA {α:Type} (a:α) (l:List α):(a :: l)[0]?=some a:=rfl
theorem ZB {α:Type} (a:α) (l:List α) (i:Nat):(a :: l)[i + 1]?=l[i]?:=rfl
theorem ZC {α:Type} (a b:α) (l:List α):(a :: l).set 0 b=b :: l:=rfl
theorem ZD {α:Type} (a b:α) (l:List α) (i:Nat):(a :: l).set (i + 1) b=a :: l.set i b:=rfl
theorem ZE {α β:Type} (f:α→β) (a:α):(some a).map f=some (f a):=rfl
theorem ZF {α β:Type} (f:α→β):(none:Option α).map f=none:=rfl
theorem ZG {α β:Type} (f:α→β) (a:α) (l:List α):(a :: l).map f=f a :: l.map f:=rfl
theorem ZH {α β:Type} (f:α→β):([]:List α).map f=[]:=rfl
theorem ZI {α:Type} (a:α) (l m:List α):(a :: l)++m=a :: (l++m):=rfl
theorem ZJ {α:Type} (l:List α):[]++l=l:=rfl
noncomputable def Suf (t u:Txt):Prop:=∃ p,t=p++u
noncomputable def pos (t u:Txt):Nat:=t.length - u.length
theorem Suf.rfl' (t:Txt):Suf t t:=⟨[],rfl⟩
theorem Suf.tail {t:Txt} {c:Nat} {r:Txt} (h:Suf t (c :: r)):Suf t r:=by
 obtain ⟨p,rfl⟩:=h
 exact ⟨p++[c],by simp⟩
theorem Suf.len {t u:Txt} (h:Suf t u):u.length≤t.length:=by
 obtain ⟨p,rfl⟩:=h
 simp
theorem Suf.app {t u:Txt} {p:Txt} (h:Suf t (p++u)):Suf t u:=by
 obtain ⟨q,rfl⟩:=h
 exact ⟨q++p,by simp⟩
theorem Suf.trans {t u v:Txt} (h:Suf t u) (k:Suf u v):Suf t v:=by
 obtain ⟨q,rfl⟩:=k
 exact h.app
theorem nsub {a b k:Nat} (h1:b≤a) (h2:k≤b):a - (b - k)=a - b + k:=(Nat.sub_sub_right a h2).trans (Nat.sub_add_comm h1)
theorem pos_self (t:Txt):pos t t=0:=by simp [pos]
theorem pos_nil (t:Txt):pos t []=t.length:=by simp [pos]
theorem pos_tail {t:Txt} {c:Nat} {r:Txt} (h:Suf t (c :: r)):pos t r=pos t (c :: r) + 1:=by
 exact nsub h.len (Nat.succ_pos _)
theorem pos_lt {t:Txt} {c:Nat} {r:Txt} (h:Suf t (c :: r)):pos t (c :: r) < t.length:=Nat.sub_lt (Nat.lt_of_lt_of_le (Nat.succ_pos _) h.len) (Nat.succ_pos _)
theorem pos_len {t u:Txt} (h:Suf t u):pos t u + u.length=t.length:=Nat.sub_add_cancel h.len
theorem pos_le {t u:Txt}:pos t u≤t.length:=Nat.sub_le _ _
theorem drop_pos {t u:Txt} (h:Suf t u):t.drop (pos t u)=u:=by
 obtain ⟨p,rfl⟩:=h
 simp [pos]
theorem get_pos {t:Txt} {c:Nat} {r:Txt} (h:Suf t (c :: r)):t[pos t (c :: r)]?=some c:=by
 have:=drop_pos h
 rw [← List.head?_drop,this]; rfl
section
variable {t u:Txt} {H:Hp}
theorem e_lt (h:Suf t u):((pos t u:Int) < (t.length:Int))↔u≠[]:=by
 cases u with
 | nil=>exact ⟨fun z=>by rw [pos_nil] at z; exact absurd z (Int.lt_irrefl _),fun z=>(z rfl).elim⟩
 | cons c r=>exact ⟨fun _=>List.cons_ne_nil _ _,fun _=>Int.ofNat_lt.mpr (pos_lt h)⟩
theorem e_idx {c:Nat} {r:Txt} (h:Suf t (c :: r)):idxV H (.str t) (.int (pos t (c :: r):Nat))=some (.str [c]):=by
 show (if 0≤((pos t (c :: r):Nat):Int) then (t[pos t (c :: r)]?).map fun c=>V.str [c] else .none)=_
 rw [if_pos (Int.natCast_nonneg _),get_pos h]; rfl
theorem bound_nat' {n d k:Nat} (hk:k≤1000000):bound n d (.int (k:Int))=some (min k n):=by
 have hc:(capL:Int)=1048576:=rfl
 exact (if_pos (c:=-(capL:Int)≤(k:Int)∧(k:Int)≤capL) (e:=(.none:Option Nat)) (by omega)).trans (congrArg some (if_neg (Int.not_lt.mpr (Int.natCast_nonneg k))))
theorem cut_nat {a b:Nat} (ha:a≤1000000) (hb:b≤1000000):cut t (.int (a:Int)) (.int (b:Int))=some ((t.take (min b t.length)).drop (min a t.length)):=by
 show (match bound t.length 0 (.int (a:Int)),bound t.length t.length (.int (b:Int)) with | some a,some b=>some ((t.take b).drop a) | _,_=>.none)=_
 rw [bound_nat' ha,bound_nat' hb]
theorem e_sl {a b:Nat} (ha:a≤1000000) (hb:b≤1000000):slV (.str t) (.int (a:Int)) (.int (b:Int))=some (.str ((t.take b).drop a)):=by
 refine (congrArg (Option.map V.str) (cut_nat ha hb)).trans ?_
 show some (V.str _)=_
 congr 2
 rw [show t.take (min b t.length)=t.take b by rw [List.take_eq_take_iff]; omega]
 rcases Nat.le_total a t.length with q | q
 ·rw [Nat.min_eq_left q]
 ·rw [Nat.min_eq_right q,List.drop_of_length_le (by simp; omega),List.drop_of_length_le (by simp; omega)]
theorem e_sl1 (h:Suf t u) (ht:t.length≤100000):slV (.str t) (.int (pos t u:Nat)) (.int ((pos t u:Nat) + 1))=some (.str (u.take 1)):=by
 have:=@pos_le t u
 have e:=e_sl (t:=t) (a:=pos t u) (b:=pos t u + 1) (by omega) (by omega)
 rw [show (((pos t u + 1:Nat)):Int)=(pos t u:Int) + 1 by omega] at e
 rw [e,List.drop_take,drop_pos h,show pos t u + 1 - pos t u=1 by omega]
end
theorem callF_succ (N n f:Nat) (args:List V) (H:Hp) {fn:Fn} (h:theFn f=some fn):callF theFn N (n + 1) f args H=runF (callF theFn N n) N fn args H:=by
 (conv=>lhs; whnf); rw [h]
theorem whileL_succ (c:Loc→Hp→Option (Res V)) (body:Loc→Hp→Option RS) (n:Nat) (l:Loc) (H:Hp):whileL c body (n + 1) l H=bndS (c l H) fun v H =>
  match v with
  | .bool false=>some (.next l H)
  | .bool true =>
   match body l H with
   | some (.next l H)=>whileL c body n l H
   | some (.cont l H)=>whileL c body n l H
   | r=>r
  | _=>.none:=rfl
noncomputable def skip:Txt→Txt
 | []=>[]
 | c :: r=>if c=32 then skip r else c :: r
theorem skip_suf:∀ u:Txt,Suf u (skip u)
 | []=>.rfl' _
 | c :: r=>by
  by_cases q:c=32
  ·obtain ⟨p,hp⟩:=skip_suf r
   exact ⟨c :: p,(congrArg (c :: ·) hp).trans (congrArg (fun x=>c :: (p++x)) (if_pos q).symm)⟩
  ·exact ⟨[],(if_neg q).symm⟩
section
variable {c:Loc→Hp→Option (Res V)} {body:Loc→Hp→Option RS} {n:Nat} {l l':Loc} {H H' H'':Hp}
theorem wh_next {r:Option RS} (h1:c l H=some (.ok (.bool true) H')) (h2:body l H'=some (.next l' H'')) (h3:whileL c body n l' H''=r):whileL c body (n + 1) l H=r:=by
 rw [whileL_succ,h1]; simp only [bndS,h2]; exact h3
theorem wh_cont {r:Option RS} (h1:c l H=some (.ok (.bool true) H')) (h2:body l H'=some (.cont l' H'')) (h3:whileL c body n l' H''=r):whileL c body (n + 1) l H=r:=by
 rw [whileL_succ,h1]; simp only [bndS,h2]; exact h3
theorem wh_ret {v:V} (h1:c l H=some (.ok (.bool true) H')) (h2:body l H'=some (.ret v H'')):whileL c body (n + 1) l H=some (.ret v H''):=by
 rw [whileL_succ,h1]; simp only [bndS,h2]
theorem wh_exc (h1:c l H=some (.ok (.bool true) H')) (h2:body l H'=some (.exc H'')):whileL c body (n + 1) l H=some (.exc H''):=by
 rw [whileL_succ,h1]; simp only [bndS,h2]
theorem wh_end (h1:c l H=some (.ok (.bool false) H')):whileL c body (n + 1) l H=some (.next l H'):=by
 rw [whileL_succ,h1]; simp only [bndS]
end
theorem beq1 (a b:Nat):(([a]:List Nat)==[b])=(a==b):=by simp
theorem pl_str (n:Nat) (s:Txt):V.plain n (.str s)=true:=by cases n <;> rfl
theorem pl_int (n:Nat) (s:Int):V.plain n (.int s)=true:=by cases n <;> rfl
theorem pl_none (n:Nat):V.plain n .none=true:=by cases n <;> rfl
theorem bq_str (a b:Txt):(V.str a).beq (.str b)=(a==b):=rfl
section
variable {t:Txt} {call:Nat→List V→Hp→Option (Res V)} {b N:Nat} {H:Hp}
noncomputable def wBlankC:E:=.and (.cmp .lt (.loc 1) (.len (.loc 0))) (.cmp .eq (.idx (.loc 0) (.loc 1)) (.str [32]))
noncomputable def wBlankB:Ss:=.cons (.aug 1 (.int 1)) .nil
theorem wb_t {i:Int} {r:Option (Res V)} (h:decide (i < (t.length:Int))=true) (g:evE call b [some (.str t),some (.int i)] (.cmp .eq (.idx (.loc 0) (.loc 1)) (.str [32])) H=r):evE call b [some (.str t),some (.int i)] wBlankC H=r:=bnd_ok (x:=evE call b [some (.str t),some (.int i)] (.cmp .lt (.loc 1) (.len (.loc 0))) H) (bo h) g
theorem wb_e {c:Nat} {r:Txt} {k:Bool} (h:Suf t (c :: r)) (hc:(c==32)=k):evE call b [some (.str t),some (.int (pos t (c :: r):Nat))] (.cmp .eq (.idx (.loc 0) (.loc 1)) (.str [32])) H=some (.ok (.bool k) H) :=
 bnd_ok (bnd_ok rfl (bnd_ok rfl (tell_ok (e_idx h)))) (bnd_ok rfl (tell_ok (map_ok (so (v:=(V.str [c]).beq (.str [32])) rfl (by rw [bq_str,beq1,hc])))))
theorem l_blanks:∀ (u:Txt) (M:Nat),Suf t u→u.length < M →
  whileL (fun l H=>evE call b l wBlankC H) (fun l H=>evSs call N b wBlankB l H) M [some (.str t),some (.int (pos t u:Nat))] H=some (.next [some (.str t),some (.int (pos t (skip u):Nat))] H)
 | [],M + 1,h,hM=>wh_end (bnd_ok (x:=evE call b [some (.str t),some (.int (pos t []:Nat))] (.cmp .lt (.loc 1) (.len (.loc 0))) H) (bo (y:=false) (decide_eq_false (by rw [pos_nil]; exact Int.lt_irrefl _))) rfl)
 | c :: r,M + 1,h,hM=>by
  have hl:decide (((pos t (c :: r):Nat):Int) < (t.length:Int))=true:=decide_eq_true (Int.ofNat_lt.mpr (pos_lt h))
  by_cases hc:c=32
  ·subst hc
   exact wh_next (wb_t hl (wb_e h rfl)) rfl ((congrArg (fun i:Nat=>whileL (fun l H=>evE call b l wBlankC H) (fun l H=>evSs call N b wBlankB l H) M [some (.str t),some (.int (i:Nat))] H) (pos_tail h).symm).trans (l_blanks r M h.tail (Nat.lt_of_succ_lt_succ hM)))
  ·rw [show skip (c :: r)=c :: r from if_neg hc]
   exact wh_end (wb_t hl (wb_e h (beq_eq_false_iff_ne.mpr hc)))
theorem run_ret {fn:Fn} {args:List V} {v:V} {H':Hp} (h0:args.length=fn.params) (h:evSs call N H.length fn.body (args.map some++List.replicate (fn.vars.length - fn.params) none) H=some (.ret v H')) (hp:v.pure=true) (ht:H'.take H.length=H) :
  runF call N fn args H=some (.ok v H):=by
 refine (if_pos h0).trans ?_
 rw [h]
 exact (if_pos hp).trans (congrArg (fun H=>some (Res.ok v H)) ht)
theorem run_exc {fn:Fn} {args:List V} {H':Hp} (h0:args.length=fn.params) (h:evSs call N H.length fn.body (args.map some++List.replicate (fn.vars.length - fn.params) none) H=some (.exc H')) (ht:H'.take H.length=H) :
  runF call N fn args H=some (.exc H):=by
 refine (if_pos h0).trans ?_
 rw [h]
 exact congrArg (fun H=>some (Res.exc H)) ht
theorem ss_next {s:S} {r:Ss} {l l':Loc} {H':Hp} {x:Option RS} (h:evS call N b s l H=some (.next l' H')) (h2:evSs call N b r l' H'=x):evSs call N b (.cons s r) l H=x:=by
 (conv=>lhs; whnf); rw [h]; exact h2
theorem ss_ret {s:S} {r:Ss} {l:Loc} {v:V} {H':Hp} (h:evS call N b s l H=some (.ret v H')):evSs call N b (.cons s r) l H=some (.ret v H'):=by
 (conv=>lhs; whnf); rw [h]
theorem s_pass_blanks {u:Txt} {n:Nat} (h:Suf t u) (hN:u.length < N) :
  callF theFn N (n + 1) 0 [.str t,.int (pos t u:Nat)] H=some (.ok (.int (pos t (skip u):Nat)) H) :=
 (callF_succ N n 0 _ _ rfl).trans (run_ret rfl (ss_next (l':=[some (.str t),some (.int (pos t (skip u):Nat))]) (H':=H) (l_blanks u N h hN) rfl) rfl List.take_length)
theorem s_is_at {u:Txt} {n:Nat} (h:Suf t u) (ht:t.length≤100000) (s:Txt) :
  callF theFn N (n + 1) 3 [.str t,.int (pos t u:Nat),.str s] H=some (.ok (.bool (u.take 1==s)) H) :=
 (callF_succ N n 3 _ _ rfl).trans (run_ret (H':=H) rfl (ss_ret (bndS_ok (bnd_ok (bnd_ok rfl (bnd_ok rfl (bnd_ok rfl (tell_ok (e_sl1 h ht))))) (bnd_ok rfl (tell_ok (map_ok (so (v:=(V.str (u.take 1)).beq (.str s)) rfl (bq_str _ _)))))) rfl)) rfl List.take_length)
end
end Mine.P
end
section
namespace Mine.P
noncomputable def outC (x:Option (Res V)) (H:Hp):RS→Prop
 | .ret v H'=>v.pure=true→H'.take H.length=H→x=some (.ok v H)
 | .exc H'=>H'.take H.length=H→x=some (.exc H)
 | _=>True
theorem wC {N:Nat} (n f:Nat) (fn:Fn) (args:List V) (H:Hp) (h:theFn f=some fn) (h0:args.length=fn.params):wSs (callF theFn N n) N H.length fn.body (args.map some++List.replicate (fn.vars.length - fn.params) none) H (outC (callF theFn N (n + 1) f args H) H) :=
 wSs_ok _ _ _ _ fun r hr=>by
  rw [callF_succ N n f args H h]
  cases r <;> first | trivial | exact fun hp ht=>run_ret h0 hr hp ht | exact fun ht=>run_exc h0 hr ht
theorem iteP {α:Type} {P:α→Prop} {c:Prop} [Decidable c] {x y:α} (h1:c→P x) (h2:¬ c→P y):P (if c then x else y):=by
 by_cases q:c
 ·rw [if_pos q]; exact h1 q
 ·rw [if_neg q]; exact h2 q
theorem sInt {x y:Int} (h:x=y):some (V.int x)=some (.int y):=by rw [h]
theorem or1 {c a b:Nat} (h:c=a∨c=b):(c==a||c==b)=true:=by rcases h with h | h <;> simp [h]
theorem or0 {c a b:Nat} (h:¬ (c=a∨c=b)):(c==a||c==b)=false:=by simpa using h
section
variable {call:Call} {N b:Nat} {c:E} {bd:Ss}
noncomputable abbrev Wh (call:Call) (N b:Nat) (c:E) (bd:Ss) (M:Nat) (l:Loc) (H:Hp) (r:RS):Prop:=whileL (fun l H=>evE call b l c H) (fun l H=>evSs call N b bd l H) M l H=some r
noncomputable def whK (call:Call) (N b:Nat) (c:E) (bd:Ss) (M:Nat) (G:RS→Prop):RS→Prop
 | .next l H=>∀ ⦃r⦄,Wh call N b c bd M l H r→G r
 | .cont l H=>∀ ⦃r⦄,Wh call N b c bd M l H r→G r
 | .ret v H=>G (.ret v H)
 | .exc H=>G (.exc H)
theorem wh_step {M:Nat} {l:Loc} {H:Hp} {r:RS} (h:∀ G:RS→Prop,wE call b l c H (fun v H=>onB v (wSs call N b bd l H (whK call N b c bd M G)) (G (.next l H))) (fun H=>G (.exc H))→G r):Wh call N b c bd (M + 1) l H r :=
 h (fun r=>Wh call N b c bd (M + 1) l H r) (wE_ok c H _ _ (fun _ H1 h1=>onB_ok (fun e=>wSs_ok bd l H1 _ fun o ho=>match o,ho with
  | .next _ _,ho=>fun _ g=>wh_next (sv h1 e) ho g
  | .cont _ _,ho=>fun _ g=>wh_cont (sv h1 e) ho g
  | .ret _ _,ho=>wh_ret (sv h1 e) ho
  | .exc _,ho=>wh_exc (sv h1 e) ho) fun e=>wh_end (sv h1 e)) fun _ h1=>by show _=_; rw [whileL_succ,h1]; rfl)
noncomputable abbrev Fo (call:Call) (N b:Nat) (x:Nat) (bd:Ss) (vs:List V) (l:Loc) (H:Hp) (r:RS):Prop:=forL (put1 x) (fun l H=>evSs call N b bd l H) vs l H=some r
noncomputable def foK (call:Call) (N b:Nat) (x:Nat) (bd:Ss) (vs:List V) (G:RS→Prop):RS→Prop
 | .next l H=>∀ ⦃r⦄,Fo call N b x bd vs l H r→G r
 | .cont l H=>∀ ⦃r⦄,Fo call N b x bd vs l H r→G r
 | .ret v H=>G (.ret v H)
 | .exc H=>G (.exc H)
theorem fo_step {x:Nat} {v:V} {vs:List V} {l:Loc} {H:Hp} {r:RS} (h:∀ G:RS→Prop,wSs call N b bd (l.set x (some v)) H (foK call N b x bd vs G)→G r):Fo call N b x bd (v :: vs) l H r :=
 h (fun r=>Fo call N b x bd (v :: vs) l H r) (wSs_ok bd _ H _ fun o ho=>match o,ho with
  | .next _ _,ho=>fun _ g=>by show (match (evSs call N b bd (l.set x (some v)) H) with | some (.next l H)=>forL (put1 x) (fun l H=>evSs call N b bd l H) vs l H | some (.cont l H)=>forL (put1 x) (fun l H=>evSs call N b bd l H) vs l H | r=>r)=_; rw [ho]; exact g
  | .cont _ _,ho=>fun _ g=>by show (match (evSs call N b bd (l.set x (some v)) H) with | some (.next l H)=>forL (put1 x) (fun l H=>evSs call N b bd l H) vs l H | some (.cont l H)=>forL (put1 x) (fun l H=>evSs call N b bd l H) vs l H | r=>r)=_; rw [ho]; exact g
  | .ret _ _,ho=>by show (match (evSs call N b bd (l.set x (some v)) H) with | some (.next l H)=>forL (put1 x) (fun l H=>evSs call N b bd l H) vs l H | some (.cont l H)=>forL (put1 x) (fun l H=>evSs call N b bd l H) vs l H | r=>r)=_; rw [ho]
  | .exc _,ho=>by show (match (evSs call N b bd (l.set x (some v)) H) with | some (.next l H)=>forL (put1 x) (fun l H=>evSs call N b bd l H) vs l H | some (.cont l H)=>forL (put1 x) (fun l H=>evSs call N b bd l H) vs l H | r=>r)=_; rw [ho])
end
end Mine.P
end
section
set_option genSizeOf false
set_option genInjectivity false
namespace Mine.P
inductive It where
 | nums (w:Txt) (ps:List (Option Int))
 | text (s:Txt)
 | rep (k:Int) (i:It)
 | grp (k:Int) (l:List It)
noncomputable def pV:Option Int→V
 | .none=>.none
 | some i=>.int i
mutual
noncomputable def It.toV:It→V
 | .nums w ps=>.tup (.str w :: ps.map pV)
 | .text s=>.tup [.str [72],.str s]
 | .rep k i=>.tup [.str [114,101,112,101,97,116],.int k,i.toV]
 | .grp k l=>.tup [.str [103,114,111,117,112],.int k,.lst (toVs l)]
noncomputable def toVs:List It→List V
 | []=>[]
 | i :: l=>i.toV :: toVs l
end
mutual
theorem It.pure:∀ i:It,i.toV.pure=true
 | .nums w ps=>by
  have:∀ ps:List (Option Int),V.pures (ps.map pV)=true:=by
   intro ps
   induction ps with
   | nil=>rfl
   | cons p ps ih=>cases p <;> exact ih
  exact this ps
 | .text s=>rfl
 | .rep k i=>(Bool.and_true _).trans (It.pure i)
 | .grp k l=>(Bool.and_true _).trans (Its.pure l)
theorem Its.pure:∀ l:List It,V.pures (toVs l)=true
 | []=>rfl
 | i :: l=>Bool.and_eq_true_iff.mpr ⟨It.pure i,Its.pure l⟩
end
theorem toVs_append:∀ l m:List It,toVs (l++m)=toVs l++toVs m
 | [],m=>rfl
 | i :: l,m=>by simp [toVs,toVs_append l m]
theorem toVs_len:∀ l:List It,(toVs l).length=l.length
 | []=>rfl
 | i :: l=>by simp [toVs,toVs_len l]
theorem toVs_map:∀ l:List It,toVs l=l.map It.toV
 | []=>rfl
 | i :: l=>by simp [toVs,toVs_map l]
noncomputable def isDig (c:Nat):Bool:=48≤c&&c≤57
noncomputable def isVal (c:Nat):Bool:=c=73||c=70||c=69||c=68||c=71||c=76||c=65
noncomputable def numGo (v:Nat):Txt→Option (Nat × Txt)
 | []=>some (v,[])
 | c :: r=>if c=32 then numGo v r else if isDig c then (if 10 * v + (c - 48) > 9999 then none else numGo (10 * v + (c - 48)) r) else some (v,c :: r)
noncomputable def numC (u:Txt):Option (Option Nat × Txt) :=
 match skip u with
 | []=>some (none,[])
 | c :: r=>if isDig c then (numGo (c - 48) r).map fun p=>(some p.1,p.2) else some (none,c :: r)
noncomputable def sizeC (least:Nat) (u:Txt):Option (Nat × Txt) :=
 match numC u with
 | some (some v,r)=>if v < least then none else some (v,r)
 | _=>none
noncomputable def aft (c:Nat):Txt→Option Txt
 | []=>none
 | d :: r=>if d=c then some r else none
noncomputable def wholeC (u:Txt):Option (It × Txt) :=
 match sizeC 1 u with
 | none=>none
 | some (w,r)=>(match aft 46 r with
  | some r1=>(match sizeC 0 r1 with
   | none=>none
   | some (d,r2)=>if w < d then none else some (.nums [73] [some (w:Int),some (d:Int)],r2))
  | none=>some (.nums [73] [some (w:Int),none],r))
noncomputable def realC (letter:Nat) (u:Txt):Option (It × Txt) :=
 match sizeC 1 u with
 | none=>none
 | some (w,r)=>(match aft 46 r with
  | none=>none
  | some r1=>(match sizeC 0 r1 with
   | none=>none
   | some (d,r2)=>if letter=70∨letter=68 then some (.nums [letter] [some (w:Int),some (d:Int)],r2) else
    (match aft 69 r2 with
    | none=>some (.nums [letter] [some (w:Int),some (d:Int),none],r2)
    | some r3=>(match sizeC 1 r3 with
     | none=>none
     | some (e,r4)=>some (.nums [letter] [some (w:Int),some (d:Int),some (e:Int)],r4)))))
noncomputable def valueC (letter:Nat) (u:Txt):Option (It × Txt) :=
 if letter=73 then wholeC u else
 if letter=76 then (sizeC 1 u).map fun p=>(.nums [76] [some (p.1:Int)],p.2) else
 if letter=65 then (match numC u with
  | none=>none
  | some (some v,r)=>if v=0 then none else some (.nums [65] [some (v:Int)],r)
  | some (none,r)=>some (.nums [65] [none],r)) else
 realC letter u
noncomputable def quotedGo (out:Txt):Txt→Option (It × Txt)
 | []=>none
 | c :: r=>if c≠39 then quotedGo (out++[c]) r else
  match r with
  | []=>if out=[] then none else some (.text out,[])
  | d :: r'=>if d=39 then quotedGo (out++[39]) r' else if out=[] then none else some (.text out,d :: r')
noncomputable def countedText (u:Txt) (k:Nat):Option (It × Txt):=if k≤u.length then some (.text (u.take k),u.drop k) else none
noncomputable def scaleC (sign:Nat) (u:Txt):Option (It × Txt) :=
 match sizeC 0 u with
 | none=>none
 | some (v,r)=>(match aft 80 r with
  | none=>none
  | some r1=>some (.nums [80] [some (if sign=45 then -(v:Int) else v)],r1))
noncomputable def tabC (w:Txt) (u:Txt):Option (It × Txt):=(sizeC 1 u).map fun p=>(.nums w [some (p.1:Int)],p.2)
noncomputable def cc83:Txt→Option (It × Txt)
 | d :: r'=>if d=80∨d=83 then some (.nums [83,d] [],r') else some (.nums [83] [],d :: r')
 | []=>some (.nums [83] [],[])
noncomputable def cc66:Txt→Option (It × Txt)
 | d :: r'=>if d=78∨d=90 then some (.nums [66,d] [],r') else none
 | []=>none
noncomputable def cc84:Txt→Option (It × Txt)
 | d :: r'=>if d=76∨d=82 then tabC [84,d] r' else tabC [84] (d :: r')
 | []=>none
noncomputable def controlC (c:Nat) (r:Txt):Option (It × Txt) :=
 if c=47∨c=58 then some (.nums [c] [],r) else
 if c=83 then cc83 (skip r) else
 if c=66 then cc66 (skip r) else
 if c=84 then cc84 (skip r) else none
noncomputable def countedC (g:Nat→Txt→Option (It × Txt)) (u:Txt):Option (It × Txt) :=
 match numC u with
 | some (some k,r)=>(match r with
  | []=>none
  | c :: r'=>if c=80 then some (.nums [80] [some (k:Int)],r') else
   if k=0 then none else
   if c=88 then some (.nums [88] [some (k:Int)],r') else
   if c=72 then countedText r' k else
   if c=40 then g k r' else
   if isVal c then (valueC c r').map fun p=>(if 1 < k then .rep k p.1 else p.1,p.2) else none)
 | _=>none
noncomputable def itemC (g:Nat→Txt→Option (It × Txt)):Txt→Option (It × Txt)
 | []=>none
 | c :: r=>if isDig c then countedC g (c :: r) else if c=39 then quotedGo [] r else if c=43∨c=45 then scaleC c r else
  if c=40 then g 1 r else if isVal c then valueC c r else controlC c r
noncomputable def It.word:It→Txt
 | .nums w _=>w
 | .text _=>[72]
 | .rep _ _=>[114,101,112,101,97,116]
 | .grp _ _=>[103,114,111,117,112]
noncomputable def It.kind:It→Txt
 | .rep _ i=>i.word
 | i=>i.word
noncomputable def loose (a b:It):Bool:=a.word=[47]||a.word=[58]||b.word=[47]||b.word=[58]||(a.word=[80]&&(b.kind=[70]||b.kind=[69]||b.kind=[68]||b.kind=[71]))
noncomputable def looseLast (acc:List It) (i:It):Bool:=match acc.getLast? with
 | some a=>loose a i
 | none=>true
noncomputable def itemsC:Nat→Nat→List It→Bool→Txt→Option (List It × Txt)
 | 0,_,_,_,_=>none
 | f + 1,lim,acc,after,u =>
  match skip u with
  | []=>none
  | c :: r =>
   if c=44∨c=41 then
    if after||(c=44&&acc.isEmpty) then none else
    if c=41 then some (acc,r) else itemsC f lim acc true r
   else
    match itemC (fun k u=>match lim with
     | 0=>none
     | m + 1=>match itemsC f m [] false u with
      | some (i :: l,r)=>some (.grp k (i :: l),r)
      | _=>none) (c :: r) with
    | none=>none
    | some (i,u')=>if !after&&!looseLast acc i then none else itemsC f lim (acc++[i]) false u'
noncomputable def parseC (f:Nat) (u:Txt):Option (List It) :=
 match skip u with
 | c :: r=>if c=40 then (match itemsC f 10 [] false r with
  | some (l,r')=>if skip r'=[] then some l else none
  | none=>none) else none
 | []=>none
theorem iteT {α:Type} {b:Bool} {x y:α} (h:b=true):(if b=true then x else y)=x:=if_pos h
theorem iteF {α:Type} {b:Bool} {x y:α} (h:b=false):(if b=true then x else y)=y:=if_neg (ne_true_of_eq_false h)
noncomputable def words:List Txt:=[[73],[76],[65],[70],[69],[68],[71],[80],[88],[47],[58],[83],[83,80],[83,83],[66,78],[66,90],[84],[84,76],[84,82]]
noncomputable def wordsA:List Txt:=words++[[72],[114,101,112,101,97,116],[103,114,111,117,112]]
theorem val_words {c:Nat} (h:isVal c=true):[c]∈words:=by
 simp [isVal] at h
 rcases h with (((((rfl | rfl) | rfl) | rfl) | rfl) | rfl) | rfl <;> decide
noncomputable def It.flat:It→Prop
 | .nums w _=>w∈words
 | _=>False
noncomputable def wholeK2 (w:Nat):Option (Nat × Txt)→Option (It × Txt)
 | none=>none
 | some (d,r)=>if w < d then none else some (.nums [73] [some (w:Int),some (d:Int)],r)
noncomputable def wholeK1 (w:Nat) (r:Txt):Option Txt→Option (It × Txt)
 | some r1=>wholeK2 w (sizeC 0 r1)
 | none=>some (.nums [73] [some (w:Int),none],r)
noncomputable def wholeK:Option (Nat × Txt)→Option (It × Txt)
 | none=>none
 | some (w,r)=>wholeK1 w r (aft 46 r)
theorem wholeC_K {u:Txt}:wholeC u=wholeK (sizeC 1 u):=by
 unfold wholeC
 rcases sizeC 1 u with _ | ⟨w,r⟩
 ·rfl
 ·show _=wholeK1 w r (aft 46 r)
  dsimp only
  cases aft 46 r with
  | none=>rfl
  | some r1=>show _=wholeK2 w (sizeC 0 r1); dsimp only; cases sizeC 0 r1 <;> rfl
noncomputable def realK3 (c w d:Nat):Option (Nat × Txt)→Option (It × Txt)
 | none=>none
 | some (e,r)=>some (.nums [c] [some (w:Int),some (d:Int),some (e:Int)],r)
noncomputable def realK2 (c w d:Nat) (r:Txt):Option Txt→Option (It × Txt)
 | none=>some (.nums [c] [some (w:Int),some (d:Int),none],r)
 | some r=>realK3 c w d (sizeC 1 r)
noncomputable def realK1 (c w:Nat):Option (Nat × Txt)→Option (It × Txt)
 | none=>none
 | some (d,r)=>if c=70∨c=68 then some (.nums [c] [some (w:Int),some (d:Int)],r) else realK2 c w d r (aft 69 r)
noncomputable def realK0 (c w:Nat):Option Txt→Option (It × Txt)
 | none=>none
 | some r=>realK1 c w (sizeC 0 r)
noncomputable def realK (c:Nat):Option (Nat × Txt)→Option (It × Txt)
 | none=>none
 | some (w,r)=>realK0 c w (aft 46 r)
theorem realC_K {c:Nat} {u:Txt}:realC c u=realK c (sizeC 1 u):=by
 unfold realC
 rcases sizeC 1 u with _ | ⟨w,r⟩
 ·rfl
 show _=realK0 c w (aft 46 r)
 dsimp only
 cases aft 46 r with
 | none=>rfl
 | some r1 =>
  show _=realK1 c w (sizeC 0 r1)
  dsimp only
  rcases sizeC 0 r1 with _ | ⟨d,r2⟩
  ·rfl
  show _=ite _ _ (realK2 c w d r2 (aft 69 r2))
  congr 1
noncomputable def scaleK1 (c v:Nat):Option Txt→Option (It × Txt)
 | none=>none
 | some r=>some (.nums [80] [some (if c=45 then -(v:Int) else v)],r)
noncomputable def scaleK (c:Nat):Option (Nat × Txt)→Option (It × Txt)
 | none=>none
 | some (v,r)=>scaleK1 c v (aft 80 r)
theorem scaleC_K {c:Nat} {u:Txt}:scaleC c u=scaleK c (sizeC 0 u):=by
 unfold scaleC
 rcases sizeC 0 u with _ | ⟨w,r⟩
 ·rfl
 show _=scaleK1 c w (aft 80 r)
 dsimp only
 cases aft 80 r <;> rfl
noncomputable def cntK (g:Nat→Txt→Option (It × Txt)) (k:Nat):Txt→Option (It × Txt)
 | []=>none
 | c :: r=>if c=80 then some (.nums [80] [some (k:Int)],r) else
   if k=0 then none else
   if c=88 then some (.nums [88] [some (k:Int)],r) else
   if c=72 then countedText r k else
   if c=40 then g k r else
   if isVal c then (valueC c r).map fun p=>(if 1 < k then .rep k p.1 else p.1,p.2) else none
theorem cnt_some {g:Nat→Txt→Option (It × Txt)} {u r:Txt} {k:Nat} (h:numC u=some (some k,r)):countedC g u=cntK g k r:=by
 unfold countedC
 rw [h]
 cases r <;> rfl
theorem up {u r:Txt} {c:Nat} (h:Suf u r):Suf (c :: u) r:=by
 obtain ⟨p,hp⟩:=h
 exact ⟨c :: p,by rw [hp]; rfl⟩
noncomputable def So {α:Type} (u:Txt) (x:Option (α × Txt)):Prop:=∀ a r,x=some (a,r)→Suf u r
section
variable {α β:Type} {u v r:Txt} {a:α} {x:Option (α × Txt)}
theorem so_no:So u (none:Option (α × Txt)):=fun _ _ h=>nomatch h
theorem so_so (h:Suf u r):So u (some (a,r)):=fun _ _ e=>by cases e; exact h
theorem so_up {c:Nat} (h:So u x):So (c :: u) x:=fun a r e=>up (h a r e)
theorem so_map {f:α→β} (h:So u x):So u (x.map fun p=>(f p.1,p.2)):=fun _ _ e=>by
 obtain ⟨⟨w,q⟩,h1,h2⟩:=Option.map_eq_some_iff.mp e
 cases h2; exact h w q h1
end
theorem numGo_so:∀ (u:Txt) (v:Nat),So u (numGo v u)
 | [],v=>so_so (.rfl' _)
 | c :: u,v=>iteP (P:=So (c :: u)) (fun _=>so_up (numGo_so u v)) fun _=>iteP (P:=So (c :: u)) (fun _=>iteP (P:=So (c :: u)) (fun _=>so_no) fun _=>so_up (numGo_so u _)) fun _=>so_so (.rfl' _)
theorem numGo_suf (u:Txt) (v:Nat) {w:Nat} {r:Txt}:numGo v u=some (w,r)→Suf u r:=numGo_so u v w r
theorem numC_suf {u r:Txt} {v:Option Nat}:numC u=some (v,r)→Suf u r:=by
 suffices h:So u (numC u) from h v r
 have hs:=skip_suf u
 unfold numC
 cases hk:skip u with
 | nil=>rw [hk] at hs; exact so_so hs
 | cons c r' =>
  rw [hk] at hs
  exact iteP (P:=So u) (fun _=>so_map (f:=some) fun a r e=>hs.trans (up (numGo_so r' (c - 48) a r e))) fun _=>so_so hs
theorem sizeC_suf {k:Nat} {u r:Txt} {v:Nat}:sizeC k u=some (v,r)→Suf u r:=by
 suffices h:So u (sizeC k u) from h v r
 unfold sizeC
 rcases h:numC u with _ | ⟨_ | w,r'⟩
 ·exact so_no
 ·exact so_no
 ·exact iteP (P:=So u) (fun _=>so_no) fun _=>so_so (numC_suf h)
theorem aft_eq {c:Nat} {r r':Txt} (h:aft c r=some r'):r=c :: r':=by
 cases r with
 | nil=>cases h
 | cons d r=>exact iteP (c:=d=c) (x:=some r) (y:=none) (P:=fun x=>x=some r'→d :: r=c :: r') (fun q e=>by cases e; rw [q]) (fun _ e=>nomatch e) h
theorem aft_suf {c:Nat} {u r r':Txt} (s:Suf u r) (h:aft c r=some r'):Suf u r':=by
 rw [aft_eq h] at s; exact s.tail
theorem aft_take {c:Nat} {r r':Txt} (h:aft c r=some r'):(r.take 1==[c])=true:=by
 rw [aft_eq h]; exact beq_self_eq_true [c]
theorem aft_none {c:Nat} {r:Txt} (h:aft c r=none):(r.take 1==[c])=false:=by
 cases r with
 | nil=>rfl
 | cons d r=>exact iteP (c:=d=c) (x:=some r) (y:=none) (P:=fun x=>x=none→([d]==[c])=false) (fun _ e=>nomatch e) (fun q _=>beq_eq_false_iff_ne.mpr fun e=>q (List.cons.inj e).1) h
noncomputable def Po (Q:It→Prop) (u:Txt) (x:Option (It × Txt)):Prop:=∀ i r,x=some (i,r)→Suf u r∧Q i
structure Kinds (Q:It→Prop):Prop where
 nums:∀ {w:Txt},w∈words→∀ ps,Q (.nums w ps)
 text:∀ s,Q (.text s)
 rep:∀ n {w:Txt},w∈words→∀ ps,Q (.rep n (.nums w ps))
section
variable {Q:It→Prop} {u r:Txt}
theorem po_no:Po Q u none:=fun _ _ h=>nomatch h
theorem po_so {i:It} (h:Suf u r) (q:Q i):Po Q u (some (i,r)):=fun _ _ e=>by cases e; exact ⟨h,q⟩
theorem po_tr {x:Option (It × Txt)} (h:Suf u r) (k:Po Q r x):Po Q u x:=fun i v e=>⟨h.trans (k i v e).1,(k i v e).2⟩
theorem tab_po {w:Txt} (hq:∀ ps,Q (.nums w ps)):Po Q u ((sizeC 1 u).map fun p=>(.nums w [some (p.1:Int)],p.2)):=fun i r e=>by
 obtain ⟨⟨k,q⟩,h1,h2⟩:=Option.map_eq_some_iff.mp e
 cases h2; exact ⟨sizeC_suf h1,hq _⟩
theorem whole_po:Po It.flat u (wholeC u):=by
 have h73:([73]:Txt)∈words:=by decide
 rw [wholeC_K]
 rcases h:sizeC 1 u with _ | ⟨w,r⟩
 ·exact po_no
 have s:=sizeC_suf h
 show Po It.flat u (wholeK1 w r (aft 46 r))
 rcases ha:aft 46 r with _ | r1
 ·exact po_so s h73
 show Po It.flat u (wholeK2 w (sizeC 0 r1))
 rcases h2:sizeC 0 r1 with _ | ⟨d,r2⟩
 ·exact po_no
 ·exact iteP (P:=Po It.flat u) (fun _=>po_no) fun _=>po_so ((aft_suf s ha).trans (sizeC_suf h2)) h73
theorem real_po {c:Nat} (hc:[c]∈words):Po It.flat u (realC c u):=by
 rw [realC_K]
 rcases h:sizeC 1 u with _ | ⟨w,r⟩
 ·exact po_no
 have s:=sizeC_suf h
 show Po It.flat u (realK0 c w (aft 46 r))
 rcases ha:aft 46 r with _ | r1
 ·exact po_no
 have s:=aft_suf s ha
 show Po It.flat u (realK1 c w (sizeC 0 r1))
 rcases h2:sizeC 0 r1 with _ | ⟨d,r2⟩
 ·exact po_no
 have s:=s.trans (sizeC_suf h2)
 refine iteP (P:=Po It.flat u) (fun _=>po_so s hc) fun _=>?_
 rcases hb:aft 69 r2 with _ | r3
 ·exact po_so s hc
 have s:=aft_suf s hb
 show Po It.flat u (realK3 c w d (sizeC 1 r3))
 rcases h4:sizeC 1 r3 with _ | ⟨e,r4⟩
 ·exact po_no
 ·exact po_so (s.trans (sizeC_suf h4)) hc
theorem value_po {c:Nat} (hv:isVal c=true):Po It.flat u (valueC c u):=by
 have hc:=val_words hv
 refine iteP (P:=Po It.flat u) (fun _=>whole_po) fun _=>iteP (P:=Po It.flat u) (fun q=>?_) fun _=>iteP (P:=Po It.flat u) (fun q=>?_) fun _=>real_po hc
 ·have h76:([76]:Txt)∈words:=by decide
  exact tab_po fun _=>h76
 ·have h65:([65]:Txt)∈words:=by decide
  rcases h:numC u with _ | ⟨_ | v,r⟩
  ·exact po_no
  ·exact po_so (numC_suf h) h65
  ·exact iteP (P:=Po It.flat u) (fun _=>po_no) fun _=>po_so (numC_suf h) h65
theorem quo_on {out r:Txt} {c:Nat} (h:c≠39):quotedGo out (c :: r)=quotedGo (out++[c]) r:=by cases r <;> exact if_pos h
theorem quo_two {out r:Txt}:quotedGo out (39 :: 39 :: r)=quotedGo (out++[39]) r:=rfl
theorem quo_end {out:Txt}:quotedGo out [39]=if out=[] then none else some (.text out,[]):=rfl
theorem quo_out {out r:Txt} {d:Nat} (h:d≠39):quotedGo out (39 :: d :: r)=if out=[] then none else some (.text out,d :: r):=(if_neg h:(if d=39 then quotedGo (out++[39]) r else if out=[] then none else some (.text out,d :: r))=_)
theorem quoted_po (K:∀ s,Q (.text s)):∀ (m:Nat) (u out:Txt),u.length≤m→Po Q u (quotedGo out u)
 | _,[],out,hm=>po_no
 | m + 1,c :: u,out,hm=>by
  have u1:Suf (c :: u) u:=up (.rfl' _)
  by_cases q:c=39
  ·subst q
   cases u with
   | nil=>rw [quo_end]; exact iteP (P:=Po Q [39]) (fun _=>po_no) fun _=>po_so u1 (K _)
   | cons d u =>
    by_cases q:d=39
    ·subst q; rw [quo_two]; exact po_tr (up (up (.rfl' _))) (quoted_po K m u _ (Nat.le_of_succ_le (Nat.le_of_succ_le_succ hm)))
    ·rw [quo_out q]; exact iteP (P:=Po Q (39 :: d :: u)) (fun _=>po_no) fun _=>po_so u1 (K _)
  ·rw [quo_on q]; exact po_tr u1 (quoted_po K m u _ (Nat.le_of_succ_le_succ hm))
theorem scale_po (K:Kinds Q) {c:Nat}:Po Q u (scaleC c u):=by
 rw [scaleC_K]
 rcases h:sizeC 0 u with _ | ⟨w,r⟩
 ·exact po_no
 show Po Q u (scaleK1 c w (aft 80 r))
 rcases ha:aft 80 r with _ | r1
 ·exact po_no
 ·exact po_so (aft_suf (sizeC_suf h) ha) (K.nums (by decide) _)
theorem control_po (K:Kinds Q) {c:Nat}:Po Q u (controlC c u):=by
 have hs:=skip_suf u
 have tab:∀ {w v:Txt},w∈words→Suf u v→Po Q u (tabC w v):=fun hw h=>po_tr h (tab_po fun _=>K.nums hw _)
 refine iteP (P:=Po Q u) (fun q=>po_so (.rfl' _) (by rcases q with rfl | rfl <;> exact K.nums (by decide) _)) fun _=>iteP (P:=Po Q u) (fun _=>?_) fun _=>iteP (P:=Po Q u) (fun _=>?_) fun _=>iteP (P:=Po Q u) (fun _=>?_) fun _=>po_no
 ·cases hk:skip u with
  | nil=>rw [hk] at hs; exact po_so hs (K.nums (by decide) _)
  | cons d r=>rw [hk] at hs; exact iteP (P:=Po Q u) (fun q=>po_so hs.tail (by rcases q with rfl | rfl <;> exact K.nums (by decide) _)) fun _=>po_so hs (K.nums (by decide) _)
 ·cases hk:skip u with
  | nil=>exact po_no
  | cons d r=>rw [hk] at hs; exact iteP (P:=Po Q u) (fun q=>po_so hs.tail (by rcases q with rfl | rfl <;> exact K.nums (by decide) _)) fun _=>po_no
 ·cases hk:skip u with
  | nil=>exact po_no
  | cons d r=>rw [hk] at hs; exact iteP (P:=Po Q u) (fun q=>tab (by rcases q with rfl | rfl <;> decide) hs.tail) fun _=>tab (by decide) hs
theorem numC_dig {c:Nat} {r:Txt} (h:isDig c=true):numC (c :: r)=(numGo (c - 48) r).map fun p=>(some p.1,p.2):=by
 unfold numC
 rw [show skip (c :: r)=c :: r from if_neg fun q=>by subst q; cases h]
 exact iteT h
theorem cnt_po (K:Kinds Q) {g:Nat→Txt→Option (It × Txt)} (hg:∀ k u,Po Q u (g k u)) {k:Nat}:Po Q u (cntK g k u):=by
 cases u with
 | nil=>exact po_no
 | cons c u =>
  have u1:Suf (c :: u) u:=up (.rfl' _)
  refine iteP (P:=Po Q (c :: u)) (fun _=>po_so u1 (K.nums (by decide) _)) fun _=>iteP (P:=Po Q (c :: u)) (fun _=>po_no) fun _=>iteP (P:=Po Q (c :: u)) (fun _=>po_so u1 (K.nums (by decide) _)) fun _=>iteP (P:=Po Q (c :: u)) (fun _=>?_) fun _=>iteP (P:=Po Q (c :: u)) (fun _=>po_tr u1 (hg _ _)) fun _=>iteP (P:=Po Q (c :: u)) (fun hv=>?_) fun _=>po_no
  ·exact iteP (P:=Po Q (c :: u)) (fun _=>po_so ⟨c :: u.take k,congrArg (c :: ·) (List.take_append_drop k u).symm⟩ (K.text _)) fun _=>po_no
  ·intro i r e
   obtain ⟨⟨j,v⟩,h1,h2⟩:=Option.map_eq_some_iff.mp e
   obtain ⟨a,b⟩:=value_po hv j v h1
   cases h2
   refine ⟨u1.trans a,?_⟩
   cases j with
   | nums w ps=>exact iteP (P:=Q) (fun _=>K.rep _ b _) fun _=>K.nums b _
   | _=>cases b
theorem item_po (K:Kinds Q) {g:Nat→Txt→Option (It × Txt)} (hg:∀ k u,Po Q u (g k u)) {c:Nat}:Po Q u (itemC g (c :: u)):=by
 refine iteP (P:=Po Q u) (fun hd=>?_) fun _=>iteP (P:=Po Q u) (fun _=>quoted_po K.text _ u [] (Nat.le_refl _)) fun _=>iteP (P:=Po Q u) (fun _=>scale_po K) fun _=>iteP (P:=Po Q u) (fun _=>hg _ _) fun _=>iteP (P:=Po Q u) (fun hv=>?_) fun _=>control_po K
 ·rcases h:numC (c :: u) with _ | ⟨_ | k,r⟩
  ·unfold countedC; rw [h]; exact po_no
  ·unfold countedC; rw [h]; exact po_no
  ·rw [cnt_some h]
   rw [numC_dig hd] at h
   obtain ⟨⟨w,q⟩,h1,h2⟩:=Option.map_eq_some_iff.mp h
   cases h2
   exact po_tr (numGo_suf _ _ h1) (cnt_po K hg)
 ·intro i r e
  obtain ⟨a,b⟩:=value_po hv i r e
  refine ⟨a,?_⟩
  cases i with
  | nums w ps=>exact K.nums b _
  | _=>cases b
end
theorem itemC_suf {g:Nat→Txt→Option (It × Txt)} (hg:∀ k u i r,g k u=some (i,r)→Suf u r) {c:Nat} {u r:Txt} {i:It} (h:itemC g (c :: u)=some (i,r)):Suf u r :=
 (item_po (Q:=fun _=>True) ⟨fun _ _=>trivial,fun _=>trivial,fun _ _ _ _=>trivial⟩ (fun k u i r e=>⟨hg k u i r e,trivial⟩) i r h).1
noncomputable def grpC (f lim:Nat) (k:Nat) (u:Txt):Option (It × Txt):=match lim with
 | 0=>none
 | m + 1=>match itemsC f m [] false u with
  | some (i :: l,r)=>some (.grp k (i :: l),r)
  | _=>none
theorem itemsC_succ (f lim:Nat) (acc:List It) (after:Bool) (u:Txt):itemsC (f + 1) lim acc after u =
  match skip u with
  | []=>none
  | c :: r =>
   if c=44∨c=41 then
    if after||(c=44&&acc.isEmpty) then none else
    if c=41 then some (acc,r) else itemsC f lim acc true r
   else
    match itemC (grpC f lim) (c :: r) with
    | none=>none
    | some (i,u')=>if !after&&!looseLast acc i then none else itemsC f lim (acc++[i]) false u':=rfl
noncomputable def Co (u:Txt) (x:Option (List It × Txt)):Prop:=∀ l r,x=some (l,r)→Suf u (41 :: r)
theorem co_no {u:Txt}:Co u none:=fun _ _ h=>nomatch h
theorem co_tr {u v:Txt} {x:Option (List It × Txt)} (h:Suf u v) (k:Co v x):Co u x:=fun l r e=>h.trans (k l r e)
theorem itemsC_co:∀ (f lim:Nat) (acc:List It) (after:Bool) (u:Txt),Co u (itemsC f lim acc after u)
 | 0,_,_,_,_=>co_no
 | f + 1,lim,acc,after,u=>by
  have hs:=skip_suf u
  have hg:∀ k u i r,grpC f lim k u=some (i,r)→Suf u r:=fun k u i r h=>by
   cases lim with
   | zero=>cases h
   | succ m =>
    unfold grpC at h
    dsimp only at h
    rcases e:itemsC f m [] false u with _ | ⟨_ | ⟨j,l⟩,v⟩
    ·rw [e] at h; cases h
    ·rw [e] at h; cases h
    ·rw [e] at h; cases h; exact (itemsC_co f m [] false u _ _ e).tail
  rw [itemsC_succ]
  cases hk:skip u with
  | nil=>exact co_no
  | cons c u1 =>
   rw [hk] at hs
   refine iteP (P:=Co u) (fun hc=>iteP (P:=Co u) (fun _=>co_no) fun _=>iteP (P:=Co u) (fun q l r e=>by cases e; rw [← q]; exact hs) fun _=>co_tr hs.tail (itemsC_co f _ _ _ _)) fun _=>?_
   rcases e:itemC (grpC f lim) (c :: u1) with _ | ⟨i,v⟩
   ·exact co_no
   ·exact iteP (P:=Co u) (fun _=>co_no) fun _=>co_tr (hs.tail.trans (itemC_suf hg e)) (itemsC_co f _ _ _ _)
theorem itemsC_suf (f lim:Nat) (acc:List It) (after:Bool) (u:Txt) {l:List It} {r:Txt} (h:itemsC f lim acc after u=some (l,r)):Suf u (41 :: r):=itemsC_co f lim acc after u l r h
set_option tactic.hygienic true in
theorem grpC_suf {f lim k:Nat} {u r:Txt} {i:It} (h:grpC f lim k u=some (i,r)):Suf u (41 :: r):=by
 unfold grpC at h
 split at h
 ·cases h
 ·split at h
  ·rename_i e; simp at h; rw [← h.2]; exact itemsC_suf f _ _ _ _ e
  ·cases h
end Mine.P
end
section
namespace Mine.P
noncomputable def optN:Option Nat→V
 | none=>.none
 | some k=>.int (k:Int)
noncomputable def rsN (t:Txt) (H:Hp):Option (Option Nat × Txt)→Option (Res V)
 | none=>some (.exc H)
 | some (v,r)=>some (.ok (.tup [optN v,.int (pos t r:Nat)]) H)
noncomputable def rsS (t:Txt) (H:Hp):Option (Nat × Txt)→Option (Res V)
 | none=>some (.exc H)
 | some (v,r)=>some (.ok (.tup [.int (v:Int),.int (pos t r:Nat)]) H)
noncomputable def rsI (t:Txt) (H:Hp):Option (It × Txt)→Option (Res V)
 | none=>some (.exc H)
 | some (i,r)=>some (.ok (.tup [i.toV,.int (pos t r:Nat)]) H)
noncomputable def DIG:Txt:=[48,49,50,51,52,53,54,55,56,57]
theorem sub_big {c n:Nat} (hc:n≤c):∀ s:Txt,s.all (fun x=>Nat.blt x n)=true→isSub [c] s=false
 | [],_=>rfl
 | d :: s,h=>by
  obtain ⟨h1,h2⟩:=Bool.and_eq_true_iff.mp h
  have h1:d < n:=Nat.le_of_ble_eq_true h1
  show ((c==d&&true)||isSub [c] s)=false
  rw [sub_big hc s h2,beq_eq_false_iff_ne.mpr (Nat.ne_of_gt (Nat.lt_of_lt_of_le h1 hc))]; rfl
theorem sub_is {s:Txt} {f:Nat→Bool} (n:Nat) (h:(List.range n).all (fun c=>isSub [c] s==f c)=true) (h2:s.all (fun x=>Nat.blt x n)=true) (h3:∀ c,n≤c→f c=false) (c:Nat):isSub [c] s=f c:=by
 by_cases q:c < n
 ·exact beq_iff_eq.mp (List.all_eq_true.mp h c (List.mem_range.mpr q))
 ·rw [sub_big (Nat.le_of_not_lt q) s h2,h3 c (Nat.le_of_not_lt q)]
theorem dig_big (c:Nat) (h:58≤c):isDig c=false:=by
 rw [isDig,decide_eq_false (Nat.not_le_of_lt h),Bool.and_false]
theorem sub_dig (c:Nat):isSub [c] [48,49,50,51,52,53,54,55,56,57]=isDig c:=sub_is 58 (by decide +kernel) rfl dig_big c
theorem dig_all {P:Nat→Prop} [DecidablePred P] (h:∀ c < 58,isDig c=true→P c) {c:Nat} (hc:isDig c=true):P c:=by
 by_cases q:c < 58
 ·exact h c q hc
 ·rw [dig_big c (Nat.le_of_not_lt q)] at hc; cases hc
theorem find_dig {c:Nat} (h:isDig c=true):findT c [48,49,50,51,52,53,54,55,56,57] 0=((c - 48:Nat):Int):=dig_all (P:=fun c=>findT c [48,49,50,51,52,53,54,55,56,57] 0=((c - 48:Nat):Int)) (by decide +kernel) h
theorem skip_skip:∀ u:Txt,skip (skip u)=skip u
 | []=>rfl
 | c :: r=>by
  by_cases h:c=32
  ·rw [show skip (c :: r)=skip r from if_pos h]; exact skip_skip r
  ·rw [show skip (c :: r)=c :: r from if_neg h]; exact if_neg h
theorem numGo_skip (v:Nat):∀ u:Txt,numGo v (skip u)=numGo v u
 | []=>rfl
 | c :: r=>by
  by_cases h:c=32
  ·rw [show skip (c :: r)=skip r from if_pos h,numGo_skip v r]; exact (if_pos h).symm
  ·rw [show skip (c :: r)=c :: r from if_neg h]
theorem skip_len (u:Txt):(skip u).length≤u.length:=(skip_suf u).len
theorem numGo_le:∀ (u:Txt) (v:Nat) {w:Nat} {r:Txt},v≤9999→numGo v u=some (w,r)→w≤9999
 | [],v,w,r,hv,h=>(Prod.mk.inj (Option.some.inj h)).1 ▸ hv
 | c :: u,v,w,r,hv,h=>by
  by_cases q:c=32
  ·exact numGo_le u v hv ((if_pos q).symm.trans h)
  ·have h:=(if_neg q).symm.trans h
   by_cases q2:isDig c=true
   ·have h:=(if_pos q2).symm.trans h
    by_cases q3:10 * v + (c - 48) > 9999
    ·cases (if_pos q3).symm.trans h
    ·exact numGo_le u _ (Nat.le_of_not_lt q3) ((if_neg q3).symm.trans h)
   ·exact (Prod.mk.inj (Option.some.inj ((if_neg q2).symm.trans h))).1 ▸ hv
theorem dig_le {c:Nat} (h:isDig c=true):c - 48≤9:=by
 exact Nat.sub_le_sub_right (of_decide_eq_true (Bool.and_eq_true_iff.mp h).2) 48
section
variable {t:Txt} {b N:Nat} {H:Hp}
noncomputable def wNumC:E:=.and (.cmp .lt (.loc 2) (.len (.loc 0))) (.cmp .isIn (.idx (.loc 0) (.loc 2)) (.gstr [68,73,71,73,84,83] [48,49,50,51,52,53,54,55,56,57]))
noncomputable def wNumB:Ss:=(.cons (.ite (.isNone (.loc 3)) (.cons (.assign 3 (.int 0)) .nil) .nil)
  (.cons (.assign 3 (.bin .add (.bin .mul (.int 10) (.loc 3)) (.find (.gstr [68,73,71,73,84,83] [48,49,50,51,52,53,54,55,56,57]) (.idx (.loc 0) (.loc 2)))))
  (.cons (.ite (.cmp .gt (.loc 3) (.gint [77,79,83,84,95,78,85,77,66,69,82] 9999)) (.cons (.raise (.loc 2)) .nil) .nil)
  (.cons (.assign 2 (.call 0 (.cons (.loc 0) (.cons (.bin .add (.loc 2) (.int 1)) .nil)))) .nil))))
noncomputable def hdDigs:Txt→Prop
 | []=>False
 | c :: _=>isDig c=true
theorem p_on {c:Nat} {r:Txt} (h:Suf t (c :: r)):((pos t (c :: r):Nat):Int) + 1=((pos t r:Nat):Int):=by
 rw [pos_tail h]; rfl
theorem ltY {c:Nat} {r:Txt} (h:Suf t (c :: r)):cmpV .lt (.int (pos t (c :: r):Nat)) (.int (t.length:Nat))=some true:=congrArg some (decide_eq_true (Int.ofNat_lt.mpr (pos_lt h)))
theorem ltN:cmpV .lt (.int (pos t []:Nat)) (.int (t.length:Nat))=some false:=by rw [pos_nil]; exact congrArg some (decide_eq_false (Int.lt_irrefl _))
theorem dgI {d:Nat} {r:Bool} (h:isDig d=r):cmpV .isIn (.str [d]) (.str [48,49,50,51,52,53,54,55,56,57])=some r:=by rw [← h,← sub_dig]; rfl
theorem b10 {k:Nat} (h:k≤9999):binV H .mul (.int 10) (.int (k:Int))=some (.int (10 * (k:Int))):=by
 have k2:fitsI (k:Int)=true:=decide_eq_true (show (k:Int).natAbs < 4611686018427387904 from Nat.lt_of_le_of_lt h (by decide))
 show (if (true&&fitsI (k:Int))=true then _ else _)=_
 rw [k2]; rfl
theorem sI {x y:Int} (h:x=y):some (V.int x)=some (.int y):=by rw [h]
theorem gtT {d:Nat} (h:9999 < d):cmpV .gt (.int (d:Int)) (.int 9999)=some true:=congrArg some (decide_eq_true (Int.ofNat_lt.mpr h))
theorem gtF {d:Nat} (h:¬ 9999 < d):cmpV .gt (.int (d:Int)) (.int 9999)=some false:=congrArg some (decide_eq_false fun q=>h (Int.ofNat_lt.mp q))
noncomputable def numR (t:Txt) (H:Hp) (a:V):Option (Nat × Txt)→RS
 | none=>.exc H
 | some (w,r)=>.next [some (.str t),some a,some (.int (pos t r:Nat)),some (.int (w:Int))] H
theorem go_end {v:Nat}:∀ {u:Txt},skip u=u→(∀ c r,u=c :: r→isDig c=false)→numGo v u=some (v,u)
 | [],_,_=>rfl
 | c :: r,hs,h=>by
  have hc:c≠32:=by
   rintro rfl
   have:=skip_len r
   rw [show skip (32 :: r)=skip r from rfl] at hs
   rw [hs] at this
   exact Nat.not_succ_le_self _ this
  exact (if_neg hc).trans (if_neg (by rw [h c r rfl]; exact Bool.false_ne_true))
theorem go_dig {v c:Nat} {r:Txt} (h:isDig c=true):numGo v (c :: r)=if 9999 < 10 * v + (c - 48) then none else numGo (10 * v + (c - 48)) (skip r):=by
 rw [numGo_skip]; exact (if_neg (by rintro rfl; cases h)).trans (if_pos h)
theorem l_num {n:Nat} {a:V}:∀ (M:Nat) (u:Txt) (v:Nat) (x:V),Suf t u→u.length < M→M≤N→v≤9999→skip u=u→((x=.none∧v=0∧hdDigs u)∨x=.int (v:Int)) →
  Wh (callF theFn N (n + 1)) N b wNumC wNumB M [some (.str t),some a,some (.int (pos t u:Nat)),some x] H (numR t H a (numGo v u)):=by
 intro M
 induction M with
 | zero=>intro u v x h hM; exact absurd hM (Nat.not_lt_zero _)
 | succ M ih =>
 intro u v x h hM hN hv hs hx
 refine wh_step fun G W=>?_
 cases u with
 | nil =>
  rcases hx with ⟨_,_,q⟩ | rfl
  ·exact absurd q id
  ·exact W rfl ltN
 | cons c r =>
  have e1:=e_idx (H:=H) h
  by_cases hd:isDig c=true
  ·have e4:=s_pass_blanks (H:=H) (n:=n) h.tail (N:=N) (Nat.lt_of_lt_of_le (Nat.lt_of_succ_lt hM) hN)
   have e2:=find_dig hd
   have e3:=sI (p_on h)
   have e5:=sI (show (10:Int) * (v:Int) + ((c - 48:Nat):Int)=((10 * v + (c - 48):Nat):Int) from rfl)
   rw [go_dig hd]
   have g:=fun q=>ih (skip r) (10 * v + (c - 48)) (.int ((10 * v + (c - 48):Nat):Int)) (h.tail.trans (skip_suf r)) (Nat.lt_of_le_of_lt (skip_len r) (Nat.lt_of_succ_lt_succ hM)) (Nat.le_of_succ_le hN) (Nat.le_of_not_lt q) (skip_skip r) (.inr rfl)
   by_cases q:9999 < 10 * v + (c - 48)
   ·rw [if_pos q]
    rcases hx with ⟨rfl,rfl,_⟩ | rfl
    ·exact W rfl (ltY h) e1 (dgI hd) rfl (b10 hv) e1 e2 e5 (gtT q)
    ·exact W rfl (ltY h) e1 (dgI hd) rfl (b10 hv) e1 e2 e5 (gtT q)
   ·rw [if_neg q]
    rcases hx with ⟨rfl,rfl,_⟩ | rfl
    ·exact W rfl (ltY h) e1 (dgI hd) rfl (b10 hv) e1 e2 e5 (gtF q) e3 e4 (g q)
    ·exact W rfl (ltY h) e1 (dgI hd) rfl (b10 hv) e1 e2 e5 (gtF q) e3 e4 (g q)
  ·rw [go_end hs fun c' r' e=>by cases e; exact Bool.eq_false_iff.mpr hd]
   rcases hx with ⟨_,_,q⟩ | rfl
   ·exact absurd q hd
   ·exact W rfl (ltY h) e1 (dgI (Bool.eq_false_iff.mpr hd))
theorem s_number_at {u:Txt} {n:Nat} (h:Suf t u) (hN:t.length < N):callF theFn N (n + 2) 1 [.str t,.int (pos t u:Nat)] H=rsN t H (numC u):=by
 have W:=wC (N:=N) (n + 1) 1 F_number_at [.str t,.int (pos t u:Nat)] H rfl rfl
 have hu:=h.len
 have hs:=h.trans (skip_suf u)
 have e0:=s_pass_blanks (H:=H) (n:=n) h (Nat.lt_of_le_of_lt hu hN)
 have hsl:=Nat.le_trans (skip_len u) hu
 have hss:=skip_skip u
 unfold numC
 obtain ⟨M,rfl⟩:∃ M,N=M + 1:=⟨N - 1,by omega⟩
 cases hsk:skip u with
 | nil =>
  rw [hsk] at e0
  exact W e0 (wh_step (r:=.next [some (.str t),some (.int (pos t u:Nat)),some (.int (pos t []:Nat)),some .none] H) fun G W=>W rfl ltN) rfl List.take_length
 | cons c r =>
  rw [hsk] at e0 hs hsl hss
  refine iteP (P:=fun y=>_=rsN t H y) (fun hd=>?_) fun hd=>?_
  ·have l:=l_num (b:=H.length) (N:=M + 1) (H:=H) (n:=n) (a:=.int (pos t u:Nat)) (M + 1) (c :: r) 0 .none hs (Nat.lt_of_le_of_lt hsl hN) (Nat.le_refl _) (Nat.zero_le _) hss (.inl ⟨rfl,rfl,hd⟩)
   have hle:=dig_le hd
   rw [go_dig hd,if_neg (by omega),Nat.mul_zero,Nat.zero_add,numGo_skip] at l
   cases hg:numGo (c - 48) r with
   | none=>rw [hg] at l; exact W e0 l List.take_length
   | some p=>rw [hg] at l; exact W e0 l rfl List.take_length
  ·exact W e0 (wh_step (r:=.next [some (.str t),some (.int (pos t u:Nat)),some (.int (pos t (c :: r):Nat)),some .none] H) fun G W=>W rfl (ltY hs) (e_idx hs) (dgI (Bool.eq_false_iff.mpr hd))) rfl List.take_length
theorem st2 {call:Nat→List V→Hp→Option (Res V)} {fn:Fn} {args:List V} {loc:Loc} {x:Option RS} (hl:args.map some++List.replicate (fn.vars.length - fn.params) none=loc) (h:evSs call N H.length fn.body loc H=x) :
  evSs call N H.length fn.body (args.map some++List.replicate (fn.vars.length - fn.params) none) H=x:=by rw [hl]; exact h
theorem s_size_at {u:Txt} {n k:Nat} (h:Suf t u) (hN:t.length < N):callF theFn N (n + 3) 2 [.str t,.int (pos t u:Nat),.int (k:Int)] H=rsS t H (sizeC k u):=by
 have W:=wC (N:=N) (n + 2) 2 F_size_at [.str t,.int (pos t u:Nat),.int (k:Int)] H rfl rfl
 have e:=s_number_at (H:=H) (n:=n) h hN
 unfold sizeC
 cases hn:numC u with
 | none=>exact W (e.trans (congrArg (rsN t H) hn)) List.take_length
 | some p =>
  have e:=e.trans (congrArg (rsN t H) hn)
  obtain ⟨v,r⟩:=p
  cases v with
  | none=>exact W e rfl List.take_length
  | some w =>
   exact iteP (P:=fun y=>_=rsS t H y) (fun q=>W e rfl (congrArg some (decide_eq_true (Int.ofNat_lt.mpr q))) List.take_length) fun q=>W e rfl (congrArg some (decide_eq_false fun z=>q (Int.ofNat_lt.mp z))) rfl List.take_length
end
end Mine.P
end
section
namespace Mine.P
section
variable {t:Txt} {N:Nat} {H:Hp}
theorem s_is_some {r r':Txt} {c n:Nat} (h:Suf t r) (ht:t.length≤100000) (ha:aft c r=some r'):callF theFn N (n + 1) 3 [.str t,.int (pos t r:Nat),.str [c]] H=some (.ok (.bool true) H):=by
 rw [s_is_at h ht,aft_take ha]
theorem s_is_none {r:Txt} {c n:Nat} (h:Suf t r) (ht:t.length≤100000) (ha:aft c r=none):callF theFn N (n + 1) 3 [.str t,.int (pos t r:Nat),.str [c]] H=some (.ok (.bool false) H):=by
 rw [s_is_at h ht,aft_none ha]
theorem p_aft {r r':Txt} {c:Nat} (h:Suf t r) (ha:aft c r=some r'):((pos t r:Nat):Int) + 1=((pos t r':Nat):Int):=by
 have e:=aft_eq ha
 rw [e] at h ⊢
 rw [pos_tail h]; omega
theorem p_tail {r:Txt} {c:Nat} (h:Suf t (c :: r)):((pos t (c :: r):Nat):Int) + 1=((pos t r:Nat):Int):=by
 rw [pos_tail h]; omega
theorem cmp_gt (a b:Nat):cmpV .gt (.int (a:Int)) (.int (b:Int))=some (decide (b < a)):=by
 exact congrArg some (decide_eq_decide.mpr Int.ofNat_lt)
theorem cmp_lt (a b:Nat):cmpV .lt (.int (a:Int)) (.int (b:Int))=some (decide (a < b)):=by
 exact congrArg some (decide_eq_decide.mpr Int.ofNat_lt)
theorem cmp_eqs (a b:Txt):cmpV .eq (.str a) (.str b)=some (a==b):=rfl
theorem cmp_nes (a b:Txt):cmpV .ne (.str a) (.str b)=some (!(a==b)):=rfl
theorem cmp_eqi (a b:Int):cmpV .eq (.int a) (.int b)=some (a==b):=rfl
theorem kc {c a:Nat} {r:Bool} (h:(c==a)=r):cmpV .eq (.str [c]) (.str [a])=some r:=by rw [cmp_eqs,← h,beq1]
theorem kcn {c a:Nat} {r:Bool} (h:(c==a)=r):cmpV .ne (.str [c]) (.str [a])=some (!r):=by rw [cmp_nes,← h,beq1]
theorem kne {c a:Nat} (h:c≠a):cmpV .eq (.str [c]) (.str [a])=some false:=kc (beq_eq_false_iff_ne.mpr h)
theorem cgt {a b:Nat} {r:Bool} (h:decide (b < a)=r):cmpV .gt (.int (a:Nat)) (.int (b:Nat))=some r:=by rw [cmp_gt,h]
theorem isA {d c:Nat} {r:Txt} {n:Nat} {b:Bool} (h:Suf t (d :: r)) (ht:t.length≤100000) (e:(d==c)=b):callF theFn N (n + 1) 3 [.str t,.int (pos t (d :: r):Nat),.str [c]] H=some (.ok (.bool b) H):=by
 rw [s_is_at h ht,← e]; simp
theorem s_whole_edit {u:Txt} {n:Nat} (h:Suf t u) (hN:t.length < N) (ht:t.length≤100000):callF theFn N (n + 4) 6 [.str t,.int (pos t u:Nat)] H=rsI t H (wholeC u):=by
 have W:=wC (N:=N) (n + 3) 6 F_whole_edit [.str t,.int (pos t u:Nat)] H rfl rfl
 have e1:=s_size_at (H:=H) (n:=n) (k:=1) h hN
 unfold wholeC
 cases h1:sizeC 1 u with
 | none=>exact W (e1.trans (congrArg (rsS t H) h1)) List.take_length
 | some p =>
  have hr:=h.trans (sizeC_suf h1)
  have e1:=e1.trans (congrArg (rsS t H) h1)
  dsimp only
  cases ha:aft 46 p.2 with
  | none=>exact W e1 (s_is_none (n:=n + 2) hr ht ha) rfl List.take_length
  | some r1 =>
   have e3:=s_size_at (H:=H) (n:=n) (k:=0) (aft_suf hr ha) hN
   have e2:=s_is_some (H:=H) (N:=N) (n:=n + 2) hr ht ha
   dsimp only
   cases h2:sizeC 0 r1 with
   | none=>exact W e1 e2 (sInt (p_aft hr ha)) (e3.trans (congrArg (rsS t H) h2)) List.take_length
   | some q =>
    exact iteP (P:=fun y=>_=rsI t H y) (fun z=>W e1 e2 (sInt (p_aft hr ha)) (e3.trans (congrArg (rsS t H) h2)) (cgt (decide_eq_true z)) List.take_length) fun z=>W e1 e2 (sInt (p_aft hr ha)) (e3.trans (congrArg (rsS t H) h2)) (cgt (decide_eq_false z)) rfl List.take_length
theorem pI (i:It) (p:Int):V.pure (.tup [i.toV,.int p])=true:=(Bool.and_true _).trans (It.pure i)
theorem s_places_at {r:Txt} {n:Nat} (h:Suf t r) (hN:t.length < N) (ht:t.length≤100000) :
  callF theFn N (n + 4) 4 [.str t,.int (pos t r:Nat)] H=match aft 46 r with | none=>some (.exc H) | some r1=>rsS t H (sizeC 0 r1):=by
 have W:=wC (N:=N) (n + 3) 4 F_places_at [.str t,.int (pos t r:Nat)] H rfl rfl
 cases ha:aft 46 r with
 | none=>exact W (s_is_none (n:=n + 2) h ht ha) List.take_length
 | some r1 =>
  have e3:=s_size_at (H:=H) (n:=n) (k:=0) (aft_suf h ha) hN
  dsimp only
  cases h2:sizeC 0 r1 with
  | none=>exact W (s_is_some (n:=n + 2) h ht ha) (sInt (p_aft h ha)) (e3.trans (congrArg (rsS t H) h2)) List.take_length
  | some q=>exact W (s_is_some (n:=n + 2) h ht ha) (sInt (p_aft h ha)) (e3.trans (congrArg (rsS t H) h2)) rfl List.take_length
theorem s_exponent_at {r:Txt} {n:Nat} (h:Suf t r) (hN:t.length < N) (ht:t.length≤100000) :
  callF theFn N (n + 4) 5 [.str t,.int (pos t r:Nat)] H=match aft 69 r with | none=>some (.ok (.tup [.none,.int (pos t r:Nat)]) H) | some r1=>rsS t H (sizeC 1 r1):=by
 have W:=wC (N:=N) (n + 3) 5 F_exponent_at [.str t,.int (pos t r:Nat)] H rfl rfl
 cases ha:aft 69 r with
 | none=>exact W (s_is_none (n:=n + 2) h ht ha) rfl List.take_length
 | some r1 =>
  have e3:=s_size_at (H:=H) (n:=n) (k:=1) (aft_suf h ha) hN
  dsimp only
  cases h2:sizeC 1 r1 with
  | none=>exact W (s_is_some (n:=n + 2) h ht ha) (sInt (p_aft h ha)) (e3.trans (congrArg (rsS t H) h2)) List.take_length
  | some q=>exact W (s_is_some (n:=n + 2) h ht ha) (sInt (p_aft h ha)) (e3.trans (congrArg (rsS t H) h2)) rfl List.take_length
theorem s_real_edit {u:Txt} {n k:Nat} (h:Suf t u) (hN:t.length < N) (ht:t.length≤100000):callF theFn N (n + 5) 7 [.str [k],.str t,.int (pos t u:Nat)] H=rsI t H (realC k u):=by
 have W:=wC (N:=N) (n + 4) 7 F_real_edit [.str [k],.str t,.int (pos t u:Nat)] H rfl rfl
 have e1:=s_size_at (H:=H) (n:=n + 1) (k:=1) h hN
 unfold realC
 cases h1:sizeC 1 u with
 | none=>exact W (e1.trans (congrArg (rsS t H) h1)) List.take_length
 | some p =>
  have hr:=h.trans (sizeC_suf h1)
  have e1:=e1.trans (congrArg (rsS t H) h1)
  have e2:=s_places_at (H:=H) (n:=n) hr hN ht
  dsimp only
  cases ha:aft 46 p.2 with
  | none=>rw [ha] at e2; exact W e1 e2 List.take_length
  | some r1 =>
   rw [ha] at e2
   dsimp only at e2 ⊢
   cases h2:sizeC 0 r1 with
   | none=>exact W e1 (e2.trans (congrArg (rsS t H) h2)) List.take_length
   | some q =>
    have hq:=(aft_suf hr ha).trans (sizeC_suf h2)
    have e2:=e2.trans (congrArg (rsS t H) h2)
    refine iteP (P:=fun y=>_=rsI t H y) (fun z=>?_) fun z=>?_
    ·by_cases k1:k=70
     ·subst k1; exact W e1 e2 rfl rfl List.take_length
     ·exact W e1 e2 (kne k1) (kc (beq_iff_eq.mpr (z.resolve_left k1))) rfl List.take_length
    have k1:=kne fun q=>z (.inl q)
    have k2:=kne fun q=>z (.inr q)
    have e3:=s_exponent_at (H:=H) (n:=n) hq hN ht
    cases hb:aft 69 q.2 with
    | none=>rw [hb] at e3; exact W e1 e2 k1 k2 e3 rfl List.take_length
    | some r3 =>
     rw [hb] at e3
     dsimp only at e3 ⊢
     cases h3:sizeC 1 r3 with
     | none=>exact W e1 e2 k1 k2 (e3.trans (congrArg (rsS t H) h3)) List.take_length
     | some x=>exact W e1 e2 k1 k2 (e3.trans (congrArg (rsS t H) h3)) rfl List.take_length
theorem s_value_edit {u:Txt} {n k:Nat} (h:Suf t (k :: u)) (hN:t.length < N) (ht:t.length≤100000):callF theFn N (n + 6) 8 [.str t,.int (pos t (k :: u):Nat)] H=rsI t H (valueC k u):=by
 have W:=wC (N:=N) (n + 5) 8 F_value_edit [.str t,.int (pos t (k :: u):Nat)] H rfl rfl
 have ei:=e_idx (H:=H) h
 have ep:=sInt (p_tail h)
 have hu:=h.tail
 refine iteP (P:=fun y=>_=rsI t H y) (fun q=>?_) fun k1=>?_
 ·subst q
  have e:=s_whole_edit (H:=H) (n:=n + 1) hu hN ht
  cases hw:wholeC u with
  | none=>exact W ei rfl ep (e.trans (congrArg (rsI t H) hw)) List.take_length
  | some p=>exact W ei rfl ep (e.trans (congrArg (rsI t H) hw)) (pI ..) List.take_length
 refine iteP (P:=fun y=>_=rsI t H y) (fun q=>?_) fun k2=>?_
 ·subst q
  have e:=s_size_at (H:=H) (n:=n + 2) (k:=1) hu hN
  cases hw:sizeC 1 u with
  | none=>exact W ei rfl rfl ep (e.trans (congrArg (rsS t H) hw)) List.take_length
  | some p=>exact W ei rfl rfl ep (e.trans (congrArg (rsS t H) hw)) rfl List.take_length
 refine iteP (P:=fun y=>_=rsI t H y) (fun q=>?_) fun k3=>?_
 ·subst q
  have e:=s_number_at (H:=H) (n:=n + 3) hu hN
  cases hw:numC u with
  | none=>exact W ei rfl rfl rfl ep (e.trans (congrArg (rsN t H) hw)) List.take_length
  | some p =>
   obtain ⟨v,r⟩:=p
   have e:=e.trans (congrArg (rsN t H) hw)
   cases v with
   | none=>exact W ei rfl rfl rfl ep e rfl rfl List.take_length
   | some v =>
    exact iteP (P:=fun y=>_=rsI t H y) (fun z=>W ei rfl rfl rfl ep e ((cmp_eqi ..).trans (congrArg some (beq_iff_eq.mpr (by omega)))) List.take_length) fun z=>W ei rfl rfl rfl ep e ((cmp_eqi ..).trans (congrArg some (beq_eq_false_iff_ne.mpr (by omega)))) rfl List.take_length
 have e:=s_real_edit (H:=H) (n:=n) (k:=k) hu hN ht
 cases hw:realC k u with
 | none=>exact W ei (kne k1) (kne k2) (kne k3) ep (e.trans (congrArg (rsI t H) hw)) List.take_length
 | some p=>exact W ei (kne k1) (kne k2) (kne k3) ep (e.trans (congrArg (rsI t H) hw)) (pI ..) List.take_length
end
end Mine.P
end
section
namespace Mine.P
section
variable {t:Txt} {b N:Nat} {H:Hp}
noncomputable def wQuoC:E:=.cmp .lt (.loc 3) (.len (.loc 0))
noncomputable def wQuoB:Ss:=(.cons (.ite (.cmp .ne (.idx (.loc 0) (.loc 3)) (.str [39])) (.cons (.aug 2 (.idx (.loc 0) (.loc 3)))
  (.cons (.aug 3 (.int 1))
  .nil)) (.cons (.ite (.call 3 (.cons (.loc 0) (.cons (.bin .add (.loc 3) (.int 1)) (.cons (.str [39]) .nil)))) (.cons (.aug 2 (.str [39]))
  (.cons (.aug 3 (.int 2))
  .nil)) (.cons (.ite (.cmp .eq (.loc 2) (.str [])) (.cons (.raise (.loc 1))
  .nil) .nil)
  (.cons (.ret (.tup (.cons (.tup (.cons (.str [72]) (.cons (.loc 2) .nil))) (.cons (.bin .add (.loc 3) (.int 1)) .nil))))
  .nil)))
  .nil))
  .nil)
theorem cap1 {a c:Nat} (h:a + c≤100000):a + c≤capL:=by show a + c≤1048576; omega
noncomputable def quoK (t:Txt) (H:Hp) (a:Int):Option (It × Txt)→RS→Prop
 | none,r=>r=.exc H∨∃ x y,r=.next [some (.str t),some (.int a),x,y] H
 | some (i,u),r=>r=.ret (.tup [i.toV,.int (pos t u:Nat)]) H
theorem ceN {out:Txt} (h:out≠[]):cmpV .eq (.str out) (.str [])=some false:=by rw [cmp_eqs,beq_eq_false_iff_ne.mpr h]
theorem l_quoted {call:Nat→List V→Hp→Option (Res V)} {at':Int} (hcall:∀ u,Suf t u→call 3 [.str t,.int (pos t u:Nat),.str [39]] H=some (.ok (.bool (u.take 1==[39])) H)):∀ (M:Nat) (u out:Txt),Suf t u→u.length < M→out.length + u.length≤90000 →
  ∃ r,Wh call N b wQuoC wQuoB M [some (.str t),some (.int at'),some (.str out),some (.int (pos t u:Nat))] H r∧quoK t H at' (quotedGo out u) r:=by
 intro M
 induction M with
 | zero=>intro u out h hM; exact absurd hM (Nat.not_lt_zero _)
 | succ M ih =>
 intro u out h hM ho
 cases u with
 | nil=>exact ⟨_,wh_step fun G W=>W rfl ltN,.inr ⟨_,_,rfl⟩⟩
 | cons c r =>
  simp only [List.length_cons] at hM ho
  have ei:=e_idx (H:=H) h
  have ep:=sInt (p_tail h)
  have hz:out.length + 1≤capL:=cap1 (by omega)
  have el:=ltY h
  by_cases h1:c=39
  ·subst h1
   have e2:=hcall _ h.tail
   cases r with
   | nil =>
    rw [quo_end]
    by_cases hz:out=[]
    ·rw [if_pos hz]; subst hz
     exact ⟨_,wh_step fun G W=>W rfl el ei rfl ep e2 rfl,.inl rfl⟩
    ·rw [if_neg hz]
     exact ⟨_,wh_step fun G W=>W rfl el ei rfl ep e2 (ceN hz) ep,rfl⟩
   | cons d r' =>
    simp only [List.length_cons] at hM ho
    by_cases hd:d=39
    ·subst hd
     obtain ⟨x,g1,g2⟩:=ih r' (out++[39]) h.tail.tail (by omega) (by rw [List.length_append]; simp only [List.length_cons,List.length_nil]; omega)
     exact ⟨x,wh_step fun G W=>W rfl el ei rfl ep e2 hz (by have:=p_tail h; have:=p_tail h.tail; omega) g1,quo_two ▸ g2⟩
    ·have e2:=e2.trans (congrArg (fun b=>some (Res.ok (V.bool b) H)) (show ([d]==[39])=false by rw [beq1]; exact beq_eq_false_iff_ne.mpr hd))
     rw [quo_out hd]
     by_cases hz:out=[]
     ·rw [if_pos hz]; subst hz
      exact ⟨_,wh_step fun G W=>W rfl el ei rfl ep e2 rfl,.inl rfl⟩
     ·rw [if_neg hz]
      exact ⟨_,wh_step fun G W=>W rfl el ei rfl ep e2 (ceN hz) ep,rfl⟩
  ·obtain ⟨x,g1,g2⟩:=ih r (out++[c]) h.tail (by omega) (by rw [List.length_append]; simp only [List.length_cons,List.length_nil]; omega)
   exact ⟨x,wh_step fun G W=>W rfl el ei (kcn (beq_eq_false_iff_ne.mpr h1)) ei hz (p_tail h) g1,quo_on h1 ▸ g2⟩
theorem s_quoted_at {u:Txt} {n c:Nat} (h:Suf t (c :: u)) (hN:t.length < N) (ht:t.length≤80000):callF theFn N (n + 2) 9 [.str t,.int (pos t (c :: u):Nat)] H=rsI t H (quotedGo [] u):=by
 have W:=wC (N:=N) (n + 1) 9 F_quoted_at [.str t,.int (pos t (c :: u):Nat)] H rfl rfl
 have ep:=sInt (p_tail h)
 have hl:=h.tail.len
 obtain ⟨r,g1,g2⟩:=l_quoted (b:=H.length) (N:=N) (H:=H) (call:=callF theFn N (n + 1)) (at':=(pos t (c :: u):Nat)) (fun u hu=>s_is_at hu (by omega) [39]) N u [] h.tail (by omega) (by simp only [List.length_nil]; omega)
 cases hq:quotedGo [] u with
 | none =>
  rw [hq] at g2
  rcases g2 with rfl | ⟨x,y,rfl⟩
  ·exact W ep g1 List.take_length
  ·exact W ep g1 List.take_length
 | some p =>
  rw [hq] at g2
  cases g2
  exact W ep g1 (pI ..) List.take_length
end
end Mine.P
end
section
namespace Mine.P
section
variable {t:Txt} {b N:Nat} {H:Hp}
theorem take_pos {u:Txt} {k:Nat} (h:Suf t u) (hk:k≤u.length):pos t (u.drop k)=pos t u + k:=by
 unfold pos; rw [List.length_drop]; exact nsub h.len hk
theorem s_counted_text {u:Txt} {n k:Nat} (h:Suf t u) (ht:t.length≤80000) (hk:k≤9999):callF theFn N (n + 1) 10 [.str t,.int (pos t u:Nat),.int (k:Int)] H=rsI t H (countedText u k):=by
 have W:=wC (N:=N) n 10 F_counted_text [.str t,.int (pos t u:Nat),.int (k:Int)] H rfl rfl
 have e0:((pos t u:Nat):Int) + (k:Int)=((pos t u + k:Nat):Int):=rfl
 refine iteP (P:=fun y=>_=rsI t H y) (fun hc=>?_) fun hc=>W (sInt e0) rfl (cgt (decide_eq_true (Nat.lt_of_le_of_lt (Nat.le_of_eq (pos_len h).symm) (Nat.add_lt_add_left (Nat.lt_of_not_le hc) _)))) List.take_length
 have e2:slV (.str t) (.int (pos t u:Nat)) (.int ((pos t u + k:Nat):Int))=some (.str (u.take k)):=by
  rw [e_sl (Nat.le_trans pos_le (Nat.le_trans ht (by decide))) (Nat.le_trans (Nat.add_le_add (Nat.le_trans pos_le ht) hk) (by decide)),List.drop_take,drop_pos h,Nat.add_sub_cancel_left]
 exact W (sInt e0) rfl (cgt (decide_eq_false (Nat.not_lt.mpr (Nat.le_trans (Nat.add_le_add_left hc _) (Nat.le_of_eq (pos_len h)))))) (sInt e0) e2 (sInt (e0.trans (congrArg Nat.cast (take_pos h hc).symm))) rfl List.take_length
theorem s_scale_at {u:Txt} {n c:Nat} (h:Suf t (c :: u)) (hN:t.length < N) (ht:t.length≤80000):callF theFn N (n + 4) 11 [.str t,.int (pos t (c :: u):Nat)] H=rsI t H (scaleC c u):=by
 have W:=wC (N:=N) (n + 3) 11 F_scale_at [.str t,.int (pos t (c :: u):Nat)] H rfl rfl
 have ep:=sInt (p_tail h)
 have e1:=s_size_at (H:=H) (n:=n) (k:=0) h.tail hN
 unfold scaleC
 cases h1:sizeC 0 u with
 | none=>exact W ep (e1.trans (congrArg (rsS t H) h1)) List.take_length
 | some p =>
  have e1:=e1.trans (congrArg (rsS t H) h1)
  have hr:=h.tail.trans (sizeC_suf h1)
  dsimp only
  cases ha:aft 80 p.2 with
  | none=>exact W ep e1 (s_is_none (n:=n + 2) hr (by omega) ha) List.take_length
  | some r1 =>
   have e2:=s_is_some (H:=H) (N:=N) (n:=n + 2) hr (by omega) ha
   by_cases hc:c=45
   ·subst hc; exact W ep e1 e2 (e_idx h) rfl rfl (sInt (p_aft hr ha)) rfl List.take_length
   ·refine (W ep e1 e2 (e_idx h) (kne hc) (sInt (p_aft hr ha)) rfl List.take_length).trans ?_
    show _=rsI t H (some (.nums [80] [some (if c=45 then _ else _)],r1))
    rw [if_neg hc]; rfl
theorem s_is_nil {c:Nat} {n:Nat} (ht:t.length≤100000):callF theFn N (n + 1) 3 [.str t,.int (pos t []:Nat),.str [c]] H=some (.ok (.bool false) H):=by
 rw [s_is_at ⟨t,by simp⟩ ht]; rfl
theorem tab_ {w u:Txt} {x:Option (Nat × Txt)} (h:sizeC 1 u=x):rsI t H (x.map fun p=>(.nums w [some (p.1:Int)],p.2))=rsI t H (tabC w u):=by rw [tabC,h]
theorem s_control_at {u:Txt} {n c:Nat} (h:Suf t (c :: u)) (hN:t.length < N) (ht:t.length≤80000):callF theFn N (n + 4) 12 [.str t,.int (pos t (c :: u):Nat)] H=rsI t H (controlC c u):=by
 have W:=wC (N:=N) (n + 3) 12 F_control_at [.str t,.int (pos t (c :: u):Nat)] H rfl rfl
 have ei:=e_idx (H:=H) h
 have ep:=sInt (p_tail h)
 have hu:=h.tail
 have e0:=s_pass_blanks (H:=H) (N:=N) (n:=n + 2) hu (by have:=hu.len; omega)
 have hs:=hu.trans (skip_suf u)
 have ht':t.length≤100000:=by omega
 refine iteP (P:=fun y=>_=rsI t H y) (fun q=>?_) fun q1=>?_
 ·rcases q with rfl | rfl
  ·exact W ei rfl ep rfl List.take_length
  ·exact W ei rfl rfl ep rfl List.take_length
 have y1:=kne fun z=>q1 (.inl z)
 have y2:=kne fun z=>q1 (.inr z)
 refine iteP (P:=fun y=>_=rsI t H y) (fun q=>?_) fun q2=>?_
 ·subst q
  cases hsk:skip u with
  | nil =>
   rw [hsk] at e0
   exact W ei rfl rfl ep e0 rfl (s_is_nil ht') (s_is_nil ht') rfl List.take_length
  | cons d r =>
   rw [hsk] at e0 hs
   by_cases d1:d=80
   ·subst d1; exact W ei rfl rfl ep e0 rfl (isA hs ht' rfl) (e_idx hs) rfl (sInt (p_tail hs)) rfl List.take_length
   by_cases d2:d=83
   ·subst d2; exact W ei rfl rfl ep e0 rfl (isA hs ht' rfl) (isA hs ht' rfl) (e_idx hs) rfl (sInt (p_tail hs)) rfl List.take_length
   exact iteP (P:=fun y=>_=rsI t H y) (fun q=>absurd q (not_or.mpr ⟨d1,d2⟩)) fun _=>W ei rfl rfl ep e0 rfl (isA hs ht' (beq_eq_false_iff_ne.mpr d1)) (isA hs ht' (beq_eq_false_iff_ne.mpr d2)) rfl List.take_length
 refine iteP (P:=fun y=>_=rsI t H y) (fun q=>?_) fun q3=>?_
 ·subst q
  cases hsk:skip u with
  | nil =>
   rw [hsk] at e0
   exact W ei rfl rfl ep e0 rfl rfl (s_is_nil ht') (s_is_nil ht') rfl List.take_length
  | cons d r =>
   rw [hsk] at e0 hs
   by_cases d1:d=78
   ·subst d1; exact W ei rfl rfl ep e0 rfl rfl (isA hs ht' rfl) (e_idx hs) rfl (sInt (p_tail hs)) rfl List.take_length
   by_cases d2:d=90
   ·subst d2; exact W ei rfl rfl ep e0 rfl rfl (isA hs ht' rfl) (isA hs ht' rfl) (e_idx hs) rfl (sInt (p_tail hs)) rfl List.take_length
   exact iteP (P:=fun y=>_=rsI t H y) (fun q=>absurd q (not_or.mpr ⟨d1,d2⟩)) fun _=>W ei rfl rfl ep e0 rfl rfl (isA hs ht' (beq_eq_false_iff_ne.mpr d1)) (isA hs ht' (beq_eq_false_iff_ne.mpr d2)) rfl List.take_length
 refine iteP (P:=fun y=>_=rsI t H y) (fun q=>?_) fun q4=>W ei y1 y2 ep e0 (kne q2) (kne q3) (kne q4) List.take_length
 subst q
 cases hsk:skip u with
 | nil =>
  rw [hsk] at e0
  have e1:=s_size_at (H:=H) (n:=n) (k:=1) (hsk ▸ hs) hN
  exact W ei rfl rfl ep e0 rfl rfl rfl (s_is_nil ht') (s_is_nil ht') e1 List.take_length
 | cons d r =>
  rw [hsk] at e0 hs
  by_cases d1:d=76
  ·subst d1
   have e1:=s_size_at (H:=H) (n:=n) (k:=1) hs.tail hN
   cases h1:sizeC 1 r with
   | none=>exact (W ei rfl rfl ep e0 rfl rfl rfl (isA hs ht' rfl) (e_idx hs) rfl (p_tail hs) (e1.trans (congrArg (rsS t H) h1)) List.take_length).trans (tab_ h1)
   | some p=>exact (W ei rfl rfl ep e0 rfl rfl rfl (isA hs ht' rfl) (e_idx hs) rfl (p_tail hs) (e1.trans (congrArg (rsS t H) h1)) rfl List.take_length).trans (tab_ h1)
  by_cases d2:d=82
  ·subst d2
   have e1:=s_size_at (H:=H) (n:=n) (k:=1) hs.tail hN
   cases h1:sizeC 1 r with
   | none=>exact (W ei rfl rfl ep e0 rfl rfl rfl (isA hs ht' rfl) (isA hs ht' rfl) (e_idx hs) rfl (p_tail hs) (e1.trans (congrArg (rsS t H) h1)) List.take_length).trans (tab_ h1)
   | some p=>exact (W ei rfl rfl ep e0 rfl rfl rfl (isA hs ht' rfl) (isA hs ht' rfl) (e_idx hs) rfl (p_tail hs) (e1.trans (congrArg (rsS t H) h1)) rfl List.take_length).trans (tab_ h1)
  refine iteP (P:=fun y=>_=rsI t H y) (fun q=>absurd q (not_or.mpr ⟨d1,d2⟩)) fun _=>?_
  have e1:=s_size_at (H:=H) (n:=n) (k:=1) hs hN
  cases h1:sizeC 1 (d :: r) with
  | none=>exact (W ei rfl rfl ep e0 rfl rfl rfl (isA hs ht' (beq_eq_false_iff_ne.mpr d1)) (isA hs ht' (beq_eq_false_iff_ne.mpr d2)) (e1.trans (congrArg (rsS t H) h1)) List.take_length).trans (tab_ h1)
  | some p=>exact (W ei rfl rfl ep e0 rfl rfl rfl (isA hs ht' (beq_eq_false_iff_ne.mpr d1)) (isA hs ht' (beq_eq_false_iff_ne.mpr d2)) (e1.trans (congrArg (rsS t H) h1)) rfl List.take_length).trans (tab_ h1)
end
end Mine.P
end
section
namespace Mine.P
noncomputable def It.wd:It→Prop
 | .nums w _=>w∈words
 | .text _=>True
 | .rep _ j=>j.word∈words
 | .grp _ _=>True
theorem words_sub {w:Txt} (h:w∈words):w∈wordsA:=List.mem_append_left _ h
theorem wd_word {i:It} (h:i.wd):i.word∈wordsA∧i.kind∈wordsA:=by
 cases i with
 | nums w ps=>exact ⟨words_sub h,words_sub h⟩
 | text s=>exact ⟨show ([72]:Txt)∈wordsA by decide,show ([72]:Txt)∈wordsA by decide⟩
 | rep k j=>exact ⟨show ([114,101,112,101,97,116]:Txt)∈wordsA by decide,words_sub h⟩
 | grp k l=>exact ⟨show ([103,114,111,117,112]:Txt)∈wordsA by decide,show ([103,114,111,117,112]:Txt)∈wordsA by decide⟩
theorem words_sep:∀ w∈wordsA,isSub w [47,58]=(decide (w=[47])||decide (w=[58])):=by decide
theorem words_real:∀ w∈wordsA,isSub w [70,69,68,71]=(decide (w=[70])||decide (w=[69])||decide (w=[68])||decide (w=[71])):=by decide
theorem words_rep:∀ w∈words,(w==[114,101,112,101,97,116])=false:=by decide
theorem flat_wd0 {i:It} (h:i.flat):i.wd:=by cases i <;> first | exact h | cases h
theorem flat_rep {i:It} {k:Int} (h:i.flat):(It.rep k i).wd:=by cases i <;> first | exact h | cases h
theorem kinds_wd:Kinds It.wd:=⟨fun h _=>h,fun _=>trivial,fun _ _ h _=>h⟩
theorem grpC_wd {f lim k:Nat} {u r:Txt} {i:It} (h:grpC f lim k u=some (i,r)):i.wd:=by
 cases lim with
 | zero=>cases h
 | succ m =>
  unfold grpC at h
  dsimp only at h
  rcases e:itemsC f m [] false u with _ | ⟨_ | ⟨j,l⟩,v⟩
  ·rw [e] at h; cases h
  ·rw [e] at h; cases h
  ·rw [e] at h; cases h; exact trivial
section
variable {t:Txt} {b N:Nat} {H:Hp}
theorem word_idx (i:It):idxV H i.toV (.int 0)=some (.str i.word):=by cases i <;> rfl
theorem rep_or (i:It) (hi:i.wd):(∃ j:It,idxV H i.toV (.int 2)=some j.toV∧i.kind=j.word∧i.word=[114,101,112,101,97,116])∨(i.kind=i.word∧(i.word==[114,101,112,101,97,116])=false):=by
 cases i with
 | rep k j=>exact .inl ⟨j,rfl,rfl,rfl⟩
 | nums w ps=>exact .inr ⟨rfl,words_rep _ hi⟩
 | text s=>exact .inr ⟨rfl,rfl⟩
 | grp k l=>exact .inr ⟨rfl,rfl⟩
theorem s_may_join {a i:It} {n:Nat} (ha:a.wd) (hi:i.wd):callF theFn N (n + 1) 16 [a.toV,i.toV] H=some (.ok (.bool (loose a i)) H):=by
 have W:=wC (N:=N) n 16 F_may_join [a.toV,i.toV] H rfl rfl
 have ea:=word_idx (H:=H) a
 have ei:=word_idx (H:=H) i
 have i1:∀ {b},(decide (a.word=[47])||decide (a.word=[58]))=b→cmpV .isIn (.str a.word) (.str [47,58])=some b:=fun h=>by rw [← h,← words_sep _ (wd_word ha).1]; rfl
 have i2:∀ {b},(decide (i.word=[47])||decide (i.word=[58]))=b→cmpV .isIn (.str i.word) (.str [47,58])=some b:=fun h=>by rw [← h,← words_sep _ (wd_word hi).1]; rfl
 have i3:cmpV .isIn (.str i.kind) (.str [70,69,68,71])=some (decide (i.kind=[70])||decide (i.kind=[69])||decide (i.kind=[68])||decide (i.kind=[71])):=by rw [← words_real _ (wd_word hi).2]; rfl
 have x2:∀ {b},decide (a.word=[80])=b→cmpV .eq (.str a.word) (.str [80])=some b:=fun h=>by rw [cmp_eqs,← h]; exact congrArg some (Bool.eq_iff_iff.mpr (by simp))
 unfold loose
 rw [Bool.or_assoc (decide (a.word=[47])||decide (a.word=[58]))]
 generalize callF theFn N (n + 1) 16 [a.toV,i.toV] H=X at W ⊢
 cases h1:(decide (a.word=[47])||decide (a.word=[58])) with
 | true=>exact W ea (i1 h1) rfl List.take_length
 | false =>
  cases h2:(decide (i.word=[47])||decide (i.word=[58])) with
  | true=>exact W ea (i1 h1) ei (i2 h2) rfl List.take_length
  | false =>
   rcases rep_or (H:=H) i hi with ⟨j,j1,j2,j3⟩ | ⟨j2,j3⟩
   ·have x1:cmpV .eq (.str i.word) (.str [114,101,112,101,97,116])=some true:=by rw [j3]; rfl
    cases h3:decide (a.word=[80]) with
    | true=>exact W ea (i1 h1) ei (i2 h2) ei x1 j1 ea (x2 h3) (word_idx j) (j2 ▸ i3) rfl List.take_length
    | false=>exact W ea (i1 h1) ei (i2 h2) ei x1 j1 ea (x2 h3) rfl List.take_length
   ·have x1:cmpV .eq (.str i.word) (.str [114,101,112,101,97,116])=some false:=by rw [cmp_eqs,j3]
    cases h3:decide (a.word=[80]) with
    | true=>exact W ea (i1 h1) ei (i2 h2) ei x1 ea (x2 h3) ei (j2 ▸ i3) rfl List.take_length
    | false=>exact W ea (i1 h1) ei (i2 h2) ei x1 ea (x2 h3) rfl List.take_length
end
end Mine.P
end
section
namespace Mine.P
section
variable {t:Txt} {b N:Nat} {H:Hp}
theorem val_big (c:Nat) (h:77≤c):isVal c=false:=by
 simp only [isVal,decide_eq_false (show ¬ c=73 by omega),decide_eq_false (show ¬ c=70 by omega),decide_eq_false (show ¬ c=69 by omega),decide_eq_false (show ¬ c=68 by omega),decide_eq_false (show ¬ c=71 by omega),decide_eq_false (show ¬ c=76 by omega),decide_eq_false (show ¬ c=65 by omega)]; rfl
theorem sub_val (c:Nat):isSub [c] [73,70,69,68,71,76,65]=isVal c:=sub_is 77 (by decide +kernel) rfl val_big c
theorem val_ne {c:Nat} (h:isVal c=true):c≠80∧c≠88∧c≠72∧c≠40∧c≠39∧c≠43∧c≠45∧isDig c=false:=by
 simp [isVal] at h
 rcases h with (((((rfl | rfl) | rfl) | rfl) | rfl) | rfl) | rfl <;> decide
theorem sl_hd {c:Nat} {r:Txt} (h:Suf t (c :: r)) (ht:t.length≤100000):slV (.str t) (.int (pos t (c :: r):Nat)) (.int ((pos t (c :: r):Nat) + 1))=some (.str [c]):=by
 rw [e_sl1 h ht]; rfl
theorem sl_nil (ht:t.length≤100000):slV (.str t) (.int (pos t []:Nat)) (.int ((pos t []:Nat) + 1))=some (.str []):=by
 rw [e_sl1 ⟨t,by simp⟩ ht]; rfl
theorem nvl {d:Nat} {r:Bool} (h:isVal d=r):cmpV .notIn (.str [d]) (.str [73,70,69,68,71,76,65])=some (!r):=by rw [← h,← sub_val]; rfl
theorem ivl {d:Nat} {r:Bool} (h:isVal d=r):cmpV .isIn (.str [d]) (.str [73,70,69,68,71,76,65])=some r:=by rw [← h,← sub_val]; rfl
theorem idg {d:Nat} {r:Bool} (h:isDig d=r):cmpV .isIn (.str [d]) (.str [48,49,50,51,52,53,54,55,56,57])=some r:=by rw [← h,← sub_dig]; rfl
theorem s_counted_at {u:Txt} {n c:Nat} {g:Nat→Txt→Option (It × Txt)} {dep:Int} (h:Suf t (c :: u)) (hd:isDig c=true) (hN:t.length < N) (ht:t.length≤80000)
  (hg:∀ (k:Nat) (r:Txt),0 < k→Suf u (40 :: r)→callF theFn N (n + 6) 13 [.str t,.int (pos t (40 :: r):Nat),.int (k:Int),.int dep] H=rsI t H (g k r)) :
  callF theFn N (n + 7) 14 [.str t,.int (pos t (c :: u):Nat),.int dep] H=rsI t H (countedC g (c :: u)):=by
 have W:=wC (N:=N) (n + 6) 14 F_counted_at [.str t,.int (pos t (c :: u):Nat),.int dep] H rfl rfl
 have e1:=s_number_at (H:=H) (n:=n + 4) h hN
 have ht':t.length≤100000:=by omega
 unfold countedC
 rw [numC_dig hd] at e1 ⊢
 cases hn:numGo (c - 48) u with
 | none=>rw [hn] at e1; exact W e1 List.take_length
 | some p =>
  obtain ⟨k,r⟩:=p
  rw [hn] at e1
  have e1:_=some (Res.ok (V.tup [.int (k:Nat),.int (pos t r:Nat)]) H):=e1
  have hur:Suf u r:=numGo_suf _ _ hn
  have hr:Suf t r:=h.tail.trans hur
  have k0:∀ {b},decide (k=0)=b→cmpV .eq (.int (k:Nat)) (.int 0)=some b:=fun e=>(cmp_eqi ..).trans (congrArg some (by rw [← e,Bool.eq_iff_iff]; simp))
  cases r with
  | nil =>
   cases hk:decide (k=0) with
   | true=>exact W e1 rfl (sl_nil ht') rfl (k0 hk) List.take_length
   | false=>exact W e1 rfl (sl_nil ht') rfl (k0 hk) rfl rfl rfl rfl List.take_length
  | cons d r =>
   have es:=sl_hd (t:=t) hr ht'
   have ep:=sInt (p_tail hr)
   dsimp only [Option.map_some]
   refine iteP (P:=fun y=>_=rsI t H y) (fun q=>?_) fun d80=>?_
   ·subst q; exact W e1 rfl es rfl ep rfl List.take_length
   refine iteP (P:=fun y=>_=rsI t H y) (fun q=>W e1 rfl es (kne d80) (k0 (decide_eq_true q)) List.take_length) fun kz=>?_
   have kz':=k0 (decide_eq_false kz)
   refine iteP (P:=fun y=>_=rsI t H y) (fun q=>?_) fun d88=>?_
   ·subst q; exact W e1 rfl es rfl kz' rfl ep rfl List.take_length
   refine iteP (P:=fun y=>_=rsI t H y) (fun q=>?_) fun d72=>?_
   ·subst q
    have e:=s_counted_text (N:=N) (H:=H) (n:=n + 5) (k:=k) hr.tail ht (numGo_le _ _ (by have:=dig_le hd; omega) hn)
    cases hw:countedText r k with
    | none=>exact W e1 rfl es rfl kz' rfl rfl ep (e.trans (congrArg (rsI t H) hw)) List.take_length
    | some p=>exact W e1 rfl es rfl kz' rfl rfl ep (e.trans (congrArg (rsI t H) hw)) (pI ..) List.take_length
   refine iteP (P:=fun y=>_=rsI t H y) (fun q=>?_) fun d40=>?_
   ·subst q
    have e:=hg k r (by omega) hur
    cases hw:g k r with
    | none=>exact W e1 rfl es rfl kz' rfl rfl rfl (e.trans (congrArg (rsI t H) hw)) List.take_length
    | some p=>exact W e1 rfl es rfl kz' rfl rfl rfl (e.trans (congrArg (rsI t H) hw)) (pI ..) List.take_length
   refine iteP (P:=fun y=>_=rsI t H y) (fun q=>?_) fun q=>W e1 rfl es (kne d80) kz' (kne d88) (kne d72) (kne d40) rfl (nvl (Bool.eq_false_iff.mpr q)) List.take_length
   have e:=s_value_edit (N:=N) (H:=H) (n:=n) hr hN ht'
   cases hw:valueC d r with
   | none=>exact W e1 rfl es (kne d80) kz' (kne d88) (kne d72) (kne d40) rfl (nvl q) (e.trans (congrArg (rsI t H) hw)) List.take_length
   | some p =>
    cases k1:decide (1 < k) with
    | true =>
     refine (W e1 rfl es (kne d80) kz' (kne d88) (kne d72) (kne d40) rfl (nvl q) (e.trans (congrArg (rsI t H) hw)) (cgt (b:=1) k1) (pI (.rep k p.1) _) List.take_length).trans ?_
     show _=rsI t H (some (if 1 < k then _ else _,_))
     rw [if_pos (of_decide_eq_true k1)]; rfl
    | false =>
     refine (W e1 rfl es (kne d80) kz' (kne d88) (kne d72) (kne d40) rfl (nvl q) (e.trans (congrArg (rsI t H) hw)) (cgt (b:=1) k1) (pI ..) List.take_length).trans ?_
     show _=rsI t H (some (if 1 < k then _ else _,_))
     rw [if_neg (of_decide_eq_false k1)]; rfl
theorem s_item_at {u:Txt} {n c:Nat} {g:Nat→Txt→Option (It × Txt)} {dep:Int} (h:Suf t (c :: u)) (hN:t.length < N) (ht:t.length≤80000)
  (hg:∀ (n' k:Nat) (r:Txt),n≤n'→0 < k→Suf (c :: u) (40 :: r)→callF theFn N (n' + 6) 13 [.str t,.int (pos t (40 :: r):Nat),.int (k:Int),.int dep] H=rsI t H (g k r)) :
  callF theFn N (n + 8) 15 [.str t,.int (pos t (c :: u):Nat),.int dep] H=rsI t H (itemC g (c :: u)):=by
 have W:=wC (N:=N) (n + 7) 15 F_item_at [.str t,.int (pos t (c :: u):Nat),.int dep] H rfl rfl
 have ei:=e_idx (H:=H) h
 refine iteP (P:=fun y=>_=rsI t H y) (fun q=>?_) fun q0=>?_
 ·have e:=s_counted_at (N:=N) (H:=H) (n:=n) (g:=g) (dep:=dep) h q hN ht (fun k r hk hr=>hg n k r (Nat.le_refl _) hk (up hr))
  cases hw:countedC g (c :: u) with
  | none=>exact W ei (idg q) (e.trans (congrArg (rsI t H) hw)) List.take_length
  | some p=>exact W ei (idg q) (e.trans (congrArg (rsI t H) hw)) (pI ..) List.take_length
 have q0:=idg (Bool.eq_false_iff.mpr q0)
 refine iteP (P:=fun y=>_=rsI t H y) (fun q=>?_) fun q1=>?_
 ·subst q
  have e:=s_quoted_at (N:=N) (H:=H) (n:=n + 5) h hN ht
  cases hw:quotedGo [] u with
  | none=>exact W ei rfl rfl (e.trans (congrArg (rsI t H) hw)) List.take_length
  | some p=>exact W ei rfl rfl (e.trans (congrArg (rsI t H) hw)) (pI ..) List.take_length
 refine iteP (P:=fun y=>_=rsI t H y) (fun q=>?_) fun q2=>?_
 ·have e:=s_scale_at (N:=N) (H:=H) (n:=n + 3) h hN ht
  cases hw:scaleC c u with
  | none =>
   rcases q with rfl | rfl
   ·exact W ei rfl rfl rfl (e.trans (congrArg (rsI t H) hw)) List.take_length
   ·exact W ei rfl rfl rfl rfl (e.trans (congrArg (rsI t H) hw)) List.take_length
  | some p =>
   rcases q with rfl | rfl
   ·exact W ei rfl rfl rfl (e.trans (congrArg (rsI t H) hw)) (pI ..) List.take_length
   ·exact W ei rfl rfl rfl rfl (e.trans (congrArg (rsI t H) hw)) (pI ..) List.take_length
 have a2:=kne fun z=>q2 (.inl z)
 have a3:=kne fun z=>q2 (.inr z)
 refine iteP (P:=fun y=>_=rsI t H y) (fun q=>?_) fun q3=>?_
 ·subst q
  have e:=hg (n + 1) 1 u (by omega) (by omega) (.rfl' _)
  cases hw:g 1 u with
  | none=>exact W ei rfl rfl rfl rfl rfl (e.trans (congrArg (rsI t H) hw)) List.take_length
  | some p=>exact W ei rfl rfl rfl rfl rfl (e.trans (congrArg (rsI t H) hw)) (pI ..) List.take_length
 refine iteP (P:=fun y=>_=rsI t H y) (fun q=>?_) fun q4=>?_
 ·have e:=s_value_edit (N:=N) (H:=H) (n:=n + 1) h hN (by omega)
  cases hw:valueC c u with
  | none=>exact W ei q0 (kne q1) a2 a3 (kne q3) (ivl q) (e.trans (congrArg (rsI t H) hw)) List.take_length
  | some p=>exact W ei q0 (kne q1) a2 a3 (kne q3) (ivl q) (e.trans (congrArg (rsI t H) hw)) (pI ..) List.take_length
 have e:=s_control_at (N:=N) (H:=H) (n:=n + 3) h hN ht
 cases hw:controlC c u with
 | none=>exact W ei q0 (kne q1) a2 a3 (kne q3) (ivl (Bool.eq_false_iff.mpr q4)) (e.trans (congrArg (rsI t H) hw)) List.take_length
 | some p=>exact W ei q0 (kne q1) a2 a3 (kne q3) (ivl (Bool.eq_false_iff.mpr q4)) (e.trans (congrArg (rsI t H) hw)) (pI ..) List.take_length
end
end Mine.P
end
section
namespace Mine.P
theorem hgA (H:Hp) (x:List V):hget (H++[some x]) H.length=some x:=congrArg (fun o:Option (Option (List V))=>match o with | some (some l)=>some l | _=>none) List.getElem?_concat_length
theorem stA (H:Hp) (x y:Option (List V)):(H++[x]).set H.length y=H++[y]:=by simp
theorem tkA (H:Hp) (x:Option (List V)):(H++[x]).take H.length=H:=by simp
theorem lastA (l:List V) (v:V):getAt (l++[v]) (-1)=some v:=by
 have h:¬ (0:Int)≤-1:=by decide
 have h2:(0:Int)≤-1 + ((l++[v]).length:Nat):=by simp only [List.length_append,List.length_cons,List.length_nil]; omega
 have h3:(-1 + ((l++[v]).length:Nat):Int).toNat=l.length:=by simp only [List.length_append,List.length_cons,List.length_nil]; omega
 rw [getAt,if_neg h,if_pos h2,h3]; simp
theorem cmp_isin (a b:Txt):cmpV .isIn (.str a) (.str b)=some (isSub a b):=rfl
noncomputable def wItsB:Ss:=(.cons (.assign 5 (.call 0 (.cons (.loc 0) (.cons (.loc 1) .nil))))
  (.cons (.assign 6 (.sl (.loc 0) (.loc 5) (.bin .add (.loc 5) (.int 1))))
  (.cons (.ite (.cmp .eq (.loc 6) (.str [])) (.cons (.raise (.loc 5))
  .nil) .nil)
  (.cons (.ite (.or (.cmp .eq (.loc 6) (.str [44])) (.cmp .eq (.loc 6) (.str [41]))) (.cons (.ite (.or (.loc 4) (.and (.cmp .eq (.loc 6) (.str [44])) (.isNil (.loc 3)))) (.cons (.raise (.loc 5))
  .nil) .nil)
  (.cons (.ite (.cmp .eq (.loc 6) (.str [41])) (.cons (.ret (.tup (.cons (.seal 3) (.cons (.loc 5) .nil))))
  .nil) .nil)
  (.cons (.assign 4 (.bool true))
  (.cons (.assign 1 (.bin .add (.loc 5) (.int 1)))
  .nil)))) (.cons (.unpack [7,1] (.call 15 (.cons (.loc 0) (.cons (.loc 5) (.cons (.loc 2) .nil)))))
  (.cons (.ite (.and (.notNil (.loc 3)) (.and (.not (.loc 4)) (.not (.call 16 (.cons (.idx (.loc 3) (.neg (.int 1))) (.cons (.loc 7) .nil)))))) (.cons (.raise (.loc 5))
  .nil) .nil)
  (.cons (.append (.loc 3) (.loc 7))
  (.cons (.assign 4 (.bool false))
  .nil)))))
  .nil))))
noncomputable def outL (t:Txt) (HH:Hp):Option (List It × Txt)→Option RS
 | none=>some (.exc HH)
 | some (l,r)=>some (.ret (.tup [.lst (toVs l),.int (pos t (41 :: r):Nat)]) HH)
section
variable {t:Txt} {N:Nat} {H:Hp}
theorem seal_ok {call:Call} {b j x:Nat} {l:Loc} {H:Hp} {xs:List V} (h1:l[x]?=some (some (.ref j))) (h2:hget H j=some xs) (h3:V.pures xs=true) (h4:b≤j):evE call b l (.seal x) H=some (.ok (.lst xs) (H.set j .none)):=by
 (conv=>lhs; whnf); simp only [h1,h2,h3,decide_eq_true h4,Bool.and_self,if_true]
theorem sealA {call:Call} {x:Nat} {l:Loc} {H:Hp} {xs:List V} (h1:l[x]?=some (some (.ref H.length))) (h3:V.pures xs=true):evE call H.length l (.seal x) (H++[some xs])=some (.ok (.lst xs) (H++[none])):=by
 rw [seal_ok h1 (hgA H xs) h3 (Nat.le_refl _),stA]
theorem tv_nil (acc:List It):(toVs acc).isEmpty=acc.isEmpty:=by cases acc <;> rfl
theorem ll_cat (m:List It) (a i:It):looseLast (m++[a]) i=loose a i:=by simp [looseLast]
theorem tv_last (m:List It) (a:It):getAt (toVs (m++[a])) (-1)=some a.toV:=by rw [toVs_append]; exact lastA _ _
theorem tv_new (m:List It) (a:It):toVs m++[a.toV]=toVs (m++[a]):=(toVs_append m [a]).symm
theorem wd_cat {m:List It} {a:It} (h:∀ x∈m,x.wd) (h':a.wd):∀ x∈m++[a],x.wd:=fun x hx=>by
 rcases List.mem_append.mp hx with q | q
 ·exact h x q
 ·exact List.mem_singleton.mp q ▸ h'
theorem may_put {b j n:Nat} {v:V} (h:b≤j) (h2:n < capL):(mayMut b j v&&decide (n < capL))=true:=by simp [mayMut,h,h2]
theorem nbool {a:Bool} (h:¬ a=true):a=false:=Bool.eq_false_iff.mpr h
theorem ni {H:Hp} {acc:List It} {b:Bool} (h:acc.isEmpty=b):(toVs acc).isEmpty=b:=(tv_nil acc).trans h
theorem nni {acc:List It} {b:Bool} (h:acc.isEmpty=b):(!(toVs acc).isEmpty)=!b:=by rw [tv_nil,h]
theorem l_items {call:Nat→List V→Hp→Option (Res V)} {lim:Nat} {dep:Int} (ht:t.length≤80000)
  (hb:∀ u H,Suf t u→call 0 [.str t,.int (pos t u:Nat)] H=some (.ok (.int (pos t (skip u):Nat)) H))
  (hi:∀ f c u H,f≤N→Suf t (c :: u)→(c :: u).length≤f→call 15 [.str t,.int (pos t (c :: u):Nat),.int dep] H=rsI t H (itemC (grpC f lim) (c :: u)))
  (hj:∀ (a i:It) H,a.wd→i.wd→call 16 [a.toV,i.toV] H=some (.ok (.bool (loose a i)) H)) :
  ∀ (f M:Nat) (u:Txt) (acc:List It) (after:Bool) (x5 x6 x7:Option V),Suf t u→u.length < f→f≤M→M≤N→acc.length + u.length≤80000→(∀ a∈acc,a.wd) →
  ∃ L,whileL (fun l H'=>evE call H.length l (.bool true) H') (fun l H'=>evSs call N H.length wItsB l H') M [some (.str t),some (.int (pos t u:Nat)),some (.int dep),some (.ref H.length),some (.bool after),x5,x6,x7] (H++[some (toVs acc)]) =
   outL t (H++[L]) (itemsC f lim acc after u)
 | 0,M,u,acc,after,x5,x6,x7,hs,hu,hM,hMN,hl,hw=>absurd hu (Nat.not_lt_zero _)
 | f + 1,M + 1,u,acc,after,x5,x6,x7,hs,hu,hM,hMN,hl,hw=>by
  have W:=walk (call:=call) (b:=H.length) (N:=N) wItsB [some (.str t),some (.int (pos t u:Nat)),some (.int dep),some (.ref H.length),some (.bool after),x5,x6,x7] (H++[some (toVs acc)])
  have ht':t.length≤100000:=by omega
  have hsk:=hs.trans (skip_suf u)
  have hskl:=(skip_suf u).len
  have e0:=hb u (H++[some (toVs acc)]) hs
  have hg:=hgA H (toVs acc)
  rw [itemsC_succ]
  cases hk:skip u with
  | nil =>
   rw [hk] at e0
   exact ⟨_,wh_exc rfl (W e0 rfl (sl_nil ht') rfl)⟩
  | cons c r =>
   rw [hk] at e0 hsk hskl
   have e1:=sl_hd hsk ht'
   have hrl:r.length + 1≤u.length:=hskl
   refine iteP (P:=fun y=>∃ L,_=outL t (H++[L]) y) (fun q=>?_) fun q=>?_
   ·by_cases q2:c=41
    ·subst q2
     cases after with
     | true=>exact ⟨_,wh_exc rfl (W e0 rfl e1 rfl rfl rfl)⟩
     | false=>exact ⟨_,wh_ret rfl (W e0 rfl e1 rfl rfl rfl rfl rfl (sealA rfl (Its.pure acc)))⟩
    ·obtain rfl:c=44:=q.resolve_right q2
     cases after with
     | true=>exact ⟨_,wh_exc rfl (W e0 rfl e1 rfl rfl)⟩
     | false =>
      refine iteP (P:=fun y=>∃ L,_=outL t (H++[L]) y) (fun z=>⟨_,wh_exc rfl (W e0 rfl e1 rfl rfl rfl hg (ni (H:=H) z))⟩) fun z=>?_
      obtain ⟨L,ih⟩:=l_items ht hb hi hj f M r acc true (some (.int (pos t (44 :: r):Nat))) (some (.str [44])) x7 hsk.tail (by omega) (by omega) (by omega) (by omega) hw
      exact ⟨L,wh_next rfl (W e0 rfl e1 rfl rfl rfl hg (ni (H:=H) (nbool z)) rfl (sInt (p_tail hsk))) ih⟩
   ·have q1:=kne fun z=>q (.inl z)
    have q2:=kne fun z=>q (.inr z)
    have e2:=hi f c r (H++[some (toVs acc)]) (by omega) hsk (by simp only [List.length_cons]; omega)
    cases hit:itemC (grpC f lim) (c :: r) with
    | none=>exact ⟨_,wh_exc rfl (W e0 rfl e1 rfl q1 q2 (e2.trans (congrArg (rsI t _) hit)))⟩
    | some p =>
     obtain ⟨i,u'⟩:=p
     have e2:=e2.trans (congrArg (rsI t _) hit)
     obtain ⟨hu',hiw⟩:=item_po kinds_wd (fun k u i r h=>⟨(grpC_suf h).tail,grpC_wd h⟩) _ _ hit
     have hu'l:=hu'.len
     have hc:(toVs acc).length < capL:=by rw [toVs_len]; have:capL=1048576:=rfl; omega
     obtain ⟨L,ih⟩:=l_items ht hb hi hj f M u' (acc++[i]) false (some (.int (pos t (c :: r):Nat))) (some (.str [c])) (some i.toV) (hsk.tail.trans hu') (by omega) (by omega) (by omega) (by simp only [List.length_append,List.length_cons,List.length_nil]; omega) (wd_cat hw hiw)
     rw [← tv_new acc i,← stA H (some (toVs acc))] at ih
     dsimp only
     cases after with
     | true =>
      refine ⟨L,?_⟩
      cases hn:acc.isEmpty with
      | true=>exact wh_next rfl (W e0 rfl e1 rfl q1 q2 e2 hg (nni hn) hg (may_put (Nat.le_refl _) hc)) ih
      | false=>exact wh_next rfl (W e0 rfl e1 rfl q1 q2 e2 hg (nni hn) hg (may_put (Nat.le_refl _) hc)) ih
     | false =>
      rcases List.eq_nil_or_concat acc with h | ⟨m,a,h⟩
      ·subst h; exact ⟨L,wh_next rfl (W e0 rfl e1 rfl q1 q2 e2 hg rfl hg (may_put (Nat.le_refl _) hc)) ih⟩
      ·rw [List.concat_eq_append] at h
       have ej:=hj a i (H++[some (toVs acc)]) (hw a (h ▸ List.mem_append_right _ (List.mem_singleton_self a))) hiw
       have hla:looseLast acc i=loose a i:=h ▸ ll_cat m a i
       have n1:(!(toVs acc).isEmpty)=true:=nni (b:=false) (by rw [h]; cases m <;> rfl)
       have n2:idxV (H++[some (toVs acc)]) (.ref H.length) (.int (-1))=some a.toV:=by show (hget _ _).bind _=_; rw [hg,h]; exact tv_last m a
       rw [hla]
       cases hlo:loose a i with
       | true=>rw [hlo] at ej; exact ⟨L,wh_next rfl (W e0 rfl e1 rfl q1 q2 e2 hg n1 rfl n2 ej hg (may_put (Nat.le_refl _) hc)) ih⟩
       | false=>rw [hlo] at ej; exact ⟨_,wh_exc rfl (W e0 rfl e1 rfl q1 q2 e2 hg n1 rfl n2 ej)⟩
end
end Mine.P
end
section
namespace Mine.P
noncomputable def rsL (t:Txt) (H:Hp):Option (List It × Txt)→Option (Res V)
 | none=>some (.exc H)
 | some (l,r)=>some (.ok (.tup [.lst (toVs l),.int (pos t (41 :: r):Nat)]) H)
section
variable {t:Txt} {N:Nat} {H:Hp}
theorem pL (l:List It) (p:Int):V.pure (.tup [.lst (toVs l),.int p])=true:=(Bool.and_true _).trans (Its.pure l)
theorem tvs_ne {i:It} {l:List It}:(toVs (i :: l)).isEmpty=false:=rfl
theorem s_group_at {n lim f k:Nat} {r:Txt} (hlim:lim≤10) (h:Suf t (40 :: r)) (hf:r.length < f)
  (ih:∀ m u,lim=m + 1→Suf t u→u.length < f→callF theFn N n 17 [.str t,.int (pos t u:Nat),.int (10 - (m:Int))] H=rsL t H (itemsC f m [] false u)) :
  callF theFn N (n + 1) 13 [.str t,.int (pos t (40 :: r):Nat),.int (k:Int),.int (10 - (lim:Int))] H=rsI t H (grpC f lim k r):=by
 have W:=wC (N:=N) n 13 F_group_at [.str t,.int (pos t (40 :: r):Nat),.int (k:Int),.int (10 - (lim:Int))] H rfl rfl
 cases lim with
 | zero=>exact W rfl List.take_length
 | succ m =>
  have c1:cmpV .eq (.int (10 - ((m + 1:Nat):Int))) (.int 10)=some false:=(cmp_eqi ..).trans (congrArg some (beq_eq_false_iff_ne.mpr (by omega)))
  have e:=ih m r rfl h.tail hf
  have ed:=sInt (show (10 - ((m + 1:Nat):Int)) + 1=10 - (m:Int) by omega)
  simp only [grpC]
  cases hi:itemsC f m [] false r with
  | none=>exact W c1 (sInt (p_tail h)) ed (e.trans (congrArg (rsL t H) hi)) List.take_length
  | some p =>
   obtain ⟨l,r'⟩:=p
   have e:=e.trans (congrArg (rsL t H) hi)
   have ep2:=p_tail (h.tail.trans (itemsC_suf _ _ _ _ _ hi))
   cases l with
   | nil=>exact W c1 (sInt (p_tail h)) ed e rfl rfl List.take_length
   | cons i l=>exact W c1 (sInt (p_tail h)) ed e rfl tvs_ne (sInt ep2) (pI (.grp k (i :: l)) _) List.take_length
theorem items_step (ht:t.length≤80000) (hN:t.length < N) (lim:Nat) (hlim:lim≤10)
  (ih:∀ m,lim=m + 1→∀ (n:Nat),4 * m + 9≤n→∀ (H:Hp) (f:Nat) (u:Txt),Suf t u→u.length < f→f≤N →
   callF theFn N n 17 [.str t,.int (pos t u:Nat),.int (10 - (m:Int))] H=rsL t H (itemsC f m [] false u))
  (n:Nat) (hn:4 * lim + 9≤n) (H:Hp) (f:Nat) (u:Txt) (hs:Suf t u) (hu:u.length < f) (hf:f≤N) :
  callF theFn N n 17 [.str t,.int (pos t u:Nat),.int (10 - (lim:Int))] H=rsL t H (itemsC f lim [] false u):=by
 obtain ⟨n,rfl⟩:∃ m,n=m + 9:=⟨n - 9,by omega⟩
 have W:=wC (N:=N) (n + 8) 17 F_items_at [.str t,.int (pos t u:Nat),.int (10 - (lim:Int))] H rfl rfl
 obtain ⟨L,key⟩:=l_items (N:=N) (H:=H) (call:=callF theFn N (n + 8)) (lim:=lim) (dep:=10 - (lim:Int)) ht
  (fun u H h=>s_pass_blanks (n:=n + 7) h (by have:=h.len; omega))
  (fun f c u H hf h hfl=>s_item_at (n:=n) h hN ht fun n' k r hn' hk hr=>s_group_at (n:=n' + 5) hlim (h.trans hr) (by have:=hr.len; simp only [List.length_cons] at this hfl; omega)
   fun m u hm hsu huf=>ih m hm _ (by omega) _ _ _ hsu huf hf)
  (fun a i H ha hi=>s_may_join (n:=n + 7) ha hi) f N u [] false none none none hs hu hf (Nat.le_refl _) (by have:=hs.len; simp only [List.length_nil]; omega) fun _ h=>nomatch h
 cases hi:itemsC f lim [] false u with
 | none=>exact W (key.trans (congrArg (outL t (H++[L])) hi)) (tkA _ _)
 | some p=>exact W (key.trans (congrArg (outL t (H++[L])) hi)) (pL p.1 _) (tkA _ _)
theorem s_items_at (ht:t.length≤80000) (hN:t.length < N):∀ (lim:Nat),lim≤10→∀ (n:Nat),4 * lim + 9≤n→∀ (H:Hp) (f:Nat) (u:Txt),Suf t u→u.length < f→f≤N →
  callF theFn N n 17 [.str t,.int (pos t u:Nat),.int (10 - (lim:Int))] H=rsL t H (itemsC f lim [] false u)
 | 0,hlim,n,hn,H,f,u,hs,hu,hf=>items_step ht hN 0 hlim (fun m hm=>by omega) n hn H f u hs hu hf
 | lim + 1,hlim,n,hn,H,f,u,hs,hu,hf=>items_step ht hN (lim + 1) hlim (fun m hm n hn H f u hs hu hf=>by
   obtain rfl:lim=m:=by omega
   exact s_items_at ht hN lim (by omega) n hn H f u hs hu hf) n hn H f u hs hu hf
noncomputable def rsP (H:Hp):Option (List It)→Option (Res V)
 | none=>some (.exc H)
 | some l=>some (.ok (.lst (toVs l)) H)
theorem s_format_prefix {n f:Nat} (ht:t.length≤80000) (hN:t.length < N) (hn:50≤n) (hf:t.length < f) (hfN:f≤N) :
  callF theFn N n 18 [.str t] H=match skip t with
   | c :: r=>if c=40 then (match itemsC f 10 [] false r with
    | some (l,r')=>some (.ok (.tup [.lst (toVs l),.int (pos t r':Nat)]) H)
    | none=>some (.exc H)) else some (.exc H)
   | []=>some (.exc H):=by
 obtain ⟨n,rfl⟩:∃ m,n=m + 3:=⟨n - 3,by omega⟩
 have W:=wC (N:=N) (n + 2) 18 F_format_prefix [.str t] H rfl rfl
 have e0:callF theFn N (n + 2) 0 [.str t,.int 0] H=some (.ok (.int (pos t (skip t):Nat)) H):=by
  have e0:=s_pass_blanks (H:=H) (N:=N) (n:=n + 1) (Suf.rfl' t) hN
  rw [pos_self] at e0; exact e0
 have hss:=skip_suf t
 have hl:=hss.len
 cases hk:skip t with
 | nil =>
  rw [hk] at e0 hss
  exact W e0 (s_is_at (n:=n + 1) hss (by omega) [40]) List.take_length
 | cons c r =>
  rw [hk] at e0 hss hl
  refine iteP (P:=fun y=>_=y) (fun q=>?_) fun q=>?_
  ·subst q
   have e1:=isA (H:=H) (N:=N) (n:=n + 1) hss (by omega) (show (40==40)=true from rfl)
   have e3:=s_items_at (N:=N) ht hN 10 (by omega) (n + 2) (by omega) H f r hss.tail (by simp only [List.length_cons] at hl; omega) hfN
   cases hi:itemsC f 10 [] false r with
   | none=>exact W e0 e1 (sInt (p_tail hss)) (e3.trans (congrArg (rsL t H) hi)) List.take_length
   | some p=>exact W e0 e1 (sInt (p_tail hss)) (e3.trans (congrArg (rsL t H) hi)) (sInt (p_tail (hss.tail.trans (itemsC_suf _ _ _ _ _ hi)))) (pL p.1 _) List.take_length
  ·exact W e0 (isA (n:=n + 1) hss (by omega) (beq_eq_false_iff_ne.mpr q)) List.take_length
theorem s_parse_format {n f:Nat} (ht:t.length≤80000) (hN:t.length < N) (hn:51≤n) (hf:t.length < f) (hfN:f≤N) :
  callF theFn N n 19 [.str t] H=rsP H (parseC f t):=by
 obtain ⟨n,rfl⟩:∃ m,n=m + 2:=⟨n - 2,by omega⟩
 have W:=wC (N:=N) (n + 1) 19 F_parse_format [.str t] H rfl rfl
 have e0:=s_format_prefix (N:=N) (H:=H) (n:=n + 1) ht hN (by omega) hf hfN
 unfold parseC
 cases hk:skip t with
 | nil=>rw [hk] at e0; exact W e0 List.take_length
 | cons c r =>
  rw [hk] at e0
  have hss:=hk ▸ skip_suf t
  refine iteP (P:=fun y=>_=rsP H y) (fun q=>?_) fun q=>W (e0.trans (if_neg q)) List.take_length
  have e0:=e0.trans (if_pos q)
  cases hi:itemsC f 10 [] false r with
  | none=>rw [hi] at e0; exact W e0 List.take_length
  | some p =>
   obtain ⟨l,r'⟩:=p
   rw [hi] at e0
   have hr':Suf t r':=hss.tail.trans (itemsC_suf _ _ _ _ _ hi).tail
   have e2:=s_pass_blanks (H:=H) (N:=N) (n:=n) hr' (Nat.lt_of_le_of_lt hr'.len hN)
   have hlt:=e_lt (hr'.trans (skip_suf r'))
   exact iteP (P:=fun y=>_=rsP H y) (fun z=>W e0 e2 rfl (congrArg some (decide_eq_false fun h=>hlt.mp h z)) (Its.pure l) List.take_length) fun z=>W e0 e2 rfl (congrArg some (decide_eq_true (hlt.mpr z))) List.take_length
noncomputable def optL:Option (List It)→V
 | none=>.none
 | some l=>.lst (toVs l)
theorem optL_pure (x:Option (List It)):(optL x).pure=true:=by
 cases x with
 | none=>rfl
 | some l=>exact Its.pure l
theorem s_heard {n f:Nat} (ht:t.length≤80000) (hN:t.length < N) (hn:52≤n) (hf:t.length < f) (hfN:f≤N) :
  callF theFn N n 38 [.str t] H=some (.ok (optL (parseC f t)) H):=by
 obtain ⟨n,rfl⟩:∃ m,n=m + 1:=⟨n - 1,by omega⟩
 have W:=wC (N:=N) n 38 F_law_heard [.str t] H rfl rfl
 have e0:=s_parse_format (N:=N) (H:=H) (n:=n) ht hN (by omega) hf hfN
 have t1:evE (callF theFn N n) H.length [some (.str t)] (.call 19 (.cons (.loc 0) .nil)) H=rsP H (parseC f t):=bnd_ok rfl e0
 have t2:evS (callF theFn N n) N H.length (.tryRet (.call 19 (.cons (.loc 0) .nil))) [some (.str t)] H=some (.ret (optL (parseC f t)) H):=by
  show (match evE (callF theFn N n) H.length [some (.str t)] (.call 19 (.cons (.loc 0) .nil)) H with | some (.ok v H)=>some (RS.ret v H) | some (.exc H)=>some (.ret .none H) | .none=>.none)=_
  rw [t1]; cases parseC f t <;> rfl
 exact W t2 (optL_pure _) List.take_length
end
end Mine.P
end
section
set_option genSizeOf false
set_option genInjectivity false
namespace Mine.P
inductive Tk where
 | n (k:Nat)
 | t (s:Txt)
 | bad
 | sg (c:Nat)
noncomputable def Tk.word:Tk→Txt
 | .n _=>[110]
 | .t _=>[116]
 | .bad=>[63]
 | .sg c=>[c]
noncomputable def Tk.val:Tk→V
 | .n k=>.int (k:Int)
 | .t s=>.str s
 | _=>.int 0
noncomputable def Tk.toV (k:Tk):V:=.tup [.str k.word,k.val]
theorem Tk.pure (k:Tk):k.toV.pure=true:=by cases k <;> rfl
theorem Tks.pure (l:List Tk):V.pures (l.map Tk.toV)=true:=by
 induction l with
 | nil=>rfl
 | cons k l ih=>simp [V.pures,Tk.pure,ih]
noncomputable def qs:Txt→Txt→Txt × Txt
 | out,[]=>(out,[])
 | out,c :: r=>if c≠39 then qs (out++[c]) r else match r with
  | []=>(out,[39])
  | d :: r'=>if d=39 then qs (out++[39]) r' else (out,39 :: d :: r')
noncomputable def dGo:Nat→Txt→Nat × Txt
 | v,[]=>(v,[])
 | v,c :: r=>if c=32 then dGo v r else if isDig c then dGo (10 * v + (c - 48)) r else (v,c :: r)
noncomputable def qTok (p:Txt × Txt):Tk × Txt:=match p.2 with
 | []=>(.bad,[])
 | _ :: r=>(if p.1=[] then .bad else .t p.1,r)
noncomputable def nTok (p:Nat × Txt):Tk × Txt:=match aft 72 p.2 with
 | some r=>(if 0 < p.1∧p.1≤r.length then .t (r.take p.1) else .bad,r.drop p.1)
 | none=>(if p.1 < 10000 then .n p.1 else .bad,p.2)
noncomputable def tok1 (c:Nat) (r:Txt):Tk × Txt:=if c=39 then qTok (qs [] r) else if isDig c then nTok (dGo (c - 48) r) else (.sg c,r)
noncomputable def toks:Nat→Txt→List Tk
 | 0,_=>[]
 | f + 1,u=>match skip u with
  | []=>[]
  | c :: r=>(tok1 c r).1 :: toks f (tok1 c r).2
noncomputable def tokS (u:Txt):List Tk:=toks (u.length + 1) u
theorem qs_out {out r:Txt} {d:Nat} (h:d≠39):qs out (39 :: d :: r)=(out,39 :: d :: r):=(if_neg h:(if d=39 then qs (out++[39]) r else (out,39 :: d :: r))=_)
theorem qs_on {out r:Txt} {c:Nat} (h:c≠39):qs out (c :: r)=qs (out++[c]) r:=by cases r <;> exact if_pos h
theorem qs_two (out r:Txt):qs out (39 :: 39 :: r)=qs (out++[39]) r:=rfl
theorem qs_suf:∀ (m:Nat) (u out:Txt),u.length≤m→Suf u (qs out u).2
 | _,[],out,_=>.rfl' _
 | m + 1,c :: u,out,hm=>by
  by_cases q:c=39
  ·subst q
   cases u with
   | nil=>exact .rfl' _
   | cons d r' =>
    by_cases q2:d=39
    ·subst q2; rw [qs_two]; exact up (up (qs_suf m r' _ (Nat.le_of_succ_le (Nat.le_of_succ_le_succ hm))))
    ·rw [qs_out q2]; exact .rfl' _
  ·rw [qs_on q]; exact up (qs_suf m u _ (Nat.le_of_succ_le_succ hm))
theorem dGo_ind {P:Nat→Txt→Nat × Txt→Prop} (h0:∀ v,P v [] (v,[])) (h1:∀ v r x,P v r x→P v (32 :: r) x) (h2:∀ v c r x,c≠32→isDig c=true→P (10 * v + (c - 48)) r x→P v (c :: r) x)
  (h3:∀ v c r,c≠32→isDig c≠true→P v (c :: r) (v,c :: r)) (u:Txt):∀ v,P v u (dGo v u):=by
 induction u with
 | nil=>exact h0
 | cons c r ih =>
  intro v
  by_cases q:c=32
  ·subst q; exact h1 v r _ (ih v)
  ·by_cases q2:isDig c=true
   ·rw [show dGo v (c :: r)=dGo (10 * v + (c - 48)) r from (if_neg q).trans (if_pos q2)]; exact h2 v c r _ q q2 (ih _)
   ·rw [show dGo v (c :: r)=(v,c :: r) from (if_neg q).trans (if_neg q2)]; exact h3 v c r q q2
theorem dGo_suf (u:Txt) (v:Nat):Suf u (dGo v u).2 :=
 dGo_ind (P:=fun _ u x=>Suf u x.2) (fun _=>.rfl' _) (fun _ _ _ h=>up h) (fun _ _ _ _ _ _ h=>up h) (fun _ _ _ _ _=>.rfl' _) u v
theorem suf_drop (k:Nat) (r:Txt):Suf r (r.drop k):=⟨r.take k,(List.take_append_drop k r).symm⟩
set_option tactic.hygienic true in
theorem nTok_suf (p:Nat × Txt):Suf p.2 (nTok p).2:=by
 unfold nTok
 split
 ·rename_i r h; rw [aft_eq h]; exact up (suf_drop _ _)
 ·exact .rfl' _
set_option tactic.hygienic true in
theorem tok1_suf (c:Nat) (r:Txt):Suf r (tok1 c r).2:=by
 unfold tok1
 split
 ·have h:=qs_suf _ r [] (Nat.le_refl _)
  unfold qTok
  split
  ·rename_i e; rw [e] at h; exact h
  ·rename_i e; rw [e] at h; exact h.tail
 ·split
  ·exact (dGo_suf r _).trans (nTok_suf _)
  ·exact .rfl' _
theorem toks_no {f:Nat} {u:Txt} (h:skip u=[]):toks (f + 1) u=[]:=congrArg (fun o=>match o with | []=>[] | c :: r=>(tok1 c r).1 :: toks f (tok1 c r).2) h
theorem toks_yes {f c:Nat} {u r:Txt} (h:skip u=c :: r):toks (f + 1) u=(tok1 c r).1 :: toks f (tok1 c r).2:=congrArg (fun o=>match o with | []=>[] | c :: r=>(tok1 c r).1 :: toks f (tok1 c r).2) h
theorem toks_irr:∀ (f g:Nat) (u:Txt),u.length < f→u.length < g→toks f u=toks g u
 | f + 1,g + 1,u,hf,hg=>by
  have hs:=skip_len u
  cases e:skip u with
  | nil=>rw [toks_no e,toks_no e]
  | cons c r =>
   rw [e] at hs
   have hl:=Nat.lt_of_le_of_lt (tok1_suf c r).len hs
   rw [toks_yes e,toks_yes e,toks_irr f g _ (Nat.lt_of_lt_of_le hl (Nat.le_of_lt_succ hf)) (Nat.lt_of_lt_of_le hl (Nat.le_of_lt_succ hg))]
theorem tokS_nil {u:Txt} (h:skip u=[]):tokS u=[]:=toks_no h
theorem tokS_cons {u r:Txt} {c:Nat} (h:skip u=c :: r):tokS u=(tok1 c r).1 :: tokS (tok1 c r).2:=by
 have hs:=skip_len u
 rw [h] at hs
 exact (toks_yes h).trans (congrArg (_ :: ·) (toks_irr u.length ((tok1 c r).2.length + 1) _ (Nat.lt_of_le_of_lt (tok1_suf c r).len hs) (Nat.lt_succ_self _)))
theorem tokS_skip (u:Txt):tokS (skip u)=tokS u:=by
 cases h:skip u with
 | nil=>rw [tokS_nil h]; rfl
 | cons c r=>rw [tokS_cons h,tokS_cons (by rw [← h,skip_skip])]
theorem tokS_blank (r:Txt):tokS (32 :: r)=tokS r:=by
 rw [← tokS_skip (32 :: r),← tokS_skip r]; rfl
noncomputable def wTokC:E:=.cmp .lt (.loc 2) (.len (.loc 0))
noncomputable def wQC:E:=.and (.cmp .lt (.loc 2) (.len (.loc 0))) (.or (.cmp .ne (.idx (.loc 0) (.loc 2)) (.str [39])) (.cmp .eq (.sl (.loc 0) (.loc 2) (.bin .add (.loc 2) (.int 2))) (.str [39,39])))
noncomputable def wQB:Ss:=.cons (.assign 4 (.bin .add (.loc 4) (.idx (.loc 0) (.loc 2))))
  (.cons (.assign 2 (.bin .add (.loc 2) (.ife (.cmp .eq (.idx (.loc 0) (.loc 2)) (.str [39])) (.int 2) (.int 1))))
  .nil)
noncomputable def wDC:E:=.and (.cmp .lt (.loc 2) (.len (.loc 0))) (.cmp .isIn (.idx (.loc 0) (.loc 2)) (.str [48,49,50,51,52,53,54,55,56,57,32]))
noncomputable def wDB:Ss:=.cons (.assign 5 (.bin .add (.loc 5) (.idx (.loc 0) (.loc 2))))
  (.cons (.assign 2 (.bin .add (.loc 2) (.int 1)))
  .nil)
section
variable {t:Txt} {N b:Nat} {H:Hp} {call:Nat→List V→Hp→Option (Res V)}
theorem e_sl2 {u:Txt} (h:Suf t u) (ht:t.length≤100000):slV (.str t) (.int (pos t u:Nat)) (.int ((pos t u:Nat) + 2))=some (.str (u.take 2)):=by
 have:=@pos_le t u
 have e:=e_sl (t:=t) (a:=pos t u) (b:=pos t u + 2) (by omega) (by omega)
 rw [show (((pos t u + 2:Nat)):Int)=(pos t u:Int) + 2 by omega] at e
 rw [e,List.drop_take,drop_pos h,show pos t u + 2 - pos t u=2 by omega]
theorem lt_yes {c:Nat} {r:Txt} (h:Suf t (c :: r)):cmpV .lt (.int (pos t (c :: r):Nat)) (.int (t.length:Nat))=some true:=by
 have:=pos_lt h
 rw [cmp_lt,decide_eq_true this]
theorem lt_no:cmpV .lt (.int (pos t []:Nat)) (.int (t.length:Nat))=some false:=by
 rw [cmp_lt,pos_nil]; simp
theorem cap_txt {n:Nat} (h:n≤100000):n≤capL:=by have:capL=1048576:=rfl; omega
theorem cap_one {n m:Nat} (h:n + m≤99999):n + (0 + 1)≤capL:=by have:capL=1048576:=rfl; omega
theorem qs_end (out:Txt):qs out [39]=(out,[39]):=rfl
theorem b_cat {x y:Txt} (h:x.length + y.length≤capL):binV H .add (.str x) (.str y)=some (.str (x++y)):=if_pos h
theorem l_quote {x1 x3 x5 x6:Option V} (ht:t.length≤80000):∀ (M:Nat) (u out:Txt),Suf t u→u.length < M→out.length + u.length≤80000 →
  Wh call N b wQC wQB M [some (.str t),x1,some (.int (pos t u:Nat)),x3,some (.str out),x5,x6] H
   (.next [some (.str t),x1,some (.int (pos t (qs out u).2:Nat)),x3,some (.str (qs out u).1),x5,x6] H):=by
 intro M
 induction M with
 | zero=>intro u out h hM; exact absurd hM (Nat.not_lt_zero _)
 | succ M ih =>
 intro u out h hM ho
 refine wh_step fun G W=>?_
 cases u with
 | nil=>exact W rfl lt_no
 | cons c r =>
  have ei:=e_idx (H:=H) h
  have e2:=e_sl2 h (by omega)
  have el:=lt_yes h
  have hc:out.length + (0 + 1)≤capL:=cap_one (m:=r.length) (by simp only [List.length_cons] at ho; omega)
  simp only [List.length_cons] at hM ho
  by_cases q:c=39
  ·subst q
   cases r with
   | nil=>rw [qs_end]; exact W rfl el ei rfl rfl e2 rfl
   | cons d r' =>
    by_cases q2:d=39
    ·subst q2
     rw [qs_two]
     exact W rfl el ei rfl rfl e2 rfl ei (b_cat hc) ei rfl (sInt (by have:=p_tail h; have:=p_tail h.tail; omega)) (ih r' (out++[39]) h.tail.tail (by simp only [List.length_cons] at hM; omega) (by simp only [List.length_append,List.length_cons,List.length_nil] at ho ⊢; omega))
    ·rw [qs_out q2]; exact W rfl el ei rfl rfl e2 ((cmp_eqs ..).trans (congrArg some (beq_eq_false_iff_ne.mpr fun z=>q2 (by cases z; rfl))))
  ·rw [qs_on q]
   exact W rfl el ei (kcn (beq_eq_false_iff_ne.mpr q)) ei (b_cat hc) ei (kne q) (sInt (p_tail h)) (ih r (out++[c]) h.tail (by omega) (by simp only [List.length_append,List.length_cons,List.length_nil]; omega))
theorem digb_big (c:Nat) (h:58≤c):(isDig c||c==32)=false:=by
 rw [dig_big c h,beq_eq_false_iff_ne.mpr (by omega)]; rfl
theorem sub_digb (c:Nat):isSub [c] [48,49,50,51,52,53,54,55,56,57,32]=(isDig c||c==32):=sub_is (f:=fun c=>isDig c||c==32) 58 (by decide +kernel) rfl digb_big c
noncomputable def gath (w:Txt) (v:Nat):Prop:=(w.filter (·≠32))≠[]∧(w.filter (·≠32)).all isDigit=true∧digVal (w.filter (·≠32))=v
theorem gath_blank {w:Txt} {v:Nat} (h:gath w v):gath (w++[32]) v:=by
 unfold gath at *
 have:(w++[32]).filter (·≠32)=w.filter (·≠32):=by simp
 rw [this]; exact h
theorem gath_dig {w:Txt} {v c:Nat} (h:gath w v) (hc:isDig c=true):gath (w++[c]) (10 * v + (c - 48)):=by
 unfold gath at *
 have hc2:c≠32:=by intro q; subst q; simp [isDig] at hc
 have:(w++[c]).filter (·≠32)=w.filter (·≠32)++[c]:=by simp [hc2]
 rw [this]
 refine ⟨by simp,?_,?_⟩
 ·rw [List.all_append,h.2.1]; simp; exact hc
 ·have:=h.2.2
  simp only [digVal,List.foldl_append,List.foldl_cons,List.foldl_nil] at *
  rw [this]; omega
theorem ib {c:Nat} {r:Bool} (h:(isDig c||c==32)=r):cmpV .isIn (.str [c]) (.str [48,49,50,51,52,53,54,55,56,57,32])=some r:=by rw [← h,← sub_digb]; rfl
theorem l_digits {x1 x3 x4 x6:Option V} (ht:t.length≤80000):∀ (M:Nat) (u w:Txt) (v:Nat),Suf t u→u.length < M→w.length + u.length≤640→gath w v →
  ∃ w',gath w' (dGo v u).1∧w'.length≤640∧Wh call N b wDC wDB M [some (.str t),x1,some (.int (pos t u:Nat)),x3,x4,some (.str w),x6] H
   (.next [some (.str t),x1,some (.int (pos t (dGo v u).2:Nat)),x3,x4,some (.str w'),x6] H):=by
 intro M
 induction M with
 | zero=>intro u w v h hM; exact absurd hM (Nat.not_lt_zero _)
 | succ M ih =>
 intro u w v h hM hw hg
 cases u with
 | nil=>exact ⟨w,hg,hw,wh_step fun G W=>W rfl lt_no⟩
 | cons c r =>
  have ei:=e_idx (H:=H) h
  have el:=lt_yes h
  have hc:w.length + (0 + 1)≤capL:=cap_one (m:=r.length) (by simp only [List.length_cons] at hw; omega)
  simp only [List.length_cons] at hM hw
  have go:∀ v',(isDig c||c==32)=true→gath (w++[c]) v'→∃ w',gath w' (dGo v' r).1∧w'.length≤640∧Wh call N b wDC wDB (M + 1) [some (.str t),x1,some (.int (pos t (c :: r):Nat)),x3,x4,some (.str w),x6] H (.next [some (.str t),x1,some (.int (pos t (dGo v' r).2:Nat)),x3,x4,some (.str w'),x6] H):=fun v' hc' hg' =>
   have ⟨w',g1,g2,g3⟩:=ih r (w++[c]) v' h.tail (by omega) (by simp only [List.length_append,List.length_cons,List.length_nil]; omega) hg'
   ⟨w',g1,g2,wh_step fun G W=>W rfl el ei (ib hc') ei (b_cat hc) (sInt (p_tail h)) g3⟩
  by_cases q:c=32
  ·rw [show dGo v (c :: r)=dGo v r from if_pos q]; exact go v (by rw [q]; rfl) (q ▸ gath_blank hg)
  ·by_cases q2:isDig c=true
   ·rw [show dGo v (c :: r)=dGo (10 * v + (c - 48)) r from (if_neg q).trans (if_pos q2)]; exact go _ (by rw [q2]; rfl) (gath_dig hg q2)
   ·rw [show dGo v (c :: r)=(v,c :: r) from (if_neg q).trans (if_neg q2)]
    exact ⟨w,hg,by omega,wh_step fun G W=>W rfl el ei (ib (r:=false) (by rw [nbool q2]; exact beq_eq_false_iff_ne.mpr q))⟩
theorem split1_co {a c:Nat} {s w:Txt} {ws:List Txt} (q:¬ c=a) (hs:split1 a s=w :: ws):split1 a (c :: s)=(c :: w) :: ws:=(if_neg q).trans (congrArg (fun l:List Txt=>match l with | []=>[[c]] | w :: ws=>(c :: w) :: ws) hs)
theorem split1_ne (a:Nat) (s:Txt):∃ w ws,split1 a s=w :: ws:=by
 induction s with
 | nil=>exact ⟨_,_,rfl⟩
 | cons c s ih =>
  by_cases q:c=a
  ·exact ⟨[],_,if_pos q⟩
  ·obtain ⟨w,ws,hs⟩:=ih
   exact ⟨_,_,split1_co q hs⟩
theorem join_split:∀ s:Txt,joinT [] (split1 32 s)=s.filter (·≠32)
 | []=>rfl
 | c :: s=>by
  have ih:=join_split s
  obtain ⟨w,ws,hs⟩:=split1_ne 32 s
  rw [hs] at ih
  by_cases q:c=32
  ·subst q
   rw [show split1 32 (32 :: s)=[] :: split1 32 s from if_pos rfl,hs]
   exact ih
  ·rw [split1_co q hs,List.filter_cons_of_pos (p:=fun x:Nat=>decide (x≠32)) (a:=c) (l:=s) (decide_eq_true q),← ih]
   cases ws <;> rfl
end
end Mine.P
end
section
namespace Mine.P
noncomputable def wTokB:Ss:=(.cons (.assign 3 (.idx (.loc 0) (.loc 2)))
  (.cons (.assign 2 (.bin .add (.loc 2) (.int 1)))
  (.cons (.ite (.cmp .eq (.loc 3) (.str [39])) (.cons (.assign 4 (.str []))
  (.cons (.while wQC wQB)
  (.cons (.append (.loc 1) (.ife (.and (.cmp .lt (.loc 2) (.len (.loc 0))) (.cmp .ne (.loc 4) (.str []))) (.tup (.cons (.str [116]) (.cons (.loc 4) .nil))) (.tup (.cons (.str [63]) (.cons (.int 0) .nil)))))
  (.cons (.assign 2 (.bin .add (.loc 2) (.int 1)))
  .nil)))) (.cons (.ite (.cmp .isIn (.loc 3) (.str [48,49,50,51,52,53,54,55,56,57])) (.cons (.assign 5 (.loc 3))
  (.cons (.while wDC wDB)
  (.cons (.assign 6 (.toInt (.replace (.loc 5) 32 [])))
  (.cons (.ite (.cmp .eq (.sl (.loc 0) (.loc 2) (.bin .add (.loc 2) (.int 1))) (.str [72])) (.cons (.append (.loc 1) (.ife (.between (.int 0) (.loc 6) (.bin .sub (.len (.loc 0)) (.loc 2))) (.tup (.cons (.str [116]) (.cons (.sl (.loc 0) (.bin .add (.loc 2) (.int 1)) (.bin .add (.bin .add (.loc 2) (.int 1)) (.loc 6))) .nil))) (.tup (.cons (.str [63]) (.cons (.int 0) .nil)))))
  (.cons (.assign 2 (.bin .add (.bin .add (.loc 2) (.int 1)) (.loc 6)))
  .nil)) (.cons (.append (.loc 1) (.ife (.cmp .lt (.loc 6) (.int 10000)) (.tup (.cons (.str [110]) (.cons (.loc 6) .nil))) (.tup (.cons (.str [63]) (.cons (.int 0) .nil)))))
  .nil))
  .nil)))) (.cons (.ite (.cmp .ne (.loc 3) (.str [32])) (.cons (.append (.loc 1) (.tup (.cons (.loc 3) (.cons (.int 0) .nil))))
  .nil) .nil)
  .nil))
  .nil))
  .nil)))
section
variable {t:Txt} {N:Nat} {H:Hp} {call:Nat→List V→Hp→Option (Res V)}
theorem e_cmp {b:Nat} {l:Loc} {o:Cop} {x y:E} {v w:V} {r:Bool} (hx:evE call b l x H=some (.ok v H)) (hy:evE call b l y H=some (.ok w H)) (hr:cmpV o v w=some r):evE call b l (.cmp o x y) H=some (.ok (.bool r) H):=bnd_ok hx (bnd_ok hy (tell_ok (map_ok hr)))
theorem e_bin {b:Nat} {l:Loc} {o:Bop} {x y:E} {v w r:V} (hx:evE call b l x H=some (.ok v H)) (hy:evE call b l y H=some (.ok w H)) (hr:binV H o v w=some r):evE call b l (.bin o x y) H=some (.ok r H):=bnd_ok hx (bnd_ok hy (tell_ok hr))
theorem e_btw {b:Nat} {l:Loc} {x y z:E} {i j k:Int} {r:Bool} (hx:evE call b l x H=some (.ok (.int i) H)) (hy:evE call b l y H=some (.ok (.int j) H)) (hz:evE call b l z H=some (.ok (.int k) H)) (h1:i < j) (hr:decide (j < k)=r):evE call b l (.between x y z) H=some (.ok (.bool r) H) :=
 bnd_ok hx (bnd_ok hy ((if_pos h1).trans (bnd_ok hz (by rw [← hr]))))
theorem e_btwn {b:Nat} {l:Loc} {x y z:E} {i j:Int} (hx:evE call b l x H=some (.ok (.int i) H)) (hy:evE call b l y H=some (.ok (.int j) H)) (h1:¬ i < j):evE call b l (.between x y z) H=some (.ok (.bool false) H) :=
 bnd_ok hx (bnd_ok hy (if_neg h1))
theorem e_loc {b:Nat} {l:Loc} {x:Nat} {v:V} (h:l[x]?=some (some v)):evE call b l (.loc x) H=some (.ok v H):=ev_loc h
theorem e_int {b:Nat} {l:Loc} {i:Int}:evE call b l (.int i) H=some (.ok (.int i) H):=rfl
theorem e_str {b:Nat} {l:Loc} {i:Txt}:evE call b l (.str i) H=some (.ok (.str i) H):=rfl
noncomputable def atOk (t:Txt) (a:Int) (u:Txt):Prop:=a=(pos t u:Nat)∨(u=[]∧(t.length:Int)≤a)
noncomputable def TokR (call:Call) (N:Nat) (H:Hp) (t:Txt) (M:Nat) (l:Loc) (K:Hp) (o:List Tk):Prop :=
 ∃ y2 y3 y4 y5 y6,Wh call N H.length wTokC wTokB M l K (.next [some (.str t),some (.ref H.length),y2,y3,y4,y5,y6] (H++[some (o.map Tk.toV)]))
noncomputable def tokK (call:Call) (N:Nat) (H:Hp) (t:Txt) (M:Nat) (G:List Tk→Prop):RS→Prop
 | .next l K=>∀ ⦃o⦄,TokR call N H t M l K o→G o
 | _=>True
theorem tok_step {M:Nat} {l:Loc} {K:Hp} {o:List Tk} (hc:evE call H.length l wTokC K=some (.ok (.bool true) K)) (h:∀ G:List Tk→Prop,wSs call N H.length wTokB l K (tokK call N H t M G)→G o):TokR call N H t (M + 1) l K o :=
 h _ (wSs_ok _ _ _ _ fun r hr=>match r,hr with
  | .next _ _,hr=>fun _ ⟨y2,y3,y4,y5,y6,g⟩=>⟨y2,y3,y4,y5,y6,wh_next hc hr g⟩
  | .cont _ _,_=>trivial
  | .ret _ _,_=>trivial
  | .exc _,_=>trivial)
theorem tk_put {M:Nat} {l:Loc} {o out:List Tk} {x:Tk} (h:TokR call N H t M l (H++[some ((out++[x]).map Tk.toV)]) o):TokR call N H t M l ((H++[some (out.map Tk.toV)]).set H.length (some (out.map Tk.toV++[x.toV]))) o:=by
 rw [stA,show out.map Tk.toV++[x.toV]=(out++[x]).map Tk.toV by rw [List.map_append]; rfl]; exact h
theorem tcap {out:List Tk} {n:Nat} (h:out.length + n≤80000):(out.map Tk.toV).length < capL:=by rw [List.length_map]; exact Nat.lt_of_le_of_lt (Nat.le_trans (Nat.le_add_right ..) h) (by decide)
theorem t_num {b:Nat} {l:Loc} {w:Txt} {k:Nat} (hl:l[5]?=some (some (.str w))) (hw:w.length≤640) (hg:gath w k):evE call b l (.toInt (.replace (.loc 5) 32 [])) H=some (.ok (.int (k:Nat)) H):=by
 obtain ⟨hg1,hg2,hg3⟩:=hg
 have hfl:(w.filter (·≠32)).length≤640:=Nat.le_trans (List.length_filter_le _ _) hw
 refine bnd_ok (v:=.str (w.filter (·≠32))) (bnd_ok (e_loc hl) ?_) (tell_ok (map_ok (v:=(k:Int)) ?_))
 ·rw [← join_split]
  exact if_pos ⟨Nat.le_trans hw (by decide),Nat.zero_le _,(fun h=>nomatch h),by rw [join_split]; exact cap_txt (Nat.le_trans hfl (by decide))⟩
 ·rw [← hg3]; exact if_pos ⟨hg1,hfl,hg2⟩
theorem ltk {k:Nat} {r:Bool} (h:decide (k < 10000)=r):cmpV .lt (.int (k:Nat)) (.int 10000)=some r:=by
 rw [← h]; exact congrArg some (decide_eq_decide.mpr Int.ofNat_lt)
theorem cnz {p:Txt} (h:p≠[]):cmpV .ne (.str p) (.str [])=some true:=by rw [cmp_nes,beq_eq_false_iff_ne.mpr h]; rfl
theorem tok_one {c:Nat} {r:Txt} (h:c≠32):tokS (c :: r)=(tok1 c r).1 :: tokS (tok1 c r).2:=tokS_cons (show skip (c :: r)=c :: r by rw [skip,if_neg h])
theorem at_drop {r:Txt} (h:Suf t r) (k:Nat):atOk t ((pos t r:Nat) + (k:Nat)) (r.drop k):=by
 rcases Nat.le_total k r.length with q | q
 ·exact .inl (by rw [show pos t (r.drop k)=pos t r + k by unfold pos; rw [List.length_drop]; exact nsub h.len q]; rfl)
 ·exact .inr ⟨List.drop_of_length_le q,Int.ofNat_le.mpr (Nat.le_trans (Nat.le_of_eq (pos_len h).symm) (Nat.add_le_add_left q _))⟩
theorem lt_gap {a b c k:Nat} (h:a + (c + 1)=b):(k:Int) < (b:Nat) - (a:Nat)↔k≤c:=by omega
theorem app1 {a b c n:Nat} (h1:c≤b) (h:a + (b + 1)≤n):a + 1 + c≤n:=by omega
theorem l_toks (ht:t.length≤600) (hN:t.length < N):∀ (M:Nat) (u:Txt) (a:Int) (out:List Tk) (x3 x4 x5 x6:Option V),Suf t u→atOk t a u→u.length < M→out.length + u.length≤80000 →
  TokR call N H t M [some (.str t),some (.ref H.length),some (.int a),x3,x4,x5,x6] (H++[some (out.map Tk.toV)]) (out++tokS u):=by
 intro M
 induction M with
 | zero=>intro u a out x3 x4 x5 x6 hs ha hM; exact absurd hM (Nat.not_lt_zero _)
 | succ M ih =>
 intro u a out x3 x4 x5 x6 hs ha hM ho
 cases u with
 | nil =>
  have hle:(t.length:Int)≤a:=ha.elim (fun h=>by rw [h,pos_nil]; exact Int.le_refl _) And.right
  rw [show out++tokS []=out from List.append_nil _]
  exact ⟨_,_,_,_,_,wh_end (e_cmp (e_loc rfl) rfl (congrArg some (decide_eq_false (Int.not_lt.mpr hle))))⟩
 | cons c r =>
  obtain rfl:a=(pos t (c :: r):Nat):=ha.resolve_right fun h=>nomatch h.1
  have ho:out.length + (r.length + 1)≤80000:=ho
  refine tok_step (e_cmp (e_loc rfl) rfl (lt_yes hs)) fun G W=>?_
  have ht':t.length≤100000:=Nat.le_trans ht (by decide)
  have ei:=e_idx (H:=H++[some (out.map Tk.toV)]) hs
  have ep:=sInt (p_tail hs)
  have hrl:=hs.tail.len
  have hgA:=hgA H (out.map Tk.toV)
  have mp:=fun x:Tk=>may_put (v:=x.toV) (Nat.le_refl H.length) (tcap ho)
  have nx:∀ (x:Tk) (a:Int) (u:Txt) (x3 x4 x5 x6:Option V),Suf r u→atOk t a u→TokR call N H t M [some (.str t),some (.ref H.length),some (.int a),x3,x4,x5,x6] ((H++[some (out.map Tk.toV)]).set H.length (some (out.map Tk.toV++[x.toV]))) (out++x :: tokS u):=fun x a u x3 x4 x5 x6 hu ha=>by
   rw [List.append_cons out x (tokS u)]
   exact tk_put (ih u a (out++[x]) x3 x4 x5 x6 (hs.tail.trans hu) ha (Nat.lt_of_le_of_lt hu.len (Nat.lt_of_succ_lt_succ hM)) (by rw [List.length_append]; exact app1 hu.len ho))
  by_cases q:c=39
  ·subst q
   have lq:=l_quote (H:=H++[some (out.map Tk.toV)]) (call:=call) (N:=N) (b:=H.length) (x1:=some (.ref H.length)) (x3:=some (.str [39])) (x5:=x5) (x6:=x6) (Nat.le_trans ht (by decide)) N r [] hs.tail (Nat.lt_of_le_of_lt hrl hN) (Nat.le_trans (Nat.le_of_eq (Nat.zero_add _)) (Nat.le_trans hrl (Nat.le_trans ht (by decide))))
   have hqs:=qs_suf _ r [] (Nat.le_refl _)
   rw [tok_one (by decide),show tok1 39 r=qTok (qs [] r) from if_pos rfl]
   generalize qs [] r=p at *
   obtain ⟨p,r2⟩:=p
   cases r2 with
   | nil=>exact W ei ep rfl lq rfl lt_no hgA (mp .bad) rfl (nx .bad _ [] _ _ _ _ hqs (.inr ⟨rfl,by rw [pos_nil]; omega⟩))
   | cons d r3 =>
    have h3:=hs.tail.trans hqs
    by_cases z3:p=[]
    ·subst z3
     exact W ei ep rfl lq rfl (lt_yes h3) rfl hgA (mp .bad) (sInt (p_tail h3)) (nx .bad _ r3 _ _ _ _ hqs.tail (.inl rfl))
    ·rw [show qTok (p,d :: r3)=(.t p,r3) by simp [qTok,z3]]
     exact W ei ep rfl lq rfl (lt_yes h3) (cnz z3) hgA (mp (.t p)) (sInt (p_tail h3)) (nx (.t p) _ r3 _ _ _ _ hqs.tail (.inl rfl))
  by_cases q2:isDig c=true
  ·have hc32:c≠32:=by rintro rfl; cases q2
   have hg0:gath [c] (c - 48):=by
    have:[c].filter (·≠32)=[c]:=by simp [hc32]
    unfold gath
    rw [this]
    exact ⟨List.cons_ne_nil _ _,by show [c].all isDig=true; simpa using q2,by simp [digVal]⟩
   obtain ⟨w',hg,hw,ld⟩:=l_digits (H:=H++[some (out.map Tk.toV)]) (call:=call) (N:=N) (b:=H.length) (x1:=some (.ref H.length)) (x3:=some (.str [c])) (x4:=x4) (x6:=x6) (Nat.le_trans ht (by decide)) N r [c] (c - 48) hs.tail (Nat.lt_of_le_of_lt hrl hN) (Nat.le_trans (Nat.le_of_eq (Nat.add_comm ..)) (Nat.le_trans hs.len (Nat.le_trans ht (by decide)))) hg0
   have hds:=dGo_suf r (c - 48)
   rw [tok_one hc32,show tok1 c r=nTok (dGo (c - 48) r) from (if_neg q).trans (if_pos q2)]
   generalize dGo (c - 48) r=p at *
   obtain ⟨k,r2⟩:=p
   have h2:=hs.tail.trans hds
   have eh:=e_sl1 h2 ht'
   have tn:=t_num (call:=call) (b:=H.length) (l:=[some (.str t),some (.ref H.length),some (.int (pos t r2:Nat)),some (.str [c]),x4,some (.str w'),x6]) (H:=H++[some (out.map Tk.toV)]) rfl hw hg
   cases ha:aft 72 r2 with
   | none =>
    have k1:cmpV .eq (.str (r2.take 1)) (.str [72])=some false:=by rw [cmp_eqs,aft_none ha]
    rw [show nTok (k,r2)=(if k < 10000 then .n k else .bad,r2) by rw [nTok,ha]]
    by_cases q4:k < 10000
    ·rw [if_pos q4]; exact W ei ep (kne q) (dgI q2) ld tn rfl eh k1 (ltk (decide_eq_true q4)) hgA (mp (.n k)) (nx (.n k) _ r2 _ _ _ _ hds (.inl rfl))
    ·rw [if_neg q4]; exact W ei ep (kne q) (dgI q2) ld tn rfl eh k1 (ltk (decide_eq_false q4)) hgA (mp .bad) (nx .bad _ r2 _ _ _ _ hds (.inl rfl))
   | some r3 =>
    have k1:cmpV .eq (.str (r2.take 1)) (.str [72])=some true:=by rw [cmp_eqs,aft_take ha]
    have ep2:=p_aft h2 ha
    have h3:=aft_suf h2 ha
    have hr2:=aft_eq ha
    have hpl:pos t r2 + (r3.length + 1)=t.length:=(congrArg (fun u:Txt=>pos t r2 + u.length) hr2).symm.trans (pos_len h2)
    have hat:atOk t ((pos t r2:Nat) + 1 + (k:Nat)) (r3.drop k):=by
     rw [ep2]; exact at_drop h3 k
    have hsd:=hds.trans ((show Suf r2 r3 from ⟨[72],hr2⟩).trans (suf_drop k r3))
    rw [show nTok (k,r2)=(if 0 < k∧k≤r3.length then .t (r3.take k) else .bad,r3.drop k) by rw [nTok,ha]]
    by_cases q4:0 < k∧k≤r3.length
    ·have e5:slV (.str t) (.int ((pos t r2:Nat) + 1)) (.int (((pos t r2:Nat):Int) + 1 + (k:Nat)))=some (.str (r3.take k)):=by
      have e:=e_sl (t:=t) (a:=pos t r3) (b:=pos t r3 + k) (Nat.le_trans pos_le (Nat.le_trans ht (by decide))) (Nat.le_trans (Nat.add_le_add_left q4.2 _) (Nat.le_trans (Nat.le_of_eq (pos_len h3)) (Nat.le_trans ht (by decide))))
      rw [show (((pos t r3 + k:Nat)):Int)=(pos t r3:Int) + (k:Nat) from rfl] at e
      rw [ep2,e,List.drop_take,drop_pos h3,Nat.add_sub_cancel_left]
     rw [if_pos q4]
     exact W ei ep (kne q) (dgI q2) ld tn rfl eh k1 (e_btw rfl rfl (e_bin rfl rfl rfl) (Int.ofNat_lt.mpr q4.1) (decide_eq_true ((lt_gap hpl).mpr q4.2))) rfl rfl rfl e5 hgA (mp (.t (r3.take k))) rfl rfl (nx (.t (r3.take k)) _ _ _ _ _ _ hsd hat)
    ·rw [if_neg q4]
     have bt:evE call H.length [some (.str t),some (.ref H.length),some (.int (pos t r2:Nat)),some (.str [c]),x4,some (.str w'),some (.int (k:Nat))] (.between (.int 0) (.loc 6) (.bin .sub (.len (.loc 0)) (.loc 2))) (H++[some (out.map Tk.toV)])=some (.ok (.bool false) (H++[some (out.map Tk.toV)])):=by
      by_cases q5:0 < k
      ·exact e_btw rfl rfl (e_bin rfl rfl rfl) (Int.ofNat_lt.mpr q5) (decide_eq_false fun z=>q4 ⟨q5,(lt_gap hpl).mp z⟩)
      ·exact e_btwn rfl rfl fun z=>q5 (Int.ofNat_lt.mp z)
     exact W ei ep (kne q) (dgI q2) ld tn rfl eh k1 bt hgA (mp .bad) rfl rfl (nx .bad _ _ _ _ _ _ hsd hat)
  by_cases q3:c=32
  ·subst q3
   rw [tokS_blank]
   exact W ei ep rfl rfl rfl (ih r _ out _ _ _ _ hs.tail (.inl rfl) (Nat.lt_of_succ_lt_succ hM) (Nat.le_trans (Nat.add_le_add_left (Nat.le_succ _) _) ho))
  ·rw [tok_one q3,show tok1 c r=(.sg c,r) from (if_neg q).trans (if_neg q2)]
   exact W ei ep (kne q) (dgI (nbool q2)) (kcn (beq_eq_false_iff_ne.mpr q3)) hgA (mp (.sg c)) (nx (.sg c) _ r _ _ _ _ (.rfl' _) (.inl rfl))
noncomputable def endV:V:=.tup [.str [101,110,100],.int 0]
noncomputable def tokV (ts:List Tk):List V:=ts.map Tk.toV++List.replicate 6 endV
theorem tokV_pures (ts:List Tk):V.pures (tokV ts)=true:=by
 unfold tokV
 induction ts with
 | nil=>rfl
 | cons k l ih=>exact Bool.and_eq_true_iff.mpr ⟨Tk.pure k,ih⟩
theorem toks_len:∀ (f:Nat) (u:Txt),(toks f u).length≤u.length
 | 0,u=>Nat.zero_le _
 | f + 1,u=>by
  have hs:=skip_len u
  cases e:skip u with
  | nil=>rw [toks_no e]; exact Nat.zero_le _
  | cons c r =>
   rw [e] at hs
   rw [toks_yes e]
   exact Nat.le_trans (Nat.succ_le_succ (Nat.le_trans (toks_len f (tok1 c r).2) (tok1_suf c r).len)) hs
theorem tokS_len (u:Txt):(tokS u).length≤u.length:=toks_len _ _
theorem s_tokens {n:Nat} (ht:t.length≤600) (hN:t.length < N):callF theFn N (n + 1) 31 [.str t] H=some (.ok (.lst (tokV (tokS t))) H):=by
 have W:=wC (N:=N) n 31 F_law_tokens [.str t] H rfl rfl
 obtain ⟨y2,y3,y4,y5,y6,h⟩:=l_toks (call:=callF theFn N n) (H:=H) ht hN N t 0 [] none none none none (.rfl' t) (.inl (by rw [pos_self]; rfl)) hN (by simp only [List.length_nil]; omega)
 have hl:=tokS_len t
 have p2:(decide (((tokS t).map Tk.toV).length + (List.replicate 6 endV).length≤capL)&&V.pures ((tokS t).map Tk.toV)&&V.pures (List.replicate 6 endV))=true:=by
  rw [Tks.pure,decide_eq_true (cap_txt (by rw [List.length_map,List.length_replicate]; omega))]; rfl
 have e3:binV (H++[some ((tokS t).map Tk.toV)]) .add (.ref H.length) (.lst (List.replicate 6 endV))=some (.lst (tokV (tokS t))):=by
  show (match hget _ H.length,(some (List.replicate 6 endV):Option (List V)) with | some l,some m=>if (decide (l.length + m.length≤capL)&&V.pures l&&V.pures m)=true then some (V.lst (l++m)) else none | _,_=>none)=_
  rw [hgA]; exact if_pos p2
 exact W h rfl rfl e3 (tokV_pures _) (tkA _ _)
end
end Mine.P
end
section
namespace Mine.P
noncomputable def oV:Option Tk→V
 | some k=>k.toV
 | none=>endV
noncomputable def oW:Option Tk→Txt
 | some k=>k.word
 | none=>[101,110,100]
noncomputable def oX:Option Tk→V
 | some k=>k.val
 | none=>.int 0
noncomputable def Tk.okk:Tk→Prop
 | .sg c=>c≠110∧c≠116∧c≠63
 | .n k=>k < 10000
 | _=>True
noncomputable def okO:Option Tk→Prop
 | some k=>k.okk
 | none=>True
noncomputable def isSg (c:Nat):Option Tk→Bool
 | some (.sg d)=>d==c
 | _=>false
noncomputable def isN:Option Tk→Bool
 | some (.n _)=>true
 | _=>false
noncomputable def isT:Option Tk→Bool
 | some (.t _)=>true
 | _=>false
noncomputable def nv:Option Tk→Nat
 | some (.n k)=>k
 | _=>0
noncomputable def valO:Option Tk→Bool
 | some (.sg c)=>isVal c
 | _=>false
noncomputable def nAt (lo:Nat) (o:Option Tk):Bool:=isN o&&decide (lo≤nv o)
theorem w_sg {c:Nat} (o:Option Tk) (h1:c≠110) (h2:c≠116) (h3:c≠63):(oW o==[c])=isSg c o:=by
 rcases o with _ | ⟨k⟩ | ⟨s⟩ | _ | ⟨d⟩
 ·exact Bool.and_false _
 ·exact (Bool.and_true _).trans (beq_eq_false_iff_ne.mpr h1.symm)
 ·exact (Bool.and_true _).trans (beq_eq_false_iff_ne.mpr h2.symm)
 ·exact (Bool.and_true _).trans (beq_eq_false_iff_ne.mpr h3.symm)
 ·exact Bool.and_true _
theorem w_n {o:Option Tk} (h:okO o):(oW o==[110])=isN o:=by
 rcases o with _ | ⟨k⟩ | ⟨s⟩ | _ | ⟨d⟩
 ·rfl
 ·rfl
 ·rfl
 ·rfl
 ·exact (Bool.and_true _).trans (beq_eq_false_iff_ne.mpr h.1)
theorem w_val (o:Option Tk):([[73],[70],[69],[68],[71],[76],[65]]:List Txt).contains (oW o)=valO o:=by
 rcases o with _ | ⟨k⟩ | ⟨s⟩ | _ | ⟨d⟩
 ·rfl
 ·rfl
 ·rfl
 ·rfl
 ·rw [Bool.eq_iff_iff]; simp [oW,Tk.word,valO,isVal]; omega
theorem w_two {a b:Nat} (o:Option Tk) (ha1:a≠110) (ha2:a≠116) (ha3:a≠63) (hb1:b≠110) (hb2:b≠116) (hb3:b≠63):([[a],[b]]:List Txt).contains (oW o)=(isSg a o||isSg b o):=by
 rw [← w_sg o ha1 ha2 ha3,← w_sg o hb1 hb2 hb3,Bool.eq_iff_iff]
 simp
theorem i_oV0 (H:Hp) (o:Option Tk):idxV H (oV o) (.int 0)=some (.str (oW o)):=by cases o <;> rfl
theorem i_oV1 (H:Hp) (o:Option Tk):idxV H (oV o) (.int 1)=some (oX o):=by cases o <;> rfl
theorem oX_n {o:Option Tk} (h:isN o=true):oX o=.int (nv o:Nat):=by
 rcases o with _ | ⟨k⟩ | ⟨s⟩ | _ | ⟨d⟩ <;> first | rfl | cases h
noncomputable def Sk (ts w:List Tk):Prop:=∃ p,ts=p++w
noncomputable def pk (ts w:List Tk):Nat:=ts.length - w.length
theorem Sk.rfl' (ts:List Tk):Sk ts ts:=⟨[],rfl⟩
theorem Sk.drop {ts w:List Tk} (h:Sk ts w) (j:Nat):Sk ts (w.drop j):=by
 obtain ⟨p,rfl⟩:=h
 exact ⟨p++w.take j,by rw [List.append_assoc,List.take_append_drop]⟩
theorem Sk.tail {ts w:List Tk} {k:Tk} (h:Sk ts (k :: w)):Sk ts w:=h.drop 1
theorem Sk.len {ts w:List Tk} (h:Sk ts w):w.length≤ts.length:=by
 obtain ⟨p,rfl⟩:=h
 simp
theorem pk_drop {ts w:List Tk} (h:Sk ts w) {j:Nat} (hj:j≤w.length):((pk ts (w.drop j):Nat):Int)=(pk ts w:Nat) + (j:Nat):=by
 unfold pk; rw [List.length_drop]; exact congrArg (Nat.cast (R:=Int)) (nsub h.len hj)
theorem pk_tail {ts w:List Tk} {k:Tk} (h:Sk ts (k :: w)):((pk ts (k :: w):Nat):Int) + 1=(pk ts w:Nat):=by
 exact (congrArg (Nat.cast (R:=Int)) (nsub h.len (Nat.succ_pos _))).symm
theorem tk_idx {ts w:List Tk} (h:Sk ts w) (j:Nat) (hj:j≤5) {i:Int} (hi:i=(pk ts w:Nat) + (j:Nat)) (H:Hp):idxV H (.lst (tokV ts)) (.int i)=some (oV w[j]?):=by
 obtain ⟨p,rfl⟩:=h
 have hpk:pk (p++w) w=p.length:=by simp [pk]
 rw [hpk] at hi
 subst hi
 have h0:(0:Int)≤(p.length:Nat) + (j:Nat):=Int.natCast_nonneg (p.length + j)
 have h1:((p.length:Int) + (j:Nat)).toNat=p.length + j:=rfl
 show getAt _ _=_; rw [getAt,if_pos h0,h1,tokV,List.map_append,List.append_assoc]
 rw [List.getElem?_append_right (by simp),List.length_map,Nat.add_sub_cancel_left]
 by_cases q:j < w.length
 ·rw [List.getElem?_append_left (by simpa using q),List.getElem?_map]
  simp [List.getElem?_eq_getElem q,oV]
 ·rw [List.getElem?_append_right (by simpa using q),List.getElem?_eq_none (by omega:w.length≤j),List.length_map]
  rw [List.getElem?_replicate]
  rw [if_pos (by omega)]; rfl
theorem okO_get {w:List Tk} (h:∀ k∈w,k.okk) (j:Nat):okO w[j]?:=by
 cases q:w[j]? with
 | none=>trivial
 | some k=>exact h k (List.mem_of_getElem? q)
noncomputable def rsT (ts:List Tk) (H:Hp):Option (It × List Tk)→Option (Res V)
 | none=>some (.ok .none H)
 | some (i,w)=>some (.ok (.tup [i.toV,.int (pk ts w:Nat)]) H)
noncomputable def nI (k:Nat):Option Int:=some (k:Int)
noncomputable def realsT (c:Nat) (w:List Tk):Option (It × List Tk) :=
 if isSg 46 w[1]?&&nAt 0 w[2]? then
  if c=70∨c=68 then some (.nums [c] [nI (nv w[0]?),nI (nv w[2]?)],w.drop 3) else
  if isSg 69 w[3]? then (if nAt 1 w[4]? then some (.nums [c] [nI (nv w[0]?),nI (nv w[2]?),nI (nv w[4]?)],w.drop 5) else none)
  else some (.nums [c] [nI (nv w[0]?),nI (nv w[2]?),none],w.drop 3)
 else none
noncomputable def valuedT:List Tk→Option (It × List Tk)
 | .sg c :: w =>
  if c=65∧isN w[0]?=false then some (.nums [65] [none],w) else
  if nAt 1 w[0]? then
   if c=65∨c=76 then some (.nums [c] [nI (nv w[0]?)],w.drop 1) else
   if c≠73 then realsT c w else
   if isSg 46 w[1]? then (if nAt 0 w[2]?&&!decide (nv w[0]? < nv w[2]?) then some (.nums [73] [nI (nv w[0]?),nI (nv w[2]?)],w.drop 3) else none)
   else some (.nums [73] [nI (nv w[0]?),none],w.drop 1)
  else none
 | _=>none
noncomputable def ct83 (w:List Tk):Option (It × List Tk):=if isSg 80 w[0]? then some (.nums [83,80] [],w.drop 1) else if isSg 83 w[0]? then some (.nums [83,83] [],w.drop 1) else some (.nums [83] [],w)
noncomputable def ct66 (w:List Tk):Option (It × List Tk):=if isSg 78 w[0]? then some (.nums [66,78] [],w.drop 1) else if isSg 90 w[0]? then some (.nums [66,90] [],w.drop 1) else none
noncomputable def ct84 (w:List Tk):Option (It × List Tk) :=
 if isSg 76 w[0]? then (if nAt 1 w[1]? then some (.nums [84,76] [nI (nv w[1]?)],w.drop 2) else none) else
 if isSg 82 w[0]? then (if nAt 1 w[1]? then some (.nums [84,82] [nI (nv w[1]?)],w.drop 2) else none) else
 if nAt 1 w[0]? then some (.nums [84] [nI (nv w[0]?)],w.drop 1) else none
noncomputable def ct43 (c:Nat) (w:List Tk):Option (It × List Tk):=some (.nums [80] [some (if c=43 then (nv w[0]?:Int) else -(nv w[0]?:Int))],w.drop 2)
noncomputable def controlT:List Tk→Option (It × List Tk)
 | .t s :: w=>some (.text s,w)
 | .sg c :: w =>
  if c=47∨c=58 then some (.nums [c] [],w) else
  if (c=43∨c=45)∧(isN w[0]?&&isSg 80 w[1]?)=true then ct43 c w else
  if c=83 then ct83 w else
  if c=66 then ct66 w else
  if c=84 then ct84 w else none
 | _=>none
noncomputable def singleT:List Tk→Option (It × List Tk)
 | .n k :: w =>
  if isSg 80 w[0]? then some (.nums [80] [nI k],w.drop 1) else
  if 0 < k∧isSg 88 w[0]?=true then some (.nums [88] [nI k],w.drop 1) else
  if 0 < k∧valO w[0]?=true then (valuedT w).map fun p=>(if 1 < k then .rep k p.1 else p.1,p.2) else none
 | .sg c :: w=>if isVal c then valuedT (.sg c :: w) else controlT (.sg c :: w)
 | w=>controlT w
section
variable {ts:List Tk} {b N:Nat} {H:Hp}
theorem lt_of_sg {c j:Nat} {w:List Tk} (h:isSg c w[j]?=true):j < w.length:=by
 apply Classical.byContradiction
 intro q
 rw [List.getElem?_eq_none (by omega)] at h
 cases h
theorem lt_of_n {j:Nat} {w:List Tk} (h:isN w[j]?=true):j < w.length:=by
 apply Classical.byContradiction
 intro q
 rw [List.getElem?_eq_none (by omega)] at h
 cases h
theorem nAt_n {lo:Nat} {o:Option Tk} (h:nAt lo o=true):isN o=true:=by
 simp [nAt] at h; exact h.1
theorem kN {o:Option Tk} {r:Bool} (ho:okO o) (h:isN o=r):cmpV .eq (.str (oW o)) (.str [110])=some r:=by rw [cmp_eqs,w_n ho,h]
theorem kNn {o:Option Tk} {r:Bool} (ho:okO o) (h:isN o=r):cmpV .ne (.str (oW o)) (.str [110])=some (!r):=by rw [cmp_nes,w_n ho,h]
noncomputable def okc (a:Nat):Bool:=a != 110&&(a != 116&&a != 63)
theorem okc_ {a:Nat} (h:okc a=true):a≠110∧a≠116∧a≠63:=by simpa [okc] using h
theorem kW {o:Option Tk} {a:Nat} {r:Bool} (ha:okc a=true) (h:isSg a o=r):cmpV .eq (.str (oW o)) (.str [a])=some r:=by
 rw [cmp_eqs,w_sg _ (okc_ ha).1 (okc_ ha).2.1 (okc_ ha).2.2,h]
theorem kWn {o:Option Tk} {a:Nat} {r:Bool} (ha:okc a=true) (h:isSg a o=r):cmpV .ne (.str (oW o)) (.str [a])=some (!r):=by
 rw [cmp_nes,w_sg _ (okc_ ha).1 (okc_ ha).2.1 (okc_ ha).2.2,h]
theorem c2 {o:Option Tk} {a b:Nat} {r s:Bool} (ha:okc a=true) (hb:okc b=true) (h:isSg a o=r) (g:isSg b o=s):([[a],[b]]:List Txt).contains (oW o)=(r||s):=by
 rw [w_two _ (okc_ ha).1 (okc_ ha).2.1 (okc_ ha).2.2 (okc_ hb).1 (okc_ hb).2.1 (okc_ hb).2.2,h,g]
theorem ci {c a b:Nat} {r:Bool} (h:(c==a||c==b)=r):cmpV .isIn (.str [c]) (.str [a,b])=some r:=by
 rw [cmp_isin,← h,show isSub [c] [a,b]=((c==a&&true)||((c==b&&true)||false)) from rfl,Bool.and_true,Bool.and_true,Bool.or_false]
theorem cge (a b:Nat):cmpV .ge (.int (a:Nat)) (.int (b:Nat))=some (decide (b≤a)):=by
 show some (decide _)=_
 rw [decide_eq_decide.mpr (show ((b:Nat):Int)≤(a:Nat)↔b≤a by omega)]
theorem n_lt {w:List Tk} (hk:∀ k∈w,k.okk) (h:isN w[0]?=true):nv w[0]? < 10000:=by
 have:=okO_get hk 0
 rcases q:w[0]? with _ | ⟨k⟩ | ⟨s⟩ | _ | ⟨d⟩ <;> rw [q] at h this <;> first | exact this | cases h
theorem vN {o:Option Tk} {H:Hp} (h:isN o=true):idxV H (oV o) (.int 1)=some (.int (nv o:Nat)):=(i_oV1 H o).trans (by rw [oX_n h])
theorem sg_cons {d:Nat} {w:List Tk} (h:isSg d w[0]?=true):∃ v,w=.sg d :: v:=by
 cases w with
 | nil=>cases h
 | cons k v=>cases k <;> first | cases h | exact ⟨v,by rw [beq_iff_eq.mp h]⟩
theorem tk0 {w:List Tk} (h:Sk ts w):idxV H (.lst (tokV ts)) (.int (pk ts w:Nat))=some (oV w[0]?):=tk_idx h 0 (by omega) (by omega) H
theorem tkj {w:List Tk} (h:Sk ts w) (j:Nat) (hj:Nat.ble j 5=true):idxV H (.lst (tokV ts)) (.int ((pk ts w:Nat) + (j:Nat)))=some (oV w[j]?):=tk_idx h j (Nat.le_of_ble_eq_true hj) rfl H
theorem pkj {w:List Tk} (h:Sk ts w) {j:Nat} (hj:j≤w.length):some (V.int ((pk ts w:Nat) + (j:Nat)))=some (.int (pk ts (w.drop j):Nat)):=sInt (pk_drop h hj).symm
theorem fm {k:Nat} {j r:Int} (hk:k < 10000) (hj:j=1∨j=-1) (h:k * j=r):binV H .mul (.int (k:Nat)) (.int j)=some (.int r):=by
 have f1:fitsI (k:Int)=true:=decide_eq_true (show (k:Int).natAbs < 4611686018427387904 from Nat.lt_of_lt_of_le hk (by decide))
 have f2:fitsI j=true:=by rcases hj with rfl | rfl <;> rfl
 exact (if_pos (by rw [f1,f2]; rfl)).trans (congrArg (fun r=>some (V.int r)) h)
theorem s_number {o:Option Tk} {i:Int} {lo n:Nat} (ho:okO o) (hi:∀ H,idxV H (.lst (tokV ts)) (.int i)=some (oV o)) :
  callF theFn N (n + 1) 32 [.lst (tokV ts),.int i,.int (lo:Nat)] H=some (.ok (.bool (nAt lo o)) H):=by
 have W:=wC (N:=N) n 32 F_law_number [.lst (tokV ts),.int i,.int (lo:Nat)] H rfl rfl
 unfold nAt
 cases hn:isN o with
 | false=>exact W (hi H) (i_oV0 ..) (kN ho hn) rfl List.take_length
 | true=>exact W (hi H) (i_oV0 ..) (kN ho hn) (hi H) (vN hn) (cge _ _) rfl List.take_length
theorem nm {o:Option Tk} {i:Int} {lo n:Nat} {r:Bool} (ho:okO o) (hi:∀ H,idxV H (.lst (tokV ts)) (.int i)=some (oV o)) (h:nAt lo o=r) :
  callF theFn N (n + 1) 32 [.lst (tokV ts),.int i,.int (lo:Nat)] H=some (.ok (.bool r) H):=h ▸ s_number ho hi
theorem s_reals {c n:Nat} {w:List Tk} (h:Sk ts w) (hk:∀ k∈w,k.okk) (h0:isN w[0]?=true) :
  callF theFn N (n + 2) 33 [.str [c],.lst (tokV ts),.int (pk ts w:Nat)] H=rsT ts H (realsT c w):=by
 have W:=wC (N:=N) (n + 1) 33 F_law_reals [.str [c],.lst (tokV ts),.int (pk ts w:Nat)] H rfl rfl
 unfold realsT
 cases q1:isSg 46 w[1]? with
 | false=>exact W rfl (tkj h 1 rfl) (i_oV0 ..) (kWn rfl q1) rfl List.take_length
 | true =>
  cases q2:nAt 0 w[2]? with
  | false=>exact W rfl (tkj h 1 rfl) (i_oV0 ..) (kWn rfl q1) rfl (nm (okO_get hk 2) (fun H=>tkj h 2 rfl) q2) rfl List.take_length
  | true =>
   have l2:=lt_of_n (nAt_n q2)
   have a2:=vN (H:=H) (nAt_n q2)
   refine iteP (P:=fun y=>_=rsT ts H y) (fun _=>?_) fun z=>absurd rfl z
   refine iteP (P:=fun y=>_=rsT ts H y) (fun q=>W rfl (tkj h 1 rfl) (i_oV0 ..) (kWn rfl q1) rfl (nm (okO_get hk 2) (fun H=>tkj h 2 rfl) q2) (tk0 h) (vN h0) rfl (tkj h 2 rfl) a2 (ci (or1 q)) (pkj h (j:=3) l2) rfl List.take_length) fun q=>?_
   cases q4:isSg 69 w[3]? with
   | false=>exact W rfl (tkj h 1 rfl) (i_oV0 ..) (kWn rfl q1) rfl (nm (okO_get hk 2) (fun H=>tkj h 2 rfl) q2) (tk0 h) (vN h0) rfl (tkj h 2 rfl) a2 (ci (or0 q)) rfl (tkj h 3 rfl) (i_oV0 ..) (kWn rfl q4) rfl (pkj h (j:=3) l2) rfl List.take_length
   | true =>
    cases q5:nAt 1 w[4]? with
    | false=>exact W rfl (tkj h 1 rfl) (i_oV0 ..) (kWn rfl q1) rfl (nm (okO_get hk 2) (fun H=>tkj h 2 rfl) q2) (tk0 h) (vN h0) rfl (tkj h 2 rfl) a2 (ci (or0 q)) rfl (tkj h 3 rfl) (i_oV0 ..) (kWn rfl q4) rfl (nm (okO_get hk 4) (fun H=>tkj h 4 rfl) q5) rfl List.take_length
    | true=>exact W rfl (tkj h 1 rfl) (i_oV0 ..) (kWn rfl q1) rfl (nm (okO_get hk 2) (fun H=>tkj h 2 rfl) q2) (tk0 h) (vN h0) rfl (tkj h 2 rfl) a2 (ci (or0 q)) rfl (tkj h 3 rfl) (i_oV0 ..) (kWn rfl q4) rfl (nm (okO_get hk 4) (fun H=>tkj h 4 rfl) q5) rfl (tkj h 4 rfl) (vN (nAt_n q5)) rfl (pkj h (j:=5) (lt_of_n (nAt_n q5))) rfl List.take_length
end
end Mine.P
end
section
namespace Mine.P
section
variable {ts:List Tk} {b N:Nat} {H:Hp}
theorem b_add_str {x y:Txt} (h:x.length + y.length≤100000):binV H .add (.str x) (.str y)=some (.str (x++y)):=if_pos (cap_txt h)
theorem s_valued {c n:Nat} {w:List Tk} (h:Sk ts (.sg c :: w)) (hk:∀ k∈(.sg c :: w:List Tk),k.okk) (hv:isVal c=true) :
  callF theFn N (n + 3) 34 [.lst (tokV ts),.int (pk ts (.sg c :: w):Nat)] H=rsT ts H (valuedT (.sg c :: w)):=by
 have W:=wC (N:=N) (n + 2) 34 F_law_valued [.lst (tokV ts),.int (pk ts (.sg c :: w):Nat)] H rfl rfl
 have hkw:=fun k hk'=>hk k (.tail _ hk')
 have h1:∀ {r},nAt 1 w[0]?=r→_:=fun {r} q=>nm (N:=N) (H:=H) (n:=n + 1) (okO_get hkw 0) (fun H=>tkj h 1 rfl) q
 have d2:isN w[0]?=true→_:=fun q=>pkj h (j:=2) (Nat.succ_le_of_lt (Nat.succ_lt_succ (lt_of_n q)))
 show _=rsT ts H (@ite (Option (It × List Tk)) _ _ _ _)
 by_cases q0:c=65
 ·subst q0
  cases qn:isN w[0]? with
  | false=>exact W (tk0 h) rfl rfl rfl (tkj h 1 rfl) (i_oV0 ..) (kNn (okO_get hkw 0) qn) (sInt (pk_tail h)) rfl List.take_length
  | true =>
   cases qa:nAt 1 w[0]? with
   | false =>
    exact W (tk0 h) rfl rfl rfl (tkj h 1 rfl) (i_oV0 ..) (kNn (okO_get hkw 0) qn) rfl (h1 qa) rfl List.take_length
   | true =>
    exact W (tk0 h) rfl rfl rfl (tkj h 1 rfl) (i_oV0 ..) (kNn (okO_get hkw 0) qn) rfl (h1 qa) rfl (tkj h 1 rfl) (vN qn) rfl (d2 qn) rfl List.take_length
 ·refine iteP (P:=fun y=>_=rsT ts H y) (fun q=>absurd q.1 q0) fun _=>?_
  cases qa:nAt 1 w[0]? with
  | false=>exact W (tk0 h) rfl (kne q0) rfl (h1 qa) rfl List.take_length
  | true =>
   have qn:=nAt_n qa
   refine iteP (P:=fun y=>_=rsT ts H y) (fun _=>?_) fun z=>absurd rfl z
   refine iteP (P:=fun y=>_=rsT ts H y) (fun q=>W (tk0 h) rfl (kne q0) rfl (h1 qa) rfl (tkj h 1 rfl) (vN qn) (ci (or1 q)) (d2 qn) rfl List.take_length) fun q2=>?_
   refine iteP (P:=fun y=>_=rsT ts H y) (fun q3=>?_) fun q3=>?_
   ·have er:=s_reals (N:=N) (H:=H) (n:=n) (c:=c) h.tail hkw qn
    cases hr:realsT c w with
    | none=>exact W (tk0 h) rfl (kne q0) rfl (h1 qa) rfl (tkj h 1 rfl) (vN qn) (ci (or0 q2)) (kcn (beq_eq_false_iff_ne.mpr q3)) (sInt (pk_tail h)) (er.trans (congrArg (rsT ts H) hr)) rfl List.take_length
    | some p=>exact W (tk0 h) rfl (kne q0) rfl (h1 qa) rfl (tkj h 1 rfl) (vN qn) (ci (or0 q2)) (kcn (beq_eq_false_iff_ne.mpr q3)) (sInt (pk_tail h)) (er.trans (congrArg (rsT ts H) hr)) (pI ..) List.take_length
   ·obtain rfl:c=73:=Decidable.not_not.mp q3
    cases q4:isSg 46 w[1]? with
    | false=>exact W (tk0 h) rfl rfl rfl (h1 qa) rfl (tkj h 1 rfl) (vN qn) rfl rfl rfl (tkj h 2 rfl) (i_oV0 ..) (kWn rfl q4) (d2 qn) rfl List.take_length
    | true =>
     cases q5:nAt 0 w[2]? with
     | false=>exact W (tk0 h) rfl rfl rfl (h1 qa) rfl (tkj h 1 rfl) (vN qn) rfl rfl rfl (tkj h 2 rfl) (i_oV0 ..) (kWn rfl q4) rfl (nm (okO_get hkw 2) (fun H=>tkj h 3 rfl) q5) rfl List.take_length
     | true =>
      cases q6:decide (nv w[0]? < nv w[2]?) with
      | true=>exact W (tk0 h) rfl rfl rfl (h1 qa) rfl (tkj h 1 rfl) (vN qn) rfl rfl rfl (tkj h 2 rfl) (i_oV0 ..) (kWn rfl q4) rfl (nm (okO_get hkw 2) (fun H=>tkj h 3 rfl) q5) rfl (tkj h 3 rfl) (vN (nAt_n q5)) (cgt q6) rfl List.take_length
      | false=>exact W (tk0 h) rfl rfl rfl (h1 qa) rfl (tkj h 1 rfl) (vN qn) rfl rfl rfl (tkj h 2 rfl) (i_oV0 ..) (kWn rfl q4) rfl (nm (okO_get hkw 2) (fun H=>tkj h 3 rfl) q5) rfl (tkj h 3 rfl) (vN (nAt_n q5)) (cgt q6) rfl (tkj h 3 rfl) (vN (nAt_n q5)) (pkj h (j:=4) (Nat.succ_le_of_lt (Nat.succ_lt_succ (lt_of_n (nAt_n q5))))) rfl List.take_length
theorem s_control {n:Nat} {w:List Tk} (h:Sk ts w) (hk:∀ k∈w,k.okk) :
  callF theFn N (n + 2) 35 [.lst (tokV ts),.int (pk ts w:Nat)] H=rsT ts H (controlT w):=by
 have W:=wC (N:=N) (n + 1) 35 F_law_control [.lst (tokV ts),.int (pk ts w:Nat)] H rfl rfl
 match w,h with
 | [],h=>exact W (tk0 h) rfl rfl (tkj h 1 rfl) rfl rfl rfl rfl rfl rfl rfl rfl List.take_length
 | .n k :: w,h=>exact W (tk0 h) rfl rfl (tkj h 1 rfl) (i_oV0 ..) rfl rfl rfl rfl rfl rfl rfl List.take_length
 | .bad :: w,h=>exact W (tk0 h) rfl rfl (tkj h 1 rfl) (i_oV0 ..) rfl rfl rfl rfl rfl rfl rfl List.take_length
 | .t s :: w,h=>exact W (tk0 h) rfl rfl (tkj h 1 rfl) (i_oV0 ..) rfl (tk0 h) rfl (sInt (pk_tail h)) rfl List.take_length
 | .sg c :: w,h =>
  have hc:=hk (.sg c) (.head _)
  have hkw:=fun k hk'=>hk k (.tail _ hk')
  refine iteP (P:=fun y=>_=rsT ts H y) (fun q=>W (tk0 h) rfl rfl (tkj h 1 rfl) (i_oV0 ..) (kne hc.2.1) (ci (or1 q)) (sInt (pk_tail h)) rfl List.take_length) fun q1=>?_
  by_cases q2:c=43∨c=45
  ·cases qa:isN w[0]? with
   | false =>
    rcases q2 with rfl | rfl <;> exact W (tk0 h) rfl rfl (tkj h 1 rfl) (i_oV0 ..) rfl rfl rfl (kN (okO_get hkw 0) qa) rfl rfl rfl rfl List.take_length
   | true =>
    cases qb:isSg 80 w[1]? with
    | false =>
     rcases q2 with rfl | rfl <;> exact W (tk0 h) rfl rfl (tkj h 1 rfl) (i_oV0 ..) rfl rfl rfl (kN (okO_get hkw 0) qa) rfl (tkj h 2 rfl) (i_oV0 ..) (kW rfl qb) rfl rfl rfl rfl List.take_length
    | true =>
     have hl:=n_lt hkw qa
     have hd:=pkj h (j:=3) (Nat.succ_le_of_lt (Nat.succ_lt_succ (lt_of_sg qb)))
     rcases q2 with rfl | rfl
     ·exact W (tk0 h) rfl rfl (tkj h 1 rfl) (i_oV0 ..) rfl rfl rfl (kN (okO_get hkw 0) qa) rfl (tkj h 2 rfl) (i_oV0 ..) (kW rfl qb) rfl (tkj h 1 rfl) (vN qa) rfl (fm hl (.inl rfl) (Int.mul_one _)) hd rfl List.take_length
     ·exact W (tk0 h) rfl rfl (tkj h 1 rfl) (i_oV0 ..) rfl rfl rfl (kN (okO_get hkw 0) qa) rfl (tkj h 2 rfl) (i_oV0 ..) (kW rfl qb) rfl (tkj h 1 rfl) (vN qa) rfl rfl (fm hl (.inr rfl) ((Int.mul_neg ..).trans (congrArg Neg.neg (Int.mul_one _)))) hd rfl List.take_length
  refine iteP (P:=fun y=>_=rsT ts H y) (fun q=>absurd q.1 q2) fun _=>?_
  refine iteP (P:=fun y=>_=rsT ts H y) (fun q3=>?_) fun q3=>?_
  ·subst q3
   delta ct83
   cases qa:isSg 80 w[0]? with
   | true=>obtain ⟨v,rfl⟩:=sg_cons qa; exact W (tk0 h) rfl rfl (tkj h 1 rfl) rfl rfl rfl rfl rfl rfl rfl (pkj h (j:=2) (Nat.le_add_left ..)) rfl List.take_length
   | false =>
    cases qb:isSg 83 w[0]? with
    | true=>obtain ⟨v,rfl⟩:=sg_cons qb; exact W (tk0 h) rfl rfl (tkj h 1 rfl) rfl rfl rfl rfl rfl rfl rfl (pkj h (j:=2) (Nat.le_add_left ..)) rfl List.take_length
    | false=>exact W (tk0 h) rfl rfl (tkj h 1 rfl) (i_oV0 ..) rfl rfl rfl rfl (c2 rfl rfl qa qb) (sInt (pk_tail h)) rfl List.take_length
  refine iteP (P:=fun y=>_=rsT ts H y) (fun q4=>?_) fun q4=>?_
  ·subst q4
   delta ct66
   cases qa:isSg 78 w[0]? with
   | true=>obtain ⟨v,rfl⟩:=sg_cons qa; exact W (tk0 h) rfl rfl (tkj h 1 rfl) rfl rfl rfl rfl rfl rfl rfl rfl (pkj h (j:=2) (Nat.le_add_left ..)) rfl List.take_length
   | false =>
    cases qb:isSg 90 w[0]? with
    | true=>obtain ⟨v,rfl⟩:=sg_cons qb; exact W (tk0 h) rfl rfl (tkj h 1 rfl) rfl rfl rfl rfl rfl rfl rfl rfl (pkj h (j:=2) (Nat.le_add_left ..)) rfl List.take_length
    | false=>exact W (tk0 h) rfl rfl (tkj h 1 rfl) (i_oV0 ..) rfl rfl rfl rfl rfl (c2 rfl rfl qa qb) rfl rfl List.take_length
  refine iteP (P:=fun y=>_=rsT ts H y) (fun q5=>?_) fun q5=>?_
  ·subst q5
   delta ct84
   have two:∀ {d:Nat} {v:List Tk},Sk ts (.sg 84 :: .sg d :: v)→okO v[0]?→(d=76∨d=82)→callF theFn N (n + 2) 35 [.lst (tokV ts),.int (pk ts (.sg 84 :: .sg d :: v):Nat)] H=rsT ts H (if nAt 1 v[0]? then some (.nums [84,d] [nI (nv v[0]?)],v.drop 1) else none):=fun {d v} h ho hd=>by
    have W:=wC (N:=N) (n + 1) 35 F_law_control [.lst (tokV ts),.int (pk ts (.sg 84 :: .sg d :: v):Nat)] H rfl rfl
    have a2:=sInt (Int.add_assoc (pk ts (.sg 84 :: .sg d :: v):Nat) 1 1)
    cases qn:nAt 1 v[0]? with
    | true =>
     have hd3:=(sInt (Int.add_assoc _ 1 2)).trans (pkj h (j:=3) (Nat.succ_le_succ (Nat.succ_le_of_lt (Nat.succ_lt_succ (lt_of_n (nAt_n qn))))))
     rcases hd with rfl | rfl <;> exact W (tk0 h) rfl rfl (tkj h 1 rfl) rfl rfl rfl rfl rfl rfl rfl rfl rfl rfl a2 (nm ho (fun H=>tkj h 2 rfl) qn) a2 (tkj h 2 rfl) (vN (nAt_n qn)) hd3 rfl List.take_length
    | false=>rcases hd with rfl | rfl <;> exact W (tk0 h) rfl rfl (tkj h 1 rfl) rfl rfl rfl rfl rfl rfl rfl rfl rfl rfl a2 (nm ho (fun H=>tkj h 2 rfl) qn) rfl List.take_length
   cases qa:isSg 76 w[0]? with
   | true=>obtain ⟨v,rfl⟩:=sg_cons qa; exact two h (okO_get hkw 1) (.inl rfl)
   | false =>
    cases qb:isSg 82 w[0]? with
    | true=>obtain ⟨v,rfl⟩:=sg_cons qb; exact two h (okO_get hkw 1) (.inr rfl)
    | false =>
     cases qn:nAt 1 w[0]? with
     | true=>exact W (tk0 h) rfl rfl (tkj h 1 rfl) (i_oV0 ..) rfl rfl rfl rfl rfl rfl (c2 rfl rfl qa qb) rfl (nm (okO_get hkw 0) (fun H=>tkj h 1 rfl) qn) rfl (tkj h 1 rfl) (vN (nAt_n qn)) (pkj h (j:=2) (Nat.succ_le_of_lt (Nat.succ_lt_succ (lt_of_n (nAt_n qn))))) rfl List.take_length
     | false=>exact W (tk0 h) rfl rfl (tkj h 1 rfl) (i_oV0 ..) rfl rfl rfl rfl rfl rfl (c2 rfl rfl qa qb) rfl (nm (okO_get hkw 0) (fun H=>tkj h 1 rfl) qn) rfl List.take_length
  exact W (tk0 h) rfl rfl (tkj h 1 rfl) (i_oV0 ..) (kne hc.2.1) (ci (or0 q1)) (ci (or0 q2)) (kne q3) (kne q4) (kne q5) rfl List.take_length
end
end Mine.P
end
section
namespace Mine.P
noncomputable def nbT:Option Tk→Bool
 | some (.sg c)=>c != 40&&c != 41
 | some _=>true
 | none=>false
theorem nbT_n {o:Option Tk} (h:isN o=true):nbT o=true:=by
 rcases o with _ | ⟨k⟩ | ⟨s⟩ | _ | ⟨d⟩ <;> first | rfl | cases h
theorem nbT_sg {c:Nat} {o:Option Tk} (h:isSg c o=true) (hc:(c != 40&&c != 41)=true):nbT o=true:=by
 rcases o with _ | ⟨k⟩ | ⟨s⟩ | _ | ⟨d⟩ <;> first | (cases h; done) | skip
 rw [show d=c from eq_of_beq h]; exact hc
theorem val_nb:∀ c,isVal c=true→(c != 40&&c != 41)=true:=fun c h=>by
 have:=val_ne h
 rw [bne_iff_ne.mpr this.2.2.2.1]
 exact bne_iff_ne.mpr fun q=>by subst q; cases h
noncomputable def rnT (w:List Tk) (j:Nat):Prop:=∀ i,i < j→nbT w[i]?=true
theorem run0 (w:List Tk):rnT w 0:=fun _ h=>nomatch h
theorem runS {w:List Tk} {j:Nat} (h:rnT w j) (h2:nbT w[j]?=true):rnT w (j + 1):=fun i hi=>(Nat.lt_or_eq_of_le (Nat.le_of_lt_succ hi)).elim (h i) fun q=>q ▸ h2
theorem runC {k:Tk} {w:List Tk} {j:Nat} (h0:nbT (some k)=true) (h:rnT w j):rnT (k :: w) (j + 1):=fun i hi=>by
 cases i with
 | zero=>exact h0
 | succ i=>exact h i (Nat.lt_of_succ_lt_succ hi)
theorem run_le {w:List Tk} {j:Nat} (h:rnT w j):j≤w.length:=by
 cases j with
 | zero=>exact Nat.zero_le _
 | succ j =>
  refine Nat.lt_of_not_le fun q=>?_
  have:=h j (Nat.lt_succ_self j)
  rw [List.getElem?_eq_none q] at this; cases this
noncomputable def Rn (Q:It→Prop) (w:List Tk) (x:Option (It × List Tk)):Prop:=∀ i w',x=some (i,w')→∃ j,0 < j∧rnT w j∧w'=w.drop j∧Q i
theorem rn_no {Q:It→Prop} {w:List Tk}:Rn Q w none:=fun _ _ h=>nomatch h
theorem rn_so {Q:It→Prop} {w:List Tk} {j:Nat} {i:It} (h:rnT w (j + 1)) (q:Q i):Rn Q w (some (i,w.drop (j + 1))):=fun _ _ e=>by
 cases e; exact ⟨j + 1,Nat.succ_pos j,h,rfl,q⟩
theorem realsT_rn {c:Nat} {w:List Tk} {k:Tk} (hc:[c]∈words) (hk:nbT (some k)=true) (h0:isN w[0]?=true):Rn It.flat (k :: w) (realsT c w) :=
 iteP (P:=Rn It.flat (k :: w)) (fun q=>by
  have q':=Bool.and_eq_true_iff.mp q
  have r3:rnT w 3:=runS (runS (runS (run0 w) (nbT_n h0)) (nbT_sg q'.1 rfl)) (nbT_n (nAt_n q'.2))
  exact iteP (P:=Rn It.flat (k :: w)) (fun _=>rn_so (j:=3) (runC hk r3) hc) fun _=>iteP (P:=Rn It.flat (k :: w)) (fun q3=>iteP (P:=Rn It.flat (k :: w)) (fun q4=>rn_so (j:=5) (runC hk (runS (runS r3 (nbT_sg q3 rfl)) (nbT_n (nAt_n q4)))) hc) fun _=>rn_no) fun _=>rn_so (j:=3) (runC hk r3) hc) fun _=>rn_no
theorem valuedT_rn {c:Nat} {w:List Tk} (hv:isVal c=true):Rn It.flat (.sg c :: w) (valuedT (.sg c :: w)):=by
 have hk:nbT (some (.sg c))=true:=val_nb c hv
 have hc:=val_words hv
 refine iteP (P:=Rn It.flat (.sg c :: w)) (fun q=>rn_so (j:=0) (runC hk (run0 w)) (show ([65]:Txt)∈words by decide)) fun _=>iteP (P:=Rn It.flat (.sg c :: w)) (fun q=>?_) fun _=>rn_no
 have h0:=nAt_n q
 have r1:=runS (run0 w) (nbT_n h0)
 refine iteP (P:=Rn It.flat (.sg c :: w)) (fun _=>rn_so (j:=1) (runC hk r1) hc) fun _=>iteP (P:=Rn It.flat (.sg c :: w)) (fun _=>realsT_rn hc hk h0) fun q3=>?_
 have h73:([73]:Txt)∈words:=by decide
 exact iteP (P:=Rn It.flat (.sg c :: w)) (fun q1=>iteP (P:=Rn It.flat (.sg c :: w)) (fun q2=>rn_so (j:=3) (runC hk (runS (runS r1 (nbT_sg q1 rfl)) (nbT_n (nAt_n (Bool.and_eq_true_iff.mp q2).1)))) h73) fun _=>rn_no) fun _=>rn_so (j:=1) (runC hk r1) h73
theorem controlT_rn (w:List Tk):Rn It.wd w (controlT w):=by
 rcases w with _ | ⟨⟨k⟩ | ⟨s⟩ | _ | ⟨c⟩,w⟩
 ·exact rn_no
 ·exact rn_no
 ·exact rn_so (j:=0) (runC rfl (run0 w)) trivial
 ·exact rn_no
 have one:∀ {x:Txt} {ps:List (Option Int)},nbT (some (.sg c))=true→x∈words→Rn It.wd (.sg c :: w) (some (.nums x ps,w)):=fun h hx=>rn_so (j:=0) (runC h (run0 w)) hx
 have two:∀ {x:Txt} {ps:List (Option Int)},nbT (some (.sg c))=true→nbT w[0]?=true→x∈words→Rn It.wd (.sg c :: w) (some (.nums x ps,w.drop 1)):=fun h q hx=>rn_so (j:=1) (runC h (runS (run0 w) q)) hx
 have three:∀ {x:Txt} {ps:List (Option Int)},nbT (some (.sg c))=true→nbT w[0]?=true→nbT w[1]?=true→x∈words→Rn It.wd (.sg c :: w) (some (.nums x ps,w.drop 2)):=fun h q q2 hx=>rn_so (j:=2) (runC h (runS (runS (run0 w) q) q2)) hx
 refine iteP (P:=Rn It.wd (.sg c :: w)) (fun q=>?_) fun _=>iteP (P:=Rn It.wd (.sg c :: w)) (fun q=>?_) fun _=>iteP (P:=Rn It.wd (.sg c :: w)) (fun q=>?_) fun _=>iteP (P:=Rn It.wd (.sg c :: w)) (fun q=>?_) fun _=>iteP (P:=Rn It.wd (.sg c :: w)) (fun q=>?_) fun _=>rn_no
 ·rcases q with rfl | rfl <;> exact one rfl (by decide)
 ·have q2:=Bool.and_eq_true_iff.mp q.2
  exact three (by rcases q.1 with rfl | rfl <;> rfl) (nbT_n q2.1) (nbT_sg q2.2 rfl) (by decide)
 ·subst q
  exact iteP (P:=Rn It.wd (.sg 83 :: w)) (fun q=>two rfl (nbT_sg q rfl) (by decide)) fun _=>iteP (P:=Rn It.wd (.sg 83 :: w)) (fun q=>two rfl (nbT_sg q rfl) (by decide)) fun _=>one rfl (by decide)
 ·subst q
  exact iteP (P:=Rn It.wd (.sg 66 :: w)) (fun q=>two rfl (nbT_sg q rfl) (by decide)) fun _=>iteP (P:=Rn It.wd (.sg 66 :: w)) (fun q=>two rfl (nbT_sg q rfl) (by decide)) fun _=>rn_no
 ·subst q
  exact iteP (P:=Rn It.wd (.sg 84 :: w)) (fun q=>iteP (P:=Rn It.wd (.sg 84 :: w)) (fun q2=>three rfl (nbT_sg q rfl) (nbT_n (nAt_n q2)) (by decide)) fun _=>rn_no) fun _ =>
   iteP (P:=Rn It.wd (.sg 84 :: w)) (fun q=>iteP (P:=Rn It.wd (.sg 84 :: w)) (fun q2=>three rfl (nbT_sg q rfl) (nbT_n (nAt_n q2)) (by decide)) fun _=>rn_no) fun _ =>
   iteP (P:=Rn It.wd (.sg 84 :: w)) (fun q2=>two rfl (nbT_n (nAt_n q2)) (by decide)) fun _=>rn_no
theorem valO_sg {w:List Tk} (h:valO w[0]?=true):∃ c v,w=.sg c :: v∧isVal c=true:=by
 rcases w with _ | ⟨⟨k⟩ | ⟨s⟩ | _ | ⟨c⟩,w⟩ <;> first | (cases h; done) | exact ⟨c,w,rfl,h⟩
theorem singleT_rn (w:List Tk):Rn It.wd w (singleT w):=by
 rcases w with _ | ⟨⟨k⟩ | ⟨s⟩ | _ | ⟨c⟩,w⟩
 ·exact controlT_rn []
 ·refine iteP (P:=Rn It.wd (.n k :: w)) (fun q=>rn_so (j:=1) (runC rfl (runS (run0 w) (nbT_sg q rfl))) (show ([80]:Txt)∈words by decide)) fun _=>iteP (P:=Rn It.wd (.n k :: w)) (fun q=>rn_so (j:=1) (runC rfl (runS (run0 w) (nbT_sg q.2 rfl))) (show ([88]:Txt)∈words by decide)) fun _=>iteP (P:=Rn It.wd (.n k :: w)) (fun q=>?_) fun _=>rn_no
  obtain ⟨c,v,rfl,hv⟩:=valO_sg q.2
  intro i w' h
  obtain ⟨⟨i2,w2⟩,h1,h2⟩:=Option.map_eq_some_iff.mp h
  obtain ⟨j,h0,hr,h3,hf⟩:=valuedT_rn hv _ _ h1
  cases h2
  exact ⟨j + 1,Nat.succ_pos j,runC rfl hr,h3,iteP (P:=It.wd) (fun _=>flat_rep hf) fun _=>flat_wd0 hf⟩
 ·exact controlT_rn (.t s :: w)
 ·exact controlT_rn (.bad :: w)
 ·exact iteP (P:=Rn It.wd (.sg c :: w)) (fun q=>fun i w' h=>(valuedT_rn q i w' h).imp fun _ h=>⟨h.1,h.2.1,h.2.2.1,flat_wd0 h.2.2.2⟩) fun _=>controlT_rn (.sg c :: w)
theorem singleT_ok {w:List Tk} {i:It} {w':List Tk} (h:singleT w=some (i,w')):∃ j,0 < j∧j≤w.length∧w'=w.drop j∧i.wd :=
 (singleT_rn w i w' h).imp fun _ h=>⟨h.1,run_le h.2.1,h.2.2⟩
section
variable {ts:List Tk} {b N:Nat} {H:Hp}
theorem nnT {l:List V}:isNo (.tup l)=!true:=rfl
theorem nnN:isNo .none=!false:=rfl
theorem single_no {w:List Tk} (h:isN w[0]?=false):singleT w=if valO w[0]?=true then valuedT w else controlT w:=by
 rcases w with _ | ⟨⟨k⟩ | ⟨s⟩ | _ | ⟨c⟩,w⟩ <;> first | rfl | cases h
theorem isN_n {w:List Tk} (h:isN w[0]?=true):∃ k v,w=.n k :: v:=by
 rcases w with _ | ⟨⟨k⟩ | ⟨s⟩ | _ | ⟨c⟩,w⟩ <;> first | (cases h; done) | exact ⟨k,w,rfl⟩
theorem s_single {n:Nat} {w:List Tk} (h:Sk ts w) (hk:∀ k∈w,k.okk) :
  callF theFn N (n + 4) 36 [.lst (tokV ts),.int (pk ts w:Nat)] H=rsT ts H (singleT w):=by
 have W:=wC (N:=N) (n + 3) 36 F_law_single [.lst (tokV ts),.int (pk ts w:Nat)] H rfl rfl
 cases hN:isN w[0]? with
 | false =>
  have fin:∀ {v f x},valO w[0]?=v→f=cond v 34 35→callF theFn N (n + 3) f [.lst (tokV ts),.int (pk ts w:Nat)] H=rsT ts H x→callF theFn N (n + 4) 36 [.lst (tokV ts),.int (pk ts w:Nat)] H=rsT ts H x:=by
   intro v f x hv hf e
   subst hf
   cases v <;> cases x <;> first
    | exact W (tk0 h) (i_oV0 ..) (kNn (okO_get hk 0) hN) (tk0 h) (i_oV0 ..) ((w_val _).trans hv) e rfl List.take_length
    | exact W (tk0 h) (i_oV0 ..) (kNn (okO_get hk 0) hN) (tk0 h) (i_oV0 ..) ((w_val _).trans hv) e (pI ..) List.take_length
  have ec:=s_control (N:=N) (H:=H) (n:=n + 1) h hk
  rw [single_no hN]
  exact iteP (P:=fun y=>_=rsT ts H y) (fun q=>by obtain ⟨c,v,rfl,hv⟩:=valO_sg q; exact fin q rfl (s_valued (n:=n) h hk hv)) fun q=>fin (Bool.eq_false_iff.mpr q) rfl ec
 | true =>
   obtain ⟨k,w,rfl⟩:=isN_n hN
   have hkw:=fun k hk'=>hk k (.tail _ hk')
   have d2:0 < w.length→_:=fun q=>pkj h (j:=2) (Nat.succ_le_succ q)
   refine iteP (P:=fun y=>_=rsT ts H y) (fun q1=>W (tk0 h) rfl rfl (tk0 h) rfl rfl (tkj h 1 rfl) (i_oV0 ..) (kW rfl q1) (d2 (lt_of_sg q1)) rfl List.take_length) fun q1=>?_
   have q1:=Bool.eq_false_iff.mpr q1
   by_cases k0:k=0
   ·subst k0
    exact W (tk0 h) rfl rfl (tk0 h) rfl rfl (tkj h 1 rfl) (i_oV0 ..) (kW rfl q1) rfl rfl rfl List.take_length
   have kp:decide (0 < k)=true:=decide_eq_true (Nat.pos_of_ne_zero k0)
   have ke:cmpV .eq (.int (k:Nat)) (.int 0)=some false:=(cmp_eqi ..).trans (congrArg some (beq_eq_false_iff_ne.mpr (by omega)))
   refine iteP (P:=fun y=>_=rsT ts H y) (fun q2=>W (tk0 h) rfl rfl (tk0 h) rfl rfl (tkj h 1 rfl) (i_oV0 ..) (kW rfl q1) (cgt (b:=0) kp) (kW rfl q2.2) (d2 (lt_of_sg q2.2)) rfl List.take_length) fun q2=>?_
   have q2:isSg 88 w[0]?=false:=Bool.eq_false_iff.mpr fun z=>q2 ⟨of_decide_eq_true kp,z⟩
   refine iteP (P:=fun y=>_=rsT ts H y) (fun q3=>?_) fun q3=>?_
   ·obtain ⟨c,w1,rfl,hv⟩:=valO_sg q3.2
    have ev:=s_valued (N:=N) (H:=H) (n:=n) h.tail hkw q3.2
    have nc:(!([[73],[70],[69],[68],[71],[76],[65]]:List Txt).contains [c])=false:=congrArg Bool.not ((w_val (some (.sg c))).trans q3.2)
    cases hr:valuedT (.sg c :: w1) with
    | none=>exact W (tk0 h) rfl rfl (tk0 h) rfl rfl (tkj h 1 rfl) rfl (kW (o:=some (.sg c)) rfl q1) (cgt (b:=0) kp) (kW (o:=some (.sg c)) rfl q2) ke nc (sInt (pk_tail h)) (ev.trans (congrArg (rsT ts H) hr)) nnN rfl List.take_length
    | some p =>
     cases q5:decide (1 < k) with
     | false =>
      refine (W (tk0 h) rfl rfl (tk0 h) rfl rfl (tkj h 1 rfl) rfl (kW (o:=some (.sg c)) rfl q1) (cgt (b:=0) kp) (kW (o:=some (.sg c)) rfl q2) ke nc (sInt (pk_tail h)) (ev.trans (congrArg (rsT ts H) hr)) nnT (cgt (b:=1) q5) (pI ..) List.take_length).trans ?_
      show _=rsT ts H (some (if 1 < k then _ else _,_))
      rw [if_neg (of_decide_eq_false q5)]; rfl
     | true =>
      refine (W (tk0 h) rfl rfl (tk0 h) rfl rfl (tkj h 1 rfl) rfl (kW (o:=some (.sg c)) rfl q1) (cgt (b:=0) kp) (kW (o:=some (.sg c)) rfl q2) ke nc (sInt (pk_tail h)) (ev.trans (congrArg (rsT ts H) hr)) nnT (cgt (b:=1) q5) rfl rfl (pI (.rep k p.1) _) List.take_length).trans ?_
      show _=rsT ts H (some (if 1 < k then _ else _,_))
      rw [if_pos (of_decide_eq_true q5)]; rfl
   ·have q3:valO w[0]?=false:=Bool.eq_false_iff.mpr fun z=>q3 ⟨of_decide_eq_true kp,z⟩
    exact W (tk0 h) rfl rfl (tk0 h) rfl rfl (tkj h 1 rfl) (i_oV0 ..) (kW rfl q1) (cgt (b:=0) kp) (kW rfl q2) ke (congrArg Bool.not ((w_val w[0]?).trans q3)) rfl List.take_length
theorem sepC (w:Txt):([[47],[58]]:List Txt).contains w=(decide (w=[47])||decide (w=[58])):=by rw [Bool.eq_iff_iff]; simp
theorem realC4 (w:Txt):([[70],[69],[68],[71]]:List Txt).contains w=(decide (w=[70])||decide (w=[69])||decide (w=[68])||decide (w=[71])):=by rw [Bool.eq_iff_iff]; simp [or_assoc]
theorem s_loose {a i:It} {n:Nat} (ha:a.wd) (hi:i.wd):callF theFn N (n + 1) 27 [a.toV,i.toV] H=some (.ok (.bool (loose a i)) H):=by
 have W:=wC (N:=N) n 27 F_law_is_loose [a.toV,i.toV] H rfl rfl
 have ea:=word_idx (H:=H) a
 have ei:=word_idx (H:=H) i
 have i1:∀ {b},(decide (a.word=[47])||decide (a.word=[58]))=b→([[47],[58]]:List Txt).contains a.word=b:=fun h=>(sepC _).trans h
 have i2:∀ {b},(decide (i.word=[47])||decide (i.word=[58]))=b→([[47],[58]]:List Txt).contains i.word=b:=fun h=>(sepC _).trans h
 have x2:∀ {b},decide (a.word=[80])=b→cmpV .eq (.str a.word) (.str [80])=some b:=fun h=>by rw [cmp_eqs,← h]; exact congrArg some (Bool.eq_iff_iff.mpr (by simp))
 unfold loose
 rw [Bool.or_assoc (decide (a.word=[47])||decide (a.word=[58]))]
 generalize callF theFn N (n + 1) 27 [a.toV,i.toV] H=X at W ⊢
 rcases rep_or (H:=H) i hi with ⟨j,j1,j2,j3⟩ | ⟨j2,j3⟩
 ·have x1:cmpV .eq (.str i.word) (.str [114,101,112,101,97,116])=some true:=by rw [j3]; rfl
  rw [j2]
  cases h1:(decide (a.word=[47])||decide (a.word=[58])) with
  | true=>exact W ei x1 j1 (word_idx j) ea (i1 h1) rfl List.take_length
  | false =>
   cases h2:(decide (i.word=[47])||decide (i.word=[58])) with
   | true=>exact W ei x1 j1 (word_idx j) ea (i1 h1) ei (i2 h2) rfl List.take_length
   | false =>
    cases h3:decide (a.word=[80]) with
    | true=>exact W ei x1 j1 (word_idx j) ea (i1 h1) ei (i2 h2) ea (x2 h3) (realC4 _) rfl List.take_length
    | false=>exact W ei x1 j1 (word_idx j) ea (i1 h1) ei (i2 h2) ea (x2 h3) rfl List.take_length
 ·have x1:cmpV .eq (.str i.word) (.str [114,101,112,101,97,116])=some false:=by rw [cmp_eqs,j3]
  rw [j2]
  cases h1:(decide (a.word=[47])||decide (a.word=[58])) with
  | true=>exact W ei x1 ei ea (i1 h1) rfl List.take_length
  | false =>
   cases h2:(decide (i.word=[47])||decide (i.word=[58])) with
   | true=>exact W ei x1 ei ea (i1 h1) ei (i2 h2) rfl List.take_length
   | false =>
    cases h3:decide (a.word=[80]) with
    | true=>exact W ei x1 ei ea (i1 h1) ei (i2 h2) ea (x2 h3) (realC4 _) rfl List.take_length
    | false=>exact W ei x1 ei ea (i1 h1) ei (i2 h2) ea (x2 h3) rfl List.take_length
end
end Mine.P
end
section
set_option maxHeartbeats 2000000
namespace Mine.P
noncomputable def mach:Nat→List (Nat × List It × Bool)→Nat→List It→Bool→List Tk→Option (List It)
 | 0,_,_,_,_,_=>none
 | f + 1,B,k,acc,after,w =>
  if isSg 44 w[0]? then (if after||acc.isEmpty then none else mach f B k acc true (w.drop 1)) else
  if isSg 41 w[0]? then
   (if after then none else
   match B with
   | []=>if (w.drop 1).isEmpty then some acc else none
   | (k',acc',after') :: B'=>if acc.isEmpty then none else
    if !after'&&!looseLast acc' (.grp k acc) then none else mach f B' k' (acc'++[.grp k acc]) false (w.drop 1)) else
  if isSg 40 w[0]? then mach f ((k,acc,after) :: B) 1 [] false (w.drop 1) else
  if isN w[0]?&&(decide (0 < nv w[0]?)&&isSg 40 w[1]?) then mach f ((k,acc,after) :: B) (nv w[0]?) [] false (w.drop 2) else
  match singleT w with
  | none=>none
  | some (i,w')=>if !after&&!looseLast acc i then none else mach f B k (acc++[i]) false w'
noncomputable def readC (t:Txt):Option (List It) :=
 if isSg 40 (tokS t)[0]? then mach ((tokS t).length + 1) [] 1 [] false ((tokS t).drop 1) else none
noncomputable abbrev Fr:=Nat × Nat × List It × Bool
noncomputable def freeOf:List Fr→Bool
 | []=>true
 | (_,_,acc,a) :: _=>acc.isEmpty||a
noncomputable def ent:List Fr→List V
 | []=>[]
 | (j,k,_,_) :: F=>.tup [.int (k:Nat),.ref j,.bool (freeOf F)] :: ent F
structure Inv (H:Hp) (p:Nat) (HH:Hp) (F:List Fr):Prop where
 take:HH.take H.length=H
 hp:H.length≤p
 len:p < HH.length
 pile:hget HH p=some (ent F).reverse
 fr:∀ x∈F,H.length≤x.1∧x.1 < HH.length∧hget HH x.1=some (toVs x.2.2.1)∧x.1≠p
 dist:F.Pairwise (fun x y=>x.1≠y.1)
theorem ent_len (F:List Fr):(ent F).length=F.length:=by
 induction F with
 | nil=>rfl
 | cons x F ih=>exact (congrArg Nat.succ ih:(ent F).length + 1=_)
theorem hg_ne {HH:Hp} {i j:Nat} {y:Option (List V)} (h:i≠j):hget (HH.set i y) j=hget HH j :=
 congrArg (fun o:Option (Option (List V))=>match o with | some (some l)=>some l | _=>none) (List.getElem?_set_ne h)
theorem hg_eq {HH:Hp} {i:Nat} {y:List V} (h:i < HH.length):hget (HH.set i (some y)) i=some y :=
 congrArg (fun o:Option (Option (List V))=>match o with | some (some l)=>some l | _=>none) (List.getElem?_set_self h)
theorem hg_app {HH X:Hp} {j:Nat} (h:j < HH.length):hget (HH++X) j=hget HH j :=
 congrArg (fun o:Option (Option (List V))=>match o with | some (some l)=>some l | _=>none) (List.getElem?_append_left h)
theorem tk_set {HH:Hp} {n i:Nat} {y:Option (List V)} (h:n≤i):(HH.set i y).take n=HH.take n:=by
 rw [List.take_set]
 exact List.set_eq_of_length_le (Nat.le_trans (List.length_take_le ..) h)
theorem tk_app {HH X:Hp} {n:Nat} (h:n≤HH.length):(HH++X).take n=HH.take n:=by
 rw [List.take_append_of_le_length h]
theorem hg_apq {HH X:Hp} {j:Nat} {x:List V} (h:j < HH.length) (g:hget HH j=some x):hget (HH++X) j=some x:=(hg_app h).trans g
theorem ent_snoc {F:List Fr} {j k:Nat} {acc:List It} {a b:Bool} (hf:freeOf F=b):(ent ((j,k,acc,a) :: F)).reverse=(ent F).reverse++[V.tup [.int (k:Nat),.ref j,.bool b]]:=by rw [← hf]; exact List.reverse_cons
theorem Inv.at_ {H HH:Hp} {p:Nat} {F:List Fr} {x:Fr} (h:Inv H p HH F) (hx:x∈F):x.1 < HH.length:=(h.fr x hx).2.1
theorem Inv.open {H HH:Hp} {p k:Nat} {F:List Fr} {b:Bool} (h:Inv H p HH F) (hf:freeOf F=b) :
  Inv H p ((HH++[some []]).set p (some ((ent F).reverse++[V.tup [.int (k:Nat),.ref HH.length,.bool b]]))) ((HH.length,k,[],false) :: F):=by
 have hl:p < (HH++[some []]).length:=by rw [List.length_append]; exact Nat.lt_add_right _ h.len
 refine ⟨(tk_set h.hp).trans ((tk_app (Nat.le_trans h.hp (Nat.le_of_lt h.len))).trans h.take),h.hp,by rw [List.length_set]; exact hl,(hg_eq hl).trans (congrArg some (ent_snoc hf).symm),fun x hx=>?_,List.pairwise_cons.mpr ⟨fun x hx=>Nat.ne_of_gt (h.at_ hx),h.dist⟩⟩
 rw [List.length_set,List.length_append]
 rcases List.mem_cons.mp hx with rfl | hx
 ·exact ⟨Nat.le_trans h.hp (Nat.le_of_lt h.len),Nat.lt_succ_self _,(hg_ne (Nat.ne_of_lt h.len)).trans (hgA HH []),Nat.ne_of_gt h.len⟩
 ·obtain ⟨h1,h2,h3,h4⟩:=h.fr x hx
  exact ⟨h1,Nat.lt_add_right _ h2,(hg_ne h4.symm).trans (hg_apq h2 h3),h4⟩
theorem Inv.mod {H HH:Hp} {p j k k':Nat} {F:List Fr} {acc acc':List It} {a a':Bool} (h:Inv H p HH ((j,k,acc,a) :: F)) {y:Option (List V)} (hy:y=some (toVs acc')) (hk:k=k') :
  Inv H p (HH.set j y) ((j,k',acc',a') :: F):=by
 subst hk
 obtain ⟨h1,h2,h3,h4⟩:=h.fr _ (List.mem_cons_self ..)
 obtain ⟨hd,hp⟩:=List.pairwise_cons.mp h.dist
 refine ⟨(tk_set h1).trans h.take,h.hp,by rw [List.length_set]; exact h.len,(hg_ne h4).trans h.pile,fun x hx=>?_,List.pairwise_cons.mpr ⟨hd,hp⟩⟩
 rw [List.length_set]
 rcases List.mem_cons.mp hx with rfl | hx
 ·exact ⟨h1,h2,hy ▸ hg_eq h2,h4⟩
 ·obtain ⟨g1,g2,g3,g4⟩:=h.fr x (List.mem_cons_of_mem _ hx)
  exact ⟨g1,g2,(hg_ne (hd x hx)).trans g3,g4⟩
theorem Inv.push {H HH:Hp} {p:Nat} {F:List Fr} {j k:Nat} {acc:List It} {a:Bool} (h:Inv H p HH ((j,k,acc,a) :: F)) (i:It) :
  Inv H p (HH.set j (some (toVs acc++[i.toV]))) ((j,k,acc++[i],false) :: F):=h.mod (congrArg some (tv_new acc i)) rfl
theorem Inv.flag {H HH:Hp} {p:Nat} {F:List Fr} {j k:Nat} {acc:List It} {a b:Bool} (h:Inv H p HH ((j,k,acc,a) :: F)):Inv H p HH ((j,k,acc,b) :: F) :=
 ⟨h.take,h.hp,h.len,h.pile,fun x hx=>(List.mem_cons.mp hx).elim (fun e=>e ▸ h.fr (j,k,acc,a) (List.mem_cons_self ..)) fun hx=>h.fr x (List.mem_cons_of_mem _ hx),List.pairwise_cons.mpr (List.pairwise_cons.mp h.dist)⟩
theorem Inv.close {H HH:Hp} {p:Nat} {F:List Fr} {x:Fr} (h:Inv H p HH (x :: F)):Inv H p ((HH.set p (some (ent F).reverse)).set x.1 none) F:=by
 obtain ⟨h1,h2,h3,h4⟩:=h.fr _ (List.mem_cons_self ..)
 obtain ⟨hd,hp⟩:=List.pairwise_cons.mp h.dist
 refine ⟨(tk_set h1).trans ((tk_set h.hp).trans h.take),h.hp,by rw [List.length_set,List.length_set]; exact h.len,(hg_ne h4).trans (hg_eq h.len),fun y hy=>?_,hp⟩
 rw [List.length_set,List.length_set]
 obtain ⟨g1,g2,g3,g4⟩:=h.fr y (List.mem_cons_of_mem _ hy)
 exact ⟨g1,g2,(hg_ne (hd y hy)).trans ((hg_ne g4.symm).trans g3),g4⟩
noncomputable def wTail:Ss:=(.cons (.ite (.isNone (.loc 9)) (.cons (.ret .none)
  .nil) .nil)
  (.cons (.unpack [10,3] (.loc 9))
  (.cons (.assign 6 (.idx (.idx (.loc 2) (.neg (.int 1))) (.int 1)))
  (.cons (.ite (.and (.not (.loc 4)) (.not (.call 27 (.cons (.idx (.loc 6) (.neg (.int 1))) (.cons (.loc 10) .nil))))) (.cons (.ret .none)
  .nil) .nil)
  (.cons (.append (.loc 6) (.loc 10))
  (.cons (.assign 4 (.bool false))
  (.cons (.assign 5 (.bool false))
  .nil)))))))
noncomputable def wClose:Ss:=(.cons (.ite (.loc 5) (.cons (.ret .none)
  .nil) .nil)
  (.cons (.unpack [8,6,4] (.pop (.loc 2)))
  (.cons (.assign 3 (.bin .add (.loc 3) (.int 1)))
  (.cons (.ite (.isNil (.loc 2)) (.cons (.ret (.ife (.cmp .eq (.idx (.idx (.loc 1) (.loc 3)) (.int 0)) (.str [101,110,100])) (.seal 6) .none))
  .nil) .nil)
  (.cons (.assign 9 (.ife (.isNil (.loc 6)) .none (.tup (.cons (.tup (.cons (.str [103,114,111,117,112]) (.cons (.loc 8) (.cons (.seal 6) .nil)))) (.cons (.loc 3) .nil)))))
  .nil)))))
noncomputable def wOpen:Ss:=(.cons (.append (.loc 2) (.tup (.cons (.ife (.cmp .eq (.loc 7) (.str [110])) (.idx (.idx (.loc 1) (.loc 3)) (.int 1)) (.int 1)) (.cons (.lstM .nil) (.cons (.loc 4) .nil)))))
  (.cons (.assign 3 (.bin .add (.loc 3) (.ife (.cmp .eq (.loc 7) (.str [110])) (.int 2) (.int 1))))
  (.cons (.assign 4 (.bool true))
  (.cons (.assign 5 (.bool false))
  (.cons .cont
  .nil)))))
noncomputable def wOpenC:E:=(.or (.cmp .eq (.loc 7) (.str [40])) (.and (.cmp .eq (.loc 7) (.str [110])) (.and (.cmp .gt (.idx (.idx (.loc 1) (.loc 3)) (.int 1)) (.int 0)) (.cmp .eq (.idx (.idx (.loc 1) (.bin .add (.loc 3) (.int 1))) (.int 0)) (.str [40])))))
noncomputable def wReadB:Ss:=(.cons (.assign 6 (.idx (.idx (.loc 2) (.neg (.int 1))) (.int 1)))
  (.cons (.assign 7 (.idx (.idx (.loc 1) (.loc 3)) (.int 0)))
  (.cons (.ite (.cmp .eq (.loc 7) (.str [44])) (.cons (.ite (.or (.loc 5) (.isNil (.loc 6))) (.cons (.ret .none)
  .nil) .nil)
  (.cons (.assign 5 (.bool true))
  (.cons (.assign 4 (.bool true))
  (.cons (.assign 3 (.bin .add (.loc 3) (.int 1)))
  (.cons .cont
  .nil))))) .nil)
  (.cons (.ite (.cmp .eq (.loc 7) (.str [41])) wClose (.cons (.ite wOpenC wOpen (.cons (.assign 9 (.call 36 (.cons (.loc 1) (.cons (.loc 3) .nil))))
  .nil))
  .nil))
  wTail))))
section
variable {ts:List Tk} {t:Txt} {N:Nat} {H:Hp} {p:Nat} {call:Nat→List V→Hp→Option (Res V)}
theorem i_top {HH:Hp} {F:List Fr} {j k:Nat} {acc:List It} {a b:Bool} (h:Inv H p HH ((j,k,acc,a) :: F)) (hf:freeOf F=b):idxV HH (.ref p) (.int (-1))=some (.tup [.int (k:Nat),.ref j,.bool b]):=by
 show (hget _ _).bind _=_; rw [h.pile,ent_snoc hf]; exact lastA _ _
theorem pop_ok {HH:Hp} {F:List Fr} {j k x:Nat} {acc:List It} {a b:Bool} {l:Loc} (h:Inv H p HH ((j,k,acc,a) :: F)) (hf:freeOf F=b) (hl:l[x]?=some (some (.ref p))) :
  evE call H.length l (.pop (.loc x)) HH=some (.ok (.tup [.int (k:Nat),.ref j,.bool b]) (HH.set p (some (ent F).reverse))):=by
 have hp:=h.pile
 rw [ent_snoc hf] at hp
 refine bnd_ok (e_loc hl) ?_
 simp only [hp]
 rw [dif_pos (List.append_ne_nil_of_right_ne_nil _ (List.cons_ne_nil _ _)),if_pos h.hp,List.getLast_concat,List.dropLast_concat]
noncomputable def BB (n:Nat) (F:List Fr):Prop:=∀ x∈F,x.2.2.1.length + n≤80000∧∀ a∈x.2.2.1,a.wd
theorem BB.le {n m:Nat} {F:List Fr} (h:BB n F) (hm:m≤n):BB m F:=fun x hx=>⟨Nat.le_trans (Nat.add_le_add_left hm _) (h x hx).1,(h x hx).2⟩
theorem BB.tl {n:Nat} {x:Fr} {F:List Fr} (h:BB n (x :: F)):BB n F:=fun y hy=>h y (List.mem_cons_of_mem _ hy)
theorem BB.cons {n j k:Nat} {acc:List It} {a:Bool} {F:List Fr} (h1:acc.length + n≤80000) (h2:∀ a∈acc,a.wd) (h:BB n F):BB n ((j,k,acc,a) :: F):=fun x hx=>by
 rcases List.mem_cons.mp hx with rfl | hx
 ·exact ⟨h1,h2⟩
 ·exact h x hx
theorem BB.push {n m j j' k k':Nat} {acc:List It} {a a':Bool} {i:It} {F:List Fr} (h:BB n ((j,k,acc,a) :: F)) (hi:i.wd) (hm:m + 1≤n):BB m ((j',k',acc++[i],a') :: F):=by
 obtain ⟨h1,h2⟩:=h _ (List.mem_cons_self ..)
 have h1:acc.length + n≤80000:=h1
 exact .cons (by rw [List.length_append,Nat.add_assoc,Nat.add_comm [i].length]; exact Nat.le_trans (Nat.add_le_add_left hm _) h1) (wd_cat h2 hi) (h.tl.le (Nat.le_of_succ_le hm))
theorem lcap {acc:List It} {n:Nat} (h:acc.length + n≤80000):(toVs acc).length < capL:=by rw [toVs_len]; exact Nat.lt_of_le_of_lt (Nat.le_trans (Nat.le_add_right ..) h) (by decide)
theorem ecap {F:List Fr} (h:F.length≤80001):(ent F).reverse.length < capL:=by rw [List.length_reverse,ent_len]; exact Nat.lt_of_le_of_lt h (by decide)
theorem kend {w:List Tk} {b:Bool} (h:w.isEmpty=b):cmpV .eq (.str (oW w[0]?)) (.str [101,110,100])=some b:=by
 rw [cmp_eqs,← h]
 rcases w with _ | ⟨⟨k⟩ | ⟨s⟩ | _ | ⟨d⟩,r⟩ <;> first | rfl | exact congrArg some (Bool.and_false _)
theorem sg_n {d:Nat} {o:Option Tk} (h:isSg d o=true):isN o=false:=by rcases o with _ | ⟨k⟩ | ⟨s⟩ | _ | ⟨d⟩ <;> first | rfl | cases h
theorem free_no {acc:List It} {a:Bool} {i:It} (h:(acc.isEmpty||a)=true):(!a&&!looseLast acc i)=false:=by
 cases a with
 | true=>rfl
 | false=>cases acc with
  | nil=>rfl
  | cons _ _=>cases h
theorem free_at {acc:List It} {a:Bool} {i:It} {HH:Hp} {j:Nat} (h:(acc.isEmpty||a)=false) (hg:hget HH j=some (toVs acc)) (hw:∀ a∈acc,a.wd):∃ q,q.wd∧idxV HH (.ref j) (.int (-1))=some q.toV∧(!a&&!looseLast acc i)=!loose q i:=by
 cases a with
 | true=>rw [Bool.or_true] at h; cases h
 | false =>
  rcases List.eq_nil_or_concat acc with e | ⟨m,q,e⟩
  ·rw [e] at h; cases h
  ·rw [List.concat_eq_append] at e
   refine ⟨q,hw q (e ▸ List.mem_append_right _ (List.mem_singleton_self q)),by show (hget _ _).bind _=_; rw [hg,e]; exact tv_last m q,by rw [e,ll_cat]; rfl⟩
theorem iteR {G:Option (List It)→Prop} {c:Prop} [Decidable c] {x y:Option (List It)} (h1:c→G x) (h2:¬ c→G y):G (if c then x else y):=by
 by_cases q:c
 ·rw [if_pos q]; exact h1 q
 ·rw [if_neg q]; exact h2 q
theorem mach_succ (f:Nat) (B:List (Nat × List It × Bool)) (k:Nat) (acc:List It) (after:Bool) (w:List Tk):mach (f + 1) B k acc after w =
  if isSg 44 w[0]? then (if after||acc.isEmpty then none else mach f B k acc true (w.drop 1)) else
  if isSg 41 w[0]? then
   (if after then none else
   match B with
   | []=>if (w.drop 1).isEmpty then some acc else none
   | (k',acc',after') :: B'=>if acc.isEmpty then none else
    if !after'&&!looseLast acc' (.grp k acc) then none else mach f B' k' (acc'++[.grp k acc]) false (w.drop 1)) else
  if isSg 40 w[0]? then mach f ((k,acc,after) :: B) 1 [] false (w.drop 1) else
  if isN w[0]?&&(decide (0 < nv w[0]?)&&isSg 40 w[1]?) then mach f ((k,acc,after) :: B) (nv w[0]?) [] false (w.drop 2) else
  match singleT w with
  | none=>none
  | some (i,w')=>if !after&&!looseLast acc i then none else mach f B k (acc++[i]) false w':=rfl
noncomputable def Rd (call:Call) (N:Nat) (H:Hp) (M:Nat) (l:Loc) (HH:Hp) (y:Option (List It)):Prop :=
 ∃ K,K.take H.length=H∧whileL (fun l H'=>evE call H.length l (.bool true) H') (fun l H'=>evSs call N H.length wReadB l H') M l HH=some (.ret (optL y) K)
noncomputable def RdK (call:Call) (N:Nat) (H:Hp) (M:Nat) (G:Option (List It)→Prop):RS→Prop
 | .ret v K=>∀ ⦃y⦄,v=optL y→K.take H.length=H→G y
 | .next l K=>∀ ⦃y⦄,Rd call N H M l K y→G y
 | .cont l K=>∀ ⦃y⦄,Rd call N H M l K y→G y
 | .exc _=>True
theorem rd_step {M:Nat} {l:Loc} {HH:Hp} {y:Option (List It)} (h:∀ G:Option (List It)→Prop,wSs call N H.length wReadB l HH (RdK call N H M G)→G y):Rd call N H (M + 1) l HH y :=
 h _ (wSs_ok _ _ _ _ fun r hr=>match r,hr with
  | .ret _ _,hr=>fun _ e ht=>⟨_,ht,wh_ret rfl (e ▸ hr)⟩
  | .next _ _,hr=>fun _ ⟨_,g1,g2⟩=>⟨_,g1,wh_next rfl hr g2⟩
  | .cont _ _,hr=>fun _ ⟨_,g1,g2⟩=>⟨_,g1,wh_cont rfl hr g2⟩
  | .exc _,_=>trivial)
theorem dle (w:List Tk) (d:Nat):(w.drop d).length≤w.length:=by rw [List.length_drop]; exact Nat.sub_le ..
theorem dl2 {w:List Tk} {d:Nat} (h0:0 < d) (hd:d≤w.length):(w.drop d).length + 1≤w.length:=by rw [List.length_drop]; exact Nat.sub_lt (Nat.lt_of_lt_of_le h0 hd) h0
theorem dl1 {w:List Tk} {d f:Nat} (h0:0 < d) (hd:d≤w.length) (hf:w.length < f + 1):(w.drop d).length < f:=Nat.lt_of_lt_of_le (dl2 h0 hd) (Nat.le_of_lt_succ hf)
theorem emp_snoc {α:Type} (l:List α) (a:α):(l++[a]).isEmpty=false:=by cases l <;> rfl
theorem l_read (hc36:∀ w H,Sk ts w→(∀ k∈w,k.okk)→call 36 [.lst (tokV ts),.int (pk ts w:Nat)] H=rsT ts H (singleT w))
  (hj:∀ (a i:It) H,a.wd→i.wd→call 27 [a.toV,i.toV] H=some (.ok (.bool (loose a i)) H)) :
  ∀ (f M:Nat) (HH:Hp) (j k:Nat) (acc:List It) (after fr:Bool) (F:List Fr) (w:List Tk) (x6 x7 x8 x9 x10:Option V),Inv H p HH ((j,k,acc,after) :: F)→(acc.isEmpty||after)=fr→Sk ts w→(∀ k∈w,k.okk)→w.length < f→f≤M →
   BB w.length ((j,k,acc,after) :: F)→F.length + w.length≤80000 →
   Rd call N H M [some (.str t),some (.lst (tokV ts)),some (.ref p),some (.int (pk ts w:Nat)),some (.bool fr),some (.bool after),x6,x7,x8,x9,x10] HH (mach f (F.map (·.2)) k acc after w):=by
 intro f
 induction f with
 | zero=>intro M HH j k acc after fr F w x6 x7 x8 x9 x10 hI hfr hs hk hf; exact absurd hf (Nat.not_lt_zero _)
 | succ f ih =>
  intro M
  cases M with
  | zero=>intro HH j k acc after fr F w x6 x7 x8 x9 x10 hI hfr hs hk hf hM; exact absurd hM (Nat.not_succ_le_zero _)
  | succ M =>
  intro HH j k acc after fr F w x6 x7 x8 x9 x10 hI hfr hs hk hf hM hb hF
  refine rd_step fun G W=>?_
  obtain ⟨h1,h2,h3,h4⟩:=hI.fr _ (List.mem_cons_self ..)
  have h3:hget HH j=some (toVs acc):=h3
  obtain ⟨hal,haw⟩:=hb _ (List.mem_cons_self ..)
  have hal:acc.length + w.length≤80000:=hal
  have t0:=tk0 (H:=HH) hs
  have z0:=i_oV0 HH w[0]?
  have top:=i_top hI rfl
  have ok0:=okO_get hk 0
  have kd:∀ d,∀ k∈w.drop d,k.okk:=fun d k hk'=>hk k (List.mem_of_mem_drop hk')
  rw [mach_succ]
  refine iteR (fun q=>?_) fun q44=>?_
  ·have k44:=kW (a:=44) rfl q
   have hl:=lt_of_sg q
   cases after with
   | true=>exact (W rfl top rfl t0 z0 k44 rfl hI.take)
   | false =>
    refine iteR (fun z=>(W rfl top rfl t0 z0 k44 h3 (ni (H:=H) z) rfl hI.take)) fun z=>?_
    have g:=ih M HH j k acc true true F (w.drop 1) (some (.ref j)) (some (.str (oW w[0]?))) x8 x9 x10 hI.flag (Bool.or_true _) (hs.drop 1) (kd 1) (dl1 Nat.one_pos hl hf) (Nat.le_of_succ_le_succ hM) (.cons (Nat.le_trans (Nat.add_le_add_left (dle w 1) _) hal) haw (hb.tl.le (dle w 1))) (Nat.le_trans (Nat.add_le_add_left (dle w 1) _) hF)
    exact (W rfl top rfl t0 z0 k44 h3 (ni (H:=H) (nbool z)) (pkj hs (j:=1) hl) g)
  have k44:=kW (a:=44) rfl (nbool q44)
  refine iteR (fun q=>?_) fun q41=>?_
  ·have k41:=kW (a:=41) rfl q
   have hl:=lt_of_sg q
   have pk1:=pkj hs (j:=1) hl
   cases after with
   | true=>exact (W rfl top rfl t0 z0 k44 k41 rfl hI.take)
   | false =>
   have gp:hget (HH.set p (some (ent F).reverse)) p=some (ent F).reverse:=hg_eq hI.len
   have gj:hget (HH.set p (some (ent F).reverse)) j=some (toVs acc):=(hg_ne h4.symm).trans h3
   have hI2:=hI.close
   cases F with
   | nil =>
    have po:=fun l=>pop_ok (call:=call) (l:=l) (x:=2) hI rfl
    have t1:=tk0 (H:=HH.set p (some (ent ([]:List Fr)).reverse)) (hs.drop 1)
    have z1:=i_oV0 (HH.set p (some (ent ([]:List Fr)).reverse)) (w.drop 1)[0]?
    show G (if (w.drop 1).isEmpty=true then some acc else none)
    refine iteR (fun z=>?_) fun z=>?_
    ·exact (W rfl top rfl t0 z0 k44 k41 (po _ rfl) pk1 gp rfl t1 z1 (kend z) (seal_ok rfl gj (Its.pure acc) h1) rfl hI2.take)
    ·exact (W rfl top rfl t0 z0 k44 k41 (po _ rfl) pk1 gp rfl t1 z1 (kend (nbool z)) rfl ((tk_set hI.hp).trans hI.take))
   | cons x F =>
    obtain ⟨j',k',acc',after'⟩:=x
    obtain ⟨hal',haw'⟩:=hb.tl _ (List.mem_cons_self ..)
    have hal':acc'.length + w.length≤80000:=hal'
    have gn:(ent ((j',k',acc',after') :: F)).reverse.isEmpty=false:=by rw [ent_snoc rfl]; exact emp_snoc _ _
    have h3':=(hI2.fr _ (List.mem_cons_self ..)).2.2.1
    have h1':=(hI2.fr _ (List.mem_cons_self ..)).1
    have top':=i_top hI2 rfl
    have c':=may_put (v:=(It.grp k acc).toV) h1' (lcap hal')
    show G (if acc.isEmpty=true then none else if (!after'&&!looseLast acc' (.grp k acc))=true then none else mach f (F.map (·.2)) k' (acc'++[.grp k acc]) false (w.drop 1))
    refine iteR (fun z=>?_) fun z=>?_
    ·exact (W rfl top rfl t0 z0 k44 k41 (pop_ok hI rfl rfl) pk1 gp gn gj (ni (H:=H) z) rfl rfl ((tk_set hI.hp).trans hI.take))
    have se:=fun l (hl:l[6]?=some (some (V.ref j)))=>seal_ok (call:=call) hl gj (Its.pure acc) h1
    have g:=ih M _ j' k' (acc'++[.grp k acc]) false false F (w.drop 1) (some (.ref j')) (some (.str (oW w[0]?))) (some (.int (k:Nat))) (some (.tup [(It.grp k acc).toV,.int (pk ts (w.drop 1):Nat)])) (some (It.grp k acc).toV) (hI2.push (.grp k acc)) ((Bool.or_false _).trans (emp_snoc _ _)) (hs.drop 1) (kd 1) (dl1 Nat.one_pos hl hf) (Nat.le_of_succ_le_succ hM) (hb.tl.push (i:=.grp k acc) trivial (dl2 Nat.one_pos hl)) (Nat.le_trans (Nat.add_le_add (Nat.le_succ _) (dle w 1)) hF)
    cases hfr':(acc'.isEmpty||after') with
    | true =>
     rw [free_no hfr']
     exact (W rfl top rfl t0 z0 k44 k41 (pop_ok hI hfr' rfl) pk1 gp gn gj (ni (H:=H) (nbool z)) (se _ rfl) rfl rfl top' rfl h3' c' g)
    | false =>
     obtain ⟨q,hq,n2,n3⟩:=free_at (i:=.grp k acc) hfr' h3' haw'
     have ej:=hj q (.grp k acc) ((HH.set p (some (ent ((j',k',acc',after') :: F)).reverse)).set j none) hq trivial
     rw [n3]
     cases hlo:loose q (.grp k acc) with
     | true=>rw [hlo] at ej; exact (W rfl top rfl t0 z0 k44 k41 (pop_ok hI hfr' rfl) pk1 gp gn gj (ni (H:=H) (nbool z)) (se _ rfl) rfl rfl top' rfl rfl n2 ej h3' c' g)
     | false=>rw [hlo] at ej; exact (W rfl top rfl t0 z0 k44 k41 (pop_ok hI hfr' rfl) pk1 gp gn gj (ni (H:=H) (nbool z)) (se _ rfl) rfl rfl top' rfl rfl n2 ej rfl hI2.take)
  have k41:=kW (a:=41) rfl (nbool q41)
  have gp:=hg_apq (X:=[some []]) hI.len hI.pile
  have cp:=may_put (v:=.tup [.int (k:Nat),.ref HH.length,.bool fr]) hI.hp (ecap (F:=(j,k,acc,after) :: F) (Nat.succ_le_succ (Nat.le_trans (Nat.le_add_right ..) hF)))
  have opn:=fun (m d:Nat) (h0:0 < d) (hd:d≤w.length)=>ih M _ HH.length m [] false true ((j,k,acc,after) :: F) (w.drop d) (some (.ref j)) (some (.str (oW w[0]?))) x8 x9 x10 (hI.open hfr) rfl (hs.drop d) (kd d) (dl1 h0 hd hf) (Nat.le_of_succ_le_succ hM) (.cons (Nat.le_trans (Nat.add_le_add (Nat.zero_le _) (dle w d)) hal) (fun _ h=>nomatch h) (hb.le (dle w d))) (Nat.le_trans (Nat.le_of_eq (Nat.succ_add_eq_add_succ _ _)) (Nat.le_trans (Nat.add_le_add_left (dl2 h0 hd) _) hF))
  refine iteR (fun q=>?_) fun q40=>?_
  ·have hl:=lt_of_sg q
   have kn:=kN ok0 (sg_n q)
   have g:=opn 1 1 Nat.one_pos hl
   exact (W rfl top rfl t0 z0 k44 k41 (kW (a:=40) rfl q) kn gp cp kn (pkj hs (j:=1) hl) g)
  have k40:=kW (a:=40) rfl (nbool q40)
  refine iteR (fun q=>?_) fun qO=>?_
  ·obtain ⟨qn,qx⟩:=Bool.and_eq_true_iff.mp q
   obtain ⟨q0,q1⟩:=Bool.and_eq_true_iff.mp qx
   have hl:=lt_of_sg q1
   have kn:=kN ok0 qn
   have g:=opn (nv w[0]?) 2 (by decide) hl
   exact (W rfl top rfl t0 z0 k44 k41 k40 kn t0 (vN qn) (cgt (b:=0) q0) rfl (tkj hs 1 rfl) (i_oV0 ..) (kW (a:=40) rfl q1) kn t0 (vN qn) gp cp kn (pkj hs (j:=2) hl) g)
  have hO:∀ {x:Prop},(isN w[0]?=false→x)→(isN w[0]?=true→decide (0 < nv w[0]?)=false→x)→(isN w[0]?=true→decide (0 < nv w[0]?)=true→isSg 40 w[1]?=false→x)→x:=fun a b c=>by
   cases e1:isN w[0]? with
   | false=>exact a e1
   | true=>cases e2:decide (0 < nv w[0]?) with
    | false=>exact b e1 e2
    | true=>exact c e1 e2 (by rw [e1,e2] at qO; exact nbool qO)
  have W3:=hO (fun e1=>W rfl top rfl t0 z0 k44 k41 k40 (kN ok0 e1)) (fun e1 e2=>W rfl top rfl t0 z0 k44 k41 k40 (kN ok0 e1) t0 (vN e1) (cgt (b:=0) e2)) fun e1 e2 e3=>W rfl top rfl t0 z0 k44 k41 k40 (kN ok0 e1) t0 (vN e1) (cgt (b:=0) e2) rfl (tkj hs 1 rfl) (i_oV0 ..) (kW (a:=40) rfl e3)
  have e36:=hc36 w HH hs hk
  cases hsi:singleT w with
  | none =>
   have e:=e36.trans (congrArg (rsT ts HH) hsi)
   exact W3 e rfl rfl hI.take
  | some y =>
   obtain ⟨i,w'⟩:=y
   have e:=e36.trans (congrArg (rsT ts HH) hsi)
   obtain ⟨d,hd0,hd,hw',hiw⟩:=singleT_ok hsi
   subst hw'
   show G (if (!after&&!looseLast acc i)=true then none else mach f (F.map (·.2)) k (acc++[i]) false (w.drop d))
   have c':=may_put (v:=i.toV) h1 (lcap hal)
   have g:=ih M _ j k (acc++[i]) false false F (w.drop d) (some (.ref j)) (some (.str (oW w[0]?))) x8 (some (.tup [i.toV,.int (pk ts (w.drop d):Nat)])) (some i.toV) (hI.push i) ((Bool.or_false _).trans (emp_snoc _ _)) (hs.drop d) (kd d) (dl1 hd0 hd hf) (Nat.le_of_succ_le_succ hM) (hb.push hiw (dl2 hd0 hd)) (Nat.le_trans (Nat.add_le_add_left (dle w d) _) hF)
   cases fr with
   | true =>
    rw [free_no hfr]
    exact W3 e rfl rfl top rfl h3 c' g
   | false =>
    obtain ⟨q,hq,n2,n3⟩:=free_at (i:=i) hfr h3 haw
    have ej:=hj q i HH hq hiw
    rw [n3]
    cases hlo:loose q i with
    | true=>rw [hlo] at ej; exact W3 e rfl rfl top rfl rfl n2 ej h3 c' g
    | false=>rw [hlo] at ej; exact W3 e rfl rfl top rfl rfl n2 ej rfl hI.take
end
end Mine.P
end
section
namespace Mine.P
noncomputable def okT (t:Txt):Prop:=∀ c∈t,c < 100∧c≠63
theorem okT.suf {t u:Txt} (h:okT t) (hs:Suf t u):okT u:=by
 obtain ⟨p,rfl⟩:=hs
 exact fun c hc=>h c (List.mem_append_right _ hc)
theorem tok1_okk {c:Nat} {r:Txt} (h:c < 100∧c≠63):(tok1 c r).1.okk:=by
 unfold tok1
 split
 ·unfold qTok
  split
  ·trivial
  ·show Tk.okk (if _ then _ else _)
   split <;> trivial
 ·split
  ·unfold nTok
   split
   ·show Tk.okk (if _ then _ else _)
    split <;> trivial
   ·show Tk.okk (if _ then _ else _)
    split
    ·assumption
    ·trivial
  ·exact ⟨by omega,by omega,h.2⟩
theorem toks_okk:∀ (f:Nat) (u:Txt),okT u→∀ k∈toks f u,k.okk
 | 0,u,h=>fun _ h=>nomatch h
 | f + 1,u,h=>by
  have hs:=skip_suf u
  cases e:skip u with
  | nil=>rw [toks_no e]; exact fun _ h=>nomatch h
  | cons c r =>
   rw [toks_yes e]
   rw [e] at hs
   have h2:=h.suf hs
   intro k hk
   rcases List.mem_cons.mp hk with rfl | hk
   ·exact tok1_okk (h2 c (List.mem_cons_self ..))
   ·exact toks_okk f _ (h.suf (hs.tail.trans (tok1_suf c r))) k hk
theorem tokS_okk {u:Txt} (h:okT u):∀ k∈tokS u,k.okk:=toks_okk _ u h
theorem pk_self (ts:List Tk):pk ts ts=0:=by simp [pk]
section
variable {t:Txt} {N:Nat} {H:Hp}
theorem s_read {n:Nat} (ht:t.length≤600) (hN:700≤N) (ho:okT t):callF theFn N (n + 6) 37 [.str t] H=some (.ok (optL (readC t)) H):=by
 have W:=wC (N:=N) (n + 5) 37 F_law_read [.str t] H rfl rfl
 have e0:=s_tokens (t:=t) (N:=N) (H:=H) (n:=n + 4) ht (by omega)
 have hk:=tokS_okk ho
 have hl:=tokS_len t
 have t0:idxV H (.lst (tokV (tokS t))) (.int 0)=some (oV (tokS t)[0]?):=tk_idx (.rfl' (tokS t)) 0 (by omega) (by rw [pk_self]; rfl) H
 have z0:=i_oV0 H (tokS t)[0]?
 unfold readC
 by_cases q:isSg 40 (tokS t)[0]?=true
 ·rw [if_pos q]
  have hlt:=lt_of_sg q
  have d1:=pk_drop (.rfl' (tokS t)) (j:=1) hlt
  rw [pk_self] at d1
  have hP:(H++[some ([]:List V)]).length=H.length + 1:=by rw [List.length_append]; rfl
  have hI:Inv H (H++[some []]).length (H++[some []]++[some [.tup [.int ((1:Nat):Int),.ref H.length,.bool true]]]) [(H.length,1,[],false)]:=by
   refine ⟨?_,by omega,by rw [List.length_append (bs:=[some [V.tup [.int ((1:Nat):Int),.ref H.length,.bool true]]])]; exact Nat.lt_succ_self _,hgA _ _,fun x hx=>?_,List.pairwise_singleton ..⟩
   ·rw [List.append_assoc,tk_app (Nat.le_refl _),List.take_length]
   ·rw [List.mem_singleton.mp hx]
    exact ⟨Nat.le_refl _,by rw [List.length_append (bs:=[some [V.tup [.int ((1:Nat):Int),.ref H.length,.bool true]]])]; exact Nat.lt_add_right _ (by rw [hP]; exact Nat.lt_succ_self _),hg_apq (by rw [hP]; exact Nat.lt_succ_self _) (hgA ..),by rw [hP]; exact Nat.ne_of_lt (Nat.lt_succ_self _)⟩
  obtain ⟨K,g1,g2⟩:=l_read (t:=t) (N:=N) (fun w H h hk=>s_single (n:=n + 1) h hk) (fun a i H ha hi=>s_loose (n:=n + 4) ha hi) ((tokS t).length + 1) N _ H.length 1 [] false true [] ((tokS t).drop 1) none none none none none hI rfl (Sk.drop (.rfl' (tokS t)) 1) (fun k hk'=>hk k (List.mem_of_mem_drop hk')) (by rw [List.length_drop]; omega) (by omega)
   (.cons (by rw [List.length_drop]; simp only [List.length_nil]; omega) (fun _ h=>nomatch h) fun _ h=>nomatch h) (by rw [List.length_drop]; simp only [List.length_nil]; omega)
  rw [d1] at g2
  exact W e0 t0 z0 (kWn (a:=40) rfl q) g2 (optL_pure _) g1
 ·rw [if_neg q]
  exact W e0 t0 z0 (kWn (a:=40) rfl (nbool q)) rfl List.take_length
end
end Mine.P
end
section
namespace Mine.P
inductive Leaf:It→Prop
 | i0 (w:Nat):1≤w→w≤12→Leaf (.nums [73] [nI w,none])
 | i1 (w d:Nat):1≤w→w≤12→d≤w→Leaf (.nums [73] [nI w,nI d])
 | l (w:Nat):1≤w→w≤12→Leaf (.nums [76] [nI w])
 | a0:Leaf (.nums [65] [none])
 | a1 (w:Nat):1≤w→w≤12→Leaf (.nums [65] [nI w])
 | fd (c w d:Nat):(c=70∨c=68)→1≤w→w≤12→d≤8→Leaf (.nums [c] [nI w,nI d])
 | e0 (c w d:Nat):(c=69∨c=71)→1≤w→w≤12→d≤8→Leaf (.nums [c] [nI w,nI d,none])
 | e1 (c w d e:Nat):(c=69∨c=71)→1≤w→w≤12→d≤8→1≤e→e≤2→Leaf (.nums [c] [nI w,nI d,nI e])
noncomputable def hAlph:Txt:=[65,39,53,32,44,72,41]
inductive Good:Nat→It→Prop
 | leaf (d:Nat) (i:It):Leaf i→Good d i
 | rep (d k:Nat) (i:It):2≤k→k≤15→Leaf i→Good d (.rep (k:Int) i)
 | text (d:Nat) (s:Txt):s≠[]→s.length≤3→(∀ c∈s,c∈hAlph)→Good d (.text s)
 | x (d k:Nat):1≤k→k≤14→Good d (.nums [88] [nI k])
 | t (d k:Nat) (w:Txt):w∈([[84],[84,76],[84,82]]:List Txt)→1≤k→k≤14→Good d (.nums w [nI k])
 | c (d:Nat) (w:Txt):w∈([[47],[58],[83],[83,80],[83,83],[66,78],[66,90]]:List Txt)→Good d (.nums w [])
 | p (d:Nat) (k:Int):-6≤k→k≤7→Good d (.nums [80] [some k])
 | grp (d k:Nat) (l:List It):1≤k→k≤14→l≠[]→l.length≤2→(∀ i∈l,Good d i)→Good (d + 1) (.grp (k:Int) l)
theorem Leaf.flat {i:It} (h:Leaf i):i.flat:=by
 cases h with
 | fd c w d hc=>rcases hc with rfl | rfl <;> (show _∈words; decide)
 | e0 c w d hc=>rcases hc with rfl | rfl <;> (show _∈words; decide)
 | e1 c w d e hc=>rcases hc with rfl | rfl <;> (show _∈words; decide)
 | _=>show _∈words; decide
theorem flat_word {i:It} (h:i.flat):i.word∈words:=by
 cases i with
 | nums w ps=>exact h
 | text s=>cases h
 | rep k i=>cases h
 | grp k l=>cases h
theorem Good.wd {d:Nat} {i:It} (h:Good d i):i.wd:=by
 cases h with
 | leaf _ _ h=>exact flat_wd0 h.flat
 | rep _ k i _ _ h=>exact flat_word h.flat
 | text=>trivial
 | x=>show _∈words; decide
 | t _ k w hw =>
  show w∈words
  have:∀ w∈([[84],[84,76],[84,82]]:List Txt),w∈words:=by decide
  exact this w hw
 | c _ w hw =>
  show w∈words
  have:∀ w∈([[47],[58],[83],[83,80],[83,83],[66,78],[66,90]]:List Txt),w∈words:=by decide
  exact this w hw
 | p=>show _∈words; decide
 | grp=>trivial
noncomputable def dig (k:Nat):Txt:=if k < 10 then [48 + k] else [49,38 + k]
theorem textOf_dig:∀ k:Fin 16,textOf ((k.val:Nat):Int)=dig k.val:=by decide +kernel
theorem textOf_nat {k:Nat} (h:k≤15):textOf (k:Int)=dig k:=textOf_dig ⟨k,by omega⟩
theorem textOf_neg':∀ k:Fin 7,0 < k.val→textOf (-((k.val:Nat):Int))=45 :: dig k.val:=by decide +kernel
theorem textOf_neg {k:Nat} (h:k≤6) (h0:0 < k):textOf (-(k:Int))=45 :: dig k:=textOf_neg' ⟨k,by omega⟩ h0
theorem dig_len {k:Nat}:(dig k).length≤2:=iteP (P:=fun t:Txt=>t.length≤2) (fun _=>Nat.le_succ 1) fun _=>Nat.le_refl 2
theorem textOf_len':∀ k:Fin 22,(textOf ((k.val:Int) - 6)).length≤2:=by decide +kernel
theorem textOf_len {k:Int} (h:-6≤k) (h2:k≤15):(textOf k).length≤2:=by
 have e:(((k + 6).toNat:Nat):Int) - 6=k:=by omega
 exact e ▸ textOf_len' ⟨(k + 6).toNat,by omega⟩
noncomputable def tail3:List Txt→List (Option Int)→Txt
 | j :: js,some k :: ps=>j++textOf k++tail3 js ps
 | _ :: js,none :: ps=>tail3 js ps
 | _,_=>[]
noncomputable def JS:List Txt:=[[],[46],[69]]
noncomputable def dbl:Txt→Txt
 | []=>[]
 | c :: s=>if c=39 then 39 :: 39 :: dbl s else c :: dbl s
noncomputable def sepr (j:Txt):Option It→It→Txt
 | none,_=>[]
 | some p,i=>if loose p i then j else [44]
mutual
noncomputable def wText (j:Txt):It→Txt
 | .nums w ps=>if w=[88]∨w=[80] then tail3 [[]] ps++w else w++tail3 JS ps
 | .text s=>39 :: (dbl s++[39])
 | .rep k i=>textOf k++wText j i
 | .grp k l=>(if k=1 then [] else textOf k)++(40 :: (wItems j none l++[41]))
noncomputable def wItems (j:Txt):Option It→List It→Txt
 | _,[]=>[]
 | p,i :: l=>sepr j p i++(wText j i++wItems j (some i) l)
end
noncomputable def wWhole (j:Txt) (l:List It):Txt:=40 :: (wItems j none l++[41])
noncomputable def lenB:Nat→Nat
 | 0=>9
 | d + 1=>2 * lenB d + 5
theorem wI_cons (j:Txt) (p:Option It) (i:It) (l:List It):wItems j p (i :: l)=sepr j p i++(wText j i++wItems j (some i) l):=rfl
theorem wt_nums (j w:Txt) (ps:List (Option Int)):wText j (.nums w ps)=if w=[88]∨w=[80] then tail3 [[]] ps++w else w++tail3 JS ps:=rfl
theorem wt_grp (j:Txt) (k:Int) (l:List It):wText j (.grp k l)=(if k=1 then [] else textOf k)++(40 :: (wItems j none l++[41])):=rfl
theorem lenB_ge:∀ d:Nat,9≤lenB d
 | 0=>Nat.le_refl _
 | d + 1=>by have:=lenB_ge d; show 9≤2 * lenB d + 5; omega
theorem dbl_len:∀ s:Txt,(dbl s).length≤2 * s.length
 | []=>Nat.le_refl _
 | c :: s=>iteP (P:=fun t:Txt=>t.length≤2 * s.length + 2) (fun _=>Nat.succ_le_succ (Nat.succ_le_succ (dbl_len s))) fun _=>Nat.succ_le_succ (Nat.le_succ_of_le (dbl_len s))
theorem tl_some {j:Txt} {js:List Txt} {k:Int} {ps:List (Option Int)} {a b c:Nat} (h1:j.length≤a) (h2:(textOf k).length≤b) (h3:(tail3 js ps).length≤c):(tail3 (j :: js) (some k :: ps)).length≤a + b + c:=by
 show (j++textOf k++tail3 js ps).length≤_
 rw [List.length_append,List.length_append]; exact Nat.add_le_add (Nat.add_le_add h1 h2) h3
theorem wT_le {j w:Txt} {ps:List (Option Int)} {a c:Nat} (hw:¬ (w=[88]∨w=[80])∧w.length≤a) (h:(tail3 JS ps).length≤c):(wText j (.nums w ps)).length≤a + c:=by
 rw [wt_nums,if_neg hw.1,List.length_append]; exact Nat.add_le_add hw.2 h
theorem tn2 {k m:Nat} (h:k≤m) (hm:m≤15):(textOf (k:Int)).length≤2:=by rw [textOf_nat (Nat.le_trans h hm)]; exact dig_len
theorem leaf_len {j:Txt} {i:It} (h:Leaf i):(wText j i).length≤7:=by
 have n1:∀ {k:Nat},k≤8→(textOf (k:Int)).length≤1:=fun {k} h=>by
  rw [textOf_nat (Nat.le_trans h (by decide)),show dig k=[48 + k] from if_pos (Nat.lt_of_le_of_lt h (by decide))]; exact Nat.le_refl 1
 have n2:∀ {k:Nat},k≤12→(textOf (k:Int)).length≤2:=fun h=>tn2 h (by decide)
 have w1:∀ w∈([[73],[76],[65],[70],[68],[69],[71]]:List Txt),¬ (w=[88]∨w=[80])∧w.length≤1:=by decide
 have p1:∀ {w:Txt} {k:Nat} {ps:List (Option Int)},w∈([[73],[76],[65],[70],[68],[69],[71]]:List Txt)→k≤12→(tail3 [[46],[69]] ps).length≤4→(wText j (.nums w (nI k :: ps))).length≤7:=fun hw hk h=>wT_le (w1 _ hw) (tl_some (Nat.le_refl 0) (n2 hk) h)
 have p2:∀ {k:Nat} {ps:List (Option Int)},k≤8→(tail3 [[69]] ps).length≤2→(tail3 [[46],[69]] (nI k :: ps)).length≤4:=fun hk h=>tl_some (Nat.le_refl 1) (n1 hk) h
 cases h with
 | i0 w h1 h2=>exact p1 (by decide) h2 (Nat.zero_le _)
 | i1 w d h1 h2 h3=>exact p1 (by decide) h2 (Nat.le_succ_of_le (tl_some (c:=0) (Nat.le_refl 1) (n2 (Nat.le_trans h3 h2)) (Nat.zero_le _)))
 | l w h1 h2=>exact p1 (by decide) h2 (Nat.zero_le _)
 | a0=>exact Nat.le_trans (wT_le (c:=0) (w1 [65] (by decide)) (Nat.zero_le _)) (by decide)
 | a1 w h1 h2=>exact p1 (by decide) h2 (Nat.zero_le _)
 | fd c w d hc h1 h2 h3=>exact p1 (by rcases hc with rfl | rfl <;> decide) h2 (p2 h3 (Nat.zero_le _))
 | e0 c w d hc h1 h2 h3=>exact p1 (by rcases hc with rfl | rfl <;> decide) h2 (p2 h3 (Nat.zero_le _))
 | e1 c w d e hc h1 h2 h3 h4 h5=>exact p1 (by rcases hc with rfl | rfl <;> decide) h2 (p2 h3 (tl_some (c:=0) (Nat.le_refl 1) (n1 (Nat.le_trans h5 (by decide))) (Nat.zero_le _)))
theorem sepr_len {j:Txt} (hj:j.length≤1):∀ p i,(sepr j p i).length≤1
 | none,_=>Nat.zero_le _
 | some _,_=>iteP (P:=fun t:Txt=>t.length≤1) (fun _=>hj) fun _=>Nat.le_refl 1
theorem good_len {j:Txt} (hj:j.length≤1) {d:Nat} {i:It} (h:Good d i):(wText j i).length≤lenB d:=by
 have w2:∀ w∈([[84],[84,76],[84,82],[47],[58],[83],[83,80],[83,83],[66,78],[66,90]]:List Txt),¬ (w=[88]∨w=[80])∧w.length≤2:=by decide
 have w3:∀ w∈([[84],[84,76],[84,82]]:List Txt),w∈([[84],[84,76],[84,82],[47],[58],[83],[83,80],[83,83],[66,78],[66,90]]:List Txt):=by decide
 have w4:∀ w∈([[47],[58],[83],[83,80],[83,83],[66,78],[66,90]]:List Txt),w∈([[84],[84,76],[84,82],[47],[58],[83],[83,80],[83,83],[66,78],[66,90]]:List Txt):=by decide
 have b9:∀ {d n:Nat},n≤9→n≤lenB d:=fun h=>Nat.le_trans h (lenB_ge _)
 have xp:∀ {k:Int} {a:Nat},(textOf k).length≤2→(tail3 [[]] [some k]++[a]).length≤9:=fun h=>by
  rw [List.length_append]; exact Nat.le_trans (Nat.add_le_add_right (tl_some (c:=0) (Nat.le_refl 0) h (Nat.zero_le _)) 1) (by decide)
 induction h with
 | leaf d i h=>exact b9 (Nat.le_trans (leaf_len h) (by decide))
 | rep d k i h1 h2 h=>exact b9 (by show (textOf _++wText j i).length≤_; rw [List.length_append]; exact Nat.add_le_add (tn2 h2 (by decide)) (leaf_len h))
 | text d s h1 h2 h3=>exact b9 (by have:=dbl_len s; show (dbl s++[39]).length + 1≤9; rw [List.length_append]; show (dbl s).length + 1 + 1≤9; omega)
 | x d k h1 h2=>exact b9 (xp (tn2 h2 (by decide)))
 | t d k w hw h1 h2=>exact b9 (Nat.le_trans (wT_le (w2 w (w3 w hw)) (tl_some (c:=0) (Nat.le_refl 0) (tn2 h2 (by decide)) (Nat.zero_le _))) (by decide))
 | c d w hw=>exact b9 (Nat.le_trans (wT_le (c:=0) (w2 w (w4 w hw)) (Nat.zero_le _)) (by decide))
 | p d k h1 h2=>exact b9 (xp (textOf_len h1 (Int.le_trans h2 (by decide))))
 | grp d k l h1 h2 h3 h4 h5 ih =>
  have hl:(wItems j none l).length≤lenB d + (lenB d + 1):=by
   match l,h3,h4,ih with
   | [a],_,_,ih =>
    have ha:=ih a (by simp)
    rw [show wItems j none [a]=wText j a++[] from rfl,List.append_nil]
    exact Nat.le_trans ha (Nat.le_add_right ..)
   | [a,b],_,_,ih =>
    have ha:=ih a (by simp)
    have hb:=ih b (by simp)
    rw [show wItems j none [a,b]=wText j a++(sepr j (some a) b++(wText j b++[])) from rfl,List.append_nil,List.length_append,List.length_append,Nat.add_comm (sepr ..).length]
    exact Nat.add_le_add ha (Nat.add_le_add hb (sepr_len hj ..))
  have hz:(if (k:Int)=1 then ([]:Txt) else textOf (k:Int)).length≤2:=iteP (P:=fun t:Txt=>t.length≤2) (fun _=>Nat.zero_le _) fun _=>tn2 h2 (by decide)
  rw [wt_grp,List.length_append,List.length_cons,List.length_append]
  show _ + (_ + 1 + 1)≤2 * lenB d + 5
  omega
theorem items_len {j:Txt} (hj:j.length≤1) {d:Nat}:∀ (l:List It) (p:Option It),(∀ i∈l,Good d i)→(wItems j p l).length≤l.length * (lenB d + 1)
 | [],p,h=>Nat.zero_le _
 | i :: l,p,h=>by
  have ih:=items_len hj l (some i) (fun i hi=>h i (List.mem_cons_of_mem _ hi))
  rw [wI_cons,List.length_append,List.length_append,List.length_cons,Nat.succ_mul,Nat.add_comm (sepr ..).length,Nat.add_right_comm,Nat.add_comm]
  exact Nat.add_le_add ih (Nat.add_le_add (good_len hj (h i (List.mem_cons_self ..))) (sepr_len hj p i))
end Mine.P
end
section
namespace Mine.P
section
variable {N b:Nat} {H:Hp} {call:Nat→List V→Hp→Option (Res V)}
theorem toStr_ok {i:Int} (h1:-100≤i) (h2:i≤100):toStrV (.int i)=some (textOf i):=by
 have:i.natAbs < 10000000000:=by omega
 exact if_pos this
theorem l_zip:∀ (ps:List (Option Int)) (js:List Txt) (s:Txt) (a0 a1 a2 y4 y5:Option V),(∀ k,some k∈ps→-100≤k∧k≤100)→s.length + (tail3 js ps).length≤100000 →
  ∃ z4 z5,zipL 4 5 3 (pairs (js.map V.str) (ps.map pV)) [a0,a1,a2,some (.str s),y4,y5]=some [a0,a1,a2,some (.str (s++tail3 js ps)),z4,z5]
 | [],js,s,a0,a1,a2,y4,y5,hk,hl=>by
  cases js <;> exact ⟨y4,y5,congrArg (fun x=>some [a0,a1,a2,some (V.str x),y4,y5]) (List.append_nil s).symm⟩
 | p :: ps,[],s,a0,a1,a2,y4,y5,hk,hl=>⟨y4,y5,by cases p <;> exact congrArg (fun x=>some [a0,a1,a2,some (V.str x),y4,y5]) (List.append_nil s).symm⟩
 | none :: ps,j :: js,s,a0,a1,a2,y4,y5,hk,hl=>by
  obtain ⟨z4,z5,h⟩:=l_zip ps js s a0 a1 a2 (some (.str j)) (some .none) (fun k hk'=>hk k (List.mem_cons_of_mem _ hk')) hl
  exact ⟨z4,z5,h⟩
 | some k :: ps,j :: js,s,a0,a1,a2,y4,y5,hk,hl=>by
  obtain ⟨k1,k2⟩:=hk k (List.mem_cons_self ..)
  have hl:s.length + (j++textOf k++tail3 js ps).length≤100000:=hl
  simp only [List.length_append] at hl
  obtain ⟨z4,z5,h⟩:=l_zip ps js (s++j++textOf k) a0 a1 a2 (some (.str j)) (some (.int k)) (fun k hk'=>hk k (List.mem_cons_of_mem _ hk')) (by simp only [List.length_append]; omega)
  have hc:k.natAbs < 10000000000∧s.length + j.length + (textOf k).length≤capL:=⟨by omega,cap_txt (by omega)⟩
  have e:zip1 4 5 3 (.str j) (.int k) [a0,a1,a2,some (.str s),y4,y5]=some [a0,a1,a2,some (.str (s++j++textOf k)),some (.str j),some (.int k)]:=if_pos hc
  have he:s++tail3 (j :: js) (some k :: ps)=s++j++textOf k++tail3 js ps:=by rw [List.append_assoc s,List.append_assoc s]; rfl
  rw [he]
  exact ⟨z4,z5,(congrArg (fun o:Option Loc=>match o with | some o=>zipL 4 5 3 (pairs (js.map V.str) (ps.map pV)) o | .none=>.none) e).trans h⟩
noncomputable def smallP (ps:List (Option Int)):Prop:=∀ k,some k∈ps→-100≤k∧k≤100
theorem c_xp (w:Txt):([[88],[80]]:List Txt).contains w=decide (w=[88]∨w=[80]):=by rw [Bool.eq_iff_iff]; simp
theorem wNe {w v:Txt} (h:(w==v)=false):cmpV .eq (.str w) (.str v)=some false:=by rw [cmp_eqs,h]
theorem w_grp:∀ w∈words,(w==[103,114,111,117,112])=false:=by decide
theorem w_txt:∀ w∈words,(w==[72])=false:=by decide
theorem sl_nums (w:Txt) (ps:List (Option Int)):slV (It.nums w ps).toV (.int 1) .none=some (.tup (ps.map pV)):=by
 show (if (1:Int)≤1∧(1:Int).toNat≤(V.str w :: ps.map pV).length then some (V.tup ((V.str w :: ps.map pV).drop (1:Int).toNat)) else none)=_
 exact if_pos ⟨by decide,Nat.succ_le_succ (Nat.zero_le _)⟩
theorem s_zip {l l':Loc} {x z t:Nat} {e f:E} {vs ws:List V} {H1 H2:Hp} (h1:evE call b l e H=some (.ok (.lst vs) H1)) (h2:evE call b l f H1=some (.ok (.tup ws) H2)) (h:zipL x z t (pairs vs ws) l=some l'):evS call N b (.zipStr x z t e f) l H=some (.next l' H2):=bndS_ok h1 (bndS_ok h2 (map_ok h))
theorem s_forR {l:Loc} {x k:Nat} {e:E} {bd:Ss} {H1:Hp} {r:RS} (h1:evE call b l e H=some (.ok (.int (k:Nat)) H1)) (hk:k≤100000) (h:Fo call N b x bd (upto k 0) l H1 r):evS call N b (.forR x e bd) l H=some r:=bndS_ok h1 ((if_pos ⟨Int.natCast_nonneg k,by have:(capL:Int)=1048576:=rfl; omega⟩).trans h)
theorem e_lenL {l:Loc} {x:E} {is:List It} {K:Hp} (h:evE call b l x H=some (.ok (.lst (toVs is)) K)):evE call b l (.len x) H=some (.ok (.int (is.length:Nat)) K):=bnd_ok h (tell_ok (map_ok (show lenV K (.lst (toVs is))=some is.length from congrArg some (toVs_len is))))
theorem e_split {l:Loc} {x y:E} {s:Txt} {c:Nat} (hx:evE call b l x H=some (.ok (.str s) H)) (hy:evE call b l y H=some (.ok (.str [c]) H)) (h:s.length≤100000):evE call b l (.split x y) H=some (.ok (.lst ((split1 c s).map V.str)) H):=bnd_ok hx (bnd_ok hy (if_pos h))
theorem e_join {l:Loc} {x y:E} {j:Txt} {w:V} {ws:List Txt} {K:Hp} (hx:evE call b l x H=some (.ok (.str j) H)) (hy:evE call b l y H=some (.ok w K)) (hl:(lstOf K w).bind textsOf=some ws) (h1:j.length≤1000) (h2:ws.length≤1000) (h3:∀ w∈ws,w.length≤10000) (h4:(joinT j ws).length≤capL) :
  evE call b l (.join x y) H=some (.ok (.str (joinT j ws)) K):=bnd_ok hx (bnd_ok hy (by
 show (match (lstOf K w).bind textsOf with | some ws=>if j.length≤1000∧ws.length≤1000∧(∀ w∈ws,w.length≤10000)∧(joinT j ws).length≤capL then some (Res.ok (V.str (joinT j ws)) K) else .none | .none=>.none)=_
 rw [hl]; exact if_pos ⟨h1,h2,h3,h4⟩))
theorem s_text_nums {n:Nat} {w j:Txt} {ps:List (Option Int)} (hw:w∈words) (hn:¬ (w=[88]∨w=[80])) (hp:smallP ps) (hl:(w++tail3 JS ps).length≤100000) :
  callF theFn N (n + 1) 26 [(It.nums w ps).toV,.str j] H=some (.ok (.str (w++tail3 JS ps)) H):=by
 have W:=wC (N:=N) n 26 F_law_text [(It.nums w ps).toV,.str j] H rfl rfl
 rw [List.length_append] at hl
 obtain ⟨z4,z5,hz⟩:=l_zip ps JS w (some (It.nums w ps).toV) (some (.str j)) (some (.str w)) none none hp hl
 have z1:evE (callF theFn N n) H.length [some (It.nums w ps).toV,some (.str j),some (.str w),some (.str w),none,none] (.lstF (.cons (.str []) (.cons (.str [46]) (.cons (.str [69]) .nil)))) H=some (.ok (.lst (JS.map V.str)) H):=rfl
 have z2:=walkE (call:=callF theFn N n) (b:=H.length) (.sl (.loc 0) (.int 1) .none) [some (It.nums w ps).toV,some (.str j),some (.str w),some (.str w),none,none] H (sl_nums w ps)
 have zs:evS (callF theFn N n) N H.length (.zipStr 4 5 3 (.lstF (.cons (.str []) (.cons (.str [46]) (.cons (.str [69]) .nil)))) (.sl (.loc 0) (.int 1) .none)) [some (It.nums w ps).toV,some (.str j),some (.str w),some (.str w),none,none] H=some (.next [some (It.nums w ps).toV,some (.str j),some (.str w),some (.str (w++tail3 JS ps)),z4,z5] H) :=
  s_zip z1 z2 hz
 exact W rfl (wNe (w_grp w hw)) (wNe (words_rep w hw)) (wNe (w_txt w hw)) ((c_xp w).trans (decide_eq_false hn)) zs rfl List.take_length
theorem s_text_xp {n:Nat} {w j:Txt} {k:Int} (hw:w=[88]∨w=[80]) (h1:-100≤k) (h2:k≤100) (hl:(textOf k).length≤100) :
  callF theFn N (n + 1) 26 [(It.nums w [some k]).toV,.str j] H=some (.ok (.str (textOf k++w)) H):=by
 have hw':w∈words∧w.length=1:=by rcases hw with h | h <;> rw [h] <;> decide
 exact wC (N:=N) n 26 F_law_text [(It.nums w [some k]).toV,.str j] H rfl rfl rfl (wNe (w_grp w hw'.1)) (wNe (words_rep w hw'.1)) (wNe (w_txt w hw'.1)) ((c_xp w).trans (decide_eq_true hw)) rfl (toStr_ok h1 h2) (b_add_str (by omega)) rfl List.take_length
theorem join_dbl:∀ s:Txt,joinT [39,39] (split1 39 s)=dbl s
 | []=>rfl
 | c :: s=>by
  have ih:=join_dbl s
  obtain ⟨w,ws,hs⟩:=split1_ne 39 s
  by_cases q:c=39
  ·rw [show split1 39 (c :: s)=[] :: split1 39 s from if_pos q,show dbl (c :: s)=39 :: 39 :: dbl s from if_pos q,← ih,hs]; rfl
  ·rw [split1_co q hs,show dbl (c :: s)=c :: dbl s from if_neg q,← ih,hs]
   cases ws <;> rfl
theorem split_lens:∀ s:Txt,(split1 39 s).length≤s.length + 1∧∀ w∈split1 39 s,w.length≤s.length
 | []=>⟨Nat.le_refl _,fun w h=>by rw [List.mem_singleton.mp h]; exact Nat.le_refl _⟩
 | c :: s=>by
  obtain ⟨h1,h2⟩:=split_lens s
  by_cases q:c=39
  ·rw [show split1 39 (c :: s)=[] :: split1 39 s from if_pos q]
   exact ⟨Nat.succ_le_succ h1,fun w hw=>(List.mem_cons.mp hw).elim (fun e=>by rw [e]; exact Nat.zero_le _) fun hw=>Nat.le_succ_of_le (h2 w hw)⟩
  ·obtain ⟨w,ws,hs⟩:=split1_ne 39 s
   rw [hs] at h1 h2
   rw [split1_co q hs]
   exact ⟨Nat.le_succ_of_le h1,fun x hx=>(List.mem_cons.mp hx).elim (fun e=>by rw [e]; exact Nat.succ_le_succ (h2 w (.head _))) fun hx=>Nat.le_succ_of_le (h2 x (.tail _ hx))⟩
theorem textsOf_str:∀ l:List Txt,textsOf (l.map V.str)=some l
 | []=>rfl
 | s :: l=>congrArg (Option.map (s :: ·)) (textsOf_str l)
theorem s_text_text {n:Nat} {s j:Txt} (hl:s.length≤3):callF theFn N (n + 1) 26 [(It.text s).toV,.str j] H=some (.ok (.str (39 :: (dbl s++[39]))) H):=by
 have hd:=dbl_len s
 obtain ⟨g1,g2⟩:=split_lens s
 have ej:=e_join (call:=callF theFn N n) (b:=H.length) (l:=[some (It.text s).toV,some (.str j),some (.str [72]),none,none,none]) (x:=.str [39,39]) (H:=H) rfl (e_split (x:=.idx (.loc 0) (.int 1)) (y:=.str [39]) (c:=39) (s:=s) rfl rfl (Nat.le_trans hl (by decide))) (textsOf_str _) (by decide) (by omega) (fun w hw=>by have:=g2 w hw; omega) (by rw [join_dbl]; exact cap_txt (by omega))
 rw [join_dbl] at ej
 exact wC (N:=N) n 26 F_law_text [(It.text s).toV,.str j] H rfl rfl rfl rfl rfl rfl ej (b_add_str (x:=[39]) (y:=dbl s) (by simp only [List.length_cons,List.length_nil]; omega)) (b_add_str (y:=[39]) (by simp only [List.length_append,List.length_cons,List.length_nil]; omega)) rfl List.take_length
noncomputable def wWholeB:Ss:=(.cons (.ite (.cmp .gt (.loc 3) (.int 0)) (.cons (.assign 2 (.bin .add (.loc 2) (.ife (.call 27 (.cons (.idx (.loc 0) (.bin .sub (.loc 3) (.int 1))) (.cons (.idx (.loc 0) (.loc 3)) .nil))) (.loc 1) (.str [44]))))
  .nil) .nil)
  (.cons (.assign 2 (.bin .add (.loc 2) (.call 26 (.cons (.idx (.loc 0) (.loc 3)) (.cons (.loc 1) .nil)))))
  .nil))
theorem get_mid (pre:List It) (i:It) (l:List It):idxV H (.lst (toVs (pre++i :: l))) (.int (pre.length:Nat))=some i.toV:=by
 have h0:(0:Int)≤(pre.length:Nat):=by omega
 show getAt _ _=_; rw [getAt,if_pos h0,Int.toNat_natCast,toVs_append,List.getElem?_append_right (by rw [toVs_len]; exact Nat.le_refl _),toVs_len,Nat.sub_self]; rfl
theorem get_pre (l pre:List It) (a i:It):idxV H (.lst (toVs (pre++[a]++i :: l))) (.int (pre.length:Nat))=some a.toV:=by
 rw [List.append_assoc]; exact get_mid pre a (i :: l)
theorem gt0 {n:Nat}:cmpV .gt (.int ((n + 1:Nat):Int)) (.int 0)=some true:=congrArg some (decide_eq_true (Int.ofNat_lt.mpr (Nat.succ_pos n)))
theorem l_whole {j:Txt} (hj:∀ (a i:It),a.wd→i.wd→call 27 [a.toV,i.toV] H=some (.ok (.bool (loose a i)) H)) :
  ∀ (l pre:List It) (m:Nat) (s:Txt) (x3:Option V),pre.length=m→(∀ i∈pre++l,i.wd)→(∀ i∈l,call 26 [i.toV,.str j] H=some (.ok (.str (wText j i)) H))→s.length + (wItems j pre.getLast? l).length≤100000 →
  ∃ y3,Fo call N b 3 wWholeB (upto l.length m) [some (.lst (toVs (pre++l))),some (.str j),some (.str s),x3] H
   (.next [some (.lst (toVs (pre++l))),some (.str j),some (.str (s++wItems j pre.getLast? l)),y3] H):=by
 intro l
 induction l with
 | nil=>intro pre m s x3 hm hw hc hl; exact ⟨x3,by rw [show wItems j pre.getLast? []=[] from rfl,List.append_nil,List.append_nil]; rfl⟩
 | cons i l ih =>
  intro pre m s x3 hm hw hc hl
  have e26:=hc i (List.mem_cons_self ..)
  rw [wI_cons,List.length_append,List.length_append] at hl
  have hgl:(pre++[i]).getLast?=some i:=List.getLast?_concat
  have g0:=get_mid (H:=H) pre i l
  obtain ⟨y3,g⟩:=ih (pre++[i]) (m + 1) (s++sepr j pre.getLast? i++wText j i) (some (.int (m:Nat))) (by rw [List.length_append,hm]; rfl) (by rw [← List.append_cons]; exact hw) (fun i hi=>hc i (List.mem_cons_of_mem _ hi)) (by rw [hgl]; simp only [List.length_append]; omega)
  rw [hgl,← List.append_cons] at g
  refine ⟨y3,?_⟩
  rw [wI_cons,show s++(sepr j pre.getLast? i++(wText j i++wItems j (some i) l))=s++sepr j pre.getLast? i++wText j i++wItems j (some i) l by simp only [List.append_assoc]]
  refine fo_step fun G W=>?_
  rw [hm] at g0
  rcases List.eq_nil_or_concat pre with h | ⟨q,a,h⟩
  ·rw [h] at g hl hm g0 ⊢
   rw [show s++sepr j ([]:List It).getLast? i=s from List.append_nil s] at g ⊢
   rw [h,← hm] at W
   rw [← hm] at g g0
   exact W rfl g0 e26 (b_add_str (by omega)) g
  ·rw [List.concat_eq_append] at h
   have hgq:pre.getLast?=some a:=h ▸ List.getLast?_concat
   obtain rfl:m=q.length + 1:=by rw [← hm,h,List.length_append]; rfl
   have ga:=get_pre (H:=H) l q a i
   rw [← h] at ga
   rw [hgq] at g hl ⊢
   have e27:=hj a i (hw a (List.mem_append_left _ (h ▸ List.mem_append_right _ (List.mem_singleton_self a)))) (hw i (List.mem_append_right _ (List.mem_cons_self ..)))
   have hs:some (V.int (((q.length + 1:Nat):Int) - 1))=some (.int (q.length:Nat)):=sInt (by omega)
   have b2:=b_add_str (H:=H) (x:=s++sepr j (some a) i) (y:=wText j i) (by rw [List.length_append]; omega)
   have b1:=b_add_str (H:=H) (x:=s) (y:=sepr j (some a) i) (by omega)
   have hse:sepr j (some a) i=if loose a i then j else [44]:=rfl
   rw [hse] at g b1 b2 ⊢
   cases hlo:loose a i with
   | true=>rw [hlo] at e27 g b1 b2; exact W gt0 hs ga g0 e27 b1 g0 e26 b2 g
   | false=>rw [hlo] at e27 g b1 b2; exact W gt0 hs ga g0 e27 b1 g0 e26 b2 g
theorem s_whole_of {n:Nat} {j:Txt} {l:List It} (hw:∀ i∈l,i.wd) (hl:(wItems j none l).length≤90000) (hn:l.length≤1000)
  (hc:∀ i∈l,callF theFn N (n + 1) 26 [i.toV,.str j] H=some (.ok (.str (wText j i)) H)):callF theFn N (n + 2) 28 [.lst (toVs l),.str j] H=some (.ok (.str (wWhole j l)) H):=by
 obtain ⟨y3,h⟩:=l_whole (N:=N) (b:=H.length) (fun a i ha hi=>s_loose (n:=n) ha hi) l [] 0 [40] none rfl hw hc (by show _ + (wItems j none l).length≤_; simp only [List.getLast?_nil,List.length_cons,List.length_nil]; omega)
 have h:Fo (callF theFn N (n + 1)) N H.length 3 wWholeB (upto l.length 0) [some (.lst (toVs l)),some (.str j),some (.str [40]),none] H (.next [some (.lst (toVs l)),some (.str j),some (.str ([40]++wItems j none l)),y3] H):=h
 have fe:=s_forR (call:=callF theFn N (n + 1)) (N:=N) (b:=H.length) (x:=3) (e:=.len (.loc 0)) (bd:=wWholeB) (l:=[some (.lst (toVs l)),some (.str j),some (.str [40]),none]) (e_lenL (x:=.loc 0) rfl) (by omega) h
 exact wC (N:=N) (n + 1) 28 F_law_whole [.lst (toVs l),.str j] H rfl rfl fe (b_add_str (y:=[41]) (by simp only [List.length_append,List.length_cons,List.length_nil]; omega)) rfl List.take_length
end
end Mine.P
end
section
namespace Mine.P
section
variable {N b:Nat} {H:Hp} {call:Nat→List V→Hp→Option (Res V)}
theorem small1 {k:Int} (h1:-100≤k) (h2:k≤100):smallP [some k]:=by
 intro x hx; simp at hx; subst hx; exact ⟨h1,h2⟩
theorem wT_xp {w j:Txt} {k:Int} (h:w=[88]∨w=[80]):wText j (.nums w [some k])=textOf k++w:=by rw [wt_nums,if_pos h]; exact congrArg (·++w) (List.append_nil _)
theorem wT_no {w j:Txt} {ps:List (Option Int)} (h:¬ (w=[88]∨w=[80])):wText j (.nums w ps)=w++tail3 JS ps:=if_neg h
noncomputable def allp:List (Option Int)→Prop
 | []=>True
 | none :: l=>allp l
 | some k :: l=>(-100≤k∧k≤100)∧allp l
theorem allp_small:∀ ps,allp ps→smallP ps
 | [],_=>fun _ hk=>nomatch hk
 | none :: l,h=>fun k hk=>allp_small l h k ((List.mem_cons.mp hk).resolve_left fun e=>nomatch e)
 | some a :: l,h=>fun k hk=>(List.mem_cons.mp hk).elim (fun e=>by cases e; exact h.1) fun hk=>allp_small l h.2 k hk
theorem okn {w:Nat} (h:w≤12):(-100:Int)≤(w:Int)∧(w:Int)≤100:=⟨Int.le_trans (by decide) (Int.natCast_nonneg w),Int.ofNat_le.mpr (Nat.le_trans h (by decide))⟩
theorem leaf_form {i:It} (h:Leaf i):∃ c ps,i=.nums [c] ps∧isVal c=true∧smallP ps∧((∃ a,ps=[a])∨(∃ a b,ps=[a,b])∨(∃ a b c,ps=[a,b,c])):=by
 cases h with
 | i0 w h1 h2=>exact ⟨_,_,rfl,rfl,allp_small [nI w,none] ⟨okn h2,trivial⟩,.inr (.inl ⟨_,_,rfl⟩)⟩
 | i1 w d h1 h2 h3=>exact ⟨_,_,rfl,rfl,allp_small [nI w,nI d] ⟨okn h2,okn (Nat.le_trans h3 h2),trivial⟩,.inr (.inl ⟨_,_,rfl⟩)⟩
 | l w h1 h2=>exact ⟨_,_,rfl,rfl,allp_small [nI w] ⟨okn h2,trivial⟩,.inl ⟨_,rfl⟩⟩
 | a0=>exact ⟨_,_,rfl,rfl,allp_small [none] trivial,.inl ⟨_,rfl⟩⟩
 | a1 w h1 h2=>exact ⟨_,_,rfl,rfl,allp_small [nI w] ⟨okn h2,trivial⟩,.inl ⟨_,rfl⟩⟩
 | fd c w d hc h1 h2 h3=>exact ⟨_,_,rfl,by rcases hc with rfl | rfl <;> rfl,allp_small [nI w,nI d] ⟨okn h2,okn (Nat.le_trans h3 (by decide)),trivial⟩,.inr (.inl ⟨_,_,rfl⟩)⟩
 | e0 c w d hc h1 h2 h3=>exact ⟨_,_,rfl,by rcases hc with rfl | rfl <;> rfl,allp_small [nI w,nI d,none] ⟨okn h2,okn (Nat.le_trans h3 (by decide)),trivial⟩,.inr (.inr ⟨_,_,_,rfl⟩)⟩
 | e1 c w d e hc h1 h2 h3 h4 h5=>exact ⟨_,_,rfl,by rcases hc with rfl | rfl <;> rfl,allp_small [nI w,nI d,nI e] ⟨okn h2,okn (Nat.le_trans h3 (by decide)),okn (Nat.le_trans h5 (by decide)),trivial⟩,.inr (.inr ⟨_,_,_,rfl⟩)⟩
theorem val_xp {c:Nat} (h:isVal c=true):¬ (([c]:Txt)=[88]∨([c]:Txt)=[80]):=fun q=>q.elim (fun e=>(val_ne h).2.1 (List.cons.inj e).1) fun e=>(val_ne h).1 (List.cons.inj e).1
theorem s_text_leaf {n:Nat} {j:Txt} {i:It} (h:Leaf i):callF theFn N (n + 1) 26 [i.toV,.str j] H=some (.ok (.str (wText j i)) H):=by
 have hl:=leaf_len (j:=j) h
 obtain ⟨c,ps,rfl,hc,hp,_⟩:=leaf_form h
 rw [wT_no (val_xp hc)] at hl ⊢
 exact s_text_nums (val_words hc) (val_xp hc) hp (Nat.le_trans hl (by decide))
theorem t_words:∀ w∈([[84],[84,76],[84,82]]:List Txt),w∈words∧¬ (w=[88]∨w=[80])∧w.length≤2:=by decide
theorem c_words:∀ w∈([[47],[58],[83],[83,80],[83,83],[66,78],[66,90]]:List Txt),w∈words∧¬ (w=[88]∨w=[80])∧w.length≤2:=by decide
theorem lenB_mono {a b:Nat} (h:a≤b):lenB a≤lenB b:=by
 induction h with
 | refl=>exact Nat.le_refl _
 | step _ ih=>exact Nat.le_trans ih (by show lenB _≤2 * lenB _ + 5; omega)
theorem k_eq {k:Int} {b:Bool} (h:decide (k=1)=b):cmpV .eq (.int k) (.int 1)=some b:=by rw [cmp_eqi,← h]; rfl
theorem okm {k m:Nat} (h:k≤m) (hm:m≤15):(-100:Int)≤(k:Int)∧(k:Int)≤100:=⟨Int.le_trans (by decide) (Int.natCast_nonneg k),Int.ofNat_le.mpr (Nat.le_trans h (Nat.le_trans hm (by decide)))⟩
theorem p_ok {k:Int} (h1:-6≤k) (h2:k≤7):((-100:Int)≤k∧k≤100)∧(textOf k).length≤2:=⟨⟨Int.le_trans (by decide) h1,Int.le_trans h2 (by decide)⟩,textOf_len h1 (Int.le_trans h2 (by decide))⟩
theorem whole_len {j:Txt} {l:List It} {m:Nat} (h:(wItems j none l).length≤m):(wWhole j l).length≤m + 2:=by
 show (wItems j none l++[41]).length + 1≤_
 rw [List.length_append]; exact Nat.succ_le_succ (Nat.succ_le_succ h)
theorem its_len {j:Txt} (hj:j.length≤1) {d m k:Nat} {l:List It} (h:∀ i∈l,Good d i) (hl:l.length≤m) (hd:lenB d≤k):(wItems j none l).length≤m * (k + 1) :=
 Nat.le_trans (items_len hj l none h) (Nat.mul_le_mul hl (Nat.succ_le_succ hd))
theorem s_text {j:Txt} (hj:j.length≤1) {d:Nat} {i:It} (h:Good d i):d≤10→∀ (n:Nat) (H:Hp),callF theFn N (n + 2 * d + 2) 26 [i.toV,.str j] H=some (.ok (.str (wText j i)) H):=by
 have xp:∀ {k:Int} {w:Txt} {n:Nat} {H:Hp},w=[88]∨w=[80]→((-100:Int)≤k∧k≤100)∧(textOf k).length≤2→callF theFn N (n + 1) 26 [(It.nums w [some k]).toV,.str j] H=some (.ok (.str (wText j (.nums w [some k]))) H):=fun hw h=>by
  rw [wT_xp hw]; exact s_text_xp hw h.1.1 h.1.2 (Nat.le_trans h.2 (by decide))
 induction h with
 | leaf d i h=>exact fun _ n H=>s_text_leaf h
 | text d s h1 h2 h3=>exact fun _ n H=>s_text_text h2
 | x d k h1 h2=>exact fun _ n H=>xp (.inl rfl) ⟨okm h2 (by decide),tn2 h2 (by decide)⟩
 | p d k h1 h2=>exact fun _ n H=>xp (.inr rfl) (p_ok h1 h2)
 | t d k w hw h1 h2 =>
  intro _ n H
  obtain ⟨g1,g2,g3⟩:=t_words w hw
  have ho:=okm h2 (by decide)
  rw [wT_no g2]
  exact s_text_nums g1 g2 (small1 ho.1 ho.2) (by rw [List.length_append]; exact Nat.le_trans (Nat.add_le_add g3 (tl_some (c:=0) (Nat.le_refl 0) (tn2 h2 (by decide)) (Nat.zero_le _))) (by decide))
 | c d w hw =>
  intro _ n H
  obtain ⟨g1,g2,g3⟩:=c_words w hw
  rw [wT_no g2]
  exact s_text_nums g1 g2 (fun k hk=>by cases hk) (by rw [List.length_append]; exact Nat.le_trans (Nat.add_le_add_right g3 _) (by decide))
 | rep d k i h1 h2 h =>
  intro _ n H
  have ho:=okm h2 (by decide)
  exact wC (N:=N) (n + 2 * d + 1) 26 F_law_text [(It.rep (k:Int) i).toV,.str j] H rfl rfl rfl rfl rfl rfl (toStr_ok ho.1 ho.2) rfl (s_text_leaf (n:=n + 2 * d) h) (b_add_str (Nat.le_trans (Nat.add_le_add (tn2 h2 (by decide)) (leaf_len h)) (by decide))) rfl List.take_length
 | grp d k l h1 h2 h3 h4 h5 ih =>
  intro hd n H
  have W:=wC (N:=N) (n + 2 * d + 3) 26 F_law_text [(It.grp (k:Int) l).toV,.str j] H rfl rfl
  have hW:=its_len hj h5 h4 (lenB_mono (b:=10) (Nat.le_of_succ_le hd))
  have e28:=s_whole_of (N:=N) (H:=H) (n:=n + 2 * d + 1) (j:=j) (fun i hi=>(h5 i hi).wd) (Nat.le_trans hW (by decide)) (Nat.le_trans h4 (by decide)) (fun i hi=>ih i hi (Nat.le_of_succ_le hd) n H)
  have ho:=okm h2 (by decide)
  have hb:(textOf (k:Int)).length + (wWhole j l).length≤100000:=Nat.le_trans (Nat.add_le_add (tn2 h2 (by decide)) (whole_len hW)) (by decide)
  rw [wt_grp]
  cases q:decide ((k:Int)=1) with
  | true=>rw [if_pos (of_decide_eq_true q)]; exact W rfl rfl rfl (k_eq q) rfl e28 (b_add_str (x:=[]) (Nat.le_trans (Nat.add_le_add_right (Nat.zero_le _) _) hb)) rfl List.take_length
  | false=>rw [if_neg (of_decide_eq_false q)]; exact W rfl rfl rfl (k_eq q) rfl (toStr_ok ho.1 ho.2) rfl e28 (b_add_str hb) rfl List.take_length
theorem s_whole {n d:Nat} {j:Txt} {l:List It} (hj:j.length≤1) (hd:d≤10) (hl:l.length≤5) (h:∀ i∈l,Good d i):callF theFn N (n + 2 * d + 3) 28 [.lst (toVs l),.str j] H=some (.ok (.str (wWhole j l)) H) :=
 s_whole_of (fun i hi=>(h i hi).wd) (Nat.le_trans (its_len hj h hl (lenB_mono (b:=10) hd)) (by decide)) (Nat.le_trans hl (by decide)) (fun i hi=>s_text hj (h i hi) hd _ _)
noncomputable def accT:Txt→List Txt→List (Option Int)→Txt
 | s,j :: js,some k :: ps=>accT (s++j++textOf k) js ps
 | s,_ :: js,none :: ps=>accT s js ps
 | s,_,_=>s
theorem accT_eq:∀ (js:List Txt) (ps:List (Option Int)) (s:Txt),accT s js ps=s++tail3 js ps
 | [],[],s=>(List.append_nil s).symm
 | [],_ :: _,s=>(List.append_nil s).symm
 | _ :: _,[],s=>(List.append_nil s).symm
 | j :: js,some k :: ps,s=>by show accT (s++j++textOf k) js ps=s++(j++textOf k++tail3 js ps); rw [accT_eq js ps,List.append_assoc,List.append_assoc,List.append_assoc]
 | j :: js,none :: ps,s=>accT_eq js ps s
theorem nnI {k:Int}:isNo (.int k)=!true:=rfl
theorem fits3 {k:Int} (h:-100≤k∧k≤100):toStrV (.int k)=some (textOf k):=toStr_ok h.1 h.2
theorem put3 {s j:Txt} {k:Int} (h:(s++j++textOf k).length≤1000):binV H .add (.str s) (.str j)=some (.str (s++j))∧binV H .add (.str (s++j)) (.str (textOf k))=some (.str (s++j++textOf k)):=by
 rw [List.length_append] at h
 exact ⟨b_add_str (by rw [List.length_append] at h; omega),b_add_str (by omega)⟩
theorem acc_ge:∀ (js:List Txt) (ps:List (Option Int)) (s:Txt),s.length≤(accT s js ps).length:=fun js ps s=>by rw [accT_eq,List.length_append]; exact Nat.le_add_right _ _
theorem s_write_tail {n:Nat} {w:Txt} {ps:List (Option Int)} (hp:smallP ps) (hf:(∃ a,ps=[a])∨(∃ a b,ps=[a,b])∨(∃ a b c,ps=[a,b,c])) (hl:(tail3 JS ps).length≤1000) :
  callF theFn N (n + 1) 20 [(It.nums w ps).toV] H=some (.ok (.str (tail3 JS ps)) H):=by
 have W:=wC (N:=N) n 20 F_write_tail [(It.nums w ps).toV] H rfl rfl
 rw [show tail3 JS ps=accT [] JS ps from (accT_eq JS ps []).symm] at hl ⊢
 generalize callF theFn N (n + 1) 20 [(It.nums w ps).toV] H=X at W ⊢
 rcases hf with ⟨a,rfl⟩ | ⟨a,b,rfl⟩ | ⟨a,b,c,rfl⟩
 ·cases a with
  | none =>
   exact W rfl nnN rfl rfl rfl rfl rfl List.take_length
  | some a =>
   exact W rfl nnI rfl (fits3 (hp a (.head _))) rfl rfl rfl rfl rfl List.take_length
 ·cases a with
  | none =>
   cases b with
   | none =>
    exact W rfl nnN rfl rfl rfl nnN rfl rfl rfl List.take_length
   | some b =>
    have hb:=put3 (H:=H) (j:=[46]) (Nat.le_trans (acc_ge [[69]] [] _) hl)
    exact W rfl nnN rfl rfl rfl nnI hb.1 rfl (fits3 (hp b (.tail _ (.head _)))) hb.2 rfl rfl rfl List.take_length
  | some a =>
   cases b with
   | none =>
    exact W rfl nnI rfl (fits3 (hp a (.head _))) rfl rfl rfl nnN rfl rfl rfl List.take_length
   | some b =>
    have hb:=put3 (H:=H) (j:=[46]) (Nat.le_trans (acc_ge [[69]] [] _) hl)
    exact W rfl nnI rfl (fits3 (hp a (.head _))) rfl rfl rfl nnI hb.1 rfl (fits3 (hp b (.tail _ (.head _)))) hb.2 rfl rfl rfl List.take_length
 ·cases a with
  | none =>
   cases b with
   | none =>
    cases c with
    | none =>
     exact W rfl nnN rfl rfl rfl nnN rfl rfl rfl nnN rfl List.take_length
    | some c =>
     have hc:=put3 (H:=H) (j:=[69]) (Nat.le_trans (acc_ge [] [] _) hl)
     exact W rfl nnN rfl rfl rfl nnN rfl rfl rfl nnI hc.1 rfl (fits3 (hp c (.tail _ (.tail _ (.head _))))) hc.2 rfl List.take_length
   | some b =>
    have hb:=put3 (H:=H) (j:=[46]) (Nat.le_trans (acc_ge [[69]] [c] _) hl)
    cases c with
    | none =>
     exact W rfl nnN rfl rfl rfl nnI hb.1 rfl (fits3 (hp b (.tail _ (.head _)))) hb.2 rfl rfl rfl nnN rfl List.take_length
    | some c =>
     have hc:=put3 (H:=H) (j:=[69]) (Nat.le_trans (acc_ge [] [] _) hl)
     exact W rfl nnN rfl rfl rfl nnI hb.1 rfl (fits3 (hp b (.tail _ (.head _)))) hb.2 rfl rfl rfl nnI hc.1 rfl (fits3 (hp c (.tail _ (.tail _ (.head _))))) hc.2 rfl List.take_length
  | some a =>
   cases b with
   | none =>
    cases c with
    | none =>
     exact W rfl nnI rfl (fits3 (hp a (.head _))) rfl rfl rfl nnN rfl rfl rfl nnN rfl List.take_length
    | some c =>
     have hc:=put3 (H:=H) (j:=[69]) (Nat.le_trans (acc_ge [] [] _) hl)
     exact W rfl nnI rfl (fits3 (hp a (.head _))) rfl rfl rfl nnN rfl rfl rfl nnI hc.1 rfl (fits3 (hp c (.tail _ (.tail _ (.head _))))) hc.2 rfl List.take_length
   | some b =>
    have hb:=put3 (H:=H) (j:=[46]) (Nat.le_trans (acc_ge [[69]] [c] _) hl)
    cases c with
    | none =>
     exact W rfl nnI rfl (fits3 (hp a (.head _))) rfl rfl rfl nnI hb.1 rfl (fits3 (hp b (.tail _ (.head _)))) hb.2 rfl rfl rfl nnN rfl List.take_length
    | some c =>
     have hc:=put3 (H:=H) (j:=[69]) (Nat.le_trans (acc_ge [] [] _) hl)
     exact W rfl nnI rfl (fits3 (hp a (.head _))) rfl rfl rfl nnI hb.1 rfl (fits3 (hp b (.tail _ (.head _)))) hb.2 rfl rfl rfl nnI hc.1 rfl (fits3 (hp c (.tail _ (.tail _ (.head _))))) hc.2 rfl List.take_length
end
end Mine.P
end
section
namespace Mine.P
theorem sepr_comma (p i:It):sepr [44] (some p) i=[44]:=ite_self _
theorem wItems_join:∀ (l:List It) (i:It),joinT [44] ((i :: l).map (wText [44]))=wText [44] i++wItems [44] (some i) l
 | [],i=>(List.append_nil _).symm
 | k :: l,i=>by
  rw [wI_cons,sepr_comma,← wItems_join l k,← List.append_assoc]; rfl
theorem wItems_join0:∀ (l:List It),joinT [44] (l.map (wText [44]))=wItems [44] none l
 | []=>rfl
 | i :: l=>wItems_join l i
section
variable {N b:Nat} {H:Hp} {call:Nat→List V→Hp→Option (Res V)}
noncomputable def wFmtB:Ss:=.cons (.append (.loc 1) (.call 21 (.cons (.loc 2) .nil))) .nil
theorem l_fmt {x0:Option V}:∀ (l:List It) (acc:List Txt) (x2:Option V),(∀ i∈l,∀ H,call 21 [i.toV] H=some (.ok (.str (wText [44] i)) H))→acc.length + l.length≤1000 →
  ∃ y2,Fo call N H.length 2 wFmtB (toVs l) [x0,some (.ref H.length),x2] (H++[some (acc.map V.str)]) (.next [x0,some (.ref H.length),y2] (H++[some ((acc++l.map (wText [44])).map V.str)])):=by
 intro l
 induction l with
 | nil=>intro acc x2 hc hl; exact ⟨x2,by rw [List.map_nil,List.append_nil]; rfl⟩
 | cons i l ih =>
  intro acc x2 hc hl
  obtain ⟨y2,g⟩:=ih (acc++[wText [44] i]) (some i.toV) (fun i hi=>hc i (List.mem_cons_of_mem _ hi)) (by simp only [List.length_append,List.length_cons,List.length_nil] at hl ⊢; omega)
  rw [← List.append_cons,show (acc++[wText [44] i]).map V.str=acc.map V.str++[.str (wText [44] i)] by rw [List.map_append]; rfl,← stA H (some (acc.map V.str))] at g
  exact ⟨y2,fo_step fun G W=>W (hc i (List.mem_cons_self ..) _) (hgA H (acc.map V.str)) (may_put (Nat.le_refl _) (by rw [List.length_map]; have:capL=1048576:=rfl; simp only [List.length_cons] at hl; omega)) g⟩
theorem s_format_of {n:Nat} {l:List It} (hc:∀ i∈l,∀ H,callF theFn N n 21 [i.toV] H=some (.ok (.str (wText [44] i)) H)) (hn:l.length≤100) (hw:∀ i∈l,(wText [44] i).length≤10000) (hl:(wItems [44] none l).length≤90000) :
  callF theFn N (n + 1) 22 [.lst (toVs l)] H=some (.ok (.str (wWhole [44] l)) H):=by
 obtain ⟨y2,h⟩:=l_fmt (N:=N) (H:=H) (x0:=some (.lst (toVs l))) l [] none hc (by simp only [List.length_nil]; omega)
 have ej:=e_join (call:=callF theFn N n) (b:=H.length) (l:=[some (.lst (toVs l)),some (.ref H.length),y2]) (x:=.str [44]) (y:=.loc 1) (w:=.ref H.length) (H:=H++[some ((l.map (wText [44])).map V.str)]) rfl rfl (ws:=l.map (wText [44])) (by show (hget _ H.length).bind textsOf=_; rw [hgA]; exact textsOf_str _)
  (by decide) (by rw [List.length_map]; omega) (fun w hw'=>by obtain ⟨i,hi,rfl⟩:=List.mem_map.mp hw'; exact hw i hi) (by rw [wItems_join0]; exact cap_txt (by omega))
 rw [wItems_join0] at ej
 exact wC (N:=N) n 22 F_write_format [.lst (toVs l)] H rfl rfl (r:=.next [some (.lst (toVs l)),some (.ref H.length),y2] (H++[some ((l.map (wText [44])).map V.str)])) h ej (b_add_str (x:=[40]) (by simp only [List.length_cons,List.length_nil]; omega)) (b_add_str (y:=[41]) (by simp only [List.length_append,List.length_cons,List.length_nil]; omega)) rfl (tkA _ _)
theorem c_ttt (w:Txt):([[84],[84,76],[84,82]]:List Txt).contains w=decide (w∈([[84],[84,76],[84,82]]:List Txt)):=by rw [Bool.eq_iff_iff]; simp
theorem s_wi_xp {n:Nat} {w:Txt} {k:Int} (hw:w=[88]∨w=[80]) (h1:-100≤k) (h2:k≤100) (hl:(textOf k).length≤100) :
  callF theFn N (n + 1) 21 [(It.nums w [some k]).toV] H=some (.ok (.str (textOf k++w)) H):=by
 have W:=fun w=>wC (N:=N) n 21 F_write_item [(It.nums w [some k]).toV] H rfl rfl
 rcases hw with h | h <;> rw [h]
 ·exact W [88] rfl rfl rfl rfl rfl rfl (toStr_ok h1 h2) (b_add_str (by simp only [List.length_cons,List.length_nil]; omega)) rfl List.take_length
 ·exact W [80] rfl rfl rfl rfl rfl rfl rfl (toStr_ok h1 h2) (b_add_str (by simp only [List.length_cons,List.length_nil]; omega)) rfl List.take_length
theorem ttt_val {c:Nat} (h:isVal c=true):([[84],[84,76],[84,82]]:List Txt).contains [c]=false:=by
 rw [c_ttt]; exact decide_eq_false fun q=>by
  rcases List.mem_cons.mp q with e | q
  ·rw [(List.cons.inj e).1] at h; cases h
  ·rcases List.mem_cons.mp q with e | q
   ·cases e
   ·cases List.mem_singleton.mp q
theorem len_nums (c:Nat) (ps:List (Option Int)):lenV H (It.nums [c] ps).toV=some (((It.nums [c] ps).toV :: []).length + ps.length):=congrArg some ((List.length_cons ..).trans ((congrArg (· + 1) (List.length_map ..)).trans (Nat.add_comm ..)))
theorem s_wi_leaf {n:Nat} {i:It} (h:Leaf i):callF theFn N (n + 2) 21 [i.toV] H=some (.ok (.str (wText [44] i)) H):=by
 have hl:=leaf_len (j:=[44]) h
 obtain ⟨c,ps,rfl,hc,hp,hf⟩:=leaf_form h
 have hw:=val_words hc
 rw [wT_no (val_xp hc)] at hl ⊢
 rw [List.length_append] at hl
 have k1:cmpV .eq (.int (((It.nums [c] ps).toV :: []).length + ps.length:Nat)) (.int 1)=some false:=(cmp_eqi ..).trans (congrArg some (by rcases hf with ⟨a,rfl⟩ | ⟨a,b,rfl⟩ | ⟨a,b,c,rfl⟩ <;> rfl))
 exact wC (N:=N) (n + 1) 21 F_write_item [(It.nums [c] ps).toV] H rfl rfl rfl (wNe (w_grp _ hw)) (wNe (words_rep _ hw)) (wNe (w_txt _ hw)) (wNe (beq_eq_false_iff_ne.mpr fun e=>val_xp hc (.inl e))) (wNe (beq_eq_false_iff_ne.mpr fun e=>val_xp hc (.inr e))) (ttt_val hc) (len_nums c ps) k1 (s_write_tail (n:=n) (w:=[c]) hp hf (by omega)) (b_add_str (by omega)) rfl List.take_length
theorem e_repl {l:Loc} {x:E} {s:Txt} (hx:evE call b l x H=some (.ok (.str s) H)) (hl:s.length≤3):evE call b l (.replace x 39 [39,39]) H=some (.ok (.str (dbl s)) H):=bnd_ok hx (by
 have hd:=dbl_len s
 rw [← join_dbl] at hd ⊢
 exact if_pos ⟨Nat.le_trans hl (by decide),by decide,(fun h=>nomatch h),cap_txt (by omega)⟩)
theorem s_write {d:Nat} {i:It} (h:Good d i):d≤10→∀ (n:Nat) (H:Hp),callF theFn N (n + 2 * d + 3) 21 [i.toV] H=some (.ok (.str (wText [44] i)) H):=by
 have hj:([44]:Txt).length≤1:=by decide
 have xp:∀ {k:Int} {w:Txt} {n:Nat} {H:Hp},w=[88]∨w=[80]→((-100:Int)≤k∧k≤100)∧(textOf k).length≤2→callF theFn N (n + 1) 21 [(It.nums w [some k]).toV] H=some (.ok (.str (wText [44] (.nums w [some k]))) H):=fun hw h=>by
  rw [wT_xp hw]; exact s_wi_xp hw h.1.1 h.1.2 (Nat.le_trans h.2 (by decide))
 induction h with
 | leaf d i h=>exact fun _ n H=>s_wi_leaf h
 | text d s h1 h2 h3 =>
  intro _ n H
  have hd:(dbl s).length≤6:=Nat.le_trans (dbl_len s) (Nat.mul_le_mul_left 2 h2)
  exact wC (N:=N) (n + 2 * d + 2) 21 F_write_item [(It.text s).toV] H rfl rfl rfl rfl rfl rfl (e_repl (x:=.idx (.loc 0) (.int 1)) rfl h2) (b_add_str (x:=[39]) (Nat.le_trans (Nat.add_le_add_left hd 1) (by decide))) (b_add_str (x:=39 :: dbl s) (y:=[39]) (Nat.le_trans (Nat.add_le_add_right (Nat.succ_le_succ hd) 1) (by decide))) rfl List.take_length
 | x d k h1 h2=>exact fun _ n H=>xp (.inl rfl) ⟨okm h2 (by decide),tn2 h2 (by decide)⟩
 | p d k h1 h2=>exact fun _ n H=>xp (.inr rfl) (p_ok h1 h2)
 | t d k w hw h1 h2 =>
  intro _ n H
  obtain ⟨g1,g2,g3⟩:=t_words w hw
  have ho:=okm h2 (by decide)
  rw [wT_no g2,show tail3 JS [nI k]=textOf (k:Int)++[] from rfl,List.append_nil]
  exact wC (N:=N) (n + 2 * d + 2) 21 F_write_item [(It.nums w [nI k]).toV] H rfl rfl rfl (wNe (w_grp _ g1)) (wNe (words_rep _ g1)) (wNe (w_txt _ g1)) (wNe (beq_eq_false_iff_ne.mpr fun e=>g2 (.inl e))) (wNe (beq_eq_false_iff_ne.mpr fun e=>g2 (.inr e))) ((c_ttt w).trans (decide_eq_true hw)) rfl (toStr_ok ho.1 ho.2) (b_add_str (Nat.le_trans (Nat.add_le_add g3 (tn2 h2 (by decide))) (by decide))) rfl List.take_length
 | c d w hw =>
  intro _ n H
  obtain ⟨g1,g2,g3⟩:=c_words w hw
  have g4:∀ w∈([[47],[58],[83],[83,80],[83,83],[66,78],[66,90]]:List Txt),w∉([[84],[84,76],[84,82]]:List Txt):=by decide
  rw [wT_no g2,show w++tail3 JS []=w from List.append_nil w]
  exact wC (N:=N) (n + 2 * d + 2) 21 F_write_item [(It.nums w []).toV] H rfl rfl rfl (wNe (w_grp _ g1)) (wNe (words_rep _ g1)) (wNe (w_txt _ g1)) (wNe (beq_eq_false_iff_ne.mpr fun e=>g2 (.inl e))) (wNe (beq_eq_false_iff_ne.mpr fun e=>g2 (.inr e))) ((c_ttt w).trans (decide_eq_false (g4 w hw))) rfl rfl rfl List.take_length
 | rep d k i h1 h2 h =>
  intro _ n H
  have ho:=okm h2 (by decide)
  exact wC (N:=N) (n + 2 * d + 2) 21 F_write_item [(It.rep (k:Int) i).toV] H rfl rfl rfl rfl rfl rfl (toStr_ok ho.1 ho.2) rfl (s_wi_leaf (n:=n + 2 * d) h) (b_add_str (Nat.le_trans (Nat.add_le_add (tn2 h2 (by decide)) (leaf_len h)) (by decide))) rfl List.take_length
 | grp d k l h1 h2 h3 h4 h5 ih =>
  intro hd n H
  have W:=wC (N:=N) (n + 2 * d + 4) 21 F_write_item [(It.grp (k:Int) l).toV] H rfl rfl
  have hB:=lenB_mono (b:=9) (Nat.le_of_succ_le_succ hd)
  have hW:=its_len hj h5 h4 hB
  have e22:=s_format_of (N:=N) (H:=H) (n:=n + 2 * d + 3) (l:=l) (fun i hi H=>ih i hi (Nat.le_of_succ_le hd) n H) (Nat.le_trans h4 (by decide)) (fun i hi=>Nat.le_trans (good_len hj (h5 i hi)) (Nat.le_trans hB (by decide))) (Nat.le_trans hW (by decide))
  have ho:=okm h2 (by decide)
  have hb:(textOf (k:Int)).length + (wWhole [44] l).length≤100000:=Nat.le_trans (Nat.add_le_add (tn2 h2 (by decide)) (whole_len hW)) (by decide)
  rw [wt_grp]
  cases q:decide (1 < k) with
  | true=>rw [if_neg (show ¬ (k:Int)=1 from fun z=>Nat.ne_of_gt (of_decide_eq_true q) (Int.ofNat.inj z))]; exact W rfl rfl rfl (cgt (b:=1) q) rfl (toStr_ok ho.1 ho.2) rfl e22 (b_add_str hb) rfl List.take_length
  | false=>rw [if_pos (show (k:Int)=1 from congrArg (fun n:Nat=>(n:Int)) (Nat.le_antisymm (Nat.le_of_not_lt (of_decide_eq_false q)) h1))]; exact W rfl rfl rfl (cgt (b:=1) q) rfl e22 (b_add_str (x:=[]) (Nat.le_trans (Nat.add_le_add_right (Nat.zero_le _) _) hb)) rfl List.take_length
theorem s_write_format {n d:Nat} {l:List It} (hd:d≤9) (hl:l.length≤5) (h:∀ i∈l,Good d i):callF theFn N (n + 2 * d + 4) 22 [.lst (toVs l)] H=some (.ok (.str (wWhole [44] l)) H):=by
 have hj:([44]:Txt).length≤1:=by decide
 have hB:=lenB_mono (b:=9) hd
 exact s_format_of (fun i hi H=>s_write (h i hi) (Nat.le_succ_of_le hd) _ _) (Nat.le_trans hl (by decide)) (fun i hi=>Nat.le_trans (good_len hj (h i hi)) (Nat.le_trans hB (by decide))) (Nat.le_trans (its_len hj h hl hB) (by decide))
end
end Mine.P
end
section
namespace Mine.P
noncomputable def pen (L:List Int) (a:Nat) (T:Hp):Hp:=some [.lst (L.map V.int),.int (a:Nat)] :: T
noncomputable def rawv (L:List Int) (a:Nat):Int:=if h:a < L.length then L[a] else 7 * (a:Int) * a + 3
noncomputable def drawv (L:List Int) (a m:Nat):Nat:=((rawv L a).fmod (m:Int)).toNat
theorem drawv_eq (L:List Int) (a:Nat) {m:Nat} (hm:0 < m):(rawv L a).fmod (m:Int)=(drawv L a m:Nat):=by
 exact (Int.toNat_of_nonneg (Int.fmod_nonneg_of_pos _ (Int.ofNat_lt.mpr hm))).symm
theorem drawv_lt (L:List Int) (a:Nat) {m:Nat} (hm:0 < m):drawv L a m < m:=by
 have h2:=Int.fmod_lt_of_pos (rawv L a) (Int.ofNat_lt.mpr hm)
 rw [drawv_eq L a hm] at h2
 exact Int.ofNat_lt.mp h2
theorem pen_len (L:List Int) (a:Nat) (T:Hp):(pen L a T).length=T.length + 1:=rfl
theorem pen_take (L:List Int) (a a':Nat) (T X:Hp):(pen L a' (T++X)).take (pen L a T).length=pen L a' T:=by
 simp [pen]
section
variable {N:Nat} {L:List Int} {a:Nat} {T:Hp}
theorem run_ret2 {call:Nat→List V→Hp→Option (Res V)} {fn:Fn} {args:List V} {v:V} {H H' H'':Hp} (h0:args.length=fn.params) (h:evSs call N H.length fn.body (args.map some++List.replicate (fn.vars.length - fn.params) none) H=some (.ret v H')) (hp:v.pure=true) (ht:H'.take H.length=H'') :
  runF call N fn args H=some (.ok v H''):=by
 refine (if_pos h0).trans ?_
 rw [h]
 exact (if_pos hp).trans (congrArg (fun H=>some (Res.ok v H)) ht)
theorem i_draw {L:List Int} {H:Hp} {a:Nat} (h:a < L.length):idxV H (.lst (L.map V.int)) (.int (a:Nat))=some (.int (rawv L a)):=by
 refine (if_pos (Int.natCast_nonneg a):getAt (L.map V.int) (a:Int)=_).trans ?_
 rw [Int.toNat_natCast,List.getElem?_map,List.getElem?_eq_getElem h,show rawv L a=L[a] from dif_pos h]; rfl
theorem b_mod {H:Hp} {x:Int} {m:Nat} (hm:0 < m):binV H .mod (.int x) (.int (m:Nat))=some (.int (x.fmod (m:Int))):=by
 have:¬ ((m:Nat):Int)=0:=by omega
 exact if_neg this
theorem b_mul {H:Hp} {x y:Int} (hx:x.natAbs < 4611686018427387904) (hy:y.natAbs < 4611686018427387904):binV H .mul (.int x) (.int y)=some (.int (x * y)):=by
 have h1:fitsI x=true:=by simp only [fitsI]; exact decide_eq_true hx
 have h2:fitsI y=true:=by simp only [fitsI]; exact decide_eq_true hy
 exact if_pos (by rw [h1,h2]; rfl)
noncomputable def outD (x:Option (Res V)) (n:Nat):RS→Prop
 | .ret v H'=>∀ ⦃H2⦄,v.pure=true→H'.take n=H2→x=some (.ok v H2)
 | _=>True
theorem wD (n f:Nat) (fn:Fn) (args:List V) (H:Hp) (h:theFn f=some fn) (h0:args.length=fn.params):wSs (callF theFn N n) N H.length fn.body (args.map some++List.replicate (fn.vars.length - fn.params) none) H (outD (callF theFn N (n + 1) f args H) H.length) :=
 wSs_ok _ _ _ _ fun r hr=>by
  rw [callF_succ N n f args H h]
  cases r <;> first | trivial | exact fun _ hp ht=>run_ret2 h0 hr hp ht
theorem pen_same (L:List Int) (a a':Nat) (T:Hp):(pen L a' T).take (pen L a T).length=pen L a' T:=List.take_length (l:=pen L a' T)
theorem s_draw {n m:Nat} (hm:0 < m) (ha:a≤100000):callF theFn N (n + 1) 23 [.ref 0,.int (m:Nat)] (pen L a T)=some (.ok (.int (drawv L a m:Nat)) (pen L (a + 1) T)):=by
 have W:=wD (N:=N) n 23 F_law_draw [.ref 0,.int (m:Nat)] (pen L a T) rfl rfl
 have tk:=pen_same L a (a + 1) T
 have bm:∀ {z:Int},rawv L a=z→binV (pen L (a + 1) T) .mod (.int z) (.int (m:Nat))=some (.int (drawv L a m:Nat)):=fun e=>by rw [← e,b_mod hm,drawv_eq L a hm]
 have kl:=fun {r} (h:decide (a < L.length)=r)=>show cmpV .lt (.int (a:Nat)) (.int (L.length:Nat))=some r by rw [cmp_lt,h]
 have ln:lenV (pen L (a + 1) T) (.lst (L.map V.int))=some L.length:=congrArg some (List.length_map ..)
 have set:evS (callF theFn N n) N (pen L a T).length (.setIdx (.loc 0) (.int 1) (.bin .add (.loc 2) (.int 1))) [some (.ref 0),some (.int (m:Nat)),some (.int (a:Nat))] (pen L a T)=some (.next [some (.ref 0),some (.int (m:Nat)),some (.int (a:Nat))] (pen L (a + 1) T)):=rfl
 by_cases q:a < L.length
 ·exact W rfl set rfl ln (kl (decide_eq_true q)) rfl (i_draw q) (bm rfl) rfl tk
 ·have m1:=b_mul (H:=pen L (a + 1) T) (x:=7) (y:=(a:Nat)) (by omega) (by omega)
  have m2:=b_mul (H:=pen L (a + 1) T) (x:=7 * (a:Nat)) (y:=(a:Nat)) (by omega) (by omega)
  exact W rfl set rfl ln (kl (decide_eq_false q)) m1 m2 rfl (bm (dif_neg q)) rfl tk
noncomputable def letters:Txt:=[73,70,69,68,71,76,65]
theorem i_str {H:Hp} {s:Txt} {k c:Nat} (h:s[k]?=some c):idxV H (.str s) (.int (k:Nat))=some (.str [c]):=by
 refine (if_pos (Int.natCast_nonneg k):(if (0:Int)≤(k:Nat) then (s[((k:Nat):Int).toNat]?).map fun c=>V.str [c] else .none)=_).trans ?_
 rw [Int.toNat_natCast,h]; rfl
theorem get_in {α:Type} {s:List α} {k:Nat} (h:k < s.length):∃ c,s[k]?=some c∧c∈s:=⟨s[k],List.getElem?_eq_getElem h,List.getElem_mem h⟩
theorem e_pick {call:Nat→List V→Hp→Option (Res V)} {b:Nat} {l:Loc} {s:Txt} {m c:Nat} {x:E} (hc:s[drawv L a m]?=some c) (hx:evE call b l x (pen L a T)=some (.ok (.int (drawv L a m:Nat)) (pen L (a + 1) T))) :
  evE call b l (.idx (.str s) x) (pen L a T)=some (.ok (.str [c]) (pen L (a + 1) T)):=bnd_ok e_str (bnd_ok hx (tell_ok (i_str hc)))
theorem e_draw {call:Nat→List V→Hp→Option (Res V)} {b:Nat} {l:Loc} {m:Nat} {v:V} {H':Hp} (hl:l[0]?=some (some (.ref 0))) (h:call 23 [.ref 0,.int (m:Nat)] (pen L a T)=some (.ok v H')) :
  evE call b l (.call 23 (.cons (.loc 0) (.cons (.int (m:Nat)) .nil))) (pen L a T)=some (.ok v H'):=bnd_ok (bnd_ok (e_loc hl) (bnd_ok (bnd_ok e_int rfl) rfl)) h
theorem cmp_eqd (a b:Nat) {r:Bool} (h:decide (a=b)=r):cmpV .eq (.int (a:Nat)) (.int (b:Nat))=some r:=(cmp_eqi ..).trans (congrArg some (by rw [← h,Bool.eq_iff_iff]; simp only [beq_iff_eq,decide_eq_true_eq]; omega))
theorem cmp_ltd {a b:Nat} {r:Bool} (h:decide (a < b)=r):cmpV .lt (.int (a:Nat)) (.int (b:Nat))=some r:=by rw [cmp_lt,h]
theorem i1n (a:Nat):some (V.int (1 + (a:Nat)))=some (.int ((1 + a:Nat):Int)):=rfl
theorem b_modn {H:Hp} {x m:Nat} (hm:0 < m):binV H .mod (.int (x:Nat)) (.int (m:Nat))=some (.int ((x % m:Nat):Int)):=by
 rw [b_mod hm,Int.fmod_eq_emod_of_nonneg _ (Int.natCast_nonneg _)]; rfl
theorem fdT {c:Nat} (h:c=70∨c=68):cmpV .isIn (.str [c]) (.str [70,68])=some true:=by rcases h with rfl | rfl <;> rfl
theorem let_all:∀ c∈letters,c=73∨c=76∨c=65∨(c=70∨c=68)∨(c=69∨c=71):=by decide
theorem fdF {c:Nat} (h:¬ (c=70∨c=68)):cmpV .isIn (.str [c]) (.str [70,68])=some false:=by
 exact ci (or0 h)
theorem s_value {n:Nat} (ha:a≤90000):∃ i,Leaf i∧callF theFn N (n + 2) 24 [.ref 0] (pen L a T)=some (.ok i.toV (pen L (a + 4) T)):=by
 have d1:=s_draw (N:=N) (L:=L) (T:=T) (n:=n) (m:=7) (a:=a) (by decide) (by omega)
 have d2:=s_draw (N:=N) (L:=L) (T:=T) (n:=n) (m:=12) (a:=a + 1) (by decide) (by omega)
 have d3:=s_draw (N:=N) (L:=L) (T:=T) (n:=n) (m:=9) (a:=a + 1 + 1) (by decide) (by omega)
 have d4:=s_draw (N:=N) (L:=L) (T:=T) (n:=n) (m:=3) (a:=a + 1 + 1 + 1) (by decide) (by omega)
 have l2:=drawv_lt L (a + 1) (m:=12) (by decide)
 have l3:=drawv_lt L (a + 1 + 1) (m:=9) (by decide)
 have l4:=drawv_lt L (a + 1 + 1 + 1) (m:=3) (by decide)
 have W:=wD (N:=N) (n + 1) 24 F_law_value [.ref 0] (pen L a T) rfl rfl
 obtain ⟨c,hc,hcm⟩:=get_in (s:=letters) (k:=drawv L a 7) (drawv_lt L a (m:=7) (by decide))
 have tk:=pen_same L a (a + 4) T
 have hi:=i_str (H:=pen L (a + 1) T) hc
 generalize drawv L a 7=c' at *
 generalize drawv L (a + 1) 12=w at *
 generalize drawv L (a + 1 + 1) 9=d at *
 generalize drawv L (a + 1 + 1 + 1) 3=m at *
 have km:∀ {b},decide (m=0)=b→cmpV .eq (.int (m:Nat)) (.int 0)=some b:=fun h=>cmp_eqd m 0 h
 have w1:1≤1 + w:=Nat.le_add_right ..
 have w2:1 + w≤12:=by omega
 by_cases q1:c=73
 ·subst q1
  cases q:decide (m=0) with
  | true=>exact ⟨.nums [73] [nI (1 + w),none],.i0 _ w1 w2,W d1 hi d2 (i1n w) d3 d4 rfl (km q) rfl tk⟩
  | false =>
   have hle:d % (1 + w + 1)≤1 + w:=Nat.le_of_lt_succ (Nat.mod_lt d (Nat.succ_pos _))
   exact ⟨.nums [73] [nI (1 + w),nI (d % (1 + w + 1))],.i1 _ _ w1 w2 hle,W d1 hi d2 (i1n w) d3 d4 rfl (km q) rfl (b_modn (m:=1 + w + 1) (Nat.succ_pos _)) rfl tk⟩
 have k1:=kne q1
 by_cases q2:c=76
 ·subst q2
  exact ⟨.nums [76] [nI (1 + w)],.l _ w1 w2,W d1 hi d2 (i1n w) d3 d4 k1 rfl rfl tk⟩
 have k2:=kne q2
 by_cases q3:c=65
 ·subst q3
  cases q:decide (m=0) with
  | true=>exact ⟨.nums [65] [none],.a0,W d1 hi d2 (i1n w) d3 d4 k1 k2 rfl (km q) rfl tk⟩
  | false=>exact ⟨.nums [65] [nI (1 + w)],.a1 _ w1 w2,W d1 hi d2 (i1n w) d3 d4 k1 k2 rfl (km q) rfl tk⟩
 have k3:=kne q3
 by_cases q4:c=70∨c=68
 ·exact ⟨.nums [c] [nI (1 + w),nI d],.fd c _ d q4 w1 w2 (by omega),W d1 hi d2 (i1n w) d3 d4 k1 k2 k3 (fdT q4) rfl tk⟩
 have q5:=((((let_all c hcm).resolve_left q1).resolve_left q2).resolve_left q3).resolve_left q4
 cases q:decide (m=0) with
 | true=>exact ⟨.nums [c] [nI (1 + w),nI d,none],.e0 c _ d q5 w1 w2 (by omega),W d1 hi d2 (i1n w) d3 d4 k1 k2 k3 (fdF q4) (km q) rfl tk⟩
 | false=>exact ⟨.nums [c] [nI (1 + w),nI d,nI m],.e1 c _ d m q5 w1 w2 (by omega) (by have:=of_decide_eq_false q; omega) (by omega),W d1 hi d2 (i1n w) d3 d4 k1 k2 k3 (fdF q4) (km q) rfl tk⟩
end
end Mine.P
end
section
namespace Mine.P
theorem unmap {α:Type} {Q:α→Prop} {f:α→V}:∀ vs:List V,(∀ v∈vs,∃ i,Q i∧v=f i)→∃ l:List α,vs=l.map f∧∀ i∈l,Q i
 | [],_=>⟨[],rfl,by simp⟩
 | v :: vs,h=>by
  obtain ⟨l,h1,h2⟩:=unmap vs (fun v hv=>h v (List.mem_cons_of_mem _ hv))
  obtain ⟨i,hi,rfl⟩:=h v (List.mem_cons_self ..)
  refine ⟨i :: l,by rw [h1]; rfl,?_⟩
  intro j hj
  rcases List.mem_cons.mp hj with rfl | hj
  ·exact hi
  ·exact h2 j hj
section
variable {N:Nat} {L:List Int}
theorem pen_set (a:Nat) (T:Hp) (x y:Option (List V)):(pen L a (T++[x])).set (T.length + 1) y=pen L a (T++[y]):=by
 simp [pen]
theorem pen_hg (a:Nat) (T:Hp) (x:List V):hget (pen L a (T++[some x])) (T.length + 1)=some x:=by
 exact hgA _ x
theorem pures_all {vs:List V} (h:∀ v∈vs,v.pure=true):V.pures vs=true:=by
 induction vs with
 | nil=>rfl
 | cons v vs ih=>exact Bool.and_eq_true_iff.mpr ⟨h v (List.mem_cons_self ..),ih fun v hv=>h v (List.mem_cons_of_mem _ hv)⟩
theorem iterC_next {ev:Nat→Hp→Option (Res V)} {j n i:Nat} {H H':Hp} {v:V} {l:List V} (h:ev i H=some (.ok v H')) (hp:v.pure=true) (hl:hget H' j=some l) (hz:l.length < capL):iterC ev j (n + 1) i H=iterC ev j n (i + 1) (H'.set j (some (l++[v]))):=by
 show (match ev i H with
  | some (.ok v H')=>if v.pure then (match hget H' j with | some l=>if l.length < capL then iterC ev j n (i + 1) (H'.set j (some (l++[v]))) else .none | .none=>.none) else .none
  | _=>.none)=_
 rw [h]
 refine (if_pos hp).trans ?_
 rw [hl]; exact if_pos hz
theorem iter_pen {ev:Nat→Hp→Option (Res V)} {P:V→Prop} {K:Nat} (hp:∀ v,P v→v.pure=true) (hs:∀ i a T',a + K≤90000→∃ v a',P v∧a'≤a + K∧ev i (pen L a T')=some (.ok v (pen L a' T'))) :
  ∀ (n i a:Nat) (T:Hp) (acc:List V),a + n * K≤90000→acc.length + n≤1000→∃ vs a',vs.length=n∧(∀ v∈vs,P v)∧a'≤a + n * K∧iterC ev (T.length + 1) n i (pen L a (T++[some acc]))=some (pen L a' (T++[some (acc++vs)]))
 | 0,i,a,T,acc,ha,hl=>⟨[],a,rfl,(fun _ h=>nomatch h),Nat.le_add_right ..,by rw [List.append_nil]; rfl⟩
 | n + 1,i,a,T,acc,ha,hl=>by
  rw [Nat.add_mul,Nat.one_mul] at ha
  obtain ⟨v,a1,hv,h1,h2⟩:=hs i a (T++[some acc]) (by omega)
  obtain ⟨vs,a',g1,g2,g3,g4⟩:=iter_pen hp hs n (i + 1) a1 T (acc++[v]) (by omega) (by simp only [List.length_append,List.length_cons,List.length_nil]; omega)
  refine ⟨v :: vs,a',congrArg Nat.succ g1,?_,by rw [Nat.add_mul,Nat.one_mul]; omega,?_⟩
  ·intro x hx
   rcases List.mem_cons.mp hx with rfl | hx
   ·exact hv
   ·exact g2 x hx
  ·have hc:acc.length < capL:=by have:capL=1048576:=rfl; omega
   rw [iterC_next h2 (hp v hv) (pen_hg ..) hc,pen_set,g4,List.append_assoc]; rfl
theorem e_comp {call:Nat→List V→Hp→Option (Res V)} {b:Nat} {l:Loc} {e n:E} {x:Nat} {P:V→Prop} {K a a1 m:Nat} {T:Hp} (hp:∀ v,P v→v.pure=true) (hn:evE call b l n (pen L a T)=some (.ok (.int (m:Nat)) (pen L a1 T))) (hm:m≤900) (ha:a1 + m * K≤90000)
  (hs:∀ (i a:Nat) T',a + K≤90000→∃ v a',P v∧a'≤a + K∧evE call b (l.set x (some (.int (i:Nat)))) e (pen L a T')=some (.ok v (pen L a' T'))) :
  ∃ vs a',vs.length=m∧(∀ v∈vs,P v)∧a'≤a1 + m * K∧evE call b l (.comp e x n) (pen L a T)=some (.ok (.lst vs) (pen L a' (T++[none]))):=by
 obtain ⟨vs,a',g1,g2,g3,g4⟩:=iter_pen (L:=L) (ev:=fun i H=>evE call b (l.set x (some (.int (i:Nat)))) e H) hp hs m 0 a1 T [] ha (by simp only [List.length_nil]; omega)
 refine ⟨vs,a',g1,g2,g3,?_⟩
 have hk:(0:Int)≤(m:Nat)∧((m:Nat):Int)≤capL:=by have:(capL:Int)=1048576:=rfl; omega
 have hpu:=pures_all fun v hv=>hp v (g2 v hv)
 have hap:pen L a1 T++[some []]=pen L a1 (T++[some []]):=rfl
 (conv=>lhs; whnf); rw [hn]
 simp only [bnd,if_pos hk,Int.toNat_natCast,pen_len,hap,g4,List.nil_append,pen_hg,hpu,if_true,pen_set]
noncomputable def bud:Nat→Nat
 | 0=>6
 | d + 1=>2 * bud d + 3
theorem bud_ge:∀ d:Nat,6≤bud d
 | 0=>Nat.le_refl _
 | d + 1=>by have:=bud_ge d; show 6≤2 * bud d + 3; omega
theorem joinT_chars:∀ cs:Txt,joinT [] (cs.map fun c=>[c])=cs
 | []=>rfl
 | [c]=>rfl
 | c :: d :: cs=>congrArg (c :: ·) (joinT_chars (d :: cs))
theorem textsOf_chars:∀ cs:Txt,textsOf (cs.map fun c=>V.str [c])=some (cs.map fun c=>[c])
 | []=>rfl
 | c :: cs=>congrArg (Option.map ([c] :: ·)) (textsOf_chars cs)
inductive LitI (call:Call) (L:List Int) (d a:Nat) (T:Hp):Prop
 | mk (i:It) (a':Nat):Good d i→a'≤a + bud d→call 25 [.ref 0,.int (d:Nat)] (pen L a T)=some (.ok i.toV (pen L a' T))→LitI call L d a T
noncomputable def litemSpec (N:Nat) (L:List Int) (d:Nat):Prop:=∀ (n a:Nat) (T:Hp),d + 3≤n→a + bud d≤90000→LitI (callF theFn N n) L d a T
theorem outD_ok {n f:Nat} {fn:Fn} {args:List V} {H:Hp} (h:theFn f=some fn) (h0:args.length=fn.params) {r:RS} (hr:evSs (callF theFn N n) N H.length fn.body (args.map some++List.replicate (fn.vars.length - fn.params) none) H=some r):outD (callF theFn N (n + 1) f args H) H.length r:=by
 rw [callF_succ N n f args H h]
 cases r <;> first | trivial | exact fun _ hp ht=>run_ret2 h0 hr hp ht
noncomputable def litB2:Ss:=match F_law_item.body with | .cons _ (.cons _ r)=>r | _=>.nil
noncomputable def litS1:S:=.assign 2 (.call 23 (.cons (.loc 0) (.cons (.ife (.cmp .gt (.loc 1) (.int 0)) (.int 12) (.int 11)) .nil)))
noncomputable def litS2:S:=.assign 3 (.bin .add (.int 1) (.call 23 (.cons (.loc 0) (.cons (.int 14) .nil))))
theorem i_lst {H:Hp} {ws:List Txt} {k:Nat} {w:Txt} (h:ws[k]?=some w):idxV H (.lst (ws.map V.str)) (.int (k:Nat))=some (.str w):=by
 show getAt _ _=_; rw [getAt,if_pos (Int.natCast_nonneg k),Int.toNat_natCast,List.getElem?_map,h]; rfl
theorem eqdF {a b:Nat} (h:¬ a=b):cmpV .eq (.int (a:Nat)) (.int (b:Nat))=some false:=cmp_eqd a b (decide_eq_false h)
theorem lit_text {call:Call} {b:Nat} {l:Loc} {a c:Nat} {T:Hp} (hl0:l[0]?=some (some (.ref 0))) (hl:l[3]?=some (some (.int (c:Nat)))) (ha:a + 3≤90000) (hx:∀ v,(l.set 4 (some v))[0]?=some (some (.ref 0)))
  (dd:∀ (a:Nat) (T:Hp),a≤90000→call 23 [.ref 0,.int (7:Nat)] (pen L a T)=some (.ok (.int (drawv L a 7:Nat)) (pen L (a + 1) T))) :
  ∃ (cs:Txt) (a':Nat),cs.length=1 + c % 3∧(∀ x∈cs,x∈hAlph)∧a'≤a + 3∧evE call b l (.join (.str []) (.comp (.idx (.str [65,39,53,32,44,72,41]) (.call 23 (.cons (.loc 0) (.cons (.int 7) .nil)))) 4 (.bin .add (.int 1) (.bin .mod (.loc 3) (.int 3))))) (pen L a T)=some (.ok (.str cs) (pen L a' (T++[none]))):=by
 have hlt:=Nat.mod_lt c (show 0 < 3 by decide)
 have en:evE call b l (.bin .add (.int 1) (.bin .mod (.loc 3) (.int 3))) (pen L a T)=some (.ok (.int ((1 + c % 3:Nat):Int)) (pen L a T)):=e_bin e_int (e_bin (e_loc hl) e_int (b_modn (m:=3) (by decide))) (i1n _)
 obtain ⟨vs,a',g1,g2,g3,g4⟩:=e_comp (L:=L) (call:=call) (b:=b) (e:=.idx (.str [65,39,53,32,44,72,41]) (.call 23 (.cons (.loc 0) (.cons (.int 7) .nil)))) (x:=4) (K:=1) (P:=fun v=>∃ ch,ch∈hAlph∧v=V.str [ch]) (fun v hv=>by obtain ⟨ch,_,rfl⟩:=hv; rfl) en (by omega) (by omega) (by
  intro i a2 T' ha2
  obtain ⟨ch,hch,hm⟩:=get_in (s:=hAlph) (k:=drawv L a2 7) (drawv_lt L a2 (m:=7) (by decide))
  exact ⟨.str [ch],a2 + 1,⟨ch,hm,rfl⟩,by omega,e_pick (s:=hAlph) hch (e_draw (m:=7) (hx _) (dd a2 T' (by omega)))⟩)
 obtain ⟨cs,h1,h2⟩:=unmap (f:=fun ch=>V.str [ch]) (Q:=fun ch=>ch∈hAlph) vs g2
 rw [h1] at g1 g4
 rw [List.length_map] at g1
 refine ⟨cs,a',g1,h2,by omega,?_⟩
 have jc:([]:Txt).length≤1000∧(cs.map fun c=>[c]).length≤1000∧(∀ w∈(cs.map fun c=>[c]:List Txt),w.length≤10000)∧cs.length≤capL :=
  ⟨by decide,by rw [List.length_map]; omega,fun w hw=>by obtain ⟨x,_,rfl⟩:=List.mem_map.mp hw; exact Nat.le_of_ble_eq_true rfl,cap_txt (by omega)⟩
 exact (e_join (x:=.str []) (j:=[]) rfl g4 (textsOf_chars cs) jc.1 jc.2.1 jc.2.2.1 (by rw [joinT_chars]; exact jc.2.2.2)).trans (by rw [joinT_chars])
theorem lit_grp {call:Call} {b:Nat} {l:Loc} {a d':Nat} {T:Hp} (hl0:l[0]?=some (some (.ref 0))) (ha:a + 1 + 2 * bud d'≤90000) (hx0:∀ v,(l.set 4 (some v))[0]?=some (some (.ref 0))) (hx1:∀ v,(l.set 4 (some v))[1]?=some (some (.int ((d' + 1:Nat):Int))))
  (dd:call 23 [.ref 0,.int (2:Nat)] (pen L a T)=some (.ok (.int (drawv L a 2:Nat)) (pen L (a + 1) T)))
  (hg:∀ a T,a + bud d'≤90000→LitI call L d' a T) :
  ∃ (is:List It) (a':Nat),is≠[]∧is.length≤2∧(∀ i∈is,Good d' i)∧a'≤a + 1 + 2 * bud d'∧evE call b l (.comp (.call 25 (.cons (.loc 0) (.cons (.bin .sub (.loc 1) (.int 1)) .nil))) 4 (.bin .add (.int 1) (.call 23 (.cons (.loc 0) (.cons (.int 2) .nil))))) (pen L a T)=some (.ok (.lst (toVs is)) (pen L a' (T++[none]))):=by
 have l2:=drawv_lt L a (m:=2) (by decide)
 have ex:=e_draw (b:=b) (m:=2) hl0 dd
 have en:evE call b l (.bin .add (.int 1) (.call 23 (.cons (.loc 0) (.cons (.int 2) .nil)))) (pen L a T)=some (.ok (.int ((1 + drawv L a 2:Nat):Int)) (pen L (a + 1) T)):=bnd_ok e_int (bnd_ok ex rfl)
 generalize drawv L a 2=m at *
 have hmb:(1 + m) * bud d'≤2 * bud d':=Nat.mul_le_mul_right _ (by omega)
 obtain ⟨vs,a',g1,g2,g3,g4⟩:=e_comp (L:=L) (call:=call) (b:=b) (e:=.call 25 (.cons (.loc 0) (.cons (.bin .sub (.loc 1) (.int 1)) .nil))) (x:=4) (K:=bud d') (P:=fun v=>∃ i,Good d' i∧v=It.toV i) (fun v hv=>by obtain ⟨i,_,rfl⟩:=hv; exact It.pure i) en (by omega) (by omega) (by
  intro j a2 T' ha2
  obtain ⟨i,a3,h1,h2,h3⟩:=hg a2 T' ha2
  refine ⟨i.toV,a3,⟨i,h1,rfl⟩,h2,?_⟩
  exact bnd_ok (bnd_ok (e_loc (hx0 _)) (bnd_ok (bnd_ok (bnd_ok (e_loc (hx1 _)) (bnd_ok e_int (tell_ok (sInt (show ((d' + 1:Nat):Int) - 1=(d':Nat) by omega))))) rfl) rfl)) h3)
 obtain ⟨is,h1,h2⟩:=unmap (f:=It.toV) (Q:=fun i=>Good d' i) vs g2
 rw [h1] at g1 g4
 rw [List.length_map] at g1
 rw [← toVs_map] at g4
 exact ⟨is,a',fun h=>by rw [h] at g1; exact Nat.noConfusion (g1.trans (Nat.add_comm 1 m)),by omega,h2,by omega,g4⟩
theorem grp_le (a d:Nat):a + 2 + 1 + 2 * bud d=a + bud (d + 1):=by show _=a + (2 * bud d + 3); omega
theorem litem_step (d:Nat) (ih:∀ d',d=d' + 1→litemSpec N L d'):litemSpec N L d:=by
 intro n a T hn hb
 have hbg:=bud_ge d
 have le:∀ {k},k≤6→a + k≤a + bud d:=fun h=>Nat.add_le_add_left (Nat.le_trans h hbg) a
 have l9:∀ {k},k≤6→a + k≤90000:=fun h=>Nat.le_trans (le h) hb
 obtain ⟨n,rfl⟩:∃ m,n=m + 3:=⟨n - 3,by omega⟩
 have dd:=fun (m a:Nat) (T:Hp) (hm:0 < m) (ha:a≤90000)=>s_draw (N:=N) (L:=L) (T:=T) (n:=n + 1) (m:=m) (a:=a) hm (Nat.le_trans ha (by decide))
 obtain ⟨w,hw,e1⟩:∃ w:Nat,w < (if 0 < d then 12 else 11)∧evS (callF theFn N (n + 2)) N (pen L a T).length litS1 [some (.ref 0),some (.int (d:Nat)),none,none,none] (pen L a T)=some (.next [some (.ref 0),some (.int (d:Nat)),some (.int (w:Nat)),none,none] (pen L (a + 1) T)):=by
  have W:=wS_ok (call:=callF theFn N (n + 2)) (N:=N) (b:=(pen L a T).length) litS1 [some (.ref 0),some (.int (d:Nat)),none,none,none] (pen L a T) _ fun _ h=>h
  by_cases q:0 < d
  ·rw [if_pos q]; exact ⟨_,drawv_lt L a (m:=12) (by decide),W (cgt (b:=0) (decide_eq_true q)) (dd 12 a T (by decide) (l9 (Nat.zero_le _)))⟩
  ·rw [if_neg q]; exact ⟨_,drawv_lt L a (m:=11) (by decide),W (cgt (b:=0) (decide_eq_false q)) (dd 11 a T (by decide) (l9 (Nat.zero_le _)))⟩
 obtain ⟨c,c1,c2,e2⟩:∃ c:Nat,1≤c∧c≤14∧evS (callF theFn N (n + 2)) N (pen L a T).length litS2 [some (.ref 0),some (.int (d:Nat)),some (.int (w:Nat)),none,none] (pen L (a + 1) T)=some (.next [some (.ref 0),some (.int (d:Nat)),some (.int (w:Nat)),some (.int (c:Nat)),none] (pen L (a + 2) T)) :=
  ⟨1 + drawv L (a + 1) 14,Nat.le_add_right ..,by have:=drawv_lt L (a + 1) (m:=14) (by decide); omega,
   wS_ok (call:=callF theFn N (n + 2)) (N:=N) (b:=(pen L a T).length) litS2 [some (.ref 0),some (.int (d:Nat)),some (.int (w:Nat)),none,none] (pen L (a + 1) T) _ (fun _ h=>h) (dd 14 (a + 1) T (by decide) (l9 (by decide))) (i1n _)⟩
 have W:=wSs_ok (call:=callF theFn N (n + 2)) (N:=N) (b:=(pen L a T).length) litB2 [some (.ref 0),some (.int (d:Nat)),some (.int (w:Nat)),some (.int (c:Nat)),none] (pen L (a + 2) T) (outD (callF theFn N (n + 3) 25 [.ref 0,.int (d:Nat)] (pen L a T)) (pen L a T).length) fun r h=>outD_ok (fn:=F_law_item) rfl rfl (ss_nx e1 (ss_nx e2 h))
 have tk:=fun a'=>pen_same L a a' T
 have tk1:=fun a'=>pen_take L a a' T [none]
 have hv:=s_value (N:=N) (L:=L) (T:=T) (n:=n) (a:=a + 2) (l9 (by decide))
 by_cases p3:w < 3
 ·obtain ⟨i,hi,hc⟩:=hv
  exact ⟨i,a + 2 + 4,.leaf d i hi,le (k:=6) (by decide),W (cmp_ltd (b:=3) (decide_eq_true p3)) hc (It.pure i) (tk _)⟩
 have k3:=cmp_ltd (b:=3) (decide_eq_false p3)
 by_cases p5:w < 5
 ·obtain ⟨i,hi,hc⟩:=hv
  exact ⟨.rep ((1 + c:Nat):Int) i,a + 2 + 4,.rep d (1 + c) i (Nat.add_le_add_left c1 1) (Nat.add_le_add_left c2 1) hi,le (k:=6) (by decide),W k3 (cmp_ltd (b:=5) (decide_eq_true p5)) (i1n c) hc (It.pure (.rep ((1 + c:Nat):Int) i)) (tk _)⟩
 have k5:=cmp_ltd (b:=5) (decide_eq_false p5)
 clear hv
 by_cases p6:w=5
 ·subst p6
  obtain ⟨cs,a',h1,h2,h3,h4⟩:=lit_text (b:=(pen L a T).length) (l:=[some (.ref 0),some (.int (d:Nat)),some (.int (5:Nat)),some (.int (c:Nat)),none]) (a:=a + 2) (T:=T) rfl rfl (l9 (k:=5) (by decide)) (fun _=>rfl) fun a T h=>dd 7 a T (by decide) h
  exact ⟨.text cs,a',.text d cs (by intro h; rw [h] at h1; exact Nat.noConfusion (h1.trans (Nat.add_comm ..))) (h1 ▸ Nat.add_le_add_left (Nat.le_of_lt_succ (Nat.mod_lt c (show 0 < 3 by decide))) 1) h2,Nat.le_trans h3 (le (k:=5) (by decide)),W k3 k5 rfl h4 rfl (tk1 _)⟩
 have k6:=eqdF p6
 by_cases p7:w=6
 ·subst p7; exact ⟨.nums [88] [nI c],a + 2,.x d c c1 c2,le (by decide),W k3 k5 k6 rfl rfl (tk _)⟩
 have k7:=eqdF p7
 by_cases p8:w=7
 ·subst p8
  obtain ⟨wd,hwd,hwm⟩:=get_in (s:=([[84],[84,76],[84,82]]:List Txt)) (k:=drawv L (a + 2) 3) (drawv_lt L (a + 2) (m:=3) (by decide))
  exact ⟨.nums wd [nI c],a + 2 + 1,.t d c wd hwm c1 c2,le (k:=3) (by decide),W k3 k5 k6 k7 rfl rfl (dd 3 (a + 2) T (by decide) (l9 (by decide))) (i_lst hwd) rfl (tk _)⟩
 have k8:=eqdF p8
 by_cases p9:w=8
 ·subst p9
  obtain ⟨wd,hwd,hwm⟩:=get_in (s:=([[47],[58]]:List Txt)) (k:=c % 2) (Nat.mod_lt c (show 0 < 2 by decide))
  exact ⟨.nums wd [],a + 2,.c d wd (List.mem_append_left [[83],[83,80],[83,83],[66,78],[66,90]] hwm),le (by decide),W k3 k5 k6 k7 k8 rfl rfl (b_modn (m:=2) (by decide)) (i_lst hwd) rfl (tk _)⟩
 have k9:=eqdF p9
 by_cases pA:w=9
 ·subst pA; exact ⟨.nums [80] [some ((c:Int) - 7)],a + 2,.p d _ (by omega) (by omega),le (by decide),W k3 k5 k6 k7 k8 k9 rfl rfl rfl (tk _)⟩
 have kA:=eqdF pA
 by_cases pB:w=10
 ·subst pB
  obtain ⟨wd,hwd,hwm⟩:=get_in (s:=([[83],[83,80],[83,83],[66,78],[66,90]]:List Txt)) (k:=drawv L (a + 2) 5) (drawv_lt L (a + 2) (m:=5) (by decide))
  exact ⟨.nums wd [],a + 2 + 1,.c d wd (List.mem_append_right [[47],[58]] hwm),le (k:=3) (by decide),W k3 k5 k6 k7 k8 k9 kA rfl rfl (dd 5 (a + 2) T (by decide) (l9 (by decide))) (i_lst hwd) rfl (tk _)⟩
 cases d with
 | zero=>rw [if_neg (Nat.lt_irrefl 0)] at hw; omega
 | succ d' =>
  obtain ⟨is,a',h1,h2,h3,h4,h5⟩:=lit_grp (b:=(pen L a T).length) (l:=[some (.ref 0),some (.int ((d' + 1:Nat):Int)),some (.int (w:Nat)),some (.int (c:Nat)),none]) (a:=a + 2) (T:=T) rfl (Nat.le_trans (Nat.le_of_eq (grp_le a d')) hb) (fun _=>rfl) (fun _=>rfl) (dd 2 (a + 2) T (by decide) (l9 (by decide))) fun a T h=>ih d' rfl (n + 2) a T (by omega) h
  exact ⟨.grp (c:Int) is,a',.grp d' c is c1 c2 h1 h2 h3,Nat.le_trans h4 (Nat.le_of_eq (grp_le a d')),W k3 k5 k6 k7 k8 k9 kA (eqdF pB) h5 (It.pure (.grp (c:Int) is)) (tk1 _)⟩
theorem s_litem:∀ d:Nat,litemSpec N L d
 | 0=>litem_step 0 (fun d' h=>Nat.noConfusion h)
 | d + 1=>litem_step (d + 1) (fun d' h=>Nat.succ.inj h ▸ s_litem d)
end
end Mine.P
end
section
namespace Mine.P
inductive Sp:Bool→Bool→Txt→Txt→Prop
 | nil (f q:Bool):Sp f q [] []
 | keep (f q:Bool) (c:Nat) (u v:Txt):Sp (if c=39 then !f else f) (c==39) u v→Sp f q (c :: u) (c :: v)
 | put (c:Nat) (u v:Txt):Sp (if c=39 then true else false) (c==39) u v→Sp false false (c :: u) (32 :: c :: v)
noncomputable def lastQ (o:Txt):Bool:=o.drop (o.length - 1)==[39]
theorem lastQ_snoc (o:Txt) (c:Nat):lastQ (o++[c])=(c==39):=by
 rw [lastQ,List.length_append,show o.length + [c].length - 1=o.length from rfl,List.drop_left]; exact beq1 c 39
noncomputable def wSpB2:Ss:=(.cons (.ite (.cmp .eq (.loc 4) (.str [39])) (.cons (.assign 3 (.not (.loc 3)))
  .nil) .nil)
  (.cons (.assign 2 (.bin .add (.loc 2) (.loc 4)))
  .nil))
noncomputable def wSpB:Ss:=(.cons (.ite (.and (.not (.loc 3)) (.and (.cmp .ne (.sl (.loc 2) (.neg (.int 1)) .none) (.str [39])) (.cmp .eq (.call 23 (.cons (.loc 0) (.cons (.int 4) .nil))) (.int 0)))) (.cons (.assign 2 (.bin .add (.loc 2) (.str [32])))
  .nil) .nil)
  wSpB2)
section
variable {N:Nat} {L:List Int} {b:Nat} {T:Hp} {call:Nat→List V→Hp→Option (Res V)}
theorem bound_neg {n d:Nat}:bound n d (.int (-1))=some (n - 1) :=
 (if_pos ⟨by decide,by decide⟩:(if -capL≤(-1:Int)∧(-1:Int)≤capL then some (clampI n (-1)) else .none)=_).trans (congrArg some ((if_pos (by decide):(if (-1:Int) < 0 then (-1 + (n:Int)).toNat else min (-1:Int).toNat n)=_).trans (by omega)))
theorem sl_last (o:Txt):slV (.str o) (.int (-1)) .none=some (.str (o.drop (o.length - 1))):=by
 show (cut o (.int (-1)) .none).map V.str=_
 unfold cut
 rw [bound_neg,show bound o.length o.length .none=some o.length from rfl]
 show some (V.str ((o.take o.length).drop _))=_
 rw [List.take_length]
theorem Sp.len {f q:Bool} {u v:Txt} (h:Sp f q u v):v.length≤2 * u.length:=by
 induction h with
 | nil=>exact Nat.zero_le _
 | keep f q c u v h ih=>simp only [List.length_cons]; omega
 | put c u v h ih=>simp only [List.length_cons]; omega
theorem sp_fin {G:RS→Prop} {c:Nat} {o:Txt} {f:Bool} {H:Hp} {x1:Option V} {vs:List V} (ho:o.length + 1≤100000) (W:wSs call N b wSpB2 [some (.ref 0),x1,some (.str o),some (.bool f),some (.str [c])] H (foK call N b 4 wSpB vs G)) {r:RS}
  (h:Fo call N b 4 wSpB vs [some (.ref 0),x1,some (.str (o++[c])),some (.bool (if c=39 then !f else f)),some (.str [c])] H r):G r:=by
 by_cases q:c=39
 ·subst q; exact W rfl (b_add_str ho) h
 ·rw [if_neg q] at h
  exact W (kc (beq_eq_false_iff_ne.mpr q)) (b_add_str ho) h
inductive SpI (call:Nat→List V→Hp→Option (Res V)) (N b:Nat) (L:List Int) (x1:Option V) (T:Hp) (u o:Txt) (f:Bool) (a:Nat) (x4:Option V):Prop
 | mk (v:Txt) (a':Nat) (f':Bool) (y4:Option V):Sp f (lastQ o) u v→a'≤a + u.length→Fo call N b 4 wSpB (u.map fun c=>V.str [c]) [some (.ref 0),x1,some (.str o),some (.bool f),x4] (pen L a T) (.next [some (.ref 0),x1,some (.str (o++v)),some (.bool f'),y4] (pen L a' T))→SpI call N b L x1 T u o f a x4
theorem l_spaced {x1:Option V} (hd:∀ (a:Nat) (T:Hp),a≤100000→call 23 [.ref 0,.int ((4:Nat):Int)] (pen L a T)=some (.ok (.int (drawv L a 4:Nat)) (pen L (a + 1) T))) (u:Txt) :
  ∀ (o:Txt) (f:Bool) (a:Nat) (x4:Option V),a + u.length≤90000→o.length + 2 * u.length≤90000→SpI call N b L x1 T u o f a x4:=by
 induction u with
 | nil=>exact fun o f a x4 ha ho=>⟨[],a,f,x4,.nil _ _,Nat.le_refl _,by rw [List.append_nil]; rfl⟩
 | cons c u ih =>
  intro o f a x4 ha ho
  simp only [List.length_cons] at ha ho
  have ne:=fun {r:Bool} (h:lastQ o=r)=>show cmpV .ne (.str (o.drop (o.length - 1))) (.str [39])=some (!r) by rw [cmp_nes]; exact congrArg (fun b=>some (!b)) h
  have keep:∀ a1,a1≤a + 1→(∀ r,Fo call N b 4 wSpB (u.map fun c=>V.str [c]) [some (.ref 0),x1,some (.str (o++[c])),some (.bool (if c=39 then !f else f)),some (.str [c])] (pen L a1 T) r→Fo call N b 4 wSpB ((c :: u).map fun c=>V.str [c]) [some (.ref 0),x1,some (.str o),some (.bool f),x4] (pen L a T) r) →
    SpI call N b L x1 T (c :: u) o f a x4:=fun a1 h1 W=>by
   obtain ⟨v,a',f',y4,g1,g2,g3⟩:=ih (o++[c]) (if c=39 then !f else f) a1 (some (.str [c])) (by omega) (by rw [List.length_append,List.length_cons,List.length_nil]; omega)
   rw [lastQ_snoc] at g1
   rw [List.append_assoc] at g3
   exact ⟨c :: v,a',f',y4,.keep f _ c u v g1,by rw [List.length_cons]; omega,W _ g3⟩
  cases f with
  | true=>exact keep a (Nat.le_succ a) fun r h=>fo_step fun G W=>sp_fin (by omega) W h
  | false =>
   cases hq:lastQ o with
   | true=>exact keep a (Nat.le_succ a) fun r h=>fo_step fun G W=>sp_fin (by omega) (W rfl (sl_last o) (ne hq)) h
   | false =>
    have d4:=hd a T (by omega)
    by_cases q:drawv L a 4=0
    ·obtain ⟨v,a',f',y4,g1,g2,g3⟩:=ih (o++[32]++[c]) (if c=39 then !false else false) (a + 1) (some (.str [c])) (by omega) (by rw [List.length_append,List.length_append,List.length_cons,List.length_nil,List.length_cons,List.length_nil]; omega)
     rw [lastQ_snoc] at g1
     have g4:o++[32]++[c]++v=o++32 :: c :: v:=by rw [List.append_assoc,List.append_assoc]; rfl
     rw [g4] at g3
     exact ⟨32 :: c :: v,a',f',y4,hq ▸ .put c u v g1,by simp only [List.length_cons]; omega,fo_step fun G W=>sp_fin (by rw [List.length_append,List.length_cons,List.length_nil]; omega) (W rfl (sl_last o) (ne hq) d4 (cmp_eqd _ 0 (decide_eq_true q)) (b_add_str (by rw [List.length_cons,List.length_nil]; omega))) g3⟩
    ·exact keep (a + 1) (Nat.le_refl _) fun r h=>fo_step fun G W=>sp_fin (by omega) (W rfl (sl_last o) (ne hq) d4 (cmp_eqd _ 0 (decide_eq_false q))) h
theorem s_forE {x:Nat} {e:E} {bd:Ss} {l:Loc} {H K:Hp} {t:Txt} {r:RS} (he:evE call b l e H=some (.ok (.str t) K)) (h:Fo call N b x bd (t.map fun c=>V.str [c]) l K r):evS call N b (.forE x e bd) l H=some r:=bndS_ok he h
theorem s_spaced {n a:Nat} {u:Txt} (ha:a + u.length≤90000) (hu:2 * u.length≤90000):∃ v a',Sp false false u v∧a'≤a + u.length∧callF theFn N (n + 2) 29 [.ref 0,.str u] (pen L a T)=some (.ok (.str v) (pen L a' T)):=by
 have hd:=fun (a:Nat) (T:Hp) (ha:a≤100000)=>s_draw (N:=N) (L:=L) (T:=T) (n:=n) (m:=4) (a:=a) (by omega) ha
 have W:=wD (N:=N) (n + 1) 29 F_law_spaced [.ref 0,.str u] (pen L a T) rfl rfl
 obtain ⟨v,a',f',y4,g1,g2,g3⟩:=l_spaced (N:=N) (b:=(pen L a T).length) (T:=T) (x1:=some (.str u)) hd u [] false a none ha (by rw [List.length_nil]; omega)
 exact ⟨v,a',g1,g2,W (s_forE (e_loc rfl) g3) rfl (pen_same L a a' T)⟩
noncomputable def signs:Txt:=[73,70,69,68,71,76,65,88,84,80,83,66,72,78,82,90,47,58,44,46,40,41,39,43,45,48,49,50,51,32,53,57]
inductive Bend:Txt→Txt→Prop
 | same (t:Txt):Bend t t
 | ins (t:Txt) (p c:Nat):c∈signs→Bend t (t.take p++c :: t.drop p)
 | del (t:Txt) (p:Nat):Bend t (t.take p++t.drop (p + 1))
 | rpl (t:Txt) (p c:Nat):c∈signs→Bend t (t.take p++c :: t.drop (p + 1))
theorem msub (p n:Nat):min p n + (n - p)=n:=(Nat.add_comm ..).trans ((congrArg (n - p + ·) (Nat.min_comm p n)).trans (Nat.sub_add_min_cancel n p))
theorem msub1 (p n:Nat):min p n + (n - (p + 1))≤n:=Nat.le_trans (Nat.add_le_add_left (Nat.sub_le_sub_left (Nat.le_succ p) n) _) (Nat.le_of_eq (msub p n))
theorem Bend.len {t t':Txt} (h:Bend t t'):t'.length≤t.length + 1:=by
 cases h with
 | same=>exact Nat.le_succ _
 | ins p c hc=>rw [List.length_append,List.length_take,List.length_cons,List.length_drop]; exact Nat.succ_le_succ (Nat.le_of_eq (msub p _))
 | del p=>rw [List.length_append,List.length_take,List.length_drop]; exact Nat.le_succ_of_le (msub1 p _)
 | rpl p c hc=>rw [List.length_append,List.length_take,List.length_cons,List.length_drop]; exact Nat.succ_le_succ (msub1 p _)
noncomputable def wBentB:Ss:=(.cons (.assign 3 (.call 23 (.cons (.loc 0) (.cons .million .nil))))
  (.cons (.assign 4 (.bin .mod (.bin .fdiv (.loc 3) (.int 4)) (.bin .add (.len (.loc 1)) (.int 1))))
  (.cons (.assign 5 (.idx (.gstr [95,108,97,119,95,115,105,103,110,115] [73,70,69,68,71,76,65,88,84,80,83,66,72,78,82,90,47,58,44,46,40,41,39,43,45,48,49,50,51,32,53,57]) (.bin .mod (.bin .fdiv (.loc 3) (.int 97)) (.int 32))))
  (.cons (.ite (.cmp .eq (.bin .mod (.loc 3) (.int 4)) (.int 1)) (.cons (.assign 1 (.bin .add (.bin .add (.sl (.loc 1) .none (.loc 4)) (.loc 5)) (.sl (.loc 1) (.loc 4) .none)))
  .nil) .nil)
  (.cons (.ite (.cmp .eq (.bin .mod (.loc 3) (.int 4)) (.int 2)) (.cons (.assign 1 (.bin .add (.sl (.loc 1) .none (.loc 4)) (.sl (.loc 1) (.bin .add (.loc 4) (.int 1)) .none)))
  .nil) .nil)
  (.cons (.ite (.cmp .eq (.bin .mod (.loc 3) (.int 4)) (.int 3)) (.cons (.assign 1 (.bin .add (.bin .add (.sl (.loc 1) .none (.loc 4)) (.loc 5)) (.sl (.loc 1) (.bin .add (.loc 4) (.int 1)) .none)))
  .nil) .nil)
  .nil))))))
theorem b_fdiv {H:Hp} {x m:Nat} (hm:0 < m) (hm2:m≤1000):binV H .fdiv (.int (x:Nat)) (.int (m:Nat))=some (.int ((x / m:Nat):Int)):=by
 have hc:(capL:Int)=1048576:=rfl
 refine (if_pos (by omega):(if (0:Int) < (m:Nat)∧((m:Nat):Int)≤capL then some (V.int (((x:Nat):Int).fdiv ((m:Nat):Int))) else .none)=_).trans ?_
 rw [Int.fdiv_eq_ediv_of_nonneg _ (Int.natCast_nonneg m)]; rfl
theorem sl_to {t:Txt} {p:Nat} (hp:p≤100000):slV (.str t) .none (.int (p:Nat))=some (.str (t.take p)):=by
 show (cut t .none (.int (p:Nat))).map V.str=_
 unfold cut
 rw [bound_nat' (n:=t.length) (d:=t.length) (k:=p) (by omega),show bound t.length 0 .none=some 0 from rfl]
 show some (V.str (t.take (min p t.length)))=_
 rw [show t.take (min p t.length)=t.take p by rw [List.take_eq_take_iff]; omega]
theorem sl_from {t:Txt} {p:Nat} (hp:p≤100000):slV (.str t) (.int (p:Nat)) .none=some (.str (t.drop p)):=by
 show (cut t (.int (p:Nat)) .none).map V.str=_
 unfold cut
 rw [bound_nat' (n:=t.length) (d:=0) (k:=p) (by omega),show bound t.length t.length .none=some t.length from rfl]
 show some (V.str ((t.take t.length).drop (min p t.length)))=_
 rw [List.take_length]
 rcases Nat.le_total p t.length with q | q
 ·rw [Nat.min_eq_left q]
 ·rw [Nat.min_eq_right q,List.drop_of_length_le (Nat.le_refl _),List.drop_of_length_le q]
theorem bent_turn {a:Nat} {t:Txt} {x x2 x3 x4 x5:Option V} {y:V} (ha:a≤90000) (ht:t.length≤5000) (hd:call 23 [.ref 0,.int 1000000] (pen L a T)=some (.ok (.int (drawv L a 1000000:Nat)) (pen L (a + 1) T))) :
  ∃ t' y3 y4 y5,Bend t t'∧∀ vs r,Fo call N b 2 wBentB vs [some (.ref 0),some (.str t'),some y,y3,y4,y5] (pen L (a + 1) T) r→Fo call N b 2 wBentB (y :: vs) [some (.ref 0),some (.str t),x2,x3,x4,x5] (pen L a T) r:=by
 generalize drawv L a 1000000=num at *
 generalize pen L (a + 1) T=HP at *
 have f4:=b_fdiv (H:=HP) (x:=num) (m:=4) (by decide) (by decide)
 have f97:=b_fdiv (H:=HP) (x:=num) (m:=97) (by decide) (by decide)
 have m4:=b_modn (H:=HP) (x:=num) (m:=4) (by decide)
 have m32:=b_modn (H:=HP) (x:=num / 97) (m:=32) (by decide)
 have ml:=b_modn (H:=HP) (x:=num / 4) (m:=t.length + 1) (Nat.succ_pos _)
 have hpl:=Nat.mod_lt (num / 4) (Nat.succ_pos t.length)
 generalize num / 4 % (t.length + 1)=p at *
 obtain ⟨c,hc,hcm⟩:=get_in (s:=signs) (k:=num / 97 % 32) (Nat.mod_lt _ (by decide))
 have hi:=i_str (H:=HP) hc
 have k:∀ {m} {r},decide (num % 4=m)=r→cmpV .eq (.int ((num % 4:Nat):Int)) (.int (m:Nat))=some r:=fun h=>cmp_eqd _ _ h
 have h4:=Nat.mod_lt num (show 0 < 4 by decide)
 generalize num % 4=d at *
 have t1:=sl_to (t:=t) (p:=p) (by omega)
 have t2:=sl_from (t:=t) (p:=p) (by omega)
 have t3:=sl_from (t:=t) (p:=p + 1) (by omega)
 have lt:=List.length_take (i:=p) (l:=t)
 have ld:=fun q=>List.length_drop (i:=q) (l:=t)
 have s1:=b_add_str (H:=HP) (x:=t.take p) (y:=[c]) (by rw [lt,List.length_cons,List.length_nil]; omega)
 have s2:∀ q,binV HP .add (.str (t.take p++[c])) (.str (t.drop q))=some (.str (t.take p++c :: t.drop q)):=fun q=>by
  rw [b_add_str (by rw [List.length_append,lt,List.length_cons,List.length_nil,ld]; omega),List.append_assoc]; rfl
 have s3:=b_add_str (H:=HP) (x:=t.take p) (y:=t.drop (p + 1)) (by rw [lt,ld]; omega)
 match d,h4 with
 | 0,_=>exact ⟨t,some (.int (num:Nat)),some (.int (p:Nat)),some (.str [c]),.same t,fun vs r h=>fo_step fun G W=>W rfl hd f4 rfl rfl ml f97 m32 hi m4 (k (m:=1) rfl) m4 (k (m:=2) rfl) m4 (k (m:=3) rfl) h⟩
 | 1,_=>exact ⟨_,some (.int (num:Nat)),some (.int (p:Nat)),some (.str [c]),.ins t p c hcm,fun vs r h=>fo_step fun G W=>W rfl hd f4 rfl rfl ml f97 m32 hi m4 (k (m:=1) rfl) t1 s1 t2 (s2 p) m4 (k (m:=2) rfl) m4 (k (m:=3) rfl) h⟩
 | 2,_=>exact ⟨_,some (.int (num:Nat)),some (.int (p:Nat)),some (.str [c]),.del t p,fun vs r h=>fo_step fun G W=>W rfl hd f4 rfl rfl ml f97 m32 hi m4 (k (m:=1) rfl) m4 (k (m:=2) rfl) t1 rfl t3 s3 m4 (k (m:=3) rfl) h⟩
 | 3,_=>exact ⟨_,some (.int (num:Nat)),some (.int (p:Nat)),some (.str [c]),.rpl t p c hcm,fun vs r h=>fo_step fun G W=>W rfl hd f4 rfl rfl ml f97 m32 hi m4 (k (m:=1) rfl) m4 (k (m:=2) rfl) m4 (k (m:=3) rfl) t1 s1 rfl t3 (s2 (p + 1)) h⟩
theorem s_bent {n a:Nat} {t:Txt} (ha:a≤80000) (ht:t.length≤4000):∃ t1 t2 t3,Bend t t1∧Bend t1 t2∧Bend t2 t3∧callF theFn N (n + 2) 30 [.ref 0,.str t] (pen L a T)=some (.ok (.str t3) (pen L (a + 3) T)):=by
 have hd:∀ (a:Nat) (T:Hp),a≤100000→callF theFn N (n + 1) 23 [.ref 0,.int 1000000] (pen L a T)=_:=fun a T ha=>s_draw (N:=N) (L:=L) (T:=T) (n:=n) (m:=1000000) (a:=a) (by decide) ha
 have W:=wD (N:=N) (n + 1) 30 F_law_bent [.ref 0,.str t] (pen L a T) rfl rfl
 obtain ⟨t1,y3,y4,y5,b1,s1⟩:=bent_turn (N:=N) (b:=(pen L a T).length) (t:=t) (x2:=none) (x3:=none) (x4:=none) (x5:=none) (y:=.int ((0:Nat):Int)) (x:=none) (by omega:a≤90000) (by omega) (hd a T (by omega))
 have g1:=b1.len
 obtain ⟨t2,z3,z4,z5,b2,s2⟩:=bent_turn (N:=N) (b:=(pen L a T).length) (t:=t1) (x2:=some (.int ((0:Nat):Int))) (x3:=y3) (x4:=y4) (x5:=y5) (y:=.int ((1:Nat):Int)) (x:=none) (by omega:a + 1≤90000) (by omega) (hd (a + 1) T (by omega))
 have g2:=b2.len
 obtain ⟨t3,w3,w4,w5,b3,s3⟩:=bent_turn (N:=N) (b:=(pen L a T).length) (t:=t2) (x2:=some (.int ((1:Nat):Int))) (x3:=z3) (x4:=z4) (x5:=z5) (y:=.int ((2:Nat):Int)) (x:=none) (by omega:a + 1 + 1≤90000) (by omega) (hd (a + 1 + 1) T (by omega))
 exact ⟨t1,t2,t3,b1,b2,b3,W (s_forR (k:=3) e_int (by decide) (s1 _ _ (s2 _ _ (s3 [] _ rfl)))) rfl (pen_same L a (a + 3) T)⟩
end
end Mine.P
end
section
namespace Mine.P
theorem mul10 (v a:Nat):v≤10 * v + a:=Nat.le_trans (Nat.le_mul_of_pos_left v (by decide)) (Nat.le_add_right ..)
theorem dGo_mono (u:Txt) (v:Nat):v≤(dGo v u).1 :=
 dGo_ind (P:=fun v _ x=>v≤x.1) (fun _=>Nat.le_refl _) (fun _ _ _ h=>h) (fun _ _ _ _ _ _ h=>Nat.le_trans (mul10 ..) h) (fun _ _ _ _ _=>Nat.le_refl _) u v
theorem numGo_dGo (u:Txt) (v:Nat):v≤9999→numGo v u=if (dGo v u).1≤9999 then some (dGo v u) else none :=
 dGo_ind (P:=fun v u x=>v≤x.1∧(v≤9999→numGo v u=if x.1≤9999 then some x else none)) (fun v=>⟨Nat.le_refl _,fun h=>(if_pos h).symm⟩) (fun v r x h=>h)
  (fun v c r x q q2 h=>⟨Nat.le_trans (mul10 ..) h.1,fun _=>((if_neg q).trans (if_pos q2)).trans (by
   by_cases q3:10 * v + (c - 48) > 9999
   ·exact (if_pos q3).trans (if_neg (Nat.not_le_of_lt (Nat.lt_of_lt_of_le q3 h.1))).symm
   ·exact (if_neg q3).trans (h.2 (Nat.le_of_not_lt q3)))⟩)
  (fun v c r q q2=>⟨Nat.le_refl _,fun h=>((if_neg q).trans (if_neg q2)).trans (if_pos h).symm⟩) u v |>.2
theorem dGo_skipped (u:Txt) (v:Nat):skip (dGo v u).2=(dGo v u).2 :=
 dGo_ind (P:=fun _ _ x=>skip x.2=x.2) (fun _=>rfl) (fun _ _ _ h=>h) (fun _ _ _ _ _ _ h=>h) (fun _ _ _ q _=>if_neg q) u v
noncomputable def hTok (k:Nat) (r:Txt):Tk:=if 0 < k∧k≤r.length then .t (r.take k) else .bad
inductive NumCase (u:Txt):Prop
 | no (v:Txt):numC u=some (none,v)→skip u=v→tokS u=tokS v→isN (tokS u)[0]?=false→NumCase u
 | big (w:List Tk):numC u=none→tokS u=.bad :: w→NumCase u
 | yes (k:Nat) (r:Txt):numC u=some (some k,r)→aft 72 r=none→skip r=r→tokS u=.n k :: tokS r→Suf u r→NumCase u
 | hol (k:Nat) (r:Txt):numC u=some (some k,72 :: r)→tokS u=hTok k r :: tokS (r.drop k)→Suf u r→NumCase u
theorem qTok_head (p:Txt × Txt):(qTok p).1=.bad∨∃ s,(qTok p).1=.t s:=by
 unfold qTok
 split
 ·exact .inl rfl
 ·show (if _ then _ else _)=_∨_
  split
  ·exact .inl rfl
  ·exact .inr ⟨_,rfl⟩
theorem nTok_head (p:Nat × Txt):(nTok p).1=.bad∨(∃ s,(nTok p).1=.t s)∨∃ k,(nTok p).1=.n k:=by
 unfold nTok
 split
 ·show (if _ then _ else _)=_∨_
  split
  ·exact .inr (.inl ⟨_,rfl⟩)
  ·exact .inl rfl
 ·show (if _ then _ else _)=_∨_
  split
  ·exact .inr (.inr ⟨_,rfl⟩)
  ·exact .inl rfl
theorem numCase (u:Txt) (hu:u.length≤9000):NumCase u:=by
 have hs:=skip_suf u
 have hl:=hs.len
 cases h:skip u with
 | nil =>
  refine .no [] (by simp [numC,h]) h (by rw [tokS_nil h]; rfl) (by rw [tokS_nil h]; rfl)
 | cons c r =>
  have hc32:c≠32:=by
   intro q; subst q
   have:=skip_skip u
   rw [h] at this
   have h2:=skip_len r
   rw [show skip (32 :: r)=skip r from rfl] at this
   rw [this] at h2
   simp only [List.length_cons] at h2
   omega
  by_cases hd:isDig c=true
  ·have hc39:c≠39:=by intro q; subst q; simp [isDig] at hd
   have ht:tokS u=(nTok (dGo (c - 48) r)).1 :: tokS (nTok (dGo (c - 48) r)).2:=by
    rw [tokS_cons h]; simp [tok1,hc39,hd]
   have hn:numC u=(numGo (c - 48) r).map fun p=>(some p.1,p.2):=by simp [numC,h,hd]
   have h48:c - 48≤9999:=by have:=dig_le hd; omega
   rw [numGo_dGo r _ h48] at hn
   have hsk:=dGo_skipped r (c - 48)
   have hsu:=dGo_suf r (c - 48)
   rw [h] at hs hl
   simp only [List.length_cons] at hl
   generalize dGo (c - 48) r=p at *
   obtain ⟨k,r1⟩:=p
   have hl1:=hsu.len
   dsimp only at *
   by_cases q:k≤9999
   ·rw [if_pos q] at hn
    cases ha:aft 72 r1 with
    | none =>
     refine .yes k r1 hn ha hsk ?_ (hs.tail.trans hsu)
     rw [ht]
     have:nTok (k,r1)=(.n k,r1):=by simp [nTok,ha,show k < 10000 by omega]
     rw [this]
    | some r2 =>
     have hr:=aft_eq ha
     refine .hol k r2 (by rw [hn,hr]; rfl) ?_ (aft_suf (hs.tail.trans hsu) ha)
     rw [ht]
     have:nTok (k,r1)=(hTok k r2,r2.drop k):=by simp [nTok,ha,hTok]
     rw [this]
   ·rw [if_neg q] at hn
    refine .big (tokS (nTok (k,r1)).2) hn ?_
    rw [ht]
    have:(nTok (k,r1)).1=.bad:=by
     unfold nTok
     cases ha:aft 72 r1 with
     | none=>simp only; rw [if_neg (by omega)]
     | some r2 =>
      have:=(aft_suf (Suf.rfl' r1) ha).len
      simp only
      rw [if_neg (by omega)]
    rw [this]
  ·have hd':isDig c=false:=by simpa using hd
   refine .no (c :: r) (by simp [numC,h,hd']) h (by rw [← h,tokS_skip]) ?_
   rw [tokS_cons h]
   show isN (some (tok1 c r).1)=false
   unfold tok1
   split
   ·rcases qTok_head (qs [] r) with e | ⟨s,e⟩ <;> rw [e] <;> rfl
   ·rfl
theorem tk_sg {c:Nat} {r:Txt} (h1:c≠32) (h2:c≠39) (h3:isDig c=false):tokS (c :: r)=.sg c :: tokS r:=by
 rw [tokS_cons (show skip (c :: r)=c :: r from if_neg h1),show tok1 c r=(.sg c,r) from (if_neg h2).trans (iteF h3)]
theorem sg1 {c:Nat} {r:Txt} (h:(c==32||(c==39||isDig c))=false):tokS (c :: r)=.sg c :: tokS r:=by
 simp only [Bool.or_eq_false_iff,beq_eq_false_iff_ne] at h; exact tk_sg h.1 h.2.1 h.2.2
theorem hd_no {d:Nat} {r:Txt} (hd:isDig d=false) (h:aft d (skip r)=none):isSg d (tokS r)[0]?=false:=by
 cases hs:skip r with
 | nil=>rw [tokS_nil hs]; rfl
 | cons c r' =>
  rw [hs] at h
  rw [tokS_cons hs]
  show isSg d (some (tok1 c r').1)=false
  unfold tok1
  split
  ·rcases qTok_head (qs [] r') with e | ⟨s,e⟩ <;> rw [e] <;> rfl
  ·split
   ·rcases nTok_head (dGo (c - 48) r') with e | ⟨s,e⟩ | ⟨k,e⟩ <;> rw [e] <;> rfl
   ·exact beq_eq_false_iff_ne.mpr fun q=>by subst q; rw [aft,if_pos rfl] at h; cases h
theorem hd_yes {d:Nat} {r r':Txt} (h1:d≠39) (h3:isDig d=false) (h:aft d (skip r)=some r'):tokS r=.sg d :: tokS r':=by
 rw [tokS_cons (aft_eq h),show tok1 d r'=(.sg d,r') from (if_neg h1).trans (iteF h3)]
noncomputable def doomed (x:Option (It × Txt)):Prop:=x=none∨∃ i r,x=some (i,72 :: r)
inductive Rel:Option (It × Txt)→Option (It × List Tk)→Prop
 | ok (i:It) (r:Txt):Rel (some (i,r)) (some (i,tokS r))
 | doom (x:Option (It × Txt)):doomed x→Rel x none
 | doomA (x:Option (It × Txt)) (i:It) (w:List Tk):doomed x→(∀ s,loose i (.text s)=false)→(∃ w',w=.bad :: w'∨∃ s,w=.t s :: w')→Rel x (some (i,w))
theorem Rel.none':Rel none none:=.doom _ (.inl rfl)
theorem Rel.hol {i:It} {r:Txt}:Rel (some (i,72 :: r)) none:=.doom _ (.inr ⟨i,r,rfl⟩)
theorem hTok_or (k:Nat) (r:Txt):hTok k r=.bad∨∃ s,hTok k r=.t s:=by
 unfold hTok
 split
 ·exact .inr ⟨_,rfl⟩
 ·exact .inl rfl
theorem hTok_nN (k:Nat) (r:Txt):isN (some (hTok k r))=false:=by
 rcases hTok_or k r with e | ⟨s,e⟩ <;> rw [e] <;> rfl
theorem nAt_no {lo:Nat} {o:Option Tk} (h:isN o=false):nAt lo o=false:=by rw [nAt,h]; rfl
theorem nGe {a k:Nat} (h:a≤k):nAt a (some (.n k))=true:=decide_eq_true h
theorem nLt {a k:Nat} (h:¬ a≤k):nAt a (some (.n k))=false:=decide_eq_false h
theorem size_rel {lo:Nat} {u:Txt} (hu:u.length≤9000) {P:Option (Nat × Txt)→List Tk→Prop} (bad:∀ w,nAt lo w[0]?=false→P none w)
  (hol:∀ k r w,nAt lo w[0]?=false→P (some (k,72 :: r)) w) (yes:∀ k r,lo≤k→skip r=r→r.length≤9000→P (some (k,r)) (.n k :: tokS r)):P (sizeC lo u) (tokS u):=by
 unfold sizeC
 cases numCase u hu with
 | no v h1 h2 h3 h4=>rw [h1]; exact bad _ (nAt_no h4)
 | big w h1 h2=>rw [h1,h2]; exact bad _ rfl
 | hol k r h1 h2 h3 =>
  rw [h1,h2]
  exact iteP (P:=fun x=>P x _) (fun _=>bad _ (nAt_no (hTok_nN k r))) fun _=>hol k r _ (nAt_no (hTok_nN k r))
 | yes k r h1 h2 h3 h4 h5 =>
  rw [h1,h4]
  exact iteP (P:=fun x=>P x _) (fun q=>bad _ (nLt (Nat.not_le.mpr q))) fun q=>yes k r (Nat.le_of_not_lt q) h3 (Nat.le_trans h5.len hu)
theorem sg_rel {d:Nat} {r:Txt} (h1:d≠39) (h2:isDig d=false) (hs:skip r=r) (hr:r.length≤9000) {P:Option Txt→List Tk→Prop} (no:isSg d (tokS r)[0]?=false→P none (tokS r))
  (yes:∀ r',r'.length≤9000→P (some r') (.sg d :: tokS r')):P (aft d r) (tokS r):=by
 cases ha:aft d r with
 | none=>exact no (hd_no h2 (by rw [hs]; exact ha))
 | some r'=>rw [hd_yes h1 h2 (by rw [hs]; exact ha)]; exact yes r' (Nat.le_trans (aft_suf (.rfl' r) ha).len hr)
theorem v_no {c:Nat} {w:List Tk} (hc:c≠65) (h:nAt 1 w[0]?=false):valuedT (.sg c :: w)=none:=(if_neg fun q=>hc q.1).trans (iteF h)
theorem v_at {c w:Nat} {R:List Tk} (h:1≤w):valuedT (.sg c :: .n w :: R)=if c=65∨c=76 then some (.nums [c] [nI w],R) else if c≠73 then realsT c (.n w :: R) else
  if isSg 46 R[0]? then (if nAt 0 R[1]?&&!decide (w < nv R[1]?) then some (.nums [73] [nI w,nI (nv R[1]?)],R.drop 2) else none) else some (.nums [73] [nI w,none],R) :=
 (if_neg (fun h=>Bool.noConfusion (h.2:true=false))).trans (iteT (nGe h))
theorem rel_whole {u:Txt} (hu:u.length≤9000):Rel (wholeC u) (valuedT (.sg 73 :: tokS u)):=by
 rw [wholeC_K]
 refine size_rel (P:=fun x w=>Rel (wholeK x) (valuedT (.sg 73 :: w))) hu (fun w h=>?_) (fun k r w h=>?_) fun k r hk hs hr=>?_
 ·rw [v_no (by decide) h]; exact .none'
 ·rw [v_no (by decide) h]; exact .hol
 rw [v_at hk]
 refine sg_rel (P:=fun x w=>Rel (wholeK1 k r x) (if isSg 46 w[0]? then (if nAt 0 w[1]?&&!decide (k < nv w[1]?) then some (.nums [73] [nI k,nI (nv w[1]?)],w.drop 2) else none) else some (.nums [73] [nI k,none],w))) (d:=46) (by decide) rfl hs hr (fun h=>?_) fun r1 h1=>?_
 ·rw [iteF h]; exact .ok _ r
 refine size_rel (P:=fun x w=>Rel (wholeK2 k x) (if nAt 0 w[0]?&&!decide (k < nv w[0]?) then some (.nums [73] [nI k,nI (nv w[0]?)],w.drop 1) else none)) h1 (fun w h=>?_) (fun d r w h=>?_) fun d r2 hd _ _=>?_
 ·rw [h]; exact .none'
 ·rw [h]; exact iteP (P:=fun x=>Rel x none) (fun _=>.none') fun _=>.hol
 ·rw [show nAt 0 (Tk.n d :: tokS r2)[0]?=true from nGe hd]
  show Rel (if k < d then _ else _) (if (true&&!decide (k < d))=true then _ else _)
  by_cases q:k < d
  ·rw [if_pos q,decide_eq_true q]; exact .none'
  ·rw [if_neg q,decide_eq_false q]; exact .ok _ r2
theorem rel_real {c:Nat} {u:Txt} (hu:u.length≤9000) (hc:c≠73∧c≠76∧c≠65):Rel (realC c u) (valuedT (.sg c :: tokS u)):=by
 rw [realC_K]
 refine size_rel (P:=fun x w=>Rel (realK c x) (valuedT (.sg c :: w))) hu (fun w h=>?_) (fun k r w h=>?_) fun k r hk hs hr=>?_
 ·rw [v_no hc.2.2 h]; exact .none'
 ·rw [v_no hc.2.2 h]; exact .none'
 rw [v_at hk,if_neg (fun q=>q.elim hc.2.2 hc.2.1),if_pos hc.1]
 refine sg_rel (P:=fun x w=>Rel (realK0 c k x) (realsT c (.n k :: w))) (d:=46) (by decide) rfl hs hr (fun h=>?_) fun r1 h1=>?_
 ·rw [show realsT c (.n k :: tokS r)=none from iteF (show (isSg 46 (tokS r)[0]?&&_)=false by rw [h]; rfl)]; exact .none'
 refine size_rel (P:=fun x w=>Rel (realK1 c k x) (realsT c (.n k :: .sg 46 :: w))) h1 (fun w h=>?_) (fun d r w h=>?_) fun d r2 hd hs2 hr2=>?_
 ·rw [show realsT c (.n k :: .sg 46 :: w)=none from iteF h]; exact .none'
 ·rw [show realsT c (.n k :: .sg 46 :: w)=none from iteF h]; exact iteP (P:=fun x=>Rel x none) (fun _=>.hol) fun _=>.hol
 rw [show realsT c (.n k :: .sg 46 :: .n d :: tokS r2)=_ from iteT (nGe hd)]
 show Rel (ite _ _ _) _
 by_cases q:c=70∨c=68
 ·rw [if_pos q,if_pos q]; exact .ok _ r2
 rw [if_neg q,if_neg q]
 refine sg_rel (P:=fun x w=>Rel (realK2 c k d r2 x) (if isSg 69 w[0]? then (if nAt 1 w[1]? then some (.nums [c] [nI k,nI d,nI (nv w[1]?)],w.drop 2) else none) else some (.nums [c] [nI k,nI d,none],w))) (d:=69) (by decide) rfl hs2 hr2 (fun h=>?_) fun r3 h3=>?_
 ·rw [iteF h]; exact .ok _ r2
 refine size_rel (P:=fun x w=>Rel (realK3 c k d x) (if nAt 1 w[0]? then some (.nums [c] [nI k,nI d,nI (nv w[0]?)],w.drop 1) else none)) h3 (fun w h=>?_) (fun e r w h=>?_) fun e r4 he _ _=>?_
 ·rw [iteF h]; exact .none'
 ·rw [iteF h]; exact .hol
 ·rw [show nAt 1 (Tk.n e :: tokS r4)[0]?=true from nGe he]; exact .ok _ r4
theorem loose_text {i:It} (h1:i.word≠[47]) (h2:i.word≠[58]) (s:Txt):loose i (.text s)=false:=by
 unfold loose
 rw [decide_eq_false h1,decide_eq_false h2]
 exact Bool.and_false _
theorem rel_tab {w:Txt} {r:Txt} (hr:r.length≤9000):Rel (tabC w r) (if nAt 1 (tokS r)[0]?=true then some (.nums w [nI (nv (tokS r)[0]?)],(tokS r).drop 1) else none):=by
 show Rel ((sizeC 1 r).map fun p=>(.nums w [some (p.1:Int)],p.2)) _
 exact size_rel (P:=fun x t=>Rel (x.map fun p=>(.nums w [some (p.1:Int)],p.2)) (if nAt 1 t[0]?=true then some (.nums w [nI (nv t[0]?)],t.drop 1) else none)) hr (fun w h=>by rw [iteF h]; exact .none')
  (fun k r w h=>by rw [iteF h]; exact .hol) fun k r hk _ _=>by rw [show nAt 1 (Tk.n k :: tokS r)[0]?=true from nGe hk]; exact .ok _ r
theorem rel_value {c:Nat} {u:Txt} (hu:u.length≤9000):Rel (valueC c u) (valuedT (.sg c :: tokS u)):=by
 unfold valueC
 by_cases q1:c=73
 ·subst q1
  rw [if_pos rfl]; exact rel_whole hu
 rw [if_neg q1]
 by_cases q2:c=76
 ·subst q2
  rw [if_pos rfl]; exact rel_tab hu
 rw [if_neg q2]
 by_cases q3:c=65
 ·subst q3
  rw [if_pos rfl]
  have la:∀ s,loose (.nums [65] [none]) (.text s)=false:=fun s=>loose_text (by decide) (by decide) s
  have e0:∀ {w:List Tk},isN w[0]?=false→valuedT (.sg 65 :: w)=some (.nums [65] [none],w):=fun h=>if_pos ⟨rfl,h⟩
  cases numCase u hu with
  | no v h1 h2 h3 h4=>rw [e0 h4,h1,h3]; exact .ok _ v
  | big w h1 h2=>rw [h2,e0 rfl,h1]; exact .doomA _ _ _ (.inl rfl) la ⟨w,.inl rfl⟩
  | hol k r h1 h2 hsu =>
   rw [h2,e0 (hTok_nN k r),h1]
   refine .doomA _ _ _ (iteP (P:=doomed) (fun _=>.inl rfl) fun _=>.inr ⟨_,_,rfl⟩) la ⟨tokS (r.drop k),?_⟩
   exact (hTok_or k r).imp (fun e=>by rw [e]) fun ⟨s,e⟩=>⟨s,by rw [e]⟩
  | yes k r h1 h2 h3 h4 hsu =>
   rw [h4,h1]
   show Rel (ite _ _ _) _
   by_cases q:k=0
   ·subst q; exact .none'
   ·rw [if_neg q,v_at (Nat.pos_of_ne_zero q)]; exact .ok _ r
 rw [if_neg q3]
 exact rel_real hu ⟨q1,q2,q3⟩
theorem rel_scale {c:Nat} {r:Txt} (hr:r.length≤9000) (hc:c=43∨c=45):Rel (scaleC c r) (controlT (.sg c :: tokS r)):=by
 have e:∀ w:List Tk,controlT (.sg c :: w)=if (isN w[0]?&&isSg 80 w[1]?)=true then some (.nums [80] [some (if c=45 then -(nv w[0]?:Int) else (nv w[0]?:Int))],w.drop 2) else none:=fun w=>by
  rcases hc with rfl | rfl
  ·exact Eq.trans (b:=if ((43=43∨43=45)∧(isN w[0]?&&isSg 80 w[1]?)=true) then some (.nums [80] [some (nv w[0]?:Int)],w.drop 2) else none) rfl (by by_cases q:(isN w[0]?&&isSg 80 w[1]?)=true <;> simp only [q] <;> rfl)
  ·exact Eq.trans (b:=if ((45=43∨45=45)∧(isN w[0]?&&isSg 80 w[1]?)=true) then some (.nums [80] [some (-(nv w[0]?:Int))],w.drop 2) else none) rfl (by by_cases q:(isN w[0]?&&isSg 80 w[1]?)=true <;> simp only [q] <;> rfl)
 have no:∀ {w:List Tk},nAt 0 w[0]?=false→isN w[0]?=false:=fun {w} h=>by
  rw [nAt,decide_eq_true (Nat.zero_le _),Bool.and_true] at h; exact h
 rw [scaleC_K]
 refine size_rel (P:=fun x w=>Rel (scaleK c x) (controlT (.sg c :: w))) hr (fun w h=>?_) (fun k r w h=>?_) fun k r _ hs hr=>?_
 ·rw [e,no h]; exact .none'
 ·rw [e,no h]; exact .none'
 rw [e]
 refine sg_rel (P:=fun x w=>Rel (scaleK1 c k x) (if isSg 80 w[0]?=true then some (.nums [80] [some (if c=45 then -(k:Int) else (k:Int))],w.drop 1) else none)) (d:=80) (by decide) rfl hs hr (fun h=>?_) fun r1 h1=>?_
 ·rw [iteF h]; exact .none'
 ·show Rel _ (some (_,tokS r1)); exact .ok _ r1
theorem numC_skip (r:Txt):numC (skip r)=numC r:=by
 unfold numC; rw [skip_skip]
theorem tabC_skip (w r:Txt):tabC w (skip r)=tabC w r:=by
 unfold tabC sizeC; rw [numC_skip]
theorem two_rel {a b:Nat} {r:Txt} (ha:(a==39||isDig a)=false) (hb:(b==39||isDig b)=false) {P:Txt→List Tk→Prop} (pa:∀ r',r'.length≤r.length→P (a :: r') (.sg a :: tokS r')) (pb:∀ r',r'.length≤r.length→P (b :: r') (.sg b :: tokS r'))
  (no:(∀ d r',skip r=d :: r'→¬ (d=a∨d=b))→isSg a (tokS r)[0]?=false→isSg b (tokS r)[0]?=false→P (skip r) (tokS r)):P (skip r) (tokS r):=by
 simp only [Bool.or_eq_false_iff,beq_eq_false_iff_ne] at ha hb
 have hl:=(skip_suf r).len
 by_cases qa:∃ r',skip r=a :: r'
 ·obtain ⟨r',e⟩:=qa
  rw [e] at hl
  rw [hd_yes ha.1 ha.2 (by rw [e]; exact if_pos rfl),e]; exact pa r' (Nat.le_of_succ_le hl)
 by_cases qb:∃ r',skip r=b :: r'
 ·obtain ⟨r',e⟩:=qb
  rw [e] at hl
  rw [hd_yes hb.1 hb.2 (by rw [e]; exact if_pos rfl),e]; exact pb r' (Nat.le_of_succ_le hl)
 have n:∀ {x:Nat},(¬ ∃ r',skip r=x :: r')→aft x (skip r)=none:=fun {x} h=>by
  cases hs:skip r with
  | nil=>rfl
  | cons d r'=>exact (if_neg fun q:d=x=>h ⟨r',by rw [← q]; exact hs⟩:(if d=x then some r' else none)=none)
 exact no (fun d r' e q=>q.elim (fun q=>qa ⟨r',q ▸ e⟩) fun q=>qb ⟨r',q ▸ e⟩) (hd_no ha.2 (n qa)) (hd_no hb.2 (n qb))
theorem rel_control {c:Nat} {r:Txt} (hr:r.length≤9000) (h4:¬ (c=43∨c=45)):Rel (controlC c r) (controlT (.sg c :: tokS r)):=by
 unfold controlC
 show Rel _ (ite _ _ _)
 by_cases q1:c=47∨c=58
 ·rw [if_pos q1,if_pos q1]; exact .ok _ r
 rw [if_neg q1,if_neg q1,if_neg (c:=(c=43∨c=45)∧(isN (tokS r)[0]?&&isSg 80 (tokS r)[1]?)=true) (fun h=>h4 h.1)]
 by_cases q3:c=83
 ·rw [if_pos q3,if_pos q3]
  refine two_rel (P:=fun u w=>Rel (cc83 u) (ct83 w)) (a:=80) (b:=83) rfl rfl (fun r' _=>.ok _ r') (fun r' _=>.ok _ r') fun h ha hb=>?_
  rw [show ct83 (tokS r)=some (.nums [83] [],tokS r) from (iteF ha).trans (iteF hb),← tokS_skip r]
  cases hs:skip r with
  | nil=>exact .ok _ []
  | cons d r'=>show Rel (ite (d=80∨d=83) _ _) _; rw [if_neg (h d r' hs)]; exact .ok _ (d :: r')
 rw [if_neg q3,if_neg q3]
 by_cases q5:c=66
 ·rw [if_pos q5,if_pos q5]
  refine two_rel (P:=fun u w=>Rel (cc66 u) (ct66 w)) (a:=78) (b:=90) rfl rfl (fun r' _=>.ok _ r') (fun r' _=>.ok _ r') fun h ha hb=>?_
  rw [show ct66 (tokS r)=none from (iteF ha).trans (iteF hb)]
  cases hs:skip r with
  | nil=>exact .none'
  | cons d r'=>show Rel (ite (d=78∨d=90) _ _) _; rw [if_neg (h d r' hs)]; exact .none'
 rw [if_neg q5,if_neg q5]
 by_cases q6:c=84
 ·rw [if_pos q6,if_pos q6]
  refine two_rel (P:=fun u w=>Rel (cc84 u) (ct84 w)) (a:=76) (b:=82) rfl rfl (fun r' h=>rel_tab (Nat.le_trans h hr)) (fun r' h=>rel_tab (Nat.le_trans h hr)) fun h ha hb=>?_
  rw [show ct84 (tokS r)=if nAt 1 (tokS r)[0]? then some (.nums [84] [nI (nv (tokS r)[0]?)],(tokS r).drop 1) else none from (iteF ha).trans (iteF hb)]
  have k:=rel_tab (w:=[84]) hr
  cases hs:skip r with
  | nil=>rw [← tabC_skip,hs] at k; exact k
  | cons d r'=>show Rel (ite (d=76∨d=82) _ _) _; rw [if_neg (h d r' hs),← hs,tabC_skip]; exact k
 rw [if_neg q6,if_neg q6]
 exact .none'
theorem quoted_qs:∀ (m:Nat) (u out:Txt),u.length≤m→quotedGo out u=match (qs out u).2 with
  | []=>none
  | _ :: r=>if (qs out u).1=[] then none else some (.text (qs out u).1,r)
 | _,[],out,h=>rfl
 | m + 1,c :: r,out,h=>by
  by_cases q:c=39
  ·subst q
   cases r with
   | nil=>rfl
   | cons d r' =>
    by_cases q2:d=39
    ·subst q2; rw [quo_two,qs_two]; exact quoted_qs m r' _ (Nat.le_of_succ_le (Nat.le_of_succ_le_succ h))
    ·rw [quo_out q2,qs_out q2]
  ·rw [quo_on q,qs_on q]; exact quoted_qs m r _ (Nat.le_of_succ_le_succ h)
theorem rel_quoted {r:Txt}:Rel (quotedGo [] r) (singleT (tokS (39 :: r))):=by
 have e:tokS (39 :: r)=(qTok (qs [] r)).1 :: tokS (qTok (qs [] r)).2:=by
  rw [tokS_cons (show skip (39 :: r)=39 :: r by simp [skip])]
  simp [tok1]
 rw [e,quoted_qs _ r [] (Nat.le_refl _)]
 generalize qs [] r=p
 obtain ⟨s,r2⟩:=p
 cases r2 with
 | nil =>
  have:qTok (s,[])=(.bad,[]):=rfl
  rw [this]
  exact .none'
 | cons d r3 =>
  by_cases q:s=[]
  ·subst q
   have:qTok ([],d :: r3)=(.bad,r3):=by simp [qTok]
   rw [this]
   simp only [if_true]
   exact .none'
  ·have:qTok (s,d :: r3)=(.t s,r3):=by simp [qTok,q]
   rw [this]
   simp only [if_neg q]
   exact .ok _ r3
end Mine.P
end
section
namespace Mine.P
theorem singleT_sg {c:Nat} {w:List Tk}:singleT (.sg c :: w)=if isVal c then valuedT (.sg c :: w) else controlT (.sg c :: w):=rfl
theorem rel_of {x x':Option (It × Txt)} {y y':Option (It × List Tk)} (h1:x=x') (h2:y=y') (h:Rel x' y'):Rel x y:=by rw [h1,h2]; exact h
theorem rel_rep {x:Option (It × Txt)} {y:Option (It × List Tk)} {k:Nat} (h:Rel x y):Rel (x.map fun p=>(if 1 < k then It.rep k p.1 else p.1,p.2)) (y.map fun p=>(if 1 < k then It.rep k p.1 else p.1,p.2)):=by
 have dm:∀ {x},doomed x→doomed (x.map fun p=>(if 1 < k then It.rep k p.1 else p.1,p.2)):=by
  intro x h
  rcases h with rfl | ⟨i,r,rfl⟩
  ·exact .inl rfl
  ·exact .inr ⟨_,_,rfl⟩
 cases h with
 | ok i r=>exact .ok _ r
 | doom x h=>exact .doom _ (dm h)
 | doomA x i w h h1 h2=>exact .doomA _ _ _ (dm h) (fun s=>iteP (P:=fun i=>loose i (.text s)=false) (fun _=>loose_text (i:=.rep k i) (by show ([_,_,_,_,_,_]:Txt)≠_; decide) (by show ([_,_,_,_,_,_]:Txt)≠_; decide) s) fun _=>h1 s) h2
theorem skip_hd {c:Nat} {r:Txt} (h:skip (c :: r)=c :: r):c≠32:=by
 intro q; subst q
 have:=skip_len r
 rw [show skip r=32 :: r from h] at this
 exact Nat.not_succ_le_self _ this
theorem valO_no {c:Nat} {r:Txt} (hs:skip (c :: r)=c :: r) (h:¬ isVal c=true):valO (tokS (c :: r))[0]?=false:=by
 refine Bool.eq_false_iff.mpr fun q=>?_
 obtain ⟨d,v,e,hv⟩:=valO_sg q
 have n:=val_ne hv
 have:=hd_no (d:=d) (r:=c :: r) n.2.2.2.2.2.2.2 (by rw [hs]; exact if_neg fun q:c=d=>h (q ▸ hv))
 rw [e,show isSg d (Tk.sg d :: v)[0]?=true from beq_self_eq_true d] at this
 cases this
theorem rel_num {g:Nat→Txt→Option (It × Txt)} {k:Nat} {r:Txt} (hr:r.length≤9000) (h72:aft 72 r=none) (hs:skip r=r) (hnp:∀ r',r=40 :: r'→k=0):Rel (cntK g k r) (singleT (.n k :: tokS r)):=by
 cases r with
 | nil=>cases k <;> exact .none'
 | cons c r =>
  have no:∀ d,isDig d=false→c≠d→isSg d (tokS (c :: r))[0]?=false:=fun d hd hne=>hd_no hd (by rw [hs]; exact if_neg hne)
  have ok:isDig c=false→c≠39→tokS (c :: r)=.sg c :: tokS r:=fun a b=>hd_yes b a (by rw [hs]; exact if_pos rfl)
  by_cases q1:c=80
  ·subst q1; rw [ok rfl (by decide)]; exact .ok _ r
  refine rel_of (if_neg q1) (iteF (no 80 rfl q1)) ?_
  by_cases q0:k=0
  ·subst q0; exact .none'
  have hk:=Nat.pos_of_ne_zero q0
  by_cases q2:c=88
  ·subst q2; rw [ok rfl (by decide)]; exact rel_of (if_neg q0) (if_pos ⟨hk,rfl⟩) (.ok _ r)
  refine rel_of ((if_neg q0).trans ((if_neg q2).trans ((if_neg fun q:c=72=>by subst q; cases h72).trans (if_neg fun q:c=40=>q0 (hnp r (q ▸ rfl)))))) (if_neg fun h=>by rw [no 88 rfl q2] at h; exact Bool.noConfusion h.2) ?_
  by_cases q4:isVal c=true
  ·have hv:=val_ne q4
   rw [ok hv.2.2.2.2.2.2.2 hv.2.2.2.2.1]
   exact rel_of (if_pos q4) (if_pos ⟨hk,q4⟩) (rel_rep (rel_value (Nat.le_of_succ_le hr)))
  ·exact rel_of (if_neg q4) (if_neg fun h=>by rw [valO_no hs q4] at h; exact Bool.noConfusion h.2) .none'
theorem numC_some {c:Nat} {r v:Txt} (hd:isDig c=true) (h:numC (c :: r)=some (none,v)):False:=by
 rw [numC_dig hd] at h
 obtain ⟨p,_,h⟩:=Option.map_eq_some_iff.mp h
 cases h
theorem numC_no {c:Nat} {r:Txt} (hs:skip (c :: r)=c :: r) (hq:isDig c=false):numC (c :: r)=some (none,c :: r):=by
 unfold numC; rw [hs]; exact iteF hq
theorem rel_item {g:Nat→Txt→Option (It × Txt)} {c:Nat} {r:Txt} (hr:r.length≤8000) (h32:c≠32) (h40:c≠40) (hnp:∀ k r',isDig c=true→numC (c :: r)=some (some k,40 :: r')→k=0) :
  Rel (itemC g (c :: r)) (singleT (tokS (c :: r))):=by
 by_cases hd:isDig c=true
 ·refine rel_of (if_pos hd) rfl ?_
  cases numCase (c :: r) (Nat.le_trans (Nat.succ_le_succ hr) (by decide)) with
  | no v h1=>exact (numC_some hd h1).elim
  | big w h1 h2=>rw [h2]; unfold countedC; rw [h1]; exact .none'
  | hol k r1 h1 h2 hsu =>
   rw [h2,cnt_some h1]
   show Rel (if k=0 then none else countedText r1 k) _
   unfold hTok countedText
   by_cases q:k=0
   ·subst q; exact .none'
   rw [if_neg q]
   by_cases q2:k≤r1.length
   ·rw [if_pos q2,if_pos ⟨Nat.pos_of_ne_zero q,q2⟩]; exact .ok _ _
   ·rw [if_neg q2,if_neg (fun h=>q2 h.2)]; exact .none'
  | yes k r1 h1 h2 h3 h4 hsu =>
   rw [h4,cnt_some h1]
   exact rel_num (Nat.le_trans hsu.len (Nat.le_trans (Nat.succ_le_succ hr) (by decide))) h2 h3 fun r' e=>hnp k r' hd (e ▸ h1)
 refine rel_of (if_neg hd) rfl ?_
 have hd':isDig c=false:=Bool.eq_false_iff.mpr hd
 have hr':=Nat.le_trans hr (show 8000≤9000 by decide)
 by_cases q1:c=39
 ·subst q1; exact rel_quoted
 rw [if_neg q1,tk_sg h32 q1 hd',singleT_sg]
 by_cases q2:c=43∨c=45
 ·exact rel_of (if_pos q2) (iteF (by rcases q2 with rfl | rfl <;> rfl)) (rel_scale hr' q2)
 rw [if_neg q2,if_neg h40]
 by_cases q3:isVal c=true
 ·exact rel_of (if_pos q3) (if_pos q3) (rel_value hr')
 ·exact rel_of (if_neg q3) (if_neg q3) (rel_control hr' q2)
theorem iteE {α:Type} {c:Prop} [Decidable c] {x x' y y':α} (h1:c→x=x') (h2:¬ c→y=y'):(if c then x else y)=if c then x' else y':=by
 by_cases q:c
 ·rw [if_pos q,if_pos q]; exact h1 q
 ·rw [if_neg q,if_neg q]; exact h2 q
theorem mach_irr:∀ (M M':Nat) (B:List (Nat × List It × Bool)) (k:Nat) (acc:List It) (after:Bool) (w:List Tk),w.length < M→w.length < M'→mach M B k acc after w=mach M' B k acc after w
 | M + 1,M' + 1,B,k,acc,after,w,h1,h2=>by
  have go:∀ {d:Nat} {B k acc after},0 < d→d≤w.length→mach M B k acc after (w.drop d)=mach M' B k acc after (w.drop d):=by
   intro d B k acc after h hd
   exact mach_irr M M' _ _ _ _ _ (by rw [List.length_drop]; omega) (by rw [List.length_drop]; omega)
  refine iteE (fun q=>iteE (fun _=>rfl) fun _=>go (d:=1) (by decide) (lt_of_sg q)) fun _=>iteE (fun q=>iteE (fun _=>rfl) fun _=>?_) fun _=>iteE (fun q=>go (d:=1) (by decide) (lt_of_sg q)) fun _=>iteE (fun q=>go (d:=2) (by decide) (lt_of_sg (Bool.and_eq_true_iff.mp (Bool.and_eq_true_iff.mp q).2).2)) fun _=>?_
  ·rcases B with _ | ⟨⟨k',acc',after'⟩,B⟩
   ·rfl
   ·exact iteE (fun _=>rfl) fun _=>iteE (fun _=>rfl) fun _=>go (d:=1) (by decide) (lt_of_sg q)
  ·cases hs:singleT w with
   | none=>rfl
   | some p =>
    obtain ⟨i,w'⟩:=p
    obtain ⟨d,h0,hd,rfl,_⟩:=singleT_ok hs
    exact iteE (fun _=>rfl) fun _=>go h0 hd
noncomputable def machS (B:List (Nat × List It × Bool)) (k:Nat) (acc:List It) (after:Bool) (w:List Tk):Option (List It):=mach (w.length + 1) B k acc after w
noncomputable def closeS (B:List (Nat × List It × Bool)) (k:Nat) (l:List It) (w:List Tk):Option (List It):=match B with
 | []=>if w.isEmpty then some l else none
 | (k',acc',after') :: B'=>if l.isEmpty then none else if !after'&&!looseLast acc' (.grp k l) then none else machS B' k' (acc'++[.grp k l]) false w
theorem mach_S {M:Nat} {B:List (Nat × List It × Bool)} {k:Nat} {acc:List It} {after:Bool} {w:List Tk} (h:w.length < M):mach M B k acc after w=machS B k acc after w:=mach_irr _ _ _ _ _ _ _ h (Nat.lt_succ_self _)
noncomputable def msK (B:List (Nat × List It × Bool)) (k:Nat) (acc:List It) (after:Bool):Option (It × List Tk)→Option (List It)
 | none=>none
 | some (i,w')=>if !after&&!looseLast acc i then none else machS B k (acc++[i]) false w'
section
variable {B:List (Nat × List It × Bool)} {k:Nat} {acc:List It} {after:Bool} {w:List Tk}
theorem m_comma:machS B k acc after (.sg 44 :: w)=if after||acc.isEmpty then none else machS B k acc true w:=(mach_succ ..).trans (iteT (by rfl))
theorem m_close:machS B k acc after (.sg 41 :: w)=if after then none else closeS B k acc w:=by
 rcases B with _ | ⟨⟨k',acc',after'⟩,B⟩ <;> exact (mach_succ ..).trans ((iteF (by rfl)).trans (iteT (by rfl)))
theorem m_open:machS B k acc after (.sg 40 :: w)=machS ((k,acc,after) :: B) 1 [] false w:=(mach_succ ..).trans ((iteF (by rfl)).trans ((iteF (by rfl)).trans (iteT (by rfl))))
theorem m_nopen {m:Nat} (hm:0 < m):machS B k acc after (.n m :: .sg 40 :: w)=machS ((k,acc,after) :: B) m [] false w :=
 (mach_succ ..).trans ((iteF (by rfl)).trans ((iteF (by rfl)).trans ((iteF (by rfl)).trans ((iteT (show (true&&(decide (0 < m)&&true))=true by rw [decide_eq_true hm]; rfl)).trans (mach_S (Nat.lt_succ_of_lt (Nat.lt_succ_self _)))))))
noncomputable def hd0 (w:List Tk):Prop:=isSg 44 w[0]?=false∧isSg 41 w[0]?=false∧isSg 40 w[0]?=false∧(isN w[0]?&&(decide (0 < nv w[0]?)&&isSg 40 w[1]?))=false
theorem m_item (h:hd0 w):machS B k acc after w=msK B k acc after (singleT w):=by
 refine (mach_succ ..).trans ((iteF h.1).trans ((iteF h.2.1).trans ((iteF h.2.2.1).trans ((iteF h.2.2.2).trans ?_))))
 cases hs:singleT w with
 | none=>rfl
 | some p =>
  obtain ⟨i,w'⟩:=p
  obtain ⟨d,h0,hd,rfl,_⟩:=singleT_ok hs
  exact iteE (fun _=>rfl) fun _=>mach_S (by rw [List.length_drop]; omega)
end
theorem itemsC_H (f lim:Nat) (acc:List It) (after:Bool) (r:Txt):itemsC f lim acc after (72 :: r)=none:=by
 cases f <;> rfl
theorem mach_t {B:List (Nat × List It × Bool)} {k:Nat} {acc:List It} {i:It} {w:List Tk} (hi:∀ s,loose i (.text s)=false) (hw:∃ w',w=.bad :: w'∨∃ s,w=.t s :: w'):machS B k (acc++[i]) false w=none:=by
 obtain ⟨w',rfl | ⟨s,rfl⟩⟩:=hw
 ·exact m_item ⟨rfl,rfl,rfl,rfl⟩
 ·refine (m_item ⟨rfl,rfl,rfl,rfl⟩).trans (iteT ?_)
  unfold looseLast
  rw [List.getLast?_concat]
  show (!false&&!loose i (.text s))=true
  rw [hi]; rfl
inductive View (u:Txt):Prop
 | nil:skip u=[]→tokS u=[]→View u
 | comma (r:Txt):skip u=44 :: r→tokS u=.sg 44 :: tokS r→r.length < u.length→View u
 | close (r:Txt):skip u=41 :: r→tokS u=.sg 41 :: tokS r→r.length < u.length→View u
 | opn (k c:Nat) (r r':Txt):skip u=c :: r→¬ (c=44∨c=41)→(∀ g,itemC g (c :: r)=g k r')→(k=1∧tokS u=.sg 40 :: tokS r')∨(0 < k∧tokS u=.n k :: .sg 40 :: tokS r')→r'.length < u.length→View u
 | item (c:Nat) (r:Txt):skip u=c :: r→¬ (c=44∨c=41)→(∀ g,Rel (itemC g (c :: r)) (singleT (tokS u)))→hd0 (tokS u)→r.length < u.length→View u
theorem view {u:Txt} (hu:u.length≤8000):View u:=by
 have hl:=skip_len u
 have hss:=skip_skip u
 have hts:=tokS_skip u
 cases hk:skip u with
 | nil=>exact .nil hk (tokS_nil hk)
 | cons c r =>
  rw [hk] at hl hss hts
  have hl:r.length < u.length:=hl
  have hr:=Nat.le_of_lt (Nat.lt_of_lt_of_le hl hu)
  have h32:=skip_hd hss
  by_cases q44:c=44
  ·subst q44; exact .comma r hk (hts.symm.trans (sg1 rfl)) hl
  by_cases q41:c=41
  ·subst q41; exact .close r hk (hts.symm.trans (sg1 rfl)) hl
  have hc:¬ (c=44∨c=41):=fun q=>q.elim q44 q41
  by_cases q40:c=40
  ·subst q40; exact .opn 1 40 r r hk hc (fun _=>rfl) (.inl ⟨rfl,hts.symm.trans (sg1 rfl)⟩) hl
  have n:=numCase (c :: r) (Nat.le_trans (Nat.succ_le_succ hr) (by decide))
  by_cases hnp:∃ k r',isDig c=true∧numC (c :: r)=some (some k,40 :: r')∧0 < k
  ·obtain ⟨k,r',hd,hn,hk0⟩:=hnp
   refine .opn k c r r' hk hc (fun g=>(if_pos hd).trans ((cnt_some hn).trans (if_neg (Nat.ne_of_gt hk0)))) (.inr ⟨hk0,?_⟩) ?_
   ·rw [← hts]
    cases n with
    | no v g1=>exact (numC_some hd g1).elim
    | big w g1=>rw [hn] at g1; cases g1
    | hol k2 r1 g1=>rw [hn] at g1; cases g1
    | yes k2 r1 g1 g2 g3 g4 g5 =>
     rw [hn] at g1; cases g1
     exact g4.trans (congrArg _ (sg1 rfl))
   ·have:=(numC_suf hn).len
    exact Nat.lt_of_lt_of_le (Nat.lt_of_succ_le this) hl
  have hnp':∀ k r',isDig c=true→numC (c :: r)=some (some k,40 :: r')→k=0:=fun k r' hd hn=>Nat.eq_zero_of_not_pos fun q=>hnp ⟨k,r',hd,hn,q⟩
  have no:∀ d,isDig d=false→c≠d→isSg d (tokS (c :: r))[0]?=false:=fun d hd q=>hd_no hd (by rw [hss]; exact if_neg q)
  refine .item c r hk hc (fun g=>by rw [← hts]; exact rel_item hr h32 q40 hnp') (hts ▸ ⟨no 44 rfl q44,no 41 rfl q41,no 40 rfl q40,?_⟩) hl
  cases n with
  | no v g1 g2 g3 g4=>rw [g4]; rfl
  | big w g1 g2=>rw [g2]; rfl
  | hol k2 r1 g1 g2 g3=>rw [g2]; rw [show isN (hTok k2 r1 :: tokS (r1.drop k2))[0]?=false from hTok_nN k2 r1]; rfl
  | yes k2 r1 g1 g2 g3 g4 g5 =>
   rw [g4]
   show (decide (0 < k2)&&isSg 40 (tokS r1)[0]?)=false
   cases k2 with
   | zero=>rfl
   | succ k2 =>
    refine hd_no rfl ?_
    rw [g3]
    cases r1 with
    | nil=>rfl
    | cons d r2 =>
     refine if_neg fun q:d=40=>?_
     subst q
     refine Nat.noConfusion (hnp' (k2 + 1) r2 ?_ g1)
     cases hq:isDig c with
     | true=>rfl
     | false =>
      rw [numC_no hss hq] at g1
      cases g1
end Mine.P
end
section
namespace Mine.P
noncomputable def stepD (k:Tk) (n:Nat):Nat:=match k with
 | .sg c=>if c=40 then n + 1 else if c=41 then n - 1 else n
 | _=>n
noncomputable def walkOk (n:Nat):List Tk→Prop
 | []=>n=0
 | k :: w=>n≠0∧walkOk (stepD k n) w
noncomputable def fitsC (n:Nat):List Tk→Prop
 | []=>True
 | k :: w=>stepD k n≤11∧fitsC (stepD k n) w
theorem stepD_nb {k:Tk} {n:Nat} (h:nbT (some k)=true):stepD k n=n:=by
 cases k with
 | sg c =>
  have h:=Bool.and_eq_true_iff.mp h
  exact (if_neg (bne_iff_ne.mp h.1)).trans (if_neg (bne_iff_ne.mp h.2))
 | _=>rfl
theorem walk_drop:∀ (j:Nat) (w:List Tk) (n:Nat),n≠0→rnT w j→walkOk n (w.drop j)→walkOk n w
 | 0,_,_,_,_,hw=>hw
 | j + 1,[],n,hn,h,hw=>(hn hw).elim
 | j + 1,k :: w,n,hn,h,hw=>⟨hn,by
  rw [stepD_nb (h 0 (Nat.succ_pos j))]
  exact walk_drop j w n hn (fun i hi=>h (i + 1) (Nat.succ_lt_succ hi)) hw⟩
theorem fits_drop:∀ (j:Nat) (w:List Tk) (n:Nat),rnT w j→fitsC n w→fitsC n (w.drop j)
 | 0,_,_,_,hw=>hw
 | j + 1,[],_,_,_=>trivial
 | j + 1,k :: w,n,h,hw=>by
  have h2:=hw.2
  rw [stepD_nb (h 0 (Nat.succ_pos j))] at h2
  exact fits_drop j w n (fun i hi=>h (i + 1) (Nat.succ_lt_succ hi)) h2
noncomputable def WkO (n:Nat) (w:List Tk) (x:Option (List It)):Prop:=∀ l,x=some l→walkOk n w
theorem wk_no {n:Nat} {w:List Tk}:WkO n w none:=fun _ h=>nomatch h
theorem mach_walk:∀ (M:Nat) (B:List (Nat × List It × Bool)) (k:Nat) (acc:List It) (after:Bool) (w:List Tk),WkO (B.length + 1) w (mach M B k acc after w)
 | 0,B,k,acc,after,w=>wk_no
 | M + 1,B,k,acc,after,w=>by
  have h1:B.length + 1≠0:=Nat.succ_ne_zero _
  rw [mach_succ]
  refine iteP (P:=WkO (B.length + 1) w) (fun q=>?_) fun _=>iteP (P:=WkO (B.length + 1) w) (fun q=>?_) fun _=>iteP (P:=WkO (B.length + 1) w) (fun q=>?_) fun _=>iteP (P:=WkO (B.length + 1) w) (fun q=>?_) fun _=>?_
  ·obtain ⟨v,rfl⟩:=sg_cons q
   exact iteP (P:=WkO (B.length + 1) (.sg 44 :: v)) (fun _=>wk_no) fun _ l h=>⟨h1,mach_walk M _ _ _ _ _ l h⟩
  ·obtain ⟨v,rfl⟩:=sg_cons q
   refine iteP (P:=WkO (B.length + 1) (.sg 41 :: v)) (fun _=>wk_no) fun _=>?_
   rcases B with _ | ⟨⟨k',acc',after'⟩,B⟩
   ·refine iteP (P:=WkO 1 (.sg 41 :: v)) (fun q2 l h=>⟨h1,?_⟩) fun _=>wk_no
    rw [show v=[] from List.isEmpty_iff.mp q2]; rfl
   ·exact iteP (P:=WkO (B.length + 1 + 1) (.sg 41 :: v)) (fun _=>wk_no) fun _=>iteP (P:=WkO (B.length + 1 + 1) (.sg 41 :: v)) (fun _=>wk_no) fun _ l h=>⟨h1,mach_walk M _ _ _ _ _ l h⟩
  ·obtain ⟨v,rfl⟩:=sg_cons q
   exact fun l h=>⟨h1,mach_walk M _ _ _ _ _ l h⟩
  ·obtain ⟨qa,qb⟩:=Bool.and_eq_true_iff.mp q
   obtain ⟨m,v,rfl⟩:=isN_n qa
   obtain ⟨v,rfl⟩:=sg_cons (w:=v) (Bool.and_eq_true_iff.mp qb).2
   exact fun l h=>⟨h1,h1,mach_walk M _ _ _ _ _ l h⟩
  ·cases hs:singleT w with
   | none=>exact wk_no
   | some p =>
    obtain ⟨i,w'⟩:=p
    obtain ⟨j,a,b,rfl,d⟩:=singleT_rn w _ _ hs
    exact iteP (P:=WkO (B.length + 1) w) (fun _=>wk_no) fun _ l h=>walk_drop j w _ h1 b (mach_walk M _ _ _ _ _ l h)
end Mine.P
end
section
namespace Mine.P
noncomputable def kE (B:List (Nat × List It × Bool)) (k:Nat):Option (List It × Txt)→Option (List It)
 | none=>none
 | some (l,r)=>closeS B k l (tokS r)
noncomputable def stK (f lim:Nat) (acc:List It) (after:Bool):Option (It × Txt)→Option (List It × Txt)
 | none=>none
 | some (i,u')=>if !after&&!looseLast acc i then none else itemsC f lim (acc++[i]) false u'
theorem itemsC_st (f lim:Nat) (acc:List It) (after:Bool) {u:Txt} {c:Nat} {r:Txt} (h:skip u=c :: r):itemsC (f + 1) lim acc after u =
  if c=44∨c=41 then (if after||(c=44&&acc.isEmpty) then none else if c=41 then some (acc,r) else itemsC f lim acc true r) else stK f lim acc after (itemC (grpC f lim) (c :: r)):=by
 rw [itemsC_succ,h]; rfl
structure Lid (Ok Ok':Nat→List Tk→Prop):Prop where
 comma:∀ {n w},Ok n (.sg 44 :: w)→Ok n w
 close:∀ {n w},Ok n (.sg 41 :: w)→Ok' n w
 opn:∀ {n w},Ok n (.sg 40 :: w)→∃ m,n=m + 1∧Ok m w∧∀ w',Ok' m w'→Ok n w'
 nop:∀ {n k w},Ok n (.n k :: .sg 40 :: w)→Ok n (.sg 40 :: w)
 item:∀ {n w i w'},singleT w=some (i,w')→Ok n w→Ok n w'
section
variable {Ok Ok':Nat→List Tk→Prop} {B:List (Nat × List It × Bool)} {k:Nat}
noncomputable def Eq1 (Ok':Nat→List Tk→Prop) (lim:Nat) (B:List (Nat × List It × Bool)) (k:Nat) (x:Option (List It)) (y:Option (List It × Txt)):Prop:=x=kE B k y∧∀ l r,y=some (l,r)→Ok' lim (tokS r)
theorem eq1_no {lim:Nat}:Eq1 Ok' lim B k none none:=⟨rfl,fun _ _ h=>nomatch h⟩
theorem eq1_if {lim:Nat} {c:Bool} {x:Option (List It)} {y:Option (List It × Txt)} (h:c=false→Eq1 Ok' lim B k x y):Eq1 Ok' lim B k (if c=true then none else x) (if c=true then none else y):=by
 cases c with
 | true=>exact eq1_no
 | false=>exact h rfl
noncomputable def EqF (Ok Ok':Nat→List Tk→Prop) (f:Nat):Prop:=∀ (lim:Nat) (acc:List It) (after:Bool) (u:Txt) (B:List (Nat × List It × Bool)) (k:Nat),u.length≤8000→u.length < f→Ok lim (tokS u)→Eq1 Ok' lim B k (machS B k acc after (tokS u)) (itemsC f lim acc after u)
theorem eq_grp (L:Lid Ok Ok') {f:Nat} (ih:EqF Ok Ok' f) {lim:Nat} {acc:List It} {after:Bool} {r:Txt} {j:Nat} (h0:r.length≤8000) (h1:r.length < f) (hF:Ok lim (.sg 40 :: tokS r)) :
  Eq1 Ok' lim B k (machS ((k,acc,after) :: B) j [] false (tokS r)) (stK f lim acc after (grpC f lim j r)):=by
 obtain ⟨m,rfl,g1,g2⟩:=L.opn hF
 obtain ⟨e1,e2⟩:=ih m [] false r ((k,acc,after) :: B) j h0 h1 g1
 rw [e1]
 unfold grpC
 dsimp only
 cases hi:itemsC f m [] false r with
 | none=>exact eq1_no
 | some p =>
  obtain ⟨l,r2⟩:=p
  have hr2:=Nat.le_of_succ_le (itemsC_suf _ _ _ _ _ hi).len
  cases l with
  | nil=>exact eq1_no
  | cons i l=>exact eq1_if fun _=>ih (m + 1) _ false r2 B k (Nat.le_trans hr2 h0) (Nat.lt_of_le_of_lt hr2 h1) (g2 _ (e2 _ r2 hi))
theorem eq_item (L:Lid Ok Ok') {f:Nat} (ih:EqF Ok Ok' f) {lim:Nat} {acc:List It} {after:Bool} {w:List Tk} {x:Option (It × Txt)} (hF:Ok lim w) (hr:∀ i r,x=some (i,r)→r.length≤8000∧r.length < f) {y:Option (It × List Tk)} (hy:singleT w=y) (h:Rel x y):Eq1 Ok' lim B k (msK B k acc after y) (stK f lim acc after x):=by
 have dm:∀ {x},doomed x→stK f lim acc after x=none:=fun h=>by
  rcases h with rfl | ⟨i,r,rfl⟩
  ·rfl
  ·exact (congrArg _ (itemsC_H ..)).trans (ite_self _)
 cases h with
 | ok i r =>
  have h:=hr i r rfl
  exact eq1_if fun _=>ih lim _ false r B k h.1 h.2 (L.item hy hF)
 | doom x h=>rw [dm h]; exact eq1_no
 | doomA x i w h g1 g2 =>
  rw [dm h,show msK B k acc after (some (i,w))=none from (congrArg _ (mach_t g1 g2)).trans (ite_self _)]
  exact eq1_no
theorem eqvG (L:Lid Ok Ok'):∀ f,EqF Ok Ok' f
 | 0=>fun _ _ _ _ _ _ _ h=>(Nat.not_lt_zero _ h).elim
 | f + 1=>by
  intro lim acc after u B k h0 h1 hF
  have ih:=eqvG L f
  have lt:∀ {r:Txt},r.length < u.length→r.length≤8000∧r.length < f:=fun h=>⟨Nat.le_trans (Nat.le_of_lt h) h0,Nat.lt_of_lt_of_le h (Nat.le_of_lt_succ h1)⟩
  cases view h0 with
  | nil a b=>rw [b,itemsC_succ,a]; exact eq1_no
  | comma r a b c =>
   rw [itemsC_st f lim acc after a,b,m_comma]
   rw [b] at hF
   exact eq1_if fun _=>ih lim acc true r B k (lt c).1 (lt c).2 (L.comma hF)
  | close r a b c =>
   rw [itemsC_st f lim acc after a,b,m_close]
   rw [b] at hF
   show Eq1 Ok' lim B k _ (if (after||false)=true then none else some (acc,r))
   rw [Bool.or_false]
   exact eq1_if fun _=>⟨rfl,fun l r2 h=>by cases h; exact L.close hF⟩
  | opn j c r r' a hc hi b d =>
   rw [itemsC_st f lim acc after a,if_neg hc,hi]
   rcases b with ⟨rfl,b⟩ | ⟨hj,b⟩
   ·rw [b] at hF ⊢
    rw [m_open]
    exact eq_grp L ih (lt d).1 (lt d).2 hF
   ·rw [b] at hF ⊢
    rw [m_nopen hj]
    exact eq_grp L ih (lt d).1 (lt d).2 (L.nop hF)
  | item c r a hc hr hd d =>
   rw [itemsC_st f lim acc after a,if_neg hc,m_item hd]
   exact eq_item L ih hF (fun i r2 h=>by
    have:=(itemC_suf (g:=grpC f lim) (fun k u i r h=>(grpC_suf h).tail) h).len
    exact lt (Nat.lt_of_le_of_lt this d)) rfl (hr _)
end
theorem lidF:Lid (fun n w=>n≤10∧fitsC (11 - n) w) (fun n w=>fitsC (10 - n) w) where
 comma h:=⟨h.1,h.2.2⟩
 close {n w} h:=by
  have:=h.2.2
  rwa [show stepD (.sg 41) (11 - n)=10 - n from (Nat.sub_right_comm 11 n 1)] at this
 opn {n w} h:=by
  obtain ⟨h1,h2,h3⟩:=h
  have h2:11 - n + 1≤11:=h2
  have h3:fitsC (11 - n + 1) w:=h3
  cases n with
  | zero=>exact (Nat.not_succ_le_self _ h2).elim
  | succ m =>
   refine ⟨m,rfl,⟨Nat.le_of_succ_le h1,?_⟩,fun w' h'=>⟨h1,?_⟩⟩
   ·rwa [show 11 - (m + 1) + 1=11 - m by omega] at h3
   ·rwa [show 11 - (m + 1)=10 - m from Nat.succ_sub_succ 10 m]
 nop h:=⟨h.1,h.2.2⟩
 item {n w i w'} h1 h:=by
  obtain ⟨j,_,hr,rfl,_⟩:=singleT_rn w _ _ h1
  exact ⟨h.1,fits_drop j w _ hr h.2⟩
theorem lidN:Lid (fun n w=>w.length≤n) (fun n w=>w.length≤n) where
 comma h:=Nat.le_of_succ_le h
 close h:=Nat.le_of_succ_le h
 opn {n w} h:=by
  cases n with
  | zero=>exact (Nat.not_succ_le_zero _ h).elim
  | succ m=>exact ⟨m,rfl,Nat.le_of_succ_le_succ h,fun w' h=>Nat.le_succ_of_le h⟩
 nop h:=Nat.le_of_succ_le h
 item {n w i w'} h1 h:=by
  obtain ⟨j,_,_,rfl,_⟩:=singleT_rn w _ _ h1
  rw [List.length_drop]; exact Nat.le_trans (Nat.sub_le ..) h
noncomputable def NE {α:Type} (x y:Option α):Prop:=x=none∨x=y
theorem iteN {α:Type} {c:Prop} [Decidable c] {x x' y y':Option α} (h1:NE x x') (h2:¬ c→NE y y'):NE (if c then x else y) (if c then x' else y'):=by
 by_cases q:c
 ·rw [if_pos q,if_pos q]; exact h1
 ·rw [if_neg q,if_neg q]; exact h2 q
theorem itemC_mono {g g':Nat→Txt→Option (It × Txt)} (hg:∀ k u,NE (g k u) (g' k u)) (u:Txt):NE (itemC g u) (itemC g' u):=by
 cases u with
 | nil=>exact .inl rfl
 | cons c r =>
  refine iteN ?_ fun _=>iteN (.inr rfl) fun _=>iteN (.inr rfl) fun _=>iteN (hg _ _) fun _=>.inr rfl
  rcases h:numC (c :: r) with _ | ⟨_ | k,v⟩
  ·unfold countedC; rw [h]; exact .inl rfl
  ·unfold countedC; rw [h]; exact .inl rfl
  ·rw [cnt_some h,cnt_some h]
   cases v with
   | nil=>exact .inl rfl
   | cons d v=>exact iteN (.inr rfl) fun _=>iteN (.inl rfl) fun _=>iteN (.inr rfl) fun _=>iteN (.inr rfl) fun _=>iteN (hg _ _) fun _=>.inr rfl
theorem itemsC_mono:∀ (f lim L:Nat) (acc:List It) (after:Bool) (u:Txt),lim≤L→NE (itemsC f lim acc after u) (itemsC f L acc after u)
 | 0,lim,L,acc,after,u,h=>.inl rfl
 | f + 1,lim,L,acc,after,u,h=>by
  have hg:∀ k u,NE (grpC f lim k u) (grpC f L k u):=by
   intro k u
   unfold grpC
   cases lim with
   | zero=>exact .inl rfl
   | succ m =>
    cases L with
    | zero=>exact (Nat.not_succ_le_zero _ h).elim
    | succ M=>exact (itemsC_mono f m M [] false u (Nat.le_of_succ_le_succ h)).imp (fun e=>by dsimp only; rw [e]) fun e=>by dsimp only; rw [e]
  cases hs:skip u with
  | nil=>rw [itemsC_succ,hs]; exact .inl rfl
  | cons c r =>
   rw [itemsC_st f lim acc after hs,itemsC_st f L acc after hs]
   refine iteN (iteN (.inl rfl) fun _=>iteN (.inr rfl) fun _=>itemsC_mono f lim L acc true r h) fun _=>?_
   rcases itemC_mono hg (c :: r) with e | e
   ·rw [e]; exact .inl rfl
   ·rw [← e]
    rcases itemC (grpC f lim) (c :: r) with _ | ⟨i,u'⟩
    ·exact .inl rfl
    ·exact iteN (.inl rfl) fun _=>itemsC_mono f lim L _ false u' h
theorem parse_read {u:Txt} {f:Nat} (hu:u.length≤8000) (hf:u.length < f) (hD:∀ l,readC u=some l→fitsC 1 ((tokS u).drop 1)):parseC f u=readC u:=by
 have hs:=(skip_suf u).len
 unfold parseC
 cases hk:skip u with
 | nil=>unfold readC; rw [tokS_nil hk]; rfl
 | cons c r =>
  rw [hk] at hs
  have hs:r.length < u.length:=hs
  show ite _ _ _=_
  by_cases q:c=40
  ·subst q
   rw [if_pos rfl]
   have htk:tokS u=.sg 40 :: tokS r:=hd_yes (by decide) rfl (by rw [hk]; rfl)
   have hrd:readC u=machS [] 1 [] false (tokS r):=by
    unfold readC
    rw [htk]
    exact (iteT rfl).trans (mach_S (Nat.lt_succ_of_lt (Nat.lt_succ_self _)))
   have fin:∀ (x:Option (List It × Txt)),kE [] 1 x=(match x with
     | some (l,r')=>if skip r'=[] then some l else none
     | none=>none):=by
    intro x
    rcases x with _ | ⟨l,r'⟩
    ·rfl
    ·show ite _ _ _=ite _ _ _
     cases hsk:skip r' with
     | nil=>rw [tokS_nil hsk]; rfl
     | cons d r2=>rw [tokS_cons hsk]; rfl
   have hr:=Nat.le_trans (Nat.le_of_lt hs) hu
   have hf:=Nat.lt_trans hs hf
   cases hr0:readC u with
   | some l =>
    have hF:=hD l hr0
    rw [htk] at hF
    exact (fin _).symm.trans ((eqvG lidF f 10 [] false r [] 1 hr hf ⟨Nat.le_refl _,hF⟩).1.symm.trans (hrd.symm.trans hr0))
   | none =>
    rcases itemsC_mono f 10 (u.length + 10) [] false r (Nat.le_add_left ..) with e1 | e1
    ·rw [e1]
    ·rw [e1]
     exact (fin _).symm.trans ((eqvG lidN f (u.length + 10) [] false r [] 1 hr hf (Nat.le_trans (tokS_len r) (Nat.le_trans (Nat.le_of_lt hs) (Nat.le_add_right ..)))).1.symm.trans (hrd.symm.trans hr0))
  ·rw [if_neg q]
   exact (iteF (hd_no rfl (by rw [hk]; exact if_neg q))).symm
end Mine.P
end
section
namespace Mine.P
noncomputable def tr:Bool × Nat→Nat→Option (Bool × Nat)
 | (true,0),_=>none
 | (true,d + 1),x=>if x=39 then some (false,d + 1) else if x=40 then none else some (true,d + 1)
 | (false,0),x=>if x=32 then some (false,0) else if x=40 then some (false,1) else none
 | (false,d + 1),x=>if x=39 then some (true,d + 1) else if x=40 then (if d + 1≤2 then some (false,d + 2) else none) else
  if x=41 then (if d=0 then some (true,0) else some (false,d)) else if x=72 then none else some (false,d + 1)
noncomputable def run:Bool × Nat→Txt→Option (Bool × Nat)
 | s,[]=>some s
 | s,x :: u=>match tr s x with
  | some s'=>run s' u
  | none=>none
theorem run_on {s s':Bool × Nat} {x:Nat} {u:Txt} (h:tr s x=some s'):run s (x :: u)=run s' u:=congrArg (fun o:Option (Bool × Nat)=>match o with | some s'=>run s' u | none=>none) h
theorem run_inv {s t:Bool × Nat} {x:Nat} {u:Txt} (h:run s (x :: u)=some t):∃ s',tr s x=some s'∧run s' u=some t:=by
 have h:(match tr s x with | some s'=>run s' u | none=>none)=some t:=h
 cases e:tr s x with
 | none=>rw [e] at h; exact (nomatch h)
 | some s'=>rw [e] at h; exact ⟨s',rfl,h⟩
theorem run_app:∀ (p u:Txt) (s:Bool × Nat),run s (p++u)=(run s p).bind fun s'=>run s' u
 | [],u,s=>rfl
 | x :: p,u,s=>by
  show (match tr s x with | some s'=>run s' (p++u) | none=>none)=Option.bind (match tr s x with | some s'=>run s' p | none=>none) _
  cases tr s x with
  | none=>rfl
  | some s'=>exact run_app p u s'
inductive Bt:Nat→Bool × Nat→Txt→Prop
 | fin (e:Nat):Bt e (true,0) []
 | same (e:Nat) (s s':Bool × Nat) (x:Nat) (u:Txt):tr s x=some s'→Bt e s' u→Bt e s (x :: u)
 | ins (e:Nat) (s:Bool × Nat) (x:Nat) (u:Txt):Bt e s u→Bt (e + 1) s (x :: u)
 | del (e:Nat) (s s':Bool × Nat) (x:Nat) (u:Txt):tr s x=some s'→Bt e s' u→Bt (e + 1) s u
 | rpl (e:Nat) (s s':Bool × Nat) (x y:Nat) (u:Txt):tr s x=some s'→Bt e s' u→Bt (e + 1) s (y :: u)
theorem Bt.mono {e e':Nat} {s:Bool × Nat} {u:Txt} (h:Bt e s u):e≤e'→Bt e' s u:=by
 induction h generalizing e' with
 | fin e=>exact fun _=>.fin _
 | same e s s' x u h1 h2 ih=>exact fun hl=>.same _ _ _ _ _ h1 (ih hl)
 | ins e s x u h ih=>intro hl; obtain ⟨k,rfl⟩:∃ k,e'=k + 1:=⟨e' - 1,by omega⟩; exact .ins _ _ _ _ (ih (by omega))
 | del e s s' x u h1 h2 ih=>intro hl; obtain ⟨k,rfl⟩:∃ k,e'=k + 1:=⟨e' - 1,by omega⟩; exact .del _ _ _ _ _ h1 (ih (by omega))
 | rpl e s s' x y u h1 h2 ih=>intro hl; obtain ⟨k,rfl⟩:∃ k,e'=k + 1:=⟨e' - 1,by omega⟩; exact .rpl _ _ _ _ _ _ h1 (ih (by omega))
theorem Bt.of_run:∀ (u:Txt) (s:Bool × Nat),run s u=some (true,0)→Bt 0 s u
 | [],s,h=>Option.some.inj h ▸ .fin 0
 | x :: u,s,h=>by
  obtain ⟨s',ht,h⟩:=run_inv h
  exact .same _ _ _ _ _ ht (Bt.of_run u s' h)
theorem Bt.zero {e:Nat} {s:Bool × Nat} {u:Txt} (h:Bt e s u):e=0→run s u=some (true,0):=by
 induction h with
 | fin e=>exact fun _=>rfl
 | same e s s' x u h1 h2 ih=>exact fun he=>(run_on h1).trans (ih he)
 | ins e s x u h ih=>intro he; omega
 | del e s s' x u h1 h2 ih=>intro he; omega
 | rpl e s s' x y u h1 h2 ih=>intro he; omega
theorem Bt.insert {e:Nat} {s:Bool × Nat} {t:Txt} (h:Bt e s t) (c:Nat):∀ p,Bt (e + 1) s (t.take p++c :: t.drop p):=by
 induction h with
 | fin e=>intro p; simpa using Bt.ins e (true,0) c [] (.fin e)
 | same e s s' x u h1 h2 ih =>
  intro p
  cases p with
  | zero=>exact .ins _ _ _ _ (.same _ _ _ _ _ h1 h2)
  | succ p=>exact .same _ _ _ _ _ h1 (ih p)
 | ins e s x u h ih =>
  intro p
  cases p with
  | zero=>exact .ins _ _ _ _ (.ins _ _ _ _ h)
  | succ p=>exact .ins _ _ _ _ (ih p)
 | del e s s' x u h1 h2 ih=>intro p; exact .del _ _ _ _ _ h1 (ih p)
 | rpl e s s' x y u h1 h2 ih =>
  intro p
  cases p with
  | zero=>exact .ins _ _ _ _ (.rpl _ _ _ _ _ _ h1 h2)
  | succ p=>exact .rpl _ _ _ _ _ _ h1 (ih p)
theorem Bt.delete {e:Nat} {s:Bool × Nat} {t:Txt} (h:Bt e s t):∀ p,Bt (e + 1) s (t.take p++t.drop (p + 1)):=by
 induction h with
 | fin e=>intro p; simpa using Bt.fin (e + 1)
 | same e s s' x u h1 h2 ih =>
  intro p
  cases p with
  | zero=>exact .del _ _ _ _ _ h1 h2
  | succ p=>exact .same _ _ _ _ _ h1 (ih p)
 | ins e s x u h ih =>
  intro p
  cases p with
  | zero=>exact h.mono (by omega)
  | succ p=>exact .ins _ _ _ _ (ih p)
 | del e s s' x u h1 h2 ih=>intro p; exact .del _ _ _ _ _ h1 (ih p)
 | rpl e s s' x y u h1 h2 ih =>
  intro p
  cases p with
  | zero=>exact (Bt.del _ _ _ _ _ h1 h2).mono (by omega)
  | succ p=>exact .rpl _ _ _ _ _ _ h1 (ih p)
theorem Bt.replace {e:Nat} {s:Bool × Nat} {t:Txt} (h:Bt e s t) (c:Nat):∀ p,Bt (e + 1) s (t.take p++c :: t.drop (p + 1)):=by
 induction h with
 | fin e=>intro p; simpa using Bt.ins e (true,0) c [] (.fin e)
 | same e s s' x u h1 h2 ih =>
  intro p
  cases p with
  | zero=>exact .rpl _ _ _ _ _ _ h1 h2
  | succ p=>exact .same _ _ _ _ _ h1 (ih p)
 | ins e s x u h ih =>
  intro p
  cases p with
  | zero=>exact (Bt.ins _ _ c _ h).mono (by omega)
  | succ p=>exact .ins _ _ _ _ (ih p)
 | del e s s' x u h1 h2 ih=>intro p; exact .del _ _ _ _ _ h1 (ih p)
 | rpl e s s' x y u h1 h2 ih =>
  intro p
  cases p with
  | zero=>exact (Bt.rpl _ _ _ _ c _ h1 h2).mono (by omega)
  | succ p=>exact .rpl _ _ _ _ _ _ h1 (ih p)
theorem Bt.bend {e:Nat} {s:Bool × Nat} {t t':Txt} (h:Bt e s t) (hb:Bend t t'):Bt (e + 1) s t':=by
 cases hb with
 | same=>exact h.mono (by omega)
 | ins p c _=>exact h.insert c p
 | del p=>exact h.delete p
 | rpl p c _=>exact h.replace c p
inductive TrV:Bool × Nat→Nat→Bool × Nat→Prop
 | inq (d:Nat):TrV (true,d + 1) 39 (false,d + 1)
 | int (d x:Nat):x≠39→x≠40→TrV (true,d + 1) x (true,d + 1)
 | bl:TrV (false,0) 32 (false,0)
 | op0:TrV (false,0) 40 (false,1)
 | oq (d:Nat):TrV (false,d + 1) 39 (true,d + 1)
 | op (d:Nat):d + 1≤2→TrV (false,d + 1) 40 (false,d + 2)
 | fin:TrV (false,1) 41 (true,0)
 | cl (d:Nat):TrV (false,d + 2) 41 (false,d + 1)
 | oth (d x:Nat):x≠39→x≠40→x≠41→TrV (false,d + 1) x (false,d + 1)
noncomputable def TrO (s:Bool × Nat) (x:Nat) (o:Option (Bool × Nat)):Prop:=∀ s',o=some s'→TrV s x s'
theorem tro_no {s:Bool × Nat} {x:Nat}:TrO s x none:=fun _ h=>nomatch h
theorem tro_so {s s':Bool × Nat} {x:Nat} (h:TrV s x s'):TrO s x (some s'):=fun _ e=>Option.some.inj e ▸ h
theorem tr_v:∀ {s s':Bool × Nat} {x:Nat},tr s x=some s'→TrV s x s'
 | (true,0),_,_,h=>nomatch h
 | (true,d + 1),s',x,h=>iteP (P:=TrO (true,d + 1) x) (fun q=>q ▸ tro_so (.inq d)) (fun q=>iteP (P:=TrO (true,d + 1) x) (fun _=>tro_no) fun q2=>tro_so (.int d x q q2)) s' h
 | (false,0),s',x,h=>iteP (P:=TrO (false,0) x) (fun q=>q ▸ tro_so .bl) (fun q=>iteP (P:=TrO (false,0) x) (fun q=>q ▸ tro_so .op0) fun _=>tro_no) s' h
 | (false,d + 1),s',x,h=>iteP (P:=TrO (false,d + 1) x) (fun q=>q ▸ tro_so (.oq d)) (fun q=>iteP (P:=TrO (false,d + 1) x) (fun q=>iteP (P:=TrO (false,d + 1) x) (fun q2=>q ▸ tro_so (.op d q2)) fun _=>tro_no) fun q2 =>
   iteP (P:=TrO (false,d + 1) x) (fun q=>by
    subst q
    cases d with
    | zero=>exact tro_so .fin
    | succ d=>exact tro_so (.cl d)) fun q3=>iteP (P:=TrO (false,d + 1) x) (fun _=>tro_no) fun _=>tro_so (.oth d x q q2 q3)) s' h
theorem tr_nz {s s':Bool × Nat} {x:Nat} (h:tr s x=some s'):(s'=(false,0)→s=(false,0))∧(s.2≤3→s'.2≤3):=by
 cases tr_v h with
 | bl=>exact ⟨id,id⟩
 | op0=>exact ⟨fun h=>(nomatch h),fun _=>by decide⟩
 | op d hd=>exact ⟨fun h=>(nomatch h),fun _=>Nat.succ_le_succ hd⟩
 | fin=>exact ⟨fun h=>(nomatch h),fun _=>by decide⟩
 | cl d=>exact ⟨fun h=>(nomatch h),Nat.le_of_succ_le⟩
 | _=>exact ⟨fun h=>(nomatch h),fun h=>h⟩
theorem run_nz:∀ {p:Txt} {s s':Bool × Nat},run s p=some s'→s'=(false,0)→s=(false,0)
 | [],s,s',h,z=>by cases h; exact z
 | x :: p,s,s',h,z=>by
  obtain ⟨t,ht,h⟩:=run_inv h
  exact (tr_nz ht).1 (run_nz h z)
inductive BtI (e:Nat) (s:Bool × Nat) (u:Txt) (o:Option (Bool × Nat)):Prop
 | mk (e':Nat) (s':Bool × Nat):e'≤e→Bt e' s' u→(s'=(false,0)→s=(false,0))→(s.2≤3→s'.2≤3)→(e'=e→o=some s')→BtI e s u o
noncomputable def BtP (e:Nat) (s:Bool × Nat):Txt→Prop
 | []=>True
 | x :: u=>BtI e s u (tr s x)
theorem Bt.inv {e:Nat} {s:Bool × Nat} {t:Txt} (h:Bt e s t):BtP e s t:=by
 have no:∀ {e' e:Nat} {P:Prop},e'≤e→e'=e + 1→P:=fun a h=>absurd a (h ▸ Nat.not_succ_le_self _)
 induction h with
 | fin e=>trivial
 | same e s s' x u h1 h2 ih=>exact ⟨e,s',Nat.le_refl _,h2,(tr_nz h1).1,(tr_nz h1).2,fun _=>h1⟩
 | ins e s x u h ih=>exact ⟨e,s,Nat.le_succ _,h,id,id,no (Nat.le_refl _)⟩
 | del e s s' x u h1 h2 ih =>
  cases u with
  | nil=>trivial
  | cons y v =>
   obtain ⟨e',s2,a,b,c,d,_⟩:=ih
   exact ⟨e',s2,Nat.le_succ_of_le a,b,fun h=>(tr_nz h1).1 (c h),fun h=>d ((tr_nz h1).2 h),no a⟩
 | rpl e s s' x y u h1 h2 ih=>exact ⟨e,s',Nat.le_succ _,h2,(tr_nz h1).1,(tr_nz h1).2,no (Nat.le_refl _)⟩
theorem Bt.invs (u:Txt) (p:Txt):∀ (e:Nat) (s:Bool × Nat),Bt e s (p++u)→BtI e s u (run s p):=by
 induction p with
 | nil=>exact fun e s h=>⟨e,s,Nat.le_refl _,h,id,id,fun _=>rfl⟩
 | cons x p ih =>
  intro e s h
  obtain ⟨e1,s1,a,b,c,d,f⟩:=h.inv
  obtain ⟨e2,s2,a2,b2,c2,d2,f2⟩:=ih e1 s1 b
  exact ⟨e2,s2,Nat.le_trans a2 a,b2,fun h=>c (c2 h),fun h=>d2 (d h),fun h=>(run_on (f (Nat.le_antisymm a (h ▸ a2)))).trans (f2 (Nat.le_antisymm a2 (h.symm ▸ a)))⟩
noncomputable def bd:Bool × Nat→Nat→Nat
 | (false,0),g=>g
 | (false,d + 1),g=>d + 1 + 3 * g
 | (true,_),g=>1 + 3 * g
theorem bd_edit {s s':Bool × Nat} {g g':Nat} (hn:s'=(false,0)→s=(false,0)) (hs:s.2≤3) (hg:g < g'):bd s g + 1≤bd s' g':=by
 obtain ⟨f,d⟩:=s
 obtain ⟨f',d'⟩:=s'
 cases f <;> cases d <;> cases f' <;> cases d' <;> simp only [bd] at * <;> first | omega | (exfalso; simp at hn)
inductive Qp:Txt→Prop
 | nil:Qp []
 | ch (c:Nat) (q:Txt):c≠39→Qp q→Qp (c :: q)
 | qq (q:Txt):Qp q→Qp (39 :: 39 :: q)
theorem qs_split:∀ (m:Nat) (r out:Txt),r.length≤m→(qs out r).2=[]∨∃ q rest,(qs out r).2=39 :: rest∧r=q++39 :: rest∧Qp q
 | _,[],out,h=>.inl rfl
 | m + 1,c :: r,out,h=>by
  have hm:r.length≤m:=Nat.le_of_succ_le_succ h
  by_cases q:c=39
  ·subst q
   cases r with
   | nil=>exact .inr ⟨[],[],rfl,rfl,.nil⟩
   | cons d r' =>
    by_cases q2:d=39
    ·subst q2
     exact (qs_split m r' (out++[39]) (Nat.le_of_succ_le hm)).imp id fun ⟨q,rest,e1,e2,e3⟩=>⟨39 :: 39 :: q,rest,e1,by rw [e2]; rfl,.qq q e3⟩
    ·rw [qs_out q2]; exact .inr ⟨[],d :: r',rfl,rfl,.nil⟩
  ·rw [qs_on q]
   exact (qs_split m r (out++[c]) hm).imp id fun ⟨q',rest,e1,e2,e3⟩=>⟨c :: q',rest,e1,by rw [e2]; rfl,.ch c q' q e3⟩
theorem dGo_split:∀ (r:Txt) (v:Nat),∃ q,r=q++(dGo v r).2∧∀ c∈q,c=32∨isDig c=true
 | [],v=>⟨[],rfl,fun _ h=>nomatch h⟩
 | c :: r,v=>by
  have k:∀ {v},(c=32∨isDig c=true)→∃ q,c :: r=q++(dGo v r).2∧∀ c∈q,c=32∨isDig c=true:=fun {v} hc=>by
   obtain ⟨q',e,h⟩:=dGo_split r v
   refine ⟨c :: q',congrArg (c :: ·) e,fun x hx=>?_⟩
   rcases List.mem_cons.mp hx with rfl | hx
   ·exact hc
   ·exact h x hx
  exact iteP (P:=fun p:Nat × Txt=>∃ q,c :: r=q++p.2∧∀ c∈q,c=32∨isDig c=true) (fun q=>k (.inl q)) fun _=>iteP (P:=fun p:Nat × Txt=>∃ q,c :: r=q++p.2∧∀ c∈q,c=32∨isDig c=true) (fun q=>k (.inr q)) fun _=>⟨[],rfl,fun _ h=>nomatch h⟩
theorem run_co {s t:Bool × Nat} {x:Nat} {u:Txt} (h:run s (x :: u)=some t):∃ s',TrV s x s'∧run s' u=some t:=by
 obtain ⟨s',ht,h⟩:=run_inv h
 exact ⟨s',tr_v ht,h⟩
theorem run_dig {f:Bool} {d:Nat} {v:Txt}:∀ (q:Txt),(∀ c∈q,c=32∨isDig c=true)→run (f,d + 1) (q++v)=run (f,d + 1) v
 | [],h=>rfl
 | c :: q,h=>by
  have ht:tr (f,d + 1) c=some (f,d + 1):=by
   rcases h c (.head _) with rfl | hc
   ·cases f <;> rfl
   ·have n:∀ {x},isDig x=false→¬ c=x:=fun h q=>by rw [q,h] at hc; cases hc
    cases f
    ·exact (if_neg (n (x:=39) rfl)).trans ((if_neg (n (x:=40) rfl)).trans ((if_neg (n (x:=41) rfl)).trans (if_neg (n (x:=72) rfl))))
    ·exact (if_neg (n (x:=39) rfl)).trans (if_neg (n (x:=40) rfl))
  exact (run_on ht).trans (run_dig q fun c hc=>h c (.tail _ hc))
theorem run_in {d:Nat} {q rest:Txt} {t:Bool × Nat} (h:Qp q):run (true,d + 1) (q++39 :: rest)=some t→run (false,d + 1) rest=some t:=by
 induction h with
 | nil=>exact id
 | ch c q hc hq ih =>
  intro hs
  obtain ⟨s',v,h⟩:=run_co hs
  cases v with
  | inq=>exact (hc rfl).elim
  | int=>exact ih h
 | qq q hq ih=>exact ih
theorem run_end {t:Bool × Nat} {q:Txt} (h:run (true,0) q=some t):q=[]:=by
 cases q with
 | nil=>rfl
 | cons x q=>obtain ⟨s',v,_⟩:=run_co h; cases v
theorem run_out {q:Txt} {t:Bool × Nat} (h:Qp q):∀ {d:Nat},run (false,d + 1) (q++[39])=some t→∃ d',t=(true,d' + 1):=by
 induction h with
 | nil=>intro d hs; cases hs; exact ⟨d,rfl⟩
 | ch c q hc hq ih =>
  intro d hs
  obtain ⟨s',v,h⟩:=run_co hs
  cases v with
  | oq=>exact (hc rfl).elim
  | op=>exact ih h
  | fin=>cases q <;> cases run_end h
  | cl=>exact ih h
  | oth=>exact ih h
 | qq q hq ih=>intro d hs; exact ih hs
theorem stepD_q (p:Txt × Txt) (c:Nat):stepD (qTok p).1 c=c:=by
 rcases qTok_head p with e | ⟨s,e⟩ <;> rw [e] <;> rfl
theorem stepD_n (p:Nat × Txt) (c:Nat):stepD (nTok p).1 c=c:=by
 rcases nTok_head p with e | ⟨s,e⟩ | ⟨k,e⟩ <;> rw [e] <;> rfl
theorem tokS_q (r:Txt):tokS (39 :: r)=(qTok (qs [] r)).1 :: tokS (qTok (qs [] r)).2:=tokS_cons (show skip (39 :: r)=39 :: r from rfl)
theorem tokS_n {x:Nat} (r:Txt) (hd:isDig x=true):tokS (x :: r)=(nTok (dGo (x - 48) r)).1 :: tokS (nTok (dGo (x - 48) r)).2:=by
 have n:∀ {y},isDig y=false→¬ x=y:=fun h q=>by rw [q,h] at hd; cases hd
 rw [tokS_cons (show skip (x :: r)=x :: r from if_neg (n (y:=32) rfl)),show tok1 x r=nTok (dGo (x - 48) r) from (if_neg (n (y:=39) rfl)).trans (iteT hd)]
theorem nTok_no {p:Nat × Txt} (h:aft 72 p.2=none):(nTok p).2=p.2:=by unfold nTok; rw [h]
theorem nTok_yes {p:Nat × Txt} {r:Txt} (h:aft 72 p.2=some r):(nTok p).2=r.drop p.1:=by unfold nTok; rw [h]
theorem dgs {x:Nat} {q:Txt} (h1:isDig x=true) (h2:∀ c∈q,c=32∨isDig c=true):∀ c∈x :: q,c=32∨isDig c=true:=fun c hc=>by
 rcases List.mem_cons.mp hc with rfl | hc
 ·exact .inr h1
 ·exact h2 c hc
theorem sync:∀ (n:Nat) (u:Txt) (d c:Nat),u.length < n→run (false,d + 1) u=some (true,0)→walkOk c (tokS u)→c=d + 1
 | n + 1,[],d,c,h1,h2,h3=>nomatch h2
 | n + 1,x :: r,d,c,h1,h2,h3=>by
  have hn:r.length < n:=Nat.lt_of_succ_lt_succ h1
  have lt:∀ {v:Txt},v.length≤r.length→v.length < n:=fun h=>Nat.lt_of_le_of_lt h hn
  by_cases q32:x=32
  ·subst q32
   rw [tokS_blank] at h3
   exact sync n r d c hn h2 h3
  by_cases q39:x=39
  ·subst q39
   rw [tokS_q] at h3
   obtain ⟨h0,h3⟩:=h3
   rw [stepD_q] at h3
   unfold qTok at h3
   rcases qs_split _ r [] (Nat.le_refl _) with e | ⟨q,rest,e1,e2,e3⟩
   ·rw [e] at h3; exact (h0 h3).elim
   ·rw [e1] at h3
    have h2:run (true,d + 1) r=some (true,0):=h2
    rw [e2] at h2
    exact sync n rest d c (lt (by rw [e2,List.length_append,List.length_cons]; omega)) (run_in e3 h2) h3
  by_cases qd:isDig x=true
  ·rw [tokS_n r qd] at h3
   obtain ⟨_,h3⟩:=h3
   rw [stepD_n] at h3
   obtain ⟨q,e1,e2⟩:=dGo_split r (x - 48)
   generalize dGo (x - 48) r=p at *
   have hl:p.2.length≤r.length:=by rw [e1,List.length_append]; omega
   rw [e1,← List.cons_append,run_dig _ (dgs qd e2)] at h2
   cases ha:aft 72 p.2 with
   | none=>rw [nTok_no ha] at h3; exact sync n _ d c (lt hl) h2 h3
   | some r3=>rw [aft_eq ha] at h2; cases h2
  ·rw [tk_sg q32 q39 (Bool.eq_false_iff.mpr qd)] at h3
   obtain ⟨h0,h3⟩:=h3
   obtain ⟨s',v,h⟩:=run_co h2
   cases v with
   | oq=>exact (q39 rfl).elim
   | op=>exact Nat.succ.inj (sync n r (d + 1) (c + 1) hn h h3)
   | fin=>rw [run_end h] at h3; have h3:c - 1=0:=h3; omega
   | cl d=>have:c - 1=d + 1:=sync n r d (c - 1) hn h h3; omega
   | oth _ _ _ h40 h41 =>
    rw [show stepD (.sg x) c=c from (if_neg h40).trans (if_neg h41)] at h3
    exact sync n r d c hn h h3
theorem bd_le:∀ {s:Bool × Nat} {g:Nat},s.2≤3→g≤2→bd s g≤9
 | (false,0),_,_,hg=>Nat.le_trans hg (by decide)
 | (false,_ + 1),_,hs,hg=>Nat.add_le_add hs (Nat.mul_le_mul_left 3 hg)
 | (true,_),_,_,hg=>Nat.le_trans (Nat.add_le_add_left (Nat.mul_le_mul_left 3 hg) 1) (by decide)
theorem low {u:Txt} {e:Nat} {s:Bool × Nat} {c:Nat} (h:Bt e s u) (hs:s.2≤3) (hc:c≤bd s (3 - e)) (hw:walkOk c (tokS u)):c≤11:=by
 by_cases he:e=0
 ·have hr:=h.zero he
  subst he
  obtain ⟨f,d⟩:=s
  cases f with
  | true=>exact Nat.le_trans hc (show 1 + 3 * 3≤11 by decide)
  | false =>
   cases d with
   | zero=>exact Nat.le_trans hc (show 3≤11 by decide)
   | succ d=>exact sync _ u d c (Nat.lt_succ_self _) hr hw ▸ Nat.le_trans hs (by decide)
 ·exact Nat.le_trans hc (Nat.le_trans (bd_le hs (Nat.sub_le_sub_left (Nat.pos_of_ne_zero he) 3)) (by decide))
noncomputable def FB (n:Nat):Prop:=∀ (u:Txt) (e:Nat) (s:Bool × Nat) (c:Nat),u.length < n→Bt e s u→s.2≤3→e≤3→c≤bd s (3 - e)→walkOk c (tokS u)→fitsC c (tokS u)
theorem bd_inv {e e':Nat} {s s':Bool × Nat} {c c':Nat} {Q:Prop} (h4:c≤bd s (3 - e)) (hc:c'≤c + 1) (a:e'≤e) (he:e≤3) (cc:s'=(false,0)→s=(false,0)) (h3:s.2≤3) (f:e'=e→Q) (hr:Q→c'≤bd s' (3 - e)):c'≤bd s' (3 - e'):=by
 by_cases q:e'=e
 ·subst q; exact hr (f rfl)
 ·have q:=Nat.lt_of_le_of_ne a q
  exact Nat.le_trans hc (Nat.le_trans (Nat.succ_le_succ h4) (bd_edit (s:=s) (s':=s') (g:=3 - e) (g':=3 - e') cc h3 (Nat.sub_lt_sub_left (Nat.lt_of_lt_of_le q he) q)))
theorem fb_one {n e c c':Nat} {s:Bool × Nat} {p rest:Txt} {k:Tk} (ih:FB n) (h2:Bt e s (p++rest)) (h3:s.2≤3) (he:e≤3) (h4:c≤bd s (3 - e)) (h5:walkOk c (tokS (p++rest))) (ht:tokS (p++rest)=k :: tokS rest) (hl:rest.length < n) (hk:stepD k c=c') (hc:c'≤c + 1)
  (hrun:∀ s',run s p=some s'→c'≤bd s' (3 - e)):fitsC c (tokS (p++rest)):=by
 obtain ⟨e',s',a,b,cc,d,f⟩:=Bt.invs rest p e s h2
 have hb:=bd_inv h4 hc a he cc h3 f (hrun s')
 rw [ht] at h5 ⊢
 have h7:=h5.2
 rw [hk] at h7
 refine ⟨?_,?_⟩ <;> rw [hk]
 ·exact low b (d h3) hb h7
 ·exact ih rest e' s' c' hl b (d h3) (Nat.le_trans a he) hb h7
theorem bd_quote {s s':Bool × Nat} {q:Txt} {c g:Nat} (hq:Qp q) (h:run s (39 :: (q++[39]))=some s') (hc:c≤bd s g):c≤bd s' g:=by
 obtain ⟨t,v,h⟩:=run_co h
 cases v with
 | inq d=>obtain ⟨d',rfl⟩:=run_out hq h; exact hc
 | oq d=>cases run_in (rest:=[]) hq h; exact hc
 | int _ _ hne=>exact (hne rfl).elim
 | oth _ _ hne=>exact (hne rfl).elim
theorem run_dg {s s':Bool × Nat} {x:Nat} {q:Txt} (hx:isDig x=true) (hq:∀ c∈q,c=32∨isDig c=true) {v:Txt} (h:run s (x :: q++v)=some s'):run s v=some s':=by
 obtain ⟨f,d⟩:=s
 cases d with
 | zero =>
  obtain ⟨t,w,_⟩:=run_co h
  cases w <;> cases hx
 | succ d=>rwa [run_dig _ (dgs hx hq)] at h
theorem bd_sg {s s':Bool × Nat} {x c g:Nat} (h32:x≠32) (h39:x≠39) (h:TrV s x s') (hc:c≤bd s g):stepD (.sg x) c≤bd s' g:=by
 have le:∀ {x},x≠40→stepD (.sg x) c≤c:=fun h=>by
  refine iteP (P:=(·≤c)) (fun q=>(h q).elim) fun _=>iteP (P:=(·≤c)) (fun _=>Nat.sub_le ..) fun _=>Nat.le_refl _
 cases h with
 | inq=>exact (h39 rfl).elim
 | int d x h1 h2=>exact Nat.le_trans (le h2) hc
 | bl=>exact (h32 rfl).elim
 | op0=>have hc:c≤g:=hc; exact Nat.le_trans (Nat.succ_le_succ (Nat.le_trans hc (Nat.le_mul_of_pos_left g (by decide)))) (Nat.le_of_eq (Nat.add_comm (3 * g) 1))
 | oq=>exact (h39 rfl).elim
 | op d _=>have hc:c≤d + 1 + 3 * g:=hc; exact Nat.le_trans (Nat.succ_le_succ hc) (Nat.le_of_eq (Nat.succ_add (d + 1) (3 * g)).symm)
 | fin=>have hc:c≤0 + 1 + 3 * g:=hc; exact Nat.le_trans (Nat.sub_le ..) hc
 | cl d=>have hc:c≤d + 1 + 1 + 3 * g:=hc; exact Nat.pred_le_pred (Nat.le_trans hc (Nat.le_of_eq (Nat.succ_add (d + 1) (3 * g))))
 | oth d x _ h2 _=>exact Nat.le_trans (le h2) hc
theorem stepD_le {k:Tk} {c:Nat}:stepD k c≤c + 1:=by
 cases k with
 | sg x=>exact iteP (P:=(·≤c + 1)) (fun _=>Nat.le_refl _) fun _=>iteP (P:=(·≤c + 1)) (fun _=>Nat.le_trans (Nat.sub_le ..) (Nat.le_succ _)) fun _=>Nat.le_succ _
 | _=>exact Nat.le_succ _
theorem fitsB:∀ n,FB n
 | 0=>fun _ _ _ _ h=>(Nat.not_lt_zero _ h).elim
 | n + 1=>by
  intro u e s c h1 h2 h3 he h4 h5
  have ih:=fitsB n
  cases u with
  | nil=>exact trivial
  | cons x r =>
  have hn:r.length < n:=Nat.lt_of_succ_lt_succ h1
  by_cases q32:x=32
  ·subst q32
   rw [tokS_blank] at h5 ⊢
   obtain ⟨e',s',a,b,cc,d,f⟩:=h2.inv
   refine ih r e' s' c hn b (d h3) (Nat.le_trans a he) (bd_inv h4 (Nat.le_succ c) a he cc h3 f fun ht=>?_) h5
   cases tr_v ht with
   | int=>exact h4
   | bl=>exact h4
   | oth=>exact h4
  by_cases q39:x=39
  ·subst q39
   rcases qs_split _ r [] (Nat.le_refl _) with e0 | ⟨q,rest,e1,e2,e3⟩
   ·rw [tokS_q] at h5
    obtain ⟨g1,g2⟩:=h5
    rw [stepD_q,show (qTok (qs [] r)).2=[] by unfold qTok; rw [e0]] at g2
    exact (g1 g2).elim
   ·have hr2:(qTok (qs [] r)).2=rest:=by unfold qTok; rw [e1]
    have hu:39 :: r=39 :: (q++[39])++rest:=by rw [e2,List.cons_append,List.append_assoc]; rfl
    have ht:=tokS_q r
    rw [hr2] at ht
    have hl:rest.length < n:=by rw [e2,List.length_append,List.length_cons] at hn; omega
    rw [hu] at h2 h5 ht ⊢
    exact fb_one ih h2 h3 he h4 h5 ht hl (stepD_q _ _) (Nat.le_succ c) fun s' hs=>bd_quote e3 hs h4
  by_cases qd:isDig x=true
  ·obtain ⟨q,e1,e2⟩:=dGo_split r (x - 48)
   have hlen:=(dGo_suf r (x - 48)).len
   have ht:=tokS_n r qd
   have hk:=stepD_n (dGo (x - 48) r) c
   generalize dGo (x - 48) r=p at *
   cases ha:aft 72 p.2 with
   | none =>
    have hu:x :: r=x :: q++p.2:=congrArg (x :: ·) e1
    rw [nTok_no ha,hu] at ht
    rw [hu] at h2 h5 ⊢
    refine fb_one ih h2 h3 he h4 h5 ht (Nat.lt_of_le_of_lt hlen hn) hk (Nat.le_succ c) fun s' hs=>?_
    rw [← List.append_nil (x :: q)] at hs
    cases run_dg qd e2 hs
    exact h4
   | some r3 =>
    have h72:=aft_eq ha
    rw [h72] at hlen
    have hl4:(r3.drop p.1).length < n:=Nat.lt_of_le_of_lt (suf_drop _ r3).len (Nat.lt_trans hlen hn)
    have hu:x :: r=x :: q++72 :: r3.take p.1++r3.drop p.1:=by rw [List.append_assoc,List.cons_append (a:=72),List.take_append_drop,← h72]; exact congrArg (x :: ·) e1
    rw [nTok_yes ha,hu] at ht
    rw [hu] at h2 h5 ⊢
    refine fb_one ih h2 h3 he h4 h5 ht hl4 hk (Nat.le_succ c) fun s' hs=>?_
    have hnz:s'=(false,0)→s=(false,0):=fun z=>run_nz hs z
    have hs:=run_dg qd e2 hs
    obtain ⟨t,v,_⟩:=run_co hs
    cases v with
    | int dd =>
     obtain ⟨f',d'⟩:=s'
     cases f' with
     | true=>exact h4
     | false =>
      cases d' with
      | zero=>cases hnz rfl
      | succ d'=>have h4:c≤1 + 3 * (3 - e):=h4; show c≤d' + 1 + 3 * (3 - e); omega
    | oth=>cases hs
  ·have ht:=tk_sg (r:=r) q32 q39 (Bool.eq_false_iff.mpr qd)
   exact fb_one (p:=[x]) ih h2 h3 he h4 h5 ht hn rfl stepD_le fun s' hs=>by
    obtain ⟨t,v,hs⟩:=run_co hs
    cases hs
    exact bd_sg q32 q39 v h4
theorem skip_split:∀ u:Txt,∃ p,u=p++skip u∧∀ c∈p,c=32
 | []=>⟨[],rfl,by simp⟩
 | c :: u=>by
  unfold skip
  by_cases q:c=32
  ·rw [if_pos q]
   obtain ⟨p,e,h⟩:=skip_split u
   refine ⟨c :: p,by rw [List.cons_append,← e],?_⟩
   intro x hx
   rcases List.mem_cons.mp hx with rfl | hx
   ·exact q
   ·exact h x hx
  ·rw [if_neg q]; exact ⟨[],rfl,by simp⟩
theorem run_bl:∀ (p:Txt),(∀ c∈p,c=32)→run (false,0) p=some (false,0)
 | [],h=>rfl
 | c :: p,h=>by
  have hc:=h c (List.mem_cons_self ..)
  subst hc
  exact run_bl p (fun c hc=>h c (List.mem_cons_of_mem _ hc))
theorem bent_fits {u:Txt} {l:List It} (hb:Bt 3 (false,0) u) (hr:readC u=some l):fitsC 1 ((tokS u).drop 1):=by
 unfold readC at hr
 cases q:isSg 40 (tokS u)[0]? with
 | false=>rw [q] at hr; cases hr
 | true =>
  rw [q] at hr
  have hk:∃ r,skip u=40 :: r:=by
   cases ha:aft 40 (skip u) with
   | none=>rw [hd_no rfl ha] at q; cases q
   | some r=>exact ⟨r,aft_eq ha⟩
  obtain ⟨r,hk⟩:=hk
  have htk:tokS u=.sg 40 :: tokS r:=hd_yes (by decide) rfl (by rw [hk]; rfl)
  rw [htk] at hr ⊢
  have hw:=mach_walk _ _ _ _ _ _ _ hr
  obtain ⟨p,e,hp⟩:=skip_split u
  rw [hk,show p++40 :: r=p++[40]++r by rw [List.append_assoc]; rfl] at e
  rw [e] at hb
  obtain ⟨e',s',a,b,cc,d,f⟩:=Bt.invs r (p++[40]) 3 (false,0) hb
  refine fitsB _ r e' s' 1 (Nat.lt_succ_self _) b (d (by decide)) a (bd_inv (c:=0) (Nat.zero_le _) (Nat.le_refl 1) a (Nat.le_refl 3) cc (by decide) f fun h1=>?_) hw
  rw [run_app,run_bl p hp] at h1
  cases h1
  decide
end Mine.P
end
section
namespace Mine.P
noncomputable def sepR (rest:Txt):Prop:=∃ c r,rest=c :: r∧(c=44∨c=41∨c=47∨c=58)
theorem sg2 {c d:Nat} {r:Txt} (h:(c==32||(c==39||isDig c))=false) (h':(d==32||(d==39||isDig d))=false):tokS (c :: d :: r)=.sg c :: .sg d :: tokS r:=(sg1 h).trans (congrArg _ (sg1 h'))
theorem dGo_end {m c:Nat} {r:Txt} (h:(c==32||(c==72||isDig c))=false):dGo m (c :: r)=(m,c :: r):=by
 simp only [Bool.or_eq_false_iff,beq_eq_false_iff_ne] at h
 exact (if_neg h.1).trans (iteF h.2.2)
theorem nTok_end {m c:Nat} {r:Txt} (h:(c==32||(c==72||isDig c))=false) (hm:m < 10000):nTok (m,c :: r)=(.n m,c :: r):=by
 simp only [Bool.or_eq_false_iff,beq_eq_false_iff_ne] at h
 unfold nTok
 rw [show aft 72 (m,c :: r).2=none from if_neg h.2.1]
 exact congrArg (·,c :: r) (if_pos hm)
theorem digs:∀ k:Fin 10,isDig (48 + k.val)=true∧48 + k.val - 48=k.val:=by decide
theorem digs2:∀ k:Fin 16,10≤k.val→isDig (38 + k.val)=true∧¬ 38 + k.val=32∧10 * 1 + (38 + k.val - 48)=k.val:=by decide
theorem num1 {k c:Nat} {r:Txt} (hk:k≤15) (h:(c==32||(c==72||isDig c))=false):tokS (dig k++c :: r)=.n k :: tokS (c :: r):=by
 have fin:∀ {x:Nat} {s:Txt},isDig x=true→dGo (x - 48) s=(k,c :: r)→tokS (x :: s)=.n k :: tokS (c :: r):=fun h1 h2=>by
  rw [tokS_n _ h1,h2,nTok_end h (by omega)]
 by_cases q:k < 10
 ·obtain ⟨a,b⟩:=digs ⟨k,q⟩
  rw [dig,if_pos q]
  exact fin a (by rw [b]; exact dGo_end h)
 ·obtain ⟨a,a',b⟩:=digs2 ⟨k,by omega⟩ (Nat.le_of_not_lt q)
  rw [dig,if_neg q]
  exact fin rfl ((if_neg a').trans ((iteT a).trans (by rw [b]; exact dGo_end h)))
theorem sep_tk {rest:Txt} (h:sepR rest):∃ c r,rest=c :: r∧tokS rest=.sg c :: tokS r∧(c=44∨c=41∨c=47∨c=58):=by
 obtain ⟨c,r,rfl,hc⟩:=h
 refine ⟨c,r,rfl,?_,hc⟩
 rcases hc with rfl | rfl | rfl | rfl <;> exact sg1 rfl
theorem sep_no {rest:Txt} (h:sepR rest) {d:Nat} (hd:(44==d||(41==d||(47==d||58==d)))=false):isSg d (tokS rest)[0]?=false:=by
 obtain ⟨c,r,_,e,hc⟩:=sep_tk h
 rw [e]
 simp only [Bool.or_eq_false_iff] at hd
 rcases hc with rfl | rfl | rfl | rfl
 ·exact hd.1
 ·exact hd.2.1
 ·exact hd.2.2.1
 ·exact hd.2.2.2
theorem sep_n {rest:Txt} (h:sepR rest):isN (tokS rest)[0]?=false:=by
 obtain ⟨c,r,_,e,hc⟩:=sep_tk h
 rw [e]; rfl
theorem num_sep {k:Nat} {rest:Txt} (hk:k≤15) (h:sepR rest):tokS (dig k++rest)=.n k :: tokS rest:=by
 obtain ⟨c,r,rfl,hc⟩:=h
 rcases hc with rfl | rfl | rfl | rfl <;> exact num1 hk rfl
noncomputable def GS (w:List Tk) (i:It) (R:List Tk):Prop:=hd0 w∧singleT w=some (i,R)
theorem gs_of {X:Txt} {w R:List Tk} {i:It} (e:tokS X=w) (h:GS w i R):GS (tokS X) i R:=by rw [e]; exact h
theorem gsg {c:Nat} {w R:List Tk} {i:It} (h:(c==44||(c==41||c==40))=false) (e:singleT (.sg c :: w)=some (i,R)):GS (.sg c :: w) i R:=by
 simp only [Bool.or_eq_false_iff] at h
 exact ⟨⟨h.1,h.2.1,h.2.2,rfl⟩,e⟩
theorem gsn {k:Nat} {w R:List Tk} {i:It} (h:isSg 40 w[0]?=false) (e:singleT (.n k :: w)=some (i,R)):GS (.n k :: w) i R :=
 ⟨⟨rfl,rfl,rfl,by show (true&&(_&&isSg 40 w[0]?))=false; rw [h,Bool.and_false]; rfl⟩,e⟩
theorem tn {k:Nat} (h:k≤15):textOf (k:Int)=dig k:=textOf_nat h
theorem tail1 {w:Nat} {rest:Txt} (h:w≤15):tail3 JS [nI w]++rest=dig w++rest:=by
 rw [show tail3 JS [nI w]=textOf w++[] from rfl,List.append_nil,tn h]
theorem tail2 {w d:Nat} {rest:Txt} (h:w≤15) (h2:d≤15):tail3 JS [nI w,nI d]++rest=dig w++46 :: (dig d++rest):=by
 rw [show tail3 JS [nI w,nI d]=textOf w++(46 :: (textOf d++[])) from rfl,List.append_nil,tn h,tn h2,List.append_assoc]; rfl
theorem tail4 {w d x:Nat} {rest:Txt} (h:w≤15) (h2:d≤15) (h3:x≤15):tail3 JS [nI w,nI d,nI x]++rest=dig w++46 :: (dig d++69 :: (dig x++rest)):=by
 rw [show tail3 JS [nI w,nI d,nI x]=textOf w++(46 :: (textOf d++(69 :: (textOf x++[])))) from rfl,List.append_nil,tn h,tn h2,tn h3,List.append_assoc,List.cons_append,List.append_assoc]; rfl
theorem tk2 {w d:Nat} {rest:Txt} (h:w≤15) (h2:d≤15) (hr:sepR rest):tokS (dig w++46 :: (dig d++rest))=.n w :: .sg 46 :: .n d :: tokS rest:=by
 rw [num1 h rfl,sg1 rfl,num_sep h2 hr]
theorem tk4 {w d x:Nat} {rest:Txt} (h:w≤15) (h2:d≤15) (h3:x≤15) (hr:sepR rest):tokS (dig w++46 :: (dig d++69 :: (dig x++rest)))=.n w :: .sg 46 :: .n d :: .sg 69 :: .n x :: tokS rest:=by
 rw [num1 h rfl,sg1 rfl,num1 h2 rfl,sg1 rfl,num_sep h3 hr]
theorem r_at {c w d:Nat} {R:List Tk}:realsT c (.n w :: .sg 46 :: .n d :: R)=if c=70∨c=68 then some (.nums [c] [nI w,nI d],R) else
  if isSg 69 R[0]? then (if nAt 1 R[1]? then some (.nums [c] [nI w,nI d,nI (nv R[1]?)],R.drop 2) else none) else some (.nums [c] [nI w,nI d,none],R):=iteT (nGe (Nat.zero_le d))
theorem lt_c {j:Txt} {c:Nat} {ps:List (Option Int)} {rest:Txt} (hv:isVal c=true):tokS (wText j (.nums [c] ps)++rest)=.sg c :: tokS (tail3 JS ps++rest):=by
 rw [wT_no (val_xp hv)]
 have h:=val_ne hv
 exact tk_sg (fun q=>by subst q; cases hv) h.2.2.2.2.1 h.2.2.2.2.2.2.2
inductive LeafT (j:Txt) (i:It) (rest:Txt):Prop
 | mk (c:Nat) (w:List Tk):isVal c=true→tokS (wText j i++rest)=.sg c :: w→valuedT (.sg c :: w)=some (i,tokS rest)→LeafT j i rest
theorem leaf_tok {j:Txt} {i:It} (h:Leaf i) {rest:Txt} (hr:sepR rest):LeafT j i rest:=by
 have fd:∀ {c w d:Nat},isVal c=true→¬ (c=65∨c=76)→c≠73→1≤w→valuedT (.sg c :: .n w :: .sg 46 :: .n d :: tokS rest)=_:=fun _ h2 h3 h1=>(v_at h1).trans ((if_neg h2).trans ((if_pos h3).trans r_at))
 have h69:=sep_no hr (d:=69) rfl
 cases h with
 | i0 w h1 h2=>exact ⟨73,.n w :: tokS rest,rfl,(lt_c rfl).trans (congrArg _ ((congrArg tokS (tail1 (by omega))).trans (num_sep (by omega) hr))),(v_at h1).trans (iteF (sep_no hr rfl))⟩
 | i1 w d h1 h2 h3=>exact ⟨73,_,rfl,(lt_c rfl).trans (congrArg _ ((congrArg tokS (tail2 (by omega) (by omega))).trans (tk2 (by omega) (by omega) hr))),(v_at h1).trans (iteT (congrArg not (decide_eq_false (Nat.not_lt.mpr h3))))⟩
 | l w h1 h2=>exact ⟨76,_,rfl,(lt_c rfl).trans (congrArg _ ((congrArg tokS (tail1 (by omega))).trans (num_sep (by omega) hr))),v_at h1⟩
 | a0=>exact ⟨65,tokS rest,rfl,lt_c rfl,if_pos ⟨rfl,sep_n hr⟩⟩
 | a1 w h1 h2=>exact ⟨65,_,rfl,(lt_c rfl).trans (congrArg _ ((congrArg tokS (tail1 (by omega))).trans (num_sep (by omega) hr))),v_at h1⟩
 | fd c w d hcc h1 h2 h3 =>
  have hv:isVal c=true∧¬ (c=65∨c=76)∧c≠73:=by rcases hcc with rfl | rfl <;> decide
  exact ⟨c,_,hv.1,(lt_c hv.1).trans (congrArg _ ((congrArg tokS (tail2 (by omega) (by omega))).trans (tk2 (by omega) (by omega) hr))),(fd hv.1 hv.2.1 hv.2.2 h1).trans (if_pos hcc)⟩
 | e0 c w d hcc h1 h2 h3 =>
  have hv:isVal c=true∧¬ (c=65∨c=76)∧c≠73∧¬ (c=70∨c=68):=by rcases hcc with rfl | rfl <;> decide
  exact ⟨c,_,hv.1,(lt_c hv.1).trans (congrArg _ ((congrArg tokS (tail2 (by omega) (by omega))).trans (tk2 (by omega) (by omega) hr))),(fd hv.1 hv.2.1 hv.2.2.1 h1).trans ((if_neg hv.2.2.2).trans (iteF h69))⟩
 | e1 c w d x hcc h1 h2 h3 h4 h5 =>
  have hv:isVal c=true∧¬ (c=65∨c=76)∧c≠73∧¬ (c=70∨c=68):=by rcases hcc with rfl | rfl <;> decide
  exact ⟨c,_,hv.1,(lt_c hv.1).trans (congrArg _ ((congrArg tokS (tail4 (by omega) (by omega) (by omega))).trans (tk4 (by omega) (by omega) (by omega) hr))),(v_at h1).trans ((if_neg hv.2.1).trans ((if_pos hv.2.2.1).trans (r_at.trans ((if_neg hv.2.2.2).trans (iteT (nGe h4))))))⟩
theorem leaf_head {j:Txt} {i:It} (h:Leaf i):∃ c r,wText j i=c :: r∧isVal c=true:=by
 obtain ⟨c,ps,rfl,hv,_⟩:=leaf_form h
 exact ⟨c,_,wT_no (val_xp hv),hv⟩
theorem qs_dbl:∀ (s out rest:Txt),(∀ r,rest≠39 :: r)→qs out (dbl s++39 :: rest)=(out++s,39 :: rest)
 | [],out,[],h=>by rw [List.append_nil]; rfl
 | [],out,d :: r,h=>by
  rw [List.append_nil]
  exact (if_neg fun q=>h r (by rw [q]):(if d=39 then qs (out++[39]) r else (out,39 :: d :: r))=_)
 | c :: s,out,rest,h=>by
  have ih:∀ d,qs (out++[d]) (dbl s++39 :: rest)=(out++d :: s,39 :: rest):=fun d=>by rw [qs_dbl s (out++[d]) rest h,List.append_assoc]; rfl
  by_cases q:c=39
  ·subst q; exact ih 39
  ·rw [show dbl (c :: s)=c :: dbl s from if_neg q,List.cons_append,qs_on q]; exact ih c
noncomputable def Nx (i:It) (rest:Txt):Prop:=(i.word=[47]∨i.word=[58]∨i.word=[80])∨sepR rest
theorem nx_sep {i:It} {R:Txt} (h:Nx i R) (q:i.word≠[47]∧i.word≠[58]∧i.word≠[80]):sepR R :=
 h.elim (fun h=>(h.elim q.1 fun h=>h.elim q.2.1 q.2.2).elim) id
theorem wne {w:Txt} (h:(w==[47]||(w==[58]||w==[80]))=false):w≠[47]∧w≠[58]∧w≠[80]:=by
 simpa using h
theorem leaf_ne {i:It} (h:Leaf i):i.word≠[47]∧i.word≠[58]∧i.word≠[80]:=by
 obtain ⟨c,ps,rfl,hv,_⟩:=leaf_form h
 refine ⟨?_,?_,?_⟩ <;> (intro e; injection e with e _; subst e; cases hv)
theorem t_ne:∀ w∈([[84],[84,76],[84,82]]:List Txt),w≠[47]∧w≠[58]∧w≠[80]:=by decide
theorem singleT_n {k c:Nat} {w R:List Tk} {i:It} (hv:isVal c=true) (h:2≤k) (e:valuedT (.sg c :: w)=some (i,R)):singleT (.n k :: .sg c :: w)=some (.rep k i,R):=by
 have hn:=val_ne hv
 refine (iteF (beq_eq_false_iff_ne.mpr hn.1)).trans ((if_neg fun h=>hn.2.1 (eq_of_beq h.2)).trans ((if_pos ⟨by omega,hv⟩).trans ?_))
 rw [e]; exact congrArg some (congrArg (·,R) (if_pos h))
theorem ct_text {k:Nat} {w:Txt} {R:Txt} (h:k≤15) (hn:¬ (w=[88]∨w=[80])) {j:Txt}:wText j (.nums w [nI k])++R=w++(dig k++R):=by
 rw [wT_no hn,List.append_assoc,tail1 h]
theorem xp_text {k:Int} {w t R j:Txt} (hn:w=[88]∨w=[80]) (ht:textOf k=t):wText j (.nums w [some k])++R=t++(w++R):=by
 rw [wt_nums,if_pos hn,show tail3 [[]] [some k]=textOf k++[] from rfl,List.append_nil,ht,List.append_assoc]
inductive GrpI (d:Nat) (i:It):Prop
 | mk (d' k:Nat) (m:List It):d=d' + 1→1≤k→k≤14→m≠[]→(∀ i∈m,Good d' i)→i=.grp ((k:Nat):Int) m→GrpI d i
theorem good_single {d:Nat} {j:Txt} {i:It} (h:Good d i) {R:Txt} (hr:Nx i R):GrpI d i∨GS (tokS (wText j i++R)) i (tokS R):=by
 cases h with
 | grp d k l h1 h2 h3 h4 h5=>exact .inl ⟨d,k,l,rfl,h1,h2,h3,h5,rfl⟩
 | leaf _ _ h =>
  obtain ⟨c,w,hv,e1,e2⟩:=leaf_tok (j:=j) h (nx_sep hr (leaf_ne h))
  have hn:=val_ne hv
  refine .inr (gs_of e1 ⟨⟨beq_eq_false_iff_ne.mpr fun q=>?_,beq_eq_false_iff_ne.mpr fun q=>?_,beq_eq_false_iff_ne.mpr hn.2.2.2.1,rfl⟩,(iteT hv).trans e2⟩) <;> (subst q; cases hv)
 | rep _ k i h1 h2 h =>
  obtain ⟨c,w,hv,e1,e2⟩:=leaf_tok (j:=j) h (nx_sep hr (wne rfl))
  obtain ⟨c2,r2,e3,hv2⟩:=leaf_head (j:=j) h
  have hn:=val_ne hv2
  have et:tokS (wText j (.rep (k:Int) i)++R)=.n k :: .sg c :: w:=by
   rw [show wText j (.rep (k:Int) i)=textOf k++wText j i from rfl,tn h2,List.append_assoc,← e1,e3]
   refine num1 h2 ?_
   rw [hn.2.2.2.2.2.2.2,Bool.or_false,Bool.or_eq_false_iff]
   exact ⟨beq_eq_false_iff_ne.mpr fun q=>(by subst q; cases hv2),beq_eq_false_iff_ne.mpr hn.2.2.1⟩
  exact .inr (gs_of et (gsn (beq_eq_false_iff_ne.mpr (val_ne hv).2.2.2.1) (singleT_n hv h1 e2)))
 | text _ s h1 h2 h3 =>
  obtain ⟨c,r,rfl,hc⟩:=nx_sep hr (wne rfl)
  have e:tokS (wText j (.text s)++c :: r)=.t s :: tokS (c :: r):=by
   rw [show wText j (.text s)++c :: r=39 :: (dbl s++[39]++c :: r) from rfl,List.append_assoc,tokS_q,show dbl s++([39]++c :: r)=dbl s++39 :: c :: r from rfl]
   rw [qs_dbl s [] (c :: r) (fun x hx=>by injection hx with hx _; omega)]
   show (if s=[] then Tk.bad else .t s) :: _=_
   rw [if_neg h1]; rfl
  exact .inr (gs_of e ⟨⟨rfl,rfl,rfl,rfl⟩,rfl⟩)
 | x _ k h1 h2 =>
  refine .inr (gs_of ((congrArg tokS (xp_text (.inl rfl) (tn (by omega)))).trans ((num1 (by omega) rfl).trans (congrArg _ (sg1 rfl)))) (gsn rfl (if_pos ⟨h1,rfl⟩)))
 | t _ k w hw h1 h2 =>
  have hs:=nx_sep hr (t_ne w hw)
  have e:=fun hn=>ct_text (k:=k) (w:=w) (R:=R) (j:=j) (by omega) hn
  have n:=num_sep (k:=k) (rest:=R) (by omega) hs
  simp only [List.mem_cons,List.not_mem_nil,or_false] at hw
  rcases hw with rfl | rfl | rfl
  ·exact .inr (gs_of ((congrArg tokS (e (by decide))).trans ((sg1 rfl).trans (congrArg _ n))) (gsg rfl (iteT (nGe h1))))
  ·exact .inr (gs_of ((congrArg tokS (e (by decide))).trans ((sg2 rfl rfl).trans (congrArg (fun x=>Tk.sg 84 :: Tk.sg 76 :: x) n))) (gsg rfl (iteT (nGe h1))))
  ·exact .inr (gs_of ((congrArg tokS (e (by decide))).trans ((sg2 rfl rfl).trans (congrArg (fun x=>Tk.sg 84 :: Tk.sg 82 :: x) n))) (gsg rfl (iteT (nGe h1))))
 | c _ w hw =>
  simp only [List.mem_cons,List.not_mem_nil,or_false] at hw
  refine .inr ?_
  rcases hw with rfl | rfl | rfl | rfl | rfl | rfl | rfl
  ·exact gs_of (X:=47 :: R) (sg1 rfl) (gsg rfl rfl)
  ·exact gs_of (X:=58 :: R) (sg1 rfl) (gsg rfl rfl)
  ·have hs:=nx_sep hr (wne rfl)
   exact gs_of (X:=83 :: R) (sg1 rfl) (gsg rfl ((iteF (sep_no hs (d:=80) rfl)).trans (iteF (sep_no hs (d:=83) rfl))))
  ·exact gs_of (X:=83 :: 80 :: R) (sg2 rfl rfl) (gsg rfl rfl)
  ·exact gs_of (X:=83 :: 83 :: R) (sg2 rfl rfl) (gsg rfl rfl)
  ·exact gs_of (X:=66 :: 78 :: R) (sg2 rfl rfl) (gsg rfl rfl)
  ·exact gs_of (X:=66 :: 90 :: R) (sg2 rfl rfl) (gsg rfl rfl)
 | p _ k h1 h2 =>
  by_cases q:0≤k
  ·obtain ⟨n,rfl⟩:=Int.eq_ofNat_of_zero_le q
   have hn:n≤15:=by omega
   exact .inr (gs_of ((congrArg tokS (xp_text (.inr rfl) (tn hn))).trans ((num1 hn rfl).trans (congrArg _ (sg1 rfl)))) (gsn rfl rfl))
  ·obtain ⟨n,hn⟩:∃ n:Nat,k=-(n:Int):=⟨k.natAbs,by omega⟩
   subst hn
   exact .inr (gs_of ((congrArg tokS (xp_text (.inr rfl) (textOf_neg (by omega) (by omega)))).trans ((sg1 rfl).trans (congrArg _ ((num1 (by omega) rfl).trans (congrArg _ (sg1 rfl)))))) (gsg rfl rfl))
section
variable {B:List (Nat × List It × Bool)} {k:Nat} {acc:List It} {after:Bool} {j:Txt}
theorem it_one {w R:List Tk} {i:It} (h:GS w i R) (ha:(!after&&!looseLast acc i)=false):machS B k acc after w=machS B k (acc++[i]) false R:=by
 rw [m_item h.1,h.2]; exact iteF ha
noncomputable def Ms (j:Txt) (d:Nat):Prop:=∀ (l:List It) (B:List (Nat × List It × Bool)) (k:Nat) (acc:List It) (R:Txt),(∀ i∈l,Good d i)→sepR R→machS B k acc false (tokS (wItems j acc.getLast? l++R))=machS B k (acc++l) false (tokS R)
theorem it_grp {d kn:Nat} {m:List It} (ih:Ms j d) (h1:1≤kn) (h2:kn≤14) (h3:m≠[]) (h5:∀ i∈m,Good d i) {R:Txt} (ha:(!after&&!looseLast acc (.grp (kn:Int) m))=false) :
  machS B k acc after (tokS (wText j (.grp (kn:Int) m)++R))=machS B k (acc++[.grp (kn:Int) m]) false (tokS R):=by
 have body:machS ((k,acc,after) :: B) kn [] false (tokS (wItems j none m++41 :: R))=machS B k (acc++[.grp (kn:Int) m]) false (tokS R):=by
  refine (ih m _ kn [] (41 :: R) h5 ⟨41,R,rfl,.inr (.inl rfl)⟩).trans ?_
  rw [sg1 rfl,m_close]
  exact (iteF (List.isEmpty_eq_false_iff.mpr h3)).trans (iteF ha)
 have ew:∀ x:Txt,x++(40 :: (wItems j none m++[41]))++R=x++40 :: (wItems j none m++41 :: R):=fun x=>by rw [List.append_assoc,List.cons_append,List.append_assoc]; rfl
 rw [wt_grp,ew]
 by_cases q:kn=1
 ·subst q
  rw [if_pos (show ((1:Nat):Int)=1 from rfl)]
  refine Eq.trans ?_ body
  rw [List.nil_append,sg1 rfl,m_open]
 ·rw [if_neg (by omega),tn (by omega),num1 (by omega) rfl,sg1 rfl,m_nopen (by omega),body]
theorem it_mach {d:Nat} {i:It} (hi:Good d i) (ih:∀ d',d=d' + 1→Ms j d') {R:Txt} (hr:Nx i R) (ha:(!after&&!looseLast acc i)=false):machS B k acc after (tokS (wText j i++R))=machS B k (acc++[i]) false (tokS R):=by
 rcases good_single (j:=j) hi hr with ⟨d',kn,m,e,h1,h2,h3,h5,rfl⟩ | h
 ·exact it_grp (ih d' e) h1 h2 h3 h5 ha
 ·exact it_one h ha
theorem slash_head {d:Nat} {i:It} (h:Good d i) (hw:i.word=[47]∨i.word=[58]) {R:Txt}:sepR (wText j i++R):=by
 have no:∀ {w:Txt},w≠[47]∧w≠[58]∧w≠[80]→w=[47]∨w=[58]→False:=fun h q=>q.elim h.1 h.2.1
 cases h with
 | leaf _ _ h=>exact (no (leaf_ne h) hw).elim
 | rep=>exact (no (wne rfl) hw).elim
 | text=>exact (no (wne rfl) hw).elim
 | x=>exact (no (w:=[88]) (wne rfl) hw).elim
 | t _ k w hm=>exact (no (t_ne w hm) hw).elim
 | p=>exact hw.elim (fun h=>by cases h) fun h=>by cases h
 | grp=>exact (no (wne rfl) hw).elim
 | c _ w hm =>
  rcases hw with rfl | rfl
  ·exact ⟨47,R,rfl,.inr (.inr (.inl rfl))⟩
  ·exact ⟨58,R,rfl,.inr (.inr (.inr rfl))⟩
theorem loose_or {a b:It} (h:loose a b=true):(a.word=[47]∨a.word=[58]∨a.word=[80])∨b.word=[47]∨b.word=[58]:=by
 simp only [loose,Bool.or_eq_true,decide_eq_true_eq,Bool.and_eq_true] at h
 rcases h with (((h | h) | h) | h) | h
 ·exact .inl (.inl h)
 ·exact .inl (.inr (.inl h))
 ·exact .inr (.inl h)
 ·exact .inr (.inr h)
 ·exact .inl (.inr (.inr h.1))
theorem nx_ok (hj:j=[]∨j=[44]) {d:Nat} {i:It} {l:List It} (h:∀ i∈l,Good d i) {R:Txt} (hr:sepR R):Nx i (wItems j (some i) l++R):=by
 cases l with
 | nil=>exact .inr hr
 | cons b l =>
  rw [wI_cons,show sepr j (some i) b=if loose i b then j else [44] from rfl]
  cases q:loose i b with
  | false=>exact .inr ⟨44,_,rfl,.inl rfl⟩
  | true =>
   rw [if_pos rfl]
   rcases hj with rfl | rfl
   ·refine (loose_or q).imp_right fun hw=>?_
    rw [List.nil_append,List.append_assoc]
    exact slash_head (h b (.head _)) hw
   ·exact .inr ⟨44,_,rfl,.inl rfl⟩
theorem mach_l (hj:j=[]∨j=[44]) {d:Nat} (ih:∀ d',d=d' + 1→Ms j d'):Ms j d:=by
 intro l
 induction l with
 | nil=>intro B k acc R h hr; rw [List.append_nil]; rfl
 | cons i l ihl =>
  intro B k acc R h hr
  have hl:=fun x hx=>h x (.tail _ hx)
  have next:machS B k (acc++[i]) false (tokS (wItems j (some i) l++R))=machS B k (acc++i :: l) false (tokS R):=by
   have:=ihl B k (acc++[i]) R hl hr
   rwa [List.getLast?_concat,List.append_assoc] at this
  have item:∀ after,(!after&&!looseLast acc i)=false→machS B k acc after (tokS (wText j i++(wItems j (some i) l++R)))=machS B k (acc++i :: l) false (tokS R):=fun after ha=>(it_mach (h i (.head _)) ih (nx_ok hj hl hr) ha).trans next
  have comma:acc.isEmpty=false→machS B k acc false (tokS (44 :: (wText j i++(wItems j (some i) l++R))))=machS B k (acc++i :: l) false (tokS R):=fun he=>by
   rw [sg1 rfl,m_comma]
   exact (iteF he).trans (item true rfl)
  rw [wI_cons,List.append_assoc,List.append_assoc]
  cases ea:acc.getLast? with
  | none=>exact item false (congrArg not (show looseLast acc i=true by rw [looseLast,ea]))
  | some a =>
   have he:acc.isEmpty=false:=by cases acc <;> first | rfl | cases ea
   rw [show sepr j (some a) i=if loose a i then j else [44] from rfl]
   cases hlo:loose a i with
   | false=>exact comma he
   | true =>
    rw [if_pos rfl]
    rcases hj with rfl | rfl
    ·exact item false (congrArg not (show looseLast acc i=true by rw [looseLast,ea]; exact hlo))
    ·exact comma he
theorem mach_items (hj:j=[]∨j=[44]):∀ d:Nat,Ms j d
 | 0=>mach_l hj fun _ e=>Nat.noConfusion e
 | d + 1=>mach_l hj fun d' e=>Nat.succ.inj e ▸ mach_items hj d
end
theorem read_whole {j:Txt} (hj:j=[]∨j=[44]) {d:Nat} {l:List It} (h:∀ i∈l,Good d i):readC (wWhole j l)=some l:=by
 unfold readC wWhole
 rw [sg1 rfl]
 refine (mach_S (M:=(Tk.sg 40 :: tokS (wItems j none l++[41])).length + 1) (Nat.le_succ _)).trans ((mach_items hj d l [] 1 [] [41] h ⟨41,[],rfl,.inr (.inl rfl)⟩).trans ?_)
 rw [sg1 rfl,m_close]
 rfl
end Mine.P
end
section
namespace Mine.P
noncomputable abbrev pl (c:Nat):Prop:=c < 100∧c≠63∧c≠39∧c≠40∧c≠41∧c≠72
theorem textOf_all:∀ k:Fin 22,∀ c∈textOf ((k.val:Nat) - 6:Int),pl c:=by decide +kernel
theorem textOf_pl {k:Int} (h:-6≤k∧k≤15):∀ c∈textOf k,pl c:=by
 have:=textOf_all ⟨(k + 6).toNat,by omega⟩
 rwa [show (((k + 6).toNat:Nat):Int) - 6=k by omega] at this
noncomputable def sml:List (Option Int)→Prop
 | []=>True
 | none :: l=>sml l
 | some k :: l=>(-6≤k∧k≤15)∧sml l
theorem app_pl {u v:Txt} (h1:∀ c∈u,pl c) (h2:∀ c∈v,pl c):∀ c∈u++v,pl c:=fun c hc=>(List.mem_append.mp hc).elim (h1 c) (h2 c)
theorem nil_pl:∀ c∈([]:Txt),pl c:=fun _ h=>nomatch h
theorem tail3_pl:∀ (js:List Txt) (ps:List (Option Int)),(∀ j∈js,∀ c∈j,pl c)→sml ps→∀ c∈tail3 js ps,pl c
 | [],_ :: _,hj,hp=>nil_pl
 | [],[],hj,hp=>nil_pl
 | _ :: _,[],hj,hp=>nil_pl
 | j :: js,none :: ps,hj,hp=>tail3_pl js ps (fun j h=>hj j (.tail _ h)) hp
 | j :: js,some k :: ps,hj,hp=>app_pl (app_pl (hj j (.head _)) (textOf_pl hp.1)) (tail3_pl js ps (fun j h=>hj j (.tail _ h)) hp.2)
theorem words_pl:∀ w∈words,∀ c∈w,pl c:=by decide
theorem nums_pl {j w:Txt} {ps:List (Option Int)} (hw:w∈words) (hp:sml ps):∀ c∈wText j (.nums w ps),pl c:=by
 rw [wt_nums]
 exact iteP (P:=fun t:Txt=>∀ c∈t,pl c) (fun _=>app_pl (tail3_pl [[]] ps (by decide) hp) (words_pl w hw)) fun _=>app_pl (words_pl w hw) (tail3_pl JS ps (by decide) hp)
theorem ok12 {w:Nat} (h:w≤14):(-6:Int)≤(w:Int)∧(w:Int)≤15:=by omega
theorem leaf_small {i:It} (h:Leaf i):∃ w ps,i=.nums w ps∧w∈words∧sml ps:=by
 have le:∀ {w},w≤12→w≤14:=fun h=>Nat.le_trans h (by decide)
 have le8:∀ {w},w≤8→w≤14:=fun h=>Nat.le_trans h (by decide)
 cases h with
 | i0 w h1 h2=>exact ⟨_,[nI w,none],rfl,val_words rfl,ok12 (le h2),trivial⟩
 | i1 w d h1 h2 h3=>exact ⟨_,[nI w,nI d],rfl,val_words rfl,ok12 (le h2),ok12 (Nat.le_trans h3 (le h2)),trivial⟩
 | l w h1 h2=>exact ⟨_,[nI w],rfl,val_words rfl,ok12 (le h2),trivial⟩
 | a0=>exact ⟨_,[none],rfl,val_words rfl,trivial⟩
 | a1 w h1 h2=>exact ⟨_,[nI w],rfl,val_words rfl,ok12 (le h2),trivial⟩
 | fd c w d hc h1 h2 h3=>exact ⟨_,[nI w,nI d],rfl,val_words (by rcases hc with rfl | rfl <;> rfl),ok12 (le h2),ok12 (le8 h3),trivial⟩
 | e0 c w d hc h1 h2 h3=>exact ⟨_,[nI w,nI d,none],rfl,val_words (by rcases hc with rfl | rfl <;> rfl),ok12 (le h2),ok12 (le8 h3),trivial⟩
 | e1 c w d e hc h1 h2 h3 h4 h5=>exact ⟨_,[nI w,nI d,nI e],rfl,val_words (by rcases hc with rfl | rfl <;> rfl),ok12 (le h2),ok12 (le8 h3),ok12 (Nat.le_trans h5 (by decide)),trivial⟩
theorem leaf_pl {j:Txt} {i:It} (h:Leaf i):∀ c∈wText j i,pl c:=by
 obtain ⟨w,ps,rfl,hw,hp⟩:=leaf_small h
 exact nums_pl hw hp
theorem pl_ok {u:Txt} (h:∀ c∈u,pl c):okT u:=fun c hc=>⟨(h c hc).1,(h c hc).2.1⟩
theorem run_pl {d:Nat}:∀ (u:Txt),(∀ c∈u,pl c)→run (false,d + 1) u=some (false,d + 1)
 | [],h=>rfl
 | c :: u,h=>by
  obtain ⟨_,_,a,b,cc,e⟩:=h c (.head _)
  exact (run_on (s:=(false,d + 1)) (s':=(false,d + 1)) (x:=c) ((if_neg a).trans ((if_neg b).trans ((if_neg cc).trans (if_neg e))))).trans (run_pl u fun c hc=>h c (.tail _ hc))
theorem dbl_mem:∀ (s:Txt) (c:Nat),c∈dbl s→c∈s
 | [],c,h=>h
 | x :: s,c,h=>by
  have ih:=dbl_mem s c
  have k:c∈dbl s→c∈x :: s:=fun h=>.tail _ (ih h)
  by_cases q:x=39
  ·rw [show dbl (x :: s)=39 :: 39 :: dbl s from if_pos q] at h
   have hx:c=39→c∈x :: s:=fun e=>by rw [e,q]; exact .head _
   exact (List.mem_cons.mp h).elim hx fun h=>(List.mem_cons.mp h).elim hx k
  ·rw [show dbl (x :: s)=x :: dbl s from if_neg q] at h
   exact (List.mem_cons.mp h).elim (fun e=>by rw [e]; exact .head _) k
theorem run_dbl {d:Nat} {v:Txt}:∀ (s:Txt),(∀ c∈s,c≠40)→run (true,d + 1) (dbl s++v)=run (true,d + 1) v
 | [],h=>rfl
 | c :: s,h=>by
  have ih:=run_dbl (d:=d) (v:=v) s (fun c hc=>h c (.tail _ hc))
  by_cases q:c=39
  ·rw [show dbl (c :: s)=39 :: 39 :: dbl s from if_pos q]; exact ih
  ·rw [show dbl (c :: s)=c :: dbl s from if_neg q]; exact (run_on (s:=(true,d + 1)) (s':=(true,d + 1)) (x:=c) ((if_neg q).trans (if_neg (h c (.head _))))).trans ih
noncomputable def okR2 (d:Nat) (u:Txt):Prop:=run (false,d + 1) u=some (false,d + 1)∧okT u
theorem okT_app {u v:Txt} (h1:okT u) (h2:okT v):okT (u++v):=fun c hc=>(List.mem_append.mp hc).elim (h1 c) (h2 c)
theorem okT_co {x:Nat} {u:Txt} (h1:x < 100∧x≠63) (h2:okT u):okT (x :: u):=fun c hc=>(List.mem_cons.mp hc).elim (fun e=>by rw [e]; exact h1) (h2 c)
theorem okT_sub {u v:Txt} (h:okT v) (hs:∀ c∈u,c∈v):okT u:=fun c hc=>h c (hs c hc)
theorem okR2.app {d:Nat} {u v:Txt} (h1:okR2 d u) (h2:okR2 d v):okR2 d (u++v):=⟨by rw [run_app,h1.1]; exact h2.1,okT_app h1.2 h2.2⟩
theorem okR2.pl {d:Nat} {u:Txt} (h:∀ c∈u,pl c):okR2 d u:=⟨run_pl u h,pl_ok h⟩
theorem sepr_pl {j:Txt} (hj:j=[]∨j=[44]) (p:Option It) (i:It):∀ c∈sepr j p i,Mine.P.pl c:=by
 have h44:∀ c∈([44]:Txt),Mine.P.pl c:=by decide
 cases p with
 | none=>exact nil_pl
 | some p=>exact iteP (P:=fun t:Txt=>∀ c∈t,Mine.P.pl c) (fun _=>by rcases hj with rfl | rfl <;> first | exact nil_pl | exact h44) fun _=>h44
theorem hAlph_ok:∀ c∈hAlph,c < 100∧c≠63∧c≠40:=by decide
theorem items_ok {j:Txt} (hj:j=[]∨j=[44]) {d:Nat}:∀ (l:List It) (p:Option It),(∀ i∈l,okR2 d (wText j i))→okR2 d (wItems j p l)
 | [],p,h=>⟨rfl,fun c hc=>nomatch hc⟩
 | i :: l,p,h=>(okR2.pl (sepr_pl hj p i)).app ((h i (.head _)).app (items_ok hj l (some i) (fun i hi=>h i (.tail _ hi))))
theorem ok41:okT [41]:=okT_co (by decide) fun _ h=>nomatch h
theorem ok39:okT [39]:=okT_co (by decide) fun _ h=>nomatch h
theorem good_ok {j:Txt} (hj:j=[]∨j=[44]) {dd:Nat} {i:It} (h:Good dd i):∀ d,d + 1 + dd≤3→okR2 d (wText j i):=by
 have w1:∀ w∈([[84],[84,76],[84,82]]:List Txt),w∈words:=by decide
 have w2:∀ w∈([[47],[58],[83],[83,80],[83,83],[66,78],[66,90]]:List Txt),w∈words:=by decide
 induction h with
 | leaf dd i h=>exact fun d _=>.pl (leaf_pl h)
 | rep dd k i h1 h2 h=>exact fun d _=>(okR2.pl (textOf_pl (by omega))).app (.pl (leaf_pl h))
 | text dd s h1 h2 h3 =>
  refine fun d _=>⟨?_,okT_co (by decide) (okT_app (fun c hc=>?_) ok39)⟩
  ·exact run_dbl (v:=[39]) s (fun c hc=>(hAlph_ok c (h3 c hc)).2.2)
  ·have:=hAlph_ok c (h3 c (dbl_mem s c hc)); exact ⟨this.1,this.2.1⟩
 | x dd k h1 h2=>exact fun d _=>.pl (nums_pl (ps:=[nI k]) (by decide) ⟨ok12 h2,trivial⟩)
 | t dd k w hw h1 h2=>exact fun d _=>.pl (nums_pl (ps:=[nI k]) (w1 w hw) ⟨ok12 h2,trivial⟩)
 | c dd w hw=>exact fun d _=>.pl (nums_pl (ps:=[]) (w2 w hw) trivial)
 | p dd k h1 h2=>exact fun d _=>.pl (nums_pl (ps:=[some k]) (by decide) ⟨⟨h1,Int.le_trans h2 (by decide)⟩,trivial⟩)
 | grp dd k l h1 h2 h3 h4 h5 ih =>
  intro d hd
  rw [wt_grp]
  have hk:okR2 d (if (k:Int)=1 then ([]:Txt) else textOf (k:Int)):=iteP (P:=okR2 d) (fun _=>.pl nil_pl) fun _=>.pl (textOf_pl (by omega))
  have hi:=items_ok hj (d:=d + 1) l none (fun i hi=>ih i hi (d + 1) (by omega))
  refine hk.app ⟨?_,okT_co (by decide) (okT_app hi.2 ok41)⟩
  rw [run,show tr (false,d + 1) 40=some (false,d + 2) from if_pos (by omega)]
  exact (run_app ..).trans (by rw [hi.1]; rfl)
theorem whole_ok {j:Txt} (hj:j=[]∨j=[44]) {l:List It} (h:∀ i∈l,Good 2 i):run (false,0) (wWhole j l)=some (true,0)∧okT (wWhole j l):=by
 have hi:=items_ok hj (d:=0) l none (fun i hi=>good_ok hj (h i hi) 0 (by decide))
 exact ⟨(run_app ..).trans (by rw [hi.1]; rfl),okT_co (by decide) (okT_app hi.2 ok41)⟩
theorem Sp.ok {f q:Bool} {u v:Txt} (h:Sp f q u v):okT u→okT v:=by
 have ot:∀ {c:Nat} {u:Txt},okT (c :: u)→okT u:=fun h c hc=>h c (.tail _ hc)
 induction h with
 | nil=>exact id
 | keep f q c u v h ih=>exact fun ho=>okT_co (ho c (.head _)) (ih (ot ho))
 | put c u v h ih=>exact fun ho=>okT_co (by decide) (okT_co (ho c (.head _)) (ih (ot ho)))
theorem Bend.ok {t t':Txt} (h:Bend t t') (ho:okT t):okT t':=by
 have hsg:∀ c∈signs,c < 100∧c≠63:=by decide
 have tk:=fun p=>okT_sub ho fun c (h:c∈t.take p)=>List.mem_of_mem_take h
 have dr:=fun p=>okT_sub ho fun c (h:c∈t.drop p)=>List.mem_of_mem_drop h
 cases h with
 | same=>exact ho
 | ins p c hc=>exact okT_app (tk p) (okT_co (hsg c hc) (dr p))
 | del p=>exact okT_app (tk p) (dr _)
 | rpl p c hc=>exact okT_app (tk p) (okT_co (hsg c hc) (dr _))
theorem tr_flag {s s':Bool × Nat} {c:Nat} (h:tr s c=some s'):s'.1=(if c=39 then !s.1 else s.1)∨s'=(true,0):=by
 cases tr_v h with
 | int _ _ hn=>exact .inl (if_neg hn).symm
 | oth _ _ hn=>exact .inl (if_neg hn).symm
 | fin=>exact .inr rfl
 | _=>exact .inl rfl
theorem run_sp {f q:Bool} {u v:Txt} (h:Sp f q u v):∀ {s x},(s.1=f∨s=(true,0))→run s u=some x→run s v=some x:=by
 induction h with
 | nil=>exact fun _ h=>h
 | keep f q c u v h ih =>
  intro s x hs hr
  obtain ⟨s',ht,hr⟩:=run_inv hr
  rw [run_on ht]
  refine ih ?_ hr
  rcases hs with rfl | rfl
  ·exact tr_flag ht
  ·cases ht
 | put c u v h ih =>
  intro s x hs hr
  rcases hs with hs | rfl
  ·obtain ⟨sf,sd⟩:=s
   cases (hs:sf=false)
   rw [show run (false,sd) (32 :: c :: v)=run (false,sd) (c :: v) by cases sd <;> rfl]
   obtain ⟨s',ht,hr⟩:=run_inv hr
   rw [run_on ht]
   exact ih (tr_flag ht) hr
  ·cases run_end hr
theorem sp_q {q:Txt} (hq:Qp q):∀ {qq:Bool} {rest v:Txt},Sp true qq (q++39 :: rest) v→∃ rv,v=q++39 :: rv∧Sp false true rest rv:=by
 induction hq with
 | nil =>
  intro qq rest v h
  cases h with
  | keep _ _ _ _ v h=>exact ⟨v,rfl,h⟩
 | ch c q hc hq ih =>
  intro qq rest v h
  cases h with
  | keep _ _ _ _ v h =>
   rw [if_neg hc] at h
   obtain ⟨rv,e,hs⟩:=ih h
   exact ⟨rv,by rw [e]; rfl,hs⟩
 | qq q hq ih =>
  intro qq rest v h
  cases h with
  | keep _ _ _ _ v h =>
   cases h with
   | keep _ _ _ _ v h =>
    obtain ⟨rv,e,hs⟩:=ih h
    exact ⟨rv,by rw [e]; rfl,hs⟩
theorem qs_q {q:Txt} (hq:Qp q):∀ (out:Txt),∃ s,∀ rest:Txt,(∀ r,rest≠39 :: r)→qs out (q++39 :: rest)=(s,39 :: rest):=by
 induction hq with
 | nil =>
  refine fun out=>⟨out,fun rest h=>?_⟩
  cases rest with
  | nil=>rfl
  | cons d r=>exact qs_out fun q=>h r (by rw [q])
 | ch c q hc hq ih =>
  intro out
  obtain ⟨s,hs⟩:=ih (out++[c])
  exact ⟨s,fun rest h=>(qs_on hc).trans (hs rest h)⟩
 | qq q hq ih=>exact fun out=>ih (out++[39])
theorem qs_head:∀ (m:Nat) (r out:Txt),r.length≤m→∀ rest x,(qs out r).2=39 :: rest→rest≠39 :: x
 | _,[],out,h,rest,x,e=>nomatch e
 | m + 1,c :: r,out,h,rest,x,e=>by
  have hm:r.length≤m:=Nat.le_of_succ_le_succ h
  by_cases q:c=39
  ·subst q
   cases r with
   | nil=>intro hr; rw [hr] at e; cases e
   | cons d r' =>
    by_cases q2:d=39
    ·subst q2; exact qs_head m r' _ (Nat.le_of_succ_le hm) rest x e
    ·rw [qs_out q2] at e; intro hr; rw [hr] at e; cases e; exact q2 rfl
  ·rw [qs_on q] at e; exact qs_head m r _ hm rest x e
theorem sp_no {c:Nat} {u v:Txt} (q:c≠39) (h:Sp (if c=39 then true else false) (c==39) u v):Sp false false u v:=by
 rwa [if_neg q,beq_eq_false_iff_ne.mpr q] at h
noncomputable def SpD (p p':Nat × Txt):Prop:=p'.1=p.1∧Sp false false p.2 p'.2
theorem sp_dig:∀ (u v:Txt) (a:Nat),Sp false false u v→SpD (dGo a u) (dGo a v)
 | [],v,a,h=>by cases h; exact ⟨rfl,.nil _ _⟩
 | c :: u,v,a,h=>by
  have core:∀ v',Sp (if c=39 then true else false) (c==39) u v'→SpD (dGo a (c :: u)) (dGo a (c :: v')):=by
   intro v' h'
   by_cases q:c=32
   ·subst q; exact sp_dig u v' a h'
   by_cases q2:isDig c=true
   ·have e:∀ w:Txt,dGo a (c :: w)=dGo (10 * a + (c - 48)) w:=fun w=>(if_neg q).trans (iteT q2)
    rw [e,e]
    exact sp_dig u v' _ (sp_no (fun z=>by subst z; cases q2) h')
   ·have e:∀ w:Txt,dGo a (c :: w)=(a,c :: w):=fun w=>(if_neg q).trans (if_neg q2)
    rw [e,e]
    exact ⟨rfl,.keep _ _ _ _ _ h'⟩
  cases h with
  | keep _ _ _ _ v h'=>exact core v h'
  | put _ _ v h'=>exact core v h'
theorem unclosed {d:Nat}:∀ (m:Nat) (u out:Txt),u.length≤m→(qs out u).2=[]→run (true,d + 1) u=some (true,0)→False
 | _,[],out,hm,he,h=>nomatch h
 | m + 1,c :: u,out,hm,he,h=>by
  have hl:u.length≤m:=Nat.le_of_succ_le_succ hm
  by_cases q:c=39
  ·subst q
   cases u with
   | nil=>cases he
   | cons y u =>
    by_cases q2:y=39
    ·subst q2; exact unclosed m u _ (Nat.le_of_succ_le hl) he h
    ·rw [qs_out q2] at he; cases he
  ·rw [qs_on q] at he
   obtain ⟨s',v,h⟩:=run_co h
   cases v with
   | inq=>exact q rfl
   | int=>exact unclosed m u _ hl he h
noncomputable def TS (n:Nat):Prop:=∀ (u v:Txt) (q:Bool) (d:Nat),u.length < n→Sp false q u v→run (false,d) u=some (true,0)→tokS v=tokS u
theorem ts_quote {n d:Nat} {u v:Txt} (ih:TS n) (hn:u.length < n) (h2:Sp true true u v) (hr:run (true,d + 1) u=some (true,0)):tokS (39 :: v)=tokS (39 :: u):=by
 rcases qs_split _ u [] (Nat.le_refl _) with e0 | ⟨w,rest,e1,e2,e3⟩
 ·exact (unclosed _ u [] (Nat.le_refl _) e0 hr).elim
 have hne:∀ r,rest≠39 :: r:=fun r=>qs_head _ u [] (Nat.le_refl _) rest r e1
 rw [e2] at h2 hr
 obtain ⟨rv,e4,hs⟩:=sp_q e3 h2
 have hrv:∀ r,rv≠39 :: r:=by
  intro r hx
  subst hx
  cases hs with
  | keep _ _ _ u2 _ _=>exact hne u2 rfl
 obtain ⟨s,hqs⟩:=qs_q e3 []
 rw [e4,e2,tokS_q,tokS_q,hqs rest hne,hqs rv hrv]
 exact congrArg (_ :: ·) (ih rest rv true (d + 1) (by rw [e2,List.length_append,List.length_cons] at hn; omega) hs (run_in e3 hr))
theorem ts_dig {n d c:Nat} {u v:Txt} (ih:TS n) (hn:u.length < n) (h2:Sp false false u v) (qd:isDig c=true) (hr:run (false,d) (c :: u)=some (true,0)):tokS (c :: v)=tokS (c :: u):=by
 obtain ⟨g1,g2⟩:=sp_dig u v (c - 48) h2
 obtain ⟨w,e1,e2⟩:=dGo_split u (c - 48)
 have hl:=(dGo_suf u (c - 48)).len
 rw [tokS_n _ qd,tokS_n _ qd]
 generalize dGo (c - 48) u=p at *
 generalize dGo (c - 48) v=p' at *
 rw [e1] at hr
 have hr:run (false,d) p.2=some (true,0):=run_dg (v:=p.2) qd e2 hr
 have ha:aft 72 p.2=none:=by
  cases hz:aft 72 p.2 with
  | none=>rfl
  | some r3 =>
   rw [aft_eq hz] at hr
   cases d <;> cases hr
 have ha':aft 72 p'.2=none:=by
  cases hz:aft 72 p'.2 with
  | none=>rfl
  | some r3 =>
   rw [aft_eq hz] at g2
   generalize p.2=z at *
   cases g2 with
   | keep _ _ _ u2 _ _=>cases ha
 have hk:nTok p'=((nTok p).1,p'.2):=by unfold nTok; rw [ha,ha',g1]
 rw [hk,nTok_no ha]
 exact congrArg (_ :: ·) (ih p.2 p'.2 false d (Nat.lt_of_le_of_lt hl hn) g2 hr)
theorem tok_sp:∀ n,TS n
 | 0=>fun _ _ _ _ h=>(Nat.not_lt_zero _ h).elim
 | n + 1=>by
  intro u v q d hn h hr
  have ih:=tok_sp n
  cases u with
  | nil=>cases h; rfl
  | cons c u =>
  have hu:u.length < n:=Nat.lt_of_succ_lt_succ hn
  have core:∀ v',Sp (if c=39 then true else false) (c==39) u v'→tokS (c :: v')=tokS (c :: u):=by
   intro v' h'
   by_cases q32:c=32
   ·subst q32
    rw [tokS_blank,tokS_blank]
    refine ih u v' false d hu h' ?_
    cases d <;> exact hr
   by_cases q39:c=39
   ·subst q39
    cases d with
    | zero=>cases hr
    | succ d=>exact ts_quote ih hu h' hr
   have h2:=sp_no q39 h'
   by_cases qd:isDig c=true
   ·exact ts_dig ih hu h2 qd hr
   have qd':isDig c=false:=Bool.eq_false_iff.mpr qd
   rw [tk_sg q32 q39 qd',tk_sg q32 q39 qd']
   refine congrArg (_ :: ·) ?_
   obtain ⟨s',ht,hr⟩:=run_inv hr
   rcases tr_flag ht with hf | hf
   ·rw [if_neg q39] at hf
    obtain ⟨sf,sd⟩:=s'
    cases (hf:sf=false)
    exact ih u v' false sd hu h2 hr
   ·subst hf
    cases run_end hr
    cases h2; rfl
  cases h with
  | keep _ _ _ _ v h'=>exact core v h'
  | put _ _ v h'=>rw [tokS_blank]; exact core v h'
theorem readC_tok {u v:Txt} (h:tokS v=tokS u):readC v=readC u:=by unfold readC; rw [h]
end Mine.P
end
section
namespace Mine.P
noncomputable def PlI (n:Nat) (i:It):Prop:=V.plain n i.toV=true
theorem all_pV {n:Nat}:∀ ps:List (Option Int),(ps.map pV).all (V.plain n)=true
 | []=>rfl
 | none :: ps=>by show (V.plain n .none&&_)=true; rw [pl_none]; exact all_pV ps
 | some k :: ps=>by show (V.plain n (.int k)&&_)=true; rw [pl_int]; exact all_pV ps
theorem plain_nums {n:Nat} {w:Txt} (ps:List (Option Int)):PlI (n + 1) (.nums w ps):=by
 show (V.plain n (.str w)&&(ps.map pV).all (V.plain n))=true
 rw [pl_str,all_pV]; rfl
theorem plain_lst {n:Nat} {l:List It} (h:∀ i∈l,PlI n i):V.plain (n + 1) (.lst (toVs l))=true:=by
 show (toVs l).all (V.plain n)=true
 rw [toVs_map,List.all_map,List.all_eq_true]
 exact h
theorem kinds_pl {n:Nat}:Kinds (PlI (n + 2)) where
 nums _ ps:=plain_nums ps
 text s:=by show (V.plain (n + 1) (.str [72])&&(V.plain (n + 1) (.str s)&&true))=true; rw [pl_str,pl_str]; rfl
 rep k w _ ps:=by
  show (V.plain (n + 1) (.str [114,101,112,101,97,116])&&(V.plain (n + 1) (.int k)&&(V.plain (n + 1) (It.nums w ps).toV&&true)))=true
  rw [pl_str,pl_int,show V.plain (n + 1) (It.nums w ps).toV=true from plain_nums ps]; rfl
noncomputable def PLo (n:Nat) (x:Option (List It × Txt)):Prop:=∀ l r,x=some (l,r)→∀ i∈l,PlI n i
theorem plo_no {n:Nat}:PLo n none:=fun _ _ h=>nomatch h
theorem itemsC_plain:∀ (f lim:Nat) (acc:List It) (after:Bool) (u:Txt),(∀ i∈acc,PlI (2 * lim + 2) i)→PLo (2 * lim + 2) (itemsC f lim acc after u)
 | 0,lim,acc,after,u,ha=>plo_no
 | f + 1,lim,acc,after,u,ha=>by
  have hg:∀ k u,Po (PlI (2 * lim + 2)) u (grpC f lim k u):=fun k u i r h=>by
   refine ⟨(grpC_suf h).tail,?_⟩
   cases lim with
   | zero=>cases h
   | succ m =>
    unfold grpC at h
    dsimp only at h
    rcases e:itemsC f m [] false u with _ | ⟨_ | ⟨j,l⟩,v⟩
    ·rw [e] at h; cases h
    ·rw [e] at h; cases h
    ·rw [e] at h; cases h
     have hl:V.plain (2 * (m + 1) + 1) (.lst (toVs (j :: l)))=true:=plain_lst (itemsC_plain f m [] false u (fun _ h=>nomatch h) _ _ e)
     show (V.plain (2 * (m + 1) + 1) (.str [103,114,111,117,112])&&(V.plain (2 * (m + 1) + 1) (.int ((k:Nat):Int))&&(V.plain (2 * (m + 1) + 1) (.lst (toVs (j :: l)))&&true)))=true
     rw [pl_str,pl_int,hl]; rfl
  rw [itemsC_succ]
  cases hk:skip u with
  | nil=>exact plo_no
  | cons c r =>
   refine iteP (P:=PLo (2 * lim + 2)) (fun _=>iteP (P:=PLo (2 * lim + 2)) (fun _=>plo_no) fun _=>iteP (P:=PLo (2 * lim + 2)) (fun _ l r e=>by cases e; exact ha) fun _=>itemsC_plain f lim acc true r ha) fun _=>?_
   rcases e:itemC (grpC f lim) (c :: r) with _ | ⟨i,v⟩
   ·exact plo_no
   ·refine iteP (P:=PLo (2 * lim + 2)) (fun _=>plo_no) fun _=>itemsC_plain f lim _ false v fun x hx=>?_
    exact (List.mem_append.mp hx).elim (ha x) fun hx=>by rw [List.mem_singleton.mp hx]; exact (item_po kinds_pl hg i v e).2
theorem plain_up:∀ (v:V) {n m:Nat},n≤m→V.plain n v=true→V.plain m v=true:=by
 intro v n m h
 induction n generalizing v m with
 | zero=>cases v <;> first | (intro h; cases h; done) | (intro _; cases m <;> rfl)
 | succ n ih =>
  cases m with
  | zero=>exact (Nat.not_succ_le_zero _ h).elim
  | succ m =>
   have all:∀ l:List V,l.all (V.plain n)=true→l.all (V.plain m)=true:=fun l hl=>List.all_eq_true.mpr fun x hx=>ih x (Nat.le_of_succ_le_succ h) (List.all_eq_true.mp hl x hx)
   cases v <;> first | (intro h; cases h; done) | exact fun h=>h | exact all _
theorem parse_plain {f:Nat} {u:Txt}:V.plain 60 (optL (parseC f u))=true:=by
 unfold parseC
 rcases skip u with _ | ⟨c,r⟩
 ·rfl
 refine iteP (P:=fun x=>V.plain 60 (optL x)=true) (fun _=>?_) fun _=>rfl
 rcases e:itemsC f 10 [] false r with _ | ⟨l,v⟩
 ·rfl
 ·exact iteP (P:=fun x=>V.plain 60 (optL x)=true) (fun _=>plain_up (.lst (toVs l)) (n:=23) (by decide) (plain_lst (itemsC_plain f 10 [] false r (fun _ h=>nomatch h) l v e))) fun _=>rfl
mutual
theorem V.beq_self:∀ v:V,v.beq v=true
 | .none=>rfl
 | .bool b=>beq_self_eq_true b
 | .int i=>beq_self_eq_true i
 | .str s=>beq_self_eq_true s
 | .tup l=>V.beqs_self l
 | .lst l=>V.beqs_self l
 | .ref i=>beq_self_eq_true i
theorem V.beqs_self:∀ l:List V,V.beqs l l=true
 | []=>rfl
 | v :: l=>by show (v.beq v&&V.beqs l l)=true; rw [V.beq_self v,V.beqs_self l]; rfl
end
theorem cmp_same {v:V} (h:V.plain 60 v=true):cmpV .eq v v=some true∧cmpV .ne v v=some false:=by
 have hh:(v.plain 60&&v.plain 60)=true:=by rw [h]; rfl
 constructor
 ·exact (if_pos hh:(if (v.plain 60&&v.plain 60)=true then some (v.beq v) else none)=_).trans (congrArg some (V.beq_self v))
 ·exact (if_pos hh:(if (v.plain 60&&v.plain 60)=true then some (!v.beq v) else none)=_).trans (congrArg (fun b=>some (!b)) (V.beq_self v))
theorem law_true (is:List Int) (hlen:is.length≤63):runF (callF theFn 2000 200) 2000 F_law [.lst (is.map V.int)] []=some (.ok (.bool true) []):=by
 have fD:∀ (L:List Int) (m a:Nat) (T:Hp),0 < m→a≤100000→callF theFn 2000 200 23 [.ref 0,.int (m:Nat)] (pen L a T)=some (.ok (.int (drawv L a m:Nat)) (pen L (a + 1) T)) :=
  fun L m a T hm ha=>s_draw (n:=199) hm ha
 have fI:∀ (L:List Int) (a:Nat) (T:Hp),a + 33≤90000→∃ i a',Good 2 i∧a'≤a + 33∧callF theFn 2000 200 25 [.ref 0,.int 2] (pen L a T)=some (.ok i.toV (pen L a' T)) :=
  fun L a T ha=>have ⟨i,a',h1,h2,h3⟩:=s_litem (N:=2000) (L:=L) 2 200 a T (by decide) ha; ⟨i,a',h1,h2,h3⟩
 have fF:∀ (l:List It) (H:Hp),l.length≤5→(∀ i∈l,Good 2 i)→callF theFn 2000 200 22 [.lst (toVs l)] H=some (.ok (.str (wWhole [44] l)) H) :=
  fun l H hl h=>s_write_format (n:=192) (d:=2) (by decide) hl h
 have fW:∀ (j:Txt) (l:List It) (H:Hp),j.length≤1→l.length≤5→(∀ i∈l,Good 2 i)→callF theFn 2000 200 28 [.lst (toVs l),.str j] H=some (.ok (.str (wWhole j l)) H) :=
  fun j l H hj hl h=>s_whole (n:=193) (d:=2) hj (by decide) hl h
 have fP:∀ (t:Txt) (H:Hp),t.length≤900→callF theFn 2000 200 19 [.str t] H=rsP H (parseC 1000 t) :=
  fun t H ht=>s_parse_format (by omega) (by omega) (by omega) (by omega) (by omega)
 have fH:∀ (t:Txt) (H:Hp),t.length≤900→callF theFn 2000 200 38 [.str t] H=some (.ok (optL (parseC 1000 t)) H) :=
  fun t H ht=>s_heard (by omega) (by omega) (by omega) (by omega) (by omega)
 have fR:∀ (t:Txt) (H:Hp),t.length≤600→okT t→callF theFn 2000 200 37 [.str t] H=some (.ok (optL (readC t)) H) :=
  fun t H ht ho=>s_read (n:=194) ht (by omega) ho
 have fS:∀ (L:List Int) (a:Nat) (T:Hp) (u:Txt),a + u.length≤90000→2 * u.length≤90000→∃ v a',Sp false false u v∧a'≤a + u.length∧callF theFn 2000 200 29 [.ref 0,.str u] (pen L a T)=some (.ok (.str v) (pen L a' T)) :=
  fun L a T u h1 h2=>s_spaced (n:=198) h1 h2
 have fB:∀ (L:List Int) (a:Nat) (T:Hp) (t:Txt),a≤80000→t.length≤4000→∃ t1 t2 t3,Bend t t1∧Bend t1 t2∧Bend t2 t3∧callF theFn 2000 200 30 [.ref 0,.str t] (pen L a T)=some (.ok (.str t3) (pen L (a + 3) T)) :=
  fun L a T t h1 h2=>s_bent (n:=198) h1 h2
 generalize callF theFn 2000 200=call at *
 obtain ⟨L,hL⟩:∃ L:List Int,slV (.lst (is.map V.int)) .none (.int 48)=some (.lst (L.map V.int)):=by
  have h1:bound (is.map V.int).length (is.map V.int).length (.int 48)=some (min 48 (is.map V.int).length):=bound_nat' (k:=48) (by omega)
  refine ⟨is.take (min 48 (is.map V.int).length),?_⟩
  exact (congrArg (fun o:Option Nat=>Option.map V.lst (match some 0,o with | some a,some b=>some (((is.map V.int).take b).drop a) | _,_=>none)) h1).trans (congrArg (fun l=>some (V.lst l)) (List.map_take ..).symm)
 have d0:=fD L 5 0 [] (by omega) (by omega)
 have l0:=drawv_lt L 0 (m:=5) (by omega)
 have eN:evE call 0 [some (.lst (is.map V.int)),some (.ref 0),none,none,none] (.bin .add (.int 1) (.call 23 (.cons (.loc 1) (.cons (.int 5) .nil)))) (pen L 0 [])=some (.ok (.int ((1 + drawv L 0 5:Nat):Int)) (pen L 1 [])):=by
  have ex:evE call 0 [some (.lst (is.map V.int)),some (.ref 0),none,none,none] (.call 23 (.cons (.loc 1) (.cons (.int 5) .nil))) (pen L 0 [])=_:=bnd_ok (bnd_ok (e_loc rfl) (bnd_ok (bnd_ok e_int rfl) rfl)) d0
  exact bnd_ok e_int (bnd_ok ex (congrArg (fun i=>some (Res.ok (V.int i) _)) (show (1:Int) + (drawv L 0 5:Nat)=((1 + drawv L 0 5:Nat):Int) by omega)))
 generalize drawv L 0 5=m at *
 have hm33:(1 + m) * 33≤165:=by omega
 obtain ⟨vs,a1,g1,g2,g3,g4⟩:=e_comp (L:=L) (call:=call) (b:=0) (l:=[some (.lst (is.map V.int)),some (.ref 0),none,none,none]) (e:=.call 25 (.cons (.loc 1) (.cons (.int 2) .nil))) (x:=3) (K:=33) (P:=fun v=>∃ i,Good 2 i∧v=It.toV i) (fun v hv=>by obtain ⟨i,_,rfl⟩:=hv; exact It.pure i) eN (by omega) (by omega) (by
  intro i a T' ha
  obtain ⟨i,a2,h1,h2,h3⟩:=fI L a T' ha
  exact ⟨i.toV,a2,⟨i,h1,rfl⟩,h2,bnd_ok (bnd_ok (e_loc rfl) (bnd_ok (bnd_ok e_int rfl) rfl)) h3⟩)
 obtain ⟨l,h1,hG⟩:=unmap (f:=It.toV) (Q:=fun i=>Good 2 i) vs g2
 subst h1
 rw [← toVs_map] at g4
 have hll:l.length=1 + m:=by simpa using g1
 have hl5:l.length≤5:=by omega
 have wl:∀ j:Txt,j.length≤1→(wWhole j l).length≤262:=by
  intro j hj
  have h1:=items_len hj l none hG
  have h2:lenB 2=51:=rfl
  rw [h2] at h1
  have h3:l.length * (51 + 1)≤5 * 52:=Nat.mul_le_mul_right _ hl5
  simp only [wWhole,List.length_cons,List.length_append,List.length_nil]; omega
 have pars:∀ u:Txt,u.length≤900→Bt 3 (false,0) u→parseC 1000 u=readC u:=fun u hu hb=>parse_read (by omega) (by omega) (fun l hr=>bent_fits hb hr)
 have pw:∀ j:Txt,(j=[]∨j=[44])→parseC 1000 (wWhole j l)=some l:=by
  intro j hj
  have hj1:j.length≤1:=by rcases hj with rfl | rfl <;> simp
  rw [pars _ (by have:=wl j hj1; omega) ((Bt.of_run _ _ (whole_ok hj hG).1).mono (by omega)),read_whole hj hG]
 have hpl:V.plain 60 (.lst (toVs l))=true:=by
  have:=parse_plain (f:=1000) (u:=wWhole [44] l)
  rw [pw [44] (.inr rfl)] at this
  exact this
 have hne:=(cmp_same hpl).2
 have w44:=wl [44] (by decide)
 have d1:=fD L 2 a1 [none] (by omega) (by omega)
 have l1:=drawv_lt L a1 (m:=2) (by omega)
 obtain ⟨j,hj,hjm⟩:=get_in (s:=([[],[44]]:List Txt)) (k:=drawv L a1 2) l1
 have hj2:j=[]∨j=[44]:=by simpa using hjm
 have hj1:j.length≤1:=by rcases hj2 with rfl | rfl <;> simp
 have hwj:=wl j hj1
 obtain ⟨v,a2,hsp,ha2,eS⟩:=fS L (a1 + 1) [none] (wWhole j l) (by omega) (by omega)
 have hvl:=hsp.len
 have hvrun:run (false,0) v=some (true,0):=run_sp hsp (.inl rfl) (whole_ok hj2 hG).1
 have hvok:okT v:=hsp.ok (whole_ok hj2 hG).2
 have hvread:readC v=some l:=by rw [readC_tok (tok_sp _ _ v false 0 (Nat.lt_succ_self _) hsp (whole_ok hj2 hG).1),read_whole hj2 hG]
 have hvb:Bt 0 (false,0) v:=Bt.of_run _ _ hvrun
 have hvp:parseC 1000 v=some l:=by rw [pars v (by omega) (hvb.mono (by omega)),hvread]
 obtain ⟨t1,t2,t3,b1,b2,b3,eB⟩:=fB L a2 [none] v (by omega) (by omega)
 have n1:=b1.len
 have n2:=b2.len
 have n3:=b3.len
 have ht3:Bt 3 (false,0) t3:=((hvb.bend b1).bend b2).bend b3
 have hok3:okT t3:=b3.ok (b2.ok (b1.ok hvok))
 have hp3:=pars t3 (by omega) ht3
 have hcmp:=(cmp_same (parse_plain (f:=1000) (u:=t3))).1
 rw [hp3] at hcmp
 have e22:=fF l (pen L a1 [none]) hl5 hG
 have e28:=fW [44] l (pen L a1 [none]) (by decide) hl5 hG
 have e19:=fP (wWhole [44] l) (pen L a1 [none]) (by omega)
 rw [pw [44] (.inr rfl)] at e19
 have el:evE call 0 [some (.lst (is.map V.int)),some (.ref 0),some (.lst (toVs l)),none,none] (.lstF (.cons (.str []) (.cons (.str [44]) .nil))) (pen L a1 [none])=some (.ok (.lst [.str [],.str [44]]) (pen L a1 [none])):=rfl
 have hi:idxV (pen L (a1 + 1) [none]) (.lst [.str [],.str [44]]) (.int (drawv L a1 2:Nat))=some (.str j):=i_lst (ws:=[[],[44]]) hj
 have eW:=fW j l (pen L (a1 + 1) [none]) hj1 hl5 hG
 have e19v:=fP v (pen L a2 [none]) (by omega)
 rw [hvp] at e19v
 have e38:=fH t3 (pen L (a2 + 3) [none]) (by omega)
 have e37:=fR t3 (pen L (a2 + 3) [none]) (by omega) hok3
 rw [hp3] at e38
 have nc:cmpV .ne (.str (wWhole [44] l)) (.str (wWhole [44] l))=some false:=by rw [cmp_nes,beq_self_eq_true]; rfl
 have W:=walk (call:=call) (N:=2000) (b:=0) F_law.body [some (.lst (is.map V.int)),none,none,none,none] []
 exact run_ret2 (H':=pen L (a2 + 3) [none]) rfl (W hL (bndS_ok g4 rfl) e22 e28 nc e28 e19 hne el d1 hi eW eS e19v hne eB e38 e37 hcmp) rfl rfl
end Mine.P
end
end
section
open PySem PySem.W PyProof.Rows
namespace Mine
noncomputable def tx (s:Str):Txt:=s.cps.toList
noncomputable def fnm (f:Nat):Option Txt:=(theFn f).map Fn.name
noncomputable def pyCop:Cop→CmpOp
 | .eq=>.Eq | .ne=>.NotEq | .lt=>.Lt | .le=>.LtE | .gt=>.Gt | .ge=>.GtE | .isIn=>.In | .notIn=>.NotIn
noncomputable def pyBop:Bop→Operator
 | .add=>.Add | .sub=>.Sub | .mul=>.Mult | .fdiv=>.FloorDiv | .mod=>.Mod
noncomputable def isLoc (nm:List Txt) (x:Nat) (id:Str):Bool:=nm[x]?==some (tx id)&&id != ("__debug__" : Str)&&id != ("__classdict__" : Str)
noncomputable def isVarK:Option NameKind→Bool
 | some .local=>true
 | some .cell=>true
 | some .free=>true
 | _=>false
noncomputable def isGlob (kd:Str→Option NameKind) (id:Str) (t:Txt):Bool:=tx id==t&&kd id==some .globalImplicit&&id != ("__debug__" : Str)
noncomputable def constStrs:List Expr→List Txt→Bool
 | [],[]=>true
 | .Constant (.str s) _ _ :: r,w :: ws=>tx s==w&&constStrs r ws
 | _,_=>false
noncomputable def chkWs (es:List Expr) (ws:List Txt):Bool:=constStrs es ws&&decide (ws.length≤100)&&ws.all fun w=>w.all (· < 1114112)
noncomputable def copOk (o:Cop) (op:CmpOp):Bool:=decide (op=pyCop o)
noncomputable def notDisp:Expr→Bool
 | .Set ..=>false
 | .ListComp ..=>false
 | .SetComp ..=>false
 | .DictComp ..=>false
 | _=>true
noncomputable def methOk (o:Expr) (ap pos:Pos):Bool:=(match o with | .Call ..=>false | _=>true)&&ap.endLine==pos.line
noncomputable def notStar:Expr→Bool
 | .Starred ..=>false
 | _=>true
noncomputable def notSl:Expr→Bool
 | .Slice ..=>false
 | _=>true
theorem nb {Q:Prop} (h:false=true):Q:=Bool.noConfusion h
noncomputable def selE (e:PySem.Expr) (a1:Const→Bool) (a2:Str→Pos→Bool) (a3:Expr→Operator→Expr→Bool) (a4:UnaryOp→Expr→Bool) (a5:BoolOp→List Expr→Pos→Bool) (a6:Expr→Expr→Expr→Bool) (a7:Expr→List CmpOp→List Expr→Bool) (a8:List Expr→Bool) (a9:List Expr→Bool) (a10:Expr→List Expr→List Keyword→Pos→Bool) (a11:Expr→Str→Pos→Bool) (a12:Expr→Expr→Bool) (a13:Option Expr→Option Expr→Option Expr→Bool) (a14:Expr→List Comprehension→Scope→Pos→Bool):Bool:=match e with
 | .Constant c _ _=>a1 c
 | .Name c q=>a2 c q
 | .BinOp l o r _=>a3 l o r
 | .UnaryOp o x _=>a4 o x
 | .BoolOp o l q=>a5 o l q
 | .IfExp t x y _=>a6 t x y
 | .Compare l o r _=>a7 l o r
 | .Tuple l _ _=>a8 l
 | .List l _=>a9 l
 | .Call f as ks q=>a10 f as ks q
 | .Attribute o m q=>a11 o m q
 | .Subscript v i _=>a12 v i
 | .Slice l u s _=>a13 l u s
 | .ListComp t g s q=>a14 t g s q
 | _=>false
theorem selE_e {e:PySem.Expr} {a1:Const→Bool} {a2:Str→Pos→Bool} {a3:Expr→Operator→Expr→Bool} {a4:UnaryOp→Expr→Bool} {a5:BoolOp→List Expr→Pos→Bool} {a6:Expr→Expr→Expr→Bool} {a7:Expr→List CmpOp→List Expr→Bool} {a8:List Expr→Bool} {a9:List Expr→Bool} {a10:Expr→List Expr→List Keyword→Pos→Bool} {a11:Expr→Str→Pos→Bool} {a12:Expr→Expr→Bool} {a13:Option Expr→Option Expr→Option Expr→Bool} {a14:Expr→List Comprehension→Scope→Pos→Bool} {P:PySem.Expr→Prop} (h:selE e a1 a2 a3 a4 a5 a6 a7 a8 a9 a10 a11 a12 a13 a14=true) (k1:∀ c n q,a1 c=true→P (.Constant c n q)) (k2:∀ c q,a2 c q=true→P (.Name c q)) (k3:∀ l o r q,a3 l o r=true→P (.BinOp l o r q)) (k4:∀ o x q,a4 o x=true→P (.UnaryOp o x q)) (k5:∀ o l q,a5 o l q=true→P (.BoolOp o l q)) (k6:∀ t x y q,a6 t x y=true→P (.IfExp t x y q)) (k7:∀ l o r q,a7 l o r=true→P (.Compare l o r q)) (k8:∀ l n q,a8 l=true→P (.Tuple l n q)) (k9:∀ l q,a9 l=true→P (.List l q)) (k10:∀ f as ks q,a10 f as ks q=true→P (.Call f as ks q)) (k11:∀ o m q,a11 o m q=true→P (.Attribute o m q)) (k12:∀ v i q,a12 v i=true→P (.Subscript v i q)) (k13:∀ l u s q,a13 l u s=true→P (.Slice l u s q)) (k14:∀ t g s q,a14 t g s q=true→P (.ListComp t g s q)):P e:=by
 cases e with
 | Constant c n q=>exact k1 c n q h
 | Name c q=>exact k2 c q h
 | BinOp l o r q=>exact k3 l o r q h
 | UnaryOp o x q=>exact k4 o x q h
 | BoolOp o l q=>exact k5 o l q h
 | IfExp t x y q=>exact k6 t x y q h
 | Compare l o r q=>exact k7 l o r q h
 | Tuple l n q=>exact k8 l n q h
 | List l q=>exact k9 l q h
 | Call f as ks q=>exact k10 f as ks q h
 | Attribute o m q=>exact k11 o m q h
 | Subscript v i q=>exact k12 v i q h
 | Slice l u s q=>exact k13 l u s q h
 | ListComp t g s q=>exact k14 t g s q h
 | _=>exact nb h
noncomputable def selS (e:Stmt) (a1:List Expr→Expr→Pos→Bool) (a2:Expr→Operator→Expr→Bool) (a3:Expr→Bool) (a4:Expr→List Stmt→List Stmt→Bool) (a5:Expr→List Stmt→List Stmt→Bool) (a6:Expr→Expr→List Stmt→List Stmt→Bool) (a7:Option Expr→Bool) (a8:Option Expr→Option Expr→Bool) (a9:List Stmt→List ExceptHandler→List Stmt→List Stmt→Bool) (a10:Bool):Bool:=match e with
 | .Assign t v q=>a1 t v q
 | .AugAssign t o v _=>a2 t o v
 | .Expr v _=>a3 v
 | .If t a b _=>a4 t a b
 | .While t a b _=>a5 t a b
 | .For t i a b _=>a6 t i a b
 | .Return v _=>a7 v
 | .Raise v c _=>a8 v c
 | .Try a b c d _=>a9 a b c d
 | .Continue _=>a10
 | _=>false
theorem selS_e {e:Stmt} {a1:List Expr→Expr→Pos→Bool} {a2:Expr→Operator→Expr→Bool} {a3:Expr→Bool} {a4:Expr→List Stmt→List Stmt→Bool} {a5:Expr→List Stmt→List Stmt→Bool} {a6:Expr→Expr→List Stmt→List Stmt→Bool} {a7:Option Expr→Bool} {a8:Option Expr→Option Expr→Bool} {a9:List Stmt→List ExceptHandler→List Stmt→List Stmt→Bool} {a10:Bool} {P:Stmt→Prop} (h:selS e a1 a2 a3 a4 a5 a6 a7 a8 a9 a10=true) (k1:∀ t v q,a1 t v q=true→P (.Assign t v q)) (k2:∀ t o v q,a2 t o v=true→P (.AugAssign t o v q)) (k3:∀ v q,a3 v=true→P (.Expr v q)) (k4:∀ t a b q,a4 t a b=true→P (.If t a b q)) (k5:∀ t a b q,a5 t a b=true→P (.While t a b q)) (k6:∀ t i a b q,a6 t i a b=true→P (.For t i a b q)) (k7:∀ v q,a7 v=true→P (.Return v q)) (k8:∀ v c q,a8 v c=true→P (.Raise v c q)) (k9:∀ a b c d q,a9 a b c d=true→P (.Try a b c d q)) (k10:∀ q,a10=true→P (.Continue q)):P e:=by
 cases e with
 | Assign t v q=>exact k1 t v q h
 | AugAssign t o v q=>exact k2 t o v q h
 | Expr v q=>exact k3 v q h
 | If t a b q=>exact k4 t a b q h
 | While t a b q=>exact k5 t a b q h
 | For t i a b q=>exact k6 t i a b q h
 | Return v q=>exact k7 v q h
 | Raise v c q=>exact k8 v c q h
 | Try a b c d q=>exact k9 a b c d q h
 | Continue q=>exact k10 q h
 | _=>exact nb h
noncomputable def oC (e:Expr) (p:Const→Bool):Bool:=selE e p (fun _ _=>false) (fun _ _ _=>false) (fun _ _=>false) (fun _ _ _=>false) (fun _ _ _=>false) (fun _ _ _=>false) (fun _=>false) (fun _=>false) (fun _ _ _ _=>false) (fun _ _ _=>false) (fun _ _=>false) (fun _ _ _=>false) (fun _ _ _ _=>false)
noncomputable def oN (e:Expr) (p:Str→Bool):Bool:=selE e (fun _=>false) (fun c _=>p c) (fun _ _ _=>false) (fun _ _=>false) (fun _ _ _=>false) (fun _ _ _=>false) (fun _ _ _=>false) (fun _=>false) (fun _=>false) (fun _ _ _ _=>false) (fun _ _ _=>false) (fun _ _=>false) (fun _ _ _=>false) (fun _ _ _ _=>false)
noncomputable def oNp (e:Expr) (p:Str→Pos→Bool):Bool:=selE e (fun _=>false) p (fun _ _ _=>false) (fun _ _=>false) (fun _ _ _=>false) (fun _ _ _=>false) (fun _ _ _=>false) (fun _=>false) (fun _=>false) (fun _ _ _ _=>false) (fun _ _ _=>false) (fun _ _=>false) (fun _ _ _=>false) (fun _ _ _ _=>false)
noncomputable def oBi (e:Expr) (p:Expr→Operator→Expr→Bool):Bool:=selE e (fun _=>false) (fun _ _=>false) p (fun _ _=>false) (fun _ _ _=>false) (fun _ _ _=>false) (fun _ _ _=>false) (fun _=>false) (fun _=>false) (fun _ _ _ _=>false) (fun _ _ _=>false) (fun _ _=>false) (fun _ _ _=>false) (fun _ _ _ _=>false)
noncomputable def oU (e:Expr) (p:UnaryOp→Expr→Bool):Bool:=selE e (fun _=>false) (fun _ _=>false) (fun _ _ _=>false) p (fun _ _ _=>false) (fun _ _ _=>false) (fun _ _ _=>false) (fun _=>false) (fun _=>false) (fun _ _ _ _=>false) (fun _ _ _=>false) (fun _ _=>false) (fun _ _ _=>false) (fun _ _ _ _=>false)
noncomputable def oBo (e:Expr) (p:BoolOp→List Expr→Pos→Bool):Bool:=selE e (fun _=>false) (fun _ _=>false) (fun _ _ _=>false) (fun _ _=>false) p (fun _ _ _=>false) (fun _ _ _=>false) (fun _=>false) (fun _=>false) (fun _ _ _ _=>false) (fun _ _ _=>false) (fun _ _=>false) (fun _ _ _=>false) (fun _ _ _ _=>false)
noncomputable def oIf (e:Expr) (p:Expr→Expr→Expr→Bool):Bool:=selE e (fun _=>false) (fun _ _=>false) (fun _ _ _=>false) (fun _ _=>false) (fun _ _ _=>false) p (fun _ _ _=>false) (fun _=>false) (fun _=>false) (fun _ _ _ _=>false) (fun _ _ _=>false) (fun _ _=>false) (fun _ _ _=>false) (fun _ _ _ _=>false)
noncomputable def oCm (e:Expr) (p:Expr→List CmpOp→List Expr→Bool):Bool:=selE e (fun _=>false) (fun _ _=>false) (fun _ _ _=>false) (fun _ _=>false) (fun _ _ _=>false) (fun _ _ _=>false) p (fun _=>false) (fun _=>false) (fun _ _ _ _=>false) (fun _ _ _=>false) (fun _ _=>false) (fun _ _ _=>false) (fun _ _ _ _=>false)
noncomputable def oT (e:Expr) (p:List Expr→Bool):Bool:=selE e (fun _=>false) (fun _ _=>false) (fun _ _ _=>false) (fun _ _=>false) (fun _ _ _=>false) (fun _ _ _=>false) (fun _ _ _=>false) p (fun _=>false) (fun _ _ _ _=>false) (fun _ _ _=>false) (fun _ _=>false) (fun _ _ _=>false) (fun _ _ _ _=>false)
noncomputable def oL (e:Expr) (p:List Expr→Bool):Bool:=selE e (fun _=>false) (fun _ _=>false) (fun _ _ _=>false) (fun _ _=>false) (fun _ _ _=>false) (fun _ _ _=>false) (fun _ _ _=>false) (fun _=>false) p (fun _ _ _ _=>false) (fun _ _ _=>false) (fun _ _=>false) (fun _ _ _=>false) (fun _ _ _ _=>false)
noncomputable def oCa (e:Expr) (p:Expr→List Expr→List Keyword→Pos→Bool):Bool:=selE e (fun _=>false) (fun _ _=>false) (fun _ _ _=>false) (fun _ _=>false) (fun _ _ _=>false) (fun _ _ _=>false) (fun _ _ _=>false) (fun _=>false) (fun _=>false) p (fun _ _ _=>false) (fun _ _=>false) (fun _ _ _=>false) (fun _ _ _ _=>false)
noncomputable def oA (e:Expr) (p:Expr→Str→Pos→Bool):Bool:=selE e (fun _=>false) (fun _ _=>false) (fun _ _ _=>false) (fun _ _=>false) (fun _ _ _=>false) (fun _ _ _=>false) (fun _ _ _=>false) (fun _=>false) (fun _=>false) (fun _ _ _ _=>false) p (fun _ _=>false) (fun _ _ _=>false) (fun _ _ _ _=>false)
noncomputable def oSu (e:Expr) (p:Expr→Expr→Bool):Bool:=selE e (fun _=>false) (fun _ _=>false) (fun _ _ _=>false) (fun _ _=>false) (fun _ _ _=>false) (fun _ _ _=>false) (fun _ _ _=>false) (fun _=>false) (fun _=>false) (fun _ _ _ _=>false) (fun _ _ _=>false) p (fun _ _ _=>false) (fun _ _ _ _=>false)
noncomputable def oSl (e:Expr) (p:Option Expr→Option Expr→Option Expr→Bool):Bool:=selE e (fun _=>false) (fun _ _=>false) (fun _ _ _=>false) (fun _ _=>false) (fun _ _ _=>false) (fun _ _ _=>false) (fun _ _ _=>false) (fun _=>false) (fun _=>false) (fun _ _ _ _=>false) (fun _ _ _=>false) (fun _ _=>false) p (fun _ _ _ _=>false)
noncomputable def oLc (e:Expr) (p:Expr→List Comprehension→Scope→Pos→Bool):Bool:=selE e (fun _=>false) (fun _ _=>false) (fun _ _ _=>false) (fun _ _=>false) (fun _ _ _=>false) (fun _ _ _=>false) (fun _ _ _=>false) (fun _=>false) (fun _=>false) (fun _ _ _ _=>false) (fun _ _ _=>false) (fun _ _=>false) (fun _ _ _=>false) p
noncomputable def one {α:Type} (l:List α) (p:α→Bool):Bool:=match l with | [x]=>p x | _=>false
noncomputable def two {α:Type} (l:List α) (p:α→α→Bool):Bool:=match l with | [x,y]=>p x y | _=>false
noncomputable def nilB {α:Type} (l:List α) (p:Bool):Bool:=match l with | []=>p | _=>false
noncomputable def oCons {α:Type} (l:List α) (p:α→List α→Bool):Bool:=match l with | x :: r=>p x r | _=>false
noncomputable def oSome {α:Type} (l:Option α) (p:α→Bool):Bool:=match l with | some x=>p x | _=>false
noncomputable def oNone {α:Type} (l:Option α) (p:Bool):Bool:=match l with | none=>p | _=>false
noncomputable def cS (c:Const) (p:Str→Bool):Bool:=match c with | .str b=>p b | _=>false
noncomputable def isIt {α:Type} [DecidableEq α] (x a:α) (p:Bool):Bool:=cond (decide (x=a)) p false
noncomputable def isNoE:E→Bool
 | .none=>true
 | _=>false
noncomputable def oAs (e:Stmt) (p:List Expr→Expr→Pos→Bool):Bool:=selS e p (fun _ _ _=>false) (fun _=>false) (fun _ _ _=>false) (fun _ _ _=>false) (fun _ _ _ _=>false) (fun _=>false) (fun _ _=>false) (fun _ _ _ _=>false) false
noncomputable def oAu (e:Stmt) (p:Expr→Operator→Expr→Bool):Bool:=selS e (fun _ _ _=>false) p (fun _=>false) (fun _ _ _=>false) (fun _ _ _=>false) (fun _ _ _ _=>false) (fun _=>false) (fun _ _=>false) (fun _ _ _ _=>false) false
noncomputable def oEx (e:Stmt) (p:Expr→Bool):Bool:=selS e (fun _ _ _=>false) (fun _ _ _=>false) p (fun _ _ _=>false) (fun _ _ _=>false) (fun _ _ _ _=>false) (fun _=>false) (fun _ _=>false) (fun _ _ _ _=>false) false
noncomputable def oI (e:Stmt) (p:Expr→List Stmt→List Stmt→Bool):Bool:=selS e (fun _ _ _=>false) (fun _ _ _=>false) (fun _=>false) p (fun _ _ _=>false) (fun _ _ _ _=>false) (fun _=>false) (fun _ _=>false) (fun _ _ _ _=>false) false
noncomputable def oW (e:Stmt) (p:Expr→List Stmt→List Stmt→Bool):Bool:=selS e (fun _ _ _=>false) (fun _ _ _=>false) (fun _=>false) (fun _ _ _=>false) p (fun _ _ _ _=>false) (fun _=>false) (fun _ _=>false) (fun _ _ _ _=>false) false
noncomputable def oF (e:Stmt) (p:Expr→Expr→List Stmt→List Stmt→Bool):Bool:=selS e (fun _ _ _=>false) (fun _ _ _=>false) (fun _=>false) (fun _ _ _=>false) (fun _ _ _=>false) p (fun _=>false) (fun _ _=>false) (fun _ _ _ _=>false) false
noncomputable def oRe (e:Stmt) (p:Option Expr→Bool):Bool:=selS e (fun _ _ _=>false) (fun _ _ _=>false) (fun _=>false) (fun _ _ _=>false) (fun _ _ _=>false) (fun _ _ _ _=>false) p (fun _ _=>false) (fun _ _ _ _=>false) false
noncomputable def oRa (e:Stmt) (p:Option Expr→Option Expr→Bool):Bool:=selS e (fun _ _ _=>false) (fun _ _ _=>false) (fun _=>false) (fun _ _ _=>false) (fun _ _ _=>false) (fun _ _ _ _=>false) (fun _=>false) p (fun _ _ _ _=>false) false
noncomputable def oTr (e:Stmt) (p:List Stmt→List ExceptHandler→List Stmt→List Stmt→Bool):Bool:=selS e (fun _ _ _=>false) (fun _ _ _=>false) (fun _=>false) (fun _ _ _=>false) (fun _ _ _=>false) (fun _ _ _ _=>false) (fun _=>false) (fun _ _=>false) p false
noncomputable def oCo (e:Stmt) (p:Bool):Bool:=selS e (fun _ _ _=>false) (fun _ _ _=>false) (fun _=>false) (fun _ _ _=>false) (fun _ _ _=>false) (fun _ _ _ _=>false) (fun _=>false) (fun _ _=>false) (fun _ _ _ _=>false) p
@[elab_as_elim] theorem oC_e {e:Expr} {p:Const→Bool} {P:Expr→Prop} (h:oC e p=true) (k:∀ c n q,p c=true→P (.Constant c n q)):P e:=selE_e h k (fun _ _ h=>nb h) (fun _ _ _ _ h=>nb h) (fun _ _ _ h=>nb h) (fun _ _ _ h=>nb h) (fun _ _ _ _ h=>nb h) (fun _ _ _ _ h=>nb h) (fun _ _ _ h=>nb h) (fun _ _ h=>nb h) (fun _ _ _ _ h=>nb h) (fun _ _ _ h=>nb h) (fun _ _ _ h=>nb h) (fun _ _ _ _ h=>nb h) (fun _ _ _ _ h=>nb h)
@[elab_as_elim] theorem oN_e {e:Expr} {p:Str→Bool} {P:Expr→Prop} (h:oN e p=true) (k:∀ c q,p c=true→P (.Name c q)):P e:=selE_e h (fun _ _ _ h=>nb h) k (fun _ _ _ _ h=>nb h) (fun _ _ _ h=>nb h) (fun _ _ _ h=>nb h) (fun _ _ _ _ h=>nb h) (fun _ _ _ _ h=>nb h) (fun _ _ _ h=>nb h) (fun _ _ h=>nb h) (fun _ _ _ _ h=>nb h) (fun _ _ _ h=>nb h) (fun _ _ _ h=>nb h) (fun _ _ _ _ h=>nb h) (fun _ _ _ _ h=>nb h)
@[elab_as_elim] theorem oNp_e {e:Expr} {p:Str→Pos→Bool} {P:Expr→Prop} (h:oNp e p=true) (k:∀ c q,p c q=true→P (.Name c q)):P e:=selE_e h (fun _ _ _ h=>nb h) k (fun _ _ _ _ h=>nb h) (fun _ _ _ h=>nb h) (fun _ _ _ h=>nb h) (fun _ _ _ _ h=>nb h) (fun _ _ _ _ h=>nb h) (fun _ _ _ h=>nb h) (fun _ _ h=>nb h) (fun _ _ _ _ h=>nb h) (fun _ _ _ h=>nb h) (fun _ _ _ h=>nb h) (fun _ _ _ _ h=>nb h) (fun _ _ _ _ h=>nb h)
@[elab_as_elim] theorem oBi_e {e:Expr} {p:Expr→Operator→Expr→Bool} {P:Expr→Prop} (h:oBi e p=true) (k:∀ l o r q,p l o r=true→P (.BinOp l o r q)):P e:=selE_e h (fun _ _ _ h=>nb h) (fun _ _ h=>nb h) k (fun _ _ _ h=>nb h) (fun _ _ _ h=>nb h) (fun _ _ _ _ h=>nb h) (fun _ _ _ _ h=>nb h) (fun _ _ _ h=>nb h) (fun _ _ h=>nb h) (fun _ _ _ _ h=>nb h) (fun _ _ _ h=>nb h) (fun _ _ _ h=>nb h) (fun _ _ _ _ h=>nb h) (fun _ _ _ _ h=>nb h)
@[elab_as_elim] theorem oU_e {e:Expr} {p:UnaryOp→Expr→Bool} {P:Expr→Prop} (h:oU e p=true) (k:∀ o x q,p o x=true→P (.UnaryOp o x q)):P e:=selE_e h (fun _ _ _ h=>nb h) (fun _ _ h=>nb h) (fun _ _ _ _ h=>nb h) k (fun _ _ _ h=>nb h) (fun _ _ _ _ h=>nb h) (fun _ _ _ _ h=>nb h) (fun _ _ _ h=>nb h) (fun _ _ h=>nb h) (fun _ _ _ _ h=>nb h) (fun _ _ _ h=>nb h) (fun _ _ _ h=>nb h) (fun _ _ _ _ h=>nb h) (fun _ _ _ _ h=>nb h)
@[elab_as_elim] theorem oBo_e {e:Expr} {p:BoolOp→List Expr→Pos→Bool} {P:Expr→Prop} (h:oBo e p=true) (k:∀ o l q,p o l q=true→P (.BoolOp o l q)):P e:=selE_e h (fun _ _ _ h=>nb h) (fun _ _ h=>nb h) (fun _ _ _ _ h=>nb h) (fun _ _ _ h=>nb h) k (fun _ _ _ _ h=>nb h) (fun _ _ _ _ h=>nb h) (fun _ _ _ h=>nb h) (fun _ _ h=>nb h) (fun _ _ _ _ h=>nb h) (fun _ _ _ h=>nb h) (fun _ _ _ h=>nb h) (fun _ _ _ _ h=>nb h) (fun _ _ _ _ h=>nb h)
@[elab_as_elim] theorem oIf_e {e:Expr} {p:Expr→Expr→Expr→Bool} {P:Expr→Prop} (h:oIf e p=true) (k:∀ t x y q,p t x y=true→P (.IfExp t x y q)):P e:=selE_e h (fun _ _ _ h=>nb h) (fun _ _ h=>nb h) (fun _ _ _ _ h=>nb h) (fun _ _ _ h=>nb h) (fun _ _ _ h=>nb h) k (fun _ _ _ _ h=>nb h) (fun _ _ _ h=>nb h) (fun _ _ h=>nb h) (fun _ _ _ _ h=>nb h) (fun _ _ _ h=>nb h) (fun _ _ _ h=>nb h) (fun _ _ _ _ h=>nb h) (fun _ _ _ _ h=>nb h)
@[elab_as_elim] theorem oCm_e {e:Expr} {p:Expr→List CmpOp→List Expr→Bool} {P:Expr→Prop} (h:oCm e p=true) (k:∀ l o r q,p l o r=true→P (.Compare l o r q)):P e:=selE_e h (fun _ _ _ h=>nb h) (fun _ _ h=>nb h) (fun _ _ _ _ h=>nb h) (fun _ _ _ h=>nb h) (fun _ _ _ h=>nb h) (fun _ _ _ _ h=>nb h) k (fun _ _ _ h=>nb h) (fun _ _ h=>nb h) (fun _ _ _ _ h=>nb h) (fun _ _ _ h=>nb h) (fun _ _ _ h=>nb h) (fun _ _ _ _ h=>nb h) (fun _ _ _ _ h=>nb h)
@[elab_as_elim] theorem oT_e {e:Expr} {p:List Expr→Bool} {P:Expr→Prop} (h:oT e p=true) (k:∀ l n q,p l=true→P (.Tuple l n q)):P e:=selE_e h (fun _ _ _ h=>nb h) (fun _ _ h=>nb h) (fun _ _ _ _ h=>nb h) (fun _ _ _ h=>nb h) (fun _ _ _ h=>nb h) (fun _ _ _ _ h=>nb h) (fun _ _ _ _ h=>nb h) k (fun _ _ h=>nb h) (fun _ _ _ _ h=>nb h) (fun _ _ _ h=>nb h) (fun _ _ _ h=>nb h) (fun _ _ _ _ h=>nb h) (fun _ _ _ _ h=>nb h)
@[elab_as_elim] theorem oL_e {e:Expr} {p:List Expr→Bool} {P:Expr→Prop} (h:oL e p=true) (k:∀ l q,p l=true→P (.List l q)):P e:=selE_e h (fun _ _ _ h=>nb h) (fun _ _ h=>nb h) (fun _ _ _ _ h=>nb h) (fun _ _ _ h=>nb h) (fun _ _ _ h=>nb h) (fun _ _ _ _ h=>nb h) (fun _ _ _ _ h=>nb h) (fun _ _ _ h=>nb h) k (fun _ _ _ _ h=>nb h) (fun _ _ _ h=>nb h) (fun _ _ _ h=>nb h) (fun _ _ _ _ h=>nb h) (fun _ _ _ _ h=>nb h)
@[elab_as_elim] theorem oCa_e {e:Expr} {p:Expr→List Expr→List Keyword→Pos→Bool} {P:Expr→Prop} (h:oCa e p=true) (k:∀ f as ks q,p f as ks q=true→P (.Call f as ks q)):P e:=selE_e h (fun _ _ _ h=>nb h) (fun _ _ h=>nb h) (fun _ _ _ _ h=>nb h) (fun _ _ _ h=>nb h) (fun _ _ _ h=>nb h) (fun _ _ _ _ h=>nb h) (fun _ _ _ _ h=>nb h) (fun _ _ _ h=>nb h) (fun _ _ h=>nb h) k (fun _ _ _ h=>nb h) (fun _ _ _ h=>nb h) (fun _ _ _ _ h=>nb h) (fun _ _ _ _ h=>nb h)
@[elab_as_elim] theorem oA_e {e:Expr} {p:Expr→Str→Pos→Bool} {P:Expr→Prop} (h:oA e p=true) (k:∀ o m q,p o m q=true→P (.Attribute o m q)):P e:=selE_e h (fun _ _ _ h=>nb h) (fun _ _ h=>nb h) (fun _ _ _ _ h=>nb h) (fun _ _ _ h=>nb h) (fun _ _ _ h=>nb h) (fun _ _ _ _ h=>nb h) (fun _ _ _ _ h=>nb h) (fun _ _ _ h=>nb h) (fun _ _ h=>nb h) (fun _ _ _ _ h=>nb h) k (fun _ _ _ h=>nb h) (fun _ _ _ _ h=>nb h) (fun _ _ _ _ h=>nb h)
@[elab_as_elim] theorem oSu_e {e:Expr} {p:Expr→Expr→Bool} {P:Expr→Prop} (h:oSu e p=true) (k:∀ v i q,p v i=true→P (.Subscript v i q)):P e:=selE_e h (fun _ _ _ h=>nb h) (fun _ _ h=>nb h) (fun _ _ _ _ h=>nb h) (fun _ _ _ h=>nb h) (fun _ _ _ h=>nb h) (fun _ _ _ _ h=>nb h) (fun _ _ _ _ h=>nb h) (fun _ _ _ h=>nb h) (fun _ _ h=>nb h) (fun _ _ _ _ h=>nb h) (fun _ _ _ h=>nb h) k (fun _ _ _ _ h=>nb h) (fun _ _ _ _ h=>nb h)
@[elab_as_elim] theorem oSl_e {e:Expr} {p:Option Expr→Option Expr→Option Expr→Bool} {P:Expr→Prop} (h:oSl e p=true) (k:∀ l u s q,p l u s=true→P (.Slice l u s q)):P e:=selE_e h (fun _ _ _ h=>nb h) (fun _ _ h=>nb h) (fun _ _ _ _ h=>nb h) (fun _ _ _ h=>nb h) (fun _ _ _ h=>nb h) (fun _ _ _ _ h=>nb h) (fun _ _ _ _ h=>nb h) (fun _ _ _ h=>nb h) (fun _ _ h=>nb h) (fun _ _ _ _ h=>nb h) (fun _ _ _ h=>nb h) (fun _ _ _ h=>nb h) k (fun _ _ _ _ h=>nb h)
@[elab_as_elim] theorem oLc_e {e:Expr} {p:Expr→List Comprehension→Scope→Pos→Bool} {P:Expr→Prop} (h:oLc e p=true) (k:∀ t g s q,p t g s q=true→P (.ListComp t g s q)):P e:=selE_e h (fun _ _ _ h=>nb h) (fun _ _ h=>nb h) (fun _ _ _ _ h=>nb h) (fun _ _ _ h=>nb h) (fun _ _ _ h=>nb h) (fun _ _ _ _ h=>nb h) (fun _ _ _ _ h=>nb h) (fun _ _ _ h=>nb h) (fun _ _ h=>nb h) (fun _ _ _ _ h=>nb h) (fun _ _ _ h=>nb h) (fun _ _ _ h=>nb h) (fun _ _ _ _ h=>nb h) k
@[elab_as_elim] theorem oAs_e {e:Stmt} {p:List Expr→Expr→Pos→Bool} {P:Stmt→Prop} (h:oAs e p=true) (k:∀ t v q,p t v q=true→P (.Assign t v q)):P e:=selS_e h k (fun _ _ _ _ h=>nb h) (fun _ _ h=>nb h) (fun _ _ _ _ h=>nb h) (fun _ _ _ _ h=>nb h) (fun _ _ _ _ _ h=>nb h) (fun _ _ h=>nb h) (fun _ _ _ h=>nb h) (fun _ _ _ _ _ h=>nb h) (fun _ h=>nb h)
@[elab_as_elim] theorem oAu_e {e:Stmt} {p:Expr→Operator→Expr→Bool} {P:Stmt→Prop} (h:oAu e p=true) (k:∀ t o v q,p t o v=true→P (.AugAssign t o v q)):P e:=selS_e h (fun _ _ _ h=>nb h) k (fun _ _ h=>nb h) (fun _ _ _ _ h=>nb h) (fun _ _ _ _ h=>nb h) (fun _ _ _ _ _ h=>nb h) (fun _ _ h=>nb h) (fun _ _ _ h=>nb h) (fun _ _ _ _ _ h=>nb h) (fun _ h=>nb h)
@[elab_as_elim] theorem oEx_e {e:Stmt} {p:Expr→Bool} {P:Stmt→Prop} (h:oEx e p=true) (k:∀ v q,p v=true→P (.Expr v q)):P e:=selS_e h (fun _ _ _ h=>nb h) (fun _ _ _ _ h=>nb h) k (fun _ _ _ _ h=>nb h) (fun _ _ _ _ h=>nb h) (fun _ _ _ _ _ h=>nb h) (fun _ _ h=>nb h) (fun _ _ _ h=>nb h) (fun _ _ _ _ _ h=>nb h) (fun _ h=>nb h)
@[elab_as_elim] theorem oI_e {e:Stmt} {p:Expr→List Stmt→List Stmt→Bool} {P:Stmt→Prop} (h:oI e p=true) (k:∀ t a b q,p t a b=true→P (.If t a b q)):P e:=selS_e h (fun _ _ _ h=>nb h) (fun _ _ _ _ h=>nb h) (fun _ _ h=>nb h) k (fun _ _ _ _ h=>nb h) (fun _ _ _ _ _ h=>nb h) (fun _ _ h=>nb h) (fun _ _ _ h=>nb h) (fun _ _ _ _ _ h=>nb h) (fun _ h=>nb h)
@[elab_as_elim] theorem oW_e {e:Stmt} {p:Expr→List Stmt→List Stmt→Bool} {P:Stmt→Prop} (h:oW e p=true) (k:∀ t a b q,p t a b=true→P (.While t a b q)):P e:=selS_e h (fun _ _ _ h=>nb h) (fun _ _ _ _ h=>nb h) (fun _ _ h=>nb h) (fun _ _ _ _ h=>nb h) k (fun _ _ _ _ _ h=>nb h) (fun _ _ h=>nb h) (fun _ _ _ h=>nb h) (fun _ _ _ _ _ h=>nb h) (fun _ h=>nb h)
@[elab_as_elim] theorem oF_e {e:Stmt} {p:Expr→Expr→List Stmt→List Stmt→Bool} {P:Stmt→Prop} (h:oF e p=true) (k:∀ t i a b q,p t i a b=true→P (.For t i a b q)):P e:=selS_e h (fun _ _ _ h=>nb h) (fun _ _ _ _ h=>nb h) (fun _ _ h=>nb h) (fun _ _ _ _ h=>nb h) (fun _ _ _ _ h=>nb h) k (fun _ _ h=>nb h) (fun _ _ _ h=>nb h) (fun _ _ _ _ _ h=>nb h) (fun _ h=>nb h)
@[elab_as_elim] theorem oRe_e {e:Stmt} {p:Option Expr→Bool} {P:Stmt→Prop} (h:oRe e p=true) (k:∀ v q,p v=true→P (.Return v q)):P e:=selS_e h (fun _ _ _ h=>nb h) (fun _ _ _ _ h=>nb h) (fun _ _ h=>nb h) (fun _ _ _ _ h=>nb h) (fun _ _ _ _ h=>nb h) (fun _ _ _ _ _ h=>nb h) k (fun _ _ _ h=>nb h) (fun _ _ _ _ _ h=>nb h) (fun _ h=>nb h)
@[elab_as_elim] theorem oRa_e {e:Stmt} {p:Option Expr→Option Expr→Bool} {P:Stmt→Prop} (h:oRa e p=true) (k:∀ v c q,p v c=true→P (.Raise v c q)):P e:=selS_e h (fun _ _ _ h=>nb h) (fun _ _ _ _ h=>nb h) (fun _ _ h=>nb h) (fun _ _ _ _ h=>nb h) (fun _ _ _ _ h=>nb h) (fun _ _ _ _ _ h=>nb h) (fun _ _ h=>nb h) k (fun _ _ _ _ _ h=>nb h) (fun _ h=>nb h)
@[elab_as_elim] theorem oTr_e {e:Stmt} {p:List Stmt→List ExceptHandler→List Stmt→List Stmt→Bool} {P:Stmt→Prop} (h:oTr e p=true) (k:∀ a b c d q,p a b c d=true→P (.Try a b c d q)):P e:=selS_e h (fun _ _ _ h=>nb h) (fun _ _ _ _ h=>nb h) (fun _ _ h=>nb h) (fun _ _ _ _ h=>nb h) (fun _ _ _ _ h=>nb h) (fun _ _ _ _ _ h=>nb h) (fun _ _ h=>nb h) (fun _ _ _ h=>nb h) k (fun _ h=>nb h)
@[elab_as_elim] theorem cS_e {e:Const} {p:Str→Bool} {P:Const→Prop} (h:cS e p=true) (k:∀ c,p c=true→P (.str c)):P e:=by
 cases e <;> first | exact k _ h | exact Bool.noConfusion h
@[elab_as_elim] theorem oCo_e {e:Stmt} {p:Bool} {P:Stmt→Prop} (h:oCo e p=true) (k:∀ q,p=true→P (.Continue q)):P e:=selS_e h (fun _ _ _ h=>nb h) (fun _ _ _ _ h=>nb h) (fun _ _ h=>nb h) (fun _ _ _ _ h=>nb h) (fun _ _ _ _ h=>nb h) (fun _ _ _ _ _ h=>nb h) (fun _ _ h=>nb h) (fun _ _ _ h=>nb h) (fun _ _ _ _ _ h=>nb h) k
section
variable {α:Type}
@[elab_as_elim] theorem one_e {l:List α} {p:α→Bool} {P:List α→Prop} (h:one l p=true) (k:∀ x,p x=true→P [x]):P l :=
 match l,h with
 | [_],h=>k _ h
@[elab_as_elim] theorem two_e {l:List α} {p:α→α→Bool} {P:List α→Prop} (h:two l p=true) (k:∀ x y,p x y=true→P [x,y]):P l :=
 match l,h with
 | [_,_],h=>k _ _ h
@[elab_as_elim] theorem nilB_e {l:List α} {p:Bool} {P:List α→Prop} (h:nilB l p=true) (k:p=true→P []):P l :=
 match l,h with
 | [],h=>k h
@[elab_as_elim] theorem oCons_e {l:List α} {p:α→List α→Bool} {P:List α→Prop} (h:oCons l p=true) (k:∀ x r,p x r=true→P (x :: r)):P l :=
 match l,h with
 | _ :: _,h=>k _ _ h
@[elab_as_elim] theorem oSome_e {l:Option α} {p:α→Bool} {P:Option α→Prop} (h:oSome l p=true) (k:∀ x,p x=true→P (some x)):P l :=
 match l,h with
 | some _,h=>k _ h
@[elab_as_elim] theorem oNone_e {l:Option α} {p:Bool} {P:Option α→Prop} (h:oNone l p=true) (k:p=true→P none):P l :=
 match l,h with
 | none,h=>k h
@[elab_as_elim] theorem isIt_e [DecidableEq α] {x a:α} {p:Bool} {P:α→Prop} (h:isIt x a p=true) (k:p=true→P a):P x:=by
 unfold isIt at h
 cases q:decide (x=a) with
 | true=>rw [q] at h; exact (of_decide_eq_true q) ▸ k h
 | false=>rw [q] at h; exact Bool.noConfusion h
end
theorem isNoE_e {e:E} (h:isNoE e=true):e=.none:=by cases e <;> first | rfl | exact Bool.noConfusion h
mutual
noncomputable def chkE (nm:List Txt) (kd:Str→Option NameKind):E→Expr→Bool
 | .none,e=>oC e fun c=>isIt c .none true
 | .bool b,e=>oC e fun c=>isIt c (.bool b) true
 | .int i,e=>oC e fun c=>isIt c (.int i) true
 | .str s,e=>oC e fun c=>cS c fun x=>tx x==s&&s.all (· < 1114112)&&decide (s.length≤capL)
 | .loc x,e=>oN e fun id=>isLoc nm x id&&isVarK (kd id)
 | .gint x i,e=>oN e fun id=>isGlob kd id x&&gints.contains (x,i)
 | .gstr x s,e=>oN e fun id=>isGlob kd id x&&gstrs.contains (x,s)
 | .bin o a b,e=>oBi e fun l op r=>isIt op (pyBop o) (chkE nm kd a l&&chkE nm kd b r)
 | .million,e=>oBi e fun l op r=>isIt op .Pow (oC l fun c=>isIt c (.int 10) (oC r fun c=>isIt c (.int 6) true))
 | .neg a,e=>oU e fun op x=>isIt op .USub (chkE nm kd a x)
 | .not a,e=>oU e fun op x=>isIt op .Not (chkE nm kd a x)
 | .and a b,e=>oBo e fun op l pos=>isIt op .And (oCons l fun x m=>oCons m fun y r=>chkE nm kd a x&&cond r.isEmpty (chkE nm kd b y) (chkE nm kd b (.BoolOp .And (y :: r) pos)))
 | .or a b,e=>oBo e fun op l pos=>isIt op .Or (oCons l fun x m=>oCons m fun y r=>chkE nm kd a x&&cond r.isEmpty (chkE nm kd b y) (chkE nm kd b (.BoolOp .Or (y :: r) pos)))
 | .ife c a b,e=>oIf e fun t x y=>chkE nm kd c t&&chkE nm kd a x&&chkE nm kd b y
 | .cmp o a b,e=>oCm e fun l ops rs=>isIt ops [pyCop o] (one rs fun r=>notDisp r&&chkE nm kd a l&&chkE nm kd b r)
 | .between a b c,e=>oCm e fun l ops rs=>isIt ops [.Lt,.Lt] (two rs fun m r=>notDisp m&&notDisp r&&chkE nm kd a l&&chkE nm kd b m&&chkE nm kd c r)
 | .isNone a,e=>oCm e fun l ops rs=>isIt ops [.Is] (one rs fun r=>oC r fun c=>isIt c .none (chkE nm kd a l))
 | .notNone a,e=>oCm e fun l ops rs=>isIt ops [.IsNot] (one rs fun r=>oC r fun c=>isIt c .none (chkE nm kd a l))
 | .isNil a,e=>oCm e fun l ops rs=>isIt ops [.Eq] (one rs fun r=>oL r fun m=>nilB m (chkE nm kd a l))
 | .notNil a,e=>oCm e fun l ops rs=>isIt ops [.NotEq] (one rs fun r=>oL r fun m=>nilB m (chkE nm kd a l))
 | .inC a ws,e=>oCm e fun l ops rs=>isIt ops [.In] (one rs fun r=>chkE nm kd a l&&((oT r fun es=>chkWs es ws)||(oL r fun es=>chkWs es ws)))
 | .ninC a ws,e=>oCm e fun l ops rs=>isIt ops [.NotIn] (one rs fun r=>chkE nm kd a l&&(oT r fun es=>chkWs es ws))
 | .call f es,e=>oCa e fun g as ks _=>nilB ks (oN g fun id=>fnm f==some (tx id)&&kd id==some .globalImplicit&&id != ("__debug__" : Str)&&chkEs nm kd es as)
 | .len a,e=>oCa e fun g as ks _=>nilB ks (oN g fun id=>one as fun x=>notStar x&&isGlob kd id [108,101,110]&&chkE nm kd a x)
 | .toStr a,e=>oCa e fun g as ks _=>nilB ks (oN g fun id=>one as fun x=>notStar x&&isGlob kd id [115,116,114]&&chkE nm kd a x)
 | .toInt a,e=>oCa e fun g as ks _=>nilB ks (oN g fun id=>one as fun x=>notStar x&&isGlob kd id [105,110,116]&&chkE nm kd a x)
 | .find a b,e=>oCa e fun g as ks pos=>nilB ks (oA g fun o m ap=>one as fun x=>methOk o ap pos&&notStar x&&tx m==[102,105,110,100]&&chkE nm kd a o&&chkE nm kd b x)
 | .replace a c t,e=>oCa e fun g as ks pos=>nilB ks (oA g fun o m ap=>two as fun y z=>oC y fun y=>cS y fun y=>oC z fun z=>cS z fun z=>tx m==[114,101,112,108,97,99,101]&&methOk o ap pos&&tx y==[c]&&tx z==t&&chkE nm kd a o&&t.all (· < 1114112))
 | .join a b,e=>oCa e fun g as ks pos=>nilB ks (oA g fun o m ap=>one as fun x=>methOk o ap pos&&notStar x&&tx m==[106,111,105,110]&&chkE nm kd a o&&chkE nm kd b x)
 | .split a b,e=>oCa e fun g as ks pos=>nilB ks (oA g fun o m ap=>one as fun x=>methOk o ap pos&&notStar x&&tx m==[115,112,108,105,116]&&chkE nm kd a o&&chkE nm kd b x)
 | .pop a,e=>oCa e fun g as ks pos=>nilB ks (oA g fun o m ap=>nilB as (methOk o ap pos&&tx m==[112,111,112]&&chkE nm kd a o))
 | .seal x,e=>oN e fun id=>isLoc nm x id&&isVarK (kd id)
 | .idx a b,e=>oSu e fun v i=>notSl i&&chkE nm kd a v&&chkE nm kd b i
 | .sl a lo hi,e=>oSu e fun v i=>oSl i fun l u s=>oNone s (chkE nm kd a v &&
    (match l with | some x=>chkE nm kd lo x | none=>isNoE lo)&&(match u with | some x=>chkE nm kd hi x | none=>isNoE hi))
 | .tup es,e=>oT e fun xs=>chkEs nm kd es xs
 | .lstF es,e=>oL e fun xs=>chkEs nm kd es xs
 | .lstM es,e=>oL e fun xs=>chkEs nm kd es xs
 | .comp e x n,p=>oLc p fun elt gs scope _=>one gs fun g=>oN g.target fun y=>oCa g.iter fun f as ks _=>nilB ks (oN f fun id=>one as fun k=>nilB g.ifs (isIt g.is_async 0 (
   isGlob kd id [114,97,110,103,101]&&isLoc nm x y&&chkE nm kd n k&&chkE nm (fun z=>scope.names.lookup z) e elt &&
   scope.kind==.function&&scope.names.lookup y==some .local&&scope.names.all (fun z=>z.2 != .cell) &&
   scope.names.all (fun z=>z.2 != .local||((z.1==y||tx z.1==[46,48])&&scope.names.lookup z.1==some .local))&&!nm.contains [46,48] &&
   scope.names.all (fun z=>z.2 != .free||kd z.1==some .cell||kd z.1==some .free)&&notStar k)))
noncomputable def chkEs (nm:List Txt) (kd:Str→Option NameKind):Es→List Expr→Bool
 | .nil,l=>l.isEmpty
 | .cons e es,l=>oCons l fun x r=>notStar x&&chkE nm kd e x&&chkEs nm kd es r
end
noncomputable def isStore (nm:List Txt) (kd:Str→Option NameKind) (x:Nat) (id:Str):Bool:=isLoc nm x id&&kd id==some .local
noncomputable def isStoreC (nm:List Txt) (kd:Str→Option NameKind) (x:Nat) (id:Str):Bool:=isLoc nm x id&&kd id==some .cell
noncomputable def chkNames (nm:List Txt) (kd:Str→Option NameKind):List Nat→List Expr→Bool
 | [],l=>l.isEmpty
 | x :: xs,l=>oCons l fun e r=>oN e fun id=>isStore nm kd x id&&chkNames nm kd xs r
noncomputable def notComp:Expr→Bool
 | .ListComp ..=>false
 | .SetComp ..=>false
 | .DictComp ..=>false
 | .Tuple ..=>false
 | _=>true
noncomputable def notCo:Expr→Bool
 | .ListComp ..=>false
 | .SetComp ..=>false
 | .DictComp ..=>false
 | _=>true
mutual
noncomputable def chkS (nm:List Txt) (kd:Str→Option NameKind):S→Stmt→Bool
 | .assign x e,s=>oAs s fun ts v _=>one ts fun t=>oN t fun id=>(isStore nm kd x id||isStoreC nm kd x id)&&notCo v&&chkE nm kd e v
 | .assignC x e y n,s=>oAs s fun ts v pos=>one ts fun t=>oNp t fun id p=>isStore nm kd x id&&chkE nm kd (.comp e y n) v&&(oLc v fun _ _ scope q=>p.line==q.line&&pos.line==q.line&&!(scope.names.any fun (z,k)=>z==id&&(k==.local||k==.cell)))
 | .unpack xs e,s=>oAs s fun ts v _=>one ts fun t=>oT t fun ts=>chkNames nm kd xs ts&&notComp v&&chkE nm kd e v
 | .setIdx a i e,s=>oAs s fun ts v _=>one ts fun t=>oSu t fun o k=>notSl k&&notCo v&&chkE nm kd a o&&chkE nm kd i k&&chkE nm kd e v
 | .aug x e,s=>oAu s fun t op v=>oN t fun id=>isIt op .Add (isStore nm kd x id&&chkE nm kd e v)
 | .append a e,s=>oEx s fun c=>oCa c fun g as ks pos=>nilB ks (oA g fun o m ap=>one as fun x=>methOk o ap pos&&tx m==[97,112,112,101,110,100]&&chkE nm kd a o&&chkE nm kd e x&&notStar x)
 | .ite c a b,s=>oI s fun t x y=>chkE nm kd c t&&chkSs nm kd a x&&chkSs nm kd b y
 | .while c a,s=>oW s fun t x y=>nilB y (chkE nm kd c t&&chkSs nm kd a x)
 | .forE x e a,s=>oF s fun t it y z=>oN t fun id=>nilB z (isStore nm kd x id&&notDisp it&&chkE nm kd e it&&chkSs nm kd a y)
 | .forR x e a,s=>oF s fun t it y z=>oN t fun id=>nilB z (oCa it fun g as ks _=>nilB ks (oN g fun g=>one as fun k=>isStore nm kd x id&&isGlob kd g [114,97,110,103,101]&&notStar k&&chkE nm kd e k&&chkSs nm kd a y))
 | .zipStr x z t e f,s=>oF s fun tg it y ol=>nilB ol (oT tg fun ns=>two ns fun a b=>oN a fun id=>oN b fun id'=>oCa it fun g as ks _=>nilB ks (oN g fun g=>two as fun k k' =>
   one y fun st=>oI st fun cc bb el=>nilB el (oCm cc fun pl po pr=>isIt po [.IsNot] (oN pl fun p1=>one pr fun pr=>oC pr fun pc=>isIt pc .none (one bb fun st2=>oAs st2 fun t1 v _=>one t1 fun t1=>oN t1 fun t1 =>
   oBi v fun v1 o1 v2=>isIt o1 .Add (oBi v1 fun v3 o2 v4=>isIt o2 .Add (oN v3 fun t2=>oN v4 fun j1=>oCa v2 fun sg as2 ks2 _=>nilB ks2 (oN sg fun sg=>one as2 fun p2=>oN p2 fun p2 =>
   isStore nm kd x id&&isStore nm kd z id'&&id != id'&&isGlob kd g [122,105,112]&&isGlob kd sg [115,116,114]&&isStore nm kd t t1&&t1==t2&&id==j1&&id'==p1&&id'==p2 &&
    id != t1&&id' != t1&&notStar k&&notStar k'&&chkE nm kd e k&&chkE nm kd f k'))))))))
 | .ret e,s=>oRe s fun v=>oSome v fun v=>chkE nm kd e v
 | .raise a,s=>oRa s fun v c=>oNone c (oSome v fun v=>oCa v fun g as ks _=>nilB ks (oN g fun id=>two as fun x y=>oC y fun y=>cS y fun t=>notStar x&&isGlob kd id [70,111,114,109,97,116,70,97,117,108,116]&&chkE nm kd a x&&decide (t.length≤capL)))
 | .tryRet e,s=>oTr s fun a b c d=>nilB c (nilB d (one a fun a=>oRe a fun v=>oSome v fun v=>one b fun h=>(match h with
   | .ExceptHandler ty none bd _=>oSome ty fun ty=>oN ty fun id=>one bd fun bd=>oRe bd fun r=>oSome r fun r=>oC r fun r=>isIt r .none (isGlob kd id [70,111,114,109,97,116,70,97,117,108,116]&&chkE nm kd e v)
   | _=>false)))
 | .cont,s=>oCo s true
noncomputable def chkSs (nm:List Txt) (kd:Str→Option NameKind):Ss→List Stmt→Bool
 | .nil,l=>l.isEmpty
 | .cons s r,l=>oCons l fun x q=>chkS nm kd s x&&chkSs nm kd r q
end
noncomputable def plainParams (a:Arguments):Bool:=a.posonlyargs.isEmpty&&a.vararg.isNone&&a.kwonlyargs.isEmpty&&a.kw_defaults.isEmpty&&a.kwarg.isNone&&a.defaults.isEmpty
noncomputable def nodupB:List Txt→Bool
 | []=>true
 | x :: r=>!r.contains x&&nodupB r
noncomputable def chkDef (fn:Fn) (d:DefRec):Bool :=
 tx d.name==fn.name&&plainParams d.params&&d.params.args.map (fun a=>tx a.arg)==fn.vars.take fn.params&&d.params.args.length==fn.params&&nodupB fn.vars &&
 d.scope.kind==.function&&!d.scope.isCoroutine&&!d.scope.isGenerator &&
 (d.params.args.all fun a=>d.scope.names.lookup a.arg==some .local||d.scope.names.lookup a.arg==some .cell) &&
 (d.scope.names.all fun y=>y.2 != .free) &&
 nodupB (d.scope.names.map fun y=>tx y.1) &&
 chkSs fn.vars (fun z=>d.scope.names.lookup z) fn.body d.body
noncomputable def theDef (p:Program) (t:Txt):Option DefRec:=(recsOf p).find? fun d=>tx d.name==t
noncomputable def chkAll (p:Program):Bool:=(List.range 40).all fun f=>match theFn f with
 | some fn=>(match theDef p fn.name with | some d=>chkDef fn d | none=>false)
 | none=>false
end Mine
end
section
open PySem PySem.W PyProof.Rows
namespace Mine
noncomputable def IsSeq (o:Obj):Prop:=∃ arr n,o.data=.seq arr n
noncomputable def TupO (arr:Array Value) (n:Nat):Obj:={ cls:=.type "tuple",data:=.seq arr n }
noncomputable def LstO (arr:Array Value) (n:Nat):Obj:={ cls:=.type "list",data:=.seq arr n }
mutual
inductive VR (h:Heap) (F:Addr→Prop) (σ:List Addr):Value→V→Prop
 | none:VR h F σ .none .none
 | bool (b:Bool):VR h F σ (.bool b) (.bool b)
 | int (i:Int) (t:Tok):VR h F σ (.int i t) (.int i)
 | str (x:Str) (t:Tok):x.cps.size≤capL→(∀ c∈x.cps.toList,c < 1114112)→VR h F σ (.str x t) (.str x.cps.toList)
 | tup {a:Addr} {arr:Array Value} {n:Nat} {l:List V}:h.get? a=some (TupO arr n)→¬ F a→arr.size≤capL→VRs h F σ arr.toList l→VR h F σ (.ref a) (.tup l)
 | lst {a:Addr} {arr:Array Value} {n:Nat} {l:List V}:h.get? a=some (LstO arr n)→¬ F a→arr.size≤capL→VRs h F σ arr.toList l→VR h F σ (.ref a) (.lst l)
 | ref {a:Addr} {i:Nat}:σ[i]?=some a→VR h F σ (.ref a) (.ref i)
inductive VRs (h:Heap) (F:Addr→Prop) (σ:List Addr):List Value→List V→Prop
 | nil:VRs h F σ [] []
 | cons {v:Value} {vs:List Value} {x:V} {xs:List V}:VR h F σ v x→VRs h F σ vs xs→VRs h F σ (v :: vs) (x :: xs)
end
noncomputable def Step (F:Addr→Prop) (h h':Heap):Prop :=
 ∀ b o,¬ F b→h.get? b=some o→h'.get? b=some o∨((∃ m,h.Ns b m)∧∀ m,h.Ns b m→h'.Ns b m)
theorem ns_not_seq {h:Heap} {b:Addr} {o:Obj} {m:Str→Option Value} (hn:h.Ns b m) (e:h.get? b=some o):∃ es n,o.data=.dict es n:=by
 obtain ⟨o',es,ep,ho,hd,r⟩:=hn
 rw [ho] at e; cases e; exact ⟨es,ep,hd⟩
theorem Step.exact {F:Addr→Prop} {h h':Heap} (k:∀ b o,¬ F b→h.get? b=some o→h'.get? b=some o):Step F h h' :=
 fun b o hb e=>.inl (k b o hb e)
theorem Step.seq {F:Addr→Prop} {h h':Heap} (S:Step F h h') {b:Addr} {o:Obj} (hb:¬ F b) (e:h.get? b=some o) (hs:∀ es n,o.data≠.dict es n):h'.get? b=some o:=by
 rcases S b o hb e with q | ⟨⟨m,hn⟩,_⟩
 ·exact q
 ·obtain ⟨es,n,q⟩:=ns_not_seq hn e
  exact absurd q (hs es n)
theorem IsSeq.nd {o:Obj} (x:IsSeq o):∀ es n,o.data≠.dict es n:=fun es n q=>by
 obtain ⟨arr,k,r⟩:=x; rw [q] at r; cases r
section
variable {h:Heap} {F:Addr→Prop} {σ:List Addr}
theorem VR.ind {M:Value→V→Prop} {Ms:List Value→List V→Prop} (c1:M .none .none) (c2:∀ b,M (.bool b) (.bool b)) (c3:∀ i t,M (.int i t) (.int i)) (c4:∀ x t,x.cps.size≤capL→(∀ c∈x.cps.toList,c < 1114112)→M (.str x t) (.str x.cps.toList))
    (c5:∀ {a arr n l},h.get? a=some (TupO arr n)→¬ F a→arr.size≤capL→Ms arr.toList l→M (.ref a) (.tup l)) (c6:∀ {a arr n l},h.get? a=some (LstO arr n)→¬ F a→arr.size≤capL→Ms arr.toList l→M (.ref a) (.lst l)) (c7:∀ {a i},σ[i]?=some a→M (.ref a) (.ref i))
    (d1:Ms [] []) (d2:∀ {v vs x xs},M v x→Ms vs xs→Ms (v :: vs) (x :: xs)):(∀ {v x},VR h F σ v x→M v x)∧∀ {v x},VRs h F σ v x→Ms v x :=
  ⟨fun q=>VR.rec (motive_1:=fun v x _=>M v x) (motive_2:=fun v x _=>Ms v x) c1 c2 c3 c4 (fun a b c _=>c5 a b c) (fun a b c _=>c6 a b c) c7 d1 (fun _ _=>d2) q,
   fun q=>VRs.rec (motive_1:=fun v x _=>M v x) (motive_2:=fun v x _=>Ms v x) c1 c2 c3 c4 (fun a b c _=>c5 a b c) (fun a b c _=>c6 a b c) c7 d1 (fun _ _=>d2) q⟩
theorem VRs.ind {Ms:List Value→List V→Prop} (d1:Ms [] []) (d2:∀ {v vs x xs},VR h F σ v x→VRs h F σ vs xs→Ms vs xs→Ms (v :: vs) (x :: xs)):∀ {v x},VRs h F σ v x→Ms v x :=
 fun q=>VRs.rec (motive_1:=fun _ _ _=>True) (motive_2:=fun v x _=>Ms v x) trivial (fun _=>trivial) (fun _ _=>trivial) (fun _ _ _ _=>trivial) (fun _ _ _ _ _=>trivial) (fun _ _ _ _ _=>trivial) (fun _=>trivial) d1 (fun a b _=>d2 a b) q
theorem mono0 {h':Heap} {F':Addr→Prop} {σ':List Addr} (k:∀ b o,¬ F b→h.get? b=some o→IsSeq o→h'.get? b=some o)
  (hf:∀ b,F' b→(∃ o,h.get? b=some o)→F b) (hs:∀ (i:Nat) (a:Addr),σ[i]?=some a→σ'[i]?=some a) :
  (∀ {v:Value} {x:V},VR h F σ v x→VR h' F' σ' v x)∧∀ {v:List Value} {x:List V},VRs h F σ v x→VRs h' F' σ' v x :=
 VR.ind .none .bool .int .str (fun e n=>.tup (k _ _ n e ⟨_,_,rfl⟩) fun q=>n (hf _ q ⟨_,e⟩)) (fun e n=>.lst (k _ _ n e ⟨_,_,rfl⟩) fun q=>n (hf _ q ⟨_,e⟩)) (fun e=>.ref (hs _ _ e)) .nil .cons
theorem VR.mono {h':Heap} {F':Addr→Prop} {σ':List Addr} (k:∀ b o,¬ F b→h.get? b=some o→IsSeq o→h'.get? b=some o)
  (hf:∀ b,F' b→(∃ o,h.get? b=some o)→F b) (hs:∀ (i:Nat) (a:Addr),σ[i]?=some a→σ'[i]?=some a) {v:Value} {x:V} (q:VR h F σ v x):VR h' F' σ' v x:=(mono0 k hf hs).1 q
theorem VRs.mono {h':Heap} {F':Addr→Prop} {σ':List Addr} (k:∀ b o,¬ F b→h.get? b=some o→IsSeq o→h'.get? b=some o)
  (hf:∀ b,F' b→(∃ o,h.get? b=some o)→F b) (hs:∀ (i:Nat) (a:Addr),σ[i]?=some a→σ'[i]?=some a) {v:List Value} {x:List V} (q:VRs h F σ v x):VRs h' F' σ' v x:=(mono0 k hf hs).2 q
theorem pures_c {x:V} {xs:List V} (p:V.pures (x :: xs)=true):x.pure=true∧V.pures xs=true:=Bool.and_eq_true_iff.mp p
theorem pure0 {σ':List Addr}:(∀ {v:Value} {x:V},VR h F σ v x→x.pure=true→VR h F σ' v x)∧∀ {v:List Value} {x:List V},VRs h F σ v x→V.pures x=true→VRs h F σ' v x :=
 VR.ind (M:=fun v x=>x.pure=true→VR h F σ' v x) (Ms:=fun v x=>V.pures x=true→VRs h F σ' v x) (fun _=>.none) (fun b _=>.bool b) (fun i t _=>.int i t) (fun x t a b _=>.str x t a b) (fun e n c r p=>.tup e n c (r p)) (fun e n c r p=>.lst e n c (r p)) (fun _ p=>Bool.noConfusion p)
  (fun _=>.nil) (fun a b p=>.cons (a (pures_c p).1) (b (pures_c p).2))
theorem VR.pure {σ':List Addr} {v:Value} {x:V} (q:VR h F σ v x) (p:x.pure=true):VR h F σ' v x:=pure0.1 q p
theorem VRs.pure {σ':List Addr} {v:List Value} {x:List V} (q:VRs h F σ v x) (p:V.pures x=true):VRs h F σ' v x:=pure0.2 q p
theorem VRs.length {v:List Value} {x:List V} (q:VRs h F σ v x):v.length=x.length:=VRs.ind (Ms:=fun v x=>v.length=x.length) rfl (fun _ _ e=>congrArg Nat.succ e) q
theorem VRs.append {w:List Value} {y:List V} (q:VRs h F σ w y) {v:List Value} {x:List V} (r:VRs h F σ v x):VRs h F σ (v++w) (x++y):=VRs.ind (Ms:=fun v x=>VRs h F σ (v++w) (x++y)) q (fun a _ r=>.cons a r) r
theorem VRs.get {v:List Value} {x:List V} (q:VRs h F σ v x):∀ (i:Nat) (y:V),x[i]?=some y→∃ w,v[i]?=some w∧VR h F σ w y :=
 VRs.ind (Ms:=fun v x=>∀ (i:Nat) (y:V),x[i]?=some y→∃ w,v[i]?=some w∧VR h F σ w y) (fun _ _ e=>nomatch e) (fun a _ r i y e=>by cases i with
  | zero=>exact ⟨_,rfl,Option.some.inj e ▸ a⟩
  | succ i=>exact r i y e) q
theorem VRs.take {v:List Value} {x:List V} (q:VRs h F σ v x):∀ n,VRs h F σ (v.take n) (x.take n) :=
 VRs.ind (Ms:=fun v x=>∀ n,VRs h F σ (v.take n) (x.take n)) (fun n=>by cases n <;> exact .nil) (fun a _ r n=>by cases n with
  | zero=>exact .nil
  | succ n=>exact .cons a (r n)) q
theorem VRs.drop {v:List Value} {x:List V} (q:VRs h F σ v x):∀ n,VRs h F σ (v.drop n) (x.drop n) :=
 VRs.ind (Ms:=fun v x=>∀ n,VRs h F σ (v.drop n) (x.drop n)) (fun n=>by cases n <;> exact .nil) (fun a b r n=>by cases n with
  | zero=>exact .cons a b
  | succ n=>exact r n) q
theorem VRs.set {w:Value} {y:V} (q:VR h F σ w y) {v:List Value} {x:List V} (r:VRs h F σ v x):∀ n,VRs h F σ (v.set n w) (x.set n y) :=
 VRs.ind (Ms:=fun v x=>∀ n,VRs h F σ (v.set n w) (x.set n y)) (fun _=>.nil) (fun a b r n=>by cases n with
  | zero=>exact .cons q b
  | succ n=>exact .cons a (r n)) r
end
section
variable {α:Type} {v:V} {r:α}
theorem noS (e:(none:Option α)=some r):False:=nomatch e
theorem mv_tup {f:List V→Option α} (e:(match v with | .tup vs=>f vs | _=>none)=some r):∃ vs,v=.tup vs∧f vs=some r:=by
 cases v <;> first | exact (noS e).elim | exact ⟨_,rfl,e⟩
theorem mv_int {f:Int→Option α} (e:(match v with | .int k=>f k | _=>none)=some r):∃ k,v=.int k∧f k=some r:=by
 cases v <;> first | exact (noS e).elim | exact ⟨_,rfl,e⟩
theorem mv_str {f:Txt→Option α} (e:(match v with | .str k=>f k | _=>none)=some r):∃ k,v=.str k∧f k=some r:=by
 cases v <;> first | exact (noS e).elim | exact ⟨_,rfl,e⟩
theorem mv_ref {f:Nat→Option α} (e:(match v with | .ref k=>f k | _=>none)=some r):∃ k,v=.ref k∧f k=some r:=by
 cases v <;> first | exact (noS e).elim | exact ⟨_,rfl,e⟩
theorem mv_b1 {f:Bool→Option α} (e:(match v with | .bool k=>f k | _=>none)=some r):∃ k,v=.bool k∧f k=some r:=by
 cases v <;> first | exact (noS e).elim | exact ⟨_,rfl,e⟩
theorem mv_bool {x y:Option α} (e:(match v with | .bool true=>x | .bool false=>y | _=>none)=some r):∃ b,v=.bool b:=by
 cases v <;> first | exact (noS e).elim | exact ⟨_,rfl⟩
theorem mv_ii {u:V} {f:Int→Int→Option α} (e:(match u,v with | .int i,.int j=>f i j | _,_=>none)=some r):∃ i j,u=.int i∧v=.int j∧f i j=some r:=by
 cases u with
 | int i=>cases v with
  | int j=>exact ⟨i,j,rfl,rfl,e⟩
  | _=>exact (noS e).elim
 | _=>exact (noS e).elim
theorem mv_ri {u:V} {f:Nat→Int→Option α} (e:(match u,v with | .ref i,.int j=>f i j | _,_=>none)=some r):∃ i j,u=.ref i∧v=.int j∧f i j=some r:=by
 cases u with
 | ref i=>cases v with
  | int j=>exact ⟨i,j,rfl,rfl,e⟩
  | _=>exact (noS e).elim
 | _=>exact (noS e).elim
theorem mv_c {f:Nat→Option α} (e:(match v with | .str [c]=>f c | _=>none)=some r):∃ c,v=.str [c]∧f c=some r:=by
 cases v with
 | str s=>cases s with
  | nil=>exact (noS e).elim
  | cons c s=>cases s with
   | nil=>exact ⟨c,rfl,e⟩
   | cons=>exact (noS e).elim
 | _=>exact (noS e).elim
theorem mo {o:Option (List V)} {f:List V→Option α} (e:(match o with | some a=>f a | none=>none)=some r):∃ a,o=some a∧f a=some r:=by
 cases o with
 | none=>exact (noS e).elim
 | some a=>exact ⟨a,rfl,e⟩
theorem moT {o:Option (List Txt)} {f:List Txt→Option α} (e:(match o with | some a=>f a | none=>none)=some r):∃ a,o=some a∧f a=some r:=by
 cases o with
 | none=>exact (noS e).elim
 | some a=>exact ⟨a,rfl,e⟩
theorem mif {p:Prop} [Decidable p] {x y:α} (e:(if p then x else y)=r):(p∧x=r)∨(¬ p∧y=r):=by
 by_cases q:p
 ·rw [if_pos q] at e; exact .inl ⟨q,e⟩
 ·rw [if_neg q] at e; exact .inr ⟨q,e⟩
theorem mdi {p:Prop} [Decidable p] {f:p→Option α} (e:(if h:p then f h else none)=some r):∃ h:p,f h=some r:=by
 by_cases q:p
 ·rw [dif_pos q] at e; exact ⟨q,e⟩
 ·rw [dif_neg q] at e; exact (noS e).elim
theorem mi_some {b:Bool} {x:Option α} (e:(if b=true then x else none)=some r):b=true∧x=some r:=by
 cases b <;> first | exact (noS e).elim | exact ⟨rfl,e⟩
theorem mi_p {p:Prop} [Decidable p] {x:Option α} (e:(if p then x else none)=some r):p∧x=some r:=by
 by_cases q:p
 ·rw [if_pos q] at e; exact ⟨q,e⟩
 ·rw [if_neg q] at e; cases e
end
noncomputable def Live (σ:List Addr) (H:Hp) (a:Addr):Prop:=∃ (i:Nat) (l:List V),σ[i]?=some a∧H[i]?=some (some l)
noncomputable def takeO (k:Option Nat) (σ:List Addr):List Addr:=match k with
 | none=>σ
 | some n=>σ.take n
theorem takeO_pre {k:Option Nat} {σ:List Addr} {j:Nat} {a:Addr} (q:(takeO k σ)[j]?=some a):σ[j]?=some a:=by
 cases k with
 | none=>exact q
 | some n=>exact (mi_p (List.getElem?_take.symm.trans q)).2
theorem takeO_up {k:Option Nat} {σ σ':List Addr} (h:∀ (i:Nat) (a:Addr),σ[i]?=some a→σ'[i]?=some a) {j:Nat} {a:Addr} (q:(takeO k σ)[j]?=some a):(takeO k σ')[j]?=some a:=by
 cases k with
 | none=>exact h j a q
 | some n =>
  obtain ⟨hl,q⟩:=mi_p (List.getElem?_take.symm.trans q)
  exact List.getElem?_take.trans ((if_pos hl).trans (h j a q))
inductive ObjAt (lim:Nat→Option Nat) (h:Heap) (σ:List Addr) (H:Hp) (i:Nat) (l:List V):Prop
 | mk (a:Addr) (arr:Array Value) (n:Nat):σ[i]?=some a→h.get? a=some (LstO arr n)→arr.size≤capL→VRs h (Live σ H) (takeO (lim i) σ) arr.toList l→ObjAt lim h σ H i l
structure FRx (base:Heap) (envs:List Env) (b:Nat) (lim:Nat→Option Nat) (h:Heap) (σ:List Addr) (H:Hp):Prop where
 stays:base.StaysIn h
 frames:h.FunFrames base envs
 frd:∀ env∈envs,∀ L,env.frame=some L→∃ m,h.Ns L m
 len:H.length=σ.length
 nodup:σ.Nodup
 apart:∀ a∈σ,base.get? a=none
 dom:∀ a∈σ,∃ arr n,h.get? a=some (LstO arr n)
 objs:∀ (i:Nat) l,H[i]?=some (some l)→ObjAt lim h σ H i l
 loc:∀ i,b≤i→lim i=none
 blen:b≤σ.length
 hi:∀ i,i < b→∀ k,lim i=some k→k≤b
 hs:∀ i,i < b→lim i≠none
structure Adv (O:Addr→Prop) (h:Heap) (σ:List Addr) (H:Hp) (h':Heap) (σ':List Addr) (H':Hp):Prop where
 step:Step (fun a=>Live σ H a∨O a) h h'
 pre:∀ (i:Nat) (a:Addr),σ[i]?=some a→σ'[i]?=some a
 live:∀ a,Live σ' H' a→(∃ o,h.get? a=some o)→Live σ H a
 dom:∀ a o,h.get? a=some o→∃ o',h'.get? a=some o'
theorem Adv.refl (O:Addr→Prop) (h:Heap) (σ:List Addr) (H:Hp):Adv O h σ H h σ H :=
 ⟨.exact fun _ _ _ e=>e,fun _ _ e=>e,fun _ e _=>e,fun _ o e=>⟨o,e⟩⟩
theorem Adv.trans {O:Addr→Prop} {h h₁ h₂:Heap} {σ σ₁ σ₂:List Addr} {H H₁ H₂:Hp} (x:Adv O h σ H h₁ σ₁ H₁) (y:Adv O h₁ σ₁ H₁ h₂ σ₂ H₂):Adv O h σ H h₂ σ₂ H₂:=by
 refine ⟨fun b o hb e=>?_,fun i a e=>y.pre i a (x.pre i a e),fun a ha ho=>x.live a (y.live a ha ?_) ho,fun a o e=>?_⟩
 ·have hb₁:¬ (Live σ₁ H₁ b∨O b):=fun z=>hb (z.elim (fun z=>.inl (x.live b z ⟨o,e⟩)) .inr)
  rcases x.step b o hb e with q | ⟨⟨m,hm⟩,q⟩
  ·rcases y.step b o hb₁ q with q' | ⟨⟨m',hm'⟩,q'⟩
   ·exact .inl q'
   ·have back:∀ m,h.Ns b m→h₁.Ns b m:=fun m ⟨o',es,ep,ho,r⟩=>⟨o',es,ep,by rw [e] at ho; cases ho; exact q,r⟩
    have forth:∀ m,h₁.Ns b m→h.Ns b m:=fun m ⟨o',es,ep,ho,r⟩=>⟨o',es,ep,by rw [q] at ho; cases ho; exact e,r⟩
    exact .inr ⟨⟨m',forth m' hm'⟩,fun m hm=>q' m (back m hm)⟩
  ·refine .inr ⟨⟨m,hm⟩,fun m' hm'=>?_⟩
   have h1:=q m' hm'
   obtain ⟨o₁,es,ep,ho₁,r⟩:=id h1
   rcases y.step b o₁ hb₁ ho₁ with q' | ⟨_,q'⟩
   ·exact ⟨o₁,es,ep,q',r⟩
   ·exact q' m' h1
 ·obtain ⟨o,e⟩:=ho; exact x.dom a o e
 ·obtain ⟨o',e'⟩:=x.dom a o e; exact y.dom a o' e'
theorem Adv.weaken {O O':Addr→Prop} {h h₁:Heap} {σ σ₁:List Addr} {H H₁:Hp} (x:Adv O h σ H h₁ σ₁ H₁) (k:∀ a,O a→(∃ o,h.get? a=some o)→O' a):Adv O' h σ H h₁ σ₁ H₁ :=
 ⟨fun b o hb e=>x.step b o (fun z=>hb (z.imp id fun z=>k b z ⟨o,e⟩)) e,x.pre,x.live,x.dom⟩
theorem VR.adv {O:Addr→Prop} {h h₁:Heap} {σ σ₁:List Addr} {H H₁:Hp} (x:Adv O h σ H h₁ σ₁ H₁) (hO:∀ a o,O a→h.get? a=some o→¬ IsSeq o) {v:Value} {y:V} (q:VR h (Live σ H) σ v y):VR h₁ (Live σ₁ H₁) σ₁ v y :=
 VR.mono (fun b o hb e hs=>x.step.seq (fun z=>z.elim hb fun z=>hO b o z e hs) e hs.nd) x.live x.pre q
theorem VRs.adv {O:Addr→Prop} {h h₁:Heap} {σ σ₁:List Addr} {H H₁:Hp} (x:Adv O h σ H h₁ σ₁ H₁) (hO:∀ a o,O a→h.get? a=some o→¬ IsSeq o) {v:List Value} {y:List V} (q:VRs h (Live σ H) σ v y):VRs h₁ (Live σ₁ H₁) σ₁ v y :=
 VRs.mono (fun b o hb e hs=>x.step.seq (fun z=>z.elim hb fun z=>hO b o z e hs) e hs.nd) x.live x.pre q
noncomputable def LocAt (env:Env) (h:Heap) (x:Str) (v:Value):Prop :=
 (env.kindOf x=some .local∧∃ m,h.Ns env.locals m∧m x=some v) ∨
 ((env.kindOf x=some .cell∨env.kindOf x=some .free)∧∃ c,env.cells.lookup x=some c∧h.IsCell c (some v))
theorem ns_step {F:Addr→Prop} {h h':Heap} (S:Step F h h') {a:Addr} {m:Str→Option Value} (hn:h.Ns a m) (ha:¬ F a):h'.Ns a m:=by
 obtain ⟨o,es,ep,ho,r⟩:=id hn
 rcases S a o ha ho with q | ⟨_,q⟩
 ·exact ⟨o,es,ep,q,r⟩
 ·exact q m hn
theorem cell_step {F:Addr→Prop} {h h':Heap} (S:Step F h h') {a:Addr} {v:Option Value} (hn:h.IsCell a v) (ha:¬ F a):h'.IsCell a v:=by
 obtain ⟨o,ho,hd⟩:=hn
 exact ⟨o,S.seq ha ho (fun es n q=>by rw [hd] at q; cases q),hd⟩
theorem FRx.live_seq {base:Heap} {envs:List Env} {b:Nat} {lim:Nat→Option Nat} {h:Heap} {σ:List Addr} {H:Hp} (X:FRx base envs b lim h σ H) {a:Addr} (z:Live σ H a):∃ arr n,h.get? a=some (LstO arr n):=by
 obtain ⟨i,l,e,_⟩:=z
 exact X.dom a (List.mem_of_getElem? e)
theorem FRx.not_live {base:Heap} {envs:List Env} {b:Nat} {lim:Nat→Option Nat} {h:Heap} {σ:List Addr} {H:Hp} (X:FRx base envs b lim h σ H) {a:Addr} {o:Obj} (e:h.get? a=some o) (hs:¬ IsSeq o):¬ Live σ H a:=fun z=>by
 obtain ⟨arr,n,q⟩:=X.live_seq z
 rw [e] at q; cases q; exact hs ⟨_,_,rfl⟩
theorem LocAt.adv {O:Addr→Prop} {base:Heap} {envs:List Env} {b:Nat} {lim:Nat→Option Nat} {h h₁:Heap} {σ σ₁:List Addr} {H H₁:Hp} (X:FRx base envs b lim h σ H) (x:Adv O h σ H h₁ σ₁ H₁) {env:Env} {y:Str} {v:Value}
  (hO:¬ O env.locals) (hC:∀ p∈env.cells,¬ O p.2) (q:LocAt env h y v):LocAt env h₁ y v:=by
 rcases q with ⟨hk,m,hn,hv⟩ | ⟨hk,c,hc,hv⟩
 ·refine .inl ⟨hk,m,ns_step x.step hn fun z=>z.elim (fun z=>?_) hO,hv⟩
  obtain ⟨o,es,ep,ho,hd,r⟩:=hn
  exact X.not_live ho (fun ⟨arr,n,q⟩=>by rw [hd] at q; cases q) z
 ·refine .inr ⟨hk,c,hc,cell_step x.step hv fun z=>z.elim (fun z=>?_) (hC _ (PySem.mem_of_lookup hc))⟩
  obtain ⟨o,ho,hd⟩:=hv
  exact X.not_live ho (fun ⟨arr,n,q⟩=>by rw [hd] at q; cases q) z
noncomputable def Vars (nm:List Txt) (env:Env) (h:Heap) (σ:List Addr) (H:Hp) (loc:Loc):Prop :=
 ∀ (i:Nat) (v:V),loc[i]?=some (some v)→∀ x,nm[i]?=some (tx x)→isVarK (env.kindOf x)=true→∃ val,LocAt env h x val∧VR h (Live σ H) σ val v
theorem tx_inj {a b:Str} (h:tx a=tx b):a=b:=by
 obtain ⟨⟨l⟩⟩:=a; obtain ⟨⟨m⟩⟩:=b
 simp only [tx] at h; subst h; rfl
theorem Vars.adv {O:Addr→Prop} {base:Heap} {envs:List Env} {b:Nat} {lim:Nat→Option Nat} {h h₁:Heap} {σ σ₁:List Addr} {H H₁:Hp} (X:FRx base envs b lim h σ H) (x:Adv O h σ H h₁ σ₁ H₁) {nm:List Txt} {env:Env} {loc:Loc}
  (hO:¬ O env.locals) (hC:∀ p∈env.cells,¬ O p.2) (hOs:∀ a o,O a→h.get? a=some o→¬ IsSeq o) (q:Vars nm env h σ H loc):Vars nm env h₁ σ₁ H₁ loc:=fun i v e y hy hk=>by
 obtain ⟨val,a2,a3⟩:=q i v e y hy hk
 exact ⟨val,a2.adv X x hO hC,a3.adv x hOs⟩
inductive SeqI (o:Array Value→Nat→Obj) (h:Heap) (F:Addr→Prop) (σ:List Addr) (l:List V) (val:Value):Prop
 | mk (a:Addr) (arr:Array Value) (n:Nat):val=.ref a→h.get? a=some (o arr n)→¬ F a→arr.size≤capL→VRs h F σ arr.toList l→SeqI o h F σ l val
inductive StrI (s:Txt) (val:Value):Prop
 | mk (x:Str) (t:Tok):val=.str x t→x.cps.toList=s→s.length≤capL→(∀ c∈s,c < 1114112)→StrI s val
noncomputable def VRI (h:Heap) (F:Addr→Prop) (σ:List Addr) (val:Value):V→Prop
 | .none=>val=.none
 | .bool b=>val=.bool b
 | .int i=>∃ t,val=.int i t
 | .str s=>StrI s val
 | .tup l=>SeqI TupO h F σ l val
 | .lst l=>SeqI LstO h F σ l val
 | .ref i=>∃ a,val=.ref a∧σ[i]?=some a
section
variable {h:Heap} {F:Addr→Prop} {σ:List Addr} {val:Value} {v:V}
theorem VR.inv (q:VR h F σ val v):VRI h F σ val v:=by
 cases q with
 | none=>exact rfl
 | bool=>exact rfl
 | int i t=>exact ⟨t,rfl⟩
 | str x t a b=>exact ⟨x,t,rfl,rfl,by rw [Array.length_toList]; exact a,b⟩
 | tup a b c d=>exact ⟨_,_,_,rfl,a,b,c,d⟩
 | lst a b c d=>exact ⟨_,_,_,rfl,a,b,c,d⟩
 | ref a=>exact ⟨_,rfl,a⟩
theorem VR.bool_inv {b:Bool} (q:VR h F σ val (.bool b)):val=.bool b:=q.inv
theorem VR.int_inv {i:Int} (q:VR h F σ val (.int i)):∃ t,val=.int i t:=q.inv
theorem VR.none_inv (q:VR h F σ val .none):val=.none:=q.inv
theorem VR.str_inv {s:Txt} (q:VR h F σ val (.str s)):StrI s val:=q.inv
theorem VR.ref_inv {i:Nat} (q:VR h F σ val (.ref i)):∃ a,val=.ref a∧σ[i]?=some a:=q.inv
theorem VR.lst_inv {l:List V} (q:VR h F σ val (.lst l)):SeqI LstO h F σ l val:=q.inv
theorem VR.tup_inv {l:List V} (q:VR h F σ val (.tup l)):SeqI TupO h F σ l val:=q.inv
end
theorem an {a b:Bool} {P:Prop} (h:(a&&b)=true) (k:a=true→b=true→P):P:=k (Bool.and_eq_true_iff.mp h).1 (Bool.and_eq_true_iff.mp h).2
theorem an3 {a b c d:Bool} {P:Prop} (h:(((a&&b)&&c)&&d)=true) (k:a=true→b=true→c=true→d=true→P):P:=an h fun h z=>an h fun h y=>an h fun h x=>k h x y z
end Mine
end
section
set_option genSizeOf false
set_option genInjectivity false
open PySem PySem.W PyProof.Rows PySem.Calls
namespace Mine
noncomputable abbrev sU (s:Shared) (h:Heap) (tk:Nat):Shared:={ s with heap:=h,toks:=tk }
noncomputable def allBut (h:Heap) (L:Addr):List (Addr × Obj):=(List.range h.objs.size).filterMap fun a=>if a=L then none else (h.get? a).map fun o=>(a,o)
theorem mem_allBut {h:Heap} {L b:Addr} {o:Obj} (hb:b≠L) (e:h.get? b=some o):(b,o)∈allBut h L:=by
 unfold allBut
 rw [List.mem_filterMap]
 exact ⟨b,List.mem_range.mpr (Heap.lt_size e),by rw [if_neg hb,e]; rfl⟩
theorem of_allBut {h:Heap} {L:Addr} {p:Addr × Obj} (hp:p∈allBut h L):p.1≠L∧h.get? p.1=some p.2:=by
 unfold allBut at hp
 rw [List.mem_filterMap] at hp
 obtain ⟨a,_,e⟩:=hp
 by_cases ha:a=L
 ·rw [if_pos ha] at e; cases e
 ·rw [if_neg ha] at e
  cases q:h.get? a with
  | none=>rw [q] at e; cases e
  | some o=>rw [q] at e; cases e; exact ⟨ha,q⟩
noncomputable def h00:Heap:={}
theorem h00_none (a:Addr):h00.get? a=none:=by
 cases q:h00.get? a with
 | none=>rfl
 | some o=>exact absurd (Heap.lt_size q) (Nat.not_lt_zero _)
theorem fr0 {h:Heap} {L:Addr} {m:Str→Option Value} (hn:h.Ns L m):Fr h00 L h m :=
 ⟨hn,fun b o e=>absurd e (by rw [h00_none]; intro q; cases q),Nat.zero_le _⟩
theorem news0 (h:Heap) (L:Addr):News h00 L h (allBut h L):=fun _ hp=>⟨(of_allBut hp).2,(of_allBut hp).1,h00_none _⟩
theorem ns_fun {h:Heap} {L:Addr} {m m':Str→Option Value} (a:h.Ns L m) (b:h.Ns L m'):m=m':=by
 obtain ⟨o,es,ep,ho,hd,_,hf⟩:=a
 obtain ⟨o',es',ep',ho',hd',_,hf'⟩:=b
 rw [ho] at ho'; cases ho'
 rw [hd] at hd'; cases hd'
 funext x; rw [← hf x,← hf' x]
structure Grow (base h h':Heap):Prop where
 stays:base.StaysIn h'
 step:Step (fun _=>False) h h'
 dom:∀ a o,h.get? a=some o→∃ o',h'.get? a=some o'
theorem grow_of {base h h':Heap} {L:Addr} {m:Str→Option Value} {news:List (Addr × Obj)} (hs:base.StaysIn h) (hL:base.get? L=none) (hn:h.Ns L m) (F:Fr h00 L h' m) (N:News h00 L h' news)
  (sub:∀ p∈allBut h L,p∈news):Grow base h h':=by
 have ex:∀ b o,b≠L→h.get? b=some o→h'.get? b=some o:=fun b o hb e=>(N _ (sub _ (mem_allBut hb e))).1
 refine ⟨fun b o e=>ex b o (fun q=>by rw [q,hL] at e; cases e) (hs b o e),fun b o _ e=>?_,fun a o e=>?_⟩
 ·by_cases hb:b=L
  ·subst hb
   exact .inr ⟨⟨m,hn⟩,fun m' hm'=>by rw [← ns_fun hn hm']; exact F.ns⟩
  ·exact .inl (ex b o hb e)
 ·by_cases ha:a=L
  ·subst ha
   obtain ⟨o',_,_,ho',_⟩:=F.ns
   exact ⟨o',ho'⟩
  ·exact ⟨o,ex a o ha e⟩
theorem grow_keeps {base h h':Heap} (hs:base.StaysIn h) (k:∀ b o,h.get? b=some o→h'.get? b=some o):Grow base h h' :=
 ⟨fun b o e=>k b o (hs b o e),.exact fun b o _ e=>k b o e,fun a o e=>⟨o,k a o e⟩⟩
structure Cx where
 base:Heap
 envs:List Env
 b:Nat
 lim:Nat→Option Nat
 C:Value
noncomputable abbrev Cx.Ok (c:Cx) (h:Heap) (σ:List Addr) (H:Hp):Prop:=FRx c.base c.envs c.b c.lim h σ H
noncomputable def No:Addr→Prop:=fun _=>False
inductive TbOf (fl:Value→Prop) (base h0:Heap) (e:Addr) (h:Heap) (vs:Array Value):Prop
 | mk (T:Addr) (oT:Obj) (ts:Array Value) (f:Value):vs[1]?=some (.ref T)→h0.get? T=none→base.get? T=none→T≠e→h.get? T=some oT→oT.data=.fields ts→ts[3]?=some f→fl f→TbOf fl base h0 e h vs
inductive ExcX (fl:Value→Prop) (base:Heap) (C:Value) (h0:Heap) (e:Addr) (h:Heap):Prop
 | mk:h0.get? e=none→base.get? e=none→∀ (oe:Obj) (vs:Array Value) (a0:Value),h.get? e=some oe→oe.cls=C→oe.data=.fields vs→vs[0]?=some a0→(vs[1]?=some .none∨TbOf fl base h0 e h vs)→ExcX fl base C h0 e h
noncomputable abbrev Exc:=ExcX fun f=>f=.none
noncomputable def Cont (c:Cx) (s:Shared) (σ:List Addr) (H:Hp) (Q E:Value→Shared→Prop):Res V→Prop
 | .ok v H'=>∀ val h' tk σ',c.Ok h' σ' H'→Adv No s.heap σ H h' σ' H'→VR h' (Live σ' H') σ' val v→Q val (sU s h' tk)
 | .exc H'=>∀ e h' tk σ',c.Ok h' σ' H'→Adv No s.heap σ H h' σ' H'→Exc c.base c.C s.heap e h'→E (.ref e) (sU s h' tk)
noncomputable def ContL (c:Cx) (s:Shared) (σ:List Addr) (H:Hp) (Q:List Value→Shared→Prop) (E:Value→Shared→Prop):Res (List V)→Prop
 | .ok v H'=>∀ val h' tk σ',c.Ok h' σ' H'→Adv No s.heap σ H h' σ' H'→VRs h' (Live σ' H') σ' val v→Q val (sU s h' tk)
 | .exc H'=>∀ e h' tk σ',c.Ok h' σ' H'→Adv No s.heap σ H h' σ' H'→Exc c.base c.C s.heap e h'→E (.ref e) (sU s h' tk)
theorem ExcX.adv {fl:Value→Prop} {base:Heap} {C:Value} {O:Addr→Prop} {h h₁ h₂:Heap} {σ σ₁:List Addr} {H H₁:Hp} {e:Addr} (x:Adv O h σ H h₁ σ₁ H₁) (q:ExcX fl base C h₁ e h₂):ExcX fl base C h e h₂:=by
 have back:∀ a,h₁.get? a=none→h.get? a=none:=fun a ha=>by
  cases z:h.get? a with
  | none=>rfl
  | some o=>obtain ⟨o',ho'⟩:=x.dom a o z; rw [ha] at ho'; cases ho'
 obtain ⟨a1,a2,oe,vs,a0,b1,b2,b3,b4,b5⟩:=q
 exact ⟨back _ a1,a2,oe,vs,a0,b1,b2,b3,b4,b5.imp id fun ⟨T,oT,ts,f,c1,c2,c3,c4,c5,c6,c7,c8⟩=>⟨T,oT,ts,f,c1,back _ c2,c3,c4,c5,c6,c7,c8⟩⟩
theorem Cont.adv {c:Cx} {s:Shared} {σ σ₁:List Addr} {H H₁:Hp} {Q E:Value→Shared→Prop} {r:Res V} (k:Cont c s σ H Q E r) {h₁:Heap} {tk:Nat} (x:Adv No s.heap σ H h₁ σ₁ H₁) :
  Cont c (sU s h₁ tk) σ₁ H₁ Q E r:=by
 cases r with
 | ok v H'=>exact fun val h' tk σ' a b d=>k val h' tk σ' a (x.trans b) d
 | exc H'=>exact fun e h' tk σ' a b d=>k e h' tk σ' a (x.trans b) (ExcX.adv x d)
theorem ContL.adv {c:Cx} {s:Shared} {σ σ₁:List Addr} {H H₁:Hp} {Q:List Value→Shared→Prop} {E:Value→Shared→Prop} {r:Res (List V)} (k:ContL c s σ H Q E r) {h₁:Heap} {tk:Nat} (x:Adv No s.heap σ H h₁ σ₁ H₁) :
  ContL c (sU s h₁ tk) σ₁ H₁ Q E r:=by
 cases r with
 | ok v H'=>exact fun val h' tk σ' a b d=>k val h' tk σ' a (x.trans b) d
 | exc H'=>exact fun e h' tk σ' a b d=>k e h' tk σ' a (x.trans b) (ExcX.adv x d)
theorem frames_keep {base h h':Heap} (k:∀ b o,h.get? b=some o→(∀ vs,o.data≠.fields vs)→∃ o',h'.get? b=some o'∧∀ vs,o'.data≠.fields vs):∀ {l:List Env},h.FunFrames base l→h'.FunFrames base l
 | [],_=>trivial
 | _ :: _,⟨hk,⟨L,o,hf,hn,ho,hd⟩,hr⟩=>by
  obtain ⟨o',ho',hd'⟩:=k L o ho hd
  exact ⟨hk,⟨L,o',hf,hn,ho',hd'⟩,frames_keep k hr⟩
theorem step_keep {F:Addr→Prop} {h h':Heap} (S:Step F h h') {b:Addr} {o:Obj} (hb:¬ F b) (e:h.get? b=some o) (hnf:∀ vs,o.data≠.fields vs):∃ o',h'.get? b=some o'∧∀ vs,o'.data≠.fields vs:=by
 rcases S b o hb e with q | ⟨⟨m,hm⟩,q⟩
 ·exact ⟨o,q,hnf⟩
 ·obtain ⟨o',es,ep,ho',hd',_⟩:=q m hm
  exact ⟨o',ho',fun vs z=>by rw [hd'] at z; cases z⟩
theorem FRx.grow {base:Heap} {envs:List Env} {b:Nat} {lim:Nat→Option Nat} {h h':Heap} {σ:List Addr} {H:Hp} (X:FRx base envs b lim h σ H) (g:Grow base h h'):FRx base envs b lim h' σ H where
 stays:=g.stays
 frames:=frames_keep (fun b o e hnf=>step_keep g.step (fun z=>z) e hnf) X.frames
 frd:=fun env he L hL=>by
  obtain ⟨m,hm⟩:=X.frd env he L hL
  exact ⟨m,ns_step g.step hm fun z=>z⟩
 len:=X.len
 nodup:=X.nodup
 apart:=X.apart
 dom:=fun a ha=>by
  obtain ⟨arr,n,e⟩:=X.dom a ha
  exact ⟨arr,n,g.step.seq (fun z=>z) e (IsSeq.nd ⟨_,_,rfl⟩)⟩
 objs:=fun i l e=>by
  obtain ⟨a,arr,n,h1,h2,h3,h4⟩:=X.objs i l e
  exact ⟨a,arr,n,h1,g.step.seq (fun z=>z) h2 (IsSeq.nd ⟨_,_,rfl⟩),h3,VRs.mono (fun b o _ e hs=>g.step.seq (fun z=>z) e hs.nd) (fun _ q _=>q) (fun _ _ q=>q) h4⟩
 loc:=X.loc
 blen:=X.blen
 hi:=X.hi
 hs:=X.hs
theorem Grow.adv {base h h':Heap} (g:Grow base h h') (σ:List Addr) (H:Hp):Adv No h σ H h' σ H :=
 ⟨fun b o _ e=>g.step b o (fun z=>z) e,fun _ _ e=>e,fun _ e _=>e,g.dom⟩
end Mine
end
section
open PySem PySem.W PyProof.Rows PySem.Calls
namespace Mine
mutual
noncomputable def toPy:V→PyData
 | .none=>.none
 | .bool b=>.bool b
 | .int i=>.int i
 | .str s=>.str ⟨s.toArray⟩
 | .tup l=>.tuple (toPys l)
 | .lst l=>.list (toPys l)
 | .ref _=>.none
noncomputable def toPys:List V→List PyData
 | []=>[]
 | v :: l=>toPy v :: toPys l
end
theorem reads0 {h:Heap} {F:Addr→Prop} {σ:List Addr}:(∀ {v:Value} {x:V},VR h F σ v x→x.pure=true→∃ as,PySem.Reads h v (toPy x) as)∧∀ {v:List Value} {x:List V},VRs h F σ v x→V.pures x=true→∃ as,PySem.ReadsAll h v (toPys x) as :=
 VR.ind (M:=fun v x=>x.pure=true→∃ as,PySem.Reads h v (toPy x) as) (Ms:=fun v x=>V.pures x=true→∃ as,PySem.ReadsAll h v (toPys x) as) (fun _=>⟨_,.none⟩) (fun b _=>⟨_,.bool b⟩) (fun i t _=>⟨_,.int i t⟩) (fun x t _ _ _=>⟨_,.str x t⟩)
  (fun e _ _ r p=>(r p).elim fun _ q=>⟨_,.tuple e rfl rfl q⟩) (fun e _ _ r p=>(r p).elim fun _ q=>⟨_,.list e rfl rfl q⟩) (fun _ p=>Bool.noConfusion p)
  (fun _=>⟨_,.nil⟩) (fun a b p=>(a (pures_c p).1).elim fun _ q=>(b (pures_c p).2).elim fun _ q'=>⟨_,.cons q q'⟩)
theorem VR.reads {h:Heap} {F:Addr→Prop} {σ:List Addr} {v:Value} {x:V} (q:VR h F σ v x) (p:x.pure=true):∃ as,PySem.Reads h v (toPy x) as:=reads0.1 q p
theorem VRs.reads {h:Heap} {F:Addr→Prop} {σ:List Addr} {v:List Value} {x:List V} (q:VRs h F σ v x) (p:V.pures x=true):∃ as,PySem.ReadsAll h v (toPys x) as:=reads0.2 q p
theorem plain_list {n m:Nat} (ih:∀ x:V,x.plain n=true→x.pure=true∧(toPy x).depth≤m) (l:List V) (h:∀ x∈l,V.plain n x=true):V.pures l=true∧PyData.depthAll (toPys l)≤m:=by
 induction l with
 | nil=>exact ⟨rfl,Nat.zero_le _⟩
 | cons x l k =>
  have h1:=ih x (h x List.mem_cons_self)
  have h2:=k fun y hy=>h y (List.mem_cons_of_mem _ hy)
  exact ⟨Bool.and_eq_true_iff.mpr ⟨h1.1,h2.1⟩,Nat.max_le.mpr ⟨h1.2,h2.2⟩⟩
theorem plain_both (n:Nat):∀ x:V,x.plain n=true→x.pure=true∧(toPy x).depth≤n:=by
 induction n with
 | zero=>intro x h; cases x <;> first | exact ⟨rfl,Nat.zero_le _⟩ | exact Bool.noConfusion h
 | succ n ih =>
  intro x h
  cases x with
  | tup l=>exact (plain_list ih l (List.all_eq_true.mp h)).imp id Nat.succ_le_succ
  | lst l=>exact (plain_list ih l (List.all_eq_true.mp h)).imp id Nat.succ_le_succ
  | ref _=>exact Bool.noConfusion h
  | _=>exact ⟨rfl,Nat.zero_le _⟩
theorem canLay0 {h:Heap} {F:Addr→Prop} {σ:List Addr}:(∀ {v:Value} {x:V},VR h F σ v x→(toPy x).canLay0=true)∧∀ {v:List Value} {x:List V},VRs h F σ v x→PyData.canLayAll0 (toPys x)=true :=
 VR.ind (M:=fun _ x=>(toPy x).canLay0=true) (Ms:=fun _ x=>PyData.canLayAll0 (toPys x)=true) rfl (fun _=>rfl) (fun _ _=>rfl) (fun x t _ q=>by
  show Array.all _ _=true
  rw [Array.all_eq_true]
  intro i hi
  simpa using q (x.cps[i]) (by simp)) (fun _ _ _ r=>r) (fun _ _ _ r=>r) (fun _=>rfl) rfl (fun a b=>Bool.and_eq_true_iff.mpr ⟨a,b⟩)
theorem VR.canLay {h:Heap} {F:Addr→Prop} {σ:List Addr} {v:Value} {x:V} (q:VR h F σ v x):(toPy x).canLay0=true:=canLay0.1 q
theorem VRs.canLay {h:Heap} {F:Addr→Prop} {σ:List Addr} {v:List Value} {x:List V} (q:VRs h F σ v x):PyData.canLayAll0 (toPys x)=true:=canLay0.2 q
theorem np_b {m:Nat} {b:Bool} (h:V.plain m (.bool b)=true):False:=by cases m <;> exact Bool.noConfusion h
theorem np_r {m:Nat} {b:Nat} (h:V.plain m (.ref b)=true):False:=by cases m <;> exact Bool.noConfusion h
theorem eqv_str (s t:Txt):PyData.eqv (toPy (.str s)) (toPy (.str t))=(s==t):=by
 show PyData.eqv (.str _) (.str _)=_
 rw [PyData.eqv,Bool.eq_iff_iff]; simp
set_option tactic.hygienic true in
mutual
theorem eqv_beq:∀ (x y:V) (n m:Nat),x.plain n=true→y.plain m=true→PyData.eqv (toPy x) (toPy y)=x.beq y
 | .none,y,n,m,_,hy=>by cases y <;> first | rfl | exact (np_b hy).elim | exact (np_r hy).elim
 | .bool b,y,n,m,hx,hy=>(np_b hx).elim
 | .int i,y,n,m,_,hy=>by cases y <;> first | rfl | exact (np_b hy).elim | exact (np_r hy).elim
 | .str s,y,n,m,_,hy=>by cases y <;> first | rfl | exact (np_b hy).elim | exact (np_r hy).elim | exact eqv_str _ _
 | .tup l,y,n,m,hx,hy=>by
  cases y <;> first | rfl | exact (np_b hy).elim | exact (np_r hy).elim | skip
  rename_i k
  cases n with
  | zero=>exact Bool.noConfusion hx
  | succ n=>cases m with
   | zero=>exact Bool.noConfusion hy
   | succ m=>exact eqv_beqs l k n m (List.all_eq_true.mp hx) (List.all_eq_true.mp hy)
 | .lst l,y,n,m,hx,hy=>by
  cases y <;> first | rfl | exact (np_b hy).elim | exact (np_r hy).elim | skip
  rename_i k
  cases n with
  | zero=>exact Bool.noConfusion hx
  | succ n=>cases m with
   | zero=>exact Bool.noConfusion hy
   | succ m=>exact eqv_beqs l k n m (List.all_eq_true.mp hx) (List.all_eq_true.mp hy)
 | .ref i,y,n,m,hx,hy=>(np_r hx).elim
theorem eqv_beqs:∀ (x y:List V) (n m:Nat),(∀ a∈x,V.plain n a=true)→(∀ a∈y,V.plain m a=true)→PyData.eqvAll (toPys x) (toPys y)=V.beqs x y
 | [],[],_,_,_,_=>rfl
 | [],_ :: _,_,_,_,_=>rfl
 | _ :: _,[],_,_,_,_=>rfl
 | a :: x,b :: y,n,m,hx,hy=>by
  show (PyData.eqv (toPy a) (toPy b)&&PyData.eqvAll (toPys x) (toPys y))=(a.beq b&&V.beqs x y)
  rw [eqv_beq a b n m (hx a List.mem_cons_self) (hy b List.mem_cons_self),eqv_beqs x y n m (fun z hz=>hx z (List.mem_cons_of_mem _ hz)) fun z hz=>hy z (List.mem_cons_of_mem _ hz)]
end
theorem VR.str' {h:Heap} {F:Addr→Prop} {σ:List Addr} {x:Str} {t:Tok} {s:Txt} (e:x.cps.toList=s) (a:s.length≤capL) (b:∀ c∈s,c < 1114112):VR h F σ (.str x t) (.str s):=by
 subst e; exact .str x t (by simpa using a) b
theorem sizeLine_cap:capL≤sizeLine:=by decide
section
variable {prog:Program} {w:World} {A:Around} {E:Value→Shared→Prop} {s:Shared} {c:Cx} {σ:List Addr} {H:Hp} {Q:Value→Shared→Prop}
theorem Cont.val {v:V} (k:Cont c s σ H Q E (.ok v H)) (X:c.Ok s.heap σ H) {val:Value} (r:VR s.heap (Live σ H) σ val v) (tk:Nat):Q val { s with toks:=tk } :=
 k val s.heap tk σ X (.refl ..) r
theorem Cont.here {v:V} (k:Cont c s σ H Q E (.ok v H)) (X:c.Ok s.heap σ H) {val:Value} (r:VR s.heap (Live σ H) σ val v):Q val s :=
 k val s.heap s.toks σ X (.refl ..) r
theorem Cont.grown {v:V} (k:Cont c s σ H Q E (.ok v H)) (X:c.Ok s.heap σ H) {h':Heap} (g:Grow c.base s.heap h') {val:Value} (r:VR h' (Live σ H) σ val v) (tk:Nat):Q val (sU s h' tk) :=
 k val h' tk σ (X.grow g) (g.adv σ H) r
theorem Cont.push {v:V} (k:Cont c s σ H Q E (.ok v H)) (X:c.Ok s.heap σ H) {o:Obj} {val:Value} (r:VR (s.heap.push o) (Live σ H) σ val v):Q val { s with heap:=s.heap.push o } :=
 k.grown X (grow_keeps X.stays fun _ _ e=>Heap.get?_push_of_some _ e) r s.toks
theorem FRx.frame (hne:c.envs≠[]) (X:c.Ok s.heap σ H):∃ L m,c.base.get? L=none∧s.heap.Ns L m:=by
 obtain ⟨base,envs,b,lim,C⟩:=c
 cases envs with
 | nil=>exact absurd rfl hne
 | cons env r =>
  obtain ⟨_,⟨L,o,hf,hn,_⟩,_⟩:=X.frames
  obtain ⟨m,hm⟩:=X.frd env List.mem_cons_self L hf
  exact ⟨L,m,hn,hm⟩
theorem not_live_new (X:c.Ok s.heap σ H):¬ Live σ H s.heap.objs.size:=fun z=>by
 obtain ⟨arr,n,e⟩:=X.live_seq z
 exact absurd (Heap.lt_size e) (Nat.lt_irrefl _)
theorem VRs.grow {h h':Heap} {base:Heap} (g:Grow base h h') {v:List Value} {x:List V} (q:VRs h (Live σ H) σ v x):VRs h' (Live σ H) σ v x :=
 q.adv (g.adv σ H) fun _ _ z=>z.elim
theorem VR.grow {h h':Heap} {base:Heap} (g:Grow base h h') {v:Value} {x:V} (q:VR h (Live σ H) σ v x):VR h' (Live σ H) σ v x :=
 q.adv (g.adv σ H) fun _ _ z=>z.elim
theorem new_tup (X:c.Ok s.heap σ H) {vs:List Value} {l:List V} (q:VRs s.heap (Live σ H) σ vs l) (hl:l.length≤capL) (k:Cont c s σ H Q E (.ok (.tup l) H)):wpAny (model prog w) A (newTuple vs) Q E s:=by
 have hz:vs.length≤capL:=by rw [q.length]; exact hl
 refine wpAny_newObj_type ?_ (show vs.toArray.size≤sizeLine by rw [List.size_toArray]; exact Nat.le_trans hz sizeLine_cap)
 refine k.push X (.tup (arr:=vs.toArray) (n:=0) (Heap.get?_push_size _ rfl) (not_live_new X) (by simpa using hz) ?_)
 exact q.grow (base:=c.base) (grow_keeps X.stays fun _ _ e=>Heap.get?_push_of_some _ e)
theorem new_lst (X:c.Ok s.heap σ H) {vs:List Value} {l:List V} (q:VRs s.heap (Live σ H) σ vs l) (hl:l.length≤capL) (k:Cont c s σ H Q E (.ok (.lst l) H)):wpAny (model prog w) A (newList vs) Q E s:=by
 have hz:vs.length≤capL:=by rw [q.length]; exact hl
 refine wpAny_newObj_type ?_ (show vs.toArray.size≤sizeLine by rw [List.size_toArray]; exact Nat.le_trans hz sizeLine_cap)
 refine k.push X (.lst (arr:=vs.toArray) (n:=0) (Heap.get?_push_size _ rfl) (not_live_new X) (by simpa using hz) ?_)
 exact q.grow (base:=c.base) (grow_keeps X.stays fun _ _ e=>Heap.get?_push_of_some _ e)
theorem reads_sh {h:Heap} {F:Addr→Prop} {va:Value} {a:V} (hx:VR h F σ va a) (pa:a.plain 60=true):∃ as,PySem.Reads h va (toPy a) as∧SeqAt.shaped (toPy a)=true :=
 have p:=plain_both 60 a pa
 (hx.reads p.1).imp fun _ q=>⟨q,Bool.and_eq_true_iff.mpr ⟨hx.canLay,decide_eq_true (Nat.le_trans p.2 (show 60≤64 by decide))⟩⟩
theorem reads_eq {va vb:Value} {a b:V} (hx:VR s.heap (Live σ H) σ va a) (hy:VR s.heap (Live σ H) σ vb b) (pa:a.plain 60=true) (pb:b.plain 60=true) (hu:A.units + 64 < cLine)
  (h:Q (.bool (a.beq b)) s):wpAny (model prog w) A (compareOp .Eq va vb) Q E s:=by
 obtain ⟨as,ra,sa⟩:=reads_sh hx pa
 obtain ⟨bs,rb,sb⟩:=reads_sh hy pb
 exact eq_dataH ra rb sa sb hu ((eqv_beq a b 60 60 pa pb).symm ▸ h)
theorem reads_ne {va vb:Value} {a b:V} (hx:VR s.heap (Live σ H) σ va a) (hy:VR s.heap (Live σ H) σ vb b) (pa:a.plain 60=true) (pb:b.plain 60=true) (hu:A.units + 64 < cLine)
  (h:Q (.bool (!a.beq b)) s):wpAny (model prog w) A (compareOp .NotEq va vb) Q E s:=by
 obtain ⟨as,ra,sa⟩:=reads_sh hx pa
 obtain ⟨bs,rb,sb⟩:=reads_sh hy pb
 exact ne_dataH ra rb sa sb hu ((eqv_beq a b 60 60 pa pb).symm ▸ h)
end
end Mine
end
section
open PySem PySem.W PyProof.Rows PySem.Calls
namespace Mine
theorem isPre_iff:∀ (a b:Txt),isPre a b=true↔b.take a.length=a
 | [],b=>⟨fun _=>rfl,fun _=>rfl⟩
 | a :: x,[]=>⟨fun h=>Bool.noConfusion h,fun h=>(List.cons_ne_nil a x h.symm).elim⟩
 | a :: x,b :: y=>⟨fun h=>by rw [beq_iff_eq.mp (Bool.and_eq_true_iff.mp h).1]; exact congrArg (b :: ·) ((isPre_iff x y).mp (Bool.and_eq_true_iff.mp h).2),
  fun h=>Bool.and_eq_true_iff.mpr ⟨beq_iff_eq.mpr (List.cons.inj h).1.symm,(isPre_iff x y).mpr (List.cons.inj h).2⟩⟩
theorem isSub_iff (a:Txt):∀ b:Txt,isSub a b=true↔∃ i,i + a.length≤b.length∧(b.drop i).take a.length=a
 | []=>⟨fun h=>⟨0,by rw [List.isEmpty_iff.mp h]; exact Nat.le_refl _,by rw [List.isEmpty_iff.mp h]; rfl⟩,
  fun ⟨i,h,_⟩=>List.isEmpty_iff.mpr (List.eq_nil_of_length_eq_zero (Nat.le_zero.mp (Nat.le_trans (Nat.le_add_left ..) h)))⟩
 | c :: t=>by
  refine Bool.or_eq_true_iff.trans ⟨fun h=>h.elim (fun h=>?_) fun h=>?_,fun ⟨i,h1,h2⟩=>?_⟩
  ·have h:=(isPre_iff _ _).mp h
   have hl:=congrArg List.length h
   rw [List.length_take] at hl
   exact ⟨0,by rw [Nat.zero_add,← hl]; exact Nat.min_le_right ..,h⟩
  ·obtain ⟨i,h1,h2⟩:=(isSub_iff a t).mp h
   exact ⟨i + 1,by rw [Nat.succ_add]; exact Nat.succ_le_succ h1,h2⟩
  ·cases i with
   | zero=>exact .inl ((isPre_iff _ _).mpr h2)
   | succ i=>exact .inr ((isSub_iff a t).mpr ⟨i,by rw [Nat.succ_add] at h1; exact Nat.le_of_succ_le_succ h1,h2⟩)
theorem contains_isSub (x y:Str):(!(Builtin.Str.occurrences x y 0 x.length 1).isEmpty)=isSub y.cps.toList x.cps.toList:=by
 rw [Bool.eq_iff_iff,StrLaws.found_iff,isSub_iff]
 simp only [StrLaws.subAt_eq,beq_iff_eq,Str.length,Array.length_toList]
section
variable {prog:Program} {w:World} {A:Around} {E:Value→Shared→Prop} {s:Shared} {c:Cx} {σ:List Addr} {H:Hp} {Q:Value→Shared→Prop}
noncomputable def isOrd:Cop→Bool
 | .lt=>true
 | .le=>true
 | .gt=>true
 | .ge=>true
 | _=>false
noncomputable def isAr:Bop→Bool
 | .sub=>true
 | .fdiv=>true
 | .mod=>true
 | _=>false
theorem cmp_int {o:Cop} {a b:V} {r:Bool} (e:cmpV o a b=some r) (ho:isOrd o=true):∃ x y,a=.int x∧b=.int y:=by
 cases o <;> first | exact Bool.noConfusion ho | (cases a <;> first | exact (noS e).elim | (cases b <;> first | exact (noS e).elim | exact ⟨_,_,rfl,rfl⟩))
theorem cmp_str {a b:V} {r:Bool} (e:cmpV .isIn a b=some r∨cmpV .notIn a b=some r):∃ x y,a=.str x∧b=.str y:=by
 cases a <;> first | exact e.elim (fun e=>(noS e).elim) (fun e=>(noS e).elim) | (cases b <;> first | exact e.elim (fun e=>(noS e).elim) (fun e=>(noS e).elim) | exact ⟨_,_,rfl,rfl⟩)
theorem bin_int {o:Bop} {a b r:V} (e:binV H o a b=some r) (ho:isAr o=true):∃ x y,a=.int x∧b=.int y:=by
 cases o <;> first | exact Bool.noConfusion ho | (cases a <;> first | exact (noS e).elim | (cases b <;> first | exact (noS e).elim | exact ⟨_,_,rfl,rfl⟩))
theorem sndCmp {o:Cop} {va vb:Value} {a b:V} {r:Bool} (hu:A.units + 64 < cLine) (hx:VR s.heap (Live σ H) σ va a) (hy:VR s.heap (Live σ H) σ vb b) (e:cmpV o a b=some r)
  (k:Q (.bool r) s):wpAny (model prog w) A (compareOp (pyCop o) va vb) Q E s:=by
 have int:isOrd o=true→∃ x y t u,a=.int x∧b=.int y∧va=.int x t∧vb=.int y u:=fun h=>by
  obtain ⟨x,y,rfl,rfl⟩:=cmp_int e h
  obtain ⟨t,rfl⟩:=hx.int_inv
  obtain ⟨u,rfl⟩:=hy.int_inv
  exact ⟨x,y,t,u,rfl,rfl,rfl,rfl⟩
 have str:cmpV .isIn a b=some r∨cmpV .notIn a b=some r→∃ x y t u,a=.str x.cps.toList∧b=.str y.cps.toList∧va=.str x t∧vb=.str y u:=fun e=>by
  obtain ⟨x,y,rfl,rfl⟩:=cmp_str e
  obtain ⟨x,t,rfl,rfl,_⟩:=hx.str_inv
  obtain ⟨y,u,rfl,rfl,_⟩:=hy.str_inv
  exact ⟨x,y,t,u,rfl,rfl,rfl,rfl⟩
 cases o with
 | lt=>obtain ⟨x,y,t,u,rfl,rfl,rfl,rfl⟩:=int rfl; obtain rfl:=Option.some.inj e; exact PyProof.Rows.lt_int k
 | le=>obtain ⟨x,y,t,u,rfl,rfl,rfl,rfl⟩:=int rfl; obtain rfl:=Option.some.inj e; exact PyProof.Rows.le_int k
 | gt=>obtain ⟨x,y,t,u,rfl,rfl,rfl,rfl⟩:=int rfl; obtain rfl:=Option.some.inj e; exact PyProof.Rows.gt_int k
 | ge=>obtain ⟨x,y,t,u,rfl,rfl,rfl,rfl⟩:=int rfl; obtain rfl:=Option.some.inj e; exact PyProof.Rows.ge_int k
 | isIn=>obtain ⟨x,y,t,u,rfl,rfl,rfl,rfl⟩:=str (.inl e); obtain rfl:=Option.some.inj e; exact PyProof.Rows.in_str (by rw [contains_isSub]; exact k)
 | notIn=>obtain ⟨x,y,t,u,rfl,rfl,rfl,rfl⟩:=str (.inr e); obtain rfl:=Option.some.inj e; exact P.notIn_str (by rw [contains_isSub]; exact k)
 | eq =>
  obtain ⟨hp,e⟩:=mi_some (show (if (a.plain 60&&b.plain 60)=true then some (a.beq b) else none)=some r from e)
  obtain rfl:=Option.some.inj e
  exact an hp fun h1 h2=>reads_eq hx hy h1 h2 hu k
 | ne =>
  obtain ⟨hp,e⟩:=mi_some (show (if (a.plain 60&&b.plain 60)=true then some (!a.beq b) else none)=some r from e)
  obtain rfl:=Option.some.inj e
  exact an hp fun h1 h2=>reads_ne hx hy h1 h2 hu k
theorem fitsI_mul {x y:Int} (h:fitsI x=true):IntMulOk x y:=by
 simp only [fitsI,decide_eq_true_eq] at h
 replace h:-(2 ^ 62) < x∧x < 2 ^ 62:=by omega
 exact IntMulOk.of_left (intBits_le_64 (by omega) (by omega))
inductive LstR (h:Heap) (σ:List Addr) (H:Hp) (l:List V) (va:Value):Prop
 | mk (r:Addr) (arr:Array Value) (n:Nat):va=.ref r→h.get? r=some (LstO arr n)→arr.size≤capL→VRs h (Live σ H) σ arr.toList l→LstR h σ H l va
set_option tactic.hygienic true in
theorem lst_read (X:c.Ok s.heap σ H) {va:Value} {a:V} {l:List V} (hx:VR s.heap (Live σ H) σ va a) (e:lstOf H a=some l) :
  LstR s.heap σ H l va:=by
 cases a <;> first | exact (noS e).elim | skip
 ·obtain rfl:=Option.some.inj e
  obtain ⟨r,arr,n,rfl,h1,_,h2,h3⟩:=hx.lst_inv
  exact ⟨r,arr,n,rfl,h1,h2,h3⟩
 ·rename_i i
  have e:H[i]?=some (some l):=by
   have e:(match H[i]? with | some (some l)=>some l | _=>.none)=some l:=e
   generalize H[i]?=o at e ⊢
   rcases o with _ | _ | l'
   ·exact (noS e).elim
   ·exact (noS e).elim
   ·rw [Option.some.inj e]
  obtain ⟨r,rfl,e'⟩:=hx.ref_inv
  obtain ⟨a,arr,n,h1,h2,h3,h4⟩:=X.objs _ _ e
  obtain rfl:=Option.some.inj (e'.symm.trans h1)
  refine ⟨r,arr,n,rfl,h2,h3,VRs.mono (fun _ _ _ e _=>e) (fun _ q _=>q) (fun j a q=>takeO_pre q) h4⟩
theorem flat_arr {α:Type} (a:Array α):∀ n,(List.foldl (fun x y=>x++y) #[] (List.replicate (if a.isEmpty=true then 0 else n) a)).toList=List.flatten (List.replicate n a.toList):=by
 intro n
 have fold:∀ (m:Nat) (z:Array α),(List.foldl (fun x y=>x++y) z (List.replicate m a)).toList=z.toList++List.flatten (List.replicate m a.toList):=by
  intro m
  induction m with
  | zero=>intro z; simp
  | succ m ih=>intro z; rw [List.replicate_succ,List.foldl_cons,ih]; simp [List.replicate_succ]
 rw [fold]
 by_cases h:a.isEmpty=true
 ·have:a=#[]:=by simpa using h
  subst this
  simp
 ·simp [h]
theorem VRs.rep {h:Heap} {F:Addr→Prop} {v:List Value} {x:List V} (q:VRs h F σ v x):∀ n,VRs h F σ (List.flatten (List.replicate n v)) (List.flatten (List.replicate n x))
 | 0=>.nil
 | n + 1=>by rw [List.replicate_succ,List.replicate_succ,List.flatten_cons,List.flatten_cons]; exact (VRs.rep q n).append q
inductive AddV (H:Hp):V→V→V→Prop
 | int (x y:Int):AddV H (.int x) (.int y) (.int (x + y))
 | str (x y:Txt):x.length + y.length≤capL→AddV H (.str x) (.str y) (.str (x++y))
 | tup (x y:List V):x.length + y.length≤capL→AddV H (.tup x) (.tup y) (.tup (x++y))
 | lst (a b:V) (l m:List V):lstOf H a=some l→lstOf H b=some m→l.length + m.length≤capL→AddV H a b (.lst (l++m))
theorem addV {H:Hp} {a b r:V} (e:binV H .add a b=some r):AddV H a b r:=by
 have gen:(match lstOf H a,lstOf H b with | some l,some m=>if l.length + m.length≤capL&&V.pures l&&V.pures m then some (V.lst (l++m)) else .none | _,_=>.none)=some r→AddV H a b r:=fun e=>by
  cases h1:lstOf H a with
  | none=>rw [h1] at e; exact (noS e).elim
  | some l =>
   cases h2:lstOf H b with
   | none=>rw [h1,h2] at e; exact (noS e).elim
   | some m =>
    rw [h1,h2] at e
    obtain ⟨hz,e⟩:=mi_some e
    obtain rfl:=Option.some.inj e
    exact an hz fun h _=>an h fun h _=>.lst a b l m h1 h2 (of_decide_eq_true h)
 cases a with
 | none=>exact gen e
 | bool=>exact gen e
 | lst=>exact gen e
 | ref=>exact gen e
 | int x=>cases b <;> first | exact gen e | (obtain rfl:=Option.some.inj e; exact .int _ _)
 | str x=>cases b <;> first | exact gen e | (obtain ⟨hz,e⟩:=mi_p e; obtain rfl:=Option.some.inj e; exact .str _ _ hz)
 | tup x=>cases b <;> first | exact gen e | (obtain ⟨hz,e⟩:=mi_p e; obtain rfl:=Option.some.inj e; exact .tup _ _ hz)
theorem mulV {H:Hp} {a b r:V} (e:binV H .mul a b=some r):(∃ x y,a=.int x∧b=.int y∧fitsI x=true∧r=.int (x * y))∨∃ x y,a=.lst x∧b=.int y∧(0≤y∧y≤capL∧x.length * y.toNat≤capL)∧r=.lst (List.flatten (List.replicate y.toNat x)):=by
 cases a <;> first | exact (noS e).elim | (cases b <;> first | exact (noS e).elim | skip)
 ·obtain ⟨h,e⟩:=mi_some e
  exact .inl ⟨_,_,rfl,rfl,(Bool.and_eq_true_iff.mp h).1,(Option.some.inj e).symm⟩
 ·obtain ⟨h,e⟩:=mi_p e
  exact .inr ⟨_,_,rfl,rfl,h,(Option.some.inj e).symm⟩
theorem add_seq {l m:List V} {a1 a2:Addr} {arr1 arr2:Array Value} {k1 k2:Nat} (hne:c.envs≠[]) (X:c.Ok s.heap σ H) (e1:s.heap.get? a1=some (LstO arr1 k1)) (r1:VRs s.heap (Live σ H) σ arr1.toList l)
  (e2:s.heap.get? a2=some (LstO arr2 k2)) (r2:VRs s.heap (Live σ H) σ arr2.toList m) (hz:l.length + m.length≤capL) (k:Cont c s σ H Q E (.ok (.lst (l++m)) H)):wpAny (model prog w) A (binaryOp .Add (.ref a1) (.ref a2)) Q E s:=by
 obtain ⟨L,m',hL,hn⟩:=X.frame hne
 have z1:=r1.length
 have z2:=r2.length
 refine add_lists (vs:=arr1.toList) (ws:=arr2.toList) (fr0 hn) (news0 _ L) ⟨_,e1,rfl,_,rfl⟩ ⟨_,e2,rfl,_,rfl⟩ (fun h' F' N'=>?_) (by rw [z1,z2]; exact Nat.le_trans hz sizeLine_cap)
 have g:=grow_of X.stays hL hn F' N' fun p hp=>List.mem_cons_of_mem _ hp
 exact k.grown X g (.lst (arr:=(arr1.toList++arr2.toList).toArray) (n:=0) (N' _ List.mem_cons_self).1 (not_live_new X) (by rw [List.size_toArray,List.length_append,z1,z2]; exact hz) ((r2.grow g).append (r1.grow g))) s.toks
theorem add_tup {l m:List V} {a1 a2:Addr} {arr1 arr2:Array Value} {k1 k2:Nat} (hne:c.envs≠[]) (X:c.Ok s.heap σ H) (e1:s.heap.get? a1=some (TupO arr1 k1)) (n1:¬ Live σ H a1) (c1:arr1.size≤capL) (r1:VRs s.heap (Live σ H) σ arr1.toList l)
  (e2:s.heap.get? a2=some (TupO arr2 k2)) (n2:¬ Live σ H a2) (c2:arr2.size≤capL) (r2:VRs s.heap (Live σ H) σ arr2.toList m) (hz:l.length + m.length≤capL) (k:Cont c s σ H Q E (.ok (.tup (l++m)) H)):wpAny (model prog w) A (binaryOp .Add (.ref a1) (.ref a2)) Q E s:=by
 obtain ⟨L,m',hL,hn⟩:=X.frame hne
 have z1:=r1.length
 have z2:=r2.length
 refine add_tuples (vs:=arr1.toList) (ws:=arr2.toList) (fr0 hn) (news0 _ L) ⟨_,e1,rfl,_,rfl⟩ ⟨_,e2,rfl,_,rfl⟩ (fun q=>?_) (fun q1 q2=>?_) (fun _ _ h' F' N'=>?_) (by rw [z1,z2]; exact Nat.le_trans hz sizeLine_cap)
 ·rw [q] at z1
  obtain rfl:=List.eq_nil_of_length_eq_zero z1.symm
  exact k.here X (.tup e2 n2 c2 r2)
 ·rw [q2] at z2
  obtain rfl:=List.eq_nil_of_length_eq_zero z2.symm
  rw [List.append_nil] at k
  exact k.here X (.tup e1 n1 c1 r1)
 ·have g:=grow_of X.stays hL hn F' N' fun p hp=>List.mem_cons_of_mem _ hp
  exact k.grown X g (.tup (arr:=(arr1.toList++arr2.toList).toArray) (n:=0) (N' _ List.mem_cons_self).1 (not_live_new X) (by rw [List.size_toArray,List.length_append,z1,z2]; exact hz) ((r2.grow g).append (r1.grow g))) s.toks
theorem rep_lst {l:List V} {y:Int} {t:Tok} {a1:Addr} {arr1:Array Value} {k1:Nat} (hne:c.envs≠[]) (X:c.Ok s.heap σ H) (e1:s.heap.get? a1=some (LstO arr1 k1)) (r1:VRs s.heap (Live σ H) σ arr1.toList l)
  (hz:0≤y∧y≤capL∧l.length * y.toNat≤capL) (k:Cont c s σ H Q E (.ok (.lst (List.flatten (List.replicate y.toNat l))) H)):wpAny (model prog w) A (binaryOp .Mult (.ref a1) (.int y t)) Q E s:=by
 obtain ⟨L,m',hL,hn⟩:=X.frame hne
 have z1:=r1.length
 rw [Array.length_toList] at z1
 have hcap:l.length * y.toNat≤1048576:=hz.2.2
 have hcy:y≤1048576:=hz.2.1
 refine mul_list (items:=arr1) (k:=k1) (fr0 hn) (news0 _ L) e1 (by omega) (by omega) (by rw [z1]; omega) fun h' F' N'=>?_
 have g:=grow_of X.stays hL hn F' N' fun p hp=>List.mem_cons_of_mem _ hp
 refine k.grown X g (.lst (n:=0) (N' _ List.mem_cons_self).1 (not_live_new X) ?_ ?_) s.toks
 ·rw [← Array.length_toList,flat_arr]; simp [z1]; rw [Nat.mul_comm]; exact hz.2.2
 ·rw [flat_arr]; exact (r1.grow g).rep _
theorem sndBin {o:Bop} {va vb:Value} {a b r:V} (hne:c.envs≠[]) (X:c.Ok s.heap σ H) (hx:VR s.heap (Live σ H) σ va a) (hy:VR s.heap (Live σ H) σ vb b) (e:binV H o a b=some r)
  (k:Cont c s σ H Q E (.ok r H)):wpAny (model prog w) A (binaryOp (pyBop o) va vb) Q E s:=by
 have int:isAr o=true→∃ x y t u,a=.int x∧b=.int y∧va=.int x t∧vb=.int y u:=fun h=>by
  obtain ⟨x,y,rfl,rfl⟩:=bin_int e h
  obtain ⟨t,rfl⟩:=hx.int_inv
  obtain ⟨u,rfl⟩:=hy.int_inv
  exact ⟨x,y,t,u,rfl,rfl,rfl,rfl⟩
 cases o with
 | sub=>obtain ⟨x,y,t,u,rfl,rfl,rfl,rfl⟩:=int rfl; obtain rfl:=Option.some.inj e; exact PyProof.Rows.sub_int (k.val X (.int _ _) _)
 | fdiv =>
  obtain ⟨x,y,t,u,rfl,rfl,rfl,rfl⟩:=int rfl
  obtain ⟨hf,e⟩:=mi_p e
  obtain rfl:=Option.some.inj e
  have h2:y≤1048576:=hf.2
  exact PyProof.Rows.floordiv_int (by omega) (k.val X (.int _ _) _) (.inl (PyProof.noPylong_small (by omega)))
 | mod =>
  obtain ⟨x,y,t,u,rfl,rfl,rfl,rfl⟩:=int rfl
  have e:(if y=0 then none else some (V.int (x.fmod y)))=some r:=e
  by_cases hf:y=0
  ·rw [if_pos hf] at e; exact (noS e).elim
  ·rw [if_neg hf] at e
   obtain rfl:=Option.some.inj e
   exact PyProof.Rows.mod_int' hf (k.val X (.int _ _) _)
 | mul =>
  rcases mulV e with ⟨x,y,rfl,rfl,hf,rfl⟩ | ⟨x,y,rfl,rfl,hz,rfl⟩
  ·obtain ⟨t,rfl⟩:=hx.int_inv
   obtain ⟨u,rfl⟩:=hy.int_inv
   exact PyProof.Rows.mul_int (k.val X (.int _ _) _) (fitsI_mul hf)
  ·obtain ⟨a1,arr1,k1,rfl,e1,_,_,r1⟩:=hx.lst_inv
   obtain ⟨u,rfl⟩:=hy.int_inv
   exact rep_lst hne X e1 r1 hz k
 | add =>
  cases addV e with
  | int x y =>
   obtain ⟨t,rfl⟩:=hx.int_inv
   obtain ⟨u,rfl⟩:=hy.int_inv
   exact PyProof.Rows.add_int (k.val X (.int _ _) _)
  | str x y hz =>
   obtain ⟨x,t,rfl,rfl,_,a2⟩:=hx.str_inv
   obtain ⟨y,u,rfl,rfl,_,b2⟩:=hy.str_inv
   exact PyProof.Rows.add_str (fun t' tk=>k.val X (VR.str' (by rw [PySem.Str.cps_append,Array.toList_append]) (by rw [List.length_append]; exact hz) fun z hz=>(List.mem_append.mp hz).elim (a2 z) (b2 z)) tk) (Nat.le_trans (show x.cps.size + y.cps.size≤capL by rw [← Array.length_toList,← Array.length_toList]; exact hz) sizeLine_cap)
  | tup x y hz =>
   obtain ⟨a1,arr1,k1,rfl,e1,n1,c1,r1⟩:=hx.tup_inv
   obtain ⟨a2,arr2,k2,rfl,e2,n2,c2,r2⟩:=hy.tup_inv
   exact add_tup hne X e1 n1 c1 r1 e2 n2 c2 r2 hz k
  | lst _ _ l m h1 h2 hz =>
   obtain ⟨t1,arr1,k1,rfl,e1,c1,r1⟩:=lst_read X hx h1
   obtain ⟨t2,arr2,k2,rfl,e2,c2,r2⟩:=lst_read X hy h2
   exact add_seq hne X e1 r1 e2 r2 hz k
end
end Mine
end
section
open PySem PySem.W PyProof.Rows PySem.Calls PySem.Builtin.Str
namespace Mine
noncomputable def optOf:V→Option Int
 | .int k=>some k
 | _=>none
noncomputable def clipN (n d:Nat):Option Int→Nat
 | none=>d
 | some k=>clampI n k
theorem bound_clip {n d m:Nat} {v:V} (h:bound n d v=some m):clipN n d (optOf v)=m:=by
 cases v <;> first | exact (noS h).elim | exact Option.some.inj h | exact Option.some.inj (mi_p h).2
noncomputable def clC (n:Nat) (v:Option Int) (d:Int):Int:=match v with
 | none=>d
 | some i=>if (1:Int) > 0 then max 0 (min (if i < 0 then i + n else i) n) else max (-1) (min (if i < 0 then i + n else i) ((n:Int) - 1))
theorem cmin (a b:Nat):((min a b:Nat):Int)=min (a:Int) b:=(Nat.le_total a b).elim (fun h=>(congrArg (fun n:Nat=>(n:Int)) (Nat.min_eq_left h)).trans (Int.min_eq_left (Int.ofNat_le.mpr h)).symm) fun h=>(congrArg (fun n:Nat=>(n:Int)) (Nat.min_eq_right h)).trans (Int.min_eq_right (Int.ofNat_le.mpr h)).symm
theorem clamp_eq (n:Nat) (k:Int):max 0 (min (if k < 0 then k + n else k) (n:Int))=((clampI n k:Nat):Int):=by
 by_cases h:k < 0
 ·rw [if_pos h,show clampI n k=(k + n).toNat from if_pos h,Int.ofNat_toNat,Int.min_eq_left (Int.add_le_of_le_sub_right (by rw [Int.sub_self]; exact Int.le_of_lt h)),Int.max_comm]
 ·rw [if_neg h,show clampI n k=min k.toNat n from if_neg h,show ((min k.toNat n:Nat):Int)=min (k.toNat:Int) n from cmin ..,Int.toNat_of_nonneg (Int.not_lt.mp h),Int.max_eq_right (Int.le_min.mpr ⟨Int.not_lt.mp h,Int.natCast_nonneg n⟩)]
theorem clC_eq (n d:Nat) (v:Option Int):clC n v (d:Int)=((clipN n d v:Nat):Int):=by
 cases v with
 | none=>rfl
 | some k=>exact Eq.trans (if_pos (e:=max (-1) (min (if k < 0 then k + n else k) ((n:Int) - 1))) (by decide:(1:Int) > 0)) (clamp_eq n k)
theorem clC_lo (n:Nat) (v:Option Int):clC n v (if (1:Int) > 0 then 0 else (n:Int) - 1)=((clipN n 0 v:Nat):Int):=(congrArg (clC n v) (if_pos (by decide))).trans (clC_eq n 0 v)
theorem clC_hi (n:Nat) (v:Option Int):clC n v (if (1:Int) > 0 then (n:Int) else -1)=((clipN n n v:Nat):Int):=(congrArg (clC n v) (if_pos (by decide))).trans (clC_eq n n v)
theorem bounds_eq (lo hi:Option Int) (n:Nat):sliceBounds lo hi none n=((clipN n 0 lo:Int),(clipN n n hi:Int),1) :=
 congr (congrArg Prod.mk (clC_lo n lo)) (congrArg (fun x=>(x,(1:Int))) (clC_hi n hi))
theorem strIdx_eq (lo hi:Option Int) (n:Nat):strSliceIndices lo hi 1 n=(List.range (clipN n n hi - clipN n 0 lo)).map fun k=>clipN n 0 lo + k :=
 (congr (congrArg (fun x y=>sliceRange x y 1) (clC_lo n lo)) (clC_hi n hi)).trans (sliceRange_one _ _)
section
variable {α:Type} {l r:List α} {lo hi:V}
theorem cut_inv (e:cut l lo hi=some r):(∃ a,bound l.length 0 lo=some a)∧(∃ b,bound l.length l.length hi=some b)∧r=(l.take (clipN l.length l.length (optOf hi))).drop (clipN l.length 0 (optOf lo)):=by
 unfold cut at e
 cases h1:bound l.length 0 lo with
 | none=>rw [h1] at e; exact (noS e).elim
 | some a =>
  cases h2:bound l.length l.length hi with
  | none=>rw [h1,h2] at e; exact (noS e).elim
  | some b =>
   rw [h1,h2] at e
   rw [bound_clip h1,bound_clip h2]
   exact ⟨⟨a,rfl⟩,⟨b,rfl⟩,(Option.some.inj e).symm⟩
theorem cut_mem (e:cut l lo hi=some r) {x:α} (h:x∈r):x∈l:=List.mem_of_mem_take (List.mem_of_mem_drop ((cut_inv e).2.2 ▸ h))
theorem clip_le {n:Nat} (v:Option Int):clipN n n v≤n:=by
 cases v with
 | none=>exact Nat.le_refl _
 | some k=>show clampI n k≤n; unfold clampI; split <;> omega +splitNatSub
theorem cut_len (e:cut l lo hi=some r):r.length≤l.length:=by
 rw [(cut_inv e).2.2,List.length_drop,List.length_take]
 exact Nat.le_trans (Nat.sub_le _ _) (Nat.min_le_right _ _)
theorem cut_whole (e:cut l lo hi=some r) (h:clipN l.length l.length (optOf hi) - clipN l.length 0 (optOf lo)=l.length):r=l:=by
 rw [(cut_inv e).2.2]
 have z:=clip_le (n:=l.length) (optOf hi)
 generalize clipN l.length l.length (optOf hi)=b at *
 generalize clipN l.length 0 (optOf lo)=a at *
 obtain rfl:b=l.length:=Nat.le_antisymm z (h ▸ Nat.sub_le _ _)
 rw [List.take_length]
 cases l with
 | nil=>exact List.drop_nil
 | cons x l =>
  obtain rfl:a=0:=by
   cases a with
   | zero=>rfl
   | succ a=>exact absurd (Nat.le_trans (Nat.le_of_eq h.symm) (Nat.le_trans (Nat.le_of_eq (Nat.succ_sub_succ ..)) (Nat.sub_le ..))) (Nat.not_succ_le_self _)
  rfl
end
theorem cut_pick (items:Array Value) (lo hi:V):(slicePick items (optOf lo) (optOf hi) none).toList=(items.toList.take (clipN items.size items.size (optOf hi))).drop (clipN items.size 0 (optOf lo)):=by
 rw [kmk_pick_nat items (bounds_eq (optOf lo) (optOf hi) items.size),List.drop_take]
theorem picksA {α:Type} (l:List α) (a:Nat):∀ n,((List.range n).map (fun k=>a + k)).filterMap (l[·]?)=(l.drop a).take n
 | 0=>rfl
 | n + 1=>by
  rw [List.range_succ,List.map_append,List.filterMap_append,picksA l a n,List.take_add_one,List.getElem?_drop]
  exact congrArg _ (by show List.filterMap (l[·]?) [a + n]=_; rw [List.filterMap_cons]; cases l[a + n]? <;> rfl)
theorem strCut (x:Str) (lo hi:V) {s:Txt} (h:cut x.cps.toList lo hi=some s):((strSliceIndices (optOf lo) (optOf hi) 1 x.length).filterMap (x.cps[·]?))=s:=by
 have e:(fun (i:Nat)=>x.cps[i]?)=fun (i:Nat)=>x.cps.toList[i]?:=funext fun i=>Array.getElem?_toList.symm
 rw [strIdx_eq,e,picksA,(cut_inv h).2.2,List.drop_take]; rfl
section
variable {prog:Program} {w:World} {A:Around} {E:Value→Shared→Prop} {s:Shared} {c:Cx} {σ:List Addr} {H:Hp} {Q:Value→Shared→Prop}
theorem sub_int {slice:Expr} {o:Value} {i:Int} {t:Tok} (hs:(match slice with | .Slice ..=>false | _=>true)=true):subscripted slice false o (.int i t)=operate [o,.int i t] (getItem o (.int i t)):=by
 cases slice <;> first | rfl | cases hs
theorem idx_inv {a b r:V} (e:idxV H a b=some r):∃ i,b=.int i∧((∃ s,a=.str s∧0≤i∧(s[i.toNat]?).map (fun c=>V.str [c])=some r)∨(∃ l,a=.tup l∧0≤i∧l[i.toNat]?=some r)∨∃ l,lstOf H a=some l∧getAt l i=some r):=by
 cases b with
 | int i =>
  refine ⟨i,rfl,?_⟩
  cases a with
  | str s=>exact .inl ⟨s,rfl,mi_p e⟩
  | tup l=>exact .inr (.inl ⟨l,rfl,mi_p e⟩)
  | lst l=>exact .inr (.inr ⟨l,rfl,e⟩)
  | ref j=>exact .inr (.inr (Option.bind_eq_some_iff.mp e))
  | _=>exact (noS e).elim
 | _=>cases a <;> exact (noS e).elim
theorem get_inv {l:List V} {k:Int} {r:V} (h:getAt l k=some r):(0≤k∧l[k.toNat]?=some r)∨(k < 0∧-(l.length:Int)≤k∧l[(k + l.length).toNat]?=some r):=by
 by_cases h0:0≤k
 ·exact .inl ⟨h0,(if_pos h0).symm.trans h⟩
 ·obtain ⟨h1,h⟩:=mi_p ((if_neg h0).symm.trans h)
  exact .inr ⟨Int.not_le.mp h0,by omega +splitNatSub,h⟩
theorem idx_lt {α:Type} {l:List α} {k:Int} {r:α} (h0:0≤k) (h:l[k.toNat]?=some r) (hl:l.length≤capL):k < (l.length:Int)∧k < 2 ^ 63:=by
 have h1:=(List.getElem?_eq_some_iff.mp h).1
 have h2:=(Int.toNat_lt h0).mp h1
 exact ⟨h2,Int.lt_of_lt_of_le h2 (Int.le_trans (Int.ofNat_le.mpr hl) (by decide))⟩
theorem arr_get {arr:Array Value} {i:Nat} {x:Value} (h:arr.toList[i]?=some x):arr[i]?=some x:=Array.getElem?_toList.symm.trans h
theorem sndIdx {value slice:Expr} {va vb:Value} {a b r:V} (hs:(match slice with | .Slice ..=>false | _=>true)=true) (X:c.Ok s.heap σ H) (hx:VR s.heap (Live σ H) σ va a) (hy:VR s.heap (Live σ H) σ vb b)
  (e:idxV H a b=some r) (k:Cont c s σ H Q E (.ok r H)):wpAny (model prog w) A (subscriptTail value slice va vb) Q E s:=by
 obtain ⟨i,rfl,q⟩:=idx_inv e
 obtain ⟨u,rfl⟩:=hy.int_inv
 rcases q with ⟨z,rfl,h0,e⟩ | ⟨l,rfl,h0,e⟩ | ⟨l,hl,hg⟩
 ·obtain ⟨ch,hc,rfl⟩:=Option.map_eq_some_iff.mp e
  obtain ⟨x,t,rfl,rfl,a1,a2⟩:=hx.str_inv
  have hlt:=idx_lt h0 hc a1
  refine tail_any (typeIs_str s x t) PyProof.Rows.slot_str_getitem.lookup (PyProof.Rows.getItem_str (Bool.or_eq_false_iff.mpr ⟨decide_eq_false (by omega +splitNatSub),decide_eq_false (by omega +splitNatSub)⟩) (StrLaws.at_nonneg h0 (Array.getElem?_toList.symm.trans hc)) ?_) (sub_int hs)
  exact k.val X (VR.str' rfl (by show 1≤1048576; omega +splitNatSub) fun z hz=>by
   rw [List.mem_singleton.mp hz]
   exact a2 _ (List.mem_of_getElem? hc)) _
 ·obtain ⟨t1,arr1,k1,rfl,e1,n1,c1,r1⟩:=hx.tup_inv
  have z:=r1.length
  obtain ⟨x,hx',rx⟩:=r1.get _ _ e
  have hlt:=idx_lt h0 hx' (by rw [Array.length_toList]; exact c1)
  rw [Array.length_toList] at hlt
  have hT:IsTup s.heap t1 arr1:=⟨_,e1,rfl,_,rfl⟩
  exact tail_any hT.typeIs PyProof.Rows.slot_tuple_getitem.lookup (PyProof.Rows.getItem_tuple hT (by omega +splitNatSub) hlt.2 (StrLaws.seqIndex_nonneg h0 hlt.1) (arr_get hx') (k.here X rx)) (sub_int hs)
 ·obtain ⟨t1,arr1,k1,rfl,e1,c1,r1⟩:=lst_read X hx hl
  have z:=r1.length.symm.trans Array.length_toList
  have hI:s.heap.IsList t1 arr1:=⟨_,e1,rfl,_,rfl⟩
  rcases get_inv hg with ⟨h0,hv⟩ | ⟨h0,h1,hv⟩
  ·obtain ⟨x,hx',rx⟩:=r1.get _ _ hv
   exact tail_any hI.typeIs list_getitem_lookup (wpAny_getItem_list hI h0 (idx_lt h0 hv (z ▸ c1)).2 (arr_get hx') (k.here X rx)) (sub_int hs)
  ·obtain ⟨x,hx',rx⟩:=r1.get _ _ hv
   rw [z] at h1 hx'
   have hc:arr1.size≤1048576:=c1
   exact tail_any hI.typeIs list_getitem_lookup (wpAny_getItem_list_neg hI h0 h1 (by omega +splitNatSub) (arr_get hx') (k.here X rx)) (sub_int hs)
noncomputable def SliceO (vl vu:Value):Obj:={ cls:=.type "slice",data:=.fields #[vl,vu,.none] }
theorem bound_part {h:Heap} {F:Addr→Prop} {n d m:Nat} {v:Value} {x:V} (q:VR h F σ v x) (e:bound n d x=some m):∃ p:Option (Int × Tok),v=partValue p∧optOf x=p.map (·.1)∧IsPart v (optOf x):=by
 cases x with
 | none=>obtain rfl:=q.none_inv; exact ⟨none,rfl,rfl,.none⟩
 | int i=>obtain ⟨t,rfl⟩:=q.int_inv; exact ⟨some (i,t),rfl,rfl,.int i t⟩
 | _=>exact (noS e).elim
theorem sl_inv {a lo hi r:V} (e:slV a lo hi=some r):(∃ l z,a=.str l∧cut l lo hi=some z∧r=.str z)∨(∃ l z,a=.lst l∧cut l lo hi=some z∧r=.lst z)∨∃ l i,a=.tup l∧lo=.int i∧hi=.none∧(1≤i∧i.toNat≤l.length)∧r=.tup (l.drop i.toNat):=by
 cases a with
 | str l=>obtain ⟨z,hz,hr⟩:=Option.map_eq_some_iff.mp e; exact .inl ⟨l,z,rfl,hz,hr.symm⟩
 | lst l=>obtain ⟨z,hz,hr⟩:=Option.map_eq_some_iff.mp e; exact .inr (.inl ⟨l,z,rfl,hz,hr.symm⟩)
 | tup l =>
  cases lo with
  | int i =>
   cases hi with
   | none =>
    obtain ⟨h1,e⟩:=mi_p e
    exact .inr (.inr ⟨l,i,rfl,rfl,rfl,h1,(Option.some.inj e).symm⟩)
   | _=>exact (noS e).elim
  | _=>exact (noS e).elim
 | _=>exact (noS e).elim
section
variable {pos:Pos} {value:Expr} {le ue:Option Expr} {va vl vu:Value} {lo hi r:V} {S:Addr} {h0:Heap} {F0:Addr→Prop} {σ0:List Addr}
theorem sl_str {l z:Txt} (X:c.Ok s.heap σ H) (hx:VR s.heap (Live σ H) σ va (.str l)) (hl:VR h0 F0 σ0 vl lo) (hu:VR h0 F0 σ0 vu hi) (hS:s.heap.IsSliceOf S vl vu .none) (hz:cut l lo hi=some z) (k:Cont c s σ H Q E (.ok (.str z) H)) :
  wpAny (model prog w) A (subscriptTail value (.Slice le ue none pos) va (.ref S)) Q E s:=by
 obtain ⟨x,t,rfl,rfl,a1,a2⟩:=hx.str_inv
 obtain ⟨⟨m1,b1⟩,⟨m2,b2⟩,f1⟩:=cut_inv hz
 obtain ⟨p,rfl,o1,_⟩:=bound_part hl b1
 obtain ⟨q,rfl,o2,_⟩:=bound_part hu b2
 refine tail_any (typeIs_str s x t) PyProof.Rows.slot_str_getitem.lookup (wpAny_getItem_str_slice (l:=p) (u:=q) (st:=none) hS rfl ?_) rfl
 have idx:slicePicked x p q none=strSliceIndices (optOf lo) (optOf hi) 1 x.length:=by rw [o1,o2]; rfl
 have key:=strCut x lo hi hz
 have zl:=cut_len hz
 unfold sliceMade
 rw [idx,key]
 by_cases hc:(((none:Option (Int × Tok)).map (·.1)).getD 1==1&&(strSliceIndices (optOf lo) (optOf hi) 1 x.length).length==x.length)=true
 ·rw [if_pos hc]
  have hc:=beq_iff_eq.mp (Bool.and_eq_true_iff.mp hc).2
  rw [strIdx_eq,List.length_map,List.length_range] at hc
  rw [cut_whole hz hc] at k
  exact k.here X (.str x t (by rw [Array.length_toList] at a1; exact a1) a2)
 ·rw [if_neg hc]
  exact ⟨Nat.le_trans zl (Nat.le_trans a1 sizeLine_cap),k.val X (VR.str' rfl (Nat.le_trans zl a1) fun c hc=>a2 c (cut_mem hz hc)) _⟩
theorem sl_lst {l z:List V} (X:c.Ok s.heap σ H) (hx:VR s.heap (Live σ H) σ va (.lst l)) (hl:VR h0 F0 σ0 vl lo) (hu:VR h0 F0 σ0 vu hi) (hS:s.heap.IsSliceOf S vl vu .none) (hz:cut l lo hi=some z) (k:Cont c s σ H Q E (.ok (.lst z) H)) :
  wpAny (model prog w) A (subscriptTail value (.Slice le ue none pos) va (.ref S)) Q E s:=by
 obtain ⟨t1,arr1,k1,rfl,e1,n1,c1,r1⟩:=hx.lst_inv
 have hI:s.heap.IsList t1 arr1:=⟨_,e1,rfl,_,rfl⟩
 obtain ⟨⟨m1,b1⟩,⟨m2,b2⟩,f1⟩:=cut_inv hz
 obtain ⟨_,_,_,p1⟩:=bound_part hl b1
 obtain ⟨_,_,_,p2⟩:=bound_part hu b2
 refine tail_any hI.typeIs list_getitem_lookup (wpAny_getItem_list_slice hI hS p1 p2 .none (fun q=>nomatch q) ?_ (Nat.le_trans c1 sizeLine_cap)) rfl
 refine k.push X (.lst (n:=0) (Heap.get?_push_size _ rfl) (not_live_new X) (Nat.le_trans (slicePick_size_le ..) c1) ?_)
 have z:=Array.length_toList.symm.trans r1.length
 rw [cut_pick,f1,z]
 exact ((r1.take _).drop _).grow (base:=c.base) (grow_keeps X.stays fun _ _ e=>Heap.get?_push_of_some _ e)
theorem sl_tup {l:List V} {i:Int} (X:c.Ok s.heap σ H) (hx:VR s.heap (Live σ H) σ va (.tup l)) (hl:VR h0 F0 σ0 vl (.int i)) (hu:VR h0 F0 σ0 vu .none) (hS:s.heap.IsSliceOf S vl vu .none) (h1:1≤i∧i.toNat≤l.length) (k:Cont c s σ H Q E (.ok (.tup (l.drop i.toNat)) H)) :
  wpAny (model prog w) A (subscriptTail value (.Slice le ue none pos) va (.ref S)) Q E s:=by
 obtain ⟨t1,arr1,k1,rfl,e1,n1,c1,r1⟩:=hx.tup_inv
 obtain ⟨t,rfl⟩:=hl.int_inv
 obtain rfl:=hu.none_inv
 have z:=Array.length_toList.symm.trans r1.length
 have hT:IsTup s.heap t1 arr1:=⟨_,e1,rfl,_,rfl⟩
 obtain ⟨n,rfl⟩:∃ n:Nat,i=(n:Int):=⟨i.toNat,by omega +splitNatSub⟩
 refine tail_any hT.typeIs PyProof.Rows.slot_tuple_getitem.lookup (getItem_tuple_from (a:=n) hT hS (by omega +splitNatSub) (by rw [z]; exact h1.2) ?_ (Nat.le_trans c1 sizeLine_cap)) rfl
 refine k.push X (.tup (n:=0) (Heap.get?_push_size _ rfl) (not_live_new X) ?_ ((r1.drop n).grow (base:=c.base) (grow_keeps X.stays fun _ _ e=>Heap.get?_push_of_some _ e)))
 rw [List.size_toArray,List.length_drop,Array.length_toList]
 exact Nat.le_trans (Nat.sub_le _ _) c1
end
theorem sndSl {value:Expr} {le ue:Option Expr} {pos:Pos} {va vl vu:Value} {a lo hi r:V} (X₀:c.Ok s.heap σ H) (hx₀:VR s.heap (Live σ H) σ va a) (hl:VR s.heap (Live σ H) σ vl lo) (hu:VR s.heap (Live σ H) σ vu hi)
  (e:slV a lo hi=some r) (k₀:Cont c s σ H Q E (.ok r H)) :
  wpAny (model prog w) A (subscriptTail value (.Slice le ue none pos) va (.ref s.heap.objs.size)) Q E { s with heap:=s.heap.push (SliceO vl vu) }:=by
 have g:Grow c.base s.heap (s.heap.push (SliceO vl vu)):=grow_keeps X₀.stays fun _ _ e=>Heap.get?_push_of_some _ e
 have X:=X₀.grow g
 have hx:=hx₀.grow g
 have k:=k₀.adv (tk:=s.toks) (g.adv σ H)
 have hS:(s.heap.push (SliceO vl vu)).IsSliceOf s.heap.objs.size vl vu .none:=Heap.IsSliceOf.new ..
 rcases sl_inv e with ⟨l,z,rfl,hz,rfl⟩ | ⟨l,z,rfl,hz,rfl⟩ | ⟨l,i,rfl,rfl,rfl,h1,rfl⟩
 ·exact sl_str (s:={ s with heap:=s.heap.push (SliceO vl vu) }) X hx hl hu hS hz k
 ·exact sl_lst (s:={ s with heap:=s.heap.push (SliceO vl vu) }) X hx hl hu hS hz k
 ·exact sl_tup (s:={ s with heap:=s.heap.push (SliceO vl vu) }) X hx hl hu hS h1 k
end
end Mine
end
section
open PySem PySem.W PyProof.Rows PySem.Calls PySem.Builtin.Str
namespace Mine
theorem live_set {σ:List Addr} {H:Hp} {i:Nat} {l l':List V} (hi:H[i]?=some (some l)) (a:Addr):Live σ (H.set i (some l')) a↔Live σ H a:=by
 constructor
 ·rintro ⟨j,k,h1,h2⟩
  by_cases hj:j=i
  ·subst hj; exact ⟨j,l,h1,hi⟩
  ·rw [List.getElem?_set_ne (fun q=>hj q.symm)] at h2; exact ⟨j,k,h1,h2⟩
 ·rintro ⟨j,k,h1,h2⟩
  by_cases hj:j=i
  ·subst hj
   refine ⟨j,l',h1,?_⟩
   rw [List.getElem?_set_self (List.getElem?_eq_some_iff.mp hi).1]
  ·exact ⟨j,k,h1,by rw [List.getElem?_set_ne (fun q=>hj q.symm)]; exact h2⟩
theorem live_seal {σ:List Addr} {H:Hp} {i:Nat} {a:Addr} (z:Live σ (H.set i none) a):Live σ H a∧σ[i]?≠some a∨(Live σ H a∧∃ j,j≠i∧σ[j]?=some a):=by
 obtain ⟨j,k,h1,h2⟩:=z
 by_cases hj:j=i
 ·subst hj
  by_cases hl:j < H.length
  ·rw [List.getElem?_set_self hl] at h2; cases h2
  ·rw [List.getElem?_eq_none (by simp; omega)] at h2; cases h2
 ·rw [List.getElem?_set_ne (fun q=>hj q.symm)] at h2
  exact .inr ⟨⟨j,k,h1,h2⟩,j,hj,h1⟩
theorem nodup_get {σ:List Addr} (hn:σ.Nodup) {i j:Nat} {a:Addr} (h1:σ[i]?=some a) (h2:σ[j]?=some a):i=j:=by
 obtain ⟨hi,e1⟩:=List.getElem?_eq_some_iff.mp h1
 obtain ⟨hj,e2⟩:=List.getElem?_eq_some_iff.mp h2
 exact (List.getElem_inj hn).mp (e1.trans e2.symm)
section
variable {c:Cx} {σ:List Addr} {H:Hp}
theorem turn_list {h h':Heap} (X:c.Ok h σ H) {i:Nat} {l l':List V} {a:Addr} {arr':Array Value} {n':Nat} (hi:H[i]?=some (some l)) (ha:σ[i]?=some a)
  (hs:Heap.SameBut a h h') (he:h'.get? a=some (LstO arr' n')) (hz:arr'.size≤capL) (r:VRs h (Live σ H) (takeO (c.lim i) σ) arr'.toList l') :
  c.Ok h' σ (H.set i (some l'))∧Adv No h σ H h' σ (H.set i (some l')):=by
 have hlive:Live σ H a:=⟨i,l,ha,hi⟩
 have hF:∀ b,Live σ (H.set i (some l')) b↔Live σ H b:=live_set hi
 have keep:∀ b o,b≠a→h.get? b=some o→h'.get? b=some o:=fun b o hb e=>hs.extBut b o hb e
 have kv:∀ {v x} {τ:List Addr},VRs h (Live σ H) τ v x→VRs h' (Live σ (H.set i (some l'))) τ v x:=fun q =>
  VRs.mono (fun b o hb e _=>keep b o (fun z=>hb (z ▸ hlive)) e) (fun b q _=>(hF b).mp q) (fun _ _ e=>e) q
 have hns:∀ b o,h.get? b=some o→¬ IsSeq o→b≠a:=fun b o e hs z=>by
  obtain ⟨arr,n,q⟩:=X.live_seq hlive
  rw [z,q] at e; cases e; exact hs ⟨_,_,rfl⟩
 refine ⟨{ stays:=fun b o e=>keep b o (fun z=>?_) (X.stays b o e),frames:=?_,frd:=fun env he' L hL=>?_,len:=by rw [List.length_set]; exact X.len,nodup:=X.nodup,apart:=X.apart,dom:=fun b hb=>?_,objs:=fun j k e=>?_,loc:=X.loc,blen:=X.blen,hi:=X.hi,hs:=X.hs },
  ⟨fun b o hb e=>.inl (keep b o (fun z=>hb (.inl (z ▸ hlive))) e),fun _ _ e=>e,fun b q _=>(hF b).mp q,fun b o e=>?_⟩⟩
 ·have:=X.apart a (List.mem_of_getElem? ha)
  rw [z,this] at e; cases e
 ·refine frames_keep (fun b o e hnf=>?_) X.frames
  by_cases hb:b=a
  ·subst hb; exact ⟨_,he,fun vs q=>by cases q⟩
  ·exact ⟨o,keep b o hb e,hnf⟩
 ·obtain ⟨m,hm⟩:=X.frd env he' L hL
  obtain ⟨o,es,ep,ho,hd,q⟩:=hm
  exact ⟨m,o,es,ep,keep L o (hns L o ho fun ⟨arr,n,z⟩=>by rw [hd] at z; cases z) ho,hd,q⟩
 ·by_cases hb':b=a
  ·subst hb'; exact ⟨_,_,he⟩
  ·obtain ⟨arr,n,e⟩:=X.dom b hb
   exact ⟨arr,n,keep b _ hb' e⟩
 ·by_cases hj:j=i
  ·subst hj
   rw [List.getElem?_set_self (List.getElem?_eq_some_iff.mp hi).1] at e
   cases e
   exact ⟨a,arr',n',ha,he,hz,kv r⟩
  ·rw [List.getElem?_set_ne (fun q=>hj q.symm)] at e
   obtain ⟨b,arr,n,h1,h2,h3,h4⟩:=X.objs j k e
   refine ⟨b,arr,n,h1,keep b _ (fun z=>hj ?_) h2,h3,kv h4⟩
   exact nodup_get X.nodup (z ▸ h1) ha
 ·by_cases hb:b=a
  ·subst hb; exact ⟨_,he⟩
  ·exact ⟨o,keep b o hb e⟩
theorem seal_list {h:Heap} (X:c.Ok h σ H) {i:Nat} {l:List V} {a:Addr} (hi:H[i]?=some (some l)) (ha:σ[i]?=some a) :
  c.Ok h σ (H.set i none)∧Adv No h σ H h σ (H.set i none)∧(V.pures l=true→VR h (Live σ (H.set i none)) σ (.ref a) (.lst l)):=by
 have hF:∀ b,Live σ (H.set i none) b→Live σ H b:=fun b z=>(live_seal z).elim (·.1) (·.1)
 have kv:∀ {v x} {τ:List Addr},VRs h (Live σ H) τ v x→VRs h (Live σ (H.set i none)) τ v x:=fun q =>
  VRs.mono (fun b o _ e _=>e) (fun b q _=>hF b q) (fun _ _ e=>e) q
 refine ⟨{ X with len:=by rw [List.length_set]; exact X.len,objs:=fun j k e=>?_ },⟨fun b o _ e=>.inl e,fun _ _ e=>e,fun b q _=>hF b q,fun b o e=>⟨o,e⟩⟩,fun p=>?_⟩
 ·by_cases hj:j=i
  ·subst hj
   rw [List.getElem?_set_self (List.getElem?_eq_some_iff.mp hi).1] at e
   cases e
  ·rw [List.getElem?_set_ne (fun q=>hj q.symm)] at e
   obtain ⟨b,arr,n,h1,h2,h3,h4⟩:=X.objs j k e
   exact ⟨b,arr,n,h1,h2,h3,kv h4⟩
 ·obtain ⟨b,arr,n,h1,h2,h3,h4⟩:=X.objs i l hi
  rw [ha] at h1; cases h1
  refine .lst h2 (fun z=>?_) h3 ((kv h4).pure p)
  rcases live_seal z with ⟨_,q⟩ | ⟨_,j,hj,q⟩
  ·exact q ha
  ·exact hj (nodup_get X.nodup q ha)
theorem open_list {h:Heap} (X:c.Ok h σ H) {vs:List Value} {l:List V} (q:VRs h (Live σ H) σ vs l) (hz:l.length≤capL) :
  c.Ok (h.push (LstO vs.toArray 0)) (σ++[h.objs.size]) (H++[some l])∧Adv No h σ H (h.push (LstO vs.toArray 0)) (σ++[h.objs.size]) (H++[some l]):=by
 have hnew:h.get? h.objs.size=none:=by
  cases e:h.get? h.objs.size with
  | none=>rfl
  | some o=>exact absurd (Heap.lt_size e) (Nat.lt_irrefl _)
 have keep:∀ b o,h.get? b=some o→(h.push (LstO vs.toArray 0)).get? b=some o:=fun _ _ e=>Heap.get?_push_of_some _ e
 have here:(h.push (LstO vs.toArray 0)).get? h.objs.size=some (LstO vs.toArray 0):=Heap.get?_push_size _ rfl
 have hsz:∀ a∈σ,a≠h.objs.size:=fun a ha z=>by
  obtain ⟨arr,n,e⟩:=X.dom a ha
  rw [z,hnew] at e; cases e
 have hF:∀ b,Live (σ++[h.objs.size]) (H++[some l]) b→b=h.objs.size∨Live σ H b:=by
  rintro b ⟨j,k,h1,h2⟩
  by_cases hj:j < σ.length
  ·rw [List.getElem?_append_left hj] at h1
   rw [List.getElem?_append_left (by rw [X.len]; exact hj)] at h2
   exact .inr ⟨j,k,h1,h2⟩
  ·rw [List.getElem?_append_right (by omega)] at h1
   have:=List.mem_of_getElem? h1
   exact .inl (by simpa using this)
 have hpre:∀ (i:Nat) (a:Addr),σ[i]?=some a→(σ++[h.objs.size])[i]?=some a:=fun i a e=>by
  rw [List.getElem?_append_left (List.getElem?_eq_some_iff.mp e).1]; exact e
 have kv:∀ {v x} {τ τ':List Addr},(∀ (i:Nat) (a:Addr),τ[i]?=some a→τ'[i]?=some a)→VRs h (Live σ H) τ v x→VRs (h.push (LstO vs.toArray 0)) (Live (σ++[h.objs.size]) (H++[some l])) τ' v x:=fun hp q =>
  VRs.mono (fun b o _ e _=>keep b o e) (fun b q ho=>(hF b q).elim (fun z=>by obtain ⟨o,e⟩:=ho; rw [z,hnew] at e; cases e) id) hp q
 have hz':vs.length≤capL:=by rw [q.length]; exact hz
 refine ⟨{ stays:=fun b o e=>keep b o (X.stays b o e),frames:=frames_keep (fun b o e hnf=>⟨o,keep b o e,hnf⟩) X.frames,frd:=fun env he L hL=>(X.frd env he L hL).imp fun m hm=>hm.keeps keep,len:=by rw [List.length_append,List.length_append,X.len]; rfl,nodup:=?_,apart:=fun a ha=>?_,dom:=fun a ha=>?_,objs:=fun j k e=>?_,loc:=X.loc,blen:=by rw [List.length_append]; exact Nat.le_trans X.blen (Nat.le_add_right _ _),hi:=X.hi,hs:=X.hs },
  ⟨fun b o _ e=>.inl (keep b o e),hpre,fun b z ho=>(hF b z).elim (fun z=>by obtain ⟨o,e⟩:=ho; rw [z,hnew] at e; cases e) id,fun b o e=>⟨o,keep b o e⟩⟩⟩
 ·rw [List.nodup_append]
  refine ⟨X.nodup,by simp,fun a ha b hb=>?_⟩
  rw [List.mem_singleton.mp hb]; exact hsz a ha
 ·rcases List.mem_append.mp ha with ha | ha
  ·exact X.apart a ha
  ·rw [List.mem_singleton.mp ha]
   cases e:c.base.get? h.objs.size with
   | none=>rfl
   | some o=>have:=X.stays _ o e; rw [hnew] at this; cases this
 ·rcases List.mem_append.mp ha with ha | ha
  ·obtain ⟨arr,n,e⟩:=X.dom a ha
   exact ⟨arr,n,keep a _ e⟩
  ·rw [List.mem_singleton.mp ha]; exact ⟨_,_,here⟩
 ·by_cases hj:j < H.length
  ·rw [List.getElem?_append_left hj] at e
   obtain ⟨a,arr,n,h1,h2,h3,h4⟩:=X.objs j k e
   refine ⟨a,arr,n,hpre j a h1,keep a _ h2,h3,kv (fun i a e=>takeO_up hpre e) h4⟩
  ·rw [List.getElem?_append_right (by omega)] at e
   have hj':j - H.length=0:=by
    have:=(List.getElem?_eq_some_iff.mp e).1
    simp at this; omega
   rw [hj'] at e
   simp only [List.getElem?_cons_zero,Option.some.injEq] at e
   have hj2:j=H.length:=by omega
   subst hj2
   subst e
   refine ⟨h.objs.size,vs.toArray,0,?_,here,by simpa using hz',?_⟩
   ·rw [X.len,List.getElem?_append_right (Nat.le_refl _)]; simp
   ·have hl:c.lim H.length=none:=X.loc _ (by rw [X.len]; exact X.blen)
    rw [hl]
    exact kv hpre q
end
end Mine
end
section
set_option genSizeOf false
set_option genInjectivity false
open PySem PySem.W PyProof.Rows PySem.Calls PySem.Builtin.Str
namespace Mine
noncomputable def sOf (t:Txt):Str:=⟨t.toArray⟩
theorem tx_sOf (t:Txt):tx (sOf t)=t:=by simp [tx,sOf]
theorem sOf_tx (x:Str):sOf (tx x)=x:=tx_inj (tx_sOf _)
structure EnvOk (env:Env):Prop where
 kind:env.scope.kind=.function
 glob:env.globals=mainGlobals
 blt:env.builtins=builtinsNs
 cells:∀ x,env.kindOf x=some .cell∨env.kindOf x=some .free→∃ a,env.cells.lookup x=some a
structure Gd (base:Heap) where
 mg:Str→Option Value
 mb:Str→Option Value
 g:base.Ns mainGlobals mg
 b:base.Ns builtinsNs mb
 nolimit:base.NoLimit
 hlen:mg (sOf [108,101,110])=none∧mb (sOf [108,101,110])=some (.builtin "len")
 hstr:mg (sOf [115,116,114])=none∧mb (sOf [115,116,114])=some (.type "str")
 hint:mg (sOf [105,110,116])=none∧mb (sOf [105,110,116])=some (.type "int")
 hrange:mg (sOf [114,97,110,103,101])=none∧mb (sOf [114,97,110,103,101])=some (.type "range")
 hzip:mg (sOf [122,105,112])=none∧mb (sOf [122,105,112])=some (.type "zip")
 hints:∀ x i,gints.contains (x,i)=true→∃ t,mg (sOf x)=some (.int i t)
 hstrs:∀ x s,gstrs.contains (x,s)=true→∃ t,mg (sOf x)=some (.str (sOf s) t)
theorem glob_id {kd:Str→Option NameKind} {id:Str} {t:Txt} (h:isGlob kd id t=true):id=sOf t∧kd id=some .globalImplicit∧(id==("__debug__" : Str))=false:=by
 simp only [isGlob,Bool.and_eq_true,beq_iff_eq,bne_iff_ne,ne_eq] at h
 refine ⟨?_,h.1.2,by simpa using h.2⟩
 rw [← h.1.1,sOf_tx]
section
variable {prog:Program} {w:World} {A:Around} {E:Value→Shared→Prop} {s:Shared} {c:Cx} {σ:List Addr} {H:Hp} {Q:Value→Shared→Prop} {env:Env}
theorem name_mg (G:Gd c.base) (eo:EnvOk env) {id:Str} {t:Txt} {pos:Pos} {v:Value} (h:isGlob env.kindOf id t=true) (X:c.Ok s.heap σ H) (hv:G.mg (sOf t)=some v) (k:Q v s) :
  wpAny (model prog w) A (eval (.Name id pos) env) Q E s:=by
 obtain ⟨rfl,hk,hd⟩:=glob_id h
 refine Name_function_global eo.kind hk (loadGlobal_global (mg:=G.mg) ?_ hv k) hd
 rw [eo.glob]; exact G.g.keeps X.stays
theorem name_mb (G:Gd c.base) (eo:EnvOk env) {id:Str} {t:Txt} {pos:Pos} {v:Value} (h:isGlob env.kindOf id t=true) (X:c.Ok s.heap σ H) (hm:G.mg (sOf t)=none) (hv:G.mb (sOf t)=some v) (k:Q v s) :
  wpAny (model prog w) A (eval (.Name id pos) env) Q E s:=by
 obtain ⟨rfl,hk,hd⟩:=glob_id h
 refine Name_function_global eo.kind hk (loadGlobal_builtin (mg:=G.mg) (mb:=G.mb) ?_ hm ?_ hv k) hd
 ·rw [eo.glob]; exact G.g.keeps X.stays
 ·rw [eo.blt]; exact G.b.keeps X.stays
theorem notStar_each {e:Expr} {rest:List Expr} (h:notStar e=true):starEach (e :: rest) env=(false,eval e env) :: starEach rest env:=by
 cases e <;> first | rfl | cases h
theorem attrBase {o:Expr} {name:Str} {whole:Sem Value} {ap pos:Pos} (h:methOk o ap pos=true):attributeBase o name env whole=whole:=by
 cases o <;> first | rfl | exact Bool.noConfusion h
theorem MethodC {o:Expr} {name:Str} {ap pos:Pos} {args:List Expr} (hm:methOk o ap pos=true) (hf:methodCallForm args.length (backTo pos (starEach args env)) []=true)
  (h:∀ pl,wpAny (model prog w) A (eval o env) (fun ov s₁=>wpAny (model prog w) A (getMethod ov name pl) (fun fx s₂=>wpAny (model prog w) A (callWith pos fx.1 fx.2 (backTo pos (starEach args env)) []) Q E s₂) E s₁) E s) :
  wpAny (model prog w) A (eval (.Call (.Attribute o name ap) args [] pos) env) Q E s:=by
 show wpAny _ _ (do
  let ov ← attributeBase o name env (eval o env)
  standAt ap.atName
  methodCall o name ap pos env ov (args.length + 0) (backTo pos (starEach args env)) []) Q E s
 rw [attrBase hm]
 refine wpAny_bind (wpAny_mono (h (do return (← importBound o env).getD true)) (fun ov s₁ h₁=>wpAny_bind (wpAny_standAt ?_)) fun _ _ x=>x)
 unfold methodCall
 rw [show args.length + 0=args.length from rfl,hf]
 refine wpAny_bind (wpAny_holding (wpAny_mono (?_:wpAny _ _ (calleeOf true o env ov name) (fun fx s₂=>wpAny (model prog w) A (callWith pos fx.1 fx.2 (backTo pos (starEach args env)) []) Q E s₂) E s₁) (fun fx s₂ h₂=>?_) fun _ _ x=>x))
 ·exact h₁
 ·have hp:methodCallPos true o env ap pos=pure pos:=by
   have:(ap.endLine==pos.line)=true:=by
    exact (Bool.and_eq_true_iff.mp hm).2
   unfold methodCallPos
   rw [this]; rfl
  obtain ⟨f,first⟩:=fx
  show wpAny _ _ (do let callPos ← methodCallPos true o env ap pos; callWith callPos f first (backTo pos (starEach args env)) []) Q E s₂
  rw [hp]
  exact wpAny_bind (wpAny_pure h₂)
theorem form0 {pos:Pos}:methodCallForm ([]:List Expr).length (backTo pos (starEach [] env)) []=true:=rfl
theorem form1 {pos:Pos} {a:Expr} (h:notStar a=true):methodCallForm [a].length (backTo pos (starEach [a] env)) []=true:=by rw [notStar_each h]; rfl
end
end Mine
end
section
open PySem PySem.W PyProof.Rows PySem.Calls PySem.Builtin.Str
namespace Mine
theorem sOf_cps (t:Txt):(sOf t).cps.toList=t:=by simp [sOf]
theorem str_eq_of {x y:Str} (h:x.cps.toList=y.cps.toList):x=y:=tx_inj h
theorem joinT_eq (j:Str):∀ ws:List Str,(Str.join j ws).cps.toList=joinT j.cps.toList (ws.map fun w=>w.cps.toList)
 | []=>rfl
 | [x]=>rfl
 | x :: y :: r=>by
  show (x++j++Str.join j (y :: r)).cps.toList=x.cps.toList++j.cps.toList++joinT j.cps.toList ((y :: r).map fun w=>w.cps.toList)
  rw [← joinT_eq j (y :: r),Str.cps_append,Array.toList_append,Str.cps_append,Array.toList_append]
theorem split1_hit (a:Nat) (t:Txt):split1 a (a :: t)=[] :: split1 a t:=if_pos rfl
theorem split1_miss {a c:Nat} {t w:Txt} {ws:List Txt} (h:c≠a) (e:split1 a t=w :: ws):split1 a (c :: t)=(c :: w) :: ws :=
 (if_neg h).trans (congrArg (fun l:List Txt=>match l with | []=>[[c]] | w :: ws=>(c :: w) :: ws) e)
theorem split1_ind (a:Nat) {P:Txt→List Txt→Prop} (h0:P [] [[]]) (h1:∀ t l,P t l→P (a :: t) ([] :: l)) (h2:∀ c t w ws,c≠a→P t (w :: ws)→P (c :: t) ((c :: w) :: ws)) (t:Txt):P t (split1 a t)∧split1 a t≠[]:=by
 induction t with
 | nil=>exact ⟨h0,List.cons_ne_nil _ _⟩
 | cons c t ih =>
  by_cases q:c=a
  ·subst q; rw [split1_hit]; exact ⟨h1 t _ ih.1,List.cons_ne_nil _ _⟩
  ·obtain ⟨w,ws,e⟩:=List.exists_cons_of_ne_nil ih.2
   rw [split1_miss q e]; exact ⟨h2 c t w ws q (e ▸ ih.1),List.cons_ne_nil _ _⟩
theorem split1_free (c:Nat):∀ w:Txt,c∉w→split1 c w=[w]
 | [],_=>rfl
 | _ :: t,h=>split1_miss (fun q=>h (q ▸ List.mem_cons_self)) (split1_free c t fun q=>h (List.mem_cons_of_mem _ q))
theorem split1_cat (c:Nat) (y:Txt):∀ w:Txt,c∉w→split1 c (w++c :: y)=w :: split1 c y
 | [],_=>split1_hit c y
 | _ :: t,h=>split1_miss (fun q=>h (q ▸ List.mem_cons_self)) (split1_cat c y t fun q=>h (List.mem_cons_of_mem _ q))
theorem split1_join (c:Nat):∀ ws:List Txt,ws≠[]→(∀ w∈ws,c∉w)→split1 c (joinT [c] ws)=ws
 | [],h,_=>absurd rfl h
 | [w],_,h=>split1_free c w (h w List.mem_cons_self)
 | w :: v :: r,_,h=>by
  have ih:=split1_join c (v :: r) (by simp) fun z hz=>h z (List.mem_cons_of_mem _ hz)
  show split1 c (w++[c]++joinT [c] (v :: r))=_
  rw [List.append_assoc,List.singleton_append,split1_cat c _ w (h w List.mem_cons_self),ih]
theorem split_ne (x y:Str):Txt.split x y≠[]:=by
 unfold Txt.split
 split
 ·simp
 ·split
  ·simp
  ·rw [StrLaws.partsBetween_eq]
   cases occurrences x y 0 x.length (x.length + 1) <;> exact List.cons_ne_nil _ _
theorem split_eq (x:Str) (c:Nat):(Txt.split x ⟨#[c]⟩).map (fun w=>w.cps.toList)=split1 c x.cps.toList:=by
 have h1:=StrLaws.join_split x ⟨#[c]⟩
 have h2:=StrLaws.split_free x c
 have h3:=joinT_eq ⟨#[c]⟩ (Txt.split x ⟨#[c]⟩)
 rw [h1] at h3
 rw [h3]
 refine (split1_join c _ (by simpa using split_ne x _) ?_).symm
 intro w hw
 obtain ⟨p,hp,rfl⟩:=List.mem_map.mp hw
 exact h2 p hp
theorem at_one (x:Str) (c i:Nat):StrLaws.At x ⟨#[c]⟩ x.length i↔x.cps.toList[i]?=some c:=StrLaws.subAt_one x c i
theorem findT_none (c:Nat) (t:Txt):∀ k:Nat,(∀ i:Nat,t[i]?≠some c)→findT c t k=-1:=by
 induction t with
 | nil=>exact fun _ _=>rfl
 | cons a t ih=>exact fun k h=>(if_neg fun q=>h 0 (congrArg some q)).trans (ih (k + 1) fun i q=>h (i + 1) q)
theorem findT_some (c:Nat) (t:Txt):∀ (k i:Nat),t[i]?=some c→(∀ j,j < i→t[j]?≠some c)→findT c t k=((k + i:Nat):Int):=by
 induction t with
 | nil=>exact fun _ _ h=>(noS h).elim
 | cons a t ih =>
  intro k i h hn
  cases i with
  | zero=>exact if_pos (Option.some.inj h)
  | succ i=>exact (if_neg fun q=>hn 0 (Nat.succ_pos _) (congrArg some q)).trans ((ih (k + 1) i h fun j hj q=>hn (j + 1) (Nat.succ_lt_succ hj) q).trans (congrArg (Nat.cast (R:=Int)) (Nat.add_right_comm k 1 i)))
theorem find_eq (x:Str) (c:Nat):Txt.find x ⟨#[c]⟩=findT c x.cps.toList 0:=by
 rcases find_whole x ⟨#[c]⟩ with ⟨h,hn⟩ | ⟨i,h,hi,hn⟩
 ·rw [h,findT_none]
  exact fun i q=>hn i ((at_one x c i).mpr q)
 ·rw [h,findT_some c _ 0 i ((at_one x c i).mp hi) fun j hj q=>hn j hj ((at_one x c j).mpr q),Nat.zero_add]
theorem joinT_mem {j:Txt} {P:Nat→Prop} (hj:∀ c∈j,P c):∀ ws:List Txt,(∀ w∈ws,∀ c∈w,P c)→∀ c∈joinT j ws,P c
 | [],_,c,h=>nomatch h
 | [w],hw,c,h=>hw w List.mem_cons_self c h
 | w :: v :: r,hw,c,h=>(List.mem_append.mp h).elim (fun h=>(List.mem_append.mp h).elim (hw w List.mem_cons_self c) (hj c)) (joinT_mem hj (v :: r) (fun z hz=>hw z (List.mem_cons_of_mem _ hz)) c)
theorem split1_mem (a:Nat) (t:Txt):∀ w∈split1 a t,(∀ c∈w,c∈t)∧w.length≤t.length :=
 (split1_ind a (P:=fun t l=>∀ w∈l,(∀ c∈w,c∈t)∧w.length≤t.length) (fun w h=>by rw [List.mem_singleton.mp h]; exact ⟨fun _ q=>(List.not_mem_nil q).elim,Nat.le_refl _⟩)
  (fun t l ih w h=>(List.mem_cons.mp h).elim (fun e=>by rw [e]; exact ⟨fun _ q=>(List.not_mem_nil q).elim,Nat.zero_le _⟩) fun h=>⟨fun c q=>List.mem_cons_of_mem _ ((ih w h).1 c q),Nat.le_succ_of_le (ih w h).2⟩)
  (fun c t w ws _ ih z h=>(List.mem_cons.mp h).elim (fun e=>e ▸ ⟨fun d q=>(List.mem_cons.mp q).elim (fun e=>e ▸ List.mem_cons_self) fun q=>List.mem_cons_of_mem _ ((ih w List.mem_cons_self).1 d q),Nat.succ_le_succ (ih w List.mem_cons_self).2⟩)
   fun h=>⟨fun d q=>List.mem_cons_of_mem _ ((ih z (List.mem_cons_of_mem _ h)).1 d q),Nat.le_succ_of_le (ih z (List.mem_cons_of_mem _ h)).2⟩) t).1
theorem split1_count (a:Nat) (t:Txt):(split1 a t).length≤t.length + 1 :=
 (split1_ind a (P:=fun t l=>l.length≤t.length + 1) (Nat.le_refl _) (fun _ _ h=>Nat.succ_le_succ h) (fun _ _ _ _ _ h=>Nat.le_succ_of_le h) t).1
section
variable {prog:Program} {w:World} {A:Around} {E:Value→Shared→Prop} {s:Shared} {c:Cx} {σ:List Addr} {H:Hp} {Q:Value→Shared→Prop} {env:Env}
theorem strs_of {h:Heap} {F:Addr→Prop} {σ:List Addr} {vs:List Value} {l:List V} {ws:List Txt} (q:VRs h F σ vs l) (e:textsOf l=some ws):∃ l':List (Str × Tok),vs=strValues l'∧l'.map (fun p=>p.1.cps.toList)=ws∧∀ w∈ws,∀ c∈w,c < 1114112 :=
 VRs.ind (Ms:=fun vs l=>∀ ws,textsOf l=some ws→∃ l':List (Str × Tok),vs=strValues l'∧l'.map (fun p=>p.1.cps.toList)=ws∧∀ w∈ws,∀ c∈w,c < 1114112)
  (fun ws e=>⟨[],rfl,Option.some.inj e,fun w hw=>by rw [← Option.some.inj e] at hw; cases hw⟩)
  (fun {_ _ x _} a _ ih ws e=>by
   cases x with
   | str =>
    obtain ⟨ws',e',rfl⟩:=Option.map_eq_some_iff.mp e
    obtain ⟨x,t,rfl,rfl,_,h2⟩:=a.str_inv
    obtain ⟨l',rfl,rfl,q3⟩:=ih ws' e'
    exact ⟨(x,t) :: l',rfl,rfl,fun w hw=>(List.mem_cons.mp hw).elim (fun e=>e ▸ h2) (q3 w)⟩
   | _=>exact (noS e).elim) q ws e
theorem strs_vr {h:Heap} {F:Addr→Prop} {σ:List Addr}:∀ (l':List (Str × Tok)),(∀ p∈l',p.1.cps.toList.length≤capL∧∀ c∈p.1.cps.toList,c < 1114112)→VRs h F σ (strValues l') ((l'.map fun p=>p.1.cps.toList).map V.str)
 | [],_=>.nil
 | p :: r,q=>.cons (VR.str' rfl (q p List.mem_cons_self).1 (q p List.mem_cons_self).2) (strs_vr r fun z hz=>q z (List.mem_cons_of_mem _ hz))
theorem sndFind {x y:Value} {sx:Txt} {a:Nat} (X:c.Ok s.heap σ H) (hx:VR s.heap (Live σ H) σ x (.str sx)) (hy:VR s.heap (Live σ H) σ y (.str [a])) (k:Cont c s σ H Q E (.ok (.int (findT a sx 0)) H)) :
  wpAny (model prog w) A (call (.builtin "str.find") [x,y]) Q E s:=by
 obtain ⟨x,t,rfl,rfl,_,_⟩:=hx.str_inv
 obtain ⟨y,u,rfl,e2,_,_⟩:=hy.str_inv
 obtain rfl:y=⟨#[a]⟩:=str_eq_of e2
 exact SC.find (by rw [find_eq]; exact k.val X (.int _ _) _)
theorem sndJoin {x y:Value} {j:Txt} {v:V} {l:List V} {ws:List Txt} (X:c.Ok s.heap σ H) (hx:VR s.heap (Live σ H) σ x (.str j)) (hy:VR s.heap (Live σ H) σ y v) (hl:lstOf H v=some l) (e:textsOf l=some ws)
  (h1:j.length≤1000) (h2:ws.length≤1000) (h3:∀ w∈ws,w.length≤10000) (h4:(joinT j ws).length≤capL) (k:Cont c s σ H Q E (.ok (.str (joinT j ws)) H)) :
  wpAny (model prog w) A (call (.builtin "str.join") [x,y]) Q E s:=by
 obtain ⟨D,arr,n,rfl,hD,hz,hv⟩:=lst_read X hy hl
 obtain ⟨l',q1,q2,q3⟩:=strs_of hv e
 obtain ⟨x,t,rfl,rfl,hx1,hx2⟩:=hx.str_inv
 subst q2
 refine SC.join (l:=l') (texts:=l'.map (·.1)) ⟨_,hD,rfl,n,by rw [← q1]; rfl⟩ rfl ?_ fun t' kk=>?_
 ·unfold JoinOk
  rw [Bool.not_eq_true']
  refine StrLaws.joinFits (B:=10000) (fun y hy=>?_) ?_
  ·obtain ⟨p,hp,rfl⟩:=List.mem_map.mp hy
   exact h3 p.1.cps.toList (List.mem_map_of_mem hp)
  ·have e1:(l'.map (·.1)).length≤1000:=by rw [List.length_map] at h2 ⊢; exact h2
   have e2:x.length≤1000:=h1
   have e3:=Nat.mul_le_mul e1 e2
   omega
 ·have e5:(Txt.join x (l'.map (·.1))).cps.toList=joinT x.cps.toList (l'.map fun p=>p.1.cps.toList):=by
   unfold Txt.join
   rw [StrLaws.glued_eq_join,joinT_eq,List.map_map]; rfl
  exact k.val X (VR.str' e5 h4 (joinT_mem hx2 _ q3)) kk
theorem sndReplace {x:Value} {sx:Txt} {a:Nat} {z:Txt} {y z':Str} {u v:Tok} (X:c.Ok s.heap σ H) (hx:VR s.heap (Live σ H) σ x (.str sx)) (hy:tx y=[a]) (hz:tx z'=z) (hu:u≠0) (hv:v≠0) (huv:u≠v)
  (h1:sx.length≤100000) (h2:z.length≤10) (h3:z≠[a]) (h4:(joinT z (split1 a sx)).length≤capL) (hc:∀ b∈z,b < 1114112) (k:Cont c s σ H Q E (.ok (.str (joinT z (split1 a sx))) H)) :
  wpAny (model prog w) A (call (.builtin "str.replace") [x,.str y u,.str z' v]) Q E s:=by
 obtain ⟨x,t,rfl,rfl,hx1,hx2⟩:=hx.str_inv
 obtain rfl:y=⟨#[a]⟩:=str_eq_of hy
 subst hz
 refine SC.replaceW hu hv huv (beq_eq_false_iff_ne.mpr fun q=>h3 (by rw [← q]; rfl)) (Nat.le_trans h1 (by decide)) (Nat.le_trans h2 (by decide)) fun t' kk=>?_
 have e5:(Txt.replace x ⟨#[a]⟩ z').cps.toList=joinT (tx z') (split1 a x.cps.toList):=by
  rw [StrLaws.replace_one,joinT_eq,split_eq]; rfl
 exact k.val X (VR.str' e5 h4 (joinT_mem hc _ fun w hw d hd=>hx2 d ((split1_mem a _ w hw).1 d hd))) kk
theorem sndSplit {x y:Value} {sx:Txt} {a:Nat} (hne:c.envs≠[]) (X:c.Ok s.heap σ H) (hx:VR s.heap (Live σ H) σ x (.str sx)) (hy:VR s.heap (Live σ H) σ y (.str [a])) (h1:sx.length≤100000)
  (k:Cont c s σ H Q E (.ok (.lst ((split1 a sx).map V.str)) H)) :
  wpAny (model prog w) A (call (.builtin "str.split") [x,y]) Q E s:=by
 obtain ⟨x,t,rfl,rfl,hx1,hx2⟩:=hx.str_inv
 obtain ⟨y,u,rfl,e2,_,_⟩:=hy.str_inv
 obtain rfl:y=⟨#[a]⟩:=str_eq_of e2
 obtain ⟨L,m,hL,hm⟩:=FRx.frame hne X
 refine splitN1 (fr0 hm) (news0 s.heap L) rfl (fun l h' kk el F N=>?_) (Nat.le_trans (Nat.add_le_add_right h1 2) (by decide:100000 + 2≤sizeLine))
 have el':l.map (fun p=>p.1.cps.toList)=split1 a x.cps.toList:=by
  rw [← split_eq,← el,List.map_map]; rfl
 refine k.grown X (grow_of X.stays hL hm F N (fun p hp=>List.mem_cons_of_mem _ hp)) ?_ kk
 have big:100000 + 1≤capL:=by decide
 have hcnt:(strValues l).length≤capL:=by
  have e5:=split1_count a x.cps.toList
  rw [← el',List.length_map] at e5
  rw [strValues,List.length_map]
  exact Nat.le_trans e5 (Nat.le_trans (Nat.succ_le_succ h1) big)
 rw [← el']
 refine .lst (arr:=(strValues l).toArray) (n:=0) (N _ (.head _)).1 (not_live_new X) hcnt (strs_vr l fun p hp=>?_)
 have:=split1_mem a _ p.1.cps.toList (el' ▸ List.mem_map_of_mem (f:=fun p:Str × Tok=>p.1.cps.toList) hp)
 exact ⟨Nat.le_trans this.2 (Nat.le_trans (Nat.le_succ_of_le h1) big),fun d hd=>hx2 d (this.1 d hd)⟩
theorem sndLen {x:Value} {v:V} {n:Nat} (X:c.Ok s.heap σ H) (hx:VR s.heap (Live σ H) σ x v) (e:lenV H v=some n) (k:Cont c s σ H Q E (.ok (.int n) H)):wpAny (model prog w) A (call (.builtin "len") [x]) Q E s:=by
 have cap:∀ {k:Nat},k≤capL→(k:Int) < 2 ^ 63:=fun h=>Int.ofNat_lt.mpr (Nat.lt_of_le_of_lt h (by decide:_ < 2 ^ 63))
 have lcase:∀ l,lstOf H v=some l→l.length=n→wpAny (model prog w) A (call (.builtin "len") [x]) Q E s:=by
  intro l hl hn
  obtain ⟨D,arr,m,rfl,hD,hz,hv⟩:=lst_read X hx hl
  obtain rfl:arr.size=n:=hv.length.trans hn
  exact PyProof.Rows.len_list (items:=arr) ⟨_,hD,rfl,m,rfl⟩ (cap hz) (k.val X (.int _ _) _)
 cases v with
 | str z =>
  obtain ⟨y,t,rfl,rfl,h1,_⟩:=hx.str_inv
  obtain rfl:y.length=n:=Option.some.inj e
  exact PyProof.Rows.len_str (Int.not_le.mpr (cap h1)) (k.val X (.int _ _) _)
 | tup l =>
  obtain ⟨a,arr,m,rfl,he,hF,hz,hv⟩:=hx.tup_inv
  obtain rfl:arr.size=n:=hv.length.trans (Option.some.inj e)
  exact PyProof.Rows.len_tuple (items:=arr) ⟨_,he,rfl,m,rfl⟩ (cap hz) (k.val X (.int _ _) _)
 | lst l=>exact lcase l rfl (Option.some.inj e)
 | ref i=>obtain ⟨l,e1,e2⟩:=Option.map_eq_some_iff.mp e; exact lcase l e1 e2
 | _=>exact (noS e).elim
theorem text_len {i:Int} (hi:i.natAbs < 10000000000):(textOf i).length≤11:=by
 unfold textOf
 rw [List.length_map]
 obtain ⟨m,rfl | rfl⟩:=Int.eq_nat_or_neg i
 ·show (Nat.repr m).toList.length≤11
  rw [Nat.toList_repr]
  exact Nat.le_succ_of_le ((Nat.length_toDigits_le_iff (b:=10) (n:=m) (k:=10) (by decide) (by decide)).mpr hi)
 ·cases m with
  | zero=>decide
  | succ m =>
   show ("-" ++ Nat.repr (m + 1)).toList.length≤11
   rw [String.toList_append,List.length_append,Nat.toList_repr]
   exact Nat.add_le_add (Nat.le_refl 1) ((Nat.length_toDigits_le_iff (b:=10) (n:=m + 1) (k:=10) (by decide) (by decide)).mpr hi)
theorem strInt {i:Int} {u:Tok} (hi:i.natAbs < 10000000000) (k:∀ x t tk,x.cps.toList=textOf i→x.cps.size≤11→(∀ c∈x.cps.toList,c < 1114112)→Q (.str x t) { s with toks:=tk }) :
  wpAny (model prog w) A (call (.type "str") [.int i u]) Q E s:=by
 have hl:i.natAbs.log2 < 1920:=by
  by_cases h0:i.natAbs=0
  ·rw [h0]; decide
  ·exact Nat.lt_trans ((Nat.log2_lt h0).mpr (Nat.lt_trans hi (by decide:_ < 2 ^ 40))) (by decide)
 have e1:(Str.ofString (toString i)).cps.toList=textOf i:=by rw [signs_ofString]; rfl
 have e2:(Str.ofString (toString i)).cps.toList.length≤11:=by rw [e1]; exact text_len hi
 refine P.str_of_int hl (k _ _ _ e1 e2 fun d hd=>?_)
 rw [e1] at hd
 obtain ⟨ch,_,rfl⟩:=List.mem_map.mp hd
 exact ch.valid.elim (fun h=>Nat.lt_trans h (by decide)) (·.2)
theorem sndToStr {x:Value} {v:V} {t:Txt} (X:c.Ok s.heap σ H) (hx:VR s.heap (Live σ H) σ x v) (e:toStrV v=some t) (k:Cont c s σ H Q E (.ok (.str t) H)):wpAny (model prog w) A (call (.type "str") [x]) Q E s:=by
 cases v with
 | int i =>
  obtain ⟨hi,e⟩:=mi_p e
  obtain rfl:=Option.some.inj e
  obtain ⟨u,rfl⟩:=hx.int_inv
  exact strInt hi fun x t tk h1 h2 h3=>k.val X (VR.str' h1 (Nat.le_trans (text_len hi) (by decide)) (h1 ▸ h3)) _
 | _=>exact (noS e).elim
theorem sndToInt {x:Value} {v:V} {i:Int} (X:c.Ok s.heap σ H) (hx:VR s.heap (Live σ H) σ x v) (e:toIntV v=some i) (k:Cont c s σ H Q E (.ok (.int i) H)):wpAny (model prog w) A (call (.type "int") [x]) Q E s:=by
 cases v with
 | str z =>
  obtain ⟨hd,e⟩:=mi_p e
  obtain rfl:=Option.some.inj e
  obtain ⟨x,u,rfl,rfl,_,_⟩:=hx.str_inv
  refine KIN.call_text (n:=((NumText.digitsVal x.cps.toList:Nat):Int)) (PySem.intText_digits ?_ hd.1 (Nat.le_trans hd.2.1 (by decide))) hd.2.1 (k.val X (.int _ _) _)
  intro ch hch
  have:=List.all_eq_true.mp hd.2.2 ch hch
  simpa [isDigit] using this
 | _=>exact (noS e).elim
end
end Mine
end
section
set_option genSizeOf false
set_option genInjectivity false
open PySem PySem.W PyProof.Rows PySem.Calls PySem.Builtin.Str
namespace Mine
structure AOk (c:Cx) (A:Around) (n:Nat):Prop where
 frames:A.frames=some c.envs
 units:A.units + 3 * n + 70 < cLine
 depth:A.depth + n < recursionLimit
 handled:A.handled=none
noncomputable def CallSnd (prog:Program) (w:World) (b0:Heap) (C:Value) (fa:Nat→Addr) (call:Nat→List V→Hp→Option (Res V)) (n:Nat):Prop :=
 ∀ (c:Cx) (A:Around) (s:Shared) (σ:List Addr) (H:Hp) (f:Nat) (vs:List V) (vals:List Value) (r:Res V) (Q E:Value→Shared→Prop),
  c.base=b0→c.C=C→c.envs≠[]→AOk c A n→0 < s.toks→c.Ok s.heap σ H→VRs s.heap (Live σ H) σ vals vs→call f vs H=some r→Cont c s σ H Q E r →
  wpAny (model prog w) A (PySem.call (.ref (fa f)) vals) Q E s
structure Rdy (prog:Program) (w:World) (c:Cx) (A:Around) (call:Nat→List V→Hp→Option (Res V)) (n:Nat) where
 G:Gd c.base
 hne:c.envs≠[]
 au:AOk c A n
 fa:Nat→Addr
 hfa:∀ f fn,theFn f=some fn→G.mg (sOf fn.name)=some (.ref (fa f))∧∃ o fd,c.base.get? (fa f)=some o∧o.data=.func fd
 cs:CallSnd prog w c.base c.C fa call n
structure KdOk (kd:Str→Option NameKind) (env:Env):Prop where
 glob:∀ id,kd id=some .globalImplicit→env.kindOf id=some .globalImplicit
 var:∀ id,isVarK (kd id)=true→isVarK (env.kindOf id)=true
 cf:∀ id,kd id=some .cell∨kd id=some .free→env.kindOf id=some .cell∨env.kindOf id=some .free
theorem KdOk.isGlob {kd:Str→Option NameKind} {env:Env} (k:KdOk kd env) {id:Str} {t:Txt} (h:isGlob kd id t=true):isGlob env.kindOf id t=true:=by
 simp only [Mine.isGlob,Bool.and_eq_true,beq_iff_eq] at h ⊢
 exact ⟨⟨h.1.1,k.glob _ h.1.2⟩,h.2⟩
noncomputable def ExcK (c:Cx) (s:Shared) (σ:List Addr) (H:Hp) (E:Value→Shared→Prop) (H':Hp):Prop :=
 ∀ e h' tk σ',c.Ok h' σ' H'→Adv No s.heap σ H h' σ' H'→Exc c.base c.C s.heap e h'→E (.ref e) (sU s h' tk)
theorem ExcK.adv {c:Cx} {s:Shared} {σ σ₁:List Addr} {H H₁ H':Hp} {E:Value→Shared→Prop} (k:ExcK c s σ H E H') {h₁:Heap} {tk:Nat} (x:Adv No s.heap σ H h₁ σ₁ H₁) :
  ExcK c (sU s h₁ tk) σ₁ H₁ E H':=fun e h' tk σ' a b d=>k e h' tk σ' a (x.trans b) (ExcX.adv x d)
noncomputable def ContT (c:Cx) (s:Shared) (σ:List Addr) (H:Hp) (Q:Bool→Shared→Prop) (E:Value→Shared→Prop):Res V→Prop
 | .ok v H'=>∃ b,v=.bool b∧∀ h' tk σ',c.Ok h' σ' H'→Adv No s.heap σ H h' σ' H'→Q b (sU s h' tk)
 | .exc H'=>ExcK c s σ H E H'
theorem ContT.adv {c:Cx} {s:Shared} {σ σ₁:List Addr} {H H₁:Hp} {Q:Bool→Shared→Prop} {E:Value→Shared→Prop} {r:Res V} (k:ContT c s σ H Q E r) {h₁:Heap} {tk:Nat} (x:Adv No s.heap σ H h₁ σ₁ H₁) :
  ContT c (sU s h₁ tk) σ₁ H₁ Q E r:=by
 cases r with
 | ok v H' =>
  obtain ⟨b,hb,k⟩:=k
  exact ⟨b,hb,fun h' tk σ' a y=>k h' tk σ' a (x.trans y)⟩
 | exc H'=>exact ExcK.adv k x
section
variable {prog:Program} {w:World} {A:Around} {E:Value→Shared→Prop} {s:Shared} {c:Cx} {σ:List Addr} {H:Hp} {Q:Value→Shared→Prop} {env:Env}
theorem ContT.toCont {M:Model} {QT:Bool→Shared→Prop} {r:Res V} (k:ContT c s σ H QT E r):Cont c s σ H (fun v s'=>wpAny M A (truthy v) QT E s') E r:=by
 cases r with
 | ok v H' =>
  obtain ⟨b,rfl,k⟩:=k
  intro val h' tk σ' X x q
  rw [q.bool_inv]
  exact wpAny_truthy_bool (k h' tk σ' X x)
 | exc H'=>exact k
noncomputable def Both (prog:Program) (w:World) (A:Around) (env:Env) (c:Cx) (s:Shared) (σ:List Addr) (H:Hp) (E:Value→Shared→Prop) (x:Expr) (r:Res V):Prop :=
 (∀ Q,Cont c s σ H Q E r→wpAny (model prog w) A (eval x env) Q E s)∧(∀ QT,ContT c s σ H QT E r→wpAny (model prog w) A (isTrue x env (eval x env)) QT E s)
theorem Both.plain {x:Expr} {r:Res V} (he:isTrue x env (eval x env)=(do let v ← eval x env; standAt x.pos; holding [v] (truthy v)))
  (h:∀ Q,Cont c s σ H Q E r→wpAny (model prog w) A (eval x env) Q E s):Both prog w A env c s σ H E x r :=
 ⟨h,fun QT k=>isTrue_plain (h _ k.toCont) he⟩
theorem bnd_go {α β:Type} {x:Option (Res α)} {f:α→Hp→Option (Res β)} {r:Res β} (hb:bnd x f=some r) :
  (∃ v H1,x=some (.ok v H1)∧f v H1=some r)∨∃ H1,x=some (.exc H1)∧r=.exc H1:=by
 cases x with
 | none=>exact (noS hb).elim
 | some y=>cases y with
  | ok v H1=>exact .inl ⟨v,H1,rfl,hb⟩
  | exc H1=>exact .inr ⟨H1,rfl,(Option.some.inj hb).symm⟩
theorem ExcK.pos (k:ExcK c s σ H E H'):ExcK c s σ H (fun e s'=>1≤s'.toks→E e s') H':=fun e h' tk σ' a b d _=>k e h' tk σ' a b d
theorem go {β:Type} {e:Expr} {x:Option (Res V)} {f:V→Hp→Option (Res β)} {r:Res β} {Q1:Value→Shared→Prop} (ht:0 < s.toks) (hb:bnd x f=some r) (hx:∀ H1,r=.exc H1→ExcK c s σ H E H1)
  (ih:∀ r1,x=some r1→∀ E',Both prog w A env c s σ H E' e r1)
  (k:∀ v H1,f v H1=some r→∀ val h' tk σ',0 < tk→c.Ok h' σ' H1→Adv No s.heap σ H h' σ' H1→VR h' (Live σ' H1) σ' val v→Q1 val (sU s h' tk)) :
  wpAny (model prog w) A (eval e env) Q1 E s:=by
 refine wpAny_with_toks (n:=1) ht ?_
 rcases bnd_go hb with ⟨v,H1,e1,e2⟩ | ⟨H1,e1,rfl⟩
 ·exact (ih _ e1 _).1 _ fun val h' tk σ' X a q hp=>k v H1 e2 val h' tk σ' hp X a q
 ·exact (ih _ e1 _).1 _ (hx H1 rfl).pos
theorem goT {β:Type} {e:Expr} {x:Option (Res V)} {f:V→Hp→Option (Res β)} {r:Res β} {Q1:Bool→Shared→Prop} (ht:0 < s.toks) (hb:bnd x f=some r) (hx:∀ H1,r=.exc H1→ExcK c s σ H E H1)
  (hbool:∀ v H1,f v H1=some r→∃ b,v=.bool b)
  (ih:∀ r1,x=some r1→∀ E',Both prog w A env c s σ H E' e r1)
  (k:∀ b H1,f (.bool b) H1=some r→∀ h' tk σ',0 < tk→c.Ok h' σ' H1→Adv No s.heap σ H h' σ' H1→Q1 b (sU s h' tk)) :
  wpAny (model prog w) A (isTrue e env (eval e env)) Q1 E s:=by
 refine wpAny_with_toks (n:=1) ht ?_
 rcases bnd_go hb with ⟨v,H1,e1,e2⟩ | ⟨H1,e1,rfl⟩
 ·obtain ⟨b,rfl⟩:=hbool v H1 e2
  exact (ih _ e1 _).2 _ ⟨b,rfl,fun h' tk σ' X a hp=>k b H1 e2 h' tk σ' hp X a⟩
 ·exact (ih _ e1 _).2 _ (hx H1 rfl).pos
noncomputable def BothL (prog:Program) (w:World) (A:Around) (env:Env) (c:Cx) (s:Shared) (σ:List Addr) (H:Hp) (E:Value→Shared→Prop) (xs:List Expr) (r:Res (List V)):Prop :=
 ∀ pos QL,ContL c s σ H QL E r→wpAny (model prog w) A (spliced (backTo pos (starEach xs env))) QL E s
theorem goL {β:Type} {es:List Expr} {pos:Pos} {x:Option (Res (List V))} {f:List V→Hp→Option (Res β)} {r:Res β} {Q1:List Value→Shared→Prop} (ht:0 < s.toks) (hb:bnd x f=some r) (hx:∀ H1,r=.exc H1→ExcK c s σ H E H1)
  (ih:∀ r1,x=some r1→∀ E',BothL prog w A env c s σ H E' es r1)
  (k:∀ v H1,f v H1=some r→∀ val h' tk σ',0 < tk→c.Ok h' σ' H1→Adv No s.heap σ H h' σ' H1→VRs h' (Live σ' H1) σ' val v→Q1 val (sU s h' tk)) :
  wpAny (model prog w) A (spliced (backTo pos (starEach es env))) Q1 E s:=by
 refine wpAny_with_toks (n:=1) ht ?_
 rcases bnd_go hb with ⟨v,H1,e1,e2⟩ | ⟨H1,e1,rfl⟩
 ·exact ih _ e1 _ pos _ fun val h' tk σ' X a q hp=>k v H1 e2 val h' tk σ' hp X a q
 ·exact ih _ e1 _ pos _ (hx H1 rfl).pos
theorem Cont.exk {r:Res V} (k:Cont c s σ H Q E r):∀ H1,r=.exc H1→ExcK c s σ H E H1:=by rintro H1 rfl; exact k
theorem ContT.exk {QT:Bool→Shared→Prop} {r:Res V} (k:ContT c s σ H QT E r):∀ H1,r=.exc H1→ExcK c s σ H E H1:=by rintro H1 rfl; exact k
theorem ContL.exk {QL:List Value→Shared→Prop} {r:Res (List V)} (k:ContL c s σ H QL E r):∀ H1,r=.exc H1→ExcK c s σ H E H1:=by rintro H1 rfl; exact k
theorem VR.adv0 {h h₁:Heap} {σ σ₁:List Addr} {H H₁:Hp} (x:Adv No h σ H h₁ σ₁ H₁) {v:Value} {y:V} (q:VR h (Live σ H) σ v y):VR h₁ (Live σ₁ H₁) σ₁ v y:=q.adv x fun _ _ z=>z.elim
theorem VRs.adv0 {h h₁:Heap} {σ σ₁:List Addr} {H H₁:Hp} (x:Adv No h σ H h₁ σ₁ H₁) {v:List Value} {y:List V} (q:VRs h (Live σ H) σ v y):VRs h₁ (Live σ₁ H₁) σ₁ v y:=q.adv x fun _ _ z=>z.elim
theorem Vars.adv0 {h₁:Heap} {σ₁:List Addr} {H₁:Hp} {nm:List Txt} {loc:Loc} {h:Heap} (X:c.Ok h σ H) (x:Adv No h σ H h₁ σ₁ H₁) (q:Vars nm env h σ H loc):Vars nm env h₁ σ₁ H₁ loc :=
 q.adv X x (fun z=>z) (fun _ _ z=>z) fun _ _ z=>z.elim
theorem not_behind {op:CmpOp} {e:Expr} (h:notDisp e=true):behindInMarks op e=false:=by
 cases e <;> first | rfl | cases h
theorem isLoc_iff {nm:List Txt} {x:Nat} {id:Str} (h:isLoc nm x id=true):nm[x]?=some (tx id)∧(id==("__debug__" : Str))=false∧(id==("__classdict__" : Str))=false:=by
 simp only [isLoc,Bool.and_eq_true,beq_iff_eq,bne_iff_ne,ne_eq] at h
 exact ⟨h.1.1,by simpa using h.1.2,by simpa using h.2⟩
theorem name_loc {M:Model} {nm:List Txt} {x:Nat} {id:Str} {pos:Pos} {loc:Loc} {v:V} (eo:EnvOk env) (h:isLoc nm x id=true) (hk:isVarK (env.kindOf id)=true) (hv:Vars nm env s.heap σ H loc)
  (hl:loc[x]?=some (some v)) (k:∀ val,VR s.heap (Live σ H) σ val v→Q val s):wpAny M A (eval (.Name id pos) env) Q E s:=by
 obtain ⟨hn,hd,hcd⟩:=isLoc_iff h
 obtain ⟨val,ha,hr⟩:=hv x v hl id hn hk
 refine wpAny_Name ?_ hd
 rcases ha with ⟨h1,m,hm,he⟩ | ⟨h1 | h1,a,ha,hc⟩
 ·exact wpAny_loadName_local eo.kind h1 hm he (k val hr)
 ·exact wpAny_loadName_cell eo.kind h1 ha hc (k val hr)
 ·exact wpAny_loadName_free eo.kind h1 ha hc (k val hr) hcd
theorem nil_eq {a:Addr} {va:Value} {v:V} {l:List V} (hu:A.units < cLine) (X:c.Ok s.heap σ H) (hx:VR s.heap (Live σ H) σ va v) (e:lstOf H v=some l)
  (hb:s.heap.get? a=some (LstO #[] 0)) (h:Q (.bool l.isEmpty) s):wpAny (model prog w) A (compareOp .Eq va (.ref a)) Q E s:=by
 obtain ⟨b,arr,m,rfl,hD,hz,hv⟩:=lst_read X hx e
 have hl:=hv.length
 rw [Array.length_toList] at hl
 cases l with
 | nil =>
  have h0:arr.size=0:=hl
  refine SeqAt.eq_listAt (e:=fun _=>true) ⟨_,hD,rfl,m,rfl⟩ ⟨_,hb,rfl,0,rfl⟩ (by rw [h0]; rfl) hu (fun j h1=>absurd h1 (by rw [h0]; exact Nat.not_lt_zero _)) ?_
  rw [h0]; exact h
 | cons x l =>
  refine SeqAt.eq_list_lengthsAt ⟨_,hD,rfl,m,rfl⟩ ⟨_,hb,rfl,0,rfl⟩ ?_ hu h
  rw [hl]; rfl
theorem nil_ne {a:Addr} {va:Value} {v:V} {l:List V} (hu:A.units < cLine) (X:c.Ok s.heap σ H) (hx:VR s.heap (Live σ H) σ va v) (e:lstOf H v=some l)
  (hb:s.heap.get? a=some (LstO #[] 0)) (h:Q (.bool (!l.isEmpty)) s):wpAny (model prog w) A (compareOp .NotEq va (.ref a)) Q E s:=by
 obtain ⟨b,arr,m,rfl,hD,hz,hv⟩:=lst_read X hx e
 have hl:=hv.length
 rw [Array.length_toList] at hl
 cases l with
 | nil =>
  have h0:arr.size=0:=hl
  refine SeqAt.RcNeAt.lists (e:=fun _=>true) ⟨_,hD,rfl,m,rfl⟩ ⟨_,hb,rfl,0,rfl⟩ (by rw [h0]; rfl) hu (fun j h1=>absurd h1 (by rw [h0]; exact Nat.not_lt_zero _)) prog w E Q ?_
  rw [h0]; exact h
 | cons x l =>
  refine SeqAt.RcNeAt.lists_lengths ⟨_,hD,rfl,m,rfl⟩ ⟨_,hb,rfl,0,rfl⟩ ?_ hu prog w E Q h
  rw [hl]; rfl
theorem newList0 (X:c.Ok s.heap σ H) (k:∀ h',s.heap.get? s.heap.objs.size=none→Grow c.base s.heap h'→h'.get? s.heap.objs.size=some (LstO #[] 0)→Q (.ref s.heap.objs.size) { s with heap:=h' }):wpAny (model prog w) A (newList []) Q E s:=by
 refine wpAny_newObj_type (k _ ?_ (grow_keeps X.stays fun _ _ e=>Heap.get?_push_of_some _ e) (Heap.get?_push_size _ rfl)) (Nat.zero_le _)
 cases e:s.heap.get? s.heap.objs.size with
 | none=>rfl
 | some o=>exact absurd (Heap.lt_size e) (Nat.lt_irrefl _)
theorem constStrs_cons {e:Expr} {es:List Expr} {ws:List Txt} (h:constStrs (e :: es) ws=true):∃ x p q ws',e=.Constant (.str x) p q∧ws=tx x :: ws'∧constStrs es ws'=true:=by
 cases e with
 | Constant k p q =>
  cases k with
  | str x =>
   cases ws with
   | nil=>exact Bool.noConfusion h
   | cons w ws =>
    have h:=Bool.and_eq_true_iff.mp h
    exact ⟨x,p,q,ws,rfl,congrArg (· :: ws) (beq_iff_eq.mp h.1).symm,h.2⟩
  | _=>exact Bool.noConfusion h
 | _=>exact Bool.noConfusion h
theorem strs_made:∀ {es:List Expr} {ws:List Txt} (_:constStrs es ws=true) (s:Shared) (pos:Pos) (QL:List Value→Shared→Prop) (_:∀ (vs:List Value) (tk:Nat),(∀ h,∃ as,PySem.ReadsAll h vs (ws.map fun t=>PyData.str (sOf t)) as)→vs.length=ws.length→QL vs { s with toks:=tk }),
  wpAny (model prog w) A (spliced (backTo pos (starEach es env))) QL E s
 | [],ws,h,s,pos,QL,k=>by
  cases ws with
  | nil=>exact args_nil (k [] s.toks (fun _=>⟨_,.nil⟩) rfl)
  | cons=>exact Bool.noConfusion h
 | e :: es,ws,h,s,pos,QL,k=>by
  obtain ⟨x,p,q,ws',rfl,rfl,h2⟩:=constStrs_cons h
  refine args_cons (Constant_str (strs_made h2 _ pos _ fun vs tk hr hn=>?_))
  refine k (.str x s.toks :: vs) tk (fun hp=>?_) (by simp [hn])
  obtain ⟨as,r⟩:=hr hp
  have e:=sOf_tx x
  simp only [List.map_cons,e]
  exact ⟨_,.cons (.str x s.toks) r⟩
theorem words_eqv (x:Str):∀ ws:List Txt,((ws.map fun t=>PyData.str (sOf t)).any fun y=>PyData.eqv y (.str x))=ws.contains x.cps.toList
 | []=>rfl
 | t :: ws=>by
  simp only [List.map_cons,List.any_cons,List.contains_cons,words_eqv x ws]
  congr 1
  simp only [PyData.eqv]
  rw [Bool.eq_iff_iff]
  simp only [beq_iff_eq]
  constructor
  ·intro h; rw [← h]; simp [sOf]
  ·intro h; subst h; exact sOf_tx x
end
end Mine
end
section
set_option genSizeOf false
set_option genInjectivity false
open PySem PySem.W PyProof.Rows PySem.Calls PySem.Builtin.Str
namespace Mine
theorem closure_go {env:Env} (f:Str × NameKind→List (Str × Addr)→PySem.Sem (ForInStep (List (Str × Addr))))
  (hf:∀ n k cs,f (n,k) cs=if (k==.free)=true then (do let a ← cellOf env n; pure (.yield ((n,a) :: cs))) else pure (.yield cs)) :
  ∀ (names:List (Str × NameKind)) (cs:List (Str × Addr)),(∀ x∈names,x.2=.free→∃ a,env.cells.lookup x.1=some a)→(∀ p∈cs,env.cells.lookup p.1=some p.2) →
   ∃ cl,forIn names cs f=pure cl∧(∀ p∈cl,env.cells.lookup p.1=some p.2)∧(∀ p∈cs,p∈cl)∧∀ x∈names,x.2=.free→∃ a,(x.1,a)∈cl
 | [],cs,_,h2=>⟨cs,rfl,h2,fun _ h=>h,fun _ h=>nomatch h⟩
 | (n,k) :: r,cs,h1,h2=>by
  by_cases hk:k=.free
  ·subst hk
   obtain ⟨a,ha⟩:=h1 (n,.free) List.mem_cons_self rfl
   obtain ⟨cl,e,q1,q2,q3⟩:=closure_go f hf r ((n,a) :: cs) (fun x hx=>h1 x (List.mem_cons_of_mem _ hx)) (fun p hp=>by
    rcases List.mem_cons.mp hp with rfl | hp
    ·exact ha
    ·exact h2 p hp)
   refine ⟨cl,?_,q1,fun p hp=>q2 p (List.mem_cons_of_mem _ hp),fun x hx hfree=>?_⟩
   ·rw [List.forIn_cons,hf]
    simp only [beq_self_eq_true,if_true]
    unfold cellOf
    rw [show env.cells.lookup n=some a from ha]
    exact e
   ·rcases List.mem_cons.mp hx with rfl | hx
    ·exact ⟨a,q2 _ List.mem_cons_self⟩
    ·exact q3 x hx hfree
  ·obtain ⟨cl,e,q1,q2,q3⟩:=closure_go f hf r cs (fun x hx=>h1 x (List.mem_cons_of_mem _ hx)) h2
   refine ⟨cl,?_,q1,q2,fun x hx hfree=>?_⟩
   ·have hk':(k==NameKind.free)=false:=by simpa using hk
    rw [List.forIn_cons,hf]
    simp only [hk',Bool.false_eq_true,if_false]
    exact e
   ·rcases List.mem_cons.mp hx with rfl | hx
    ·exact absurd hfree hk
    ·exact q3 x hx hfree
theorem closure_ok {scope:Scope} {env:Env} (h1:∀ x∈scope.names,x.2=.free→∃ a,env.cells.lookup x.1=some a) :
  ∃ cl,closureFor scope env=pure cl∧(∀ p∈cl,env.cells.lookup p.1=some p.2)∧∀ x∈scope.names,x.2=.free→∃ a,cl.lookup x.1=some a:=by
 obtain ⟨cl,e,q1,q2,q3⟩:=closure_go (env:=env) (fun x cs=>if (x.2==NameKind.free)=true then (do let a ← cellOf env x.1; pure (.yield ((x.1,a) :: cs))) else pure (.yield cs)) (fun _ _ _=>rfl) scope.names [] h1 (fun _ h=>nomatch h)
 refine ⟨cl,?_,q1,fun x hx hfree=>?_⟩
 ·unfold closureFor
  exact congrArg (fun m:PySem.Sem (List (Str × Addr))=>m >>= fun r=>pure r) e
 ·obtain ⟨a,ha⟩:=q3 x hx hfree
  have:(cl.lookup x.1).isSome:=by
   rw [List.lookup_isSome_iff]
   exact ⟨(x.1,a),ha,by simp⟩
  obtain ⟨b,hb⟩:=Option.isSome_iff_exists.mp this
  exact ⟨b,hb⟩
theorem changeF {base:Heap} {envs:List Env} {b:Nat} {lim:Nat→Option Nat} {h0 h h':Heap} {σ0 σ:List Addr} {H0 H:Hp} {O0:Addr→Prop} (X:FRx base envs b lim h σ H) (a1:Adv O0 h0 σ0 H0 h σ H) {O:Addr→Prop}
  (hfr:∀ a,O a→h0.get? a=none) (hk:∀ b o,¬ O b→h.get? b=some o→h'.get? b=some o)
  (hO:∀ a,O a→base.get? a=none∧(∀ o,h.get? a=some o→¬ IsSeq o)∧((∃ m,h'.Ns a m)∨∀ env∈envs,env.frame≠some a)):FRx base envs b lim h' σ H∧Adv O0 h0 σ0 H0 h' σ H:=by
 have nO:∀ a o,h0.get? a=some o→¬ O a:=fun a o e z=>by rw [hfr a z] at e; cases e
 have hh:FRx base envs b lim h' σ H:=by
  have seq:∀ b o,h.get? b=some o→IsSeq o→h'.get? b=some o:=fun b o e hs=>hk b o (fun z=>(hO b z).2.1 o e hs) e
  refine { stays:=fun b o e=>hk b o (fun z=>?_) (X.stays b o e),frames:=?_,frd:=fun env he L hL=>?_,len:=X.len,nodup:=X.nodup,apart:=X.apart,dom:=fun a ha=>?_,objs:=fun i l e=>?_,loc:=X.loc,blen:=X.blen,hi:=X.hi,hs:=X.hs }
  ·rw [(hO b z).1] at e; cases e
  ·have go:∀ {l:List Env},(∀ env∈l,env∈envs)→h.FunFrames base l→h'.FunFrames base l:=by
    intro l
    induction l with
    | nil=>exact fun _ _=>trivial
    | cons env r ih =>
     rintro hm ⟨hkd,⟨L,o,hf,hn,ho,hdt⟩,hr⟩
     refine ⟨hkd,?_,ih (fun env he=>hm env (List.mem_cons_of_mem _ he)) hr⟩
     by_cases z:O L
     ·rcases (hO L z).2.2 with ⟨m,hm'⟩ | hne
      ·obtain ⟨o',es,ep,ho',hd',_⟩:=hm'
       exact ⟨L,o',hf,hn,ho',fun vs q=>by rw [hd'] at q; cases q⟩
      ·exact absurd hf (hne env (hm env List.mem_cons_self))
     ·exact ⟨L,o,hf,hn,hk L o z ho,hdt⟩
   exact go (fun _ h=>h) X.frames
  ·obtain ⟨m,hm⟩:=X.frd env he L hL
   by_cases z:O L
   ·rcases (hO L z).2.2 with q | hne
    ·exact q
    ·exact absurd hL (hne env he)
   ·obtain ⟨o,es,ep,ho,r⟩:=hm
    exact ⟨m,o,es,ep,hk L o z ho,r⟩
  ·obtain ⟨arr,n,e⟩:=X.dom a ha
   exact ⟨arr,n,seq a _ e ⟨_,_,rfl⟩⟩
  ·obtain ⟨a,arr,n,h1,h2,h3,h4⟩:=X.objs i l e
   exact ⟨a,arr,n,h1,seq a _ h2 ⟨_,_,rfl⟩,h3,VRs.mono (fun b o _ e hs=>seq b o e hs) (fun _ q _=>q) (fun _ _ q=>q) h4⟩
 refine ⟨hh,fun b o hb e=>?_,a1.pre,a1.live,fun a o e=>?_⟩
 ·rcases a1.step b o hb e with q | ⟨⟨m,hm⟩,q⟩
  ·exact .inl (hk b o (nO b o e) q)
  ·refine .inr ⟨⟨m,hm⟩,fun m' hm'=>?_⟩
   obtain ⟨o',es,ep,ho',r⟩:=q m' hm'
   exact ⟨o',es,ep,hk b o' (nO b o e) ho',r⟩
 ·obtain ⟨o',e'⟩:=a1.dom a o e
  exact ⟨o',hk a o' (nO a o e) e'⟩
inductive IterS (ev:Nat→Hp→Option (Res V)) (j n i:Nat) (H H2:Hp):Prop
 | mk (v:V) (H':Hp) (l:List V):ev i H=some (.ok v H')→v.pure=true→hget H' j=some l→l.length < capL→iterC ev j n (i + 1) (H'.set j (some (l++[v])))=some H2→IterS ev j n i H H2
theorem iterC_succ {ev:Nat→Hp→Option (Res V)} {j n i:Nat} {H H2:Hp} (h:iterC ev j (n + 1) i H=some H2) :
  IterS ev j n i H H2:=by
 have h:(match ev i H with
  | some (.ok v H')=>if v.pure then (match hget H' j with | some l=>if l.length < capL then iterC ev j n (i + 1) (H'.set j (some (l++[v]))) else .none | .none=>.none) else .none
  | _=>.none)=some H2:=h
 generalize e:ev i H=o at h
 cases o with
 | none=>exact (noS h).elim
 | some y=>cases y with
  | exc H'=>exact (noS h).elim
  | ok v H' =>
   obtain ⟨hp,h⟩:=mi_some h
   obtain ⟨l,hl,h⟩:=mo h
   obtain ⟨hz,h⟩:=mi_p h
   exact ⟨v,H',l,e,hp,hl,hz,h⟩
theorem hget_iff {H:Hp} {i:Nat} {l:List V} (h:hget H i=some l):H[i]?=some (some l):=by
 have h:(match H[i]? with | some (some l)=>some l | _=>.none)=some l:=h
 generalize H[i]?=o at h ⊢
 cases o with
 | none=>exact (noS h).elim
 | some y=>cases y with
  | none=>exact (noS h).elim
  | some l'=>rw [Option.some.inj h]
theorem ns_keep {h h':Heap} {a:Addr} {m:Str→Option Value} (hn:h.Ns a m) (k:∀ o,h.get? a=some o→h'.get? a=some o):h'.Ns a m :=
 let ⟨o,es,ep,e,r⟩:=hn; ⟨o,es,ep,k o e,r⟩
theorem ns_noseq {h:Heap} {a:Addr} {m:Str→Option Value} (hn:h.Ns a m):∀ o,h.get? a=some o→¬ IsSeq o:=fun o e ⟨arr,n,q⟩=>by
 obtain ⟨o',es,ep,e',hd,_⟩:=hn
 rw [e] at e'; cases e'; rw [q] at hd; cases hd
theorem ri_noseq {h:Heap} {I:Addr} {x l st:Int} (hi:IsRangeIter h I x l st):∀ o,h.get? I=some o→¬ IsSeq o:=fun o e ⟨arr,n,q⟩=>by
 rw [hi] at e; cases e; cases q
theorem frame_ne {base:Heap} {envs:List Env} {b:Nat} {lim:Nat→Option Nat} {h:Heap} {σ:List Addr} {H:Hp} (X:FRx base envs b lim h σ H) {a:Addr} (e:h.get? a=none):∀ env∈envs,env.frame≠some a:=fun env he hf=>by
 obtain ⟨m,o,_,_,ho,_⟩:=X.frd env he a hf
 rw [e] at ho; cases ho
theorem base_none {base:Heap} {envs:List Env} {b:Nat} {lim:Nat→Option Nat} {h:Heap} {σ:List Addr} {H:Hp} (X:FRx base envs b lim h σ H) {a:Addr} (e:h.get? a=none):base.get? a=none:=by
 cases q:base.get? a with
 | none=>rfl
 | some o=>have:=X.stays a o q; rw [e] at this; cases this
section
variable {prog:Program} {w:World} {A:Around} {c:Cx} {call:Nat→List V→Hp→Option (Res V)}
inductive CInv (c:Cx) (s:Shared) (σ:List Addr) (H:Hp) (C I D:Addr) (n j:Nat) (ev:Nat→Hp→Option (Res V)) (Hend:Hp) (i:Nat) (s':Shared):Prop
 | mk (h:Heap) (tk:Nat) (σ':List Addr) (H':Hp) (m:Str→Option Value):s'=sU s h tk→0 < tk→c.Ok h σ' H'→Adv No s.heap σ H h σ' H'→h.Ns C m →
  IsRangeIter h I (0 + (i:Nat) * 1) ((n:Int) - (i:Nat)) 1→σ'[j]?=some D→iterC ev j (n - i) i H'=some Hend→i≤n→CInv c s σ H C I D n j ev Hend i s'
theorem compLoop {elt iter:Expr} {y:Str} {p pos:Pos} {scope:Scope} {cenv:Env} {s:Shared} {σ:List Addr} {H:Hp} {C I D:Addr} {n j x:Nat} {e:Mine.E} {Hend:Hp} {RR:Result→Shared→Prop} {nm:List Txt} {loc:Loc}
  (hh:A.handled=none) (hloc:cenv.locals=C) (hkind:cenv.scope.kind=.function) (hy:cenv.kindOf y=some .local)
  (hC:s.heap.get? C=none) (hI:s.heap.get? I=none) (hCI:C≠I) (hbC:c.base.get? C=none) (hbI:c.base.get? I=none) (hfC:∀ env∈c.envs,env.frame≠some C) (hfI:∀ env∈c.envs,env.frame≠some I) (hbj:c.b≤j)
  (hvars:∀ {h':Heap} {σ':List Addr} {H':Hp} {m:Str→Option Value} {i:Int} {t:Tok},Adv No s.heap σ H h' σ' H'→h'.Ns C m→m y=some (.int i t)→Vars nm cenv h' σ' H' (loc.set x (some (.int i))))
  (ihe:∀ {s1:Shared} {σ1:List Addr} {H1:Hp} {E1:Value→Shared→Prop} {loc1:Loc} {r1:Res V},0 < s1.toks→evE call c.b loc1 e H1=some r1→c.Ok s1.heap σ1 H1→Vars nm cenv s1.heap σ1 H1 loc1→Both prog w A cenv c s1 σ1 H1 E1 elt r1)
  (hR:∀ h' tk σ' m,0 < tk→c.Ok h' σ' Hend→Adv No s.heap σ H h' σ' Hend→h'.Ns C m→σ'[j]?=some D→RR (.ok .next) (sU s h' tk))
  {s':Shared} (h0:CInv c s σ H C I D n j (fun i H=>evE call c.b (loc.set x (some (.int i))) e H) Hend 0 s') :
  codeAny (model prog w) A (.compLoop (.ListComp elt [⟨.Name y p,iter,[],0⟩] scope pos) 0 (.ref I) (.ref D) cenv) RR s':=by
 subst hloc
 have W:=Walks.range (prog:=prog) (w:=w) hh I 0 1 n
 refine codeAny_compLoop_list (fun k s'=>∃ i,k=n - i∧CInv c s σ H cenv.locals I D n j (fun i H=>evE call c.b (loc.set x (some (.int i))) e H) Hend i s') ?_ n ⟨0,rfl,h0⟩
 rintro k s' ⟨i,rfl,⟨h,tk,σ1,H1,m,rfl,hp,X1,a1,hn,hit,hd,hgo,hle⟩⟩
 by_cases hlt:i < n
 ·refine wpAny_with_toks (n:=1) hp (W.item i _ _ _ hlt hit fun v h2 tk2 hPv hit2 hk2 hp2=>?_)
  obtain ⟨t,rfl⟩:=hPv
  have hn2:h2.Ns cenv.locals m:=ns_keep hn fun o e=>hk2 _ o (by simpa using hCI) e
  obtain ⟨X2,a12⟩:=changeF (O:=fun a=>a=I) (h':=h2) X1 a1 (fun a z=>by rw [z]; exact hI) (fun b o hb e=>hk2 b o (by simpa using hb) e) (fun a z=>by subst z; exact ⟨hbI,ri_noseq hit,.inr hfI⟩)
  refine wpAny_assign_Name (wpAny_storeName_local hy hn2 (fun h3 hn3 hs3=>?_) (by simp [hkind]))
  obtain ⟨X3,a13⟩:=changeF (O:=fun a=>a=cenv.locals) (h':=h3) X2 a12 (fun a z=>by rw [z]; exact hC) (fun b o hb e=>hs3.extBut b o hb e) (fun a z=>by subst z; exact ⟨hbC,ns_noseq hn2,.inl ⟨_,hn3⟩⟩)
  have hit3:IsRangeIter h3 I (0 + ((i + 1:Nat):Int) * 1) ((n:Int) - ((i + 1:Nat):Int)) 1:=hs3.extBut _ _ (Ne.symm hCI) hit2
  obtain ⟨n',hn'⟩:∃ n',n - i=n' + 1:=⟨n - i - 1,(Nat.sub_add_cancel (Nat.sub_pos_of_lt hlt)).symm⟩
  rw [hn'] at hgo
  obtain ⟨v,H',l,hev,hpure,hl,hz,hgo'⟩:=iterC_succ hgo
  have hv3:=hvars (i:=i) (t:=t) a13 hn3 (by rw [if_pos rfl,Int.zero_add,Int.mul_one])
  refine wpAny_with_toks (n:=1) (Nat.succ_pos _) ((ihe (Nat.succ_pos _) hev X3 hv3).1 _ fun val h4 tk4 σ4 X4 a4 q4 hp4=>?_)
  have hn4:h4.Ns cenv.locals _:=ns_step a4.step hn3 fun z=>z.elim (fun z=>by obtain ⟨arr,k,q⟩:=X3.live_seq z; exact ns_noseq hn3 _ q ⟨_,_,rfl⟩) fun z=>z
  have hit4:IsRangeIter h4 I (0 + ((i + 1:Nat):Int) * 1) ((n:Int) - ((i + 1:Nat):Int)) 1 :=
   a4.step.seq (fun z=>z.elim (fun z=>by obtain ⟨arr,k,q⟩:=X3.live_seq z; exact ri_noseq hit3 _ q ⟨_,_,rfl⟩) fun z=>z) hit3 (fun es k q=>by cases q)
  have hd4:σ4[j]?=some D:=a4.pre _ _ hd
  have hj:=hget_iff hl
  obtain ⟨D',arr,k,h1,h2',h3',h4'⟩:=X4.objs j l hj
  rw [hd4] at h1; cases h1
  have hlim:c.lim j=none:=X4.loc j hbj
  rw [hlim] at h4'
  refine wpAny_list_append_plain ⟨k,h2'⟩ (fun h5 hl5 hs5=>?_) (Nat.le_trans h3' sizeLine_cap)
  obtain ⟨k',hl5⟩:=hl5
  have hlen:=h4'.length
  rw [Array.length_toList] at hlen
  obtain ⟨X5,a5⟩:=turn_list (l':=l++[v]) X4 hj hd4 hs5 hl5 (by rw [Array.size_push,hlen]; exact hz) (by
   rw [hlim,Array.toList_push]
   exact VRs.append (.cons q4 .nil) h4')
  have hDC:cenv.locals≠D:=by rintro q; exact ns_noseq hn4 _ (q ▸ h2') ⟨_,_,rfl⟩
  have hDI:I≠D:=by rintro q; exact ri_noseq hit4 _ (q ▸ h2') ⟨_,_,rfl⟩
  refine ⟨n - (i + 1),Nat.sub_lt_sub_left hlt (Nat.lt_succ_self i),i + 1,rfl,⟨h5,tk4,σ4,_,_,rfl,hp4,X5,(a13.trans a4).trans a5,ns_keep hn4 fun o e=>hs5.extBut _ o hDC e,hs5.extBut _ _ hDI hit4,hd4,?_,hlt⟩⟩
  rw [show n - (i + 1)=n' from congrArg Nat.pred hn']
  exact hgo'
 ·have hin:i=n:=Nat.le_antisymm hle (Nat.le_of_not_lt hlt)
  subst hin
  refine wpAny_with_toks (n:=1) hp (W.done _ _ _ hit fun h2 tk2 hk2 hp2=>?_)
  rw [Nat.sub_self] at hgo
  obtain rfl:=Option.some.inj hgo
  have hn2:h2.Ns cenv.locals m:=ns_keep hn fun o e=>hk2 _ o (by simpa using hCI) e
  obtain ⟨X2,a2⟩:=changeF (O:=fun a=>a=I) (h':=h2) X1 a1 (fun a z=>by rw [z]; exact hI) (fun b o hb e=>hk2 b o (by simpa using hb) e) (fun a z=>by subst z; exact ⟨hbI,ri_noseq hit,.inr hfI⟩)
  exact hR h2 tk2 σ1 m hp2 X2 a2 hn2 hd
set_option tactic.hygienic true in
theorem relabel_lookup (env:Env) (z:Str):∀ (names:List (Str × NameKind)),(names.map fun (n,k)=>if (k==NameKind.free&&env.scope.kind==.function&&env.kindOf n==some .cell) then (n,NameKind.cell) else (n,k)).lookup z =
  (names.lookup z).map fun k=>if (k==NameKind.free&&env.scope.kind==.function&&env.kindOf z==some .cell) then NameKind.cell else k
 | []=>rfl
 | (n,k) :: r=>by
  have ih:=relabel_lookup env z r
  rw [List.map_cons]
  cases hx:z==n with
  | true =>
   have:z=n:=by simpa using hx
   subst this
   dsimp only
   split
   ·rename_i h; simp only [List.lookup_cons,beq_self_eq_true,Option.map_some,h,if_true]
   ·rename_i h; simp only [List.lookup_cons,beq_self_eq_true,Option.map_some,h,Bool.false_eq_true,if_false]
  | false =>
   dsimp only
   split
   ·simp only [List.lookup_cons,hx]; exact ih
   ·simp only [List.lookup_cons,hx]; exact ih
theorem kind_rel {env:Env} {scope:Scope} {cl:List (Str × Addr)} {C:Addr} (z:Str):(compEnvC scope cl C env).kindOf z=(scope.names.lookup z).map fun k=>if (k==NameKind.free&&env.scope.kind==.function&&env.kindOf z==some .cell) then NameKind.cell else k :=
 relabel_lookup env z scope.names
set_option tactic.hygienic true in
theorem rel_cases {env:Env} {scope:Scope} {cl:List (Str × Addr)} {C:Addr} {z:Str} {k:NameKind} (h:(compEnvC scope cl C env).kindOf z=some k):∃ k0,scope.names.lookup z=some k0∧(k=k0∨(k0=.free∧k=.cell)):=by
 rw [kind_rel,Option.map_eq_some_iff] at h
 obtain ⟨k0,e,h⟩:=h
 refine ⟨k0,e,?_⟩
 split at h
 ·rename_i hc
  simp only [Bool.and_eq_true,beq_iff_eq] at hc
  exact .inr ⟨hc.1.1,h.symm⟩
 ·exact .inl h.symm
structure CompChk (nm:List Txt) (kd:Str→Option NameKind) (x:Nat) (y:Str) (scope:Scope):Prop where
 loc:isLoc nm x y=true
 kind:scope.kind=.function
 loopv:scope.names.lookup y=some .local
 nocell:∀ z∈scope.names,z.2≠.cell
 locals:∀ z∈scope.names,z.2=.local→(z.1=y∨tx z.1=[46,48])∧scope.names.lookup z.1=some .local
 nodot:[46,48]∉nm
 free:∀ z∈scope.names,z.2=.free→kd z.1=some .cell∨kd z.1=some .free
theorem CompChk.env {nm:List Txt} {kd:Str→Option NameKind} {x:Nat} {y:Str} {scope:Scope} (K:CompChk nm kd x y scope) {env:Env} (eo:EnvOk env) (ko:KdOk kd env) (hnd:nm.Nodup) :
  ∃ cl,closureFor scope env=pure cl∧∀ C,EnvOk (compEnvC scope cl C env)∧KdOk (fun z=>scope.names.lookup z) (compEnvC scope cl C env) ∧
   ∀ {h':Heap} {σ':List Addr} {H':Hp} {loc:Loc} {m:Str→Option Value} {i:Int} {t:Tok},Vars nm env h' σ' H' loc→h'.Ns C m→m y=some (.int i t)→Vars nm (compEnvC scope cl C env) h' σ' H' (loc.set x (some (.int i))):=by
 have hfree:∀ z∈scope.names,z.2=.free→env.kindOf z.1=some .cell∨env.kindOf z.1=some .free:=fun z hz hf=>ko.cf _ (K.free z hz hf)
 obtain ⟨cl,hcl,q1,q2⟩:=closure_ok (scope:=scope) (env:=env) fun z hz hf=>eo.cells _ (hfree z hz hf)
 refine ⟨cl,hcl,fun C=>⟨⟨K.kind,eo.glob,eo.blt,fun z hz=>?_⟩,⟨fun z hz=>?_,fun z hz=>?_,fun z hz=>?_⟩,fun {h' σ' H' loc m i t} hv hn hm k v hk z hz hkz=>?_⟩⟩
 ·have:scope.names.lookup z=some .free:=by
   rcases hz with hz | hz <;> obtain ⟨k0,e,h | h⟩:=rel_cases hz
   ·subst h; exact absurd rfl (K.nocell _ (PySem.mem_of_lookup e))
   ·rw [e,h.1]
   ·subst h; exact e
   ·cases h.2
  exact q2 _ (PySem.mem_of_lookup this) rfl
 ·rw [kind_rel,hz]; rfl
 ·rw [kind_rel]
  cases e:scope.names.lookup z with
  | none=>rw [e] at hz; cases hz
  | some k0 =>
   rw [e] at hz
   simp only [Option.map_some]
   split
   ·rfl
   ·exact hz
 ·rw [kind_rel]
  rcases hz with hz | hz <;> rw [hz] <;> simp only [Option.map_some] <;> split <;> simp
 ·obtain ⟨hl1,hl2,hl3⟩:=isLoc_iff K.loc
  by_cases hkx:k=x
  ·subst hkx
   have hlt:k < loc.length:=by
    have:=(List.getElem?_eq_some_iff.mp hk).1
    simpa using this
   rw [List.getElem?_set_self hlt] at hk
   simp only [Option.some.injEq] at hk
   subst hk
   rw [hl1] at hz
   have:y=z:=tx_inj (Option.some.inj hz)
   subst this
   refine ⟨_,.inl ⟨?_,m,hn,hm⟩,.int i t⟩
   rw [kind_rel,K.loopv]; rfl
  ·rw [List.getElem?_set_ne (fun q=>hkx q.symm)] at hk
   cases e:(compEnvC scope cl C env).kindOf z with
   | none=>rw [e] at hkz; cases hkz
   | some k1 =>
    obtain ⟨k0,e0,h0⟩:=rel_cases e
    have hmem:=PySem.mem_of_lookup e0
    have hf:k0=.free:=by
     rw [e] at hkz
     rcases h0 with rfl | ⟨h0,_⟩
     ·cases k1 <;> first | cases hkz | skip
      ·exfalso
       rcases (K.locals _ hmem rfl).1 with q | q
       ·rw [show z=y from q,← hl1] at hz
        have h1:=(List.getElem?_eq_some_iff.mp hl1).1
        obtain ⟨h2,_⟩:=List.getElem?_eq_some_iff.mp (hz.trans hl1)
        have:nm[k]=nm[x]:=by
         have e1:=List.getElem?_eq_getElem h2
         have e2:=List.getElem?_eq_getElem h1
         rw [e1,e2] at hz
         exact Option.some.inj hz
        exact hkx ((List.getElem_inj hnd).mp this)
       ·have:=List.mem_of_getElem? hz
        rw [show tx z=[46,48] from q] at this
        exact K.nodot this
      ·exact absurd rfl (K.nocell _ hmem)
      ·rfl
     ·exact h0
    subst hf
    have hek:=hfree _ hmem rfl
    obtain ⟨val,hla,hr⟩:=hv k v hk z hz (by rcases hek with h | h <;> (have h':env.kindOf z=_:=h; rw [h']; rfl))
    refine ⟨val,.inr ⟨?_,?_⟩,hr⟩
    ·rcases h0 with rfl | ⟨_,rfl⟩
     ·exact .inr e
     ·exact .inl e
    ·rcases hla with ⟨hl,_⟩ | ⟨_,a,ha,hc⟩
     ·rcases hek with h | h <;> (have h':env.kindOf z=_:=h; rw [h'] at hl; cases hl)
     ·obtain ⟨a',ha'⟩:=q2 _ hmem rfl
      have:=q1 _ (PySem.mem_of_lookup ha')
      have ha'':env.cells.lookup z=some a':=this
      rw [ha] at ha''
      cases ha''
      exact ⟨a,ha',hc⟩
noncomputable def cmpB (nm:List Txt) (kd:Str→Option NameKind) (e:Mine.E) (x:Nat) (n:Mine.E) (elt k:Expr) (y id:Str) (scope:Scope):Bool :=
 isGlob kd id [114,97,110,103,101]&&isLoc nm x y&&chkE nm kd n k&&chkE nm (fun z=>scope.names.lookup z) e elt &&
   scope.kind==.function&&scope.names.lookup y==some .local&&scope.names.all (fun z=>z.2 != .cell) &&
   scope.names.all (fun z=>z.2 != .local||((z.1==y||tx z.1==[46,48])&&scope.names.lookup z.1==some .local))&&!nm.contains [46,48] &&
   scope.names.all (fun z=>z.2 != .free||kd z.1==some .cell||kd z.1==some .free)&&notStar k
@[elab_as_elim] theorem ce_comp {nm:List Txt} {kd:Str→Option NameKind} {e:Mine.E} {x:Nat} {n:Mine.E} {ex:Expr} {P:Expr→Prop} (h:chkE nm kd (.comp e x n) ex=true)
  (K:∀ elt y p id q k cpos scope pos,cmpB nm kd e x n elt k y id scope=true→P (.ListComp elt [⟨.Name y p,.Call (.Name id q) [k] [] cpos,[],0⟩] scope pos)):P ex:=by
 refine oLc_e h fun elt gs scope pos h=>?_
 refine one_e h fun g h=>?_
 obtain ⟨gt,gi,gf,ga⟩:=g
 dsimp only at h
 refine oN_e h fun y p h=>?_
 refine oCa_e h fun f as ks cpos h=>?_
 refine nilB_e h fun h=>?_
 refine oN_e h fun id q h=>?_
 refine one_e h fun k h=>?_
 refine nilB_e h fun h=>?_
 refine isIt_e h fun h=>?_
 exact K elt y p id q k cpos scope pos h
theorem cmpB_ok {nm:List Txt} {kd:Str→Option NameKind} {e:Mine.E} {x:Nat} {n:Mine.E} {elt k:Expr} {y id:Str} {scope:Scope} (h:cmpB nm kd e x n elt k y id scope=true) :
  CompChk nm kd x y scope∧isGlob kd id [114,97,110,103,101]=true∧chkE nm kd n k=true∧chkE nm (fun z=>scope.names.lookup z) e elt=true∧notStar k=true:=by
 refine an h fun h h11=>an h fun h h10=>an h fun h h9=>an h fun h h8=>an h fun h h7=>an h fun h h6=>an h fun h h5=>an3 h fun h1 h2 h3 h4=>?_
 refine ⟨⟨h2,beq_iff_eq.mp h5,beq_iff_eq.mp h6,fun z hz=>bne_iff_ne.mp (List.all_eq_true.mp h7 z hz),fun z hz hl=>?_,fun z=>?_,fun z hz hf=>?_⟩,h1,h3,h4,h11⟩
 ·have q:=(Bool.or_eq_true_iff.mp (List.all_eq_true.mp h8 z hz)).resolve_left fun q=>bne_iff_ne.mp q hl
  exact an q fun q1 q2=>⟨(Bool.or_eq_true_iff.mp q1).imp beq_iff_eq.mp beq_iff_eq.mp,beq_iff_eq.mp q2⟩
 ·rw [show nm.contains [46,48]=true from List.elem_eq_true_of_mem z] at h9; cases h9
 ·exact (Bool.or_eq_true_iff.mp (List.all_eq_true.mp h10 z hz)).imp (fun q=>beq_iff_eq.mp ((Bool.or_eq_true_iff.mp q).resolve_left fun q=>bne_iff_ne.mp q hf)) beq_iff_eq.mp
inductive CompI (nm:List Txt) (kd:Str→Option NameKind) (e:Mine.E) (x:Nat) (n:Mine.E) (ex:Expr):Prop
 | mk (elt:Expr) (y:Str) (p:Pos) (id:Str) (q:Pos) (k:Expr) (cpos:Pos) (scope:Scope) (pos:Pos):ex=.ListComp elt [⟨.Name y p,.Call (.Name id q) [k] [] cpos,[],0⟩] scope pos→CompChk nm kd x y scope→isGlob kd id [114,97,110,103,101]=true →
  chkE nm kd n k=true→chkE nm (fun z=>scope.names.lookup z) e elt=true→notStar k=true→CompI nm kd e x n ex
theorem chk_comp {nm:List Txt} {kd:Str→Option NameKind} {e:Mine.E} {x:Nat} {n:Mine.E} {ex:Expr} (h:chkE nm kd (.comp e x n) ex=true) :
  CompI nm kd e x n ex:=by
 refine ce_comp h fun elt y p id q k cpos scope pos h=>?_
 have h:=cmpB_ok h
 exact ⟨elt,y,p,id,q,k,cpos,scope,pos,rfl,h.1,h.2.1,h.2.2.1,h.2.2.2.1,h.2.2.2.2⟩
noncomputable def compV (ev:Nat→Hp→Option (Res V)) (v:V) (H:Hp):Option (Res V):=match v with
 | .int k=>if 0≤k∧k≤capL then
   (match iterC ev H.length k.toNat 0 (H++[some []]) with
   | some H'=>(match hget H' H.length with | some l=>if V.pures l then some (.ok (.lst l) (H'.set H.length .none)) else .none | .none=>.none)
   | .none=>.none) else .none
 | _=>.none
inductive CompV (ev:Nat→Hp→Option (Res V)) (v:V) (H:Hp) (r:Res V):Prop
 | mk (k:Int) (H2:Hp) (l:List V):v=.int k→0≤k→k≤capL→iterC ev H.length k.toNat 0 (H++[some []])=some H2→hget H2 H.length=some l→V.pures l=true→r=.ok (.lst l) (H2.set H.length .none)→CompV ev v H r
theorem compV_inv {ev:Nat→Hp→Option (Res V)} {v:V} {H:Hp} {r:Res V} (h:compV ev v H=some r):CompV ev v H r:=by
 obtain ⟨k,rfl,h⟩:=mv_int h
 obtain ⟨hk,h⟩:=mi_p h
 cases hi:iterC ev H.length k.toNat 0 (H++[some []]) with
 | none=>rw [hi] at h; exact (noS h).elim
 | some H2 =>
  rw [hi] at h
  dsimp only at h
  cases hl:hget H2 H.length with
  | none=>rw [hl] at h; exact (noS h).elim
  | some l =>
   rw [hl] at h
   obtain ⟨hp,h⟩:=mi_some h
   exact ⟨k,H2,l,rfl,hk.1,hk.2,hi,hl,hp,(Option.some.inj h).symm⟩
theorem size_none (h:Heap) {a:Addr} (ha:h.objs.size≤a):h.get? a=none:=by
 cases e:h.get? a with
 | none=>rfl
 | some o=>exact absurd (Heap.lt_size e) (Nat.not_lt.mpr ha)
theorem Adv.old {O:Addr→Prop} {h h':Heap} {σ σ':List Addr} {H H':Hp} (x:Adv O h σ H h' σ' H') {a:Addr} (e:h'.get? a=none):h.get? a=none:=by
 cases q:h.get? a with
 | none=>rfl
 | some o=>obtain ⟨o',e'⟩:=x.dom a o q; rw [e] at e'; cases e'
theorem compCore {n':Nat} (R:Rdy prog w c A call n') {elt k:Expr} {y id:Str} {p q cpos pos fp:Pos} {scope:Scope} {e n:Mine.E} {x:Nat} {nm:List Txt} {kd:Str→Option NameKind} {loc:Loc} {env:Env} {s:Shared} {σ:List Addr} {H:Hp} {r:Res V}
  {use:Option (Value→PySem.Sem Unit)} {Q E:Value→Shared→Prop}
  (eo:EnvOk env) (ko:KdOk kd env) (hnd:nm.Nodup) (ht:0 < s.toks) (K:CompChk nm kd x y scope) (hg:isGlob kd id [114,97,110,103,101]=true) (hs:notStar k=true) (X:c.Ok s.heap σ H) (hv:Vars nm env s.heap σ H loc)
  (ihn:∀ r1,evE call c.b loc n H=some r1→∀ E',Both prog w A env c s σ H E' k r1)
  (ihe:∀ {s1:Shared} {σ1:List Addr} {H1:Hp} {E1:Value→Shared→Prop} {env1:Env} {loc1:Loc} {r1:Res V},EnvOk env1→KdOk (fun z=>scope.names.lookup z) env1→0 < s1.toks→evE call c.b loc1 e H1=some r1→c.Ok s1.heap σ1 H1→Vars nm env1 s1.heap σ1 H1 loc1→Both prog w A env1 c s1 σ1 H1 E1 elt r1)
  (hb:evE call c.b loc (.comp e x n) H=some r) (hx:∀ H1,r=.exc H1→ExcK c s σ H E H1)
  (KK:∀ l H2 j D C h' tk σ',r=.ok (.lst l) (H2.set j none)→V.pures l=true→H2[j]?=some (some l)→σ'[j]?=some D→0 < tk→c.Ok h' σ' H2→Adv No s.heap σ H h' σ' H2→s.heap.get? C=none→(∃ m,h'.Ns C m)→c.base.get? C=none →
   (∀ env∈c.envs,env.frame≠some C)→compPost (model prog w) A E use Q (.ref D) C (.ok .next) (sU s h' tk)) :
  wpAny (model prog w) A (comprehension (.ListComp elt [⟨.Name y p,.Call (.Name id q) [k] [] cpos,[],0⟩] scope pos) scope env fp (newList []) false (eval (.Call (.Name id q) [k] [] cpos) env) use) Q E s:=by
 obtain ⟨cl,hcl,hC⟩:=K.env eo ko hnd
 refine wpAny_comprehension_free rfl (fun _=>rfl) hcl K.kind (fun z hz hl=>(K.locals z hz hl).2) ?_
 refine Call_ (name_mb R.G eo (ko.isGlob hg) X R.G.hrange.1 R.G.hrange.2 (PyProof.Rows.callWith_type1 (args_cons (go ht hb hx ihn fun v H1 e1 va h1 tk σ1 hp X1 a1 q1=>args_nil ?_) (notStar_each hs)) (notStar_each hs)))
 obtain ⟨kk,H2,l,rfl,hk0,hk1,hit,hl,hpure,rfl⟩:=compV_inv e1
 clear e1
 obtain ⟨t,rfl⟩:=q1.int_inv
 have hk2:kk≤1048576:=hk1
 refine call_range_1 (wpAny_pyIter_range (IsRange.new ..) (small_one (by omega) (by omega) (by omega) (by omega)) (wpAny_newObj_type (data:=.seq ([]:List Value).toArray) ?_ (Nat.zero_le _)))
 dsimp only
 generalize hhR:h1.push { cls:=.type "range",data:=.fields #[.int 0 tk,.int kk t,.int 1 (tk + 1)] }=hR
 generalize hh2:hR.push { cls:=.type "range_iterator",data:=.fields #[rawInt 0,rawInt (Builtin.Range.rangeSize 0 kk 1),rawInt 1] }=h2
 have k12:∀ b o,h1.get? b=some o→h2.get? b=some o:=fun b o e=>by rw [← hh2]; exact Heap.get?_push_of_some _ (by rw [← hhR]; exact Heap.get?_push_of_some _ e)
 have g:Grow c.base h1 h2:=grow_keeps X1.stays k12
 have X2:=X1.grow g
 have a2:=a1.trans (g.adv σ1 H1)
 have hIn:h1.get? hR.objs.size=none:=size_none _ (by rw [← hhR,Heap.size_push]; exact Nat.le_succ _)
 obtain ⟨X3,a3⟩:=open_list (l:=[]) (vs:=[]) X2 .nil (Nat.zero_le _)
 have a13:=a2.trans a3
 change wpAny _ _ (newFunctionEnv scope env.globals cl [] env.qual none .none (some env)) _ _ (sU s (h2.push (LstO [].toArray 0)) (tk + 1 + 1))
 generalize hh3:h2.push (LstO [].toArray 0)=h3 at X3 a3 a13
 refine wpAny_newFunctionEnv K.nocell (fun z hz=>nomatch hz) (fun h4 hn4 hs4=>?_) K.kind
 dsimp only at hn4 hs4 ⊢
 have k34:∀ b o,h3.get? b=some o→h4.get? b=some o:=fun b o e=>hs4.extBut b o (Nat.ne_of_lt (Heap.lt_size e)) (Heap.get?_push_of_some _ e)
 have g4:Grow c.base h3 h4:=grow_keeps X3.stays k34
 have X4:=X3.grow g4
 have a4:=a13.trans (g4.adv (σ1++[h2.objs.size]) (H1++[some []]))
 have hI4:h4.get? hR.objs.size=some { cls:=.type "range_iterator",data:=.fields #[rawInt 0,rawInt (Builtin.Range.rangeSize 0 kk 1),rawInt 1] } :=
  k34 _ _ (by rw [← hh3]; exact Heap.get?_push_of_some _ (by rw [← hh2]; exact Heap.get?_push_size _ rfl))
 have hC3:h3.get? h3.objs.size=none:=size_none _ (Nat.le_refl _)
 have hsC:s.heap.get? h3.objs.size=none:=a13.old hC3
 have hsI:s.heap.get? hR.objs.size=none:=a1.old hIn
 have hCI:h3.objs.size≠hR.objs.size:=by
  rw [← hh3,Heap.size_push,← hh2,Heap.size_push]; omega
 have hsz:Builtin.Range.rangeSize 0 kk 1=((kk.toNat:Nat):Int):=by rw [rangeSize_one]; split <;> omega
 have hj:c.b≤H1.length:=by rw [X1.len]; exact X1.blen
 obtain ⟨eo',ko',hvars⟩:=hC h3.objs.size
 have loop:∀ s3:Shared,s3=(sU s h4 (tk + 1 + 1 + ([]:List (Str × Value)).length)) →
   codeAny (model prog w) A (.compLoop (.ListComp elt [⟨.Name y p,.Call (.Name id q) [k] [] cpos,[],0⟩] scope pos) 0 (.ref hR.objs.size) (.ref h2.objs.size) (compEnvC scope cl h3.objs.size env))
    (compPost (model prog w) A E use Q (.ref h2.objs.size) h3.objs.size) s3:=by
  rintro s3 rfl
  refine compLoop (n:=kk.toNat) (j:=H1.length) (x:=x) (e:=e) (Hend:=H2) (nm:=nm) (loc:=loc) (s:=s) (σ:=σ) (H:=H) R.au.handled rfl (by simp [compEnvC,relabel,K.kind]) (by rw [kind_rel,K.loopv]; rfl) hsC hsI hCI (base_none X hsC) (base_none X hsI) (frame_ne X hsC) (frame_ne X hsI) hj
   (fun a hn hm=>hvars (hv.adv0 X a) hn hm) (fun hp' e' X' hv'=>ihe eo' ko' hp' e' X' hv') (fun h' tk' σ' m hp' X' a' hn' hd'=>?_)
   ⟨h4,_,σ1++[h2.objs.size],H1++[some []],_,rfl,by omega,X4,a4,hn4,?_,?_,?_,Nat.zero_le _⟩
  ·have hl':=hget_iff hl
   exact KK l H2 H1.length h2.objs.size h3.objs.size h' tk' σ' rfl hpure hl' hd' hp' X' a' hsC ⟨m,hn'⟩ (base_none X hsC) (frame_ne X hsC)
  ·show h4.get? _=_
   rw [hI4,hsz]
   simp
  ·rw [X1.len,List.getElem?_append_right (Nat.le_refl _)]; simp
  ·rw [Nat.sub_zero]; exact hit
 exact codeAny_compStart_list (loop _ rfl) (wpAny_pyIter_rangeiter hI4 (loop _ rfl))
end
end Mine
end
section
open PySem PySem.W PyProof.Rows PySem.Calls PySem.Builtin.Str
namespace Mine
section
variable {prog:Program} {w:World} {A:Around} {c:Cx} {call:Nat→List V→Hp→Option (Res V)} {n:Nat}
theorem cU (au:AOk c A n):A.units < cLine:=by have:=au.units; omega
theorem cU64 (au:AOk c A n):A.units + 64 < cLine:=by have:=au.units; omega
theorem tell_some {x:Option V} {H:Hp} {r:Res V} (h:tell x H=some r):∃ v,x=some v∧r=.ok v H:=by
 unfold tell at h
 rw [Option.map_eq_some_iff] at h
 obtain ⟨v,e,rfl⟩:=h
 exact ⟨v,e,rfl⟩
noncomputable def V.isN:V→Bool
 | .none=>true
 | _=>false
theorem vr_isNone {h:Heap} {F:Addr→Prop} {σ:List Addr} {val:Value} {v:V} (q:VR h F σ val v):(val==.none)=v.isN:=by
 cases q <;> rfl
theorem nm_find:sOf [102,105,110,100]=Str.ofString "find" := by decide +kernel
theorem nm_replace:sOf [114,101,112,108,97,99,101]=Str.ofString "replace" := by decide +kernel
theorem nm_join:sOf [106,111,105,110]=Str.ofString "join" := by decide +kernel
theorem nm_split:sOf [115,112,108,105,116]=Str.ofString "split" := by decide +kernel
theorem nm_pop:sOf [112,111,112]=Str.ofString "pop" := by decide +kernel
theorem nm_append:sOf [97,112,112,101,110,100]=Str.ofString "append" := by decide +kernel
theorem chkWs_iff {es:List Expr} {ws:List Txt} (h:chkWs es ws=true):constStrs es ws=true∧ws.length≤100∧∀ w∈ws,∀ ch∈w,ch < 1114112:=by
 simp only [chkWs,Bool.and_eq_true,decide_eq_true_eq,List.all_eq_true] at h
 exact ⟨h.1.1,h.1.2,h.2⟩
theorem words_size {vs:List Value} (h:vs.length≤100):vs.toArray.size≤sizeLine:=by
 rw [List.size_toArray]; exact Nat.le_trans h (by decide)
theorem word_lay {h:Heap} {F:Addr→Prop} {σ:List Addr} {y:Str} {t:Tok} {v:V} (q:VR h F σ (.str y t) v):(PyData.str y).canLay0=true:=by
 have:=q.canLay
 cases q with
 | str x t a b=>exact this
 | _=>trivial
theorem words_lay:∀ {ws:List Txt},(∀ w∈ws,∀ ch∈w,ch < 1114112)→PyData.canLayAll0 (ws.map fun t=>PyData.str (sOf t))=true
 | [],_=>rfl
 | t :: ws,h=>by
  simp only [List.map_cons,PyData.canLayAll0,Bool.and_eq_true]
  refine ⟨?_,words_lay fun w hw=>h w (List.mem_cons_of_mem _ hw)⟩
  have:VR {} (fun _=>False) [] (.str (sOf t) 0) (.str (sOf t).cps.toList)∨True:=.inr trivial
  simp only [PyData.canLay0,PyData.strOk,sOf]
  rw [Array.all_eq_true]
  intro i hi
  simp only [decide_eq_true_eq]
  exact h t List.mem_cons_self _ (by simpa using List.getElem_mem (l:=t) (by simpa using hi))
theorem name_is {m:Str} {t:Txt} {z:Str} (h:tx m=t) (e:sOf t=z):m=z:=by rw [← e,← h,sOf_tx]
section
variable {nm:List Txt} {kd:Str→Option NameKind} {x:Expr} {P:Expr→Prop}
@[elab_as_elim] theorem ce_bin {o:Bop} {a b:Mine.E} (h:chkE nm kd (.bin o a b) x=true) (k:∀ l r q,chkE nm kd a l=true→chkE nm kd b r=true→P (.BinOp l (pyBop o) r q)):P x :=
 oBi_e h fun l _ r q h=>isIt_e h fun h=>an h fun h1 h2=>k l r q h1 h2
@[elab_as_elim] theorem ce_million (h:chkE nm kd .million x=true) (k:∀ n1 q1 n2 q2 q,P (.BinOp (.Constant (.int 10) n1 q1) .Pow (.Constant (.int 6) n2 q2) q)):P x :=
 oBi_e h fun _ _ _ q h=>isIt_e h fun h=>oC_e h fun _ n1 q1 h=>isIt_e h fun h=>oC_e h fun _ n2 q2 h=>isIt_e h fun _=>k n1 q1 n2 q2 q
@[elab_as_elim] theorem ce_neg {a:Mine.E} (h:chkE nm kd (.neg a) x=true) (k:∀ y q,chkE nm kd a y=true→P (.UnaryOp .USub y q)):P x :=
 oU_e h fun _ y q h=>isIt_e h fun h=>k y q h
@[elab_as_elim] theorem ce_not {a:Mine.E} (h:chkE nm kd (.not a) x=true) (k:∀ y q,chkE nm kd a y=true→P (.UnaryOp .Not y q)):P x :=
 oU_e h fun _ y q h=>isIt_e h fun h=>k y q h
@[elab_as_elim] theorem ce_and {a b:Mine.E} (h:chkE nm kd (.and a b) x=true) (k:∀ ea eb er pos,chkE nm kd a ea=true→cond er.isEmpty (chkE nm kd b eb) (chkE nm kd b (.BoolOp .And (eb :: er) pos))=true→P (.BoolOp .And (ea :: eb :: er) pos)):P x :=
 oBo_e h fun _ _ pos h=>isIt_e h fun h=>oCons_e h fun ea _ h=>oCons_e h fun eb er h=>an h fun h1 h2=>k ea eb er pos h1 h2
@[elab_as_elim] theorem ce_or {a b:Mine.E} (h:chkE nm kd (.or a b) x=true) (k:∀ ea eb er pos,chkE nm kd a ea=true→cond er.isEmpty (chkE nm kd b eb) (chkE nm kd b (.BoolOp .Or (eb :: er) pos))=true→P (.BoolOp .Or (ea :: eb :: er) pos)):P x :=
 oBo_e h fun _ _ pos h=>isIt_e h fun h=>oCons_e h fun ea _ h=>oCons_e h fun eb er h=>an h fun h1 h2=>k ea eb er pos h1 h2
@[elab_as_elim] theorem ce_ife {c a b:Mine.E} (h:chkE nm kd (.ife c a b) x=true) (k:∀ t y z q,chkE nm kd c t=true→chkE nm kd a y=true→chkE nm kd b z=true→P (.IfExp t y z q)):P x :=
 oIf_e h fun t y z q h=>an h fun h h2=>an h fun h0 h1=>k t y z q h0 h1 h2
@[elab_as_elim] theorem ce_cmp {o:Cop} {a b:Mine.E} (h:chkE nm kd (.cmp o a b) x=true) (k:∀ l r q,notDisp r=true→chkE nm kd a l=true→chkE nm kd b r=true→P (.Compare l [pyCop o] [r] q)):P x :=
 oCm_e h fun l _ _ q h=>isIt_e h fun h=>one_e h fun r h=>an h fun h h2=>an h fun h0 h1=>k l r q h0 h1 h2
@[elab_as_elim] theorem ce_btw {a b d:Mine.E} (h:chkE nm kd (.between a b d) x=true) (k:∀ l m r q,notDisp r=true→chkE nm kd a l=true→chkE nm kd b m=true→chkE nm kd d r=true→P (.Compare l [.Lt,.Lt] [m,r] q)):P x :=
 oCm_e h fun l _ _ q h=>isIt_e h fun h=>two_e h fun m r h=>an h fun h h3=>an3 h fun h0 h0' h1 h2=>k l m r q h0' h1 h2 h3
@[elab_as_elim] theorem ce_isNone {a:Mine.E} (h:chkE nm kd (.isNone a) x=true) (k:∀ l n q1 q,chkE nm kd a l=true→P (.Compare l [.Is] [.Constant .none n q1] q)):P x :=
 oCm_e h fun l _ _ q h=>isIt_e h fun h=>one_e h fun _ h=>oC_e h fun _ n q1 h=>isIt_e h fun h=>k l n q1 q h
@[elab_as_elim] theorem ce_notNone {a:Mine.E} (h:chkE nm kd (.notNone a) x=true) (k:∀ l n q1 q,chkE nm kd a l=true→P (.Compare l [.IsNot] [.Constant .none n q1] q)):P x :=
 oCm_e h fun l _ _ q h=>isIt_e h fun h=>one_e h fun _ h=>oC_e h fun _ n q1 h=>isIt_e h fun h=>k l n q1 q h
@[elab_as_elim] theorem ce_isNil {a:Mine.E} (h:chkE nm kd (.isNil a) x=true) (k:∀ l q1 q,chkE nm kd a l=true→P (.Compare l [.Eq] [.List [] q1] q)):P x :=
 oCm_e h fun l _ _ q h=>isIt_e h fun h=>one_e h fun _ h=>oL_e h fun _ q1 h=>nilB_e h fun h=>k l q1 q h
@[elab_as_elim] theorem ce_notNil {a:Mine.E} (h:chkE nm kd (.notNil a) x=true) (k:∀ l q1 q,chkE nm kd a l=true→P (.Compare l [.NotEq] [.List [] q1] q)):P x :=
 oCm_e h fun l _ _ q h=>isIt_e h fun h=>one_e h fun _ h=>oL_e h fun _ q1 h=>nilB_e h fun h=>k l q1 q h
@[elab_as_elim] theorem ce_inC {a:Mine.E} {ws:List Txt} (h:chkE nm kd (.inC a ws) x=true) (k1:∀ l es n q1 q,chkE nm kd a l=true→chkWs es ws=true→P (.Compare l [.In] [.Tuple es n q1] q)) (k2:∀ l es q1 q,chkE nm kd a l=true→chkWs es ws=true→P (.Compare l [.In] [.List es q1] q)):P x :=
 oCm_e h fun l _ _ q h=>isIt_e h fun h=>one_e h fun _ h=>an h fun h1 h=>(Bool.or_eq_true_iff.mp h).elim (fun h=>oT_e h fun es n q1 h=>k1 l es n q1 q h1 h) fun h=>oL_e h fun es q1 h=>k2 l es q1 q h1 h
@[elab_as_elim] theorem ce_ninC {a:Mine.E} {ws:List Txt} (h:chkE nm kd (.ninC a ws) x=true) (k1:∀ l es n q1 q,chkE nm kd a l=true→chkWs es ws=true→P (.Compare l [.NotIn] [.Tuple es n q1] q)):P x :=
 oCm_e h fun l _ _ q h=>isIt_e h fun h=>one_e h fun _ h=>an h fun h1 h=>oT_e h fun es n q1 h=>k1 l es n q1 q h1 h
@[elab_as_elim] theorem ce_call {f:Nat} {es:Mine.Es} (h:chkE nm kd (.call f es) x=true) (k:∀ id np as pos,fnm f=some (tx id)→kd id=some .globalImplicit→id≠("__debug__" : Str)→chkEs nm kd es as=true→P (.Call (.Name id np) as [] pos)):P x :=
 oCa_e h fun _ as _ pos h=>nilB_e h fun h=>oN_e h fun id np h=>an3 h fun h1 h2 h3 h4=>k id np as pos (beq_iff_eq.mp h1) (beq_iff_eq.mp h2) (bne_iff_ne.mp h3) h4
@[elab_as_elim] theorem ce_len {a:Mine.E} (h:chkE nm kd (.len a) x=true) (k:∀ id np y pos,notStar y=true→isGlob kd id [108,101,110]=true→chkE nm kd a y=true→P (.Call (.Name id np) [y] [] pos)):P x :=
 oCa_e h fun _ _ _ pos h=>nilB_e h fun h=>oN_e h fun id np h=>one_e h fun y h=>an h fun h h3=>an h fun h1 h2=>k id np y pos h1 h2 h3
@[elab_as_elim] theorem ce_toStr {a:Mine.E} (h:chkE nm kd (.toStr a) x=true) (k:∀ id np y pos,notStar y=true→isGlob kd id [115,116,114]=true→chkE nm kd a y=true→P (.Call (.Name id np) [y] [] pos)):P x :=
 oCa_e h fun _ _ _ pos h=>nilB_e h fun h=>oN_e h fun id np h=>one_e h fun y h=>an h fun h h3=>an h fun h1 h2=>k id np y pos h1 h2 h3
@[elab_as_elim] theorem ce_toInt {a:Mine.E} (h:chkE nm kd (.toInt a) x=true) (k:∀ id np y pos,notStar y=true→isGlob kd id [105,110,116]=true→chkE nm kd a y=true→P (.Call (.Name id np) [y] [] pos)):P x :=
 oCa_e h fun _ _ _ pos h=>nilB_e h fun h=>oN_e h fun id np h=>one_e h fun y h=>an h fun h h3=>an h fun h1 h2=>k id np y pos h1 h2 h3
@[elab_as_elim] theorem ce_find {a b:Mine.E} (h:chkE nm kd (.find a b) x=true) (k:∀ o ap y pos,methOk o ap pos=true→notStar y=true→chkE nm kd a o=true→chkE nm kd b y=true→P (.Call (.Attribute o (Str.ofString "find") ap) [y] [] pos)):P x :=
 oCa_e h fun _ _ _ pos h=>nilB_e h fun h=>oA_e h fun o m ap h=>one_e h fun y h=>an h fun h h5=>an3 h fun h1 h2 h3 h4=>by
  rw [name_is (beq_iff_eq.mp h3) nm_find]; exact k o ap y pos h1 h2 h4 h5
@[elab_as_elim] theorem ce_join {a b:Mine.E} (h:chkE nm kd (.join a b) x=true) (k:∀ o ap y pos,methOk o ap pos=true→notStar y=true→chkE nm kd a o=true→chkE nm kd b y=true→P (.Call (.Attribute o (Str.ofString "join") ap) [y] [] pos)):P x :=
 oCa_e h fun _ _ _ pos h=>nilB_e h fun h=>oA_e h fun o m ap h=>one_e h fun y h=>an h fun h h5=>an3 h fun h1 h2 h3 h4=>by
  rw [name_is (beq_iff_eq.mp h3) nm_join]; exact k o ap y pos h1 h2 h4 h5
@[elab_as_elim] theorem ce_split {a b:Mine.E} (h:chkE nm kd (.split a b) x=true) (k:∀ o ap y pos,methOk o ap pos=true→notStar y=true→chkE nm kd a o=true→chkE nm kd b y=true→P (.Call (.Attribute o (Str.ofString "split") ap) [y] [] pos)):P x :=
 oCa_e h fun _ _ _ pos h=>nilB_e h fun h=>oA_e h fun o m ap h=>one_e h fun y h=>an h fun h h5=>an3 h fun h1 h2 h3 h4=>by
  rw [name_is (beq_iff_eq.mp h3) nm_split]; exact k o ap y pos h1 h2 h4 h5
@[elab_as_elim] theorem ce_replace {a:Mine.E} {c:Nat} {t:Txt} (h:chkE nm kd (.replace a c t) x=true) (k:∀ o ap y n1 q1 z n2 q2 pos,methOk o ap pos=true→tx y=[c]→tx z=t→chkE nm kd a o=true→(∀ c∈t,c < 1114112)→P (.Call (.Attribute o (Str.ofString "replace") ap) [.Constant (.str y) n1 q1,.Constant (.str z) n2 q2] [] pos)):P x :=
 oCa_e h fun _ _ _ pos h=>nilB_e h fun h=>oA_e h fun o m ap h=>two_e h fun _ _ h=>oC_e h fun _ n1 q1 h=>cS_e h fun y h=>oC_e h fun _ n2 q2 h=>cS_e h fun z h=>an h fun h h6=>an h fun h h5=>an3 h fun h1 h2 h3 h4=>by
  rw [name_is (beq_iff_eq.mp h1) nm_replace]; exact k o ap y n1 q1 z n2 q2 pos h2 (beq_iff_eq.mp h3) (beq_iff_eq.mp h4) h5 fun c hc=>of_decide_eq_true (List.all_eq_true.mp h6 c hc)
@[elab_as_elim] theorem ce_pop {a:Mine.E} (h:chkE nm kd (.pop a) x=true) (k:∀ o ap pos,methOk o ap pos=true→chkE nm kd a o=true→P (.Call (.Attribute o (Str.ofString "pop") ap) [] [] pos)):P x :=
 oCa_e h fun _ _ _ pos h=>nilB_e h fun h=>oA_e h fun o m ap h=>nilB_e h fun h=>an h fun h h3=>an h fun h1 h2=>by
  rw [name_is (beq_iff_eq.mp h2) nm_pop]; exact k o ap pos h1 h3
@[elab_as_elim] theorem ce_idx {a b:Mine.E} (h:chkE nm kd (.idx a b) x=true) (k:∀ v i q,notSl i=true→chkE nm kd a v=true→chkE nm kd b i=true→P (.Subscript v i q)):P x :=
 oSu_e h fun v i q h=>an h fun h h2=>an h fun h0 h1=>k v i q h0 h1 h2
@[elab_as_elim] theorem ce_sl {a lo hi:Mine.E} (h:chkE nm kd (.sl a lo hi) x=true) (k:∀ v el eu p2 q,chkE nm kd a v=true→(match el with | some x=>chkE nm kd lo x | none=>isNoE lo)=true→(match eu with | some x=>chkE nm kd hi x | none=>isNoE hi)=true→P (.Subscript v (.Slice el eu none p2) q)):P x :=
 oSu_e h fun v _ q h=>oSl_e h fun el eu _ p2 h=>oNone_e h fun h=>an h fun h h3=>an h fun h1 h2=>k v el eu p2 q h1 h2 h3
end
section
variable {call:Nat→List V→Hp→Option (Res V)} {b:Nat} {l:Loc} {H:Hp} {r:Res V}
theorem ev_loc_inv {x:Nat} (h:evE call b l (.loc x) H=some r):∃ v,l[x]?=some (some v)∧r=.ok v H:=by
 have h:(match l[x]? with | some (some v)=>some (Res.ok v H) | _=>.none)=some r:=h
 generalize l[x]?=o at h ⊢
 rcases o with _ | _ | v
 ·exact (noS h).elim
 ·exact (noS h).elim
 ·cases h; exact ⟨v,rfl,rfl⟩
set_option tactic.hygienic true in
theorem ev_seal_inv {x:Nat} (h:evE call b l (.seal x) H=some r):∃ i m,l[x]?=some (some (.ref i))∧hget H i=some m∧V.pures m=true∧r=.ok (.lst m) (H.set i .none):=by
 have h:(match l[x]? with | some (some (.ref i))=>(match hget H i with | some m=>if V.pures m&&decide (b≤i) then some (Res.ok (.lst m) (H.set i .none)) else .none | .none=>.none) | _=>.none)=some r:=h
 generalize l[x]?=o at h ⊢
 rcases o with _ | _ | v
 ·exact (noS h).elim
 ·exact (noS h).elim
 cases v <;> first | exact (noS h).elim | skip
 rename_i i
 have h:(match hget H i with | some m=>if V.pures m&&decide (b≤i) then some (Res.ok (.lst m) (H.set i .none)) else .none | .none=>.none)=some r:=h
 cases hg:hget H i with
 | none=>rw [hg] at h; exact (noS h).elim
 | some m =>
  rw [hg] at h
  obtain ⟨h1,h2⟩:=mi_some h
  cases h2
  exact ⟨i,m,rfl,hg,(Bool.and_eq_true_iff.mp h1).1,rfl⟩
end
theorem star_none {env:Env} {nm:List Txt} {kd:Str→Option NameKind} {pos:Pos}:∀ {es:Es} {xs:List Expr},chkEs nm kd es xs=true→(backTo pos (starEach xs env)).any (·.1)=false
 | .nil,xs,h=>by
  cases List.isEmpty_iff.mp h; rfl
 | .cons e es,xs,h=>by
  refine oCons_e h fun _ _ h=>?_
  simp only [Bool.and_eq_true] at h
  rw [notStar_each h.1.1]
  exact (Bool.false_or _).trans (star_none h.2)
theorem call_fn {M:Model} {s:Shared} {E:Value→Shared→Prop} {Q:Value→Shared→Prop} {env:Env} {pos:Pos} {f:Addr} {o:Obj} {fd:FuncData} {xs:List Expr} (hdat:o.data=.func fd)
  (h:wpAny M A (spliced (backTo pos (starEach xs env))) (fun vs s₁=>s₁.heap.get? f=some o∧wpAny M A (PySem.call (.ref f) vs) Q E s₁) E s) (hs:(backTo pos (starEach xs env)).any (·.1)=false) :
  wpAny M A (callWith pos (.ref f) [] (backTo pos (starEach xs env)) []) Q E s:=by
 generalize backTo pos (starEach xs env)=ts at h hs
 cases ts with
 | nil =>
  refine callWith_function (o:=o) (fd:=fd) ?_
  unfold evalArgs
  show wpAny M A (spliced [] >>= _) _ E s
  refine wpAny_bind (wpAny_mono h (fun vs s₁ h₁=>wpAny_bind (wpAny_pure ?_)) fun _ _ x=>x)
  refine wpAny_holding ?_
  exact wpAny_bind (wpAny_pure (wpAny_bind (wpAny_pure (wpAny_pure ⟨⟨h₁.1,hdat⟩,h₁.2⟩))))
 | cons t ts =>
  obtain ⟨b,t⟩:=t
  simp only [List.any_cons,Bool.or_eq_false_iff] at hs
  obtain ⟨rfl,_⟩:=hs
  exact callWith_function (o:=o) (fd:=fd) (evalArgs_plain (wpAny_mono h (fun vs s₁ h₁=>⟨⟨h₁.1,hdat⟩,h₁.2⟩) fun _ _ x=>x))
theorem methStr {s:Shared} {σ:List Addr} {E:Value→Shared→Prop} {Q:Value→Shared→Prop} {K:Addr→Prop} {pl:PySem.Sem Bool} {pos:Pos} {env:Env} {va:Value} {sx:Txt} {id:String} {name:Str} {x:Expr} {rest:List Expr}
  (slot:Slot "str" name id) (ty:typeOf (.builtin id)=pure (.type "method_descriptor")) (q:VR s.heap K σ va (.str sx)) (hs:notStar x=true) (hr:(backTo pos (starEach rest env)).any (·.1)=false)
  (h:wpAny (model prog w) A (spliced (backTo pos (starEach (x :: rest) env))) (fun vs s₁=>wpAny (model prog w) A (PySem.call (.builtin id) ([va]++vs)) Q E s₁) E s) :
  wpAny (model prog w) A (getMethod va name pl) (fun fx s₂=>wpAny (model prog w) A (callWith pos fx.1 fx.2 (backTo pos (starEach (x :: rest) env)) []) Q E s₂) E s:=by
 obtain ⟨y,t,rfl,_⟩:=q.str_inv
 have h':=callWith_method1 (pos:=pos) h (notStar_each hs) hr
 with_reducible exact GM.of (.str y t) (typeIs_str _ _ _) slot ty GM.noRef h'
theorem goP {β:Type} {s:Shared} {σ:List Addr} {H:Hp} {E:Value→Shared→Prop} {T:PySem.Sem Value} {x:Option (Res V)} {f:V→Hp→Option (Res β)} {r:Res β} {Q1:Value→Shared→Prop} (ht:0 < s.toks) (hb:bnd x f=some r) (hx:∀ H1,r=.exc H1→ExcK c s σ H E H1)
  (ih:∀ r1,x=some r1→∀ (Q E':Value→Shared→Prop),Cont c s σ H Q E' r1→wpAny (model prog w) A T Q E' s)
  (k:∀ v H1,f v H1=some r→∀ val h' tk σ',0 < tk→c.Ok h' σ' H1→Adv No s.heap σ H h' σ' H1→VR h' (Live σ' H1) σ' val v→Q1 val (sU s h' tk)) :
  wpAny (model prog w) A T Q1 E s:=by
 refine wpAny_with_toks (n:=1) ht ?_
 rcases bnd_go hb with ⟨v,H1,e1,e2⟩ | ⟨H1,e1,rfl⟩
 ·exact ih _ e1 _ _ fun val h' tk σ' X a q hp=>k v H1 e2 val h' tk σ' hp X a q
 ·exact ih _ e1 _ _ (hx H1 rfl).pos
theorem new_mut {s:Shared} {σ:List Addr} {H:Hp} {E:Value→Shared→Prop} {Q:Value→Shared→Prop} (X:c.Ok s.heap σ H) {vs:List Value} {l:List V} (q:VRs s.heap (Live σ H) σ vs l) (hl:l.length≤capL) (k:Cont c s σ H Q E (.ok (.ref H.length) (H++[some l]))):wpAny (model prog w) A (newList vs) Q E s:=by
 have hz:vs.length≤capL:=by rw [q.length]; exact hl
 obtain ⟨X1,a1⟩:=open_list X q hl
 refine wpAny_newObj_type (k _ _ s.toks _ X1 a1 (.ref ?_)) (show vs.toArray.size≤sizeLine by rw [List.size_toArray]; exact Nat.le_trans hz sizeLine_cap)
 rw [X.len,List.getElem?_append_right (Nat.le_refl _)]; simp
theorem sndPop {s:Shared} {σ:List Addr} {H:Hp} {E:Value→Shared→Prop} {Q:Value→Shared→Prop} {pl:PySem.Sem Bool} {pos:Pos} {env:Env} {va:Value} {i:Nat} {l:List V} (X:c.Ok s.heap σ H) (hx:VR s.heap (Live σ H) σ va (.ref i)) (hl:hget H i=some l) (hne:l≠[]) (hb:c.b≤i)
  (k:Cont c s σ H Q E (.ok (l.getLast hne) (H.set i (some l.dropLast)))) :
  wpAny (model prog w) A (getMethod va (Str.ofString "pop") pl) (fun fx s₂=>wpAny (model prog w) A (callWith pos fx.1 fx.2 (backTo pos (starEach [] env)) []) Q E s₂) E s:=by
 obtain ⟨a,rfl,ha⟩:=hx.ref_inv
 have hi:=hget_iff hl
 obtain ⟨a',arr,m,h1,h2,h3,h4⟩:=X.objs i l hi
 rw [ha] at h1; cases h1
 have hlim:c.lim i=none:=X.loc i hb
 rw [hlim] at h4
 have h4':VRs s.heap (Live σ H) σ arr.toList l:=h4
 have hlen:=h4'.length
 rw [Array.length_toList] at hlen
 have hpos:0 < arr.size:=by rw [hlen]; exact List.length_pos_iff.mpr hne
 refine getMethod_builtin (T:="list") ⟨_,h2,rfl⟩ F.plainAttrs_list F.slot_list_pop F.type_list_pop (fun b e=>by cases e; exact ⟨_,h2,rfl⟩) ?_
 dsimp only
 have hy:arr[arr.size - 1]?=some (arr[arr.size - 1]):=by simp [hpos]
 refine P.pop_list h2 hy ?_ (Nat.le_trans h3 sizeLine_cap)
 have he:(s.heap.update a (Obj.mapSeq fun xs=>xs.eraseIdxIfInBounds (arr.size - 1))).get? a=some (Obj.mapSeq (fun xs=>xs.eraseIdxIfInBounds (arr.size - 1)) (LstO arr m)):=Heap.get?_update_self _ h2 rfl
 have e1:arr.eraseIdxIfInBounds (arr.size - 1)=arr.pop:=by
  rw [Array.eraseIdxIfInBounds,dif_pos (by omega)]
  apply Array.ext'
  rw [Array.toList_eraseIdx,Array.toList_pop,List.dropLast_eq_take,Array.length_toList]
  rw [List.eraseIdx_eq_take_drop_succ,List.drop_of_length_le (by rw [Array.length_toList]; omega),List.append_nil]
 obtain ⟨m',he'⟩:∃ m',(s.heap.update a (Obj.mapSeq fun xs=>xs.eraseIdxIfInBounds (arr.size - 1))).get? a=some (LstO arr.pop m'):=⟨_,by rw [he]; simp only [Obj.mapSeq,LstO,e1]; rfl⟩
 have hdl:arr.pop.toList=arr.toList.dropLast:=Array.toList_pop ..
 obtain ⟨X1,a1⟩:=turn_list (l':=l.dropLast) X hi ha (Heap.SameBut.update ..) he' (by rw [Array.size_pop]; omega) (by
  rw [hlim,hdl,List.dropLast_eq_take,List.dropLast_eq_take,Array.length_toList,hlen]
  exact h4'.take _)
 refine k _ _ s.toks σ X1 a1 ?_
 obtain ⟨v,hv,r⟩:=h4'.get (l.length - 1) (l.getLast hne) (by rw [← List.getLast?_eq_getElem?,List.getLast?_eq_some_getLast hne])
 have:arr[arr.size - 1]=v:=by
  rw [← hlen,Array.getElem?_toList,hy] at hv
  exact Option.some.inj hv
 rw [this]
 exact r.adv0 a1
theorem Both.compare1 {s:Shared} {σ:List Addr} {H:Hp} {E:Value→Shared→Prop} {env:Env} {r:Res V} {l rr:Expr} {op:CmpOp} {pos:Pos} (hm:behindInMarks op rr=false)
  (h:∀ Q,Cont c s σ H Q E r→wpAny (model prog w) A (eval l env) (fun a s₁=>wpAny (model prog w) A (eval rr env) (fun b s₂=>wpAny (model prog w) A (compareOp op a b) Q E s₂) E s₁) E s) :
  Both prog w A env c s σ H E (.Compare l [op] [rr] pos) r :=
 ⟨fun Q k=>wpAny_Compare1 (h Q k) hm,fun _ k=>wpAny_isTrue_Compare1 (h _ k.toCont) hm⟩
noncomputable def SndE (prog:Program) (w:World) (A:Around) (c:Cx) (call:Nat→List V→Hp→Option (Res V)) (e:Mine.E):Prop:=∀ ⦃s:Shared⦄ ⦃σ:List Addr⦄ ⦃H:Hp⦄ ⦃E:Value→Shared→Prop⦄ ⦃env:Env⦄ ⦃nm:List Txt⦄ ⦃kd:Str→Option NameKind⦄ ⦃loc:Loc⦄ ⦃x:Expr⦄ ⦃r:Res V⦄,
  EnvOk env→KdOk kd env→nm.Nodup→0 < s.toks→chkE nm kd e x=true→evE call c.b loc e H=some r→c.Ok s.heap σ H→Vars nm env s.heap σ H loc→Both prog w A env c s σ H E x r
noncomputable def SndEs (prog:Program) (w:World) (A:Around) (c:Cx) (call:Nat→List V→Hp→Option (Res V)) (es:Mine.Es):Prop:=∀ ⦃s:Shared⦄ ⦃σ:List Addr⦄ ⦃H:Hp⦄ ⦃E:Value→Shared→Prop⦄ ⦃env:Env⦄ ⦃nm:List Txt⦄ ⦃kd:Str→Option NameKind⦄ ⦃loc:Loc⦄ ⦃xs:List Expr⦄ ⦃r:Res (List V)⦄,
  EnvOk env→KdOk kd env→nm.Nodup→0 < s.toks→chkEs nm kd es xs=true→evEs call c.b loc es H=some r→c.Ok s.heap σ H→Vars nm env s.heap σ H loc→BothL prog w A env c s σ H E xs r
mutual
theorem sndE (R:Rdy prog w c A call n):∀ e:Mine.E,SndE prog w A c call e
 | .none=>by
  intro s σ H E env nm kd loc x r eo ko hnd ht hc he X hv
  refine oC_e hc fun _ _ _ hc=>isIt_e hc fun _=>?_
  obtain rfl:=Option.some.inj he
  exact .plain rfl fun Q k=>wpAny_Constant_none (k.here X .none)
 | .bool b=>by
  intro s σ H E env nm kd loc x r eo ko hnd ht hc he X hv
  refine oC_e hc fun _ _ _ hc=>isIt_e hc fun _=>?_
  obtain rfl:=Option.some.inj he
  exact .plain rfl fun Q k=>wpAny_Constant_bool (k.here X (.bool _))
 | .int i=>by
  intro s σ H E env nm kd loc x r eo ko hnd ht hc he X hv
  refine oC_e hc fun _ _ _ hc=>isIt_e hc fun _=>?_
  obtain rfl:=Option.some.inj he
  exact .plain rfl fun Q k=>wpAny_Constant_int (k.val X (.int _ _) _)
 | .str t=>by
  intro s σ H E env nm kd loc x r eo ko hnd ht hc he X hv
  refine oC_e hc fun _ _ _ hc=>cS_e hc fun _ hc=>?_
  obtain ⟨hc,h2⟩:=Bool.and_eq_true_iff.mp hc
  obtain ⟨h0,h1⟩:=Bool.and_eq_true_iff.mp hc
  obtain rfl:=beq_iff_eq.mp h0
  obtain rfl:=Option.some.inj he
  exact .plain rfl fun Q k=>Constant_str (k.val X (VR.str' rfl (of_decide_eq_true h2) fun c hc=>of_decide_eq_true (List.all_eq_true.mp h1 c hc)) _)
 | .loc i=>by
  intro s σ H E env nm kd loc x r eo ko hnd ht hc he X hv
  refine oN_e hc fun _ _ hc=>?_
  have hc:=Bool.and_eq_true_iff.mp hc
  obtain ⟨v,hl,rfl⟩:=ev_loc_inv he
  exact .plain rfl fun Q k=>name_loc eo hc.1 (ko.var _ hc.2) hv hl fun val q=>k.here X q
 | .gint t i=>by
  intro s σ H E env nm kd loc x r eo ko hnd ht hc he X hv
  refine oN_e hc fun _ _ hc=>?_
  have hc:=Bool.and_eq_true_iff.mp hc
  obtain rfl:=Option.some.inj he
  obtain ⟨u,hu⟩:=R.G.hints _ _ hc.2
  exact .plain rfl fun Q k=>name_mg R.G eo (ko.isGlob hc.1) X hu (k.here X (.int _ _))
 | .gstr t z=>by
  intro s σ H E env nm kd loc x r eo ko hnd ht hc he X hv
  refine oN_e hc fun _ _ hc=>?_
  have hc:=Bool.and_eq_true_iff.mp hc
  obtain rfl:=Option.some.inj he
  obtain ⟨u,hu⟩:=R.G.hstrs _ _ hc.2
  have hz:z.length≤capL∧∀ ch∈z,ch < 1114112:=by
   have h:=hc.2
   have h:=List.contains_iff_mem.mp h
   have all:∀ p∈gstrs,p.2.length≤capL∧∀ ch∈p.2,ch < 1114112:=by decide
   exact all _ h
  exact .plain rfl fun Q k=>name_mg R.G eo (ko.isGlob hc.1) X hu (k.here X (VR.str' (sOf_cps z) hz.1 hz.2))
 | .bin o a b=>by
  intro s σ H E env nm kd loc x r eo ko hnd ht hc he X hv
  refine ce_bin hc fun _ _ _ h1 h2=>?_
  refine .plain rfl fun Q k=>wpAny_BinOp (go ht he k.exk (fun r1 e1 E'=>sndE R a eo ko hnd ht h1 e1 X hv) fun v H1 e1 va h' tk σ' hp X1 a1 q1=>?_)
  refine go hp e1 (fun H2 e2=>(k.exk H2 e2).adv a1) (fun r2 e2 E'=>sndE R b eo ko hnd hp h2 e2 X1 (hv.adv0 X a1)) fun v2 H2 e2 vb h2' tk2 σ2 hp2 X2 a2 q2=>?_
  obtain ⟨rv,e3,rfl⟩:=tell_some e2
  exact sndBin R.hne X2 (q1.adv0 a2) q2 e3 ((k.adv (tk:=tk) a1).adv (tk:=tk2) a2)
 | .million=>by
  intro s σ H E env nm kd loc x r eo ko hnd ht hc he X hv
  refine ce_million hc fun _ _ _ _ _=>?_
  obtain rfl:=Option.some.inj he
  exact .plain rfl fun Q k=>wpAny_BinOp (wpAny_Constant_int (wpAny_Constant_int (pow_int (by decide) (by decide +kernel) (k.val X (.int _ _) _))))
 | .neg a=>by
  intro s σ H E env nm kd loc x r eo ko hnd ht hc he X hv
  refine ce_neg hc fun _ _ hc=>?_
  refine .plain rfl fun Q k=>UnaryOp_ (go ht he k.exk (fun r1 e1 E'=>sndE R a eo ko hnd ht hc e1 X hv) fun v H1 e1 va h' tk σ' hp X1 a1 q1=>?_)
  obtain ⟨i,rfl,e2⟩:=mv_int e1
  obtain rfl:=Option.some.inj e2
  obtain ⟨t,rfl⟩:=q1.int_inv
  exact PyProof.Rows.neg_int ((k.adv (tk:=tk) a1).val X1 (.int _ _) _)
 | .not a=>by
  intro s σ H E env nm kd loc x r eo ko hnd ht hc he X hv
  refine ce_not hc fun _ _ hc=>?_
  refine ⟨fun Q k=>UnaryOp_ (go ht he k.exk (fun r1 e1 E'=>sndE R a eo ko hnd ht hc e1 X hv) fun v H1 e1 va h' tk σ' hp X1 a1 q1=>?_),fun Q k=>isTrue_not (goT ht he k.exk (fun v H1 e1=>(mv_b1 e1).imp fun _ h=>h.1) (fun r1 e1 E'=>sndE R a eo ko hnd ht hc e1 X hv) fun b H1 e1 h' tk σ' hp X1 a1=>?_)⟩
  ·obtain ⟨b,rfl,e2⟩:=mv_b1 e1
   obtain rfl:=Option.some.inj e2
   cases q1.bool_inv
   exact not_of (wpAny_truthy_bool ((k.adv (tk:=tk) a1).here X1 (.bool _)))
  ·obtain rfl:=Option.some.inj e1
   obtain ⟨b',hb,k⟩:=k
   cases hb
   exact k h' tk σ' X1 a1
 | .and a b=>by
  intro s σ H E env nm kd loc x r eo ko hnd ht hc he X hv
  refine ce_and hc fun ea eb er pos h1 h2=>?_
  have ihb:∀ {s1:Shared} {σ1:List Addr} {H1:Hp} {E1:Value→Shared→Prop},0 < s1.toks→evE call c.b loc b H1=some r→c.Ok s1.heap σ1 H1→Vars nm env s1.heap σ1 H1 loc→Both prog w A env c s1 σ1 H1 E1 (.BoolOp .And (eb :: er) pos) r:=by
   intro s1 σ1 H1 E1 hp e1 X1 hv1
   cases er with
   | nil =>
    have ih:=sndE R b (E:=E1) eo ko hnd hp h2 e1 X1 hv1
    refine ⟨fun Q k=>BoolOp_one (ih.1 Q k),fun Q k=>isTrue_and (wpAny_mono (ih.2 Q k) (fun c' s' h'=>?_) fun _ _ y=>y)⟩
    cases c' with
    | true=>exact isTrue_and_nil h'
    | false=>exact h'
   | cons e2 er=>exact sndE R b eo ko hnd hp h2 e1 X1 hv1
  refine ⟨fun Q k=>BoolOp_and (go ht he k.exk (fun r1 e1 E'=>sndE R a eo ko hnd ht h1 e1 X hv) fun v H1 e1 va h' tk σ' hp X1 a1 q1=>?_),fun Q k=>isTrue_and (goT ht he k.exk (fun v H1 e1=>mv_bool e1) (fun r1 e1 E'=>sndE R a eo ko hnd ht h1 e1 X hv) fun t H1 e1 h' tk σ' hp X1 a1=>?_)⟩
  ·obtain ⟨b',rfl⟩:=mv_bool e1
   cases q1.bool_inv
   refine wpAny_truthy_bool ?_
   cases b' with
   | true=>exact (ihb hp e1 X1 (hv.adv0 X a1)).1 _ (k.adv a1)
   | false=>obtain rfl:=Option.some.inj e1; exact (k.adv (tk:=tk) a1).here X1 (.bool _)
  ·cases t with
   | true =>
    exact (ihb hp e1 X1 (hv.adv0 X a1)).2 _ (k.adv a1)
   | false =>
    obtain rfl:=Option.some.inj e1
    obtain ⟨b',hb,k⟩:=k
    cases hb
    exact k h' tk σ' X1 a1
 | .or a b=>by
  intro s σ H E env nm kd loc x r eo ko hnd ht hc he X hv
  refine ce_or hc fun ea eb er pos h1 h2=>?_
  have ihb:∀ {s1:Shared} {σ1:List Addr} {H1:Hp} {E1:Value→Shared→Prop},0 < s1.toks→evE call c.b loc b H1=some r→c.Ok s1.heap σ1 H1→Vars nm env s1.heap σ1 H1 loc→Both prog w A env c s1 σ1 H1 E1 (.BoolOp .Or (eb :: er) pos) r:=by
   intro s1 σ1 H1 E1 hp e1 X1 hv1
   cases er with
   | nil =>
    have ih:=sndE R b (E:=E1) eo ko hnd hp h2 e1 X1 hv1
    refine ⟨fun Q k=>BoolOp_one (ih.1 Q k),fun Q k=>isTrue_or (wpAny_mono (ih.2 Q k) (fun c' s' h'=>?_) fun _ _ y=>y)⟩
    cases c' with
    | true=>exact h'
    | false=>exact isTrue_or_nil h'
   | cons e2 er=>exact sndE R b eo ko hnd hp h2 e1 X1 hv1
  refine ⟨fun Q k=>BoolOp_or (go ht he k.exk (fun r1 e1 E'=>sndE R a eo ko hnd ht h1 e1 X hv) fun v H1 e1 va h' tk σ' hp X1 a1 q1=>?_),fun Q k=>isTrue_or (goT ht he k.exk (fun v H1 e1=>mv_bool e1) (fun r1 e1 E'=>sndE R a eo ko hnd ht h1 e1 X hv) fun t H1 e1 h' tk σ' hp X1 a1=>?_)⟩
  ·obtain ⟨b',rfl⟩:=mv_bool e1
   cases q1.bool_inv
   refine wpAny_truthy_bool ?_
   cases b' with
   | true=>obtain rfl:=Option.some.inj e1; exact (k.adv (tk:=tk) a1).here X1 (.bool _)
   | false=>exact (ihb hp e1 X1 (hv.adv0 X a1)).1 _ (k.adv a1)
  ·cases t with
   | false =>
    exact (ihb hp e1 X1 (hv.adv0 X a1)).2 _ (k.adv a1)
   | true =>
    obtain rfl:=Option.some.inj e1
    obtain ⟨b',hb,k⟩:=k
    cases hb
    exact k h' tk σ' X1 a1
 | .ife t a b=>by
  intro s σ H E env nm kd loc x r eo ko hnd ht hc he X hv
  refine ce_ife hc fun _ _ _ _ h0 h1 h2=>?_
  refine ⟨fun Q k=>IfExp_ (goT ht he k.exk (fun v H1 e1=>mv_bool e1) (fun r1 e1 E'=>sndE R t eo ko hnd ht h0 e1 X hv) fun tt H1 e1 h' tk σ' hp X1 a1=>?_),fun Q k=>isTrue_IfExp (goT ht he k.exk (fun v H1 e1=>mv_bool e1) (fun r1 e1 E'=>sndE R t eo ko hnd ht h0 e1 X hv) fun tt H1 e1 h' tk σ' hp X1 a1=>?_)⟩
  ·cases tt with
   | true=>exact (sndE R a eo ko hnd hp h1 e1 X1 (hv.adv0 X a1)).1 _ (k.adv a1)
   | false=>exact (sndE R b eo ko hnd hp h2 e1 X1 (hv.adv0 X a1)).1 _ (k.adv a1)
  ·cases tt with
   | true=>exact (sndE R a eo ko hnd hp h1 e1 X1 (hv.adv0 X a1)).2 _ (k.adv a1)
   | false=>exact (sndE R b eo ko hnd hp h2 e1 X1 (hv.adv0 X a1)).2 _ (k.adv a1)
 | .cmp o a b=>by
  intro s σ H E env nm kd loc x r eo ko hnd ht hc he X hv
  refine ce_cmp hc fun _ _ _ h0 h1 h2=>?_
  refine .compare1 (not_behind h0) fun Q k=>go ht he k.exk (fun r1 e1 E'=>sndE R a eo ko hnd ht h1 e1 X hv) fun v H1 e1 va h' tk σ' hp X1 a1 q1=>?_
  refine go hp e1 (fun H2 e2=>(k.exk H2 e2).adv a1) (fun r2 e2 E'=>sndE R b eo ko hnd hp h2 e2 X1 (hv.adv0 X a1)) fun v2 H2 e2 vb h2' tk2 σ2 hp2 X2 a2 q2=>?_
  obtain ⟨rv,e3,rfl⟩:=tell_some e2
  obtain ⟨rb,e4,rfl⟩:=Option.map_eq_some_iff.mp e3
  exact sndCmp (cU64 R.au) (q1.adv0 a2) q2 e4 (((k.adv (tk:=tk) a1).adv (tk:=tk2) a2).here X2 (.bool _))
 | .between a b d=>by
  intro s σ H E env nm kd loc x r eo ko hnd ht hc he X hv
  refine ce_btw hc fun l m rr pos h0' h1 h2 h3=>?_
  have hm:lastMarks [CmpOp.Lt,CmpOp.Lt] [m,rr]=false:=not_behind h0'
  refine ⟨fun Q k=>Compare_chain (go ht he k.exk (fun r1 e1 E'=>sndE R a eo ko hnd ht h1 e1 X hv) fun v H1 e1 va h' tk σ' hp X1 a1 q1=>chain_link ?_) hm,fun Q k=>isTrue_chain (go ht he k.exk (fun r1 e1 E'=>sndE R a eo ko hnd ht h1 e1 X hv) fun v H1 e1 va h' tk σ' hp X1 a1 q1=>test_link ?_) hm⟩
  ·refine go hp e1 (fun H2 e2=>(k.exk H2 e2).adv a1) (fun r2 e2 E'=>sndE R b eo ko hnd hp h2 e2 X1 (hv.adv0 X a1)) fun v2 H2 e2 vb h2' tk2 σ2 hp2 X2 a2 q2=>?_
   have hv2:=(hv.adv0 X a1).adv0 X1 a2
   obtain ⟨_,_,rfl,rfl,e4⟩:=mv_ii e2
   obtain ⟨t1,rfl⟩:=q1.int_inv
   obtain ⟨t2,rfl⟩:=q2.int_inv
   have k2:=(k.adv (tk:=tk) a1).adv (tk:=tk2) a2
   refine PyProof.Rows.lt_int (wpAny_truthy_bool ?_)
   rcases mif e4 with ⟨hlt,e5⟩ | ⟨hlt,e5⟩
   ·rw [if_pos (by simpa using hlt)]
    refine chain_last (go hp2 e5 (fun H3 e3=>k2.exk H3 e3) (fun r3 e3 E'=>sndE R d eo ko hnd hp2 h3 e3 X2 hv2) fun v3 H3 e3 vc h3' tk3 σ3 hp3 X3 a3 q3=>?_)
    obtain ⟨_,rfl,e6⟩:=mv_int e3
    obtain rfl:=Option.some.inj e6
    obtain ⟨t3,rfl⟩:=q3.int_inv
    exact PyProof.Rows.lt_int ((k2.adv (tk:=tk3) a3).here X3 (.bool _))
   ·rw [if_neg (by simpa using hlt)]
    obtain rfl:=Option.some.inj e5
    rw [decide_eq_false hlt]
    exact k2.here X2 (.bool _)
  ·refine go hp e1 (fun H2 e2=>(k.exk H2 e2).adv a1) (fun r2 e2 E'=>sndE R b eo ko hnd hp h2 e2 X1 (hv.adv0 X a1)) fun v2 H2 e2 vb h2' tk2 σ2 hp2 X2 a2 q2=>?_
   have hv2:=(hv.adv0 X a1).adv0 X1 a2
   obtain ⟨_,_,rfl,rfl,e4⟩:=mv_ii e2
   obtain ⟨t1,rfl⟩:=q1.int_inv
   obtain ⟨t2,rfl⟩:=q2.int_inv
   have k2:=(k.adv (tk:=tk) a1).adv (tk:=tk2) a2
   refine PyProof.Rows.lt_int (wpAny_truthy_bool ?_)
   rcases mif e4 with ⟨hlt,e5⟩ | ⟨hlt,e5⟩
   ·rw [if_pos (by simpa using hlt)]
    refine test_last (go hp2 e5 (fun H3 e3=>k2.exk H3 e3) (fun r3 e3 E'=>sndE R d eo ko hnd hp2 h3 e3 X2 hv2) fun v3 H3 e3 vc h3' tk3 σ3 hp3 X3 a3 q3=>?_)
    obtain ⟨_,rfl,e6⟩:=mv_int e3
    obtain rfl:=Option.some.inj e6
    obtain ⟨t3,rfl⟩:=q3.int_inv
    obtain ⟨b',hb,k2⟩:=k2
    cases hb
    exact PyProof.Rows.lt_int (wpAny_truthy_bool (k2 h3' tk3 σ3 X3 a3))
   ·rw [if_neg (by simpa using hlt)]
    obtain rfl:=Option.some.inj e5
    obtain ⟨b',hb,k2⟩:=k2
    cases hb
    exact k2 h2' tk2 σ2 X2 (.refl ..)
 | .isNone a=>by
  intro s σ H E env nm kd loc x r eo ko hnd ht hc he X hv
  refine ce_isNone hc fun _ _ _ _ hc=>?_
  refine .compare1 rfl fun Q k=>go ht he k.exk (fun r1 e1 E'=>sndE R a eo ko hnd ht hc e1 X hv) fun v H1 e1 va h' tk σ' hp X1 a1 q1=>wpAny_Constant_none (is_none_gen ?_)
  obtain rfl:=Option.some.inj e1
  rw [vr_isNone q1]
  exact (k.adv (tk:=tk) a1).here X1 (.bool _)
 | .notNone a=>by
  intro s σ H E env nm kd loc x r eo ko hnd ht hc he X hv
  refine ce_notNone hc fun _ _ _ _ hc=>?_
  refine .compare1 rfl fun Q k=>go ht he k.exk (fun r1 e1 E'=>sndE R a eo ko hnd ht hc e1 X hv) fun v H1 e1 va h' tk σ' hp X1 a1 q1=>wpAny_Constant_none (isnot_none_gen ?_)
  obtain rfl:=Option.some.inj e1
  rw [vr_isNone q1]
  have k1:=k.adv (tk:=tk) a1
  clear k q1
  cases v <;> exact k1.here X1 (.bool _)
 | .isNil a=>by
  intro s σ H E env nm kd loc x r eo ko hnd ht hc he X hv
  refine ce_isNil hc fun _ _ _ hc=>?_
  refine .compare1 rfl fun Q k=>go ht he k.exk (fun r1 e1 E'=>sndE R a eo ko hnd ht hc e1 X hv) fun v H1 e1 va h' tk σ' hp X1 a1 q1=>List_ (args_nil (newList0 X1 fun h2 hf g hn=>?_))
  obtain ⟨rv,e3,rfl⟩:=tell_some e1
  obtain ⟨l,e4,rfl⟩:=Option.map_eq_some_iff.mp e3
  exact nil_eq (cU R.au) (X1.grow g) (q1.grow g) e4 hn (((k.adv (tk:=tk) a1)).grown X1 g (.bool _) tk)
 | .notNil a=>by
  intro s σ H E env nm kd loc x r eo ko hnd ht hc he X hv
  refine ce_notNil hc fun _ _ _ hc=>?_
  refine .compare1 rfl fun Q k=>go ht he k.exk (fun r1 e1 E'=>sndE R a eo ko hnd ht hc e1 X hv) fun v H1 e1 va h' tk σ' hp X1 a1 q1=>List_ (args_nil (newList0 X1 fun h2 hf g hn=>?_))
  obtain ⟨rv,e3,rfl⟩:=tell_some e1
  obtain ⟨l,e4,rfl⟩:=Option.map_eq_some_iff.mp e3
  exact nil_ne (cU R.au) (X1.grow g) (q1.grow g) e4 hn (((k.adv (tk:=tk) a1)).grown X1 g (.bool _) tk)
 | .inC a ws=>by
  intro s σ H E env nm kd loc x r eo ko hnd ht hc he X hv
  refine ce_inC hc (fun _ _ _ _ _ hc1 hw=>?_) fun _ _ _ _ hc1 hw=>?_
  ·refine .compare1 rfl fun Q k=>go ht he k.exk (fun r1 e1 E'=>sndE R a eo ko hnd ht hc1 e1 X hv) fun v H1 e1 va h' tk σ' hp X1 a1 q1=>?_
   obtain ⟨sy,rfl,e2⟩:=mv_str e1
   obtain rfl:=Option.some.inj e2
   obtain ⟨y,t,rfl,rfl,_⟩:=id q1.str_inv
   have k1:=k.adv (tk:=tk) a1
   obtain ⟨w1,w2,w3⟩:=chkWs_iff hw
   refine Tuple_ (strs_made w1 _ _ _ fun vs tk2 hr hn=>wpAny_newObj_type ?_ (words_size (by omega)))
   obtain ⟨as,hR⟩:=hr _
   have g:Grow c.base h' (h'.push (TupO vs.toArray 0)):=grow_keeps X1.stays fun _ _ e=>Heap.get?_push_of_some _ e
   exact SeqAt.in_tuple_reads (.tuple (Heap.get?_push_size _ rfl) rfl rfl (by simpa using hR)) (.str y t) (words_lay w3) (word_lay q1) (by have:=cU64 R.au; simp [PyData.depth]; omega) (by rw [words_eqv]; exact k1.grown X1 g (.bool _) tk2)
  ·refine .compare1 rfl fun Q k=>go ht he k.exk (fun r1 e1 E'=>sndE R a eo ko hnd ht hc1 e1 X hv) fun v H1 e1 va h' tk σ' hp X1 a1 q1=>?_
   obtain ⟨sy,rfl,e2⟩:=mv_str e1
   obtain rfl:=Option.some.inj e2
   obtain ⟨y,t,rfl,rfl,_⟩:=id q1.str_inv
   have k1:=k.adv (tk:=tk) a1
   obtain ⟨w1,w2,w3⟩:=chkWs_iff hw
   refine List_ (strs_made w1 _ _ _ fun vs tk2 hr hn=>wpAny_newObj_type ?_ (words_size (by omega)))
   obtain ⟨as,hR⟩:=hr _
   have g:Grow c.base h' (h'.push (LstO vs.toArray 0)):=grow_keeps X1.stays fun _ _ e=>Heap.get?_push_of_some _ e
   exact SeqAt.in_list_reads (.list (Heap.get?_push_size _ rfl) rfl rfl (by simpa using hR)) (.str y t) (words_lay w3) (word_lay q1) (by have:=cU64 R.au; simp [PyData.depth]; omega) (by rw [words_eqv]; exact k1.grown X1 g (.bool _) tk2)
 | .ninC a ws=>by
  intro s σ H E env nm kd loc x r eo ko hnd ht hc he X hv
  refine ce_ninC hc fun _ _ _ _ _ hc1 hw=>?_
  refine .compare1 rfl fun Q k=>go ht he k.exk (fun r1 e1 E'=>sndE R a eo ko hnd ht hc1 e1 X hv) fun v H1 e1 va h' tk σ' hp X1 a1 q1=>?_
  obtain ⟨sy,rfl,e2⟩:=mv_str e1
  obtain rfl:=Option.some.inj e2
  obtain ⟨y,t,rfl,rfl,_⟩:=id q1.str_inv
  have k1:=k.adv (tk:=tk) a1
  obtain ⟨w1,w2,w3⟩:=chkWs_iff hw
  refine Tuple_ (strs_made w1 _ _ _ fun vs tk2 hr hn=>wpAny_newObj_type ?_ (words_size (by omega)))
  obtain ⟨as,hR⟩:=hr _
  have g:Grow c.base h' (h'.push (TupO vs.toArray 0)):=grow_keeps X1.stays fun _ _ e=>Heap.get?_push_of_some _ e
  exact SeqAt.notIn_tuple_reads (.tuple (Heap.get?_push_size _ rfl) rfl rfl (by simpa using hR)) (.str y t) (words_lay w3) (word_lay q1) (by have:=cU64 R.au; simp [PyData.depth]; omega) (by rw [words_eqv]; exact k1.grown X1 g (.bool _) tk2)
 | .call f es=>by
  intro s σ H E env nm kd loc x r eo ko hnd ht hc he X hv
  refine ce_call hc fun id np as pos h1 h2 h3 h4=>?_
  obtain ⟨fn,hf,hn⟩:=Option.map_eq_some_iff.mp h1
  obtain ⟨hg,o,fd,ho,hd⟩:=R.hfa f fn hf
  have hid:sOf fn.name=id:=by rw [hn,sOf_tx]
  rw [hid] at hg
  refine .plain rfl fun Q k=>Call_ (Name_function_global eo.kind (ko.glob _ h2) (loadGlobal_global (mg:=R.G.mg) (by rw [eo.glob]; exact R.G.g.keeps X.stays) hg ?_) (beq_eq_false_iff_ne.mpr h3))
  refine call_fn (o:=o) (fd:=fd) hd (goL ht he k.exk (fun r1 e1 E'=>sndEs R es eo ko hnd ht h4 e1 X hv) fun vs H1 e1 vals h' tk σ' hp X1 a1 q1=>⟨X1.stays _ _ ho,?_⟩) (star_none h4)
  exact R.cs c A _ σ' H1 f vs vals r Q _ rfl rfl R.hne R.au hp X1 q1 e1 (k.adv a1)
 | .len a=>by
  intro s σ H E env nm kd loc x r eo ko hnd ht hc he X hv
  refine ce_len hc fun _ _ _ _ h1 h2 h3=>?_
  refine .plain rfl fun Q k=>Call_ (name_mb R.G eo (ko.isGlob h2) X R.G.hlen.1 R.G.hlen.2 (PyProof.Rows.callWith_builtin1 (args_cons (go ht he k.exk (fun r1 e1 E'=>sndE R a eo ko hnd ht h3 e1 X hv) fun v H1 e1 va h' tk σ' hp X1 a1 q1=>args_nil ?_) (notStar_each h1)) (notStar_each h1)))
  obtain ⟨rv,e3,rfl⟩:=tell_some e1
  obtain ⟨l,e4,rfl⟩:=Option.map_eq_some_iff.mp e3
  exact sndLen X1 q1 e4 (k.adv a1)
 | .toStr a=>by
  intro s σ H E env nm kd loc x r eo ko hnd ht hc he X hv
  refine ce_toStr hc fun _ _ _ _ h1 h2 h3=>?_
  refine .plain rfl fun Q k=>Call_ (name_mb R.G eo (ko.isGlob h2) X R.G.hstr.1 R.G.hstr.2 (PyProof.Rows.callWith_type1 (args_cons (go ht he k.exk (fun r1 e1 E'=>sndE R a eo ko hnd ht h3 e1 X hv) fun v H1 e1 va h' tk σ' hp X1 a1 q1=>args_nil ?_) (notStar_each h1)) (notStar_each h1)))
  obtain ⟨rv,e3,rfl⟩:=tell_some e1
  obtain ⟨l,e4,rfl⟩:=Option.map_eq_some_iff.mp e3
  exact sndToStr X1 q1 e4 (k.adv a1)
 | .toInt a=>by
  intro s σ H E env nm kd loc x r eo ko hnd ht hc he X hv
  refine ce_toInt hc fun _ _ _ _ h1 h2 h3=>?_
  refine .plain rfl fun Q k=>Call_ (name_mb R.G eo (ko.isGlob h2) X R.G.hint.1 R.G.hint.2 (PyProof.Rows.callWith_type1 (args_cons (go ht he k.exk (fun r1 e1 E'=>sndE R a eo ko hnd ht h3 e1 X hv) fun v H1 e1 va h' tk σ' hp X1 a1 q1=>args_nil ?_) (notStar_each h1)) (notStar_each h1)))
  obtain ⟨rv,e3,rfl⟩:=tell_some e1
  obtain ⟨l,e4,rfl⟩:=Option.map_eq_some_iff.mp e3
  exact sndToInt X1 q1 e4 (k.adv a1)
 | .find a b=>by
  intro s σ H E env nm kd loc x r eo ko hnd ht hc he X hv
  refine ce_find hc fun _ _ _ _ h1 h2 h4 h5=>?_
  refine .plain rfl fun Q k=>MethodC h1 (form1 h2) fun pl=>go ht he k.exk (fun r1 e1 E'=>sndE R a eo ko hnd ht h4 e1 X hv) fun v H1 e1 va h' tk σ' hp X1 a1 q1=>?_
  obtain ⟨sy,rfl,e2⟩:=mv_str e1
  clear e1
  refine methStr F.slot_str_find F.type_str_find q1 h2 rfl (args_cons (go hp e2 (fun H2 e2=>(k.exk H2 e2).adv a1) (fun r2 e2 E'=>sndE R b eo ko hnd hp h5 e2 X1 (hv.adv0 X a1)) fun v2 H2 e2 vb h2' tk2 σ2 hp2 X2 a2 q2=>args_nil ?_) (notStar_each h2))
  obtain ⟨_,rfl,e3⟩:=mv_c e2
  obtain rfl:=Option.some.inj e3
  exact sndFind X2 (q1.adv0 a2) q2 ((k.adv (tk:=tk) a1).adv (tk:=tk2) a2)
 | .replace a ch t=>by
  intro s σ H E env nm kd loc x r eo ko hnd ht hc he X hv
  refine ce_replace hc fun _ _ _ _ _ _ _ _ _ h2 h3 h4 h5 h6=>?_
  refine .plain rfl fun Q k=>MethodC h2 rfl fun pl=>go ht he k.exk (fun r1 e1 E'=>sndE R a eo ko hnd ht h5 e1 X hv) fun v H1 e1 va h' tk σ' hp X1 a1 q1=>?_
  obtain ⟨sy,rfl,e2⟩:=mv_str e1
  obtain ⟨hk,e3⟩:=mi_p e2
  obtain rfl:=Option.some.inj e3
  refine methStr F.slot_str_replace F.type_str_replace q1 rfl rfl (args_cons (Constant_str (args_cons (Constant_str (args_nil ?_)))))
  have k1:=k.adv (tk:=tk) a1
  exact sndReplace X1 q1 h3 h4 (by show tk≠0; omega) (by show tk + 1≠0; omega) (by show tk≠tk + 1; omega) hk.1 hk.2.1 hk.2.2.1 hk.2.2.2 h6 (k1.adv (tk:=tk + 1 + 1) (.refl ..))
 | .join a b=>by
  intro s σ H E env nm kd loc x r eo ko hnd ht hc he X hv
  refine ce_join hc fun _ _ _ _ h1 h2 h4 h5=>?_
  refine .plain rfl fun Q k=>MethodC h1 (form1 h2) fun pl=>go ht he k.exk (fun r1 e1 E'=>sndE R a eo ko hnd ht h4 e1 X hv) fun v H1 e1 va h' tk σ' hp X1 a1 q1=>?_
  obtain ⟨sy,rfl,e2⟩:=mv_str e1
  clear e1
  refine methStr F.slot_str_join F.type_str_join q1 h2 rfl (args_cons (go hp e2 (fun H2 e2=>(k.exk H2 e2).adv a1) (fun r2 e2 E'=>sndE R b eo ko hnd hp h5 e2 X1 (hv.adv0 X a1)) fun v2 H2 e2 vb h2' tk2 σ2 hp2 X2 a2 q2=>args_nil ?_) (notStar_each h2))
  obtain ⟨ws,hws,e3⟩:=moT e2
  obtain ⟨hk,e3⟩:=mi_p e3
  obtain rfl:=Option.some.inj e3
  obtain ⟨l,hl,hws⟩:=Option.bind_eq_some_iff.mp hws
  exact sndJoin X2 (q1.adv0 a2) q2 hl hws hk.1 hk.2.1 hk.2.2.1 hk.2.2.2 ((k.adv (tk:=tk) a1).adv (tk:=tk2) a2)
 | .split a b=>by
  intro s σ H E env nm kd loc x r eo ko hnd ht hc he X hv
  refine ce_split hc fun _ _ _ _ h1 h2 h4 h5=>?_
  refine .plain rfl fun Q k=>MethodC h1 (form1 h2) fun pl=>go ht he k.exk (fun r1 e1 E'=>sndE R a eo ko hnd ht h4 e1 X hv) fun v H1 e1 va h' tk σ' hp X1 a1 q1=>?_
  obtain ⟨sy,rfl,e2⟩:=mv_str e1
  clear e1
  refine methStr F.slot_str_split F.type_str_split q1 h2 rfl (args_cons (go hp e2 (fun H2 e2=>(k.exk H2 e2).adv a1) (fun r2 e2 E'=>sndE R b eo ko hnd hp h5 e2 X1 (hv.adv0 X a1)) fun v2 H2 e2 vb h2' tk2 σ2 hp2 X2 a2 q2=>args_nil ?_) (notStar_each h2))
  obtain ⟨_,rfl,e3⟩:=mv_c e2
  obtain ⟨hk,e3⟩:=mi_p e3
  obtain rfl:=Option.some.inj e3
  exact sndSplit R.hne X2 (q1.adv0 a2) q2 hk ((k.adv (tk:=tk) a1).adv (tk:=tk2) a2)
 | .pop a=>by
  intro s σ H E env nm kd loc x r eo ko hnd ht hc he X hv
  refine ce_pop hc fun _ _ _ h1 h3=>?_
  refine .plain rfl fun Q k=>MethodC h1 form0 fun pl=>go ht he k.exk (fun r1 e1 E'=>sndE R a eo ko hnd ht h3 e1 X hv) fun v H1 e1 va h' tk σ' hp X1 a1 q1=>?_
  obtain ⟨i,rfl,e2⟩:=mv_ref e1
  obtain ⟨l,hl,e2⟩:=mo e2
  obtain ⟨hnil,e2⟩:=mdi e2
  obtain ⟨hb,e2⟩:=mi_p e2
  obtain rfl:=Option.some.inj e2
  exact sndPop X1 q1 hl hnil hb (k.adv (tk:=tk) a1)
 | .seal i=>by
  intro s σ H E env nm kd loc x r eo ko hnd ht hc he X hv
  refine oN_e hc fun _ _ hc=>?_
  have hc:=Bool.and_eq_true_iff.mp hc
  obtain ⟨j,l,hl,hg,hp,rfl⟩:=ev_seal_inv he
  refine .plain rfl fun Q k=>name_loc eo hc.1 (ko.var _ hc.2) hv hl fun val q=>?_
  obtain ⟨a,rfl,ha⟩:=q.ref_inv
  obtain ⟨X1,a1,q1⟩:=seal_list X (hget_iff hg) ha
  exact k _ s.heap s.toks σ X1 a1 (q1 hp)
 | .idx a b=>by
  intro s σ H E env nm kd loc x r eo ko hnd ht hc he X hv
  refine ce_idx hc fun _ _ _ h0 h1 h2=>?_
  refine .plain rfl fun Q k=>Subscript_ (go ht he k.exk (fun r1 e1 E'=>sndE R a eo ko hnd ht h1 e1 X hv) fun v H1 e1 va h' tk σ' hp X1 a1 q1=>?_)
  refine go hp e1 (fun H2 e2=>(k.exk H2 e2).adv a1) (fun r2 e2 E'=>sndE R b eo ko hnd hp h2 e2 X1 (hv.adv0 X a1)) fun v2 H2 e2 vb h2' tk2 σ2 hp2 X2 a2 q2=>?_
  obtain ⟨rv,e3,rfl⟩:=tell_some e2
  exact sndIdx h0 X2 (q1.adv0 a2) q2 e3 ((k.adv (tk:=tk) a1).adv (tk:=tk2) a2)
 | .sl a lo hi=>by
  intro s σ H E env nm kd loc x r eo ko hnd ht hc he X hv
  refine ce_sl hc fun ev el eu p2 pos h1 h2 h3=>?_
  have hlo:∀ {s1:Shared} {σ1:List Addr} {H1:Hp} {Q1 E1:Value→Shared→Prop} {r1:Res V},0 < s1.toks→evE call c.b loc lo H1=some r1→c.Ok s1.heap σ1 H1→Vars nm env s1.heap σ1 H1 loc→Cont c s1 σ1 H1 Q1 E1 r1→wpAny (model prog w) A (evalPart el env) Q1 E1 s1:=by
   intro s1 σ1 H1 Q1 E1 r1 hp e1 X1 hv1 k1
   cases el with
   | some x=>exact (sndE R lo eo ko hnd hp h2 e1 X1 hv1).1 _ k1
   | none =>
    have hz:=isNoE_e h2
    subst hz
    obtain rfl:=Option.some.inj e1
    exact wpAny_pure (k1.here X1 .none)
  have hhi:∀ {s1:Shared} {σ1:List Addr} {H1:Hp} {Q1 E1:Value→Shared→Prop} {r1:Res V},0 < s1.toks→evE call c.b loc hi H1=some r1→c.Ok s1.heap σ1 H1→Vars nm env s1.heap σ1 H1 loc→Cont c s1 σ1 H1 Q1 E1 r1→wpAny (model prog w) A (evalPart eu env) Q1 E1 s1:=by
   intro s1 σ1 H1 Q1 E1 r1 hp e1 X1 hv1 k1
   cases eu with
   | some x=>exact (sndE R hi eo ko hnd hp h3 e1 X1 hv1).1 _ k1
   | none =>
    have hz:=isNoE_e h3
    subst hz
    obtain rfl:=Option.some.inj e1
    exact wpAny_pure (k1.here X1 .none)
  refine .plain rfl fun Q k=>Subscript_ (go ht he k.exk (fun r1 e1 E'=>sndE R a eo ko hnd ht h1 e1 X hv) fun v H1 e1 va h' tk σ' hp X1 a1 q1=>wpAny_Slice ?_)
  have k1:=k.adv (tk:=tk) a1
  have hv1:=hv.adv0 X a1
  refine goP hp e1 k1.exk (fun r2 e2 Q2 E2 k2=>hlo hp e2 X1 hv1 k2) fun v2 H2 e2 vl h2' tk2 σ2 hp2 X2 a2 q2=>?_
  have k2:=k1.adv (tk:=tk2) a2
  refine goP hp2 e2 k2.exk (fun r3 e3 Q2 E2 k3=>hhi hp2 e3 X2 (hv1.adv0 X1 a2) k3) fun v3 H3 e3 vu h3' tk3 σ3 hp3 X3 a3 q3=>?_
  obtain ⟨rv,e4,rfl⟩:=tell_some e3
  exact wpAny_pure (sndSl X3 ((q1.adv0 a2).adv0 a3) (q2.adv0 a3) q3 e4 (k2.adv (tk:=tk3) a3))
 | .tup es=>by
  intro s σ H E env nm kd loc x r eo ko hnd ht hc he X hv
  refine oT_e hc fun _ _ _ hc=>?_
  refine .plain rfl fun Q k=>Tuple_ (goL ht he k.exk (fun r1 e1 E'=>sndEs R es eo ko hnd ht hc e1 X hv) fun vs H1 e1 vals h' tk σ' hp X1 a1 q1=>?_)
  obtain ⟨hz,e3⟩:=mi_p e1
  obtain rfl:=Option.some.inj e3
  exact new_tup X1 q1 hz (k.adv (tk:=tk) a1)
 | .lstF es=>by
  intro s σ H E env nm kd loc x r eo ko hnd ht hc he X hv
  refine oL_e hc fun _ _ hc=>?_
  refine .plain rfl fun Q k=>List_ (goL ht he k.exk (fun r1 e1 E'=>sndEs R es eo ko hnd ht hc e1 X hv) fun vs H1 e1 vals h' tk σ' hp X1 a1 q1=>?_)
  obtain ⟨hz,e3⟩:=mi_some e1
  obtain rfl:=Option.some.inj e3
  exact new_lst X1 q1 (of_decide_eq_true (Bool.and_eq_true_iff.mp hz).2) (k.adv (tk:=tk) a1)
 | .lstM es=>by
  intro s σ H E env nm kd loc x r eo ko hnd ht hc he X hv
  refine oL_e hc fun _ _ hc=>?_
  refine .plain rfl fun Q k=>List_ (goL ht he k.exk (fun r1 e1 E'=>sndEs R es eo ko hnd ht hc e1 X hv) fun vs H1 e1 vals h' tk σ' hp X1 a1 q1=>?_)
  obtain ⟨hz,e3⟩:=mi_p e1
  obtain rfl:=Option.some.inj e3
  exact new_mut X1 q1 hz (k.adv (tk:=tk) a1)
 | .comp e i m=>by
  intro s σ H E env nm kd loc x r eo ko hnd ht hc he X hv
  obtain ⟨elt,y,p,id,q,k,cpos,scope,pos,rfl,K,hg,h1,h2,h3⟩:=chk_comp hc
  refine .plain rfl fun Q kk=>?_
  rw [eval_ListComp]
  refine compCore R eo ko hnd ht K hg h3 X hv (fun r1 e1 E'=>sndE R m eo ko hnd ht h1 e1 X hv) (fun eo' ko' hp e' X' hv'=>sndE R e eo' ko' hnd hp h2 e' X' hv') he kk.exk (fun l H2 j D C h' tk σ' hr hpure hl hd hp X' a' hC hn hbC hfC=>?_)
  obtain ⟨m',hn⟩:=hn
  refine ⟨m',hn,fun h'' hs''=>?_⟩
  subst hr
  obtain ⟨X1,a1,q1⟩:=seal_list X' hl hd
  obtain ⟨X2,a2⟩:=changeF (O:=fun a=>a=C) (h':=h'') X1 (a'.trans a1) (fun a z=>by rw [z]; exact hC) (fun b o hb e=>hs''.extBut b o hb e) (fun a z=>by subst z; exact ⟨hbC,ns_noseq hn,.inr hfC⟩)
  exact kk _ h'' tk σ' X2 a2 (VR.mono (fun b o hb e hs=>hs''.extBut b o (by rintro rfl; exact ns_noseq hn o e hs) e) (fun _ q _=>q) (fun _ _ q=>q) (q1 hpure))
theorem sndEs (R:Rdy prog w c A call n):∀ es:Mine.Es,SndEs prog w A c call es
 | .nil=>by
  intro s σ H E env nm kd loc x r eo ko hnd ht hc he X hv
  cases List.isEmpty_iff.mp (hc:x.isEmpty=true)
  obtain rfl:=Option.some.inj he
  exact fun pos QL k=>args_nil (k [] s.heap s.toks σ X (.refl ..) .nil)
 | .cons e es=>by
  intro s σ H E env nm kd loc x r eo ko hnd ht hc he X hv
  refine oCons_e hc fun _ _ hc=>?_
  obtain ⟨hc,h2⟩:=Bool.and_eq_true_iff.mp hc
  obtain ⟨h0,h1⟩:=Bool.and_eq_true_iff.mp hc
  refine fun pos QL k=>args_cons (go ht he k.exk (fun r1 e1 E'=>sndE R e eo ko hnd ht h1 e1 X hv) fun v H1 e1 va h' tk σ' hp X1 a1 q1=>?_) (notStar_each h0)
  refine goL hp e1 (fun H2 e2=>(k.exk H2 e2).adv a1) (fun r1 e1 E'=>sndEs R es eo ko hnd hp h2 e1 X1 (hv.adv0 X a1)) fun vs H2 e2 vals h2' tk2 σ2 hp2 X2 a2 q2=>?_
  obtain rfl:=Option.some.inj e2
  exact k _ h2' tk2 σ2 X2 (a1.trans a2) (.cons (q1.adv0 a2) q2)
end
end
end Mine
end
section
open PySem PySem.W PyProof.Rows PySem.Calls PySem.Builtin.Str
namespace Mine
inductive ExcT (f:Value) (base:Heap) (C:Value) (h0:Heap) (e:Addr) (h:Heap):Prop
 | mk:h0.get? e=none→base.get? e=none→∀ (oe:Obj) (vs:Array Value) (a0:Value) (T:Addr) (oT:Obj) (ts:Array Value),h.get? e=some oe→oe.cls=C→oe.data=.fields vs→vs[0]?=some a0 →
  vs[1]?=some (.ref T)→h0.get? T=none→base.get? T=none→T≠e→h.get? T=some oT→oT.data=.fields ts→ts[3]?=some f→ExcT f base C h0 e h
noncomputable abbrev ExcO (L:Addr):=ExcX fun f=>f=.none∨f=rawInt L
theorem ExcX.x {fs:Value→Prop} {base:Heap} {C:Value} {h0 h:Heap} {e:Addr} (x:ExcX fs base C h0 e h) {fl:Value→Prop} (hf:∀ f,fs f→fl f):ExcX fl base C h0 e h:=by
 obtain ⟨a,b,oe,vs,a0,h1,h2,h3,h4,h5⟩:=x
 exact ⟨a,b,oe,vs,a0,h1,h2,h3,h4,h5.imp id fun ⟨T,oT,ts,f,r1,r2,r3,r4,r5,r6,r7,r8⟩=>⟨T,oT,ts,f,r1,r2,r3,r4,r5,r6,r7,hf f r8⟩⟩
theorem ExcT.x {f:Value} {base:Heap} {C:Value} {h0 h:Heap} {e:Addr} (x:ExcT f base C h0 e h) {fl:Value→Prop} (hf:fl f):ExcX fl base C h0 e h:=by
 obtain ⟨a,b,oe,vs,a0,T,oT,ts,h1,h2,h3,h4,r1,r2,r3,r4,r5,r6,r7⟩:=x
 exact ⟨a,b,oe,vs,a0,h1,h2,h3,h4,.inr ⟨T,oT,ts,_,r1,r2,r3,r4,r5,r6,r7,hf⟩⟩
theorem ExcT.exc {base:Heap} {C:Value} {h0 h:Heap} {e:Addr} (x:ExcT .none base C h0 e h):Exc base C h0 e h:=x.x rfl
theorem ok_after {base:Heap} {envs:List Env} {b:Nat} {lim:Nat→Option Nat} {O:Addr→Prop} {h0 h h':Heap} {σ0 σ:List Addr} {H0 H:Hp} (X:FRx base envs b lim h σ H) (a1:Adv O h0 σ0 H0 h σ H) {P:Addr→Prop}
  (hP:∀ a,P a→base.get? a=none∧h0.get? a=none∧(∀ o,h.get? a=some o→∃ vs,o.data=.fields vs))
  (hk:∀ b o,¬ P b→b∉envs.filterMap (·.frame)→h.get? b=some o→h'.get? b=some o)
  (hf:∀ b o,h.get? b=some o→(∀ vs,o.data≠.fields vs)→∃ sl,h'.get? b=some { o with slots:=sl }) :
  FRx base envs b lim h' σ H∧Adv O h0 σ0 H0 h' σ H:=by
 have fr:∀ a,a∈envs.filterMap (·.frame)→∃ m,h.Ns a m:=fun a ha=>by
  obtain ⟨env,he,hf⟩:=List.mem_filterMap.mp ha
  exact X.frd env he a hf
 have ns:∀ a m,h.Ns a m→h'.Ns a m:=fun a m ⟨o,es,ep,ho,hd,r⟩=>by
  obtain ⟨sl,hs⟩:=hf a o ho fun vs q=>by rw [hd] at q; cases q
  exact ⟨_,es,ep,hs,hd,r⟩
 have seq:∀ b o,h.get? b=some o→IsSeq o→h'.get? b=some o:=fun b o e hs=>hk b o
  (fun z=>by obtain ⟨vs,q⟩:=(hP b z).2.2 o e; obtain ⟨arr,n,q'⟩:=hs; rw [q] at q'; cases q')
  (fun z=>by obtain ⟨m,hn⟩:=fr b z; exact ns_noseq hn o e hs) e
 refine ⟨{ stays:=fun b o e=>hk b o (fun z=>?_) (fun z=>?_) (X.stays b o e),frames:=X.frames.of_keeps fun b o ho hd=>let ⟨sl,e⟩:=hf b o ho hd; ⟨_,e,rfl⟩,frd:=fun env he L hL=>let ⟨m,hn⟩:=X.frd env he L hL; ⟨m,ns L m hn⟩,len:=X.len,nodup:=X.nodup,apart:=X.apart,dom:=fun a ha=>?_,objs:=fun i l e=>?_,loc:=X.loc,blen:=X.blen,hi:=X.hi,hs:=X.hs },
  fun b o hb e=>?_,a1.pre,a1.live,fun a o e=>?_⟩
 ·rw [(hP b z).1] at e; cases e
 ·rw [(X.frames.mem z).1] at e; cases e
 ·obtain ⟨arr,n,e⟩:=X.dom a ha
  exact ⟨arr,n,seq a _ e ⟨_,_,rfl⟩⟩
 ·obtain ⟨a,arr,n,h1,h2,h3,h4⟩:=X.objs i l e
  exact ⟨a,arr,n,h1,seq a _ h2 ⟨_,_,rfl⟩,h3,VRs.mono (fun b o _ e hs=>seq b o e hs) (fun _ q _=>q) (fun _ _ q=>q) h4⟩
 ·have nP:¬ P b:=fun z=>by rw [(hP b z).2.1] at e; cases e
  rcases a1.step b o hb e with q | ⟨⟨m,hm⟩,q⟩
  ·by_cases hfr:b∈envs.filterMap (·.frame)
   ·obtain ⟨m,o',es,ep,ho,r⟩:=fr b hfr
    rw [q] at ho; cases ho
    refine .inr ⟨⟨m,o,es,ep,e,r⟩,fun m' hm'=>ns b m' ?_⟩
    obtain ⟨o'',es',ep',ho',r'⟩:=hm'
    rw [e] at ho'; cases ho'
    exact ⟨o,es',ep',q,r'⟩
   ·exact .inl (hk b o nP hfr q)
  ·exact .inr ⟨⟨m,hm⟩,fun m' hm'=>ns b m' (q m' hm')⟩
 ·obtain ⟨o',e'⟩:=a1.dom a o e
  have nP:¬ P a:=fun z=>by rw [(hP a z).2.1] at e; cases e
  by_cases hfr:a∈envs.filterMap (·.frame)
  ·obtain ⟨m,hn⟩:=fr a hfr
   obtain ⟨o'',_,_,ho,_⟩:=ns a m hn
   exact ⟨o'',ho⟩
  ·exact ⟨o',hk a o' nP hfr e'⟩
theorem hidden_frames {base h h':Heap} {S:List Addr}:∀ {l:List Env},h.FunFrames base l→(∀ env∈l,∀ a,env.frame=some a→a∈S)→h.FunFrames (hideAll h' S) l
 | [],_,_=>trivial
 | _ :: _,⟨hk,⟨L,o,hf,hn,ho,hd⟩,hr⟩,hS=>⟨hk,⟨L,o,hf,hideAll_none S (hS _ List.mem_cons_self L hf),ho,hd⟩,hidden_frames hr fun env he=>hS env (List.mem_cons_of_mem _ he)⟩
section
variable {M:Model} {A:Around} {E:Value→Shared→Prop} {s:Shared} {c:Cx} {σ σ0:List Addr} {H H0:Hp} {h0:Heap} {O:Addr→Prop} {env:Env} {outer:List Env} {L e:Addr} {Q:Unit→Shared→Prop}
theorem exc_note (hen:c.envs=env :: outer) (hfr:A.frames=some c.envs) (hf:env.frame=some L) (X:c.Ok s.heap σ H) (a1:Adv O h0 σ0 H0 s.heap σ H) (hx:ExcO L c.base c.C h0 e s.heap)
  (k:∀ h',c.Ok h' σ H→Adv O h0 σ0 H0 h' σ H→ExcT (rawInt L) c.base c.C h0 e h'→Q () { s with heap:=h' }):wpAny M A (noteFrame (.ref e) env) Q E s:=by
 obtain ⟨hn,hbn,oe,vs,a0,he,hcl,hd,hv0,hv1⟩:=hx
 have hfr':A.frames=some (env :: outer):=by rw [← hen]; exact hfr
 have XF:s.heap.FunFrames c.base (env :: outer):=by rw [← hen]; exact X.frames
 have noframe:∀ a o,s.heap.get? a=some o→(∃ vs,o.data=.fields vs)→a∉c.envs.filterMap (·.frame):=fun a o ha ⟨vs,hd⟩ hm=>by
  obtain ⟨_,o',ho',hnd⟩:=X.frames.mem hm
  rw [ha] at ho'; cases ho'; exact hnd vs hd
 have fin:∀ (S:List Addr),(∀ a,a∈S↔(a∈c.envs.filterMap (·.frame)∨a=e∨vs[1]?=some (.ref a)))→(∀ T,vs[1]?=some (.ref T)→h0.get? T=none∧c.base.get? T=none∧∃ oT ts,s.heap.get? T=some oT∧oT.data=.fields ts) →
   ∀ h',Heap.NotedW (hideAll s.heap S) (env :: outer) e oe.cls a0 (rawInt L) s.heap h'→Q () { s with heap:=h' }:=by
  intro S hS hT h' ⟨n1,n2,n3,n4⟩
  obtain ⟨X',a'⟩:=ok_after (h':=h') X a1 (P:=fun a=>a=e∨vs[1]?=some (.ref a)) (fun a z=>by
   rcases z with rfl | z
   ·exact ⟨hbn,hn,fun o ho=>by rw [he] at ho; cases ho; exact ⟨vs,hd⟩⟩
   ·obtain ⟨q1,q2,oT,ts,q3,q4⟩:=hT a z
    exact ⟨q2,q1,fun o ho=>by rw [q3] at ho; cases ho; exact ⟨ts,q4⟩⟩)
   (fun b o hb hfb ho=>n1 b o (hideAll_get S ho fun z=>by
    rcases (hS b).mp z with z | z
    ·exact hfb z
    ·exact hb z)) n4
  obtain ⟨oe',vs',T',oT',ts',m1,⟨m2,m3⟩,m4,m5,m6,m7,m8,m9,m10⟩:=n3
  have hT':h0.get? T'=none∧c.base.get? T'=none:=by
   by_cases hin:T'∈S
   ·rcases (hS T').mp hin with z | z | z
    ·exfalso
     obtain ⟨env',he',hf'⟩:=List.mem_filterMap.mp z
     obtain ⟨m,o,es,ep,ho,hdd,_⟩:=X'.frd env' he' T' hf'
     rw [m8] at ho; cases ho; rw [m9] at hdd; cases hdd
    ·exact absurd z m7
    ·exact ⟨(hT T' z).1,(hT T' z).2.1⟩
   ·have hno:s.heap.get? T'=none:=by
     cases q:s.heap.get? T' with
     | none=>rfl
     | some o=>rw [hideAll_get S q hin] at m6; cases m6
    exact ⟨a1.old hno,base_none X hno⟩
  exact k h' X' a' ⟨hn,hbn,oe',vs',a0,T',oT',ts',m1,m2.trans hcl,m4,m3,m5,hT'.1,hT'.2,m7,m8,m9,m10⟩
 have hid:∀ (S:List Addr),(hideAll s.heap S).StaysIn s.heap:=fun S b o e=>of_hideAll S e
 have hsub:∀ S:List Addr,(∀ a,a∈c.envs.filterMap (·.frame)→a∈S)→∀ env'∈env :: outer,∀ a,env'.frame=some a→a∈S:=fun S hS env' he' a ha=>hS a (List.mem_filterMap.mpr ⟨env',by rw [hen]; exact he',ha⟩)
 rcases hv1 with hv1 | ⟨T,oT,ts,f,hv1,hT0,hTb,hTe,hT,hTd,hT3,hfl⟩
 ·unfold noteFrame
  simp only [hf]
  refine wpAny_bind (wpAny_field he hd hv1 ?_)
  rw [if_neg (by decide)]
  let S:=e :: c.envs.filterMap (·.frame)
  have hS:∀ a,a∈S↔(a∈c.envs.filterMap (·.frame)∨a=e∨vs[1]?=some (.ref a)):=fun a=>by
   simp only [S,List.mem_cons]
   constructor
   ·rintro (z | z)
    ·exact .inr (.inl z)
    ·exact .inl z
   ·rintro (z | z | z)
    ·exact .inr z
    ·exact .inl z
    ·rw [hv1] at z; cases z
  exact wpAny_entryW (base:=hideAll s.heap S) hfr' (hidden_frames XF (hsub S fun a ha=>List.mem_cons_of_mem _ ha)) hf he (hid S) (hideAll_none S List.mem_cons_self) hd (Array.getElem?_eq_some_iff.mp hv1).1 hv0 (fin S hS fun T z=>by rw [hv1] at z; cases z)
 ·rcases hfl with rfl | rfl
  ·let S:=e :: T :: c.envs.filterMap (·.frame)
   have hS:∀ a,a∈S↔(a∈c.envs.filterMap (·.frame)∨a=e∨vs[1]?=some (.ref a)):=fun a=>by
    simp only [S,List.mem_cons]
    constructor
    ·rintro (z | z | z)
     ·exact .inr (.inl z)
     ·exact .inr (.inr (by rw [z]; exact hv1))
     ·exact .inl z
    ·rintro (z | z | z)
     ·exact .inr (.inr z)
     ·exact .inl z
     ·rw [hv1] at z; cases z; exact .inr (.inl rfl)
   have ht:s.heap.TracedW (hideAll s.heap S) e oe.cls a0:=⟨oe,vs,T,oT,ts,he,⟨rfl,hv0⟩,hd,hv1,hideAll_none S (List.mem_cons_of_mem _ List.mem_cons_self),hTe,hT,hTd,hT3⟩
   exact wpAny_noteFrame_onW (base:=hideAll s.heap S) hfr' (hidden_frames XF (hsub S fun a ha=>List.mem_cons_of_mem _ (List.mem_cons_of_mem _ ha))) hf ht (hid S) (hideAll_none S List.mem_cons_self)
    (fin S hS fun T' z=>by rw [hv1] at z; cases z; exact ⟨hT0,hTb,oT,ts,hT,hTd⟩)
  ·refine wpAny_noteFrame_againW (base:=c.base) (cls:=oe.cls) (a0:=a0) hf ⟨oe,vs,T,oT,ts,he,⟨rfl,hv0⟩,hd,hv1,hTb,hTe,hT,hTd,hT3⟩ ?_
   exact k s.heap X a1 ⟨hn,hbn,oe,vs,a0,T,oT,ts,he,hcl,hd,hv0,hv1,hT0,hTb,hTe,hT,hTd,hT3⟩
theorem exc_fly {f:Value} (fr:Option Addr) (X:c.Ok s.heap σ H) (a1:Adv O h0 σ0 H0 s.heap σ H) (hx:ExcT f c.base c.C h0 e s.heap)
  (k:∀ h',c.Ok h' σ H→Adv O h0 σ0 H0 h' σ H→ExcT (fr.elim .none fun a=>rawInt a) c.base c.C h0 e h'→Q () { s with heap:=h' }):wpAny M A (setFlight (.ref e) fr) Q E s:=by
 obtain ⟨hn,hbn,oe,vs,a0,T,oT,ts,he,hcl,hd,hv0,hv1,hT0,hTb,hTe,hT,hTd,hT3⟩:=hx
 have hsz3:3 < ts.size:=(Array.getElem?_eq_some_iff.mp hT3).1
 have other:∀ b,b≠T→(s.heap.update T (Obj.mapFields (·.setIfInBounds 3 (fr.elim Value.none fun f=>rawInt f)))).get? b=s.heap.get? b :=
  fun b hb=>Heap.get?_update_other _ _ (Ne.symm hb)
 unfold setFlight
 refine wpAny_bind (wpAny_field he hd hv1 ?_)
 rw [if_pos (show (Value.ref T != Value.none)=true from by simp)]
 refine wpAny_setField hT hTd hsz3 ?_
 obtain ⟨X',a'⟩:=ok_after (h':=s.heap.update T (Obj.mapFields (·.setIfInBounds 3 (fr.elim Value.none fun f=>rawInt f)))) X a1 (P:=fun a=>a=T)
  (fun a z=>by subst z; exact ⟨hTb,hT0,fun o ho=>by rw [hT] at ho; cases ho; exact ⟨ts,hTd⟩⟩) (fun b o hb _ ho=>(other b hb).trans ho)
  (fun b o ho hnf=>⟨o.slots,(other b (fun q=>by rw [q,hT] at ho; cases ho; exact hnf ts hTd)).trans ho⟩)
 exact k _ X' a' ⟨hn,hbn,oe,vs,a0,T,_,_,(other e (Ne.symm hTe)).trans he,hcl,hd,hv0,hv1,hT0,hTb,hTe,Heap.get?_update_self _ hT (Obj.isFreed_of_fields (Obj.data_mapFields hTd _)),Obj.data_mapFields hTd _,by simp [hsz3]⟩
theorem exc_up (hen:c.envs=env :: outer) (hfr:A.frames=some c.envs) (hf:env.frame=some L) {s1:Shared} {E1:Value→Shared→Prop} (X:c.Ok s.heap σ H) (a1:Adv O h0 σ0 H0 s.heap σ H) (hx:ExcO L c.base c.C h0 e s.heap)
  (k:∀ h',c.Ok h' σ H→Adv O h0 σ0 H0 h' σ H→ExcO L c.base c.C h0 e h'→E1 (.ref e) { s with heap:=h' }):notedBy M A env (cameBackBy M A env E1) (.ref e) s:=by
 unfold notedBy
 refine exc_note hen hfr hf X a1 hx fun h1 X1 a1 x1=>?_
 unfold cameBackBy
 have x1':=x1
 obtain ⟨hn,hbn,oe,vs,a0,T,oT,ts,he,hcl,hd,hv0,hv1,_⟩:=x1
 refine wpAny_bind (wpAny_field (s:={ s with heap:=h1 }) he hd hv1 ?_)
 rw [if_neg (show ¬ ((Value.ref T==Value.none)=true) from by simp)]
 first
  | exact wpAny_bind (wpAny_pure (exc_fly (s:={ s with heap:=h1 }) env.frame X1 a1 x1' fun h2 X2 a2 x2=>k h2 X2 a2 (x2.x (by rw [hf]; exact .inr rfl))))
  | exact exc_fly (s:={ s with heap:=h1 }) env.frame X1 a1 x1' fun h2 X2 a2 x2=>k h2 X2 a2 (x2.x (by rw [hf]; exact .inr rfl))
theorem exc_leave (hen:c.envs=env :: outer) (hfr:A.frames=some c.envs) (hf:env.frame=some L) (X:c.Ok s.heap σ H) (a1:Adv O h0 σ0 H0 s.heap σ H) (hx:ExcO L c.base c.C h0 e s.heap)
  (k:∀ h',c.Ok h' σ H→Adv O h0 σ0 H0 h' σ H→Exc c.base c.C h0 e h'→Q () { s with heap:=h' }):wpAny M A (leaving env (.ref e)) Q E s:=by
 unfold leaving
 exact wpAny_bind (exc_note hen hfr hf X a1 hx fun h1 X1 a1 x1=>exc_fly (s:={ s with heap:=h1 }) none X1 a1 x1 fun h2 X2 a2 x2=>k h2 X2 a2 x2.exc)
end
end Mine
end
section
open PySem PySem.W PyProof.Rows PySem.Calls PySem.Builtin.Str
namespace Mine
theorem adv00 (O:Addr→Prop) (h:Heap) (σ:List Addr) (H:Hp):Adv O h00 [] [] h σ H where
 step:=fun b o _ e=>by rw [h00_none] at e; cases e
 pre:=fun i b e=>by simp at e
 live:=fun b _ ⟨o,e⟩=>by rw [h00_none] at e; cases e
 dom:=fun b o e=>by rw [h00_none] at e; cases e
structure FnE (c:Cx) (env:Env):Prop where
 eo:EnvOk env
 head:∃ outer,c.envs=env :: outer
 loc:env.frame=some env.locals
 inj:∀ x y a,env.cells.lookup x=some a→env.cells.lookup y=some a→x=y
 cb:∀ x a,env.cells.lookup x=some a→c.base.get? a=none
noncomputable def Own (env:Env) (a:Addr):Prop:=a=env.locals∨∃ x,env.cells.lookup x=some a
noncomputable def Fm (env:Env) (h:Heap):Prop:=(∃ m,h.Ns env.locals m)∧∀ x a,env.cells.lookup x=some a→∃ v,h.IsCell a v
theorem cell_noseq {h:Heap} {a:Addr} {v:Option Value} (hc:h.IsCell a v):∀ o,h.get? a=some o→¬ IsSeq o:=fun o e ⟨arr,n,q⟩=>by
 obtain ⟨o',e',hd⟩:=hc
 rw [e] at e'; cases e'; rw [q] at hd; cases hd
theorem Fm.noseq {env:Env} {h:Heap} (f:Fm env h):∀ a o,Own env a→h.get? a=some o→¬ IsSeq o:=fun a o z e=>by
 rcases z with rfl | ⟨x,hx⟩
 ·obtain ⟨m,hn⟩:=f.1; exact ns_noseq hn o e
 ·obtain ⟨v,hc⟩:=f.2 x a hx; exact cell_noseq hc o e
theorem Fm.adv0 {c:Cx} {env:Env} {h h':Heap} {σ σ':List Addr} {H H':Hp} (f:Fm env h) (X:c.Ok h σ H) (a:Adv No h σ H h' σ' H'):Fm env h' :=
  ⟨f.1.imp fun m hn=>ns_step a.step hn fun z=>z.elim (fun z=>by obtain ⟨arr,k,q⟩:=X.live_seq z; exact ns_noseq hn _ q ⟨_,_,rfl⟩) fun z=>z,
   fun x b hx=>(f.2 x b hx).imp fun v hc=>cell_step a.step hc fun z=>z.elim (fun z=>by obtain ⟨arr,k,q⟩:=X.live_seq z; exact cell_noseq hc _ q ⟨_,_,rfl⟩) fun z=>z⟩
noncomputable def ContS (c:Cx) (env:Env) (nm:List Txt) (s:Shared) (σ:List Addr) (H:Hp) (Q:Flow→Shared→Prop) (E:Value→Shared→Prop):RS→Prop
 | .next l H'=>∀ h' tk σ',0 < tk→c.Ok h' σ' H'→Adv (Own env) s.heap σ H h' σ' H'→Vars nm env h' σ' H' l→Fm env h'→Q .next (sU s h' tk)
 | .cont l H'=>∀ h' tk σ',0 < tk→c.Ok h' σ' H'→Adv (Own env) s.heap σ H h' σ' H'→Vars nm env h' σ' H' l→Fm env h'→Q .cont (sU s h' tk)
 | .ret v H'=>∀ val h' tk σ',c.Ok h' σ' H'→Adv (Own env) s.heap σ H h' σ' H'→VR h' (Live σ' H') σ' val v→Q (.ret val) (sU s h' tk)
 | .exc H'=>∀ e h' tk σ',c.Ok h' σ' H'→Adv (Own env) s.heap σ H h' σ' H'→ExcO env.locals c.base c.C s.heap e h'→E (.ref e) (sU s h' tk)
theorem ContS.adv {c:Cx} {env:Env} {nm:List Txt} {s:Shared} {σ σ₁:List Addr} {H H₁:Hp} {Q:Flow→Shared→Prop} {E:Value→Shared→Prop} {r:RS} (k:ContS c env nm s σ H Q E r) {h₁:Heap} {tk:Nat} (x:Adv (Own env) s.heap σ H h₁ σ₁ H₁) :
  ContS c env nm (sU s h₁ tk) σ₁ H₁ Q E r:=by
 cases r with
 | next l H'=>exact fun h' tk σ' hp a b d f=>k h' tk σ' hp a (x.trans b) d f
 | cont l H'=>exact fun h' tk σ' hp a b d f=>k h' tk σ' hp a (x.trans b) d f
 | ret v H'=>exact fun val h' tk σ' a b d=>k val h' tk σ' a (x.trans b) d
 | exc H'=>exact fun e h' tk σ' a b d=>k e h' tk σ' a (x.trans b) (ExcX.adv x d)
theorem Adv.own {env:Env} {h h₁:Heap} {σ σ₁:List Addr} {H H₁:Hp} (x:Adv No h σ H h₁ σ₁ H₁):Adv (Own env) h σ H h₁ σ₁ H₁:=x.weaken fun _ z _=>z.elim
theorem ContS.adv0 {c:Cx} {env:Env} {nm:List Txt} {s:Shared} {σ σ₁:List Addr} {H H₁:Hp} {Q:Flow→Shared→Prop} {E:Value→Shared→Prop} {r:RS} (k:ContS c env nm s σ H Q E r) {h₁:Heap} {tk:Nat} (x:Adv No s.heap σ H h₁ σ₁ H₁) :
  ContS c env nm (sU s h₁ tk) σ₁ H₁ Q E r:=k.adv x.own
theorem ContS.exk {c:Cx} {env:Env} {nm:List Txt} {s:Shared} {σ:List Addr} {H:Hp} {Q:Flow→Shared→Prop} {E:Value→Shared→Prop} {r:RS} (k:ContS c env nm s σ H Q E r):∀ H1,r=.exc H1→ExcK c s σ H E H1:=by
 rintro H1 rfl e h' tk σ' X a x
 exact k e h' tk σ' X a.own (ExcX.x x fun _=>.inl)
section
variable {prog:Program} {w:World} {A:Around} {c:Cx} {call:Nat→List V→Hp→Option (Res V)} {n:Nat}
variable {s:Shared} {σ:List Addr} {H:Hp} {E:Value→Shared→Prop} {env:Env} {nm:List Txt} {loc:Loc}
theorem bndS_go {x:Option (Res V)} {f:V→Hp→Option RS} {r:RS} (hb:bndS x f=some r) :
  (∃ v H1,x=some (.ok v H1)∧f v H1=some r)∨∃ H1,x=some (.exc H1)∧r=.exc H1:=by
 cases x with
 | none=>exact (noS hb).elim
 | some y=>cases y with
  | ok v H1=>exact .inl ⟨v,H1,rfl,hb⟩
  | exc H1=>exact .inr ⟨H1,rfl,(Option.some.inj hb).symm⟩
theorem goS {e:Expr} {x:Option (Res V)} {f:V→Hp→Option RS} {r:RS} {Q1:Value→Shared→Prop} (ht:0 < s.toks) (hb:bndS x f=some r) (hx:∀ H1,r=.exc H1→ExcK c s σ H E H1)
  (ih:∀ r1,x=some r1→∀ E',Both prog w A env c s σ H E' e r1)
  (k:∀ v H1,f v H1=some r→∀ val h' tk σ',0 < tk→c.Ok h' σ' H1→Adv No s.heap σ H h' σ' H1→VR h' (Live σ' H1) σ' val v→Q1 val (sU s h' tk)) :
  wpAny (model prog w) A (eval e env) Q1 E s:=by
 refine wpAny_with_toks (n:=1) ht ?_
 rcases bndS_go hb with ⟨v,H1,e1,e2⟩ | ⟨H1,e1,rfl⟩
 ·exact (ih _ e1 _).1 _ fun val h' tk σ' X a q hp=>k v H1 e2 val h' tk σ' hp X a q
 ·exact (ih _ e1 _).1 _ (hx H1 rfl).pos
theorem goST {e:Expr} {x:Option (Res V)} {f:V→Hp→Option RS} {r:RS} {Q1:Bool→Shared→Prop} (ht:0 < s.toks) (hb:bndS x f=some r) (hx:∀ H1,r=.exc H1→ExcK c s σ H E H1)
  (hbool:∀ v H1,f v H1=some r→∃ b,v=.bool b)
  (ih:∀ r1,x=some r1→∀ E',Both prog w A env c s σ H E' e r1)
  (k:∀ b H1,f (.bool b) H1=some r→∀ h' tk σ',0 < tk→c.Ok h' σ' H1→Adv No s.heap σ H h' σ' H1→Q1 b (sU s h' tk)) :
  wpAny (model prog w) A (isTrue e env (eval e env)) Q1 E s:=by
 refine wpAny_with_toks (n:=1) ht ?_
 rcases bndS_go hb with ⟨v,H1,e1,e2⟩ | ⟨H1,e1,rfl⟩
 ·obtain ⟨b,rfl⟩:=hbool v H1 e2
  exact (ih _ e1 _).2 _ ⟨b,rfl,fun h' tk σ' X a hp=>k b H1 e2 h' tk σ' hp X a⟩
 ·exact (ih _ e1 _).2 _ (hx H1 rfl).pos
theorem store {M:Model} {id:Str} {i:Nat} {val:Value} {v:V} {Q:Unit→Shared→Prop} (F:FnE c env) (hnd:nm.Nodup) (hl:isLoc nm i id=true) (hk:env.kindOf id=some .local∨env.kindOf id=some .cell)
  (X:c.Ok s.heap σ H) (hv:Vars nm env s.heap σ H loc) (f:Fm env s.heap) (q:VR s.heap (Live σ H) σ val v)
  (k:∀ h' tk,c.Ok h' σ H→Adv (Own env) s.heap σ H h' σ H→Vars nm env h' σ H (loc.set i (some v))→Fm env h'→(s.toks≤tk)→Q () (sU s h' tk)) :
  wpAny M A (storeName env id val) Q E s:=by
 obtain ⟨hl1,_,_⟩:=isLoc_iff hl
 have hidx:∀ j z,nm[j]?=some (tx z)→z=id→j=i:=fun j z hz hzi=>by
  subst hzi
  have h1:=(List.getElem?_eq_some_iff.mp hl1).1
  obtain ⟨h2,e2⟩:=List.getElem?_eq_some_iff.mp hz
  obtain ⟨h3,e3⟩:=List.getElem?_eq_some_iff.mp hl1
  exact (List.getElem_inj hnd).mp (e2.trans e3.symm)
 have fin:∀ (a:Addr) (h':Heap) (tk:Nat),Own env a→Heap.SameBut a s.heap h'→(∀ o,s.heap.get? a=some o→¬ IsSeq o)→c.base.get? a=none→(∃ o,h'.get? a=some o)→((∃ m,h'.Ns a m)∨∀ env∈c.envs,env.frame≠some a) →
   Fm env h'→LocAt env h' id val→(∀ z,z≠id→∀ u,LocAt env s.heap z u→LocAt env h' z u)→s.toks≤tk→Q () (sU s h' tk):=by
  intro a h' tk ho hs hnq hb hex hfr f' hloc hoth ht
  have hkeep:∀ b o,b≠a→s.heap.get? b=some o→h'.get? b=some o:=fun b o hb e=>hs.extBut b o hb e
  have adv:Adv (Own env) s.heap σ H h' σ H:=⟨fun b o hb e=>.inl (hkeep b o (fun z=>hb (.inr (z ▸ ho))) e),fun _ _ e=>e,fun _ e _=>e,fun b o e=>by
   by_cases hba:b=a
   ·subst hba; exact hex
   ·exact ⟨o,hkeep b o hba e⟩⟩
  have X':c.Ok h' σ H:=(changeF (O:=fun b=>b=a) (h0:=h00) (H0:=[]) (σ0:=[]) (O0:=No) (h':=h') X (adv00 _ _ _ _)
   (fun b _=>h00_none b) (fun b o hb e=>hkeep b o hb e) (fun b z=>by subst z; exact ⟨hb,hnq,hfr⟩)).1
  refine k h' tk X' adv (fun j v' e z hz hkz=>?_) f' ht
  by_cases hji:j=i
  ·subst hji
   have hlt:j < loc.length:=by
    have:=(List.getElem?_eq_some_iff.mp e).1
    simpa using this
   rw [List.getElem?_set_self hlt] at e
   simp only [Option.some.injEq] at e
   subst e
   rw [hl1] at hz
   have:id=z:=tx_inj (Option.some.inj hz)
   subst this
   exact ⟨val,hloc,q.adv adv f.noseq⟩
  ·rw [List.getElem?_set_ne (fun z=>hji z.symm)] at e
   obtain ⟨u,hu,hr⟩:=hv j v' e z hz hkz
   exact ⟨u,hoth z (fun zi=>hji (hidx j z hz zi)) u hu,hr.adv adv f.noseq⟩
 obtain ⟨outer,hen⟩:=F.head
 have hmem:env∈c.envs:=by rw [hen]; exact List.mem_cons_self
 rcases hk with hk | hk
 ·obtain ⟨m,hn⟩:=f.1
  refine wpAny_storeName_local hk hn (fun h' hn' hs=>?_) (by simp [F.eo.kind])
  refine fin env.locals h' (s.toks + 1) (.inl rfl) hs (ns_noseq hn) ?_ ?_ (.inl ⟨_,hn'⟩) ⟨⟨_,hn'⟩,fun x a hx=>?_⟩ (.inl ⟨hk,_,hn',by simp⟩) (fun z hz u hu=>?_) (Nat.le_succ _)
  ·exact (X.frames.mem (List.mem_filterMap.mpr ⟨env,hmem,F.loc⟩)).1
  ·obtain ⟨o,_,_,ho,_⟩:=hn'; exact ⟨o,ho⟩
  ·obtain ⟨v,o,ho,hd⟩:=f.2 x a hx
   refine ⟨v,o,hs.extBut a o ?_ ho,hd⟩
   rintro rfl
   obtain ⟨o',es,ep,ho',hd',_⟩:=hn
   rw [ho] at ho'; cases ho'; rw [hd] at hd'; cases hd'
  ·rcases hu with ⟨h1,m',h2,h3⟩ | ⟨h1,a,h2,o,h3,h4⟩
   ·refine .inl ⟨h1,_,hn',?_⟩
    rw [if_neg hz,← h3]
    rw [ns_fun hn h2]
   ·refine .inr ⟨h1,a,h2,o,hs.extBut a o ?_ h3,h4⟩
    rintro rfl
    obtain ⟨o',es,ep,ho',hd',_⟩:=hn
    rw [h3] at ho'; cases ho'; rw [h4] at hd'; cases hd'
 ·obtain ⟨a,ha⟩:=F.eo.cells id (.inl hk)
  obtain ⟨v0,hc⟩:=f.2 id a ha
  refine wpAny_storeName_cell F.eo.kind hk ha hc fun h' hc' hs=>?_
  refine fin a h' s.toks (.inr ⟨id,ha⟩) hs (cell_noseq hc) (F.cb id a ha) ?_ (.inr ?_) ⟨?_,fun x b hx=>?_⟩ (.inr ⟨.inl hk,a,ha,hc'⟩) (fun z hz u hu=>?_) (Nat.le_refl _)
  ·obtain ⟨o,ho,_⟩:=hc'; exact ⟨o,ho⟩
  ·intro env' he' hf
   obtain ⟨m,o,es,ep,ho,hd,_⟩:=X.frd env' he' a hf
   obtain ⟨o',ho',hd'⟩:=hc
   rw [ho] at ho'; cases ho'; rw [hd] at hd'; cases hd'
  ·obtain ⟨m,hn⟩:=f.1
   refine ⟨m,ns_keep hn fun o e=>hs.extBut _ o ?_ e⟩
   rintro rfl
   obtain ⟨o',es,ep,ho',hd',_⟩:=hn
   obtain ⟨o'',ho'',hd''⟩:=hc
   rw [ho'] at ho''; cases ho''; rw [hd'] at hd''; cases hd''
  ·by_cases hba:b=a
   ·subst hba; exact ⟨_,hc'⟩
   ·obtain ⟨v,o,ho,hd⟩:=f.2 x b hx
    exact ⟨v,o,hs.extBut b o hba ho,hd⟩
  ·rcases hu with ⟨h1,m',hn,h3⟩ | ⟨h1,b,h2,o,h3,h4⟩
   ·refine .inl ⟨h1,m',ns_keep hn fun o e=>hs.extBut _ o ?_ e,h3⟩
    rintro rfl
    obtain ⟨o',es,ep,ho',hd',_⟩:=hn
    obtain ⟨o'',ho'',hd''⟩:=hc
    rw [ho'] at ho''; cases ho''; rw [hd'] at hd''; cases hd''
   ·refine .inr ⟨h1,b,h2,o,hs.extBut b o ?_ h3,h4⟩
    rintro rfl
    exact hz (F.inj z id b h2 ha)
end
end Mine
end
section
set_option genSizeOf false
set_option genInjectivity false
open PySem PySem.W PyProof.Rows PySem.Calls PySem.Builtin.Str
namespace Mine
section
variable {prog:Program} {w:World} {A:Around} {c:Cx} {call:Nat→List V→Hp→Option (Res V)} {n:Nat}
variable {s:Shared} {σ:List Addr} {H:Hp} {E:Value→Shared→Prop} {env:Env} {nm:List Txt} {loc:Loc}
inductive LInv (c:Cx) (env:Env) (nm:List Txt) (s:Shared) (σ:List Addr) (H:Hp) (s':Shared) (l:Loc) (H':Hp):Prop
 | mk (h:Heap) (tk:Nat) (σ':List Addr):s'=sU s h tk→0 < tk→c.Ok h σ' H'→Adv (Own env) s.heap σ H h σ' H'→Vars nm env h σ' H' l→Fm env h→LInv c env nm s σ H s' l H'
noncomputable def SndBody (prog:Program) (w:World) (A:Around) (c:Cx) (env:Env) (nm:List Txt) (bd:Loc→Hp→Option RS) (body:List Stmt):Prop :=
 ∀ {s1:Shared} {σ1:List Addr} {H1:Hp} {Q1:Flow→Shared→Prop} {E1:Value→Shared→Prop} {l1:Loc} {r1:RS},0 < s1.toks→bd l1 H1=some r1→c.Ok s1.heap σ1 H1→Vars nm env s1.heap σ1 H1 l1→Fm env s1.heap →
  ContS c env nm s1 σ1 H1 Q1 E1 r1→wpAny (model prog w) A (execs body env) Q1 E1 s1
theorem exc_loop (F:FnE c env) (hfr:A.frames=some c.envs) {Q:Flow→Shared→Prop} {H1:Hp} (K:ContS c env nm s σ H Q E (.exc H1)) {h:Heap} {σ1:List Addr} {H':Hp} (a1:Adv (Own env) s.heap σ H h σ1 H')
  {e:Addr} {h':Heap} {tk:Nat} {σ':List Addr} (X:c.Ok h' σ' H1) (a:Adv (Own env) h σ1 H' h' σ' H1) (x:ExcO env.locals c.base c.C h e h') :
  notedBy (model prog w) A env (cameBackBy (model prog w) A env E) (.ref e) (sU s h' tk):=by
 obtain ⟨outer,hen⟩:=F.head
 have a2:=a1.trans a
 exact exc_up (s:=sU s h' tk) (s1:=s) hen hfr F.loc X a2 (x.adv a1) fun h2 X2 a3 x2=>K e h2 tk σ' X2 a3 x2
theorem sndWhile (F:FnE c env) (au:AOk c A n) {cd bd:Loc→Hp→Option RS} {cdv:Loc→Hp→Option (Res V)} {test:Expr} {body:List Stmt} {Q:Flow→Shared→Prop} {r:RS}
  (ihc:∀ {s1:Shared} {σ1:List Addr} {H1:Hp} {E1:Value→Shared→Prop} {l1:Loc} {r1:Res V},0 < s1.toks→cdv l1 H1=some r1→c.Ok s1.heap σ1 H1→Vars nm env s1.heap σ1 H1 l1→Both prog w A env c s1 σ1 H1 E1 test r1)
  (ihb:SndBody prog w A c env nm bd body) (K:ContS c env nm s σ H Q E r) {N:Nat} {s':Shared} {l:Loc} {H':Hp} (I:LInv c env nm s σ H s' l H') (he:whileL cdv bd N l H'=some r) :
  codeAny (model prog w) A (.whileLoop test body [] env) (fun r s'=>match r with | .ok f=>Q f s' | .error e=>cameBackBy (model prog w) A env E e s') s':=by
 refine codeAny_whileLoop (fun k s'=>∃ l H',LInv c env nm s σ H s' l H'∧whileL cdv bd k l H'=some r) ?_ N ⟨l,H',I,he⟩
 rintro k s1 ⟨l1,H1,⟨h,tk,σ1,rfl,hp,X1,a1,hv1,f1⟩,he1⟩
 cases k with
 | zero=>exact (noS he1).elim
 | succ k =>
  refine goST hp he1 (fun H2 e2 e h' tk' σ' X' a' x'=>?_) (fun v H2 e2=>?_) (fun r1 e1 E'=>ihc hp e1 X1 hv1) fun b H2 e2 h' tk' σ' hp' X' a'=>?_
  ·subst e2
   exact exc_loop F au.frames K a1 X' a'.own (ExcX.x x' fun _=>.inl)
  ·cases v <;> first | exact ⟨_,rfl⟩ | exact (noS e2).elim
  ·have K':ContS c env nm (sU s h' tk') σ' H2 Q E r:=K.adv (a1.trans a'.own)
   have hv':=hv1.adv0 X1 a'
   have f':=f1.adv0 X1 a'
   cases b with
   | false =>
    obtain rfl:=Option.some.inj e2
    exact wpAny_execs_nil (K h' tk' σ' hp' X' (a1.trans a'.own) hv' f')
   | true =>
    refine wpAny_with_toks (n:=1) hp' ?_
    have e2:(match bd l1 H2 with | some (.next l H)=>whileL cdv bd k l H | some (.cont l H)=>whileL cdv bd k l H | r=>r)=some r:=e2
    cases hb:bd l1 H2 with
    | none=>rw [hb] at e2; exact (noS e2).elim
    | some rb =>
     rw [hb] at e2
     refine ihb (s1:=sU s h' tk') hp' hb X' hv' f' ?_
     cases rb with
     | next l2 H3=>exact fun h2 tk2 σ2 hp2 X2 a2 hv2 f2 _=>⟨k,Nat.lt_succ_self _,l2,H3,⟨h2,tk2,σ2,rfl,hp2,X2,(a1.trans a'.own).trans a2,hv2,f2⟩,e2⟩
     | cont l2 H3=>exact fun h2 tk2 σ2 hp2 X2 a2 hv2 f2 _=>⟨k,Nat.lt_succ_self _,l2,H3,⟨h2,tk2,σ2,rfl,hp2,X2,(a1.trans a'.own).trans a2,hv2,f2⟩,e2⟩
     | ret v H3 =>
      obtain rfl:=Option.some.inj e2
      exact fun val h2 tk2 σ2 X2 a2 q2 _=>K' val h2 tk2 σ2 X2 a2 q2
     | exc H3 =>
      obtain rfl:=Option.some.inj e2
      exact fun e h2 tk2 σ2 X2 a2 x2 _=>exc_loop F au.frames K (a1.trans a'.own) X2 a2 x2
theorem turn_I (F:FnE c env) {I:Addr} {h h2:Heap} {σ1:List Addr} {H1:Hp} {l1:Loc} (hI:s.heap.get? I=none) (hX:c.Ok s.heap σ H) (hIO:¬ Own env I) (X1:c.Ok h σ1 H1) (a1:Adv (Own env) s.heap σ H h σ1 H1) (nsI:∀ o,h.get? I=some o→¬ IsSeq o)
  (hk2:∀ b,b≠I→∀ o,h.get? b=some o→h2.get? b=some o) (hv1:Vars nm env h σ1 H1 l1) (f1:Fm env h):(c.Ok h2 σ1 H1∧Adv (Own env) s.heap σ H h2 σ1 H1)∧Vars nm env h2 σ1 H1 l1∧Fm env h2:=by
 have nl:env.locals≠I:=fun z=>hIO (.inl z.symm)
 have nc:∀ {x a},env.cells.lookup x=some a→a≠I:=fun hx z=>hIO (.inr ⟨_,z ▸ hx⟩)
 refine ⟨changeF (O:=fun a=>a=I) (h':=h2) X1 a1 (fun a z=>z ▸ hI) (fun b o hb e=>hk2 b hb o e) (fun a z=>by subst z; exact ⟨base_none hX hI,nsI,.inr (frame_ne hX hI)⟩),fun q v' e z hz hkz=>?_,
  f1.1.imp fun m' hn=>ns_keep hn (hk2 _ nl),fun x a hx=>(f1.2 x a hx).imp fun v ⟨o,ho,hd⟩=>⟨o,hk2 a (nc hx) o ho,hd⟩⟩
 obtain ⟨u,hu,hr⟩:=hv1 q v' e z hz hkz
 exact ⟨u,hu.imp (fun ⟨h1,m',hn,h3⟩=>⟨h1,m',ns_keep hn (hk2 _ nl),h3⟩) (fun ⟨h1,b,hb,o,h3,h4⟩=>⟨h1,b,hb,o,hk2 b (nc hb) o h3,h4⟩),
  VR.mono (fun b o _ e hs=>hk2 b (fun z=>nsI o (z ▸ e) hs) o e) (fun _ q _=>q) (fun _ _ q=>q) hr⟩
theorem sndFor (F:FnE c env) (au:AOk c A n) (hnd:nm.Nodup) {bd:Loc→Hp→Option RS} {body:List Stmt} {Q:Flow→Shared→Prop} {r:RS} {id:Str} {p:Pos} {i:Nat} {I:Addr} {fp:List Addr} {m:Nat} {P:Nat→Value→Prop} {St:Nat→Heap→Prop} {vs:List V}
  (W:Walks prog w A I fp [I] m P St) (hl:isLoc nm i id=true) (hk:env.kindOf id=some .local) (hI:s.heap.get? I=none) (hX:c.Ok s.heap σ H) (hIO:¬ Own env I)
  (hSt:∀ j h,St j h→∀ o,h.get? I=some o→∃ ws,o.data=.fields ws)
  (hfp:∀ b∈fp,b≠I→(∃ o,s.heap.get? b=some o∧IsSeq o)∧¬ Live σ H b∧¬ Own env b)
  (hlen:vs.length=m) (hP:∀ j v,j < m→P j v→∀ {h':Heap} {σ':List Addr} {H':Hp},Adv (Own env) s.heap σ H h' σ' H'→∃ y,vs[j]?=some y∧VR h' (Live σ' H') σ' v y)
  (hOs:∀ a o,Own env a→s.heap.get? a=some o→¬ IsSeq o)
  (ihb:SndBody prog w A c env nm bd body) (K:ContS c env nm s σ H Q E r) {s':Shared} {l:Loc} {H':Hp} (J:LInv c env nm s σ H s' l H') (hst:St 0 s'.heap) (he:forL (put1 i) bd vs l H'=some r) :
  codeAny (model prog w) A (.forLoop (.Name id p) (.ref I) body [] env) (fun r s'=>match r with | .ok f=>Q f s' | .error e=>cameBackBy (model prog w) A env E e s') s':=by
 refine codeAny_forLoop (fun k s'=>∃ j l H',k=m - j∧j≤m∧LInv c env nm s σ H s' l H'∧St j s'.heap∧forL (put1 i) bd (vs.drop j) l H'=some r) ?_ m ⟨0,l,H',rfl,Nat.zero_le _,J,hst,he⟩
 rintro k s1 ⟨j,l1,H1,rfl,hj,⟨h,tk,σ1,rfl,hp,X1,a1,hv1,f1⟩,hst1,he1⟩
 have nsI:∀ {j h},St j h→∀ o,h.get? I=some o→¬ IsSeq o:=fun st o e ⟨arr,k,q⟩=>by obtain ⟨ws,q'⟩:=hSt _ _ st o e; rw [q] at q'; cases q'
 by_cases hlt:j < m
 ·refine wpAny_with_toks (n:=1) hp (W.item j _ _ _ hlt hst1 fun v h2 tk2 hPv hst2 hk2 hp2=>?_)
  obtain ⟨⟨X2,a2⟩,hv2,f2⟩:=turn_I (s:=s) F hI hX hIO X1 a1 (nsI hst1) (fun b hb o e=>hk2 b o (fun z=>hb (List.mem_singleton.mp z)) e) hv1 f1
  obtain ⟨y,hy,hr⟩:=hP j v hlt hPv a2
  have he1:(match bd (l1.set i (some y)) H1 with | some (.next l H)=>forL (put1 i) bd (vs.drop (j + 1)) l H | some (.cont l H)=>forL (put1 i) bd (vs.drop (j + 1)) l H | r=>r)=some r:=by
   obtain ⟨hjl,hyj⟩:=List.getElem?_eq_some_iff.mp hy
   rw [List.drop_eq_getElem_cons hjl,hyj] at he1
   exact he1
  refine wpAny_assign_Name (store (s:=sU s h2 tk2) F hnd hl (.inl hk) X2 hv2 f2 hr fun h3 tk3 X3 a3 hv3 f3 ht3=>?_)
  have a13:Adv (Own env) s.heap σ H h3 σ1 H1:=a2.trans a3
  have hp3:0 < tk3:=Nat.lt_of_lt_of_le hp2 ht3
  have stay:∀ {h3 h4:Heap} {σ3 σ4:List Addr} {H3 H4:Hp},St (j + 1) h3→c.Ok h3 σ3 H3→Adv (Own env) s.heap σ H h3 σ3 H3→Adv (Own env) h3 σ3 H3 h4 σ4 H4→St (j + 1) h4:=fun {h3 h4 σ3 σ4 H3 H4} st X3 a13 a4=>W.frame _ _ _ st fun b hb o e=>by
   by_cases hbI':b=I
   ·subst hbI'
    exact a4.step.seq (fun z=>z.elim (X3.not_live e (nsI st o e)) hIO) e (fun es k q=>by obtain ⟨ws,q'⟩:=hSt (j + 1) h3 st o e; rw [q] at q'; cases q')
   ·obtain ⟨⟨ob,hob,hsq⟩,hnl,hno⟩:=hfp b hb hbI'
    have nb:¬ (Live σ H b∨Own env b):=fun z=>z.elim hnl hno
    obtain rfl:=Option.some.inj (e.symm.trans (a13.step.seq nb hob hsq.nd))
    exact (a13.trans a4).step.seq nb hob hsq.nd
  have hst3:St (j + 1) h3:=stay hst2 X2 a2 a3
  have K':ContS c env nm (sU s h3 tk3) σ1 H1 Q E r:=K.adv a13
  refine wpAny_with_toks (n:=1) hp3 ?_
  cases hb:bd (l1.set i (some y)) H1 with
  | none=>rw [hb] at he1; exact (noS he1).elim
  | some rb =>
   rw [hb] at he1
   have go:∀ {h4:Heap} {tk4:Nat} {σ4:List Addr} {l2:Loc} {H3:Hp},0 < tk4→c.Ok h4 σ4 H3→Adv (Own env) h3 σ1 H1 h4 σ4 H3→Vars nm env h4 σ4 H3 l2→Fm env h4→forL (put1 i) bd (vs.drop (j + 1)) l2 H3=some r →
     ∃ k,k < m - j∧∃ j l H',k=m - j∧j≤m∧LInv c env nm s σ H (sU s h4 tk4) l H'∧St j h4∧forL (put1 i) bd (vs.drop j) l H'=some r :=
    fun {h4 tk4 σ4 l2 H3} hp4 X4 a4 hv4 f4 he=>⟨m - (j + 1),Nat.sub_lt_sub_left hlt (Nat.lt_succ_self j),j + 1,l2,H3,rfl,hlt,⟨h4,tk4,σ4,rfl,hp4,X4,a13.trans a4,hv4,f4⟩,stay hst3 X3 a13 a4,he⟩
   refine ihb (s1:=sU s h3 tk3) hp3 hb X3 hv3 f3 ?_
   cases rb with
   | next l2 H3=>exact fun h4 tk4 σ4 hp4 X4 a4 hv4 f4 _=>go hp4 X4 a4 hv4 f4 he1
   | cont l2 H3=>exact fun h4 tk4 σ4 hp4 X4 a4 hv4 f4 _=>go hp4 X4 a4 hv4 f4 he1
   | ret v' H3 =>
    obtain rfl:=Option.some.inj he1
    exact fun val h4 tk4 σ4 X4 a4 q4 _=>K' val h4 tk4 σ4 X4 a4 q4
   | exc H3 =>
    obtain rfl:=Option.some.inj he1
    exact fun e h4 tk4 σ4 X4 a4 x4 _=>exc_loop F au.frames K a13 X4 a4 x4
 ·obtain rfl:j=m:=Nat.le_antisymm hj (Nat.not_lt.mp hlt)
  rw [List.drop_of_length_le (Nat.le_of_eq hlen)] at he1
  obtain rfl:=Option.some.inj he1
  refine wpAny_with_toks (n:=1) hp (W.done _ _ _ hst1 fun h2 tk2 hk2 hp2=>wpAny_execs_nil ?_)
  obtain ⟨⟨X2,a2⟩,hv2,f2⟩:=turn_I (s:=s) F hI hX hIO X1 a1 (nsI hst1) (fun b hb o e=>hk2 b o (fun z=>hb (List.mem_singleton.mp z)) e) hv1 f1
  exact K h2 tk2 σ1 hp2 X2 a2 hv2 f2
end
end Mine
end
section
open PySem PySem.W PyProof.Rows PySem.Calls PySem.Builtin.Str
namespace Mine
section
variable {prog:Program} {w:World} {A:Around} {c:Cx} {call:Nat→List V→Hp→Option (Res V)} {n:Nat}
variable {s:Shared} {σ:List Addr} {H:Hp} {E:Value→Shared→Prop} {env:Env} {nm:List Txt} {loc:Loc}
theorem setItem_lst {l:Addr} {arr:Array Value} {m:Nat} {k:Int} {t:Tok} {v:Value} {Q:Unit→Shared→Prop} (hl:s.heap.get? l=some (LstO arr m)) (h0:0≤k) (hfit:k < 2 ^ 63) (hn:k < arr.size)
  (h:Q () { s with heap:=s.heap.update l (Obj.mapSeq (·.setIfInBounds k.toNat v)) }):wpAny (model prog w) A (setItem (.ref l) (.int k t) v) Q E s:=by
 have hL:s.heap.IsList l arr:=⟨_,hl,rfl,m,rfl⟩
 unfold setItem
 try with_reducible refine wpAny_holding ?_
 first | refine wpAny_bind (wpAny_pure ?_) | skip
 refine wpAny_bind (wpAny_sequenceKey hL.typeIs (by decide) ?_)
 refine wpAny_bind (wpAny_callSpecial?_slot (name:=Str.ofString "__setitem__") hL.typeIs slot_list_setitem
  (wpAny_call_entry slot_list_setitem hL.typeIs entry_list_setitem ?_ (args_list_setitem _ _ _)))
 show wpAny _ _ (Builtin.List.listSubscript? (.int k t) >>= _) _ _ s
 refine wpAny_bind (wpAny_listSubscript_int (fitsIndex_of h0 hfit) ?_)
 clear hfit
 obtain ⟨j,rfl⟩:=Int.eq_ofNat_of_zero_le h0
 have hj:j < arr.size:=by omega
 have hx':arr[j]?=some arr[j]:=Array.getElem?_eq_getElem hj
 show wpAny _ _ ((seqItemAt l j >>= fun r=>pure (r.map (j,·))) >>= _) _ _ s
 refine wpAny_bind (wpAny_bind (wpAny_seqItemAt hl rfl (wpAny_pure ?_)))
 rw [hx']
 show wpAny _ _ (setSeqItemAt l j v >>= _) _ _ s
 refine wpAny_bind (wpAny_setSeqItemAt hl rfl ?_)
 first
  | exact wpAny_bind (wpAny_pure (wpAny_pure ⟨.none,rfl,wpAny_pure h⟩))
  | exact wpAny_pure ⟨.none,rfl,wpAny_pure h⟩
theorem turn_stmt {i:Nat} {l l':List V} {a:Addr} {arr arr':Array Value} {m m':Nat} {f:Obj→Obj} (X:c.Ok s.heap σ H) (hg:hget H i=some l) (ha:σ[i]?=some a) (hL:s.heap.get? a=some (LstO arr m))
  (hf:f (LstO arr m)=LstO arr' m') (hz:arr'.size≤capL) (r:VRs s.heap (Live σ H) (takeO (c.lim i) σ) arr'.toList l') :
  c.Ok (s.heap.update a f) σ (H.set i (some l'))∧Adv No s.heap σ H (s.heap.update a f) σ (H.set i (some l')) :=
 turn_list X (hget_iff hg) ha (Heap.SameBut.update ..) (by rw [Heap.get?_update_self _ hL (by rw [hf]; rfl),hf]) hz r
theorem lim_vr {i:Nat} {v:V} {val:Value} {h:Heap} {F:Addr→Prop} (X:c.Ok s.heap σ H) (hm:mayMut c.b i v=true) (q:VR h F σ val v):VR h F (takeO (c.lim i) σ) val v:=by
 simp only [mayMut,Bool.or_eq_true,decide_eq_true_eq] at hm
 rcases hm with hm | hm
 ·rw [X.loc i hm]; exact q
 ·exact q.pure hm
set_option tactic.hygienic true in
theorem assignNames {M:Model} (F:FnE c env) (hnd:nm.Nodup):∀ {xs:List Nat} {ts:List Expr} {vs:List V} {vals:List Value} {s:Shared} {H:Hp} {loc l':Loc} {Q:Unit→Shared→Prop},
  chkNames nm env.kindOf xs ts=true→setAll xs vs loc=some l'→0 < s.toks→c.Ok s.heap σ H→Vars nm env s.heap σ H loc→Fm env s.heap→VRs s.heap (Live σ H) σ vals vs →
  (∀ h' tk,0 < tk→c.Ok h' σ H→Adv (Own env) s.heap σ H h' σ H→Vars nm env h' σ H l'→Fm env h'→Q () (sU s h' tk)) →
  wpAny M A (assignInOrder ((assignEach ts env).map (·.2)) vals) Q E s
 | [],ts,vs,vals,s,H,loc,l',Q,hc,hs,ht,X,hv,f,q,k=>by
  cases ts with
  | cons=>exact Bool.noConfusion hc
  | nil =>
   cases vs with
   | cons=>exact (noS hs).elim
   | nil =>
    cases q
    obtain rfl:=Option.some.inj hs
    exact wpAny_pure (k s.heap s.toks ht X (.refl ..) hv f)
 | x :: xs,ts,vs,vals,s,H,loc,l',Q,hc,hs,ht,X,hv,f,q,k=>by
  cases vs with
  | nil=>exact (noS hs).elim
  | cons v vs =>
   cases q with
   | cons q1 q2 =>
    rename_i val vals
    refine oCons_e hc fun _ ts hc=>oN_e hc fun id p hc=>?_
    simp only [Bool.and_eq_true,isStore,beq_iff_eq] at hc
    show wpAny M A (do holding vals (assign (.Name id p) env val); assignInOrder ((assignEach ts env).map (·.2)) vals) Q E s
    refine wpAny_bind (wpAny_holding (assign_Name (store F hnd hc.1.1 (.inl hc.1.2) X hv f q1 fun h' tk X' a' hv' f' ht'=>?_)))
    exact assignNames (s:=sU s h' tk) F hnd hc.2 hs (Nat.lt_of_lt_of_le ht ht') X' hv' f' (q2.adv a' f.noseq) fun h2 tk2 hp2 X2 a2 hv2 f2=>k h2 tk2 hp2 X2 (a'.trans a2) hv2 f2
theorem names_plain {M:Model}:∀ {xs:List Nat} {ts:List Expr} {kd:Str→Option NameKind},chkNames nm kd xs ts=true→(assignEach ts env).length=xs.length∧(assignEach ts env).findIdx? (·.1)=none
 | [],ts,kd,hc=>by
  cases ts with
  | cons=>exact Bool.noConfusion hc
  | nil=>exact ⟨rfl,rfl⟩
 | x :: xs,ts,kd,hc=>by
  refine oCons_e hc fun _ ts hc=>oN_e hc fun id p hc=>?_
  simp only [Bool.and_eq_true] at hc
  obtain ⟨e1,e2⟩:=names_plain (M:=M) hc.2
  refine ⟨congrArg Nat.succ e1,?_⟩
  show List.findIdx? _ ((false,assign (.Name id p) env) :: assignEach ts env)=none
  rw [List.findIdx?_cons,e2]; rfl
theorem setAll_len:∀ {xs:List Nat} {vs:List V} {l l':Loc},setAll xs vs l=some l'→vs.length=xs.length
 | [],[],_,_,_=>rfl
 | [],_ :: _,_,_,h=>(noS h).elim
 | _ :: _,[],_,_,h=>(noS h).elim
 | _ :: xs,_ :: vs,_,_,h=>congrArg Nat.succ (setAll_len (xs:=xs) (vs:=vs) h)
theorem assignTup {x1:Nat} {tpos:Pos} {xs:List Nat} {ts:List Expr} {vs:List V} {val:Value} {l':Loc} {Q:Unit→Shared→Prop} (hh:A.handled=none) (F:FnE c env) (hnd:nm.Nodup)
  (hc:chkNames nm env.kindOf xs ts=true) (hs:setAll xs vs loc=some l') (ht:0 < s.toks) (X:c.Ok s.heap σ H) (hv:Vars nm env s.heap σ H loc) (f:Fm env s.heap) (q:VR s.heap (Live σ H) σ val (.tup vs))
  (k:∀ h' tk,0 < tk→c.Ok h' σ H→Adv (Own env) s.heap σ H h' σ H→Vars nm env h' σ H l'→Fm env h'→Q () (sU s h' tk)) :
  wpAny (model prog w) A (assign (.Tuple ts x1 tpos) env val) Q E s:=by
 obtain ⟨a,arr,m,rfl,he,hF,hz,hr⟩:=q.tup_inv
 obtain ⟨n1,n2⟩:=names_plain (M:=model prog w) (env:=env) hc
 have hlen:=hr.length
 rw [Array.length_toList] at hlen
 refine assign_Tuple_tuple hh (items:=arr) ⟨_,he,rfl,m,rfl⟩ (by rw [n1,hlen]; exact (setAll_len hs).symm) n2 fun h1 he1=>?_
 have g:Grow c.base s.heap h1:=grow_keeps X.stays fun b o e=>he1 b o (Nat.ne_of_lt (Heap.lt_size e)) e
 have a1:=g.adv σ H
 exact assignNames (s:={ s with heap:=h1 }) F hnd hc hs ht (X.grow g) (hv.adv0 X a1) (f.adv0 X a1) (hr.adv0 a1) fun h' tk hp X' a' hv' f'=>k h' tk hp X' (a1.own.trans a') hv' f'
end
end Mine
end
section
open PySem PySem.W PyProof.Rows PySem.Calls PySem.Builtin.Str
namespace Mine
section
variable {prog:Program} {w:World} {A:Around} {E:Value→Shared→Prop} {s:Shared}
theorem nextOf_tup_item {it t:Addr} {i:Nat} {items:Array Value} {x:Value} {Q:Value→Shared→Prop} (hit:s.heap.IsTupleIter it t i) (ht:s.heap.IsTuple t items) (hx:items[i]?=some x)
  (hQ:∀ h',h'.IsTupleIter it t (i + 1)→Heap.SameBut it s.heap h'→Q x { s with heap:=h' }):wpAny (model prog w) A (Builtin.SmallTypes.nextOf (.ref it)) Q E s:=by
 obtain ⟨o,ho,hc,hd⟩:=id hit
 obtain ⟨ol,hol,_,nl,hdl⟩:=ht
 unfold Builtin.SmallTypes.nextOf
 refine wpAny_bind (wpAny_callSpecial?_slot (name:=Str.ofString "__next__") hit.typeIs PySem.F.slot_tuple_iterator_next
  (wpAny_call_entry PySem.F.slot_tuple_iterator_next hit.typeIs PySem.F.entry_tuple_iterator_next ?_ (PySem.F.args_tuple_iterator_next_1 _)))
 show wpAny _ _ (field (.ref it) 0 >>= _) _ _ s
 refine wpAny_bind (wpAny_field ho hd (x:=.ref t) rfl ?_)
 show wpAny _ _ (if (Value.ref t==Value.none)=true then _ else _) _ _ s
 rw [if_neg (show ¬ ((Value.ref t==Value.none)=true) from Bool.false_ne_true)]
 show wpAny _ _ (field (.ref it) 1 >>= _) _ _ s
 refine wpAny_bind (wpAny_field ho hd (x:=.int i 0) rfl ?_)
 show wpAny _ _ (seqItems? (.ref t) >>= _) _ _ s
 refine wpAny_bind (wpAny_seqItems hol hdl ?_)
 simp only [Int.toNat_natCast,hx]
 refine wpAny_bind (wpAny_setField ho hd (by simp) (wpAny_pure ⟨x,rfl,wpAny_pure (hQ _ ?_ (Heap.SameBut.update ..))⟩))
 exact ⟨_,Heap.get?_update_self _ ho (Obj.isFreed_of_fields (Obj.data_mapFields hd _)),(Obj.cls_mapFields ..).trans hc,by
  rw [Obj.data_mapFields hd]; simp [rawInt]⟩
theorem nextOf_tup_end {it t:Addr} {i:Nat} {items:Array Value} {Q:Value→Shared→Prop} (hh:A.handled=none) (hit:s.heap.IsTupleIter it t i) (ht:s.heap.IsTuple t items) (hx:items[i]?=none)
  (hE:∀ h' e,Heap.ExtBut it s.heap h'→(∃ o,h'.get? e=some o∧o.cls=.type "StopIteration")→E (.ref e) { s with heap:=h' }):wpAny (model prog w) A (Builtin.SmallTypes.nextOf (.ref it)) Q E s:=by
 obtain ⟨o,ho,hc,hd⟩:=id hit
 obtain ⟨ol,hol,_,nl,hdl⟩:=ht
 unfold Builtin.SmallTypes.nextOf
 refine wpAny_bind (wpAny_callSpecial?_slot (name:=Str.ofString "__next__") hit.typeIs PySem.F.slot_tuple_iterator_next
  (wpAny_call_entry PySem.F.slot_tuple_iterator_next hit.typeIs PySem.F.entry_tuple_iterator_next ?_ (PySem.F.args_tuple_iterator_next_1 _)))
 show wpAny _ _ (field (.ref it) 0 >>= _) _ _ s
 refine wpAny_bind (wpAny_field ho hd (x:=.ref t) rfl ?_)
 show wpAny _ _ (if (Value.ref t==Value.none)=true then _ else _) _ _ s
 rw [if_neg (show ¬ ((Value.ref t==Value.none)=true) from Bool.false_ne_true)]
 show wpAny _ _ (field (.ref it) 1 >>= _) _ _ s
 refine wpAny_bind (wpAny_field ho hd (x:=.int i 0) rfl ?_)
 show wpAny _ _ (seqItems? (.ref t) >>= _) _ _ s
 refine wpAny_bind (wpAny_seqItems hol hdl ?_)
 simp only [Int.toNat_natCast,hx]
 refine wpAny_bind (wpAny_rule (wpAny_bind (wpAny_setField ho hd (by simp) ?_)))
 show wpAny _ _ (newExc (.type "StopIteration") [] >>= _) _ _ _
 refine wpAny_bind ?_
 simp only [newExc,newTuple]
 refine wpAny_bind (wpAny_newObj_type ?_ (Nat.zero_le _))
 refine wpAny_bind (m:=firstArgMember _ _) (wpAny_of_eq (a:=Value.none) (by first | rfl | (simp only [firstArgMember]; rfl)) ?_)
 refine wpAny_newObj_type ?_ (by size_fits)
 simp only [raiseNew]
 refine wpAny_bind (wpAny_handled ?_)
 first | rw [show A.in1.handled=none from hh] | rw [hh]
 refine wpAny_bind (wpAny_pure (wpAny_throw ?_))
 exact hE _ _ (((Heap.SameBut.update ..).extBut.push _).push _) ⟨_,Heap.get?_push_size _ rfl,rfl⟩
theorem drawsTup (hh:A.handled=none) (it l:Addr) (hne:l≠it) (items:Array Value) :
  Draws prog w A it [it,l] items.size (fun i v=>items[i]?=some v) (fun i h=>h.IsTupleIter it l i∧h.IsTuple l items) where
 live:=fun _ _ st=>let ⟨o,ho,_⟩:=st.1; ⟨o,ho⟩
 frame:=fun _ _ _ st hk=>⟨st.1.at fun o e=>hk it (by simp) o e,let ⟨o,ho,r⟩:=st.2; ⟨o,hk l (by simp) o ho,r⟩⟩
 item:=fun i s Q E hi st hQ=>by
  refine nextOf_tup_item st.1 st.2 (x:=items[i]) (by simp [hi]) fun h' hit' hs'=>?_
  exact hQ _ h' s.toks (by simp [hi]) ⟨hit',st.2.extBut hs'.extBut hne⟩ hs'
 done:=fun s Q E st hE=>nextOf_tup_end hh st.1 st.2 (by simp) hE
structure Zap (z TI TO i1 i2:Addr) (f1 f2:List Addr):Prop where
 TIz:TI≠z
 TOz:TO≠z
 i1z:i1≠z
 i2z:i2≠z
 TITO:TI≠TO
 TIi1:TI≠i1
 TIi2:TI≠i2
 TOi1:TO≠i1
 TOi2:TO≠i2
 i12:i1≠i2
 a1:∀ b∈f1,b≠z∧b≠TO∧b≠i2
 a2:∀ b∈f2,b≠z∧b≠TO∧b≠i1
section
variable {z TI TO i1 i2:Addr} {f1 f2:List Addr} {n1 n2:Nat} {P1 P2:Nat→Value→Prop} {S1 S2:Nat→Heap→Prop}
structure ZSt (z TI TO i1 i2:Addr) (S1 S2:Nat→Heap→Prop) (f0:Value) (i:Nat) (h:Heap):Prop where
 zz:IsZip h z TI TO f0
 ti:IsPair h TI (.ref i1) (.ref i2)
 to:∃ a b,IsPair h TO a b
 s1:S1 i h
 s2:S2 i h
theorem zst_keep (D:Zap z TI TO i1 i2 f1 f2) (W1:Draws prog w A.in1 i1 f1 n1 P1 S1) (W2:Draws prog w A.in1 i2 f2 n2 P2 S2) {f0:Value} {i:Nat} {h h':Heap} (x:ZSt z TI TO i1 i2 S1 S2 f0 i h)
  (hk:∀ b∈[z,TI,TO]++f1++f2,∀ o,h.get? b=some o→h'.get? b=some o):ZSt z TI TO i1 i2 S1 S2 f0 i h' :=
 ⟨hk z (by simp) _ x.zz,hk TI (by simp) _ x.ti,let ⟨a,b,e⟩:=x.to; ⟨a,b,hk TO (by simp) _ e⟩,W1.frame _ _ _ x.s1 fun b hb=>hk b (by simp [hb]),W2.frame _ _ _ x.s2 fun b hb=>hk b (by simp [hb])⟩
noncomputable def ItemK (P1 P2:Nat→Value→Prop) (S1 S2:Nat→Heap→Prop) (z TI TO i1 i2:Addr) (s:Shared) (i:Nat) (Q:Option Value→Shared→Prop):Prop :=
 ∀ x y h' tk T,T=s.heap.objs.size→P1 i x→P2 i y→ZSt z TI TO i1 i2 S1 S2 (rawInt T) (i + 1) h'→IsPair h' T x y →
  (∀ c o,c≠z→c≠TO→c≠i1→c≠i2→s.heap.get? c=some o→h'.get? c=some o)→Q (some (.ref T)) (sU s h' tk)
noncomputable def EndK (z TO i1 i2:Addr) (s:Shared) (Q:Option Value→Shared→Prop):Prop :=
 ∀ h' tk,(∀ c o,c≠z→c≠TO→c≠i1→c≠i2→s.heap.get? c=some o→h'.get? c=some o)→Q none (sU s h' tk)
theorem zip_next (D:Zap z TI TO i1 i2 f1 f2) (W1:Draws prog w A.in1 i1 f1 n1 P1 S1) (W2:Draws prog w A.in1 i2 f2 n2 P2 S2) {i:Nat} {Q:Option Value→Shared→Prop} (St:ZSt z TI TO i1 i2 S1 S2 .none i s.heap)
  (hc:(i=n1∧EndK z TO i1 i2 s Q)∨(i < n1∧((i < n2∧ItemK P1 P2 S1 S2 z TI TO i1 i2 s i Q)∨(i=n2∧EndK z TO i1 i2 s Q)))) :
  wpAny (model prog w) A (pyNext (.ref z)) Q E s:=by
 obtain ⟨hz,hTI,⟨a,b,hTO⟩,h1,h2⟩:=St
 have hT:s.TypeIs (.ref z) "zip" := ⟨_,hz,rfl⟩
 unfold pyNext
 refine wpAny_bind (wpAny_attempt (wpAny_callSpecial?_slot (name:=Str.ofString "__next__") hT PySem.F.slot_zip_next
  (wpAny_call_entry PySem.F.slot_zip_next hT PySem.F.entry_zip_next ?_ (PySem.F.args_zip_next_1 _))))
 have fin:EndK z TO i1 i2 s Q→∀ {h':Heap} {tk:Nat} {e:Addr},(∀ c o,c≠z→c≠TO→c≠i1→c≠i2→s.heap.get? c=some o→h'.get? c=some o)→(∃ o,h'.get? e=some o∧o.cls=.type "StopIteration") →
   wpAny (model prog w) A (do
    let b ← isInstance (.ref e) (.type "StopIteration")
    if b=true then pure none else throw (.ref e)) Q E (sU s h' tk):=by
  rintro hE h' tk e hk ⟨o,ho,hc⟩
  refine wpAny_bind (wpAny_isInstance (T:="StopIteration") (b:=true) ⟨o,ho,hc⟩ isSubtype_stop ?_)
  exact wpAny_pure (hE _ _ hk)
 show wpAny _ _ (field (.ref z) 2 >>= _) _ _ _
 refine wpAny_bind (wpAny_field hz rfl (x:=.bool false) rfl ?_)
 show wpAny _ _ (field (.ref z) 3 >>= _) _ _ _
 refine wpAny_bind (wpAny_field hz rfl (x:=.ref TI) rfl ?_)
 refine wpAny_bind (wpAny_seqItems hTI rfl ?_)
 show wpAny _ _ (Builtin.SmallTypes.ownedTupleIsFree (.ref z) >>= _) _ _ _
 refine wpAny_bind ?_
 unfold Builtin.SmallTypes.ownedTupleIsFree
 refine wpAny_bind (wpAny_field hz rfl (x:=.none) rfl (wpAny_pure ?_))
 simp only [if_true]
 refine wpAny_bind (wpAny_rule ?_)
 refine wpAny_bind (wpAny_field hz rfl (x:=.ref TO) rfl ?_)
 refine wpAny_bind (wpAny_setField_rec hz (by simp) fun g1 hz1 k1=>?_)
 replace hz1:IsZip g1 z TI TO .ellipsis:=hz1
 refine wpAny_bind ?_
 simp only [List.zipIdx_cons,List.zipIdx_nil,List.forIn_cons,List.forIn_nil]
 refine wpAny_bind (wpAny_bind (wpAny_onRaise ?_))
 show wpAny _ _ (Builtin.SmallTypes.nextOf (.ref i1) >>= _) _ _ _
 have h1a:S1 i g1:=W1.frame _ _ _ h1 fun b hb o e=>k1.extBut b o (D.a1 b hb).1 e
 rcases hc with ⟨rfl,hQ⟩ | ⟨hi1,hc⟩
 ·refine wpAny_bind (W1.done _ _ _ h1a fun g2 e k2 he=>?_)
  obtain ⟨oe,hoe,hce⟩:=he
  have hz2:IsZip g2 z TI TO .ellipsis:=k2 _ _ D.i1z.symm hz1
  have hez:e≠z:=fun x=>by subst x; rw [hz2] at hoe; cases hoe; simp at hce
  refine wpAny_setField_rec hz2 (by simp) fun g3 _ k3=>?_
  exact fin hQ (fun c o c1 _ c3 _ x=>k3.extBut _ _ c1 (k2 _ _ c3 (k1.extBut _ _ c1 x))) ⟨oe,k3.extBut _ _ hez hoe,hce⟩
 refine wpAny_bind (W1.item i _ _ _ hi1 h1a fun x g2 tk2 hx h1b k2=>wpAny_pure ?_)
 have hTO2:IsPair g2 TO a b:=k2.extBut _ _ D.TOi1 (k1.extBut _ _ D.TOz hTO)
 refine wpAny_bind (wpAny_seqItems hTO2 rfl ?_)
 refine wpAny_bind (wpAny_updateSeq_pair hTO2 fun g3 hTO3 k3=>?_)
 replace hTO3:IsPair g3 TO x b:=hTO3
 refine wpAny_bind (wpAny_letGo (wpAny_pure ?_))
 refine wpAny_bind (wpAny_bind (wpAny_onRaise ?_))
 show wpAny _ _ (Builtin.SmallTypes.nextOf (.ref i2) >>= _) _ _ _
 have h2a:S2 i g3:=W2.frame _ _ _ h2 fun b hb o e=>k3.extBut b o (D.a2 b hb).2.1 (k2.extBut b o (D.a2 b hb).2.2 (k1.extBut b o (D.a2 b hb).1 e))
 rcases hc with ⟨hi2,hQ⟩ | ⟨rfl,hQ⟩
 ·refine wpAny_bind (W2.item i _ _ _ hi2 h2a fun y g4 tk4 hy h2b k4=>wpAny_pure ?_)
  have hTO4:IsPair g4 TO x b:=k4.extBut _ _ D.TOi2 hTO3
  refine wpAny_bind (wpAny_seqItems hTO4 rfl ?_)
  refine wpAny_bind (wpAny_updateSeq_pair hTO4 fun g5 hTO5 k5=>?_)
  replace hTO5:IsPair g5 TO x y:=hTO5
  refine wpAny_bind (wpAny_letGo (wpAny_pure (wpAny_pure ?_)))
  refine wpAny_bind (wpAny_seqItems hTO5 rfl ?_)
  refine wpAny_bind (wpAny_newTuple ?_)
  have hsz:g5.objs.size=s.heap.objs.size:=by rw [k5.1,k4.1,k3.1,k2.1,k1.1]
  have hz5:IsZip g5 z TI TO .ellipsis:=k5.extBut _ _ D.TOz.symm (k4.extBut _ _ D.i2z.symm (k3.extBut _ _ D.TOz.symm (k2.extBut _ _ D.i1z.symm hz1)))
  have k:∀ c o,c≠z→c≠TO→c≠i1→c≠i2→s.heap.get? c=some o→g5.get? c=some o:=fun c o c1 c2 c3 c4 e =>
   k5.extBut _ _ c2 (k4.extBut _ _ c4 (k3.extBut _ _ c2 (k2.extBut _ _ c3 (k1.extBut _ _ c1 e))))
  have h1c:S1 (i + 1) g5:=W1.frame _ _ _ h1b fun b hb o e=>k5.extBut b o (D.a1 b hb).2.1 (k4.extBut b o (D.a1 b hb).2.2 (k3.extBut b o (D.a1 b hb).2.1 e))
  have h2c:S2 (i + 1) g5:=W2.frame _ _ _ h2b fun b hb o e=>k5.extBut b o (D.a2 b hb).2.1 e
  have hzlt:z < g5.objs.size:=Heap.lt_size hz5
  show wpAny _ _ (Builtin.SmallTypes.ownedTupleHandOut (.ref z) (.ref g5.objs.size) >>= _) _ _ _
  refine wpAny_bind ?_
  unfold Builtin.SmallTypes.ownedTupleHandOut
  have hz6:IsZip (g5.push { cls:=.type "tuple",data:=.seq #[x,y] }) z TI TO .ellipsis:=Heap.get?_push_of_some _ hz5
  refine wpAny_bind (wpAny_setField_rec hz6 (by simp) fun g7 hz7 k7=>?_)
  replace hz7:IsZip g7 z TI TO (rawInt g5.objs.size):=hz7
  refine wpAny_setField_rec hz7 (by simp) fun g8 hz8 k8=>?_
  replace hz8:IsZip g8 z TI TO (rawInt g5.objs.size):=hz8
  have up:∀ c o,c≠z→g5.get? c=some o→g8.get? c=some o:=fun c o c1 e=>k8.extBut _ _ c1 (k7.extBut _ _ c1 (Heap.get?_push_of_some _ e))
  have hT8:IsPair g8 g5.objs.size x y:=k8.extBut _ _ (Nat.ne_of_gt hzlt) (k7.extBut _ _ (Nat.ne_of_gt hzlt) (Heap.get?_push_size _ rfl))
  refine wpAny_pure ⟨_,rfl,wpAny_pure ?_⟩
  exact hQ x y g8 tk4 g5.objs.size hsz hx hy ⟨hz8,up _ _ D.TIz (k _ _ D.TIz D.TITO D.TIi1 D.TIi2 hTI),⟨_,_,up _ _ D.TOz hTO5⟩,
   W1.frame _ _ _ h1c fun b hb o e=>up b o (D.a1 b hb).1 e,W2.frame _ _ _ h2c fun b hb o e=>up b o (D.a2 b hb).1 e⟩ hT8 fun c o c1 c2 c3 c4 e=>up c o c1 (k c o c1 c2 c3 c4 e)
 ·refine wpAny_bind (W2.done _ _ _ h2a fun g4 e k4 he=>?_)
  obtain ⟨oe,hoe,hce⟩:=he
  have hz4:IsZip g4 z TI TO .ellipsis:=k4 _ _ D.i2z.symm (k3.extBut _ _ D.TOz.symm (k2.extBut _ _ D.i1z.symm hz1))
  have hez:e≠z:=fun x=>by subst x; rw [hz4] at hoe; cases hoe; simp at hce
  refine wpAny_setField_rec hz4 (by simp) fun g5 _ k5=>?_
  exact fin hQ (fun c o c1 c2 c3 c4 x=>k5.extBut _ _ c1 (k4 _ _ c4 (k3.extBut _ _ c2 (k2.extBut _ _ c3 (k1.extBut _ _ c1 x))))) ⟨oe,k5.extBut _ _ hez hoe,hce⟩
end
noncomputable def zh1 (h:Heap) (l1:Addr):Heap:=h.push { cls:=.type "list_iterator",data:=.fields #[.ref l1,.int 0 0] }
noncomputable def zh2 (h:Heap) (l1 l2:Addr):Heap:=(zh1 h l1).push { cls:=.type "tuple_iterator",data:=.fields #[.ref l2,.int 0 0] }
noncomputable def zh3 (h:Heap) (l1 l2:Addr):Heap:=(zh2 h l1 l2).push { cls:=.type "tuple",data:=.seq #[.ref h.objs.size,.ref (zh1 h l1).objs.size] }
noncomputable def zh4 (h:Heap) (l1 l2:Addr):Heap:=(zh3 h l1 l2).push { cls:=.type "tuple",data:=.seq #[.none,.none] }
noncomputable def zh5 (h:Heap) (l1 l2:Addr):Heap:=(zh4 h l1 l2).push { cls:=.type "zip",data:=.fields #[.none,.bool false,.bool false,.ref (zh2 h l1 l2).objs.size,.ref (zh3 h l1 l2).objs.size] }
theorem meets_zip (l1 l2:Addr) (xs ys:Array Value) :
  Meets (Builtin.«zip.__new__» ⟨[.type "zip",.ref l1,.ref l2],[]⟩) (fun _ R s=>s.heap.IsList l1 xs∧s.heap.IsTuple l2 ys ∧
   R (.ok (.ret (.ref (zh4 s.heap l1 l2).objs.size))) { s with heap:=zh5 s.heap l1 l2 }) :=
 .of_wp fun prog w A R s h=>by
  obtain ⟨hp,g,d,tk,os⟩:=s; obtain ⟨hl1,hl2,h⟩:=h
  have hsub:=sub_zip
  have hL1:Heap.IsList (Shared.heap ⟨hp,g,d,tk,os⟩) l1 xs:=hl1
  have hL2:Heap.IsTuple (Shared.heap ⟨hp.push { cls:=.type "list_iterator",data:=.fields #[.ref l1,.int 0 0] },g,d,tk,os⟩) l2 ys:=Heap.IsTuple.push hl2 _
  wp_walk using wpAny_pyIter_list hL1,wpAny_pyIter_tuple hL2
  exact ⟨_,rfl,h⟩
section
variable {prog:Program} {w:World} {A:Around} {E:Value→Shared→Prop} {s:Shared}
theorem call_zip_lt {l1 l2:Addr} {xs ys:Array Value} {Q:Value→Shared→Prop} (hl1:s.heap.IsList l1 xs) (hl2:s.heap.IsTuple l2 ys)
  (h:∀ h',IsZip h' (s.heap.objs.size + 4) (s.heap.objs.size + 2) (s.heap.objs.size + 3) .none→IsPair h' (s.heap.objs.size + 2) (.ref s.heap.objs.size) (.ref (s.heap.objs.size + 1)) →
   IsPair h' (s.heap.objs.size + 3) .none .none→h'.IsListIter s.heap.objs.size l1 0→h'.IsTupleIter (s.heap.objs.size + 1) l2 0→h'.objs.size=s.heap.objs.size + 5 →
   (∀ c o,s.heap.get? c=some o→h'.get? c=some o)→Q (.ref (s.heap.objs.size + 4)) { s with heap:=h' }) :
  wpAny (model prog w) A (call (.type "zip") [.ref l1,.ref l2]) Q E s:=by
 refine callType_new PySem.F.called_zip (by decide) (PySem.F.typeCall_zip_2 _ _) (PySem.F.newCall_zip_2 _ _) (fun obj=>PySem.F.args_object_init_3 obj _ _) PySem.F.entry_zip_new
  (meets_zip l1 l2 xs ys) ⟨hl1,hl2,?_⟩
 have z1:(zh1 s.heap l1).objs.size=s.heap.objs.size + 1:=Heap.size_push ..
 have z2:(zh2 s.heap l1 l2).objs.size=s.heap.objs.size + 2:=by unfold zh2; rw [Heap.size_push,z1]
 have z3:(zh3 s.heap l1 l2).objs.size=s.heap.objs.size + 3:=by unfold zh3; rw [Heap.size_push,z2]
 have z4:(zh4 s.heap l1 l2).objs.size=s.heap.objs.size + 4:=by unfold zh4; rw [Heap.size_push,z3]
 have z5:(zh5 s.heap l1 l2).objs.size=s.heap.objs.size + 5:=by unfold zh5; rw [Heap.size_push,z4]
 have e5:(zh5 s.heap l1 l2).get? (zh4 s.heap l1 l2).objs.size=some _:=Heap.get?_push_size _ rfl
 have e4:(zh5 s.heap l1 l2).get? (zh3 s.heap l1 l2).objs.size=some _:=Heap.get?_push_of_some _ (Heap.get?_push_size _ rfl)
 have e3:(zh5 s.heap l1 l2).get? (zh2 s.heap l1 l2).objs.size=some _:=Heap.get?_push_of_some _ (Heap.get?_push_of_some _ (Heap.get?_push_size _ rfl))
 have e2:(zh5 s.heap l1 l2).get? (zh1 s.heap l1).objs.size=some _:=Heap.get?_push_of_some _ (Heap.get?_push_of_some _ (Heap.get?_push_of_some _ (Heap.get?_push_size _ rfl)))
 have e1:(zh5 s.heap l1 l2).get? s.heap.objs.size=some _:=Heap.get?_push_of_some _ (Heap.get?_push_of_some _ (Heap.get?_push_of_some _ (Heap.get?_push_of_some _ (Heap.get?_push_size _ rfl))))
 show _∧_
 rw [z2,z3,z4] at e5
 rw [z1,z2] at e3
 rw [z3] at e4
 rw [z1] at e2
 rw [z4]
 exact ⟨⟨_,e5,rfl⟩,h _ e5 e3 e4 ⟨_,e1,rfl,rfl⟩ ⟨_,e2,rfl,rfl⟩ z5 fun c o x =>
  Heap.get?_push_of_some _ (Heap.get?_push_of_some _ (Heap.get?_push_of_some _ (Heap.get?_push_of_some _ (Heap.get?_push_of_some _ x))))⟩
end
end
section
variable {prog:Program} {w:World} {A:Around} {z TI TO i1 i2:Addr} {f1 f2:List Addr} {n1 n2:Nat} {P1 P2:Nat→Value→Prop} {S1 S2:Nat→Heap→Prop}
theorem walksZip (D:Zap z TI TO i1 i2 f1 f2) (W1:Draws prog w A.in1 i1 f1 n1 P1 S1) (W2:Draws prog w A.in1 i2 f2 n2 P2 S2) (h1:i1∈f1) (h2:i2∈f2) :
  WalksT prog w A z ([z,TI,TO]++f1++f2) [z,TO,i1,i2] (min n1 n2) (fun i vals=>∃ x y,P1 i x∧P2 i y∧vals=#[x,y])
   (fun i h=>ZSt z TI TO i1 i2 S1 S2 .none i h) (fun i T h=>ZSt z TI TO i1 i2 S1 S2 (rawInt T) (i + 1) h∧T∉[z,TO,i1,i2]) where
 sub:=fun c hc=>by
  simp only [List.mem_cons,List.not_mem_nil,or_false] at hc
  rcases hc with rfl | rfl | rfl | rfl <;> simp [h1,h2]
 frame:=fun i h h' st hk=>zst_keep D W1 W2 st hk
 item:=fun i s Q E hi st hQ=>by
  have st':=st
  refine zip_next D W1 W2 st (.inr ⟨Nat.lt_of_lt_of_le hi (Nat.min_le_left ..),.inl ⟨Nat.lt_of_lt_of_le hi (Nat.min_le_right ..),fun x y h' tk T hT hx hy st2 hp hk=>?_⟩⟩)
  have lt:∀ {c o},s.heap.get? c=some o→T≠c:=fun e=>by rw [hT]; exact Nat.ne_of_gt (Heap.lt_size e)
  obtain ⟨hz,hTI,⟨a,b,hTO⟩,q1,q2⟩:=st'
  obtain ⟨o1,e1⟩:=W1.live _ _ q1
  obtain ⟨o2,e2⟩:=W2.live _ _ q2
  refine hQ T #[x,y] h' tk ⟨x,y,hx,hy,rfl⟩ (by rw [hT]; exact Nat.le_refl _) ⟨_,hp,rfl,_,rfl⟩ ⟨st2,?_⟩ fun c o hc e =>
   hk c o (fun q=>hc (by simp [q])) (fun q=>hc (by simp [q])) (fun q=>hc (by simp [q])) (fun q=>hc (by simp [q])) e
  simp only [List.mem_cons,List.not_mem_nil,or_false,not_or]
  exact ⟨lt hz,lt hTO,lt e1,lt e2⟩
 go:=fun elts k pos i T s Q E hm hQ=>by
  obtain ⟨⟨hz,hTI,⟨a,b,hTO⟩,q1,q2⟩,_⟩:=hm
  refine wpAny_letOwnedTupleGo_zip hz fun h' hz' hs'=>hQ h' ⟨hz',hs'.extBut _ _ D.TIz hTI,⟨a,b,hs'.extBut _ _ D.TOz hTO⟩,W1.frame _ _ _ q1 fun b hb o e=>hs'.extBut b o (D.a1 b hb).1 e,W2.frame _ _ _ q2 fun b hb o e=>hs'.extBut b o (D.a2 b hb).1 e⟩ fun c o hc e=>hs'.extBut _ _ (fun x=>hc (by simp [x])) e
 apart:=fun i T h hm=>hm.2
 done:=fun s Q E st hQ=>by
  have hE:EndK z TO i1 i2 s Q:=fun h' tk hk=>hQ h' tk fun c o hc e=>hk c o (fun x=>hc (by simp [x])) (fun x=>hc (by simp [x])) (fun x=>hc (by simp [x])) (fun x=>hc (by simp [x])) e
  refine zip_next D W1 W2 st ?_
  rcases Nat.lt_or_ge n2 n1 with h | h
  ·exact .inr ⟨Nat.lt_of_le_of_lt (Nat.min_le_right ..) h,.inr ⟨Nat.min_eq_right (Nat.le_of_lt h),hE⟩⟩
  ·exact .inl ⟨Nat.min_eq_left h,hE⟩
 self:=fun i s Q E st hQ=>wpAny_pyIter_zip st.zz hQ
end
end Mine
end
section
open PySem PySem.W PyProof.Rows PySem.Calls PySem.Builtin.Str
namespace Mine
noncomputable def LocM (env:Env) (h:Heap) (m:Str→Option Value) (y:Str) (v:Value):Prop :=
 (env.kindOf y=some .local∧m y=some v)∨((env.kindOf y=some .cell∨env.kindOf y=some .free)∧∃ c,env.cells.lookup y=some c∧h.IsCell c (some v))
noncomputable def VZ (nm:List Txt) (env:Env) (h:Heap) (σ:List Addr) (H:Hp) (m:Str→Option Value) (l:Loc):Prop :=
 ∀ (i:Nat) (v:V),l[i]?=some (some v)→∀ y,nm[i]?=some (tx y)→isVarK (env.kindOf y)=true→∃ val,LocM env h m y val∧VR h (Live σ H) σ val v
theorem VZ.set {nm:List Txt} {env:Env} {h:Heap} {σ:List Addr} {H:Hp} {m:Str→Option Value} {l:Loc} (q:VZ nm env h σ H m l) (hnd:nm.Nodup) {x:Nat} {id:Str} {val:Value} {v:V}
  (hl:isLoc nm x id=true) (hk:env.kindOf id=some .local) (r:VR h (Live σ H) σ val v):VZ nm env h σ H (fun y=>if y=id then some val else m y) (l.set x (some v)):=by
 obtain ⟨hl1,_,_⟩:=isLoc_iff hl
 intro j v' e y hy hky
 by_cases hji:j=x
 ·subst hji
  have hlt:j < l.length:=by
   have:=(List.getElem?_eq_some_iff.mp e).1
   simpa using this
  rw [List.getElem?_set_self hlt] at e
  simp only [Option.some.injEq] at e
  subst e
  rw [hl1] at hy
  have:id=y:=tx_inj (Option.some.inj hy)
  subst this
  exact ⟨val,.inl ⟨hk,if_pos rfl⟩,r⟩
 ·rw [List.getElem?_set_ne (fun z=>hji z.symm)] at e
  obtain ⟨u,hu,hr⟩:=q j v' e y hy hky
  have hne:y≠id:=fun z=>hji (by
   subst z
   obtain ⟨h2,e2⟩:=List.getElem?_eq_some_iff.mp hy
   obtain ⟨h3,e3⟩:=List.getElem?_eq_some_iff.mp hl1
   exact (List.getElem_inj hnd).mp (e2.trans e3.symm))
  refine ⟨u,hu.imp (fun ⟨a,b⟩=>⟨a,?_⟩) (fun z=>z),hr⟩
  show (if y=id then some val else m y)=some u
  rw [if_neg hne]; exact b
theorem VZ.load {nm:List Txt} {env:Env} {h:Heap} {σ:List Addr} {H:Hp} {m:Str→Option Value} {l:Loc} (q:VZ nm env h σ H m l) {x:Nat} {id:Str} {v:V}
  (hl:isLoc nm x id=true) (hk:env.kindOf id=some .local) (e:l[x]?=some (some v)):∃ val,m id=some val∧VR h (Live σ H) σ val v:=by
 obtain ⟨hl1,_,_⟩:=isLoc_iff hl
 obtain ⟨val,hu,hr⟩:=q x v e id hl1 (by rw [hk]; rfl)
 rcases hu with ⟨_,hm⟩ | ⟨h' | h',_⟩
 ·exact ⟨val,hm,hr⟩
 ·rw [hk] at h'; cases h'
 ·rw [hk] at h'; cases h'
theorem pairs_get:∀ {vs ws:List V} {i:Nat} {a c:V},vs[i]?=some a→ws[i]?=some c→(pairs vs ws)[i]?=some (a,c)
 | [],_,i,a,c,h,_=>by simp at h
 | _ :: _,[],i,a,c,_,h=>by simp at h
 | v :: vs,w :: ws,0,a,c,h1,h2=>by simp at h1 h2; subst h1; subst h2; rfl
 | v :: vs,w :: ws,i + 1,a,c,h1,h2=>by
  simp only [List.getElem?_cons_succ] at h1 h2
  exact pairs_get (vs:=vs) (ws:=ws) (i:=i) h1 h2
theorem pairs_len:∀ (vs ws:List V),(pairs vs ws).length=min vs.length ws.length
 | [],ws=>(Nat.zero_min _).symm
 | _ :: _,[]=>rfl
 | v :: vs,w :: ws=>(congrArg Nat.succ (pairs_len vs ws)).trans (Nat.succ_min_succ _ _).symm
theorem nne {a b:Nat} (h:a < b∨b < a):@Ne Addr a b:=fun (e:a=b)=>by omega
theorem nlt {a n:Nat} (k:Nat) (h:a < n):@Ne Addr a (n + k):=fun (e:a=n + k)=>by omega
theorem np (n a b:Nat) (h:a≠b):@Ne Addr (n + a) (n + b):=fun e=>h (Nat.add_left_cancel e)
theorem zap_new (n aL aT:Nat) (hL:aL < n) (hT:aT < n):Zap (n + 4) (n + 2) (n + 3) n (n + 1) [n,aL] [n + 1,aT] :=
 ⟨np n 2 4 nofun,np n 3 4 nofun,np n 0 4 nofun,np n 1 4 nofun,np n 2 3 nofun,np n 2 0 nofun,np n 2 1 nofun,np n 3 0 nofun,np n 3 1 nofun,np n 0 1 nofun,fun b hb=>by
  rcases List.mem_cons.mp hb with e | hb
  ·rw [e]; exact ⟨np n 0 4 nofun,np n 0 3 nofun,np n 0 1 nofun⟩
  ·rw [List.mem_singleton.mp hb]; exact ⟨nlt 4 hL,nlt 3 hL,nlt 1 hL⟩,fun b hb=>by
  rcases List.mem_cons.mp hb with e | hb
  ·rw [e]; exact ⟨np n 1 4 nofun,np n 1 3 nofun,np n 1 0 nofun⟩
  ·rw [List.mem_singleton.mp hb]; exact ⟨nlt 4 hT,nlt 3 hT,nlt 0 hT⟩⟩
section
variable {prog:Program} {w:World} {A:Around} {c:Cx} {n:Nat}
variable {s:Shared} {σ:List Addr} {H:Hp} {E:Value→Shared→Prop} {env:Env} {nm:List Txt}
theorem isStore_iff {x:Nat} {id:Str} (h:isStore nm env.kindOf x id=true):isLoc nm x id=true∧env.kindOf id=some .local:=by
 simpa [isStore] using h
theorem zip1_int {x z t:Nat} {a:V} {i:Int} {l l2:Loc} (he:zip1 x z t a (.int i) l=some l2):∃ sv j,((l.set x (some a)).set z (some (.int i)))[t]?=some (some (.str sv))∧a=.str j∧(i.natAbs < 10000000000∧sv.length + j.length + (textOf i).length≤capL) ∧
  l2=((l.set x (some a)).set z (some (.int i))).set t (some (.str (sv++j++textOf i))):=by
 (conv at he=>lhs; whnf)
 generalize hq:((l.set x (some a)).set z (some (.int i)))[t]?=o at he
 rcases o with _ | _ | v
 ·exact (noS he).elim
 ·exact (noS he).elim
 ·cases v with
  | str sv=>cases a with
   | str j =>
    obtain ⟨hc,he⟩:=mi_p he
    exact ⟨sv,j,rfl,rfl,hc,(Option.some.inj he).symm⟩
   | _=>exact (noS he).elim
  | _=>exact (noS he).elim
theorem zipL_at {x z t i:Nat} {L:List (V × V)} {a c:V} {l l':Loc} (hp:L[i]?=some (a,c)) (h:zipL x z t (L.drop i) l=some l'):∃ l2,zip1 x z t a c l=some l2∧zipL x z t (L.drop (i + 1)) l2=some l':=by
 obtain ⟨hl,e⟩:=List.getElem?_eq_some_iff.mp hp
 rw [List.drop_eq_getElem_cons hl,e] at h
 have h:(match zip1 x z t a c l with | some l2=>zipL x z t (L.drop (i + 1)) l2 | .none=>.none)=some l':=h
 generalize zip1 x z t a c l=o at h ⊢
 cases o with
 | none=>exact (noS h).elim
 | some l2=>exact ⟨l2,rfl,h⟩
theorem VRs.got {h:Heap} {F:Addr→Prop} {σ:List Addr} {v:List Value} {x:List V} (q:VRs h F σ v x):∀ (i:Nat) (w:Value),v[i]?=some w→∃ y,x[i]?=some y∧VR h F σ w y :=
 VRs.ind (Ms:=fun v x=>∀ (i:Nat) (w:Value),v[i]?=some w→∃ y,x[i]?=some y∧VR h F σ w y) (fun _ _ e=>nomatch e) (fun a _ r i w e=>by cases i with
  | zero=>exact ⟨_,rfl,Option.some.inj e ▸ a⟩
  | succ i=>exact r i w e) q
set_option maxHeartbeats 1000000 in
theorem zipTurn {x z t:Nat} {id id' t1 g:Str} {a v0 v1:_} {cc:V} {h:Heap} {m:Str→Option Value} {l l2:Loc} {Q:Flow→Shared→Prop} {q1 q2 q3 q4 q5 q6 q7 q8 q9 q10 q11 q12 q13:Pos} {kk:Nat} {h0:Heap}
  (G:Gd c.base) (F:FnE c env) (hnd:nm.Nodup) (hx:isStore nm env.kindOf x id=true) (hz:isStore nm env.kindOf z id'=true) (hxz:id≠id') (ht:isStore nm env.kindOf t t1=true)
  (hg:isGlob env.kindOf g [115,116,114]=true) (hs:c.base.StaysIn h)
  (hn:h.Ns env.locals (fun y=>if y=id' then some v1 else if y=id then some v0 else m y)) (V:VZ nm env h0 σ H m l) (r0:VR h0 (Live σ H) σ v0 a) (r1:VR h0 (Live σ H) σ v1 cc)
  (he:zip1 x z t a cc l=some l2)
  (k:∀ h' tk m',h'.Ns env.locals m'→Heap.ExtBut env.locals h h'→VZ nm env h0 σ H m' l2→Q .next (sU s h' tk)) :
  wpAny (model prog w) A (execs [.If (.Compare (.Name id' q1) [.IsNot] [.Constant .none kk q2] q3) [.Assign [.Name t1 q4] (.BinOp (.BinOp (.Name t1 q5) .Add (.Name id q6) q7) .Add (.Call (.Name g q8) [.Name id' q9] [] q10) q11) q12] [] q13] env) Q E { s with heap:=h }:=by
 obtain ⟨hx1,hx2⟩:=isStore_iff hx
 obtain ⟨hz1,hz2⟩:=isStore_iff hz
 obtain ⟨ht1,ht2⟩:=isStore_iff ht
 have V2:=(V.set hnd hx1 hx2 r0).set hnd hz1 hz2 r1
 have eid:∀ (Q:Value→Shared→Prop) (tk:Nat) (p:Pos),Q v1 (sU s h tk)→wpAny (model prog w) A (eval (.Name id' p) env) Q E (sU s h tk):=fun Q tk p hQ =>
  wpAny_Name (wpAny_loadName_local F.eo.kind hz2 hn (if_pos rfl) hQ) (isLoc_iff hz1).2.1
 have kstop:∀ l2,VZ nm env h0 σ H (fun y=>if y=id' then some v1 else if y=id then some v0 else m y) l2→(∀ h' tk m',h'.Ns env.locals m'→Heap.ExtBut env.locals h h'→VZ nm env h0 σ H m' l2→Q .next (sU s h' tk))→Q .next { s with heap:=h }:=fun l2 q k =>
  k h s.toks _ hn (fun _ _ _ e=>e) q
 refine wpAny_execs_cons (wpAny_If (wpAny_isTrue_Compare1 (eid _ s.toks q1 (wpAny_Constant_none (isnot_none_gen (wpAny_truthy_bool ?_)))) rfl))
 cases cc with
 | none =>
  obtain rfl:=Option.some.inj he
  rw [r1.none_inv,if_neg (by decide)]
  exact wpAny_execs_nil (wpAny_execs_nil (kstop _ V2 k))
 | int i =>
  obtain ⟨sv,j,hsv,rfl,hcap,rfl⟩:=zip1_int he
  obtain ⟨tv,rfl⟩:=r1.int_inv
  rw [if_pos (show (!(Value.int i tv==Value.none))=true from rfl)]
  obtain ⟨val,hm,hr⟩:=V2.load ht1 ht2 hsv
  obtain ⟨sx,st,rfl,rfl,hs1,hs2⟩:=hr.str_inv
  obtain ⟨jx,jt,rfl,rfl,hj1,hj2⟩:=r0.str_inv
  have hm1:(if t1=id' then some (Value.int i tv) else if t1=id then some (Value.str jx jt) else m t1)=some (.str sx st):=hm
  refine wpAny_execs_cons (wpAny_Assign_Name (wpAny_BinOp (wpAny_BinOp (wpAny_Name (wpAny_loadName_local F.eo.kind ht2 hn hm1 ?_) (isLoc_iff ht1).2.1))) rfl)
  refine wpAny_Name (wpAny_loadName_local F.eo.kind hx2 hn (v:=.str jx jt) (by show (if id=id' then _ else if id=id then _ else _)=_; rw [if_neg hxz,if_pos rfl]) ?_) (isLoc_iff hx1).2.1
  refine PyProof.Rows.add_str (fun u1 tk1=>?_) (Nat.le_trans (by have:=hcap.2; simp [Str.length] at this ⊢; omega) sizeLine_cap)
  obtain ⟨rfl,hgk,hgd⟩:=glob_id hg
  refine Call_ (Name_function_global F.eo.kind hgk (loadGlobal_builtin (mg:=G.mg) (mb:=G.mb) (by rw [F.eo.glob]; exact G.g.keeps hs) G.hstr.1 (by rw [F.eo.blt]; exact G.b.keeps hs) G.hstr.2 ?_) hgd)
  refine PyProof.Rows.callWith_type1 (args_cons (eid _ tk1 _ (args_nil (strInt hcap.1 fun ix it tk2 hi1 hi2 hi3=>?_))))
  refine PyProof.Rows.add_str (fun u2 tk3=>?_) (Nat.le_trans ?_ sizeLine_cap)
  ·refine wpAny_storeName_local ht2 hn (fun h5 hn5 hs5=>wpAny_execs_nil (wpAny_execs_nil ?_)) (by rw [F.eo.kind]; rfl)
   refine k h5 _ _ hn5 hs5.extBut ?_
   refine V2.set hnd ht1 ht2 (VR.str' ?_ ?_ fun ch hch=>?_)
   ·rw [Str.cps_append,Str.cps_append]; simp [hi1]
   ·have:=hcap.2; simp at this ⊢; omega
   ·simp only [List.mem_append] at hch
    rcases hch with (q | q) | q
    ·exact hs2 ch q
    ·exact hj2 ch q
    ·exact hi3 ch (by rw [hi1]; exact q)
  ·have:=hcap.2
   have e:ix.length=(textOf i).length:=by rw [← hi1]; simp [Str.length]
   rw [e]
   simp [Str.length,Str.cps_append] at this ⊢
   omega
 | _=>exact (noS he).elim
set_option maxHeartbeats 1000000 in
theorem sndZip {x z t:Nat} {id id' t1 g:Str} {l l':Loc} {Q:Flow→Shared→Prop} {p1 p2 p3 q1 q2 q3 q4 q5 q6 q7 q8 q9 q10 q11 q12 q13:Pos} {x1 kk:Nat} {aL aT:Addr} {arrL arrT:Array Value} {m1 m2:Nat} {vs ws:List V}
  (G:Gd c.base) (F:FnE c env) (hh:A.handled=none) (hnd:nm.Nodup) (hx:isStore nm env.kindOf x id=true) (hz:isStore nm env.kindOf z id'=true) (hxz:id≠id') (ht:isStore nm env.kindOf t t1=true)
  (hg:isGlob env.kindOf g [115,116,114]=true) (X:c.Ok s.heap σ H) (hv:Vars nm env s.heap σ H l) (f:Fm env s.heap)
  (hL:s.heap.get? aL=some (LstO arrL m1)) (hT:s.heap.get? aT=some (TupO arrT m2)) (rL:VRs s.heap (Live σ H) σ arrL.toList vs) (rT:VRs s.heap (Live σ H) σ arrT.toList ws)
  (he:zipL x z t (pairs vs ws) l=some l')
  (k:∀ h' tk,c.Ok h' σ H→Adv (Own env) s.heap σ H h' σ H→Vars nm env h' σ H l'→Fm env h'→Q .next (sU s h' tk)) :
  wpAny (model prog w) A (call (.type "zip") [.ref aL,.ref aT]) (fun zv s1=>wpAny (model prog w) A (pyIter zv) (fun it s2=>codeAny (model prog w) A (.forLoop (.Tuple [.Name id p1,.Name id' p2] x1 p3) it
   [.If (.Compare (.Name id' q1) [.IsNot] [.Constant .none kk q2] q3) [.Assign [.Name t1 q4] (.BinOp (.BinOp (.Name t1 q5) .Add (.Name id q6) q7) .Add (.Call (.Name g q8) [.Name id' q9] [] q10) q11) q12] [] q13] [] env)
   (fun r s'=>match r with | .ok f=>Q f s' | .error e=>cameBackBy (model prog w) A env E e s') s2) E s1) E s:=by
 have hIL:s.heap.IsList aL arrL:=⟨_,hL,rfl,m1,rfl⟩
 have hIT:s.heap.IsTuple aT arrT:=⟨_,hT,rfl,m2,rfl⟩
 obtain ⟨m0,hn0⟩:=f.1
 have lL:=Heap.lt_size hL
 have lT:=Heap.lt_size hT
 have lE:env.locals < s.heap.objs.size:=by obtain ⟨o,_,_,ho,_⟩:=hn0; exact Heap.lt_size ho
 have neL:env.locals≠aL:=fun q=>ns_noseq hn0 _ (q ▸ hL) ⟨_,_,rfl⟩
 have neT:env.locals≠aT:=fun q=>ns_noseq hn0 _ (q ▸ hT) ⟨_,_,rfl⟩
 refine call_zip_lt hIL hIT fun h1 hz1 hTI1 hTO1 hi1 hi2 hsz hk1=>?_
 refine wpAny_pyIter_zip (s:={ s with heap:=h1 }) hz1 ?_
 have D:=zap_new s.heap.objs.size aL aT lL lT
 have W:=walksZip (prog:=prog) (w:=w) (A:=A) D (Draws.list (A:=A.in1) hh s.heap.objs.size aL (nne (.inl lL)) arrL) (drawsTup (A:=A.in1) hh (s.heap.objs.size + 1) aT (nne (.inl (Nat.lt_succ_of_lt lT))) arrT) (by simp) (by simp)
 have pub:(env.scope.kind==.class||(env.scope.kind==.module&&env.locals != env.globals))=false:=by rw [F.eo.kind]; rfl
 obtain ⟨hx1,hx2⟩:=isStore_iff hx
 obtain ⟨hz1',hz2⟩:=isStore_iff hz
 have base0:c.base.get? env.locals=none:=by
  obtain ⟨outer,hen⟩:=F.head
  exact (X.frames.mem (List.mem_filterMap.mpr ⟨env,by rw [hen]; exact List.mem_cons_self,F.loc⟩)).1
 have szL:arrL.size=vs.length:=by rw [← rL.length,Array.length_toList]
 have szT:arrT.size=ws.length:=by rw [← rT.length,Array.length_toList]
 refine codeAny_forLoop_frT (s:={ s with heap:=h1 }) (h₀:=h00) (m:=m0) (news:=allBut s.heap env.locals) (P2:=fun i x y=>arrL[i]?=some x∧arrT[i]?=some y) hh W (fun i vals ⟨x,y,a,b,d⟩=>⟨x,y,d,a,b⟩) hx2 hz2 pub ?_ (fun b _=>h00_none b) ?_ ?_ ?_ ?_
  (fun i m₁ news₁=>news₁=allBut s.heap env.locals∧∃ li,zipL x z t ((pairs vs ws).drop i) li=some l'∧VZ nm env s.heap σ H m₁ li) ⟨rfl,l,he,?_⟩ ?_ ?_
 ·simp only [List.mem_append,List.mem_cons,List.not_mem_nil,or_false,not_or]
  exact ⟨⟨⟨nlt 4 lE,nlt 2 lE,nlt 3 lE⟩,nlt 0 lE,neL⟩,nlt 1 lE,neT⟩
 ·intro p hp
  have:=Heap.lt_size (of_allBut hp).2
  simp only [List.mem_cons,List.not_mem_nil,or_false,not_or]
  exact ⟨nlt 4 this,nlt 3 this,nlt 0 this,nlt 1 this⟩
 ·exact ⟨hz1,hTI1,⟨_,_,hTO1⟩,⟨hi1,⟨_,hk1 _ _ hL,rfl,m1,rfl⟩⟩,⟨hi2,⟨_,hk1 _ _ hT,rfl,m2,rfl⟩⟩⟩
 ·exact fr0 (ns_keep hn0 (hk1 _))
 ·exact fun p hp=>⟨hk1 _ _ (of_allBut hp).2,(of_allBut hp).1,h00_none _⟩
 ·intro i v e y hy hky
  obtain ⟨u,hu,hr⟩:=hv i v e y hy hky
  refine ⟨u,hu.imp (fun ⟨a,m',b,d⟩=>⟨a,?_⟩) (fun q=>q),hr⟩
  rw [ns_fun hn0 b]; exact d
 ·rintro i v0 v1 m₁ news₁ s₁ own ⟨h,tk,rfl⟩ hi ⟨g0,g1⟩ ⟨rfl,li,hli,Vi⟩ _ hown Fi Ni
  obtain ⟨y0,e0,r0⟩:=rL.got i _ (Array.getElem?_toList.trans g0)
  obtain ⟨y1,e1,r1⟩:=rT.got i _ (Array.getElem?_toList.trans g1)
  obtain ⟨l2,hz1,hli⟩:=zipL_at (pairs_get e0 e1) hli
  refine zipTurn (s:=sU s h tk) (σ:=σ) (H:=H) (h0:=s.heap) G F hnd hx hz hxz ht hg (fun b o e=>(Ni (b,o) (List.mem_append_right _ (mem_allBut (fun q=>by rw [q,base0] at e; cases e) (X.stays b o e)))).1) Fi.ns Vi r0 r1 hz1 fun h' tk' m' hn' hk' V'=>?_
  have Nn:News h00 env.locals h' (own++allBut s.heap env.locals):=fun p hp=>⟨hk' _ _ (Ni p hp).2.1 (Ni p hp).1,(Ni p hp).2⟩
  exact ⟨rfl,h',tk',m',_,rfl,fr0 hn',Nn,rfl,rfl,l2,hli,V'⟩
 ·rintro h' tk m' news' F' N' _ ⟨rfl,li,hli,V'⟩
  have hend:(pairs vs ws).drop (min arrL.size arrT.size)=[]:=List.drop_of_length_le (by rw [pairs_len]; omega)
  rw [hend] at hli
  obtain rfl:=Option.some.inj hli
  have keep:∀ b o,b≠env.locals→s.heap.get? b=some o→h'.get? b=some o:=fun b o hb e=>(N' (b,o) (mem_allBut hb e)).1
  have X':c.Ok h' σ H:=(changeF (O:=fun b=>b=env.locals) (h0:=h00) (H0:=[]) (σ0:=[]) (O0:=No) (h':=h') X (adv00 _ _ _ _)
   (fun b _=>h00_none b) (fun b o hb e=>keep b o hb e) (fun b z=>by subst z; exact ⟨base0,ns_noseq hn0,.inl ⟨_,F'.ns⟩⟩)).1
  have adv:Adv (Own env) s.heap σ H h' σ H:=⟨fun b o hb e=>.inl (keep b o (fun z=>hb (.inr (.inl z))) e),fun _ _ e=>e,fun _ e _=>e,fun b o e=>by
   by_cases hba:b=env.locals
   ·subst hba; obtain ⟨o',_,_,ho',_⟩:=F'.ns; exact ⟨o',ho'⟩
   ·exact ⟨o,keep b o hba e⟩⟩
  have cells:∀ x a,env.cells.lookup x=some a→a≠env.locals:=fun x a hx hq=>by
   obtain ⟨v,o,ho,hd⟩:=f.2 x a hx
   obtain ⟨o',es,ep,ho',hd',_⟩:=hn0
   subst hq
   rw [ho] at ho'; cases ho'; rw [hd] at hd'; cases hd'
  refine k h' tk X' adv (fun i v e y hy hky=>?_) ⟨⟨_,F'.ns⟩,fun x a hx=>?_⟩
  ·obtain ⟨u,hu,hr⟩:=V' i v e y hy hky
   refine ⟨u,?_,hr.adv adv f.noseq⟩
   rcases hu with ⟨a,b⟩ | ⟨a,cc,hc,o,ho,hd⟩
   ·exact .inl ⟨a,m',F'.ns,b⟩
   ·exact .inr ⟨a,cc,hc,o,keep _ _ (cells _ _ hc) ho,hd⟩
  ·obtain ⟨v,o,ho,hd⟩:=f.2 x a hx
   exact ⟨v,o,keep _ _ (cells _ _ hx) ho,hd⟩
end
end Mine
end
section
set_option genSizeOf false
set_option genInjectivity false
open PySem PySem.W PyProof.Rows PySem.Calls PySem.Builtin.Str
namespace Mine
noncomputable def RaiseSnd (prog:Program) (w:World) (b0:Heap) (C:Value):Prop :=
 ∀ (c:Cx) (A:Around) (s:Shared) (σ:List Addr) (H:Hp) (env:Env) (i:Int) (t u:Tok) (x:Str) (Q:Flow→Shared→Prop) (E:Value→Shared→Prop),c.base=b0→c.C=C→c.envs≠[]→AOk c A 4→0 < s.toks→c.Ok s.heap σ H→x.length≤capL →
  (∀ e h' tk,c.Ok h' σ H→Adv No s.heap σ H h' σ H→Exc c.base c.C s.heap e h'→E (.ref e) (sU s h' tk)) →
  wpAny (model prog w) A (PySem.call C [.int i t,.str x u]) (fun xv s'=>wpAny (model prog w) A (raiseStmt env (some (pure xv)) none) Q E s') E s
noncomputable def ClsSnd (prog:Program) (w:World) (b0:Heap) (C:Value):Prop :=
 ∀ (A:Around) (s:Shared) (pos:Pos) (T:PySem.Sem Value) (args:List (Bool × PySem.Sem Value)) (Q E:Value→Shared→Prop),args.any (·.1)=false →
  wpAny (model prog w) A (spliced ((false,T) :: args)) (fun vs s₁=>b0.StaysIn s₁.heap∧wpAny (model prog w) A (PySem.call C vs) Q E s₁) E s→wpAny (model prog w) A (callWith pos C [] ((false,T) :: args) []) Q E s
noncomputable def CatchSnd (prog:Program) (w:World) (b0:Heap) (C:Value):Prop :=
 ∀ (c:Cx) (A:Around) (s:Shared) (σ σ0:List Addr) (H H0:Hp) (h0:Heap) (O:Addr→Prop) (env:Env) (e:Addr) (t:Expr) (hpos rpos kpos:Pos) (k:Nat) (Q:Flow→Shared→Prop) (E:Value→Shared→Prop),c.base=b0→c.C=C→c.envs≠[]→AOk c A 4→c.Ok s.heap σ H→Adv O h0 σ0 H0 s.heap σ H→ExcT .none c.base c.C h0 e s.heap →
  (∀ (A':Around) (s':Shared) (Q' E':Value→Shared→Prop),c.Ok s'.heap σ H→Q' C s'→wpAny (model prog w) A' (eval t env) Q' E' s') →
  (∀ h' tk,c.Ok h' σ H→Adv O h0 σ0 H0 h' σ H→Q (.ret .none) (sU s h' tk)) →
  wpAny (model prog w) A (handleBy (.ref e) env [.ExceptHandler (some t) none [.Return (some (.Constant .none k kpos)) rpos] hpos]) Q E s
structure RdyS (prog:Program) (w:World) (c:Cx) (A:Around) (call:Nat→List V→Hp→Option (Res V)) (n:Nat) extends Rdy prog w c A call n where
 hC:G.mg (sOf [70,111,114,109,97,116,70,97,117,108,116])=some c.C
 rs:RaiseSnd prog w c.base c.C
 ct:CatchSnd prog w c.base c.C
 kc:ClsSnd prog w c.base c.C
 n4:4≤n
theorem upto_get:∀ (n i j:Nat),j < n→(upto n i)[j]?=some (.int ((i + j:Nat):Int))
 | 0,_,_,h=>by omega
 | n + 1,i,0,_=>rfl
 | n + 1,i,j + 1,h=>by
  have:=upto_get n (i + 1) j (by omega)
  show (upto n (i + 1))[j]?=_
  rw [this]; congr 3; omega
theorem upto_len:∀ (n i:Nat),(upto n i).length=n
 | 0,_=>rfl
 | n + 1,i=>congrArg Nat.succ (upto_len n (i + 1))
theorem kdSelf (env:Env):KdOk env.kindOf env:=⟨fun _ h=>h,fun _ h=>h,fun _ h=>h⟩
section
variable {nm:List Txt} {kd:Str→Option NameKind} {st:Stmt} {P:Stmt→Prop}
@[elab_as_elim] theorem cs_assign {x:Nat} {e:Mine.E} (h:chkS nm kd (.assign x e) st=true) (k:∀ id p v q,(isStore nm kd x id||isStoreC nm kd x id)=true→notCo v=true→chkE nm kd e v=true→P (.Assign [.Name id p] v q)):P st :=
 oAs_e h fun _ v q h=>one_e h fun _ h=>oN_e h fun id p h=>an h fun h h3=>an h fun h1 h2=>k id p v q h1 h2 h3
@[elab_as_elim] theorem cs_unpack {xs:List Nat} {e:Mine.E} (h:chkS nm kd (.unpack xs e) st=true) (k:∀ ts x1 p v q,chkNames nm kd xs ts=true→notComp v=true→chkE nm kd e v=true→P (.Assign [.Tuple ts x1 p] v q)):P st :=
 oAs_e h fun _ v q h=>one_e h fun _ h=>oT_e h fun ts x1 p h=>an h fun h h3=>an h fun h1 h2=>k ts x1 p v q h1 h2 h3
@[elab_as_elim] theorem cs_setIdx {a i e:Mine.E} (h:chkS nm kd (.setIdx a i e) st=true) (k:∀ o x p v q,notSl x=true→notCo v=true→chkE nm kd a o=true→chkE nm kd i x=true→chkE nm kd e v=true→P (.Assign [.Subscript o x p] v q)):P st :=
 oAs_e h fun _ v q h=>one_e h fun _ h=>oSu_e h fun o x p h=>an h fun h h5=>an h fun h h4=>an h fun h h3=>an h fun h1 h2=>k o x p v q h1 h2 h3 h4 h5
@[elab_as_elim] theorem cs_aug {x:Nat} {e:Mine.E} (h:chkS nm kd (.aug x e) st=true) (k:∀ id p v q,isLoc nm x id=true→kd id=some .local→chkE nm kd e v=true→P (.AugAssign (.Name id p) .Add v q)):P st :=
 oAu_e h fun _ _ v q h=>oN_e h fun id p h=>isIt_e h fun h=>an h fun h h3=>an h fun h1 h2=>k id p v q h1 (beq_iff_eq.mp h2) h3
@[elab_as_elim] theorem cs_append {a e:Mine.E} (h:chkS nm kd (.append a e) st=true) (k:∀ o ap x pos q,methOk o ap pos=true→chkE nm kd a o=true→chkE nm kd e x=true→notStar x=true→P (.Expr (.Call (.Attribute o (Str.ofString "append") ap) [x] [] pos) q)):P st :=
 oEx_e h fun c q h=>oCa_e h fun g as ks pos h=>nilB_e h fun h=>oA_e h fun o m ap h=>one_e h fun x h=>an h fun h h5=>an h fun h h4=>an h fun h h3=>an h fun h1 h2=>by
  rw [name_is (beq_iff_eq.mp h2) nm_append]; exact k o ap x pos q h1 h3 h4 h5
@[elab_as_elim] theorem cs_ite {c:Mine.E} {a b:Mine.Ss} (h:chkS nm kd (.ite c a b) st=true) (k:∀ t x y q,chkE nm kd c t=true→chkSs nm kd a x=true→chkSs nm kd b y=true→P (.If t x y q)):P st :=
 oI_e h fun t x y q h=>an h fun h h3=>an h fun h1 h2=>k t x y q h1 h2 h3
@[elab_as_elim] theorem cs_while {c:Mine.E} {a:Mine.Ss} (h:chkS nm kd (.while c a) st=true) (k:∀ t x q,chkE nm kd c t=true→chkSs nm kd a x=true→P (.While t x [] q)):P st :=
 oW_e h fun t x y q h=>nilB_e h fun h=>an h fun h1 h2=>k t x q h1 h2
@[elab_as_elim] theorem cs_ret {e:Mine.E} (h:chkS nm kd (.ret e) st=true) (k:∀ v q,chkE nm kd e v=true→P (.Return (some v) q)):P st :=
 oRe_e h fun _ q h=>oSome_e h fun v h=>k v q h
@[elab_as_elim] theorem cs_raise {a:Mine.E} (h:chkS nm kd (.raise a) st=true) (k:∀ id np x t kk cp cpos q,notStar x=true→isGlob kd id [70,111,114,109,97,116,70,97,117,108,116]=true→chkE nm kd a x=true→t.length≤capL→P (.Raise (some (.Call (.Name id np) [x,.Constant (.str t) kk cp] [] cpos)) none q)):P st :=
 oRa_e h fun _ _ q h=>oNone_e h fun h=>oSome_e h fun _ h=>oCa_e h fun _ _ _ cpos h=>nilB_e h fun h=>oN_e h fun id np h=>two_e h fun x _ h=>oC_e h fun _ kk cp h=>cS_e h fun t h=>an h fun h h3=>an h fun h h2=>an h fun h0 h1=>k id np x t kk cp cpos q h0 h1 h2 (of_decide_eq_true h3)
@[elab_as_elim] theorem cs_tryRet {e:Mine.E} (h:chkS nm kd (.tryRet e) st=true) (k:∀ ve rpos id np kk kpos rpos2 hpos q,isGlob kd id [70,111,114,109,97,116,70,97,117,108,116]=true→chkE nm kd e ve=true→P (.Try [.Return (some ve) rpos] [.ExceptHandler (some (.Name id np)) none [.Return (some (.Constant .none kk kpos)) rpos2] hpos] [] [] q)):P st :=
 oTr_e h fun _ _ _ _ q h=>nilB_e h fun h=>nilB_e h fun h=>one_e h fun _ h=>oRe_e h fun _ rpos h=>oSome_e h fun ve h=>one_e h fun hh h=>by
  obtain ⟨ty,nme,bd,hpos⟩:=hh
  cases nme with
  | some _=>exact Bool.noConfusion h
  | none=>exact oSome_e h fun _ h=>oN_e h fun id np h=>one_e h fun _ h=>oRe_e h fun _ rpos2 h=>oSome_e h fun _ h=>oC_e h fun _ kk kpos h=>isIt_e h fun h=>an h fun h1 h2=>k ve rpos id np kk kpos rpos2 hpos q h1 h2
@[elab_as_elim] theorem cs_forE {x:Nat} {e:Mine.E} {a:Mine.Ss} (h:chkS nm kd (.forE x e a) st=true) (k:∀ id p it y q,isLoc nm x id=true→kd id=some .local→notDisp it=true→chkE nm kd e it=true→chkSs nm kd a y=true→P (.For (.Name id p) it y [] q)):P st :=
 oF_e h fun _ it y _ q h=>oN_e h fun id p h=>nilB_e h fun h=>an h fun h h4=>an h fun h h3=>an h fun h h2=>an h fun h0 h1=>k id p it y q h0 (beq_iff_eq.mp h1) h2 h3 h4
@[elab_as_elim] theorem cs_forR {x:Nat} {e:Mine.E} {a:Mine.Ss} (h:chkS nm kd (.forR x e a) st=true) (k:∀ id p g gp x1 cp y q,isLoc nm x id=true→kd id=some .local→isGlob kd g [114,97,110,103,101]=true→notStar x1=true→chkE nm kd e x1=true→chkSs nm kd a y=true→P (.For (.Name id p) (.Call (.Name g gp) [x1] [] cp) y [] q)):P st :=
 oF_e h fun _ _ y _ q h=>oN_e h fun id p h=>nilB_e h fun h=>oCa_e h fun _ _ _ cp h=>nilB_e h fun h=>oN_e h fun g gp h=>one_e h fun x1 h=>an h fun h h4=>an h fun h h3=>an h fun h h0=>an h fun h h2=>an h fun h1 h11=>k id p g gp x1 cp y q h1 (beq_iff_eq.mp h11) h2 h0 h3 h4
@[elab_as_elim] theorem zb_val {v:Expr} {p:Str→Str→Str→Str→Bool} {P:Expr→Prop} (h:(oBi v fun v1 o1 v2=>isIt o1 .Add (oBi v1 fun v3 o2 v4=>isIt o2 .Add (oN v3 fun t2=>oN v4 fun j1=>oCa v2 fun sg as2 ks2 _=>nilB ks2 (oN sg fun sg=>one as2 fun p2=>oN p2 fun p2=>p t2 j1 sg p2))))=true)
  (k:∀ t2 q5 j1 q6 q7 sg q8 p2 q9 q10 q11,p t2 j1 sg p2=true→P (.BinOp (.BinOp (.Name t2 q5) .Add (.Name j1 q6) q7) .Add (.Call (.Name sg q8) [.Name p2 q9] [] q10) q11)):P v :=
 oBi_e h fun _ _ _ q11 h=>isIt_e h fun h=>oBi_e h fun _ _ _ q7 h=>isIt_e h fun h=>oN_e h fun t2 q5 h=>oN_e h fun j1 q6 h=>oCa_e h fun _ _ _ q10 h=>nilB_e h fun h=>oN_e h fun sg q8 h=>one_e h fun _ h=>oN_e h fun p2 q9 h=>k t2 q5 j1 q6 q7 sg q8 p2 q9 q10 q11 h
@[elab_as_elim] theorem zb_if {s:Stmt} {p:Str→Str→Expr→Bool} {P:Stmt→Prop} (h:(oI s fun cc bb el=>nilB el (oCm cc fun pl po pr=>isIt po [.IsNot] (oN pl fun p1=>one pr fun pr=>oC pr fun pc=>isIt pc .none (one bb fun st2=>oAs st2 fun t1 v _=>one t1 fun t1=>oN t1 fun t1=>p p1 t1 v))))=true)
  (k:∀ p1 q1 kk q2 q3 t1 q4 v q12 q13,p p1 t1 v=true→P (.If (.Compare (.Name p1 q1) [.IsNot] [.Constant .none kk q2] q3) [.Assign [.Name t1 q4] v q12] [] q13)):P s :=
 oI_e h fun _ _ _ q13 h=>nilB_e h fun h=>oCm_e h fun _ _ _ q3 h=>isIt_e h fun h=>oN_e h fun p1 q1 h=>one_e h fun _ h=>oC_e h fun _ kk q2 h=>isIt_e h fun h=>one_e h fun _ h=>oAs_e h fun _ v q12 h=>one_e h fun _ h=>oN_e h fun t1 q4 h=>k p1 q1 kk q2 q3 t1 q4 v q12 q13 h
@[elab_as_elim] theorem zb_for {s:Stmt} {p:Str→Str→Str→Expr→Expr→Stmt→Bool} {P:Stmt→Prop} (h:(oF s fun tg it y ol=>nilB ol (oT tg fun ns=>two ns fun a b=>oN a fun id=>oN b fun id'=>oCa it fun g as ks _=>nilB ks (oN g fun g=>two as fun k k'=>one y fun st=>p id id' g k k' st)))=true)
  (k:∀ id p1 id' p2 x1 p3 g gp k1 k2 cp st q,p id id' g k1 k2 st=true→P (.For (.Tuple [.Name id p1,.Name id' p2] x1 p3) (.Call (.Name g gp) [k1,k2] [] cp) [st] [] q)):P s :=
 oF_e h fun _ _ _ _ q h=>nilB_e h fun h=>oT_e h fun _ x1 p3 h=>two_e h fun _ _ h=>oN_e h fun id p1 h=>oN_e h fun id' p2 h=>oCa_e h fun _ _ _ cp h=>nilB_e h fun h=>oN_e h fun g gp h=>two_e h fun k1 k2 h=>one_e h fun st h=>k id p1 id' p2 x1 p3 g gp k1 k2 cp st q h
@[elab_as_elim] theorem cs_zip {x z t:Nat} {e f:Mine.E} (h:chkS nm kd (.zipStr x z t e f) st=true) (k:∀ id p1 id' p2 x1 p3 g gp k1 k2 cp q1 kk q2 q3 t1 q4 q5 q6 q7 sg q8 q9 q10 q11 q12 q13 q,
  isStore nm kd x id=true→isStore nm kd z id'=true→id≠id'→isGlob kd g [122,105,112]=true→isGlob kd sg [115,116,114]=true→isStore nm kd t t1=true→id≠t1→id'≠t1→notStar k1=true→notStar k2=true→chkE nm kd e k1=true→chkE nm kd f k2=true →
  P (.For (.Tuple [.Name id p1,.Name id' p2] x1 p3) (.Call (.Name g gp) [k1,k2] [] cp) [.If (.Compare (.Name id' q1) [.IsNot] [.Constant .none kk q2] q3) [.Assign [.Name t1 q4] (.BinOp (.BinOp (.Name t1 q5) .Add (.Name id q6) q7) .Add (.Call (.Name sg q8) [.Name id' q9] [] q10) q11) q12] [] q13] [] q)):P st:=by
  refine zb_for (s:=st) h fun id p1 id' p2 x1 p3 g gp k1 k2 cp sb q h=>?_
  refine zb_if (s:=sb) h fun p1' q1 kk q2 q3 t1 q4 v q12 q13 h=>?_
  refine zb_val (v:=v) h fun t2 q5 j1 q6 q7 sg q8 p2' q9 q10 q11 h=>?_
  refine an3 h fun h h14 h15 h16=>an3 h fun h h11 h12 h13=>an3 h fun h h8 h9 h10=>an3 h fun h h5 h6 h7=>an3 h fun h1 h2 h3 h4=>?_
  cases beq_iff_eq.mp h7
  cases beq_iff_eq.mp h8
  cases beq_iff_eq.mp h9
  cases beq_iff_eq.mp h10
  exact k _ _ _ _ _ _ _ _ _ _ _ _ _ _ _ _ _ _ _ _ _ _ _ _ _ _ _ _ h1 h2 (bne_iff_ne.mp h3) h4 h5 h6 (bne_iff_ne.mp h11) (bne_iff_ne.mp h12) h13 h14 h15 h16
@[elab_as_elim] theorem cs_cons {s:Mine.S} {q:Mine.Ss} {l:List Stmt} {P:List Stmt→Prop} (h:chkSs nm kd (.cons s q) l=true) (k:∀ x y,chkS nm kd s x=true→chkSs nm kd q y=true→P (x :: y)):P l :=
 oCons_e h fun x y h=>an h fun h1 h2=>k x y h1 h2
@[elab_as_elim] theorem cs_cont (h:chkS nm kd .cont st=true) (k:∀ q,P (.Continue q)):P st:=oCo_e h fun q _=>k q
theorem co_swap {v:Expr} {t:Option Expr} {ln:Nat} {env:Env} (h:notCo v=true):swapsWith v t ln env=pure false:=by
 cases v <;> first | rfl | exact Bool.noConfusion h
theorem disp_fold {v:Expr} {env:Env} (h:notDisp v=true) (x:Value):foldedSetIterable v env x=pure x:=by
 cases v <;> first | rfl | exact Bool.noConfusion h
theorem comp_sole {ts:List Expr} {k:Nat} {p:Pos} {v:Expr} {ln:Nat} {env:Env} (h:notComp v=true):swapsWithSole [.Tuple ts k p] v ln env=pure false:=by
 cases v <;> first | rfl | exact Bool.noConfusion h
theorem comp_none {ts:List Expr} {k:Nat} {p:Pos} {v:Expr} {env:Env} (h:notComp v=true):swappedStores [.Tuple ts k p] v env=pure none:=by
 cases v <;> first | rfl | exact Bool.noConfusion h
end
theorem mv_zip {α:Type} {v w:V} {f:List V→List V→Option α} {r:α} (e:(match v,w with | .lst vs,.tup ws=>f vs ws | _,_=>none)=some r):∃ vs ws,v=.lst vs∧w=.tup ws∧f vs ws=some r:=by
 cases v <;> first | (cases e; done) | (cases w <;> first | (cases e; done) | exact ⟨_,_,rfl,rfl,e⟩)
noncomputable def augV (x:Nat) (l:Loc) (u:V):V→Hp→Option RS:=fun v H=>match u,v with
 | .int i,.int j=>some (.next (l.set x (some (.int (i + j)))) H)
 | .str s,.str t=>if s.length + t.length≤capL then some (.next (l.set x (some (.str (s++t)))) H) else .none
 | _,_=>.none
set_option tactic.hygienic true in
theorem augV_inv {x:Nat} {l:Loc} {u v:V} {H:Hp} {r:RS} (h:augV x l u v H=some r):(∃ i j,u=.int i∧v=.int j∧r=.next (l.set x (some (.int (i + j)))) H)∨∃ s t,u=.str s∧v=.str t∧s.length + t.length≤capL∧r=.next (l.set x (some (.str (s++t)))) H:=by
 cases u <;> first | (cases h; done) | (cases v <;> first | (cases h; done) | skip)
 ·cases h; exact .inl ⟨_,_,rfl,rfl,rfl⟩
 ·rename_i s t
  by_cases q:s.length + t.length≤capL
  ·cases (if_pos q).symm.trans h; exact .inr ⟨_,_,rfl,rfl,q,rfl⟩
  ·cases (if_neg q).symm.trans h
section
variable {call:Nat→List V→Hp→Option (Res V)} {N b:Nat} {l:Loc} {H:Hp} {r:RS}
theorem evS_aug {x:Nat} {e:Mine.E} (h:evS call N b (.aug x e) l H=some r):∃ u,l[x]?=some (some u)∧bndS (evE call b l e H) (augV x l u)=some r:=by
 have h:(match l[x]? with | some (some u)=>bndS (evE call b l e H) (augV x l u) | _=>none)=some r:=h
 generalize l[x]?=o at h ⊢
 rcases o with _ | _ | u
 ·cases h
 ·cases h
 ·exact ⟨u,rfl,h⟩
theorem evS_try {e:Mine.E} (h:evS call N b (.tryRet e) l H=some r):(∃ v H1,evE call b l e H=some (.ok v H1)∧r=.ret v H1)∨∃ H1,evE call b l e H=some (.exc H1)∧r=.ret .none H1:=by
 have h:(match evE call b l e H with | some (.ok v H)=>some (RS.ret v H) | some (.exc H)=>some (.ret .none H) | .none=>.none)=some r:=h
 generalize evE call b l e H=o at h ⊢
 rcases o with _ | ⟨v,H1⟩ | ⟨H1⟩
 ·cases h
 ·cases h; exact .inl ⟨_,_,rfl,rfl⟩
 ·cases h; exact .inr ⟨_,rfl,rfl⟩
theorem evSs_cons {x:Mine.S} {y:Mine.Ss} (h:evSs call N b (.cons x y) l H=some r):∃ r1,evS call N b x l H=some r1∧((∃ l1 H1,r1=.next l1 H1∧evSs call N b y l1 H1=some r)∨(r1=r∧∀ l1 H1,r≠.next l1 H1)):=by
 have h:(match evS call N b x l H with | some (.next l H)=>evSs call N b y l H | r=>r)=some r:=h
 generalize evS call N b x l H=o at h ⊢
 rcases o with _ | r1
 ·cases h
 refine ⟨r1,rfl,?_⟩
 cases r1 with
 | next l1 H1=>exact .inl ⟨_,_,rfl,h⟩
 | cont=>cases h; exact .inr ⟨rfl,fun _ _ e=>by cases e⟩
 | ret=>cases h; exact .inr ⟨rfl,fun _ _ e=>by cases e⟩
 | exc=>cases h; exact .inr ⟨rfl,fun _ _ e=>by cases e⟩
end
section
variable {prog:Program} {w:World} {A:Around} {c:Cx} {call:Nat→List V→Hp→Option (Res V)} {n N:Nat} {env:Env} {nm:List Txt}
theorem AOk.less {m:Nat} (au:AOk c A n) (h:m≤n):AOk c A m:=⟨au.frames,by have:=au.units; omega,by have:=au.depth; omega,au.handled⟩
noncomputable def SndS (prog:Program) (w:World) (A:Around) (c:Cx) (call:Nat→List V→Hp→Option (Res V)) (N:Nat) (env:Env) (nm:List Txt) (x:Mine.S):Prop:=∀ ⦃s:Shared⦄ ⦃σ:List Addr⦄ ⦃H:Hp⦄ ⦃Q:Flow→Shared→Prop⦄ ⦃E:Value→Shared→Prop⦄ ⦃loc:Loc⦄ ⦃st:Stmt⦄ ⦃r:RS⦄,
  0 < s.toks→chkS nm env.kindOf x st=true→evS call N c.b x loc H=some r→c.Ok s.heap σ H→Vars nm env s.heap σ H loc→Fm env s.heap→ContS c env nm s σ H Q E r→wpAny (model prog w) A (exec st env) Q E s
noncomputable def SndSs (prog:Program) (w:World) (A:Around) (c:Cx) (call:Nat→List V→Hp→Option (Res V)) (N:Nat) (env:Env) (nm:List Txt) (x:Mine.Ss):Prop:=∀ ⦃s:Shared⦄ ⦃σ:List Addr⦄ ⦃H:Hp⦄ ⦃Q:Flow→Shared→Prop⦄ ⦃E:Value→Shared→Prop⦄ ⦃loc:Loc⦄ ⦃st:List Stmt⦄ ⦃r:RS⦄,
  0 < s.toks→chkSs nm env.kindOf x st=true→evSs call N c.b x loc H=some r→c.Ok s.heap σ H→Vars nm env s.heap σ H loc→Fm env s.heap→ContS c env nm s σ H Q E r→wpAny (model prog w) A (execs st env) Q E s
mutual
theorem sndS (R:RdyS prog w c A call n) (F:FnE c env) (hnd:nm.Nodup):∀ x:Mine.S,SndS prog w A c call N env nm x
 | .assign i e=>by
  intro s σ H Q E loc st r ht hc he X hv f k
  refine cs_assign hc fun _ _ _ _ h1 h2 h3=>?_
  simp only [Bool.and_eq_true,Bool.or_eq_true,isStore,isStoreC,beq_iff_eq] at h1
  refine wpAny_Assign_Name (goS ht he k.exk (fun r1 e1 E'=>sndE R.toRdy e F.eo (kdSelf env) hnd ht h3 e1 X hv) fun v H1 e1 va h' tk σ' hp X1 a1 q1=>?_) (co_swap h2)
  obtain rfl:=Option.some.inj e1
  refine store (s:=sU s h' tk) F hnd (h1.elim (·.1) (·.1)) (h1.imp (·.2) (·.2)) X1 (hv.adv0 X a1) (f.adv0 X a1) q1 fun h2 tk2 X2 a2 hv2 f2 ht2=>?_
  exact k h2 tk2 σ' (Nat.lt_of_lt_of_le hp ht2) X2 (a1.own.trans a2) hv2 f2
 | .assignC i e y m=>by
  intro s σ H Q E loc st r ht hc he X hv f k
  refine oAs_e hc fun _ v pos hc=>one_e hc fun _ hc=>oNp_e hc fun id p hc=>?_
  simp only [Bool.and_eq_true,isStore,beq_iff_eq] at hc
  obtain ⟨⟨h1,h2⟩,h3⟩:=hc
  obtain ⟨elt,y',p',id',q',k',cpos,scope,pos',rfl,K,hg,g1,g2,g3⟩:=chk_comp h2
  have h3:(p.line==pos'.line&&pos.line==pos'.line&&!(scope.names.any fun (z,k)=>z==id&&(k==.local||k==.cell)))=true:=h3
  simp only [Bool.and_eq_true,beq_iff_eq,Bool.not_eq_true'] at h3
  have hsw:swapsWith (.ListComp elt [⟨.Name y' p',.Call (.Name id' q') [k'] [] cpos,[],0⟩] scope pos') (some (.Name id p)) pos.line env=pure true:=by
   show pure (env.blockKind==.function&&env.kindOf id==some .local&&p.line==pos'.line&&!(scope.names.any fun (z,k)=>z==id&&(k==.local||k==.cell)))=_
   have hb:env.blockKind=.function:=by
    unfold Env.blockKind; rw [F.eo.kind]; rfl
   rw [hb,h1.2,h3.1.1,h3.2]
   simp
  rw [exec_Assign_Name_used _ _ _ _ hsw]
  refine wpAny_bind (wpAny_standAt (wpAny_bind ?_))
  show wpAny _ A (do let _ ← comprehension (.ListComp elt [⟨.Name y' p',.Call (.Name id' q') [k'] [] cpos,[],0⟩] scope pos') scope env _ (newList []) false (eval (.Call (.Name id' q') [k'] [] cpos) env) (some (assign (.Name id p) env))) _ _ s
  rcases bndS_go he with ⟨v,H1,e1,e2⟩ | ⟨H1,e1,rfl⟩
  ·simp only [Option.some.injEq] at e2
   subst e2
   refine wpAny_bind (wpAny_mono (compCore (Q:=fun _ s'=>Q .next s') R.toRdy F.eo (kdSelf env) hnd ht K hg g3 X hv (fun r1 e1 E'=>sndE R.toRdy m F.eo (kdSelf env) hnd ht g1 e1 X hv) (fun eo' ko' hp e' X' hv'=>sndE R.toRdy e eo' ko' hnd hp g2 e' X' hv') e1 (fun H1 e=>by cases e) (fun l H2 j D C h' tk σ' hr hpure hl hd hp X' a' hC hn hbC hfC=>?_)) (fun _ s' hq=>wpAny_pure (wpAny_pure hq)) fun _ _ e=>e)
   obtain ⟨m',hn⟩:=hn
   cases hr
   obtain ⟨X1,a1,q1⟩:=seal_list X' hl hd
   have a2:=a'.trans a1
   refine assign_Name (store (s:=sU s h' tk) F hnd h1.1 (.inl h1.2) X1 (hv.adv0 X a2) (f.adv0 X a2) (q1 hpure) fun h3 tk3 X3 a3 hv3 f3 ht3=>?_)
   have hCO:¬ Own env C:=fun z=>by
    rcases z with rfl | ⟨x,hx⟩
    ·obtain ⟨m,o,_,_,ho,_⟩:=f.1; rw [hC] at ho; cases ho
    ·obtain ⟨v,o,ho,_⟩:=f.2 x C hx; rw [hC] at ho; cases ho
   have hn3:h3.Ns C m':=ns_step a3.step hn fun z=>z.elim (fun z=>by obtain ⟨arr,k,q⟩:=X1.live_seq z; exact ns_noseq hn _ q ⟨_,_,rfl⟩) hCO
   refine ⟨m',hn3,fun h4 hs4=>?_⟩
   obtain ⟨X4,a4⟩:=changeF (O:=fun a=>a=C) (h':=h4) X3 (a2.own.trans a3) (fun a z=>by rw [z]; exact hC) (fun b o hb e=>hs4.extBut b o hb e) (fun a z=>by subst z; exact ⟨hbC,ns_noseq hn3,.inr hfC⟩)
   have k34:∀ b,b≠C→∀ o,h3.get? b=some o→h4.get? b=some o:=fun b hb o e=>hs4.extBut b o hb e
   refine k h4 tk3 σ' (Nat.lt_of_lt_of_le hp ht3) X4 a4 (fun i v e z hz hkz=>?_) ⟨f3.1.imp fun m hn=>ns_keep hn (k34 _ fun z=>hCO (.inl z.symm)),fun x a hx=>(f3.2 x a hx).imp fun v ⟨o,ho,hd⟩=>⟨o,k34 a (fun z=>hCO (.inr ⟨x,z ▸ hx⟩)) o ho,hd⟩⟩
   obtain ⟨u,hu,hr⟩:=hv3 i v e z hz hkz
   refine ⟨u,?_,VR.mono (fun b o _ e hs=>k34 b (fun z=>ns_noseq hn3 o (z ▸ e) hs) o e) (fun _ q _=>q) (fun _ _ q=>q) hr⟩
   rcases hu with ⟨h1,m',hn,h3⟩ | ⟨h1,b,h2',o,h3,h4⟩
   ·exact .inl ⟨h1,m',ns_keep hn (k34 _ fun z=>hCO (.inl z.symm)),h3⟩
   ·exact .inr ⟨h1,b,h2',o,k34 b (fun z=>hCO (.inr ⟨_,z ▸ h2'⟩)) o h3,h4⟩
  ·refine wpAny_bind (wpAny_mono (compCore (Q:=fun _ s'=>Q .next s') R.toRdy F.eo (kdSelf env) hnd ht K hg g3 X hv (fun r1 e1 E'=>sndE R.toRdy m F.eo (kdSelf env) hnd ht g1 e1 X hv) (fun eo' ko' hp e' X' hv'=>sndE R.toRdy e eo' ko' hnd hp g2 e' X' hv') e1 (fun H1 e=>by cases e; exact k.exk _ rfl) (fun l H2 j D C h' tk σ' hr=>by cases hr)) (fun _ s' hq=>wpAny_pure (wpAny_pure hq)) fun _ _ e=>e)
 | .unpack xs e=>by
  intro s σ H Q E loc st r ht hc he X hv f k
  refine cs_unpack hc fun ts x1 tpos v pos h1 h2 h3=>?_
  refine Assign_Tuple (goS ht he k.exk (fun r1 e1 E'=>sndE R.toRdy e F.eo (kdSelf env) hnd ht h3 e1 X hv) fun v H1 e1 va h' tk σ' hp X1 a1 q1=>?_) (comp_sole h2) (comp_none h2)
  obtain ⟨vs,rfl,e4⟩:=mv_tup e1
  obtain ⟨l',e5,rfl⟩:=Option.map_eq_some_iff.mp e4
  exact assignTup (s:=sU s h' tk) R.au.handled F hnd h1 e5 hp X1 (hv.adv0 X a1) (f.adv0 X a1) q1 fun h2 tk2 hp2 X2 a2 hv2 f2=>k h2 tk2 σ' hp2 X2 (a1.own.trans a2) hv2 f2
 | .setIdx a i e=>by
  intro s σ H Q E loc st r ht hc he X hv f k
  refine cs_setIdx hc fun _ _ _ _ _ h1 h2 h3 h4 h5=>?_
  refine wpAny_Assign_Subscript (goS ht he k.exk (fun r1 e1 E'=>sndE R.toRdy e F.eo (kdSelf env) hnd ht h5 e1 X hv) fun v H1 e1 va h1' tk1 σ1 hp1 X1 a1 q1=>?_) (co_swap h2)
  have k1:=k.adv0 (tk:=tk1) a1
  have hv1:=hv.adv0 X a1
  refine goS (s:=sU s h1' tk1) hp1 e1 k1.exk (fun r1 e1 E'=>sndE R.toRdy a F.eo (kdSelf env) hnd hp1 h3 e1 X1 hv1) fun v2 H2 e2 va2 h2' tk2 σ2 hp2 X2 a2 q2=>?_
  have k2:=k1.adv0 (tk:=tk2) a2
  have hv2:=hv1.adv0 X1 a2
  refine goS (s:=sU s h2' tk2) hp2 e2 k2.exk (fun r1 e1 E'=>sndE R.toRdy i F.eo (kdSelf env) hnd hp2 h4 e1 X2 hv2) fun v3 H3 e3 va3 h3' tk3 σ3 hp3 X3 a3 q3=>?_
  have k3:=k2.adv0 (tk:=tk3) a3
  obtain ⟨j,kk,rfl,rfl,e5⟩:=mv_ri e3
  obtain ⟨xs,hg,e5⟩:=mo e5
  obtain ⟨hm,e5⟩:=mi_some e5
  obtain ⟨xs',e4,rfl⟩:=Option.map_eq_some_iff.mp e5
  obtain ⟨hkk,e6⟩:=mi_p e4
  obtain rfl:=Option.some.inj e6
  obtain ⟨t3,rfl⟩:=q3.int_inv
  obtain ⟨b,rfl,hb⟩:=(q2.adv0 a3).ref_inv
  obtain ⟨b',arr,m,g1,g2,g3,g4⟩:=X3.objs j xs (hget_iff hg)
  rw [hb] at g1; cases g1
  have hlen:=g4.length
  rw [Array.length_toList] at hlen
  have hcap:arr.size≤1048576:=g3
  refine setItem_lst (s:=sU s h3' tk3) g2 hkk.1 (by omega) (by omega) ?_
  obtain ⟨X4,a4⟩:=turn_stmt (s:=sU s h3' tk3) (l':=xs.set kk.toNat v) (f:=Obj.mapSeq (·.setIfInBounds kk.toNat va)) X3 hg hb g2 (arr':=arr.setIfInBounds kk.toNat va) rfl (by rw [Array.size_setIfInBounds]; exact g3) (by
   rw [Array.toList_setIfInBounds]
   exact VRs.set (lim_vr (s:=sU s h3' tk3) X3 hm ((q1.adv0 a2).adv0 a3)) g4 _)
  exact k3 _ tk3 σ3 hp3 X4 a4.own ((hv2.adv0 X2 a3).adv0 X3 a4) ((((f.adv0 X a1).adv0 X1 a2).adv0 X2 a3).adv0 X3 a4)
 | .aug i e=>by
  intro s σ H Q E loc st r ht hc he X hv f k
  refine cs_aug hc fun id np v pos h1 h2 h3=>?_
  obtain ⟨u,hu,he⟩:=evS_aug he
  obtain ⟨hl1,hl2,hl3⟩:=isLoc_iff h1
  refine wpAny_AugAssign_Name ?_
  obtain ⟨old,hla,hr⟩:=hv i u hu id hl1 (by rw [h2]; rfl)
  rcases hla with ⟨_,m,hm,hme⟩ | ⟨h' | h',_⟩
  case inr.inl=>rw [h2] at h'; cases h'
  case inr.inr=>rw [h2] at h'; cases h'
  refine wpAny_loadName_local F.eo.kind h2 hm hme ?_
  refine goS ht he k.exk (fun r1 e1 E'=>sndE R.toRdy e F.eo (kdSelf env) hnd ht h3 e1 X hv) fun v' H1 e1 va h1' tk1 σ1 hp1 X1 a1 q1=>?_
  have k1:=k.adv0 (tk:=tk1) a1
  have hv1:=hv.adv0 X a1
  have f1:=f.adv0 X a1
  have hr1:=hr.adv0 a1
  rcases augV_inv e1 with ⟨a,b,rfl,rfl,rfl⟩ | ⟨sx,sy,rfl,rfl,hz,rfl⟩
  ·obtain ⟨t1,rfl⟩:=hr1.int_inv
   obtain ⟨t2,rfl⟩:=q1.int_inv
   exact iadd_int (store (s:=sU s h1' (tk1 + 1)) F hnd h1 (.inl h2) X1 hv1 f1 (.int _ _) fun h4 tk4 X4 a4 hv4 f4 ht4=>k1 h4 tk4 σ1 (Nat.lt_of_lt_of_le (Nat.succ_pos _) ht4) X4 a4 hv4 f4)
  ·obtain ⟨x,t1,rfl,rfl,hx1,hx2⟩:=hr1.str_inv
   obtain ⟨y,t2,rfl,rfl,hy1,hy2⟩:=q1.str_inv
   have fin:∀ (z:Str) (t:Tok) (tk:Nat),0 < tk→z.cps.toList=x.cps.toList++y.cps.toList→wpAny (model prog w) A (storeName env id (.str z t)) (fun _=>Q .next) E (sU s h1' tk):=by
    intro z t tk htk hzz
    refine store (s:=sU s h1' tk) F hnd h1 (.inl h2) X1 hv1 f1 (v:=.str (x.cps.toList++y.cps.toList)) (VR.str' hzz (by rw [List.length_append]; exact hz) fun ch hch=>?_) fun h4 tk4 X4 a4 hv4 f4 ht4=>k1 h4 tk4 σ1 (Nat.lt_of_lt_of_le htk ht4) X4 a4 hv4 f4
    rcases List.mem_append.mp hch with q | q
    ·exact hx2 ch q
    ·exact hy2 ch q
   refine wpAny_with_toks (n:=1) hp1 (PyProof.Rows.iadd_str (fun t' tk htk=>fin (x++y) t' tk htk (by rw [Str.cps_append]; simp)) ?_)
   exact Nat.le_trans (by simpa [Str.length] using hz) sizeLine_cap
 | .append a e=>by
  intro s σ H Q E loc st r ht hc he X hv f k
  refine cs_append hc fun o ap x pos epos h1 h3 h4 h5=>?_
  have hint:interactive env=false:=by
   unfold interactive; rw [F.eo.kind]; rfl
  refine wpAny_Expr (MethodC h1 (form1 h5) fun pl=>goS ht he k.exk (fun r1 e1 E'=>sndE R.toRdy a F.eo (kdSelf env) hnd ht h3 e1 X hv) fun v H1 e1 va h1' tk1 σ1 hp1 X1 a1 q1=>?_) hint
  have k1:=k.adv0 (tk:=tk1) a1
  have hv1:=hv.adv0 X a1
  obtain ⟨j,rfl,e4⟩:=mv_ref e1
  clear e1
  obtain ⟨b,rfl,hb⟩:=q1.ref_inv
  obtain ⟨ob,m',hob⟩:=X1.dom b (List.mem_of_getElem? hb)
  refine getMethod_builtin (T:="list") ⟨_,hob,rfl⟩ PySem.F.plainAttrs_list PySem.F.slot_list_append PySem.F.type_list_append (fun c e=>by cases e; exact ⟨_,hob,rfl⟩) ?_
  dsimp only
  refine callWith_method1 (args_cons (goS (s:=sU s h1' tk1) hp1 e4 k1.exk (fun r1 e1 E'=>sndE R.toRdy e F.eo (kdSelf env) hnd hp1 h4 e1 X1 hv1) fun v3 H3 e3 va3 h3' tk3 σ3 hp3 X3 a3 q3=>args_nil ?_) (notStar_each h5)) (notStar_each h5)
  have k3:=k1.adv0 (tk:=tk3) a3
  cases hg:hget H3 j with
  | none=>rw [hg] at e3; cases e3
  | some xs =>
  rw [hg] at e3
  obtain ⟨hm,e5⟩:=mi_some e3
  obtain rfl:=Option.some.inj e5
  have hm:=Bool.and_eq_true_iff.mp hm
  have hmz:=of_decide_eq_true hm.2
  have hb3:=a3.pre _ _ hb
  obtain ⟨b',arr,m',g1,g2,g3,g4⟩:=X3.objs j xs (hget_iff hg)
  rw [hb3] at g1; cases g1
  have hlen:=g4.length
  rw [Array.length_toList] at hlen
  refine wpAny_list_append_plain (s:=sU s h3' tk3) ⟨m',g2⟩ (fun h4 hl4 hs4=>?_) (Nat.le_trans g3 sizeLine_cap)
  obtain ⟨m4,hl4⟩:=hl4
  obtain ⟨X4,a4⟩:=turn_list (l':=xs++[v3]) X3 (hget_iff hg) hb3 hs4 hl4 (by rw [Array.size_push]; omega) (by
   rw [Array.toList_push]
   exact VRs.append (.cons (lim_vr (s:=sU s h3' tk3) X3 hm.1 q3) .nil) g4)
  exact k3 h4 tk3 σ3 hp3 X4 a4.own ((hv1.adv0 X1 a3).adv0 X3 a4) (((f.adv0 X a1).adv0 X1 a3).adv0 X3 a4)
 | .ite t a b=>by
  intro s σ H Q E loc st r ht hc he X hv f k
  refine cs_ite hc fun _ _ _ _ h1 h2 h3=>?_
  refine wpAny_If (goST ht he k.exk (fun v H1 e1=>mv_bool e1) (fun r1 e1 E'=>sndE R.toRdy t F.eo (kdSelf env) hnd ht h1 e1 X hv) fun tt H1 e1 h' tk σ' hp X1 a1=>?_)
  cases tt with
  | true=>exact sndSs R F hnd a (s:=sU s h' tk) hp h2 e1 X1 (hv.adv0 X a1) (f.adv0 X a1) (k.adv0 a1)
  | false=>exact sndSs R F hnd b (s:=sU s h' tk) hp h3 e1 X1 (hv.adv0 X a1) (f.adv0 X a1) (k.adv0 a1)
 | .while t a=>by
  intro s σ H Q E loc st r ht hc he X hv f k
  refine cs_while hc fun _ _ _ h1 h2=>?_
  refine wpAny_While (sndWhile (cd:=fun _ _=>none) F R.au (fun hp e1 X1 hv1=>sndE R.toRdy t F.eo (kdSelf env) hnd hp h1 e1 X1 hv1) (fun hp e1 X1 hv1 f1 k1=>sndSs R F hnd a hp h2 e1 X1 hv1 f1 k1) k ⟨s.heap,s.toks,σ,rfl,ht,X,.refl ..,hv,f⟩ he)
 | .ret e=>by
  intro s σ H Q E loc st r ht hc he X hv f k
  refine cs_ret hc fun _ _ hc=>?_
  refine wpAny_Return_some (goS ht he k.exk (fun r1 e1 E'=>sndE R.toRdy e F.eo (kdSelf env) hnd ht hc e1 X hv) fun v H1 e1 va h' tk σ' hp X1 a1 q1=>?_)
  obtain rfl:=Option.some.inj e1
  exact k va h' tk σ' X1 a1.own q1
 | .raise a=>by
  intro s σ H Q E loc st r ht hc he X hv f k
  refine cs_raise hc fun id np x t kk cp cpos pos h0 h1 h2 h3=>?_
  show wpAny (model prog w) A (do standAt pos; raiseStmt env (some (do let v ← eval (.Call (.Name id np) [x,.Constant (.str t) kk cp] [] cpos) env; standAt pos; pure v)) none) Q E s
  refine wpAny_bind (wpAny_standAt ?_)
  show wpAny (model prog w) A (do let xv ← (do let v ← eval (.Call (.Name id np) [x,.Constant (.str t) kk cp] [] cpos) env; standAt pos; pure v); raiseStmt env (some (pure xv)) none) Q E s
  refine wpAny_bind (wpAny_bind (Call_ (name_mg R.G F.eo h1 X R.hC ?_)))
  rw [notStar_each h0]
  refine R.kc A _ _ _ _ _ _ rfl (spliced_cons (goS ht he k.exk (fun r1 e1 E'=>sndE R.toRdy a F.eo (kdSelf env) hnd ht h2 e1 X hv) fun v H1 e1 va h' tk σ' hp X1 a1 q1=>spliced_cons (Constant_str (k:=kk) (pos:=cp) (spliced_nil ⟨X1.stays,?_⟩))))
  obtain ⟨_,rfl,e4⟩:=mv_int e1
  obtain rfl:=Option.some.inj e4
  obtain ⟨t1,rfl⟩:=q1.int_inv
  refine wpAny_mono (R.rs c A _ σ' H1 env _ t1 _ t Q E rfl rfl R.hne (R.au.less R.n4) (Nat.succ_pos _) X1 h3 fun e h2 tk2 X2 a2 x2=>?_) (fun xv s' h'=>wpAny_bind (wpAny_standAt (wpAny_pure h'))) fun _ _ y=>y
  exact k e h2 tk2 σ' X2 (a1.own.trans a2.own) (ExcX.adv a1 (ExcX.x x2 fun _=>.inl))
 | .cont=>by
  intro s σ H Q E loc st r ht hc he X hv f k
  refine cs_cont hc fun _=>?_
  obtain rfl:=Option.some.inj (he:some (RS.cont loc H)=some r)
  exact wpAny_Continue (k s.heap s.toks σ ht X (.refl ..) hv f)
 | .tryRet e=>by
  intro s σ H Q E loc st r ht hc he X hv f k
  refine cs_tryRet hc fun ve rpos id np kk kpos rpos2 hpos pos h1 h2=>?_
  obtain ⟨outer,hen⟩:=F.head
  refine wpAny_Try_except (wpAny_execs_cons (wpAny_Return_some ?_))
  rcases evS_try he with ⟨v,H1,hev,rfl⟩ | ⟨H1,hev,rfl⟩
  ·exact (sndE R.toRdy e F.eo (kdSelf env) hnd ht h2 hev X hv).1 _ fun val h' tk σ' X1 a1 q1=>k val h' tk σ' X1 a1.own q1
  ·refine (sndE R.toRdy e F.eo (kdSelf env) hnd ht h2 hev X hv).1 _ fun ex h' tk σ' X1 a1 x1=>?_
   refine exc_note (s:=sU s h' tk) (O:=Own env) hen R.au.frames F.loc X1 a1.own (ExcX.x x1 fun _=>.inl) fun h2 X2 a2 x2=>?_
   refine exc_fly (s:=sU s h2 tk) none X2 a2 x2 fun h3 X3 a3 x3=>?_
   exact R.ct c A (sU s h3 tk) σ' σ H1 H s.heap (Own env) env ex _ hpos rpos2 kpos kk Q E rfl rfl R.hne (R.au.less R.n4) X3 a3 x3
    (fun A' s' Q' E' X' hq=>name_mg R.G F.eo h1 X' R.hC hq) fun h4 tk4 X4 a4=>k .none h4 tk4 σ' X4 a4 .none
 | .forE i e a=>by
  intro s σ H Q E loc st r ht hc he X hv f k
  refine cs_forE hc fun _ _ _ _ _ h1 h11 h2 h3 h4=>?_
  refine wpAny_For (goS ht he k.exk (fun r1 e1 E'=>sndE R.toRdy e F.eo (kdSelf env) hnd ht h3 e1 X hv) fun v H1 e1 va h1' tk1 σ1 hp1 X1 a1 q1=>?_) (disp_fold h2)
  have k1:=k.adv0 (tk:=tk1) a1
  have hv1:=hv.adv0 X a1
  have f1:=f.adv0 X a1
  have nOwn:∀ {b:Addr},h1'.get? b=none→¬ Own env b:=fun {b} hb z=>by
   rcases z with rfl | ⟨x,hx⟩
   ·obtain ⟨m,o,_,_,ho,_⟩:=f1.1; rw [hb] at ho; cases ho
   ·obtain ⟨v,o,ho,_⟩:=f1.2 x b hx; rw [hb] at ho; cases ho
  have hnew:h1'.get? h1'.objs.size=none:=size_none _ (Nat.le_refl _)
  have gp:∀ o:Obj,Grow c.base h1' (h1'.push o):=fun o=>grow_keeps X1.stays fun _ _ e=>Heap.get?_push_of_some _ e
  have I1:∀ o:Obj,LInv c env nm (sU s h1' tk1) σ1 H1 (sU s (h1'.push o) tk1) loc H1:=fun o =>
   ⟨h1'.push o,tk1,σ1,rfl,hp1,X1.grow (gp o),((gp o).adv σ1 H1).own,hv1.adv0 X1 ((gp o).adv σ1 H1),f1.adv0 X1 ((gp o).adv σ1 H1)⟩
  have body:SndBody prog w A c env nm (fun l H=>evSs call N c.b a l H) _:=fun hp e1 X1 hv1 f1 k1=>sndSs R F hnd a hp h4 e1 X1 hv1 f1 k1
  cases v with
  | lst vs =>
    obtain ⟨b,arr,mm,rfl,hob,hF,hz,hr⟩:=q1.lst_inv
    have hL:h1'.IsList b arr:=⟨_,hob,rfl,mm,rfl⟩
    have hlt:=Heap.lt_size hob
    refine wpAny_pyIter_list (s:=sU s h1' tk1) hL ?_
    refine sndFor (s:=sU s h1' tk1) (vs:=vs) F R.au hnd (Walks.list R.au.handled h1'.objs.size b (Nat.ne_of_lt hlt) arr) h1 h11 hnew X1 (nOwn hnew) (fun j h hst o ho=>?_) (fun b' hb' hne=>?_) (by rw [← hr.length,Array.length_toList]) (fun j v _ hv'=>?_) f1.noseq body k1 (I1 _) ?_ e1
    ·obtain ⟨⟨o',ho',_,hd'⟩,_⟩:=hst
     rw [ho] at ho'; cases ho'
     exact ⟨_,hd'⟩
    ·simp only [List.mem_cons,List.not_mem_nil,or_false] at hb'
     rcases hb' with rfl | rfl
     ·exact absurd rfl hne
     ·exact ⟨⟨_,hob,_,_,rfl⟩,hF,fun z=>f1.noseq _ _ z hob ⟨_,_,rfl⟩⟩
    ·intro h' σ' H' a'
     have hjl:vs[j]?≠none:=by
      intro hn
      have e1:=List.getElem?_eq_none_iff.mp hn
      have e2:=hr.length
      rw [Array.length_toList] at e2
      have e3:=(Array.getElem?_eq_some_iff.mp hv').1
      omega
     obtain ⟨y,hy⟩:=Option.ne_none_iff_exists'.mp hjl
     obtain ⟨v2,hv2,hr2⟩:=hr.get j y hy
     rw [Array.getElem?_toList] at hv2
     rw [hv'] at hv2; cases hv2
     exact ⟨y,hy,hr2.adv a' f1.noseq⟩
    ·exact ⟨⟨_,Heap.get?_push_size _ rfl,rfl,rfl⟩,⟨_,Heap.get?_push_of_some _ hob,rfl,mm,rfl⟩⟩
  | str t =>
   obtain ⟨x,u,rfl,rfl,hx1,hx2⟩:=q1.str_inv
   have hsz:(x.cps.toList.map fun ch=>V.str [ch]).length=x.cps.size:=by simp
   have hP:∀ j v,j < x.cps.size→SignAt x j v→∀ {h':Heap} {σ':List Addr} {H':Hp},Adv (Own env) h1' σ1 H1 h' σ' H'→∃ y,(x.cps.toList.map fun ch=>V.str [ch])[j]?=some y∧VR h' (Live σ' H') σ' v y:=by
    rintro j v _ ⟨ch,u',hch,rfl⟩ h' σ' H' a'
    have hch':x.cps.toList[j]?=some ch:=by rw [Array.getElem?_toList]; exact hch
    refine ⟨.str [ch],by rw [List.getElem?_map,hch']; rfl,VR.str' rfl (by show 1≤1048576; omega) fun z hz=>?_⟩
    simp only [List.mem_singleton] at hz
    subst hz
    exact hx2 _ (List.mem_of_getElem? hch')
   cases ha:x.cps.all (· < 128)
   ·refine wpAny_pyIter_wide (s:=sU s h1' tk1) ha ?_
    refine sndFor (s:=sU s h1' tk1) (vs:=x.cps.toList.map fun ch=>V.str [ch]) F R.au hnd (Walks.strWide R.au.handled h1'.objs.size x u) h1 h11 hnew X1 (nOwn hnew) (fun j h hst o ho=>?_) (fun b' hb' hne=>?_) hsz hP f1.noseq body k1 (I1 _) ⟨_,Heap.get?_push_size _ rfl,rfl,rfl⟩ e1
    ·obtain ⟨o',ho',_,hd'⟩:=hst
     rw [ho] at ho'; cases ho'
     exact ⟨_,hd'⟩
    ·simp only [List.mem_singleton] at hb'
     exact absurd hb' hne
   ·refine wpAny_pyIter_ascii (s:=sU s h1' tk1) ha ?_
    refine sndFor (s:=sU s h1' tk1) (vs:=x.cps.toList.map fun ch=>V.str [ch]) F R.au hnd (Walks.strAscii R.au.handled h1'.objs.size x u) h1 h11 hnew X1 (nOwn hnew) (fun j h hst o ho=>?_) (fun b' hb' hne=>?_) hsz hP f1.noseq body k1 (I1 _) ⟨_,Heap.get?_push_size _ rfl,rfl,rfl⟩ e1
    ·obtain ⟨o',ho',_,hd'⟩:=hst
     rw [ho] at ho'; cases ho'
     exact ⟨_,hd'⟩
    ·simp only [List.mem_singleton] at hb'
     exact absurd hb' hne
  | _=>exact (noS e1).elim
 | .forR i e a=>by
  intro s σ H Q E loc st r ht hc he X hv f k
  refine cs_forR hc fun _ _ _ _ _ _ _ _ h1 h11 h2 h0 h3 h4=>?_
  refine wpAny_For (Call_ (name_mb R.G F.eo h2 X R.G.hrange.1 R.G.hrange.2 (PyProof.Rows.callWith_type1 (args_cons (goS ht he k.exk (fun r1 e1 E'=>sndE R.toRdy e F.eo (kdSelf env) hnd ht h3 e1 X hv) fun v H1 e1 va h1' tk1 σ1 hp1 X1 a1 q1=>args_nil ?_) (notStar_each h0)) (notStar_each h0)))) (disp_fold rfl)
  have k1:=k.adv0 (tk:=tk1) a1
  have hv1:=hv.adv0 X a1
  have f1:=f.adv0 X a1
  have nOwn:∀ {b:Addr},h1'.get? b=none→¬ Own env b:=fun {b} hb z=>by
   rcases z with rfl | ⟨x,hx⟩
   ·obtain ⟨m,o,_,_,ho,_⟩:=f1.1; rw [hb] at ho; cases ho
   ·obtain ⟨v,o,ho,_⟩:=f1.2 x b hx; rw [hb] at ho; cases ho
  have body:SndBody prog w A c env nm (fun l H=>evSs call N c.b a l H) _:=fun hp e1 X1 hv1 f1 k1=>sndSs R F hnd a hp h4 e1 X1 hv1 f1 k1
  obtain ⟨kk,rfl,e4⟩:=mv_int e1
  clear e1
  obtain ⟨hkk,e4⟩:=mi_p e4
  obtain ⟨t,rfl⟩:=q1.int_inv
  have hc2:=hkk.2
  have hcp:capL=1048576:=rfl
  refine call_range_1 (wpAny_pyIter_range (IsRange.new ..) (small_one (by omega) (by omega) (by omega) (by omega)) ?_)
  have hsz:Builtin.Range.rangeSize 0 kk 1=((kk.toNat:Nat):Int):=by rw [rangeSize_one]; split <;> omega
  generalize hhR:h1'.push { cls:=.type "range",data:=.fields #[.int 0 tk1,.int kk t,.int 1 (tk1 + 1)] }=hR
  have gR:∀ b o,h1'.get? b=some o→hR.get? b=some o:=fun b o e=>by rw [← hhR]; exact Heap.get?_push_of_some _ e
  have g1:Grow c.base h1' hR:=grow_keeps X1.stays gR
  have hnew:hR.get? hR.objs.size=none:=size_none _ (Nat.le_refl _)
  have hle:h1'.get? hR.objs.size=none:=by
   cases q:h1'.get? hR.objs.size with
   | none=>rfl
   | some o=>exact absurd (gR _ _ q) (by rw [hnew]; intro z; cases z)
  have g2:∀ o:Obj,Grow c.base h1' (hR.push o):=fun o=>grow_keeps X1.stays fun b o' e=>Heap.get?_push_of_some _ (gR b o' e)
  refine sndFor (s:=sU s h1' tk1) (I:=hR.objs.size) (fp:=[hR.objs.size]) (m:=kk.toNat) (vs:=upto kk.toNat 0) F R.au hnd (Walks.range R.au.handled hR.objs.size 0 1 kk.toNat) h1 h11 hle X1 (nOwn hle) (fun j h hst o ho=>?_) (fun b' hb' hne=>?_) (upto_len _ _) (fun j v hj hv'=>?_) f1.noseq body k1
   ⟨hR.push _,_,σ1,rfl,?_,X1.grow (g2 _),((g2 _).adv σ1 H1).own,hv1.adv0 X1 ((g2 _).adv σ1 H1),f1.adv0 X1 ((g2 _).adv σ1 H1)⟩ ?_ e4
  ·rw [hst] at ho; cases ho; exact ⟨_,rfl⟩
  ·simp only [List.mem_singleton] at hb'
   exact absurd hb' hne
  ·intro h' σ' H' a'
   obtain ⟨t',rfl⟩:=hv'
   refine ⟨_,upto_get _ _ _ hj,?_⟩
   rw [show (0:Int) + (j:Int) * 1=((0 + j:Nat):Int) by omega]
   exact .int _ _
  ·exact Nat.succ_pos _
  ·show IsRangeIter _ _ _ _ _
   rw [hsz]
   exact Heap.get?_push_size _ rfl
 | .zipStr x z t e e2=>by
  intro s σ H Q E loc st r ht hc he X hv f k
  refine cs_zip hc fun id p1 id' p2 x1 p3 g gp k1 k2 cp q1 kk q2 q3 t1 q4 q5 q6 q7 sg q8 q9 q10 q11 q12 q13 pos h1 h2 h3 h4 h5 h6 h11 h12 h13 h14 h15 h16=>?_
  refine wpAny_with_toks (n:=1) ht ?_
  refine wpAny_For (Call_ (name_mb R.G F.eo h4 X R.G.hzip.1 R.G.hzip.2 (PyProof.Rows.callWith_type1 (args_cons (goS ht he (fun H1 e=>(k.exk H1 e).pos) (fun r1 e1 E'=>sndE R.toRdy e F.eo (kdSelf env) hnd ht h15 e1 X hv) fun v H1 e1 va h1' tk1 σ1 hp1 X1 a1 q1=>?_) (notStar_each h13)) (notStar_each h13) (by rw [notStar_each h14]; rfl)))) (disp_fold rfl)
  have k1:=k.adv0 (tk:=tk1) a1
  have hv1:=hv.adv0 X a1
  have f1:=f.adv0 X a1
  refine args_cons (goS (s:=sU s h1' tk1) hp1 e1 (fun H1 e=>(k1.exk H1 e).pos) (fun r1 e1 E'=>sndE R.toRdy e2 F.eo (kdSelf env) hnd hp1 h16 e1 X1 hv1) fun v2 H2 e3 va2 h2' tk2 σ2 hp2 X2 a2 q2=>args_nil ?_) (notStar_each h14)
  have k2:=k1.adv0 (tk:=tk2) a2
  have hv2:=hv1.adv0 X1 a2
  have f2:=f1.adv0 X1 a2
  have q1':=q1.adv0 a2
  obtain ⟨vs,ws,rfl,rfl,e4⟩:=mv_zip e3
  obtain ⟨l2,e5,rfl⟩:=Option.map_eq_some_iff.mp e4
  obtain ⟨aL,arrL,m1,rfl,hL,_,_,rL⟩:=q1'.lst_inv
  obtain ⟨aT,arrT,m2,rfl,hT,_,_,rT⟩:=q2.tup_inv
  exact sndZip (s:=sU s h2' tk2) R.G F R.au.handled hnd h1 h2 h3 h6 h5 X2 hv2 f2 hL hT rL rT e5 fun h' tk X' a' hv' f' hp=>k2 h' tk σ2 hp X' a' hv' f'
theorem sndSs (R:RdyS prog w c A call n) (F:FnE c env) (hnd:nm.Nodup):∀ x:Mine.Ss,SndSs prog w A c call N env nm x
 | .nil=>by
  intro s σ H Q E loc st r ht hc he X hv f k
  cases List.isEmpty_iff.mp (hc:st.isEmpty=true)
  obtain rfl:=Option.some.inj (he:some (RS.next loc H)=some r)
  exact wpAny_execs_nil (k s.heap s.toks σ ht X (.refl ..) hv f)
 | .cons x y=>by
  intro s σ H Q E loc st r ht hc he X hv f k
  refine cs_cons hc fun _ _ h1 h2=>?_
  refine wpAny_execs_cons ?_
  obtain ⟨r1,h3,h4⟩:=evSs_cons he
  refine sndS R F hnd x ht h1 h3 X hv f ?_
  rcases h4 with ⟨l1,H1,rfl,h5⟩ | ⟨rfl,h5⟩
  ·exact fun h' tk σ' hp X' a' hv' f'=>sndSs R F hnd y (s:=sU s h' tk) hp h2 h5 X' hv' f' (k.adv a')
  ·cases r1 with
   | next l1 H1=>exact (h5 _ _ rfl).elim
   | _=>exact k
end
end
end Mine
end
section
set_option maxRecDepth 100000
open PySem PySem.W PyProof.Rows PySem.Calls Builtin Builtin.ObjectAttr
namespace Mine
inductive ObjC (K:Frag) (C D:Addr):Prop
 | mk (dd:Option Addr) (cd:ClassData) (sl:Array (Option Value)):K.lookup C=some ⟨.type "type",dd,.cls cd,sl⟩→cd.mro=[.ref C,.ref D,.type "Exception",.type "BaseException",.type "object"]→cd.hasDict=true→cd.hasDel=false→(sl[4]?).join=some (.builtin "Exception.__new__")→ObjC K C D
structure FK (K:Frag) (C D f1 f2:Addr):Prop where
 objC:ObjC K C D
 call:specialIn K (.ref C) "__call__" = some (some (.builtin "type.__call__"))
 typ:instIn K (.ref C) (.type "type")=some true
 init:findIn K (.ref C) "__init__" = some (some (.ref f1))
 t1:typeIn K (.ref f1)=some (.type "function")
noncomputable def excObj (C:Addr) (T:Addr):Obj:={ cls:=.ref C,data:=.fields #[.ref T,.none,.none,.none,.bool false,.none] }
noncomputable def tupO (l:List Value):Obj:={ cls:=.type "tuple",data:=.seq l.toArray }
section
variable {prog:Program} {w:World} {A:Around} {K:Frag} {C D f1 f2:Addr} {R:Result→Shared→Prop} {h:Heap} {g:Array GenState} {d:Drawn} {t:Nat} {os:OsState}
theorem wpAny_ifB {M:Model} {A:Around} {α β:Type} [BEq β] [LawfulBEq β] {a:β} {x y:Sem α} {Q:α→Shared→Prop} {E:Value→Shared→Prop} {s:Shared} (k:wpAny M A y Q E s):wpAny M A (if (a != a)=true then x else y) Q E s :=
 (if_neg (by rw [bne_self_eq_false]; exact Bool.false_ne_true):(if (a != a)=true then x else y)=y).symm ▸ k
theorem wpAny_ifN {M:Model} {A:Around} {α:Type} {b:Bool} {x y:Sem α} {Q:α→Shared→Prop} {E:Value→Shared→Prop} {s:Shared} (h:b=false) (k:wpAny M A y Q E s):wpAny M A (if b=true then x else y) Q E s :=
 (if_neg (ne_true_of_eq_false h):(if b=true then x else y)=y).symm ▸ k
theorem mro_looks {M:Model} (X:K.In h) (Y:FK K C D f1 f2):Looks M h (mroOf (.ref C)) [.ref C,.ref D,.type "Exception",.type "BaseException",.type "object"]:=by
 obtain ⟨dd,cd,sl,ho,hm,_⟩:=Y.objC
 rw [← hm]
 exact (looks_clsIn X (by unfold clsIn; rw [ho])).andThen .now
theorem sub_looks {M:Model} (X:K.In h) (Y:FK K C D f1 f2) (base:Value) {b:Bool} (e:[Value.ref C,.ref D,.type "Exception",.type "BaseException",.type "object"].contains base=b):Looks M h (isSubtype (.ref C) base) b:=by
 obtain ⟨dd,cd,sl,ho,hm,_⟩:=Y.objC
 refine looks_mroIn X ?_
 unfold mroIn
 rw [show clsIn K C=some cd by unfold clsIn; rw [ho],Option.bind_some,hm,if_neg (by simp),e]
theorem made_looks {M:Model} (X:K.In h) (Y:FK K C D f1 f2):Looks M h (Bind.madeBy (.ref C)) (some "Exception.__new__"):=by
 intro A Q E s k q
 have L:=mro_looks (M:=M) X Y
 obtain ⟨dd,cd,sl,ho,hm,_,_,hs⟩:=Y.objC
 unfold Bind.madeBy
 refine wpAny_bind (L A _ E s k ?_)
 rw [List.forIn_cons]
 refine wpAny_bind (wpAny_bind (wpAny_bind (wpAny_bind (wpAny_loadPart (k _ _ (X _ _ ho)) (wpAny_pure ?_)))))
 dsimp only
 rw [hs]
 exact wpAny_pure (wpAny_pure (wpAny_pure q))
theorem base_looks {M:Model} (X:K.In h) (Y:FK K C D f1 f2):Looks M h (Bind.staticBase (.ref C)) (.ref C):=by
 intro A Q E s k q
 have L:=mro_looks (M:=M) X Y
 have m:=made_looks (M:=M) X Y
 unfold Bind.staticBase
 refine wpAny_bind (L A _ E s k ?_)
 rw [List.forIn_cons]
 exact wpAny_bind (wpAny_bind (wpAny_bind (m A _ E s k (wpAny_pure (wpAny_pure (wpAny_pure q))))))
theorem fault_new (X:K.In h) (Y:FK K C D f1 f2) {rest:List Value} (hrest:rest.length≤sizeLine)
  (hq:R (.ok (.ret (.ref (h.objs.size + 1)))) ⟨(h.push (tupO rest)).push (excObj C h.objs.size),g,d,t,os⟩) :
  codeAny (model prog w) A (.call (.builtin "Exception.__new__") ⟨.ref C :: rest,[]⟩) R ⟨h,g,d,t,os⟩:=by
 have F:=PySem.F.excBase_Exception
 have m:=made_looks (M:=model prog w) X Y
 have b:=base_looks (M:=model prog w) X Y
 have s1:=sub_looks (M:=model prog w) X Y (.type "Exception") (b:=true) rfl
 have s2:=sub_looks (M:=model prog w) X Y (.type "AttributeError") (b:=false) rfl
 have s3:=sub_looks (M:=model prog w) X Y (.type "NameError") (b:=false) rfl
 have hstar:=F.noStar
 obtain ⟨dd,cd,sl,ho,hm,hd,hdel,hs⟩:=Y.objC
 have hC:=X _ _ ho
 refine codeAny_call_builtin_code (Code.quiet_builtin _ F.quiet) ?_
 simp only [checkBuiltinCall,F.newKind,F.newSplit,F.newRow]
 repeat (first | with_reducible refine wpAny_ifB ?_ | with_reducible refine wpAny_ifN rfl ?_ | lk)
 have hends:=F.ends
 have here:Looks (model prog w) h (Bind.madeHere "BaseException.__new__" (.ref C)) ():=b.andThen (m.andThen (Looks.of_pure (by simp only [Option.map_some,F.canon,bne_self_eq_false,Bool.false_eq_true,if_false])))
 refine PySem.codeAny_builtinAt F.entry ?_
 unfold Builtin.«BaseException.__new__»
 refine PySem.wpAt_bind ?_
 show PySem.wpAt _ _ _ (stack >>= _) _ _ _
 refine PySem.wpAt_bind (PySem.wpAt_stack fun p below=>PySem.wpAt_of_wpAny ?_)
 wp_walk
 refine PySem.wpAt_of_wpAny ?_
 rw [F.owner]
 have hcd:∀ o o':Obj,((h.push o).push o').get? C=some { cls:=Value.type "type",dict:=dd,data:=Data.cls cd,slots:=sl }:=fun o o'=>Heap.get?_push_of_some _ (Heap.get?_push_of_some _ hC)
 repeat (first | with_reducible refine wpAny_ifB ?_ | with_reducible refine wpAny_ifN rfl ?_ | lk)
 rw [if_neg (Nat.not_lt.mpr (by simpa using hrest))]
 unfold newObjAsIs
 refine wpAny_bind (wpAny_alloc (wpAny_pure (wpAny_bind ?_)))
 show wpAny _ _ (newObjAsIs _ _ _) _ _ _
 unfold newObjAsIs classHasDel
 refine wpAny_bind (wpAny_alloc (wpAny_bind (wpAny_bind (wpAny_load (hcd _ _) (wpAny_pure ?_)))))
 rw [hdel]
 refine wpAny_pure (wpAny_pure ?_)
 show R _ _
 rw [Heap.size_push]
 exact hq
theorem fault_core (X:K.In h) (Y:FK K C D f1 f2) {rest:List Value} (hrest:rest.length≤sizeLine)
  (hq:codeAny (model prog w) (A.under (.builtin "type.__call__" ⟨.ref C :: rest,[]⟩)) (.call (.ref f1) ⟨.ref (h.objs.size + 1) :: rest,[]⟩) (InitBack (h.objs.size + 1) R) ⟨(h.push (tupO rest)).push (excObj C h.objs.size),g,d,t,os⟩) :
  codeAny (model prog w) A (.call (.ref C) ⟨rest,[]⟩) R ⟨h,g,d,t,os⟩:=by
 have hm:=mro_looks (M:=model prog w) X Y
 have made:=made_looks (M:=model prog w) X Y
 have call:=looks_specialIn (M:=model prog w) X Y.call
 have typ:=looks_instIn (M:=model prog w) X Y.typ
 have hi:=looks_findIn (M:=model prog w) X Y.init
 have self:=sub_looks (M:=model prog w) X Y (.ref C) (b:=true) (by simp)
 obtain ⟨dd,cd,sl,ho,_⟩:=Y.objC
 have hC:=X _ _ ho
 refine codeAny_of_tree ?_
 show wpAny _ _ (callAny (.ref C) _) _ _ _
 refine nd_load hC ?_
 show wpAny _ _ (callAny.viaDunder (.ref C) _) _ _ _
 unfold callAny.viaDunder
 refine wpAny_bind (call.at ?_)
 dsimp only
 rw [PySem.tc_bind]
 refine wpAny_bind (wpAny_pure (wpAny_bind (wpAny_pure ?_)))
 refine wpAny_pure (a:=Fin.again (.call (.builtin "type.__call__") ⟨.ref C :: rest,[]⟩)) (And.intro rfl ?_)
 refine codeAny_call_builtin_at (Code.quiet_builtin _ (by decide +kernel)) PySem.entry_typeCall (check_slot PySem.tc_kind PySem.tc_split typ (tc_args _ _ _) ?_)
 unfold Builtin.«type.__call__»
 repeat (first | with_reducible refine wpAny_ifN rfl ?_ | with_reducible refine wpAny_call ?_ | lk)
 refine fault_new X Y hrest ?_
 have k:∀ b o,h.get? b=some o→((h.push (tupO rest)).push (excObj C h.objs.size)).get? b=some o:=fun b o e=>Heap.get?_push_of_some _ (Heap.get?_push_of_some _ e)
 have hx:((h.push (tupO rest)).push (excObj C h.objs.size)).get? (h.objs.size + 1)=some (excObj C h.objs.size):=by heap_get
 have t1:Looks (model prog w) ((h.push (tupO rest)).push (excObj C h.objs.size)) (typeOf (.ref (h.objs.size + 1))) (.ref C):=(Looks.ld hx).andThen .now
 have s1:=self.keeps k
 have i1:=hi.keeps k
 have b1:=(bind_fn (M:=model prog w) X (.ref (h.objs.size + 1)) Y.t1).keeps k
 unfold isInstance callSpecial? specialOf
 repeat (first | with_reducible refine wpAny_call ?_ | lk)
 refine codeAny_mono hq fun r s' z=>?_
 rcases r with e | (v | _ | _ | _) <;> first | exact z | exact z.elim | skip
 obtain ⟨rfl,z⟩:=z
 exact wpAny_pure (wpAny_pure z)
set_option tactic.hygienic true in
theorem fstore {x:Addr} {mA:Str→Option Value} {name:Str} {v:Value} {ns:List Str} {E:Value→Shared→Prop} {Q:Unit→Shared→Prop} (X:K.In h) (Y:FK K C D f1 f2)
  (hsa:findIn K (.ref C) "__setattr__" = some (some (.builtin "object.__setattr__"))) (hna:findIn K (.ref C) name=some none) (I:h.Inst x C mA)
  (hq:∀ h' tk',t≤tk'→h'.Inst x C (fun y=>if y=name then some v else mA y) →
   (∀ b o,b≠x→(∀ o₀ dx,h.get? x=some o₀→o₀.dict=some dx→b≠dx)→h.get? b=some o→h'.get? b=some o) →
   (∀ o₀,h.get? x=some o₀→∃ o₁,h'.get? x=some o₁∧o₁.cls=o₀.cls∧o₁.data=o₀.data∧(∀ dx,o₀.dict=some dx→o₁.dict=some dx)∧(o₀.dict=none→o₁.dict=some h.objs.size))→Q () ⟨h',g,d,tk',os⟩) (hw:Within mA ns) (hsz:ns.length≤sizeLine) :
  wpAny (model prog w) A (setAttr (.ref x) name v) Q E ⟨h,g,d,t,os⟩:=by
 obtain ⟨o,hx,hc,hnc,hd⟩:=I
 have SF:=PySem.F.store_object
 have SE:=PySem.F.store_Exception
 have ty:Looks (model prog w) h (typeOf (.ref x)) (.ref C):=by
  rw [← hc]; exact (Looks.ld hx).andThen .now
 have hm:=mro_looks (M:=model prog w) X Y
 have sub:Looks (model prog w) h (isInstance (.ref x) (.type "object")) true:=ty.andThen (sub_looks X Y _ rfl)
 have l1:=looks_findIn (M:=model prog w) X hsa
 have l2:=looks_findIn (M:=model prog w) X hna
 obtain ⟨dd,cd,sl,ho,_,hdc,_⟩:=Y.objC
 have hC:=X _ _ ho
 have kt:∀ b o,h.get? b=some o→({ heap:=h,gens:=g,drawn:=d,toks:=t + 1,os:=os }:Shared).heap.get? b=some o:=fun b o e=>e
 refine wpAny_bind (wpAny_mkText (wpAny_bind (wpAny_bind (wpAny_bind (ty _ _ _ _ (fun _ _ e=>e) (l1 _ _ _ _ (fun _ _ e=>e) (wpAny_holding ?_)))))))
 rw [SF.slot.bind]
 refine wpAny_bind (wpAny_pure (wpAny_bind (wpAny_call ?_)))
 refine codeAny_call_builtin SF.slot.plain SF.entry (@check_slot (model prog w) _ _ _ "object.__setattr__" "object" "__setattr__" (.ref x) [.str name t,v] [] _ SF.kind SF.split sub (SF.args (.ref x) (.str name t) v) ?_)
 show wpAny _ _ (Builtin.«object.__setattr__» ⟨[.ref x,.str name t,v],[]⟩) _ _ _
 rw [osa_eq,refuse_eq]
 refine wpAny_bind (wpAny_bind (ty.here (wpAny_bind (hm.here ?_))))
 rw [refuseLoop_ref,refuseLoop_ref,SE.passes]
 refine wpAny_pure (wpAny_bind (ty.here (wpAny_bind (l2.here (wpAny_bind (wpAny_pure ?_))))))
 refine wpAny_bind (wpAny_pure (wpAny_bind (wpAny_bind (wpAny_loadPart hx ?_))))
 rw [hc]
 refine wpAny_bind (wpAny_bind (wpAny_load hC (wpAny_pure ?_)))
 dsimp only
 rw [hdc,if_neg (by decide)]
 rcases hd with ⟨hdn,hmA⟩ | ⟨dx,hdx,hne,hns⟩
 ·rw [hdn,if_neg (by simp [typeHasDict])]
  split
  ·rename_i hcd; cases hcd
  split
  ·rename_i c hcd; exact absurd hcd (hnc c)
  ·have hx₁:(h.push { cls:=.type "dict",data:=.dict #[] }).get? x=some o:=Heap.get?_push_of_some _ hx
   have hxs:x≠h.objs.size:=Nat.ne_of_lt (Heap.lt_size hx)
   refine wpAny_bind (wpAny_alloc ?_)
   refine wpAny_bind (wpAny_update hx₁ ?_)
   refine wpAny_pure ?_
   have hgd:((h.push { cls:=.type "dict",data:=.dict #[] }).update x fun o=>{ cls:=o.cls,dict:=some h.objs.size,data:=o.data,slots:=o.slots }).get? h.objs.size
     = some { cls:=.type "dict",data:=.dict #[] } :=
    (Heap.get?_update_ne _ _ _ _ hxs.symm).trans (Heap.get?_push_at rfl rfl)
   have hnd:((h.push { cls:=.type "dict",data:=.dict #[] }).update x fun o=>{ cls:=o.cls,dict:=some h.objs.size,data:=o.data,slots:=o.slots }).Ns h.objs.size (fun _=>none) :=
    ⟨_,#[],_,hgd,rfl,fun e he=>absurd he (by simp),fun _=>rfl⟩
   show wpAny _ _ (storeInDict h.objs.size (.str name t) name v) _ _ _
   unfold storeInDict newKeyGuard
   refine wpAny_bind (wpAny_pure (wpAny_bind (wpAny_nsSet1 (Heap.Ns1.of_empty hnd) fun h' hn' hs=>?_)))
   obtain ⟨oD,esD,epD,hoD,hdD,hcD⟩:=hn'.count (Within.cons name v Within.nil)
   refine wpAny_bind (wpAny_lookBehind hoD (by rw [hdD]; exact pastItsLine_dict (Nat.le_trans hcD (by rw [List.length_cons,List.length_nil,sizeLine_eq]; omega))) ?_)
   refine wpAny_pure (wpAny_pure (wpAny_pure ?_))
   have hx':h'.get? x=some { cls:=o.cls,dict:=some h.objs.size,data:=o.data,slots:=o.slots }:=?_
   refine hq h' _ (by show t≤t + 1 + 1; omega) ⟨{ cls:=o.cls,dict:=some h.objs.size,data:=o.data,slots:=o.slots },hx',hc,hnc,.inr ⟨h.objs.size,rfl,hxs.symm,?_⟩⟩ (fun b ob hbx _ hb=>?_)
    (fun o₀ h₀=>by obtain rfl:o=o₀:=Option.some.inj (hx.symm.trans h₀); exact ⟨_,hx',rfl,rfl,(fun dx e=>by rw [hdn] at e; cases e),fun _=>rfl⟩)
   ·obtain ⟨o',es,ep,e1,e2,e3,eu,e4⟩:=hn'
    exact ⟨o',es,ep,e1,e2,e3,eu,fun y=>by rw [e4 y]; by_cases hy:y=name <;> simp [hy,hmA]⟩
   ·exact (hs.2 b (Nat.ne_of_lt (Heap.lt_size hb))).trans ((Heap.get?_update_ne _ _ _ _ hbx).trans (Heap.get?_push_of_some _ hb))
   ·refine (hs.2 x hxs).trans (Heap.get?_update_self _ hx₁ ?_)
    have hfr:=(Heap.get?_some_iff.mp hx).2
    obtain ⟨oc,od,odt,osl⟩:=o
    cases odt <;> first | rfl | exact hfr
 ·rw [hdx]
  refine wpAny_pure ?_
  show wpAny _ _ (storeInDict dx (.str name t) name v) _ _ _
  unfold storeInDict newKeyGuard
  refine wpAny_bind (wpAny_pure (wpAny_bind (wpAny_nsSet1 hns fun h' hn' hs=>?_)))
  obtain ⟨oD,esD,epD,hoD,hdD,hcD⟩:=hn'.count (Within.cons name v hw)
  refine wpAny_bind (wpAny_lookBehind hoD (by rw [hdD]; exact pastItsLine_dict (Nat.le_trans hcD (by rw [List.length_cons]; omega))) ?_)
  refine wpAny_pure (wpAny_pure (wpAny_pure ?_))
  refine hq h' _ (by show t≤t + 1 + 1; omega) ⟨o,(hs.2 x hne.symm).trans hx,hc,hnc,.inr ⟨dx,hdx,hne,hn'⟩⟩ (fun b ob _ hbd hb=>?_)
   (fun o₀ h₀=>⟨o₀,(hs.2 x hne.symm).trans h₀,rfl,rfl,(fun _ e=>e),fun e=>?_⟩)
  ·exact (hs.2 b (hbd o dx hx hdx)).trans hb
  ·obtain rfl:o=o₀:=Option.some.inj (hx.symm.trans h₀)
   rw [hdx] at e; cases e
end
end Mine
end
section
set_option genSizeOf false
set_option genInjectivity false
set_option maxRecDepth 100000
open PySem PySem.W PyProof.Rows PySem.Calls Builtin Builtin.ObjectAttr
namespace Mine
structure InitFn (K:Frag) (f:Addr) (fd:FuncData) (ps:List Str) (body:List Stmt):Prop where
 obj:∃ o,K.lookup f=some o∧o.data=.func fd
 code:codeIn K fd.code fd.qualname=true
 body:fd.body=.stmts body
 co:fd.scope.isCoroutine=false
 gen:fd.scope.isGenerator=false
 kind:fd.scope.kind=.function
 cell:∀ x∈fd.scope.names,x.2≠.cell
 glob:fd.globals=mainGlobals
 blt:fd.builtins=builtinsNs
 loc:∀ x∈ps,fd.scope.names.lookup x=some .local
inductive Fn1 (K:Frag) (f1:Addr):Prop
 | mk (fd:FuncData) (p1 p2 p3 p4 p5 p6 p7 p8 p9 p10:Pos):InitFn K f1 fd ["self","at","text"] [.Expr (.Call (.Attribute (.Name "F77Error" p1) "__init__" p2) [.Name "self" p3,.Name "text" p4] [] p5) p6,.Assign [.Attribute (.Name "self" p7) "at" p8] (.Name "at" p9) p10] →
  p2.endLine=p5.line→fd.scope.names.lookup ("F77Error" : Str)=some .globalImplicit→(∀ a b c,bindArgs fd ⟨[a,b,c],[]⟩=pure [(("self" : Str),a),(("at" : Str),b),(("text" : Str),c)])→Fn1 K f1
inductive Fn2 (K:Frag) (f2:Addr):Prop
 | mk (fd:FuncData) (p1 p2 p3 p4 p5 p6 p7 p8 p9 p10:Pos):InitFn K f2 fd ["self","text"] [.Expr (.Call (.Attribute (.Name "Exception" p1) "__init__" p2) [.Name "self" p3,.Name "text" p4] [] p5) p6,.Assign [.Attribute (.Name "self" p7) "text" p8] (.Name "text" p9) p10] →
  p2.endLine=p5.line→fd.scope.names.lookup ("Exception" : Str)=some .globalImplicit→(∀ a b,bindArgs fd ⟨[a,b],[]⟩=pure [(("self" : Str),a),(("text" : Str),b)])→Fn2 K f2
structure FZ (K:Frag) (C D f1 f2:Addr):Prop extends FK K C D f1 f2 where
 sa:findIn K (.ref C) "__setattr__" = some (some (.builtin "object.__setattr__"))
 atT:findIn K (.ref C) "text" = some none
 atA:findIn K (.ref C) "at" = some none
 exi:findCls K (.type "Exception") (.type "type") "__init__" = some (.val (.builtin "Exception.__init__"))
 rdD:readsIn K D (.type "type")=true
 fiD:findCls K (.ref D) (.type "type") "__init__" = some (.val (.ref f2))
 fn1:Fn1 K f1
 fn2:Fn2 K f2
inductive EObj (hb h:Heap) (C e:Addr):Prop
 | mk (oe:Obj) (vs:Array Value) (a0:Value):h.get? e=some oe→oe.cls=.ref C→oe.data=.fields vs→vs[0]?=some a0→vs[1]?=some .none→(∀ dx,oe.dict=some dx→hb.get? dx=none)→EObj hb h C e
structure EI (hb h:Heap) (C e:Addr) (mA:Str→Option Value):Prop where
 keep:∀ b o,hb.get? b=some o→h.get? b=some o
 new:hb.get? e=none
 inst:h.Inst e C mA
 obj:EObj hb h C e
theorem EI.keeps {hb h h':Heap} {C e:Addr} {mA:Str→Option Value} (x:EI hb h C e mA) (k:∀ b o,h.get? b=some o→h'.get? b=some o):EI hb h' C e mA:=by
 obtain ⟨o,ho,hc,hn,hd⟩:=x.inst
 obtain ⟨oe,vs,a0,h1,h2,h3,h4,h5,h6⟩:=x.obj
 refine ⟨fun b o e=>k _ _ (x.keep b o e),x.new,⟨o,k _ _ ho,hc,hn,hd.imp id ?_⟩,⟨oe,vs,a0,k _ _ h1,h2,h3,h4,h5,h6⟩⟩
 rintro ⟨d,e1,e2,o',es,ep,e3,r⟩
 exact ⟨d,e1,e2,o',es,ep,k _ _ e3,r⟩
section
variable {prog:Program} {w:World} {A:Around} {K:Frag} {C D f1 f2:Addr} {hb:Heap} {s:Shared}
theorem EI.store {E:Value→Shared→Prop} {e:Addr} {mA:Str→Option Value} {name:Str} {v:Value} {ns:List Str} {Q:Unit→Shared→Prop} (Y:FZ K C D f1 f2) (Xb:K.In hb) (I:EI hb s.heap C e mA) (hna:findIn K (.ref C) name=some none) (hw:Within mA ns) (hsz:ns.length≤10)
  (hq:∀ h' tk,s.toks≤tk→EI hb h' C e (fun y=>if y=name then some v else mA y)→(∀ b o,b≠e→(∀ o₀ dx,s.heap.get? e=some o₀→o₀.dict=some dx→b≠dx)→s.heap.get? b=some o→h'.get? b=some o)→Q () (sU s h' tk)) :
  wpAny (model prog w) A (setAttr (.ref e) name v) Q E s:=by
 obtain ⟨h,g,d,t,os⟩:=s
 have X:K.In h:=Xb.keeps I.keep
 refine fstore X Y.toFK Y.sa hna I.inst (fun h' tk ht I' hk hs=>hq h' tk ht ?_ hk) hw (by rw [sizeLine_eq]; omega)
 obtain ⟨oe,vs,a0,h1,h2,h3,h4,h5,h6⟩:=I.obj
 obtain ⟨o1,g1,g2,g3,g4,g5⟩:=hs oe h1
 refine ⟨fun b o q=>hk b o (fun z=>?_) (fun o₀ dx q1 q2 z=>?_) (I.keep b o q),I.new,I',o1,vs,a0,g1,g2.trans h2,g3.trans h3,h4,h5,fun dx q=>?_⟩
 ·subst z; rw [I.new] at q; cases q
 ·subst z
  rw [h1] at q1; cases q1
  rw [h6 _ q2] at q; cases q
 ·cases hd:oe.dict with
  | none =>
   rw [g5 hd] at q
   cases q
   cases z:hb.get? h.objs.size with
   | none=>rfl
   | some o=>exact absurd (Heap.lt_size (I.keep _ _ z)) (Nat.lt_irrefl _)
  | some dy =>
   rw [g4 dy hd] at q
   cases q
   exact h6 dx hd
theorem mf_same (f:Array Value→Array Value) (o:Obj):(Obj.mapFields f o).cls=o.cls∧(Obj.mapFields f o).dict=o.dict:=by
 obtain ⟨oc,od,odt,osl⟩:=o
 cases odt <;> exact ⟨rfl,rfl⟩
theorem exc_init {E:Value→Shared→Prop} {e:Addr} {mA:Str→Option Value} {v:Value} {Q:Value→Shared→Prop} (Y:FZ K C D f1 f2) (Xb:K.In hb) (I:EI hb s.heap C e mA)
  (hq:∀ h',EI hb h' C e mA→(∀ b o,b≠e→s.heap.get? b=some o→h'.get? b=some o)→(∀ oe oe',s.heap.get? e=some oe→h'.get? e=some oe'→oe'.dict=oe.dict)→Q .none { s with heap:=h' }) :
  wpAny (model prog w) A (PySem.call (.builtin "Exception.__init__") [.ref e,v]) Q E s:=by
 have F:=PySem.F.excBase_Exception
 have hshort:=F.noStar
 obtain ⟨h,g,d,t,os⟩:=s
 have X:K.In h:=Xb.keeps I.keep
 obtain ⟨oe,vs,a0,h1,h2,h3,h4,h5,h6⟩:=I.obj
 have ty:Looks (model prog w) h (typeOf (.ref e)) (.ref C):=by
  rw [← h2]; exact (Looks.ld h1).andThen .now
 have sub:=sub_looks (M:=model prog w) X Y.toFK (.type "Exception") (b:=true) rfl
 obtain ⟨dd,cd,sl,ho,_⟩:=Y.objC
 have hC:=X _ _ ho
 refine wpAny_call (codeAny_call_builtin F.init.plain F.initEntry ?_)
 simp only [checkBuiltinCall,F.initKind,F.initSplit,F.initRow]
 unfold isInstance
 repeat (first | with_reducible refine wpAny_ifB ?_ | with_reducible refine wpAny_ifN rfl ?_ | lk)
 have h1':(h.push { cls:=Value.type "tuple",data:=Data.seq #[v] }).get? e=some oe:=Heap.get?_push_of_some _ h1
 refine nd_load h1' (nd_pure ?_)
 rw [h3]
 refine wpAny_pure ?_
 rw [h4]
 have hz1:1 < vs.size:=(Array.getElem?_eq_some_iff.mp h5).1
 refine wpAny_pure (wpAny_bind (wpAny_setField h1' h3 (by omega) ?_))
 have fin:∀ {A':Around},Q .none ⟨(h.push { cls:=Value.type "tuple",data:=Data.seq #[v] }).update e (Obj.mapFields (·.setIfInBounds 0 (.ref h.objs.size))),g,d,t,os⟩:=by
  intro A'
  have hself:=Heap.get?_update_self (Obj.mapFields (·.setIfInBounds 0 (.ref h.objs.size))) h1' (Obj.isFreed_of_fields (Obj.data_mapFields h3 _))
  have oth:∀ b o,b≠e→h.get? b=some o→((h.push { cls:=Value.type "tuple",data:=Data.seq #[v] }).update e (Obj.mapFields (·.setIfInBounds 0 (.ref h.objs.size)))).get? b=some o:=fun b o hbe q =>
   (Heap.get?_update_other _ _ (Ne.symm hbe)).trans (Heap.get?_push_of_some _ q)
  refine hq _ ⟨fun b o q=>oth b o (fun z=>by subst z; rw [I.new] at q; cases q) (I.keep b o q),I.new,?_,_,_,.ref h.objs.size,hself,?_,Obj.data_mapFields h3 _,Array.getElem?_setIfInBounds_self_of_lt (by omega),(Array.getElem?_setIfInBounds_ne (by decide)).trans h5,fun dx q=>h6 dx ?_⟩ oth (fun o1 o2 q1 q2=>?_)
  ·obtain ⟨o',g1,g2,g3,g4⟩:=I.inst
   rw [h1] at g1; cases g1
   refine ⟨_,hself,?_,fun c q=>?_,?_⟩
   ·exact (mf_same _ oe).1.trans h2
   ·rw [Obj.data_mapFields h3 _] at q; cases q
   ·rw [(mf_same _ oe).2]
    refine g4.imp id ?_
    rintro ⟨d',e1,e2,o',es,ep,e3,r⟩
    exact ⟨d',e1,e2,o',es,ep,oth d' o' e2 e3,r⟩
  ·exact (mf_same _ oe).1.trans h2
  ·exact (mf_same _ oe).2.symm.trans q
  ·rw [hself] at q2
   have q1':h.get? e=some o1:=q1
   rw [h1] at q1'
   cases q1'; cases q2
   exact (mf_same _ oe).2
 cases a0 <;> first | exact wpAny_letGo (wpAny_pure (fin (A':=A))) | exact wpAny_pure (wpAny_pure (fin (A':=A)))
theorem lk2 (a b:Value):(fun x:Str=>([(("self" : Str),a),(("text" : Str),b)]:List (Str × Value)).reverse.lookup x) "self" = some a∧(fun x:Str=>([(("self" : Str),a),(("text" : Str),b)]:List (Str × Value)).reverse.lookup x) "text" = some b:=⟨by kernel_rfl,by kernel_rfl⟩
theorem lk3 (a b c:Value):(fun x:Str=>([(("self" : Str),a),(("at" : Str),b),(("text" : Str),c)]:List (Str × Value)).reverse.lookup x) "self" = some a ∧
  (fun x:Str=>([(("self" : Str),a),(("at" : Str),b),(("text" : Str),c)]:List (Str × Value)).reverse.lookup x) "at" = some b∧(fun x:Str=>([(("self" : Str),a),(("at" : Str),b),(("text" : Str),c)]:List (Str × Value)).reverse.lookup x) "text" = some c:=⟨by kernel_rfl,by kernel_rfl,by kernel_rfl⟩
structure FG (hb:Heap) (C D:Addr) where
 mg:Str→Option Value
 mb:Str→Option Value
 g:hb.Ns mainGlobals mg
 b:hb.Ns builtinsNs mb
 nolimit:hb.NoLimit
 exc:mg "Exception" = none∧mb "Exception" = some (.type "Exception")
 cD:mg "F77Error" = some (.ref D)
theorem init2 {E:Value→Shared→Prop} {e:Addr} {mA:Str→Option Value} {v:Value} {Q:Value→Shared→Prop} (Y:FZ K C D f1 f2) (Xb:K.In hb) (G:FG hb C D) (hroom:A.depth < recursionLimit) (I:EI hb s.heap C e mA) (hw:Within mA []) (hnd:∀ oe,s.heap.get? e=some oe→oe.dict=none)
  (hq:∀ h' tk,s.toks≤tk→EI hb h' C e (fun y=>if y="text" then some v else mA y)→(∀ b o,b≠e→s.heap.get? b=some o→h'.get? b=some o)→Q .none (sU s h' tk)) :
  wpAny (model prog w) A (PySem.call (.ref f2) [.ref e,v]) Q E s:=by
 obtain ⟨fd,p1,p2,p3,p4,p5,p6,p7,p8,p9,p10,F,hp,hx,hbind⟩:=Y.fn2
 obtain ⟨o,ho,hd⟩:=F.obj
 have X:K.In s.heap:=Xb.keeps I.keep
 have hl1:=F.loc "self" (by simp)
 have hl2:=F.loc "text" (by simp)
 obtain ⟨oe,vs,a0,he,_⟩:=I.obj
 have hlt:=Heap.lt_size he
 refine wpAny_call (codeAny_call_def hroom (X _ _ ho) hd (G.nolimit.keeps I.keep) (codeRec_of X F.code) F.body (.of_eq (hbind _ _)) F.cell (fun x hx=>?_) (fun h₀ hns hk=>?_) F.co F.gen F.kind)
 ·simp only [List.mem_cons,List.not_mem_nil,or_false] at hx
  rcases hx with rfl | rfl
  ·exact hl1
  ·exact hl2
 have hk':(callEnv fd s.heap.objs.size f2).scope.kind=.function:=F.kind
 have F0:Fr s.heap s.heap.objs.size h₀ (fun x=>([(("self" : Str),Value.ref e),(("text" : Str),v)]:List (Str × Value)).reverse.lookup x):=⟨hns,hk,Nat.le_refl _⟩
 have I0:EI hb h₀ C e mA:=I.keeps hk
 have hint:interactive (callEnv fd s.heap.objs.size f2)=false:=by
  unfold interactive; rw [hk']; rfl
 refine wpAny_execs_cons (wpAny_Expr (MethodC (beq_iff_eq.mpr hp) rfl fun pl=>?_) hint)
 refine Name_function_global hk' hx (loadGlobal_builtin (mg:=G.mg) (mb:=G.mb) ?_ G.exc.1 ?_ G.exc.2 ?_) (by decide +kernel)
 ·show h₀.Ns fd.globals G.mg
  rw [F.glob]; exact (G.g.keeps I.keep).keeps hk
 ·show h₀.Ns fd.builtins G.mb
  rw [F.blt]; exact (G.b.keeps I.keep).keeps hk
 refine method_type F0 X (by kernel_rfl) (by decide +kernel) Y.exi (by decide +kernel) ?_
 refine callWith_builtin rfl (evalArgs_plain (args_cons (wpAny_Name (wpAny_loadName_local hk' hl1 hns (lk2 _ _).1 (args_cons (wpAny_Name (wpAny_loadName_local hk' hl2 hns (lk2 _ _).2 (args_nil ?_)) (by decide +kernel)))) (by decide +kernel))))
 refine exc_init Y Xb I0 fun h1 I1 hk1 hd1=>?_
 have hns1:=ns_keep hns fun o q=>hk1 s.heap.objs.size o (Nat.ne_of_gt hlt) q
 refine wpAny_execs_cons (plainObj_wpAny_Assign_Attribute (wpAny_Name (wpAny_loadName_local hk' hl2 hns1 (lk2 _ _).2 (wpAny_Name (wpAny_loadName_local hk' hl1 hns1 (lk2 _ _).1 ?_) (by decide +kernel))) (by decide +kernel)))
 refine EI.store Y Xb I1 Y.atT hw (by simp) fun h2 tk ht I2 hk2=>wpAny_execs_nil ?_
 refine hq h2 tk (Nat.le_trans ?_ ht) I2 fun b o hb q=>hk2 b o hb (fun o₀ dx q1 q2=>?_) (hk1 b o hb (hk b o q))
 ·show s.toks≤s.toks + _ + _; omega
 ·rw [hd1 _ o₀ (hk _ _ he) q1,hnd oe he] at q2; cases q2
theorem init1 {R:Result→Shared→Prop} {e:Addr} {u v:Value} (Y:FZ K C D f1 f2) (Xb:K.In hb) (G:FG hb C D) (hroom:A.depth + 1 < recursionLimit) (I:EI hb s.heap C e fun _=>none) (hnd:∀ oe,s.heap.get? e=some oe→oe.dict=none)
  (hq:∀ h' tk mA,s.toks≤tk→EI hb h' C e mA→R (.ok (.ret .none)) (sU s h' tk)) :
  codeAny (model prog w) A (.call (.ref f1) ⟨[.ref e,u,v],[]⟩) R s:=by
 obtain ⟨fd,p1,p2,p3,p4,p5,p6,p7,p8,p9,p10,F,hp,hx,hbind⟩:=Y.fn1
 obtain ⟨o,ho,hd⟩:=F.obj
 have X:K.In s.heap:=Xb.keeps I.keep
 have hl1:=F.loc "self" (by simp)
 have hl2:=F.loc "at" (by simp)
 have hl3:=F.loc "text" (by simp)
 obtain ⟨oe,vs,a0,he,_⟩:=I.obj
 have hlt:=Heap.lt_size he
 refine codeAny_call_def (by omega) (X _ _ ho) hd (G.nolimit.keeps I.keep) (codeRec_of X F.code) F.body (.of_eq (hbind _ _ _)) F.cell (fun x hx=>?_) (fun h₀ hns hk=>?_) F.co F.gen F.kind
 ·simp only [List.mem_cons,List.not_mem_nil,or_false] at hx
  rcases hx with rfl | rfl | rfl
  ·exact hl1
  ·exact hl2
  ·exact hl3
 have hk':(callEnv fd s.heap.objs.size f1).scope.kind=.function:=F.kind
 have I0:EI hb h₀ C e (fun _=>none):=I.keeps hk
 have X0:K.In h₀:=X.keeps hk
 have hint:interactive (callEnv fd s.heap.objs.size f1)=false:=by
  unfold interactive; rw [hk']; rfl
 have lk:=lk3 (.ref e) u v
 obtain ⟨fd2,_,_,_,_,_,_,_,_,_,_,F2,_⟩:=Y.fn2
 obtain ⟨o2,ho2,hd2⟩:=F2.obj
 refine wpAny_execs_cons (wpAny_Expr (MethodC (beq_iff_eq.mpr hp) rfl fun pl=>?_) hint)
 refine Name_function_global hk' hx (loadGlobal_global (mg:=G.mg) ?_ G.cD ?_) (by decide +kernel)
 ·show h₀.Ns fd.globals G.mg
  rw [F.glob]; exact (G.g.keeps I.keep).keeps hk
 refine method_cls X0 ?_ (cls_value X0 Y.rdD Y.fiD rfl ?_)
 ·have:=Y.rdD
  simp only [readsIn,Bool.and_eq_true,beq_iff_eq] at this
  unfold specialIn
  rw [this.1.1.1.2]
  exact this.1.1.2
 refine callWith_function (o:=o2) (fd:=fd2) (evalArgs_plain (args_cons (wpAny_Name (wpAny_loadName_local hk' hl1 hns lk.1 (args_cons (wpAny_Name (wpAny_loadName_local hk' hl3 hns lk.2.2 (args_nil ⟨⟨X0 _ _ ho2,hd2⟩,?_⟩)) (by decide +kernel)))) (by decide +kernel))))
 refine init2 Y Xb G (by show A.depth + 1 < _; omega) I0 .nil (fun oe' q=>?_) fun h1 tk1 ht1 I1 hk1=>?_
 ·have q':h₀.get? e=some oe':=q
  rw [hk _ _ he] at q'; cases q'
  exact hnd oe he
 have hns1:=ns_keep hns fun o q=>hk1 s.heap.objs.size o (Nat.ne_of_gt hlt) q
 refine wpAny_execs_cons (plainObj_wpAny_Assign_Attribute (wpAny_Name (wpAny_loadName_local hk' hl2 hns1 lk.2.1 (wpAny_Name (wpAny_loadName_local hk' hl1 hns1 lk.1 ?_) (by decide +kernel))) (by decide +kernel)))
 refine EI.store Y Xb I1 Y.atA (Within.cons _ _ .nil) (by simp) fun h2 tk2 ht2 I2 hk2=>wpAny_execs_nil ?_
 exact hq h2 tk2 _ (Nat.le_trans (Nat.le_trans (show s.toks≤s.toks + _ + _ by omega) ht1) ht2) I2
end
end Mine
end
section
set_option maxRecDepth 100000
open PySem PySem.W PyProof.Rows PySem.Calls
namespace Mine
section
variable {prog:Program} {w:World} {K:Frag} {b0:Heap} {C D f1 f2:Addr}
theorem clsSnd (Y:FZ K C D f1 f2) (Xb:K.In b0):ClsSnd prog w b0 (.ref C):=by
 intro A s pos T args Q E hplain h
 have hk:keepIn K (.ref C)=true:=by
  obtain ⟨dd,cd,sl,ho,_⟩:=Y.objC
  unfold keepIn
  simp only [ho]
  rw [Y.call]; rfl
 refine callWith_of (P:=b0.StaysIn) (by simpa using hplain) (fun h k=>keeps_K hk h (fun a o e=>k a o (Xb a o e))) (evalArgs_plain h)
theorem raise_now {A:Around} {env:Env} {s:Shared} {e:Addr} {a0:Value} {oe:Obj} {vs:Array Value} {Q:Flow→Shared→Prop} {E:Value→Shared→Prop} (Y:FZ K C D f1 f2) (X:K.In s.heap) (hh:A.handled=none)
  (h1:s.heap.get? e=some oe) (h2:oe.cls=.ref C) (h3:oe.data=.fields vs) (h4:vs[0]?=some a0) (h5:vs[1]?=some .none) (k:E (.ref e) s):wpAny (model prog w) A (raiseStmt env (some (pure (.ref e))) none) Q E s:=by
 obtain ⟨h,g,d,t,os⟩:=s
 have ty:Looks (model prog w) h (typeOf (.ref e)) (.ref C):=by
  rw [← h2]; exact (Looks.ld h1).andThen .now
 have sub:=sub_looks (M:=model prog w) X Y.toFK (.type "BaseException") (b:=true) (by simp)
 obtain ⟨dd,cd,sl,ho,_⟩:=Y.objC
 have hC:=X _ _ ho
 have tyC:Looks (model prog w) h (typeOf (.ref C)) (.type "type"):=(Looks.ld hC).andThen .now
 have nt:Looks (model prog w) h (isType (.ref e)) false:=(Looks.ld h1).andThen (by rw [h3]; exact .now)
 have f1:=looks_field (M:=model prog w) (p:=e) (c:=oe.cls) (d:=oe.dict) (sl:=oe.slots) (vs:=vs) (by rw [h1,← h3]) 1 h5
 unfold raiseStmt
 dsimp only
 unfold excFromValue isExcClass raisedInstance isInstance setFlight
 repeat (first | simp only [Bool.false_eq_true,if_false,if_true,bne_self_eq_false] | lk)
 refine wpAny_handled ?_
 rw [hh]
 exact wpAny_throw k
theorem raiseSnd (Y:FZ K C D f1 f2) (Xb:K.In b0) (G:FG b0 C D):RaiseSnd prog w b0 (.ref C):=by
 intro c A s σ H env i t u x Q E hb hC hne au ht X hx k
 subst hb
 have Xs:K.In s.heap:=fun a o e=>X.stays a o (Xb a o e)
 have Gs:FG s.heap C D:=⟨G.mg,G.mb,G.g.keeps X.stays,G.b.keeps X.stays,G.nolimit.keeps X.stays,G.exc,G.cD⟩
 obtain ⟨h,g,d,tk,os⟩:=s
 refine wpAny_call (fault_core Xs Y.toFK (by rw [sizeLine_eq]; simp) ?_)
 have hnew:h.get? (h.objs.size + 1)=none:=size_none _ (by omega)
 have hget:((h.push (tupO [.int i t,.str x u])).push (excObj C h.objs.size)).get? (h.objs.size + 1)=some (excObj C h.objs.size):=by heap_get
 have hdep:(A.under (.builtin "type.__call__" ⟨[.ref C,.int i t,.str x u],[]⟩)).depth=A.depth + 1:=depth_under_make ..
 have I0:EI h ((h.push (tupO [.int i t,.str x u])).push (excObj C h.objs.size)) C (h.objs.size + 1) fun _=>none:=by
  refine ⟨fun b o e=>Heap.get?_push_of_some _ (Heap.get?_push_of_some _ e),hnew,⟨_,hget,rfl,fun c q=>?_,.inl ⟨rfl,fun _=>rfl⟩⟩,_,_,_,hget,rfl,rfl,rfl,rfl,fun dx q=>?_⟩
  ·cases q
  ·cases q
 refine init1 (hb:=h) (s:=⟨(h.push (tupO [.int i t,.str x u])).push (excObj C h.objs.size),g,d,tk,os⟩) Y Xs Gs (by rw [hdep]; have:=au.depth; omega) I0 (fun oe q=>?_) fun h' tk' mA ht' I=>?_
 ·have q':((h.push (tupO [.int i t,.str x u])).push (excObj C h.objs.size)).get? (h.objs.size + 1)=some oe:=q
  rw [hget] at q'; cases q'; rfl
 refine ⟨rfl,?_⟩
 obtain ⟨oe,vs,a0,h1,h2,h3,h4,h5,h6⟩:=I.obj
 have gr:Grow c.base h h':=grow_keeps X.stays I.keep
 refine raise_now (s:=⟨h',g,d,tk',os⟩) Y (Xs.keeps I.keep) au.handled h1 h2 h3 h4 h5 ?_
 refine k _ h' tk' (X.grow gr) (gr.adv σ H) ⟨hnew,base_none X hnew,oe,vs,a0,h1,h2.trans hC.symm,h3,h4,.inl h5⟩
theorem catchSnd (Y:FZ K C D f1 f2) (Xb:K.In b0):CatchSnd prog w b0 (.ref C):=by
 intro c A s σ σ0 H H0 h0 O env e t hpos rpos kpos k Q E hb hC hne au X a1 hx ht kq
 subst hb
 have Xs:K.In s.heap:=fun a o e=>X.stays a o (Xb a o e)
 have hx':=hx
 obtain ⟨hn,hbn,oe,vs,a0,T,oT,ts,h1,h2,h3,_⟩:=hx
 refine wpAny_handleBy_cons (codeAny_handlers_test (ht _ s _ _ X ?_)) (by intro q; cases q)
 obtain ⟨h,g,d,tk,os⟩:=s
 have ty:Looks (model prog w) h (typeOf (.ref e)) (.ref C):=by
  rw [← hC,← h2]; exact (Looks.ld h1).andThen .now
 have sub:=sub_looks (M:=model prog w) Xs Y.toFK (.type "BaseException") (b:=true) (by simp)
 have sub2:=sub_looks (M:=model prog w) Xs Y.toFK (.ref C) (b:=true) (by simp)
 obtain ⟨dd,cd,sl,ho,_⟩:=Y.objC
 have hCo:=Xs _ _ ho
 have tyC:Looks (model prog w) h (typeOf (.ref C)) (.type "type"):=(Looks.ld hCo).andThen .now
 have f:=PySem.tc_notTuple
 have nt:Looks (model prog w) h (isInstance (.ref C) (.type "tuple")) false:=tyC.andThen (Looks.of_pure f)
 unfold excMatches isExcClass
 repeat (first | simp only [Bool.false_eq_true,if_false,if_true,Bool.not_true,List.forIn_cons] | lk)
 refine codeAny_handlers_suite ?_
 refine exc_fly (s:=⟨h,g,d,tk,os⟩) none X a1 hx' fun h' X' a' x'=>?_
 exact wpAny_execs_cons (wpAny_Return_some (Constant_none (kq h' tk X' a')))
end
end Mine
end
section
set_option maxRecDepth 100000
open PySem PySem.W PyProof.Rows PySem.Calls
namespace Mine
theorem lookup_zip:∀ {ns:List Str} {vs:List Value},ns.Nodup→∀ (i:Nat) (n:Str) (v:Value),ns[i]?=some n→vs[i]?=some v→(ns.zip vs).lookup n=some v
 | [],_,_,i,n,v,h,_=>by simp at h
 | _ :: _,[],_,i,n,v,_,h=>by simp at h
 | a :: ns,b :: vs,_,0,n,v,h1,h2=>by
  simp at h1 h2; subst h1; subst h2
  simp [List.lookup]
 | a :: ns,b :: vs,hd,i + 1,n,v,h1,h2=>by
  simp only [List.getElem?_cons_succ] at h1 h2
  obtain ⟨q1,q2⟩:=List.nodup_cons.mp hd
  have hne:(n==a)=false:=by
   rw [beq_eq_false_iff_ne]
   rintro rfl
   exact q1 (List.mem_of_getElem? h1)
  rw [List.zip_cons_cons,List.lookup_cons,hne]
  exact lookup_zip q2 i n v h1 h2
theorem filterMap_zip {ns:List Str} {vs:List Value} (hd:ns.Nodup) (hl:vs.length=ns.length):ns.filterMap (fun n=>((ns.zip vs).lookup n).map (n,·))=ns.zip vs:=by
 have:∀ (l:List (Str × Value)),(∀ p∈l,(ns.zip vs).lookup p.1=some p.2)→(l.map (·.1)).filterMap (fun n=>((ns.zip vs).lookup n).map (n,·))=l:=by
  intro l
  induction l with
  | nil=>intro _; rfl
  | cons p l ih =>
   intro h
   rw [List.map_cons,List.filterMap_cons,h p List.mem_cons_self]
   simp only [Option.map_some]
   rw [ih fun q hq=>h q (List.mem_cons_of_mem _ hq)]
 have h1:(ns.zip vs).map (·.1)=ns:=by
  rw [← List.unzip_fst,List.unzip_zip_left (by omega)]
 conv=>lhs; arg 2; rw [← h1]
 refine this _ fun p hp=>?_
 obtain ⟨i,hi⟩:=List.getElem?_of_mem hp
 rw [List.getElem?_zip_eq_some] at hi
 exact lookup_zip hd i _ _ hi.1 hi.2
theorem binds_plain {fd:FuncData} {vs:List Value} (h1:fd.params.posonlyargs=[]) (h2:fd.params.vararg=none) (h3:fd.params.kwonlyargs=[]) (h4:fd.params.kwarg=none) (h5:fd.defaults=.none)
  (hd:(fd.params.args.map (·.arg)).Nodup) (hl:vs.length=(fd.params.args.map (·.arg)).length):bindArgs fd ⟨vs,[]⟩=pure ((fd.params.args.map (·.arg)).zip vs):=by
 have hf:=filterMap_zip hd hl
 have hmiss:(fd.params.args.map (·.arg)).filter (fun n=>(((fd.params.args.map (·.arg)).zip vs).lookup n).isNone)=[]:=by
  rw [List.filter_eq_nil_iff]
  intro n hn
  obtain ⟨i,hi⟩:=List.getElem?_of_mem hn
  have hlt:=(List.getElem?_eq_some_iff.mp hi).1
  rw [lookup_zip hd i n vs[i] hi (by rw [List.getElem?_eq_getElem])]
  simp
 obtain ⟨_,_,⟨po,as,va,ko,_,kw,_⟩,_,_,_,_,df,_,_,_,_,_,_⟩:=fd
 obtain rfl:po=[]:=h1
 obtain rfl:va=none:=h2
 obtain rfl:ko=[]:=h3
 obtain rfl:kw=none:=h4
 obtain rfl:df=.none:=h5
 have hA:¬ (decide (vs.length > (as.map (·.arg)).length)&&true)=true:=by rw [hl]; simp
 refine Eq.trans (Eq.trans (b:=if (decide (vs.length > (as.map (·.arg)).length)&&true)=true then _ else _) rfl (if_neg hA)) ?_
 have hB:¬ (!((List.take ((as.map (·.arg)).length - (List.drop (([]:List Value).length - (as.map (·.arg)).length) ([]:List Value)).length) (as.map (·.arg))).filter (fun n=>(((as.map (·.arg)).zip vs).lookup n).isNone)).isEmpty)=true:=by
  rw [List.drop_nil,List.length_nil,Nat.sub_zero,List.take_length,hmiss]; decide
 refine Eq.trans (Eq.trans (b:=if (!((List.take ((as.map (·.arg)).length - (List.drop (([]:List Value).length - (as.map (·.arg)).length) ([]:List Value)).length) (as.map (·.arg))).filter (fun n=>(((as.map (·.arg)).zip vs).lookup n).isNone)).isEmpty)=true then _ else _) rfl (if_neg hB)) ?_
 have hz:∀ l:List Str,List.zip l (List.drop (([]:List Value).length - (as.map (·.arg)).length) ([]:List Value))=[]:=fun l=>by rw [List.drop_nil,List.zip_nil_right]
 refine (congrArg (fun l=>forIn (m:=Sem) l _ _ >>= _) (hz _)).trans ?_
 refine (congrArg (fun l:List Str=>pure (f:=Sem) (l.filterMap fun n=>(((as.map fun a:Arg=>a.arg).zip vs).lookup n).map (n,·))) (List.append_nil (as.map fun a:Arg=>a.arg))).trans ?_
 exact congrArg pure hf
theorem bindL_skip (kd:Str→Option NameKind) {x:Str}:∀ {l:List (Str × Value)} {m:Str→Option Value},(∀ p∈l,p.1≠x)→bindL kd l m x=m x
 | [],_,_=>rfl
 | (n,v) :: r,m,h=>by
  unfold bindL
  rw [bindL_skip kd fun p hp=>h p (List.mem_cons_of_mem _ hp)]
  split
  ·exact if_neg (fun z=>h (n,v) List.mem_cons_self z.symm)
  ·rfl
theorem bindC_skip (kd:Str→Option NameKind) {x:Str}:∀ {l:List (Str × Value)} {m:Str→Option Value},(∀ p∈l,p.1≠x)→bindC kd l m x=m x
 | [],_,_=>rfl
 | (n,v) :: r,m,h=>by
  unfold bindC
  rw [bindC_skip kd fun p hp=>h p (List.mem_cons_of_mem _ hp)]
  split
  ·rfl
  ·exact if_neg (fun z=>h (n,v) List.mem_cons_self z.symm)
theorem zip_fst_mem {ns:List Str} {vs:List Value} {p:Str × Value} (h:p∈ns.zip vs):p.1∈ns:=(List.of_mem_zip (a:=p.1) (b:=p.2) h).1
theorem bindL_zip (kd:Str→Option NameKind):∀ {ns:List Str} {vs:List Value} {m:Str→Option Value} {i:Nat} {n:Str} {v:Value},ns.Nodup→ns[i]?=some n→vs[i]?=some v→kd n=some .local→bindL kd (ns.zip vs) m n=some v
 | [],_,_,i,n,v,_,h,_,_=>by simp at h
 | _ :: _,[],_,i,n,v,_,_,h,_=>by simp at h
 | a :: ns,b :: vs,m,0,n,v,hd,h1,h2,hk=>by
  simp at h1 h2; subst h1; subst h2
  rw [List.zip_cons_cons]
  unfold bindL
  rw [if_pos hk,bindL_skip kd (x:=a) fun p hp z=>(List.nodup_cons.mp hd).1 (by rw [← z]; exact zip_fst_mem hp)]
  exact if_pos rfl
 | a :: ns,b :: vs,m,i + 1,n,v,hd,h1,h2,hk=>by
  rw [List.zip_cons_cons]
  unfold bindL
  exact bindL_zip kd (List.nodup_cons.mp hd).2 (by simpa using h1) (by simpa using h2) hk
theorem bindC_zip (kd:Str→Option NameKind):∀ {ns:List Str} {vs:List Value} {m:Str→Option Value} {i:Nat} {n:Str} {v:Value},ns.Nodup→ns[i]?=some n→vs[i]?=some v→kd n≠some .local→bindC kd (ns.zip vs) m n=some v
 | [],_,_,i,n,v,_,h,_,_=>by simp at h
 | _ :: _,[],_,i,n,v,_,_,h,_=>by simp at h
 | a :: ns,b :: vs,m,0,n,v,hd,h1,h2,hk=>by
  simp at h1 h2; subst h1; subst h2
  rw [List.zip_cons_cons]
  unfold bindC
  rw [if_neg hk,bindC_skip kd (x:=a) fun p hp z=>(List.nodup_cons.mp hd).1 (by rw [← z]; exact zip_fst_mem hp)]
  exact if_pos rfl
 | a :: ns,b :: vs,m,i + 1,n,v,hd,h1,h2,hk=>by
  rw [List.zip_cons_cons]
  unfold bindC
  exact bindC_zip kd (List.nodup_cons.mp hd).2 (by simpa using h1) (by simpa using h2) hk
set_option tactic.hygienic true in
theorem cells_some:∀ (l:List (Str × NameKind)) (n:Nat) (acc:List (Str × Addr)) (x:Str),((x,NameKind.cell)∈l∨(acc.lookup x).isSome=true)→((cellsFrom n l acc).lookup x).isSome=true
 | [],n,acc,x,h=>h.elim (fun z=>by cases z) id
 | (a,k) :: r,n,acc,x,h=>by
  unfold cellsFrom
  split
  ·refine cells_some r _ _ x ?_
   by_cases hx:x=a
   ·subst hx; exact .inr (by simp [List.lookup])
   ·rcases h with h | h
    ·rcases List.mem_cons.mp h with z | z
     ·cases z; exact absurd rfl hx
     ·exact .inl z
    ·exact .inr (by rw [List.lookup_cons,beq_eq_false_iff_ne.mpr hx]; exact h)
  ·rename_i hk
   refine cells_some r _ _ x ?_
   rcases h with h | h
   ·rcases List.mem_cons.mp h with z | z
    ·cases z; exact absurd rfl hk
    ·exact .inl z
   ·exact .inr h
structure DefAt (b0:Heap) (fn:Fn) (f:Addr) (d:DefRec):Prop where
 at_:∃ o pm code doc,b0.get? f=some o∧o.data=.func (docDef d.name d.params d.body d.scope pm code doc)∧b0.CodeRec code d.name
 chk:chkDef fn d=true
theorem nodupB_iff:∀ {l:List Txt},nodupB l=true→l.Nodup
 | [],_=>List.nodup_nil
 | x :: r,h=>by
  have h:=Bool.and_eq_true_iff.mp h
  exact List.nodup_cons.mpr ⟨(fun hm=>by have h1:=h.1; rw [List.contains_iff_mem.mpr hm] at h1; cases h1),nodupB_iff h.2⟩
section
variable {prog:Program} {w:World}
noncomputable def limOf (c:Cx) (n:Nat) (i:Nat):Option Nat:=if i < c.b then c.lim i else if i < n then some n else none
noncomputable def calleeCx (c:Cx) (env:Env) (n:Nat):Cx:=⟨c.base,env :: c.envs,n,limOf c n,c.C⟩
set_option tactic.hygienic true in
theorem callee_ok {c:Cx} {h h1:Heap} {σ:List Addr} {H:Hp} {env:Env} {L:Addr} {m:Str→Option Value} (X:c.Ok h σ H) (hk:∀ b o,h.get? b=some o→h1.get? b=some o) (hf:env.frame=some L) (hL:h.get? L=none) (hn:h1.Ns L m) (hkind:env.scope.kind=.function) :
  (calleeCx c env H.length).Ok h1 σ H where
 stays:=fun b o e=>hk b o (X.stays b o e)
 frames:=by
  refine ⟨by show env.scope.kind≠.module; rw [hkind]; decide,?_,(X.grow (grow_keeps X.stays hk)).frames⟩
  obtain ⟨o,es,ep,ho,hd,_⟩:=hn
  exact ⟨L,o,hf,base_none X hL,ho,fun vs q=>by rw [hd] at q; cases q⟩
 frd:=fun e he L' hL'=>by
  rcases List.mem_cons.mp he with rfl | he
  ·rw [hf] at hL'; cases hL'; exact ⟨m,hn⟩
  ·obtain ⟨m',hm'⟩:=X.frd e he L' hL'
   exact ⟨m',hm'.keeps hk⟩
 len:=X.len
 nodup:=X.nodup
 apart:=X.apart
 dom:=fun a ha=>by obtain ⟨arr,n,e⟩:=X.dom a ha; exact ⟨arr,n,hk _ _ e⟩
 objs:=fun i l e=>by
  obtain ⟨a,arr,n,h1,h2,h3,h4⟩:=X.objs i l e
  have hi:i < H.length:=(List.getElem?_eq_some_iff.mp e).1
  refine ⟨a,arr,n,h1,hk _ _ h2,h3,VRs.mono (fun b o _ e hs=>hk _ _ e) (fun _ q _=>q) (fun j b q=>?_) h4⟩
  show (takeO (limOf c H.length i) σ)[j]?=some b
  unfold limOf
  split
  ·exact q
  ·rename_i hib
   rw [X.loc i (by omega)] at q
   show (σ.take H.length)[j]?=some b
   rw [X.len,List.take_length]
   exact q
 loc:=fun i hi=>by
  have hb:=X.blen
  have hl:=X.len
  show limOf c H.length i=none
  have hi':H.length≤i:=hi
  unfold limOf
  rw [if_neg (by omega),if_neg (by omega)]
 blen:=by show H.length≤σ.length; rw [X.len]; exact Nat.le_refl _
 hi:=fun i hi k e=>by
  have hb:=X.blen
  have hl:=X.len
  have e':limOf c H.length i=some k:=e
  show k≤H.length
  unfold limOf at e'
  split at e'
  ·rename_i hib
   have:=X.hi i hib k e'
   omega
  ·split at e'
   ·cases e'; exact Nat.le_refl _
   ·cases e'
 hs:=fun i hi=>by
  show limOf c H.length i≠none
  have hi':i < H.length:=hi
  unfold limOf
  split
  ·rename_i hib; exact X.hs i hib
  ·simp
set_option tactic.hygienic true in
theorem back_ok {c:Cx} {h h1 h':Heap} {σ σ':List Addr} {H H':Hp} {env:Env} {O:Addr→Prop} (X:c.Ok h σ H) (hk:∀ b o,h.get? b=some o→h1.get? b=some o) (hO:∀ a,O a→h.get? a=none)
  (X':(calleeCx c env H.length).Ok h' σ' H') (a:Adv O h1 σ H h' σ' H'):c.Ok h' σ (H'.take H.length)∧Adv No h σ H h' σ (H'.take H.length)∧∀ val v,v.pure=true→VR h' (Live σ' H') σ' val v→VR h' (Live σ (H'.take H.length)) σ val v:=by
 have a1:Adv O h σ H h' σ' H':=Adv.trans ⟨.exact fun b o _ e=>hk b o e,fun _ _ e=>e,fun _ e _=>e,fun b o e=>⟨o,hk b o e⟩⟩ a
 have a2:Adv No h σ H h' σ' H':=a1.weaken fun b hb ⟨o,ho⟩=>by rw [hO b hb] at ho; cases ho
 have hlen':=X'.len
 have hlen:=X.len
 have hle:σ.length≤σ'.length:=by
  rcases Nat.lt_or_ge σ'.length σ.length with q | q
  ·have e:=a.pre σ'.length (σ[σ'.length]) (List.getElem?_eq_getElem q)
   rw [List.getElem?_eq_none (Nat.le_refl _)] at e; cases e
  ·exact q
 have hpre:σ'.take σ.length=σ:=by
  apply List.ext_getElem?
  intro i
  rw [List.getElem?_take]
  split
  ·rename_i hi
   rw [List.getElem?_eq_getElem hi]
   exact a.pre i _ (List.getElem?_eq_getElem hi)
  ·rename_i hi
   rw [List.getElem?_eq_none (by omega)]
 have hF:∀ b,Live σ (H'.take H.length) b→Live σ' H' b:=by
  rintro b ⟨i,l,e1,e2⟩
  rw [List.getElem?_take] at e2
  split at e2
  ·exact ⟨i,l,a.pre i b e1,e2⟩
  ·cases e2
 refine ⟨?_,⟨fun b o hb e=>a2.step b o hb e,fun _ _ e=>e,fun b hb ho=>a2.live b (hF b hb) ho,a2.dom⟩,fun val v hp q=>?_⟩
 ·exact {
   stays:=X'.stays
   frames:=X'.frames.2.2
   frd:=fun e he=>X'.frd e (List.mem_cons_of_mem _ he)
   len:=by rw [List.length_take]; omega
   nodup:=X.nodup
   apart:=X.apart
   dom:=fun b hb=>by
    obtain ⟨i,e⟩:=List.getElem?_of_mem hb
    exact X'.dom b (List.mem_of_getElem? (a.pre i b e))
   objs:=fun i l e=>by
    rw [List.getElem?_take] at e
    split at e
    ·rename_i hi
     obtain ⟨b,arr,n,h1,h2,h3,h4⟩:=X'.objs i l e
     have hib:σ[i]?=some b:=by
      rw [← hpre,List.getElem?_take,if_pos (by omega)]; exact h1
     refine ⟨b,arr,n,hib,h2,h3,VRs.mono (fun b o _ e _=>e) (fun b q _=>hF b q) (fun j b' q=>?_) h4⟩
     have q':(takeO (limOf c H.length i) σ')[j]?=some b':=q
     unfold limOf at q'
     split at q'
     ·rename_i hic
      cases hc:c.lim i with
      | none=>exact absurd hc (X.hs i hic)
      | some k =>
       rw [hc] at q'
       have hk':=X.hi i hic k hc
       have hb:=X.blen
       show (σ.take k)[j]?=some b'
       have q'':(σ'.take k)[j]?=some b':=q'
       rw [← hpre,List.take_take,Nat.min_eq_left (by omega)]
       exact q''
     ·rename_i hic
      rw [X.loc i (by omega)]
      show σ[j]?=some b'
      have q'':(σ'.take H.length)[j]?=some b':=q'
      rw [hlen,hpre] at q''
      exact q''
    ·cases e
   loc:=X.loc
   blen:=X.blen
   hi:=X.hi
   hs:=X.hs }
 ·refine (VR.mono (fun b o _ e _=>e) (fun b q _=>hF b q) (fun _ _ e=>e) q:VR h' (Live σ (H'.take H.length)) σ' val v).pure hp
inductive DefI (fn:Fn) (d:DefRec):Prop
 | mk:d.params.posonlyargs=[]→d.params.vararg=none→d.params.kwonlyargs=[]→d.params.kwarg=none→(d.params.args.map fun a=>tx a.arg)=fn.vars.take fn.params→d.params.args.length=fn.params→fn.vars.Nodup →
  d.scope.kind=.function→d.scope.isCoroutine=false→d.scope.isGenerator=false→(∀ a∈d.params.args,d.scope.names.lookup a.arg=some .local∨d.scope.names.lookup a.arg=some .cell)→(∀ y∈d.scope.names,y.2≠.free)→(d.scope.names.map fun y=>tx y.1).Nodup →
  chkSs fn.vars (fun z=>d.scope.names.lookup z) fn.body d.body=true→DefI fn d
theorem chk_def {fn:Fn} {d:DefRec} (h:chkDef fn d=true):DefI fn d:=by
 exact an h fun h h11=>an h fun h h10=>an h fun h h9=>an h fun h h8=>an h fun h h7=>an h fun h h6=>an h fun h h5=>an h fun h h4=>an h fun h h3=>an h fun h h2=>an h fun _ h=>an h fun h _=>an h fun h p4=>an h fun h _=>an h fun h p3=>an h fun p1 p2 =>
  ⟨List.isEmpty_iff.mp p1,Option.isNone_iff_eq_none.mp p2,List.isEmpty_iff.mp p3,Option.isNone_iff_eq_none.mp p4,beq_iff_eq.mp h2,beq_iff_eq.mp h3,nodupB_iff h4,beq_iff_eq.mp h5,Bool.not_eq_true' _ |>.mp h6,Bool.not_eq_true' _ |>.mp h7,
   fun a ha=>(Bool.or_eq_true_iff.mp (List.all_eq_true.mp h8 a ha)).imp beq_iff_eq.mp beq_iff_eq.mp,fun y hy=>bne_iff_ne.mp (List.all_eq_true.mp h9 y hy),nodupB_iff h10,h11⟩
theorem nodup_of_map {α β:Type} (f:α→β):∀ {l:List α},(l.map f).Nodup→l.Nodup
 | [],_=>List.nodup_nil
 | a :: l,h=>by
  rw [List.map_cons] at h
  obtain ⟨h1,h2⟩:=List.nodup_cons.mp h
  exact List.nodup_cons.mpr ⟨fun q=>h1 (List.mem_map.mpr ⟨a,q,rfl⟩),nodup_of_map f h2⟩
theorem lookup_cell_mem {l:List (Str × NameKind)} {x:Str} {k:NameKind} (h:l.lookup x=some k):(x,k)∈l:=PySem.mem_of_lookup h
theorem args_vars {nm:List Txt} {d:DefRec} {env:Env} {h h1:Heap} {σ:List Addr} {H:Hp} {vals:List Value} {vs:List V} {p n:Nat} (hargs:(d.params.args.map fun a=>tx a.arg)=nm.take p) (hlen:vs.length=p) (hns:(d.params.args.map (·.arg)).Nodup)
  (hpk:∀ a∈d.params.args,d.scope.names.lookup a.arg=some .local∨d.scope.names.lookup a.arg=some .cell) (hv:VRs h (Live σ H) σ vals vs) (hk1:∀ b o,h.get? b=some o→h1.get? b=some o)
  (hns1:h1.Ns env.locals (bindL env.kindOf ((d.params.args.map (·.arg)).zip vals) fun _=>none)) (hko:env.kindOf=fun z=>d.scope.names.lookup z)
  (hcell:∀ y a,env.cells.lookup y=some a→h1.IsCell a (bindC env.kindOf ((d.params.args.map (·.arg)).zip vals) (fun _=>none) y)) (hce:∀ x,env.kindOf x=some .cell∨env.kindOf x=some .free→∃ a,env.cells.lookup x=some a) :
  Vars nm env h1 σ H (vs.map some++List.replicate (n - p) none):=fun i v hi y hy hky=>by
 have hil:i < vs.length:=by
  rcases Nat.lt_or_ge i vs.length with q | q
  ·exact q
  ·rw [List.getElem?_append_right (by rw [List.length_map]; exact q),List.getElem?_replicate] at hi
   split at hi <;> cases hi
 rw [List.getElem?_append_left (by rw [List.length_map]; exact hil),List.getElem?_map] at hi
 obtain ⟨v',hv',e⟩:=Option.map_eq_some_iff.mp hi
 obtain rfl:=Option.some.inj e
 obtain ⟨val,hval,hr⟩:=hv.get i v' hv'
 have h2:(nm.take p)[i]?=some (tx y):=by rw [List.getElem?_take,if_pos (hlen ▸ hil)]; exact hy
 rw [← hargs,List.getElem?_map] at h2
 obtain ⟨a,ha,e⟩:=Option.map_eq_some_iff.mp h2
 obtain rfl:=tx_inj e
 have hyn:(d.params.args.map (·.arg))[i]?=some a.arg:=by rw [List.getElem?_map,ha]; rfl
 refine ⟨val,?_,VR.mono (fun b o _ e _=>hk1 b o e) (fun _ q _=>q) (fun _ _ q=>q) hr⟩
 have hk:env.kindOf a.arg=d.scope.names.lookup a.arg:=by rw [hko]
 rcases hpk a (List.mem_of_getElem? ha) with hk' | hk'
 ·exact .inl ⟨hk.trans hk',_,hns1,bindL_zip env.kindOf hns hyn hval (hk.trans hk')⟩
 ·have hkc:=hk.trans hk'
  obtain ⟨cl,hcl⟩:=hce _ (.inl hkc)
  have hc:=hcell _ cl hcl
  rw [bindC_zip env.kindOf hns hyn hval (by rw [hkc]; decide)] at hc
  exact .inr ⟨.inl hkc,cl,hcl,hc⟩
theorem callSnd {b0:Heap} {C:Value} {fa:Nat→Addr} (G:Gd b0) (hfa:∀ f fn,theFn f=some fn→G.mg (sOf fn.name)=some (.ref (fa f))∧∃ d,DefAt b0 fn (fa f) d)
  (hC:G.mg (sOf [70,111,114,109,97,116,70,97,117,108,116])=some C) (rs:RaiseSnd prog w b0 C) (ct:CatchSnd prog w b0 C) (kc:ClsSnd prog w b0 C) (N:Nat):∀ n,CallSnd prog w b0 C fa (callF theFn N n) (n + 4)
 | 0=>by
  intro c A s σ H f vs vals r Q E hb hc hne au ht X hv he k
  exact (noS he).elim
 | n + 1=>by
  have ih:=callSnd G hfa hC rs ct kc N n
  intro c A s σ H f vs vals r Q E hb hc hne au ht X hv he k
  subst hb
  subst hc
  have he:(match theFn f with | some fn=>runF (callF theFn N n) N fn vs H | none=>none)=some r:=he
  cases hf:theFn f with
  | none=>rw [hf] at he; exact (noS he).elim
  | some fn =>
   rw [hf] at he
   obtain ⟨_,d,⟨o,pm,code,doc,ho,hdat,hcd⟩,hchk⟩:=hfa f fn hf
   obtain ⟨p1,p2,p3,p4,hargs,hnum,hnd,hkind,hco,hgen,hpk,hfree,hnames,hbody⟩:=chk_def hchk
   obtain ⟨hlen,he⟩:=mi_p (show (if vs.length=fn.params then _ else none)=some r from he)
   have hvl:=hv.length
   have hns:(d.params.args.map (·.arg)).Nodup:=by
    have h1:((d.params.args.map (·.arg)).map tx).Nodup:=by
     rw [List.map_map]
     have:(fn.vars.take fn.params).Nodup:=List.Nodup.sublist (List.take_sublist _ _) hnd
     rw [← hargs] at this
     exact this
    exact nodup_of_map tx h1
   have hbind:=binds_plain (fd:=docDef d.name d.params d.body d.scope pm code doc) (vs:=vals) p1 p2 p3 p4 rfl hns (by rw [List.length_map,hvl,hlen,← hnum]; rfl)
   have hos:=X.stays _ _ ho
   have hcs:=hcd.keeps X.stays
   refine wpAny_call (codeAny_call_function (by have:=au.depth; omega) hos hdat hco hgen rfl hcs ?_)
   rw [hbind]
   refine wpAny_pure (wpAny_with_toks (n:=1) ht (wpAny_newFunctionEnv_cells hkind (fun x hx=>?_) fun env henv s1 x htk=>⟨(G.nolimit.keeps X.stays).keeps x.toInCall.keep,codeAny_func ?_⟩))
   ·have hx1:=zip_fst_mem hx
    obtain ⟨a,ha,hax⟩:=List.mem_map.mp hx1
    rcases hpk a ha with q | q
    ·exact .inl (by rw [← hax]; exact q)
    ·refine .inr ⟨by rw [← hax]; exact q,cells_some _ _ _ _ (.inl ?_)⟩
     rw [← hax]; exact lookup_cell_mem q
   obtain ⟨h1,tk1,rfl⟩:=x.toInCall.same
   have hk1:∀ b o,s.heap.get? b=some o→h1.get? b=some o:=x.toInCall.keep
   have hL:s.heap.get? s.heap.objs.size=none:=size_none _ (Nat.le_refl _)
   have hns1:h1.Ns s.heap.objs.size (bindL env.kindOf ((d.params.args.map (·.arg)).zip vals) fun _=>none):=by subst henv; exact x.toInCall.ns
   have hko:env.kindOf=fun z=>d.scope.names.lookup z:=by subst henv; rfl
   have hks:env.scope.kind=.function:=by subst henv; exact hkind
   have hfr:env.frame=some s.heap.objs.size:=by subst henv; rfl
   have hlo:env.locals=s.heap.objs.size:=by subst henv; rfl
   have hce:env.cells=cellsFrom (s.heap.objs.size + 1) d.scope.names []:=by subst henv; rfl
   have hgl:env.globals=mainGlobals:=by subst henv; rfl
   have hbl:env.builtins=builtinsNs:=by subst henv; rfl
   have X1:(calleeCx c env H.length).Ok h1 σ H:=callee_ok X hk1 hfr hL hns1 hks
   have hab:∀ y a,env.cells.lookup y=some a→s.heap.get? a=none:=fun y a hy=>by
    have:=x.above y a (PySem.mem_of_lookup hy)
    rw [hlo] at this
    exact size_none _ (Nat.le_of_lt this)
   have eo:EnvOk env:=⟨hks,hgl,hbl,fun y hy=>by
    rw [hko] at hy
    rw [hce]
    rcases hy with hy | hy
    ·exact Option.isSome_iff_exists.mp (cells_some _ _ _ _ (.inl (lookup_cell_mem hy)))
    ·exact absurd rfl (hfree _ (lookup_cell_mem hy))⟩
   have F:FnE (calleeCx c env H.length) env:=⟨eo,⟨c.envs,rfl⟩,by rw [hfr,hlo],fun y z a hy hz=>PySem.name_of_addr x.apart (PySem.mem_of_lookup hy) (PySem.mem_of_lookup hz),fun y a hy=>base_none X (hab y a hy)⟩
   have hown:∀ a,Own env a→s.heap.get? a=none:=fun a z=>by
    rcases z with rfl | ⟨y,hy⟩
    ·rw [hlo]; exact hL
    ·exact hab y a hy
   have gr:Grow c.base s.heap h1:=grow_keeps X.stays hk1
   have hvars:=args_vars (nm:=fn.vars) (n:=fn.vars.length) hargs hlen hns hpk hv hk1 (by rw [hlo]; exact hns1) hko (fun y a hy=>x.cell y a hy) eo.cells
   have fm:Fm env h1:=⟨⟨_,by rw [hlo]; exact hns1⟩,fun y a hy=>⟨_,x.cell y a hy⟩⟩
   have au':AOk (calleeCx c env H.length) (A.deeper env) (n + 4):=⟨Around.frames_deeper au.frames,by have:=au.units; rw [units_deeper]; omega,by have:=au.depth; rw [depth_deeper]; omega,au.handled⟩
   have R':RdyS prog w (calleeCx c env H.length) (A.deeper env) (callF theFn N n) (n + 4) :=
    { G:=G,hne:=by simp [calleeCx],au:=au',fa:=fa,hfa:=fun f fn hf=>⟨(hfa f fn hf).1,by obtain ⟨_,d,⟨o,pm,code,doc,ho,hdat,_⟩,_⟩:=hfa f fn hf; exact ⟨o,_,ho,hdat⟩⟩,cs:=ih,hC:=hC,rs:=rs,ct:=ct,kc:=kc,n4:=by omega }
   have hbody':chkSs fn.vars env.kindOf fn.body d.body=true:=by rw [hko]; exact hbody
   cases hev:evSs (callF theFn N n) N H.length fn.body (vs.map some++List.replicate (fn.vars.length - fn.params) none) H with
   | none=>rw [hev] at he; cases he
   | some rr =>
    rw [hev] at he
    refine sndSs R' F hnd fn.body (s:=sU s h1 tk1) htk hbody' hev X1 hvars fm ?_
    cases rr with
    | next l H'=>cases he
    | cont l H'=>cases he
    | ret v H' =>
     obtain ⟨hp,he⟩:=mi_some he
     obtain rfl:=Option.some.inj he
     intro val h' tk σ' X' a' q'
     obtain ⟨Xb,ab,vb⟩:=back_ok X hk1 hown X' a'
     exact k val h' tk σ Xb ab (vb val v hp q')
    | exc H' =>
     obtain rfl:=Option.some.inj he
     intro e h' tk σ' X' a' x'
     refine exc_leave (s:=sU s h' tk) (c:=calleeCx c env H.length) (O:=Own env) (h0:=h1) (σ0:=σ) (H0:=H) (outer:=c.envs) rfl au'.frames F.loc X' a' x' fun h2 X2 a2 x2=>?_
     obtain ⟨Xb,ab,_⟩:=back_ok X hk1 hown X2 a2
     have x3:Exc c.base c.C s.heap e h2:=ExcX.adv (gr.adv σ H) x2
     exact k e h2 tk σ Xb ab x3
end
end Mine
end
section
set_option maxRecDepth 100000
open PySem PySem.W PyProof.Rows PySem.Calls
namespace Mine
section
variable {prog:Program} {w:World} {A:Around} {c:Cx} {env:Env} {n:Nat}
noncomputable def lawRest:Ss:=match F_law.body with | .cons _ r=>r | .nil=>.nil
noncomputable def lawHead:Mine.S:=match F_law.body with | .cons s _=>s | .nil=>.cont
theorem law_body:F_law.body=.cons lawHead lawRest:=rfl
theorem law_head:lawHead=.assign 1 (.lstM (.cons (.sl (.loc 0) .none (.int 48)) (.cons (.int 0) .nil))):=rfl
set_option maxHeartbeats 2000000 in
theorem first_step (F:FnE c env) {nm:List Txt} (hnd:nm.Nodup) {st:Stmt} {s:Shared} {vs l48:List V} {l0:Loc} {Q:Flow→Shared→Prop} {E:Value→Shared→Prop}
  (hc:chkS nm env.kindOf lawHead st=true) (X:c.Ok s.heap [] []) (hv:Vars nm env s.heap [] [] l0) (f:Fm env s.heap) (hl0:l0[0]?=some (some (.lst vs))) (hcut:cut vs .none (.int 48)=some l48) (hpure:V.pures l48=true)
  (k:∀ h' tk σ',0 < tk→c.Ok h' σ' [some [.lst l48,.int 0]]→Adv (Own env) s.heap [] [] h' σ' [some [.lst l48,.int 0]]→Vars nm env h' σ' [some [.lst l48,.int 0]] (l0.set 1 (some (.ref 0)))→Fm env h'→Q .next (sU s h' tk)) :
  wpAny (model prog w) A (exec st env) Q E s:=by
 rw [law_head] at hc
 refine oAs_e hc fun _ v pos hc=>one_e hc fun _ hc=>oN_e hc fun id np hc=>?_
 simp only [Bool.and_eq_true,Bool.or_eq_true,isStore,isStoreC,beq_iff_eq] at hc
 obtain ⟨⟨h1,h2⟩,h3⟩:=hc
 revert h2
 refine oL_e h3 fun xs p3 h3=>oCons_e h3 fun e1 r1 h3=>?_
 simp only [Bool.and_eq_true] at h3
 obtain ⟨⟨g1,g2⟩,g3⟩:=h3
 revert g1
 refine oCons_e g3 fun e2 r2 g3=>?_
 simp only [Bool.and_eq_true] at g3
 obtain ⟨⟨g4,g5⟩,g6⟩:=g3
 revert g4
 refine nilB_e (l:=r2) (p:=true) (by cases r2 <;> first | rfl | exact g6) fun _=>oC_e g5 fun _ k0 p0 g5=>isIt_e g5 fun _=>oSu_e g2 fun vv sl0 p2 g2=>oSl_e g2 fun lo up _ p1 g2=>oNone_e g2 fun g2=>?_
 intro g4 g1 h2
 simp only [Bool.and_eq_true] at g2
 obtain ⟨⟨ga,gb⟩,gc⟩:=g2
 revert g1
 refine oN_e ga fun id0 q0 ga=>?_
 simp only [Bool.and_eq_true] at ga
 cases up with
 | none=>cases isNoE_e gc
 | some xu =>
 refine oC_e gc fun _ k1 p5 gc=>isIt_e gc fun _=>?_
 intro g1
 have main:∀ (val:Value),VR s.heap (Live [] []) [] val (.lst vs)→wpAny (model prog w) A (evalPart lo env) (fun vl s1=>vl=.none∧s1=s) E s:=by
  intro val q
  cases lo with
  | none=>exact wpAny_pure ⟨rfl,rfl⟩
  | some x =>
   refine oC_e gb fun _ kk pp gb=>isIt_e gb fun _=>?_
   exact wpAny_Constant_none (k:=kk) (pos:=pp) ⟨rfl,rfl⟩
 refine wpAny_Assign_Name (List_ (args_cons (Subscript_ (name_loc F.eo ga.1 ga.2 hv hl0 fun val q=>wpAny_Slice (wpAny_mono (main val q) (fun vl s1 hs=>?_) fun _ _ z=>z))) (notStar_each g1))) (co_swap h2)
 obtain ⟨rfl,hs2⟩:=hs
 rw [hs2]
 have hsl:slV (.lst vs) .none (.int 48)=some (.lst l48):=by
  show (cut vs .none (.int 48)).map V.lst=_
  rw [hcut]; rfl
 refine wpAny_Constant_int (k:=k1) (pos:=p5) (wpAny_pure (sndSl (s:={ s with toks:=s.toks + 1 }) X q .none (.int _ _) hsl ?_))
 intro v1 h1' tk1 σ1 X1 a1 q1
 refine args_cons (wpAny_Constant_int (k:=k0) (pos:=p0) (args_nil ?_)) (notStar_each g4)
 refine wpAny_with_toks (n:=1) (Nat.succ_pos _) (new_mut (s:=sU s h1' (tk1 + 1)) (l:=[.lst l48,.int 0]) X1 (.cons q1 (.cons (.int _ _) .nil)) (by show 2≤1048576; omega +splitNatSub) ?_)
 intro v2 h2' tk2 σ2 X2 a2 q2 hp2
 have a12:=a1.trans a2
 refine store (s:=sU s h2' tk2) (v:=.ref 0) F hnd (h1.elim (·.1) (·.1)) (h1.imp (·.2) (·.2)) X2 (hv.adv0 X a12) (f.adv0 X a12) q2 fun h3 tk3 X3 a3 hv3 f3 ht3=>?_
 exact k h3 tk3 σ2 (Nat.lt_of_lt_of_le hp2 ht3) X3 (a12.own.trans a3) hv3 f3
theorem pures_ints:∀ is:List Int,V.pures (is.map V.int)=true
 | []=>rfl
 | _ :: is=>pures_ints is
theorem law_walk {N m:Nat} {call:Nat→List V→Hp→Option (Res V)} (R:RdyS prog w c A call m) (F:FnE c env) {s:Shared} {is:List Int} {st:List Stmt} {E:Value→Shared→Prop} (hb:c.b=0)
  (hc:chkSs F_law.vars env.kindOf F_law.body st=true) (X:c.Ok s.heap [] []) (hv:Vars F_law.vars env s.heap [] [] (some (.lst (is.map V.int)) :: List.replicate 4 none)) (f:Fm env s.heap)
  (he:runF call N F_law [.lst (is.map V.int)] []=some (.ok (.bool true) [])) :
  wpAny (model prog w) A (execs st env) (fun fl s'=>fl=.ret (.bool true)∧(∀ b o,c.base.get? b=some o→s'.heap.get? b=some o)∧s'.os=s.os∧s'.gens=s.gens) E s:=by
 have hnd:F_law.vars.Nodup:=by decide
 rw [law_body] at hc
 refine oCons_e hc fun st1 sts hc=>?_
 simp only [Bool.and_eq_true] at hc
 have hcut:cut (is.map V.int) .none (.int 48)=some ((is.take 48).map V.int):=by
  have h:bound (is.map V.int).length (is.map V.int).length (.int 48)=some (min 48 (is.map V.int).length):=(if_pos (c:=-(capL:Int)≤48∧(48:Int)≤capL) (e:=(.none:Option Nat)) ⟨by decide,by decide⟩).trans (congrArg some (if_neg (by decide)))
  exact (congrArg (fun o:Option Nat=>match some 0,o with | some a,some b=>some (((is.map V.int).take b).drop a) | _,_=>none) h).trans (congrArg some (List.take_eq_take_min.symm.trans (List.map_take ..).symm))
 have hp:=pures_ints (is.take 48)
 have he:=(if_pos (c:=[V.lst (is.map V.int)].length=F_law.params) rfl).symm.trans he
 have hhead:evS call N 0 lawHead (some (.lst (is.map V.int)) :: List.replicate 4 none) []=some (.next ((some (.lst (is.map V.int)) :: List.replicate 4 none).set 1 (some (.ref 0))) [some [.lst ((is.take 48).map V.int),.int 0]]):=by
  rw [law_head]
  have h1:evE call 0 (some (.lst (is.map V.int)) :: List.replicate 4 none) (.sl (.loc 0) .none (.int 48)) []=some (.ok (.lst ((is.take 48).map V.int)) []):=congrArg (fun o:Option (List V)=>tell (o.map V.lst) []) hcut
  exact congrArg (fun o=>bndS (bnd (bnd o fun v H=>bnd (bnd (some (.ok (.int 0) H)) fun w H=>bnd (some (.ok [] H)) fun vs H=>some (.ok (w :: vs) H)) fun vs H=>some (.ok (v :: vs) H)) fun vs H=>if vs.length≤capL then some (.ok (.ref H.length) (H++[some vs])) else .none) fun v H=>some (.next ((some (.lst (is.map V.int)) :: List.replicate 4 none).set 1 (some v)) H)) h1
 have he2:∃ H',evSs call N 0 lawRest ((some (.lst (is.map V.int)) :: List.replicate 4 none).set 1 (some (.ref 0))) [some [.lst ((is.take 48).map V.int),.int 0]]=some (.ret (.bool true) H'):=by
  have e1:evSs call N ([]:Hp).length F_law.body (([V.lst (is.map V.int)].map some)++List.replicate (F_law.vars.length - F_law.params) none) [] =
    evSs call N 0 lawRest ((some (.lst (is.map V.int)) :: List.replicate 4 none).set 1 (some (.ref 0))) [some [.lst ((is.take 48).map V.int),.int 0]]:=by
   rw [law_body]
   show evSs call N 0 (.cons lawHead lawRest) (some (.lst (is.map V.int)) :: List.replicate 4 none) []=_
   exact congrArg (fun o=>match o with | some (.next l H)=>evSs call N 0 lawRest l H | o=>o) hhead
  rw [e1] at he
  cases hr:evSs call N 0 lawRest ((some (.lst (is.map V.int)) :: List.replicate 4 none).set 1 (some (.ref 0))) [some [.lst ((is.take 48).map V.int),.int 0]] with
  | none=>rw [hr] at he; cases he
  | some r =>
   rw [hr] at he
   cases r with
   | ret v H' =>
    simp only at he
    split at he <;> try cases he
    exact ⟨H',rfl⟩
   | _=>cases he
 obtain ⟨H',he2⟩:=he2
 refine wpAny_execs_cons (first_step F hnd hc.1 X hv f rfl hcut hp fun h1 tk1 σ1 hp1 X1 a1 hv1 f1=>?_)
 refine sndSs R F hnd lawRest (s:=sU s h1 tk1) hp1 hc.2 (by rw [hb]; exact he2) X1 hv1 f1 ?_
 intro val h' tk σ' X' a' q'
 rw [q'.bool_inv]
 exact ⟨rfl,X'.stays,rfl,rfl⟩
end
end Mine
end
section
open PySem PySem.W PyProof.Rows
set_option maxRecDepth 100000
namespace Mine
noncomputable abbrev rw1:=PySem.Challenge.rw_no0245_01
noncomputable abbrev rp:Program:=rw1.row.toRowW.1
noncomputable def envM:Env:={scope:=rp.main.scope,locals:=mainNs,globals:=mainNs,cells:=[],code:=.ref 13,frame:=some 14}
noncomputable def o13:Obj:={cls:=.type "code",data:=.fields #[.str (.ofString "<module>") 182,.str (.ofString "<module>") 183,.str (.ofString "/claim/cut.py") 184,.int 1 0,.int 0 0,.int 0 0,.int 0 0,.int 0 0,.ref 11,.bool false,.int 181 0,.ref 12,.none,.none,.none,.none,.int 185 0,.int 1 0,.str (.ofString "/claim/cut.py") 186]}
noncomputable def o14:Obj:={cls:=.type "frame",slots:=#[some (.ref 13),some (.ref 3),some (.ref 3),none,some (.str (.ofString "__main__") 164),none,some (.ref 0)]}
noncomputable def o11:Obj:={cls:=.type "tuple",data:=.seq #[]}
noncomputable def o12:Obj:={cls:=.none,data:=.fields #[]}
noncomputable def heapA (P:Params):Heap:={objs:=⟨[boot_o_0 P,boot_o_1 P,boot_o_2 P,boot_o_3 P,boot_o_4 P,boot_o_5 P,boot_o_6 P,boot_o_7 P,boot_o_8 P,boot_o_9 P,boot_o_10 P,o11,o12,o13,o14]⟩}
noncomputable def treeA (P:Params):BT:=.node (boot_o_0 P)
 (.node (boot_o_1 P) (.node (boot_o_3 P) (.node (boot_o_7 P) .nil .nil) (.node o11 .nil .nil)) (.node (boot_o_5 P) (.node (boot_o_9 P) .nil .nil) (.node o13 .nil .nil)))
 (.node (boot_o_2 P) (.node (boot_o_4 P) (.node (boot_o_8 P) .nil .nil) (.node o12 .nil .nil)) (.node (boot_o_6 P) (.node (boot_o_10 P) .nil .nil) (.node o14 .nil .nil)))
noncomputable abbrev bd:=behindTheImports rp
noncomputable abbrev cdM:Code:=.body bd envM
noncomputable abbrev p0:Pos:={line:=0,col:=0,endLine:=0,endCol:=0}
noncomputable abbrev frM:List Frame:=[topFrame p0]
theorem pre (w:World) (os:OsState):topGo treeTable rp w 11 (some (.ref 6)) 12 ⟨boot_heap w.params,#[],boot_drawn,boot_toks,os⟩ (topStub rp)=
 some (⟨heapA w.params,#[],{},187,os⟩,⟨denote treeTable (.body bd envM),cdM,p0,[topFrame p0]⟩):=by kernel_rfl
theorem blk (w:World) (os:OsState):segRun treeTable rp w 11 (some (.ref 6)) 1 1 ⟨heapA w.params,#[],{},187,os⟩ (blockOf bd envM cdM p0 [topFrame p0])=
 some (.next,(⟨treeA w.params,15,{},#[],{},187,os⟩:SharedT).abs,cdM,p0):=by kernel_rfl
noncomputable abbrev pE:Pos:={line:=458,col:=0,endLine:=469,endCol:=46}
noncomputable def runR (w:World) (os:OsState):Option (Flow×SharedT×Code×Pos):=PySem.W.Fast.tw10110043849684766642 PySem.W.Fast.tw14364793385576792824 rp w 11 (some (.ref 6)) 1 1824 ⟨treeA w.params,15,{},#[],{},187,os⟩ (piecesOf bd envM cdM p0 frM)
noncomputable def treeZ (w:World) (os:OsState):BT:=match runR w os with | some (_,s,_)=>s.tree | none=>.nil
theorem run1 (w:World) (os:OsState):runR w os=some (.next,⟨treeZ w os,330,{},#[],{},661,os⟩,cdM,pE):=by kernel_rfl
theorem seg1 (w:World) (os:OsState):segRunT treeTable rp w 11 (some (.ref 6)) 1 1824 ⟨treeA w.params,15,{},#[],{},187,os⟩ (piecesOf bd envM cdM p0 [topFrame p0])=some (.next,⟨treeZ w os,330,{},#[],{},661,os⟩,cdM,pE):=by
 rw[<- run1];unfold runR;rw[PySem.W.Fast.te10110043849684766642,PySem.W.Fast.te14364793385576792824]
theorem glue {tb:String->Option Builtin}{p:Program}{w:World}{n₀:Nat}{ann:Option Value}{q:Pos}{b:List Stmt}{env:Env}{c:Code}{p1 p2 p3:Pos}{n1 n2 n3 n4:Nat}{s0 s1:Shared}{t0:Thread}{s2 s3:SharedT}
  (h1:topGo tb p w n₀ ann n1 s0 t0=some (s1,⟨denote tb (.body b env),c,p1,[topFrame q]⟩))
  (h2:segRun tb p w n₀ ann 1 n2 s1 (blockOf b env c p1 [topFrame q])=some (.next,s2.abs,c,p2))
  (h3:segRunT tb p w n₀ ann 1 n3 s2 (piecesOf b env c p2 [topFrame q])=some (.next,s3,c,p3))
  (h4:topRun tb p w n₀ ann n4 s3.abs ⟨doneF .next,c,p3,[topFrame q]⟩=some s3.abs):topRun tb p w n₀ ann (n1 + (n2 + (n3 + n4))) s0 t0=some s3.abs:=by
 refine go_top h1 (piece_block h2 ?_);have k:=piece_app (rest:=[]) (segRun_of h3) h4
 rw[List.append_nil] at k;exact k
end Mine
end
section
open PySem PySem.W PyProof.Rows
set_option maxRecDepth 100000
namespace Mine
noncomputable def de (P:Params) (n:String) (t:Nat) (v:Value):DictEntry:={hash:=PyData.keyHash P (.ofString n),key:=.str (.ofString n) t,val:=v}
noncomputable def glb (P:Params):List DictEntry:=[de P "__name__" 165 (.str (.ofString "law_no0245_01") 484),de P "__doc__" 166 .none,de P "__package__" 167 .none,de P "__loader__" 168 (.builtin "__main__.__loader__#opaque"),de P "__spec__" 169 .none,de P "__annotations__" 170 (.ref 6),de P "__builtins__" 171 (.ref 4),de P "__file__" 173 (.str (.ofString "/claim/cut.py") 172),de P "__cached__" 174 .none,de P "F77Error" 217 (.ref 31),de P "FormatFault" 243 (.ref 51),de P "DIGITS" 247 (.str (.ofString "0123456789") 246),de P "MOST_NUMBER" 249 (.int 9999 248),de P "MOST_DEPTH" 251 (.int 10 250),de P "pass_blanks" 259 (.ref 60),de P "number_at" 269 (.ref 67),de P "size_at" 280 (.ref 74),de P "is_at" 289 (.ref 81),de P "places_at" 297 (.ref 88),de P "exponent_at" 305 (.ref 95),de P "whole_edit" 316 (.ref 102),de P "real_edit" 329 (.ref 109),de P "value_edit" 340 (.ref 116),de P "quoted_at" 350 (.ref 123),de P "counted_text" 359 (.ref 130),de P "scale_at" 369 (.ref 137),de P "control_at" 381 (.ref 144),de P "group_at" 393 (.ref 151),de P "counted_at" 407 (.ref 158),de P "item_at" 417 (.ref 165),de P "may_join" 425 (.ref 172),de P "items_at" 439 (.ref 179),de P "format_prefix" 448 (.ref 186),de P "parse_format" 457 (.ref 193),de P "write_tail" 465 (.ref 200),de P "write_item" 474 (.ref 207),de P "write_format" 483 (.ref 214),de P "_law_signs" 487 (.str (.ofString "IFEDGLAXTPSBHNRZ/:,.()'+-0123 59") 486),de P "_law_draw" 496 (.ref 221),de P "_law_value" 507 (.ref 228),de P "_law_item" 513 (.ref 233),de P "_law_text" 525 (.ref 240),de P "_law_is_loose" 534 (.ref 247),de P "_law_whole" 544 (.ref 254),de P "_law_spaced" 555 (.ref 261),de P "_law_bent" 567 (.ref 268),de P "_law_tokens" 580 (.ref 275),de P "_law_number" 589 (.ref 282),de P "_law_reals" 599 (.ref 289),de P "_law_valued" 609 (.ref 296),de P "_law_control" 619 (.ref 303),de P "_law_single" 630 (.ref 310),de P "_law_read" 647 (.ref 317),de P "_law_heard" 654 (.ref 324),de P "law" 660 (.ref 329)]
noncomputable def errS:Value:=.str (.ofString "f77.errors") 187
noncomputable def iniO (c:Nat) (q:String):Stmt->Obj
 | .ClassDef _ _ _ [.FunctionDef n a b _ _ _ s _ _ _] _ _ _ _ _ _ _=>{cls:=.type "function",data:=.func {name:=n,qualname:=.ofString q,params:=a,body:=.stmts b,scope:=s,globals:=3,closure:=[],defaults:=.none,kwdefaults:=.none,pyModule:=errS,code:=.ref c}}
 | _=>default
noncomputable def iniAt (i c:Nat) (q:String):Obj:=match rp.main.body[i]? with | some s=>iniO c q s | none=>default
noncomputable def clsO (i ns:Nat) (n:String) (b:Value) (m:List Value) (sub:List Value) (t bt tq:Nat):Obj:={cls:=.type "type",data:=.cls {name:=.ofString n,bases:=[b],mro:=.ref i::m,ns:=ns,qualname:=.ofString n,subclasses:=sub},slots:=#[some (.ref bt),none,some (.str (.ofString n) t),some (.str (.ofString n) tq),some (.builtin "Exception.__new__"),some (.bool true)]}
noncomputable def coO (q:String) (t l n r i:Nat):Obj:={cls:=.type "code",data:=.fields #[.str (.ofString "__init__") t,.str (.ofString q) (t+1),.str (.ofString "/claim/cut.py") (t+2),.int l 0,.int n 0,.int 0 0,.int 0 0,.int 3 0,.ref r,.bool true,.int 181 0,.ref (r+1),.none,.ref (r+2),.ref (r+3),.ref (r+4),.int i 0,.int l 0,.str (.ofString "/claim/cut.py") (i+1)]}
noncomputable def tuO (l:List Value):Obj:={cls:=.type "tuple",data:=.seq ⟨l⟩}
noncomputable def KK (P:Params):Frag:=[(3,{cls:=.type "dict",data:=.dict ⟨glb P⟩ 55}),(28,iniAt 1 27 "F77Error.__init__"),
 (30,{cls:=.type "dict",data:=.dict #[de P "__module__" 196 errS,de P "__firstlineno__" 200 (.int 2 199),de P "__init__" 208 (.ref 28),de P "__static_attributes__" 210 (.ref 29),de P "__weakref__" 212 (.ref 32),de P "__doc__" 213 .none] 3}),
 (31,clsO 31 30 "F77Error" (.type "Exception") [.type "Exception",.type "BaseException",.type "object"] [.ref 51] 189 15 197),
 (48,iniAt 2 47 "FormatFault.__init__"),
 (50,{cls:=.type "dict",data:=.dict #[de P "__module__" 225 errS,de P "__firstlineno__" 229 (.int 7 228),de P "__init__" 238 (.ref 48),de P "__static_attributes__" 240 (.ref 49),de P "__doc__" 241 .none] 2}),
 (51,clsO 51 50 "FormatFault" (.ref 31) [.ref 31,.type "Exception",.type "BaseException",.type "object"] [] 218 35 226),
 (2,{cls:=.none,data:=.dict #[de P "type.__subclasses__.Exception.0" 214 (.int 31 0),de P "type.__subclasses__.Exception.n" 215 (.int 1 0)] 2}),(27,coO "F77Error.__init__" 201 4 2 22 206),(47,coO "FormatFault.__init__" 230 9 3 42 236),
 (22,tuO []),(24,tuO [.str (.ofString "self") 204,.str (.ofString "text") 205]),(25,tuO []),(42,tuO []),(44,tuO [.str (.ofString "self") 233,.str (.ofString "at") 234,.str (.ofString "text") 235]),(45,tuO [])]
noncomputable def qv:Program:={rp with main:={rp.main with body:=rp.main.body.filter fun s=>match s with | .Assign [.Name n _] _ _=>!(n.cps==#[95,95,110,97,109,101,95,95]) | _=>true}}
noncomputable abbrev HK:Hook:=kHook KK [3,28,30,31,48,50,51,2,27,47,22,24,25,42,44,45] fun _=>rfl
noncomputable abbrev Xt:Shared->Bool:=fun s=>xlAt qv [] s&&recOk (RowW.records rw1.row.toRowW) s
noncomputable abbrev sT (w:World) (os:OsState):SharedT:=⟨treeZ w os,330,{},#[],{},661,os⟩
noncomputable abbrev sZ (w:World) (os:OsState):Shared:=(sT w os).abs
theorem fin (w:World) (os:OsState):topRun treeTable rp w 11 (some (.ref 6)) 2 (sZ w os) ⟨doneF .next,cdM,pE,[topFrame p0]⟩=some (sZ w os):=by kernel_rfl
theorem lkY (w:World) (os:OsState):HK.obs (sZ w os)=HK.val w:=by kernel_rfl
theorem runA (w:World) (os:OsState):topRun treeTable rp w 11 (some (.ref 6)) (12 + (1 + (1824 + 2))) ⟨boot_heap w.params,#[],boot_drawn,boot_toks,os⟩ (topStub rp)=some (sZ w os):=glue (pre w os) (blk w os) (seg1 w os) (fin w os)
end Mine
end
section
open PySem PySem.W PyProof.Rows
set_option maxRecDepth 100000
namespace Mine
theorem lkA (w:World) (os:OsState):(staticsOk (importedModules rp.main.body) (boot_heap w.params) (sZ w os).heap&&namesBound rp (sZ w os).heap&&gensDone (sZ w os)&&laidKept (boot_heap w.params) (sZ w os).heap)=true:=by kernel_rfl
theorem lkB (w:World) (os:OsState):openSeen qv [] (importedModules rp.main.body) Xt true (sZ w os)=openGood qv []:=by kernel_rfl
theorem said:rw1.wellSaid=true:=by kernel_rfl
theorem opn (w:World):(fencedOpening treeTable rp w 3762).map (fun s=>(s.heap,s.gens,s.drawn,s.toks))=some (boot_heap w.params,#[],boot_drawn,boot_toks):=boot_open (p:=rp) (N:=3762) (by kernel_rfl) (by decide) (fun s=>by kernel_rfl) w
theorem siz (w:World):((boot_heap w.params).isNs mainGlobals&&(#[]:Array GenState).size==0,(boot_heap w.params).objs.size,(boot_heap w.params).nsMap mainGlobals "__annotations__")=(true,11,some (.ref 6)):=by kernel_rfl
theorem ok40:(chainsOk qv&&opensWell rw1.row.toRowW.prog&&(frees rw1.row.toRowW&&rw1.row.toRowW.within.isEmpty))=true:=by kernel_rfl
theorem leftO {p q:Program}{Xt:Shared->Bool}{α:Type}{Yf:Shared->α}{Ya:World->α}{N M:Nat}{H:Params->Heap}{g:Array GenState}{d:Drawn}{k m:Nat}{an:Option Value}{S:World->OsState->Shared}
  (o:∀ w,(fencedOpening treeTable p w N).map (fun s=>(s.heap,s.gens,s.drawn,s.toks))=some (H w.params,g,d,k))
  (z:∀ w:World,((H w.params).isNs mainGlobals&&g.size==0,(H w.params).objs.size,(H w.params).nsMap mainGlobals "__annotations__")=(true,m,an))
  (r:∀ w os,topRun treeTable p w m an M ⟨H w.params,g,d,k,os⟩ (topStub p)=some (S w os)) (le:Nat.ble M N=true)
  (a:∀ w os,(staticsOk (importedModules p.main.body) (H w.params) (S w os).heap&&namesBound p (S w os).heap&&gensDone (S w os)&&laidKept (H w.params) (S w os).heap)=true)
  (b:∀ w os,openSeen q [] (importedModules p.main.body) Xt true (S w os)=openGood q []) (y:∀ w os,Yf (S w os)=Ya w):LeftO p q [] Xt Yf Ya N:=fun w=>by
 obtain⟨⟨h,gs,d',k',os⟩,e,e'⟩:=Option.map_eq_some_iff.mp (o w)
 obtain⟨rfl,rfl,rfl,rfl⟩:h=H w.params∧gs=g∧d'=d∧k'=k:=by simpa using e'
 obtain⟨z1,z2,z3⟩:_∧_∧_:=by simpa only[Prod.mk.injEq] using z w
 have u:=topRun_mono (N - M) _ _ _ _ (r w os)
 rw[show M + (N - M)=N by have:=Nat.le_of_ble_eq_true le;omega] at u
 unfold openEnds;rw[e]
 show (topFrom treeTable p w N _).map _=_
 have t:topFrom treeTable p w N ⟨H w.params,gs,d',k',os⟩=some (S w os):=by
  unfold topFrom;dsimp only;rw[z1,z2,z3,u]
  show (match _ with | true=>_ | false=>_)=_
  rw[a w os]
 rw[t];exact congrArg some (Prod.ext (b w os) (y w os))
theorem left:LeftO rp qv [] Xt HK.obs HK.val 3762:=leftO opn siz runA (by decide) lkA lkB lkY
end Mine
end
section
set_option maxRecDepth 100000
open PySem PySem.W PyProof.Rows PySem.Calls
namespace Mine
noncomputable def PureLaw:Prop:=∀ is:List Int,is.length≤63→runF (callF theFn 2000 200) 2000 F_law [.lst (is.map V.int)] []=some (.ok (.bool true) [])
set_option maxHeartbeats 8000000 in
theorem fz (P:Params):FZ (KK P) 51 31 48 28 where
 objC:=⟨_,_,_,rfl,rfl,rfl,rfl,rfl⟩
 call:=by kernel_rfl
 typ:=by kernel_rfl
 init:=by kernel_rfl
 t1:=by kernel_rfl
 sa:=by kernel_rfl
 atT:=by kernel_rfl
 atA:=by kernel_rfl
 exi:=by kernel_rfl
 rdD:=by kernel_rfl
 fiD:=by kernel_rfl
 fn1:=⟨_,_,_,_,_,_,_,_,_,_,_,⟨⟨_,rfl,rfl⟩,by kernel_rfl,rfl,rfl,rfl,rfl,by decide +kernel,rfl,rfl,by decide +kernel⟩,rfl,by kernel_rfl,fun a b c=>by kernel_rfl⟩
 fn2:=⟨_,_,_,_,_,_,_,_,_,_,_,⟨⟨_,rfl,rfl⟩,by kernel_rfl,rfl,rfl,rfl,rfl,by decide +kernel,rfl,rfl,by decide +kernel⟩,rfl,by kernel_rfl,fun a b=>by kernel_rfl⟩
end Mine
end
section
set_option maxRecDepth 100000
open PySem PySem.W PyProof.Rows PySem.Calls
namespace Mine
theorem chk_all:chkAll qv=true:=by kernel_rfl
theorem fn_lt {f:Nat} {fn:Fn} (h:theFn f=some fn):f < 40:=by
 rcases Nat.lt_or_ge f 40 with q | q
 ·exact q
 ·obtain ⟨n,rfl⟩:=Nat.exists_eq_add_of_le' q
  exact (noS h).elim
theorem def_of {f:Nat} {fn:Fn} (h:theFn f=some fn):∃ d∈recsOf qv,tx d.name=fn.name∧chkDef fn d=true:=by
 have:=List.all_eq_true.mp chk_all f (List.mem_range.mpr (fn_lt h))
 rw [h] at this
 cases q:theDef qv fn.name with
 | none=>exact (Bool.false_ne_true ((congrArg (fun o:Option DefRec=>match o with | some d=>chkDef fn d | none=>false) q).symm.trans this)).elim
 | some d=>exact ⟨d,List.mem_of_find?_eq_some q,beq_iff_eq.mp (List.find?_some (p:=fun d:DefRec=>tx d.name==fn.name) q),(congrArg (fun o:Option DefRec=>match o with | some d=>chkDef fn d | none=>false) q).symm.trans this⟩
theorem ns_of {K:Frag} {h:Heap} {N:Addr} {mg:Str→Option Value} {n:Str} {v:Value} (X:K.In h) (G:h.Ns N mg) (e:nsIn K N n=some (some v)):mg n=some v:=by
 obtain ⟨o,es,ep,ho,hd,_,hf⟩:=G
 unfold nsIn at e
 cases q:K.lookup N with
 | none=>rw [q] at e; exact (noS e).elim
 | some o2 =>
  rw [q] at e
  obtain rfl:=Option.some.inj (ho.symm.trans (X _ _ q))
  obtain ⟨c,d,da,sl⟩:=o
  obtain rfl:da=_:=hd
  cases he:es.toList.find? (·.key.isStr n) with
  | none =>
   by_cases hb:es.toList.any (·.refKey)=true
   ·simp only [he,hb,if_true] at e; exact (noS e).elim
   ·simp only [he,if_neg hb] at e; exact (noS (Option.some.inj e)).elim
  | some en =>
   simp only [he] at e
   rw [← hf,← Option.some.inj e]
   unfold nsFind findBy
   rw [← Array.find?_toList,he]; rfl
theorem two_in {α:Type} [BEq α] [LawfulBEq α] {x a b:α} (h:[a,b].contains x=true):x=a∨x=b:=by
 rcases List.mem_cons.mp (List.contains_iff_mem.mp h) with e | e
 ·exact .inl e
 ·exact .inr (List.mem_singleton.mp e)
section
variable {w:World} {s₁:Shared} {mg mb:Str→Option Value} {mean:ExcName→Option Value} {loose:List Str}
noncomputable def theGd (KX:(KK w.params).In s₁.heap) (T:Top qv loose mean mg mb s₁.heap):Gd s₁.heap where
 mg:=mg
 mb:=mb
 g:=T.g
 b:=T.b
 nolimit:=T.nolimit
 hlen:=⟨ns_none_of KX T.g (by kernel_rfl),(T.builtins _ (by decide +kernel)).trans (by kernel_rfl)⟩
 hstr:=⟨ns_none_of KX T.g (by kernel_rfl),(T.builtins _ (by decide +kernel)).trans (by kernel_rfl)⟩
 hint:=⟨ns_none_of KX T.g (by kernel_rfl),(T.builtins _ (by decide +kernel)).trans (by kernel_rfl)⟩
 hrange:=⟨ns_none_of KX T.g (by kernel_rfl),(T.builtins _ (by decide +kernel)).trans (by kernel_rfl)⟩
 hzip:=⟨ns_none_of KX T.g (by kernel_rfl),(T.builtins _ (by decide +kernel)).trans (by kernel_rfl)⟩
 hints:=fun x i h=>by
  rcases two_in h with e | e <;> obtain ⟨rfl,rfl⟩:=Prod.mk.inj e
  ·exact ⟨248,ns_of KX T.g (by kernel_rfl)⟩
  ·exact ⟨250,ns_of KX T.g (by kernel_rfl)⟩
 hstrs:=fun x z h=>by
  rcases two_in h with e | e <;> obtain ⟨rfl,rfl⟩:=Prod.mk.inj e
  ·exact ⟨246,ns_of KX T.g (by kernel_rfl)⟩
  ·exact ⟨486,ns_of KX T.g (by kernel_rfl)⟩
noncomputable def theFG (KX:(KK w.params).In s₁.heap) (T:Top qv loose mean mg mb s₁.heap):FG s₁.heap 51 31 where
 mg:=mg
 mb:=mb
 g:=T.g
 b:=T.b
 nolimit:=T.nolimit
 exc:=⟨ns_none_of KX T.g (by kernel_rfl),(T.builtins _ (by decide +kernel)).trans (by kernel_rfl)⟩
 cD:=ns_of KX T.g (by kernel_rfl)
noncomputable def addrOf (mg:Str→Option Value) (f:Nat):Addr:=match theFn f with
 | some fn=>(match mg (sOf fn.name) with | some (.ref a)=>a | _=>0)
 | none=>0
theorem addr_ok (T:Top qv loose mean mg mb s₁.heap) (f:Nat) (fn:Fn) (h:theFn f=some fn):mg (sOf fn.name)=some (.ref (addrOf mg f))∧∃ d,DefAt s₁.heap fn (addrOf mg f) d:=by
 obtain ⟨d,hd,hn,hc⟩:=def_of h
 obtain ⟨a,o,pm,code,doc,h1,h2,h3,h4⟩:=T.fn d hd
 have hx:sOf fn.name=d.name:=by rw [← hn,sOf_tx]
 have ha:addrOf mg f=a:=by
  unfold addrOf
  rw [h]
  simp only [hx,h1]
 rw [ha,hx]
 exact ⟨h1,d,⟨o,pm,code,doc,h2,h3,h4⟩,hc⟩
noncomputable def WI (P:Params) (h:Heap) (v:Value):WData→Prop
 | .int i=>∃ t,v=.int i t
 | .list xs=>∃ a vs,v=.ref a∧h.get? a=some { cls:=.type "list",data:=.seq vs.toArray }∧WellAll P h vs xs
 | _=>True
theorem well_inv {P:Params} {h:Heap} {v:Value} {d:WData} (W:Well P h v d):WI P h v d:=by
 cases W with
 | int i t=>exact ⟨t,rfl⟩
 | list e ws=>exact ⟨_,_,rfl,e,ws⟩
 | _=>exact trivial
theorem well_ints {P:Params} {h:Heap}:∀ (is:List Int) (vs:List Value),WellAll P h vs (ofPys (is.map PyData.int))→∀ h' F σ,VRs h' F σ vs (is.map V.int)
 | [],_,W,_,_,_=>by cases W; exact .nil
 | i :: is,_,W,h',F,σ=>by
  cases W with
  | cons w ws =>
   obtain ⟨t,rfl⟩:=well_inv w
   exact .cons (.int _ _) (well_ints is _ ws h' F σ)
theorem wellInts {P:Params} {h:Heap} {a:Addr} (is:List Int) (W:Well P h (.ref a) (ofPy (PyData.list (is.map PyData.int)))):∃ vs,h.get? a=some (LstO vs.toArray 0)∧∀ h' F σ,VRs h' F σ vs (is.map V.int):=by
 obtain ⟨b,vs,e1,e2,e3⟩:=well_inv W
 obtain rfl:a=b:=Value.ref.inj e1
 exact ⟨vs,e2,well_ints is vs e3⟩
set_option tactic.hygienic true in
theorem join (PL:PureLaw) {prog:Program} {A:Around} {name:Str} {scope:Scope} {body:List Stmt} {fa aL:Addr} {cd:Value} {h₁:Heap} {tk:Nat} {is:List Int} {ocell:Obj} {E:Value→Shared→Prop}
  (KX:(KK w.params).In s₁.heap) (T:Top qv loose mean mg mb s₁.heap) (hW:Well w.params s₁.heap (.ref aL) (ofPy (PyData.list (is.map PyData.int)))) (hlen:is.length≤63)
  (hA1:A.frames=some []) (hA2:A.units + 1000 < cLine) (hA3:A.depth + 300 < recursionLimit) (hA4:A.handled=none)
  (hc:chkSs F_law.vars (fun z=>scope.names.lookup z) F_law.body body=true) (hk:scope.kind=.function) (hfree:∀ y∈scope.names,y.2≠.free) (hsc:scope.names.lookup ("script" : Str)=some .local) (hpen0:(scope.names.all fun y=>y.2 != .cell||y.1==("pen" : Str))=true)
  (hcells:∀ n,cellsFrom n scope.names []=[(("pen" : Str),n)])
  (F:Fr s₁.heap s₁.heap.objs.size h₁ (bindL (envOfC name scope s₁.heap.objs.size fa cd).kindOf [(("script" : Str),.ref aL)] fun _=>none)) (hcell:h₁.get? (s₁.heap.objs.size + 1)=some ocell) (hcd:ocell.data=.cell none) :
  wpAny (model prog w) (A.deeper (envOfC name scope s₁.heap.objs.size fa cd)) (execs body (envOfC name scope s₁.heap.objs.size fa cd))
   (fun fl s'=>fl=.ret (.bool true)∧(∀ b o,s₁.heap.get? b=some o→s'.heap.get? b=some o)∧s'.os=s₁.os∧s'.gens=s₁.gens) E { s₁ with heap:=h₁,toks:=tk }:=by
 have hpen:∀ x,scope.names.lookup x=some .cell→x=("pen" : Str):=fun x hx=>by
  have:=List.all_eq_true.mp hpen0 _ (PySem.mem_of_lookup hx)
  simpa using this
 have Y:=fz w.params
 have hFF:mg (sOf [70,111,114,109,97,116,70,97,117,108,116])=some (.ref 51):=ns_of KX T.g (by kernel_rfl)
 have rs:=raiseSnd (prog:=prog) (w:=w) Y KX (theFG KX T)
 have ct:=catchSnd (prog:=prog) (w:=w) Y KX
 have kc:=clsSnd (prog:=prog) (w:=w) Y KX
 have cs:=callSnd (prog:=prog) (w:=w) (theGd KX T) (addr_ok T) hFF rs ct kc 2000 200
 let env:=envOfC name scope s₁.heap.objs.size fa cd
 let c:Cx:=⟨s₁.heap,[env],0,fun _=>none,.ref 51⟩
 have hsz:s₁.heap.get? s₁.heap.objs.size=none:=size_none _ (Nat.le_refl _)
 have hsz1:s₁.heap.get? (s₁.heap.objs.size + 1)=none:=size_none _ (Nat.le_succ _)
 have X:c.Ok h₁ [] []:={
  stays:=F.keep
  frames:=by
   obtain ⟨o,es,ep,ho,hd',_⟩:=F.ns
   exact ⟨by show scope.kind≠.module; rw [hk]; decide,⟨_,o,rfl,hsz,ho,fun vs q=>by rw [hd'] at q; cases q⟩,trivial⟩
  frd:=fun e he L hL'=>by
   simp only [c,List.mem_cons,List.not_mem_nil,or_false] at he
   subst he
   cases hL'
   exact ⟨_,F.ns⟩
  len:=rfl
  nodup:=List.nodup_nil
  apart:=fun a ha=>by cases ha
  dom:=fun a ha=>by cases ha
  objs:=fun i l e=>by simp at e
  loc:=fun i _=>rfl
  blen:=Nat.le_refl _
  hi:=fun i hi=>absurd hi (Nat.not_lt_zero _)
  hs:=fun i hi=>absurd hi (Nat.not_lt_zero _) }
 have hce:env.cells=[(("pen" : Str),s₁.heap.objs.size + 1)]:=hcells _
 have clk:∀ x a,env.cells.lookup x=some a→x=("pen" : Str)∧a=s₁.heap.objs.size + 1:=fun x a hx=>by
  rw [hce] at hx
  simp only [List.lookup] at hx
  split at hx
  ·rename_i q
   cases hx
   exact ⟨by simpa using q,rfl⟩
  ·cases hx
 have eo:EnvOk env:=⟨hk,rfl,rfl,fun x hx=>by
  rw [hce]
  rcases hx with hx | hx
  ·rw [hpen x hx]; exact ⟨s₁.heap.objs.size + 1,by simp [List.lookup]⟩
  ·exact absurd rfl (hfree _ (PySem.mem_of_lookup hx))⟩
 have FE:FnE c env:=⟨eo,⟨[],rfl⟩,rfl,fun x y a hx hy=>by rw [(clk x a hx).1,(clk y a hy).1],fun x a hx=>by rw [(clk x a hx).2]; exact hsz1⟩
 have fm:Fm env h₁:=⟨⟨_,F.ns⟩,fun x a hx=>⟨none,by rw [(clk x a hx).2]; exact ⟨ocell,hcell,hcd⟩⟩⟩
 have au:AOk c (A.deeper env) 204:=⟨Around.frames_deeper hA1,by rw [units_deeper]; omega,by rw [depth_deeper]; omega,hA4⟩
 have R:RdyS prog w c (A.deeper env) (callF theFn 2000 200) 204 :=
  { G:=theGd KX T,hne:=by simp [c],au:=au,fa:=addrOf mg,hfa:=fun f fn hf=>⟨(addr_ok T f fn hf).1,by obtain ⟨_,d,⟨o,pm,code,doc,ho,hdat,_⟩,_⟩:=addr_ok T f fn hf; exact ⟨o,_,ho,hdat⟩⟩,cs:=cs,hC:=hFF,rs:=rs,ct:=ct,kc:=kc,n4:=by omega }
 obtain ⟨vs,hoL,hvs⟩:=wellInts is hW
 have hlist:VR h₁ (Live [] []) [] (.ref aL) (.lst (is.map V.int)):=by
  have hl:vs.length=is.length:=by have:=(hvs h₁ (Live [] []) []).length; simpa using this
  exact .lst (n:=0) (F.keep _ _ hoL) (fun z=>by obtain ⟨i,l,e,_⟩:=z; simp at e) (by rw [List.size_toArray,hl]; show _≤1048576; omega) (hvs _ _ _)
 have hvars:Vars F_law.vars env h₁ [] [] (some (.lst (is.map V.int)) :: List.replicate 4 none):=fun i v e x hx hkx=>by
  cases i with
  | succ i =>
   rw [List.getElem?_cons_succ,List.getElem?_replicate] at e
   split at e <;> cases e
  | zero =>
   simp only [List.getElem?_cons_zero,Option.some.injEq] at e
   subst e
   have hxs:x="script" := tx_inj (by rw [← Option.some.inj hx]; decide +kernel)
   subst hxs
   refine ⟨.ref aL,.inl ⟨hsc,_,F.ns,?_⟩,hlist⟩
   show bindL _ _ _ _=_
   unfold bindL
   rw [if_pos (show env.kindOf ("script" : Str)=some .local from hsc)]
   unfold bindL
   exact if_pos rfl
 exact law_walk (c:=c) (env:=env) (s:={ s₁ with heap:=h₁,toks:=tk }) (E:=E) R FE rfl hc X hvars fm (PL is hlen)
end
end Mine
end
section
set_option maxRecDepth 100000
open PySem PySem.W PyProof.Rows PySem.Calls
namespace Mine
set_option tactic.hygienic true in
set_option maxHeartbeats 8000000 in
theorem main (PL:PureLaw):PySem.Challenge.rw_no0245_01.Holds:=holds_law said fun sd=>by
 refine holds_open (q:=qv) (loose:=[]) (Xt:=Xt) (XP:=XL qv []) (Yf:=HK.obs) (Ya:=HK.val) (YP:=(kHook KK [3,28,30,31,48,50,51,2,27,47,22,24,25,42,44,45] fun _=>rfl).says) (N:=3762) left HK.of HK.keeps (fun s e=>xl_of s (Bool.and_eq_true_iff.mp e).1) XL.keeps (by rfl) (by rfl) (by rfl) (fun s e=>recFacts_of (Bool.and_eq_true_iff.mp e).2) (by rfl) sd ok40 ⟨rfl,rfl,rfl,rfl,rfl,by decide +kernel⟩ ⟨[.list []],by decide +kernel,by decide +kernel⟩ ?_
 generalize hq:qv=q
 k_go0
 all_goals (
 rename_i w s₀ s₁ mg mb G Y fa o pm cd doc ho hcd hg KX XX V T B D TE TW bm ob M is hs hlay0 hLay hr1 hl2 as5 as4 aL vs as1 hL ra w1 r0 hI hr hcond hcond2 K0 hD h₁ tk₁ F oc hoc N0 X0
 subst hq
 refine wpAny_mono (join (E:=_) PL KX T w1 (by omega +splitNatSub) rfl (by decide) (by decide) rfl (by decide +kernel) rfl (by decide +kernel) (by decide +kernel) (by decide +kernel) (fun n=>rfl) F (N0 _ (List.mem_singleton.mpr rfl)).1 (hoc.trans (by rfl))) (fun fl s' h=>?_) (fun _ _ h=>h)
 obtain ⟨rfl,hkeep,hos,hgens⟩:=h
 refine ⟨.inl ⟨.bool true,.bool true,[],rfl,fun _=>rfl,.bool true,?_,unshared_nil⟩,hkeep,hos,hgens.trans hg⟩
 exact postW_of rfl (X:=true) (by
  show WTm.value _ (WTm.eq .res (.lit (.bool true))) _=_
  simp [WTm.value,same]
  ) rfl)
end Mine
end
theorem PySem.Challenge.cw_no0245_01_holds : PySem.Challenge.rw_no0245_01.Holds := by
  exact Mine.main Mine.P.law_true

