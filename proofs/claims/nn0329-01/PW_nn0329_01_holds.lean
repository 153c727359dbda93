import PyProof.Rows.All
import Wide.All
import OpenK.AllK
import Wide.FinOn
import Lean
import PySem.Challenge.RW_nn0329_01
set_option Elab.async false
set_option autoImplicit false
set_option tactic.hygienic false
set_option linter.all false
set_option genSizeOf false
set_option compiler.extract_closed false
set_option maxRecDepth 100000
namespace Mine
section
inductive V where
 | none
 | bool (b:Bool)
 | int (i:Int)
 | str (k:Nat)
 | tup (xs:List V)
 | range (lo hi:Int) (down:Bool)
 | ref (a:Nat)
 | part (a k:Nat)
inductive O where
 | list (xs:List V)
 | dict (es:List (V×V))
 | aig (N I U:List V) (T:List (V×V))
noncomputable abbrev Hp:=Nat->Option O
structure St where
 loc:List (Option V)
 H:Hp
inductive Fl where
 | next | brk | cont
 | ret (v:V)
inductive Op where
 | add | sub | mul | fdiv | mod | pow | shl | shr | band | bor | bxor
inductive GJ where
 | lt | le | gt | ge | eq | ne | is | dm | sa | BV
inductive Bi where
 | len | max | min | sum | sorted | tuple | list | range
inductive Lm where
 | append | pop | nB | insert | get
set_option genCtorIdx false in
set_option genSizeOf false in
set_option genInjectivity false in
mutual
inductive E where
 | none
 | bool (b:Bool)
 | int (i:Nat)
 | str (k:Nat)
 | var (i:Nat)
 | bin (op:Op) (a b:E)
 | neg (a:E)
 | inv (a:E)
 | cmp (op:GJ) (a b:E)
 | ite (c:B) (a b:E)
 | w4 (xq:Bool) (a b:E)
 | attr (a:E) (k:Nat)
 | sub (a i:E)
 | EK (a hi:E)
 | from (a lo:E)
 | tup (es:List E)
 | list (es:List E)
 | uj
 | AF (k v:E)
 | call (f:Nat) (es:List E)
 | gZ (f:Nat) (o:E) (es:List E)
 | mk
 | blt (b:Bi) (es:List E)
 | lm (m:Lm) (o:E) (es:List E)
 | Cz (e:E)
 | comp (x:Nat) (it:E) (c:Option B) (elt:E)
inductive B where
 | e (e:E)
 | not (b:B)
 | and (bs:List B)
 | or (bs:List B)
end
set_option genCtorIdx false in
set_option genSizeOf false in
set_option genInjectivity false in
inductive S where
 | assign (x:Nat) (e:E)
 | unpack (xs:List Nat) (e:E)
 | bB (o i e:E)
 | cq (x:Nat) (op:Op) (e:E)
 | oR (o i:E) (op:Op) (e:E)
 | expr (e:E)
 | iff (c:B) (t f:List S)
 | while (c:B) (body:List S)
 | bL (x:Nat) (it:E) (body:List S)
 | AY (xs:List Nat) (it:E) (body:List S)
 | brk | cont
 | ret (e:E)
 | raise
noncomputable def df {α:Type}:List α->Nat->Option α
 | [],_=> .none
 | a::_,0=>some a
 | _::l,n+1=>df l n
noncomputable def put {α:Type}:List α->Nat->α->List α
 | [],_,_=> []
 | _::l,0,b=>b::l
 | a::l,n+1,b=>a::put l n b
noncomputable def upd (H:Hp) (a:Nat) (o:O):Hp:=λ b=>if b=a then some o else H b
mutual
noncomputable def jN:V->V->Bool
 | .none, .none=>true
 | .bool a, .bool b=>a == b
 | .int a, .int b=>a == b
 | .str a, .str b=>a == b
 | .tup a, .tup b=>pL a b
 | _,_=>false
noncomputable def pL:List V->List V->Bool
 | [],[]=>true
 | a::as,b::bs=>jN a b && pL as bs
 | _,_=>false
end
noncomputable def bitNot (x:Int):Int:= -x - 1
noncomputable def bitAnd (x y:Int):Int:=
 match decide (0<=x),decide (0<=y) with
 | true,true=>((x.toNat &&& y.toNat:Nat):Int)
 | true,false=>x - ((x.toNat &&& (bitNot y).toNat:Nat):Int)
 | false,true=>y - ((y.toNat &&& (bitNot x).toNat:Nat):Int)
 | false,false=>bitNot (((bitNot x).toNat ||| (bitNot y).toNat:Nat):Int)
noncomputable def bitOr (x y:Int):Int:=bitNot (bitAnd (bitNot x) (bitNot y))
noncomputable def bitXor (x y:Int):Int:=bitOr x y - bitAnd x y
noncomputable def lim:Nat:=1000000
noncomputable def Pl {α:Type} (f:Nat->Nat->α) (g:Int->Int->α) (x y:Int):α:=match x with
 | .ofNat a=>(match y with | .ofNat b=>f a b | .negSucc _=>g x y)
 | .negSucc _=>g x y
theorem ng {α:Type} {f:Nat->Nat->α} {g:Int->Int->α} (h: ∀a b:Nat,f a b=g a b) (x y:Int):Pl f g x y=g x y:=by
 cases x with
 | ofNat a=>
  cases y with
  | ofNat b=>exact h a b
  | negSucc _=>rfl
 | negSucc _=>rfl
noncomputable def Pk:Int->Int->Int:=Pl (λ a b=>((a &&& b:Nat):Int)) bitAnd
noncomputable def iOr:Int->Int->Int:=Pl (λ a b=>((a ||| b:Nat):Int)) bitOr
noncomputable def Ug:Int->Int->Int:=Pl (λ a b=>((a ^^^ b:Nat):Int)) bitXor
noncomputable def WX:Int->Int->Int:=Pl (λ a b=>((a >>> b:Nat):Int)) λ x y=>x.fdiv (2 ^ y.toNat)
noncomputable def WW:Int->Int->Bool:=Pl (λ a b=>decide (a < b)) λ x y=>decide (x < y)
noncomputable def WV:Int->Int->Bool:=Pl (λ a b=>decide (a<=b)) λ x y=>decide (x<=y)
noncomputable def iEq:Int->Int->Bool:=Pl (λ a b=>decide (a=b)) λ x y=>x == y
noncomputable def iNz:Int->Bool:=λ x=>Pl (λ a _=>decide (a≠0)) (λ x _=>x != 0) x 0
theorem uE (x y:Int):WW x y=decide (x < y):=ng (λ a b=>decide_eq_decide.mpr Int.ofNat_lt.symm) x y
theorem DW (x y:Int):WV x y=decide (x<=y):=ng (λ a b=>decide_eq_decide.mpr Int.ofNat_le.symm) x y
theorem KP (x y:Int):iEq x y=(x == y):=ng (λ a b=>decide_eq_decide.mpr Int.ofNat_inj.symm) x y
theorem Ud (x:Int):iNz x=(x != 0):=ng (λ a b=>by by_cases h:a=0 <;> simp [h]) x 0
noncomputable def cG (lo hi:Int):Bool->List V
 | false=>(List.range (hi - lo).toNat).map λ i=>V.int (lo+(i:Nat))
 | true=>(List.range (lo - hi).toNat).map λ i=>V.int (lo - (i:Nat))
noncomputable def itemsOf (H:Hp):V->Option (List V)
 | .tup xs=>some xs
 | .range lo hi d=>some (cG lo hi d)
 | .ref a=>match H a with | some (.list xs)=>some xs | _=> .none
 | .part a k=>match H a with
  | some (.aig N I U _)=>(match k with | 0=>some N | 1=>some I | 2=>some U | _=> .none)
  | _=> .none
 | _=> .none
noncomputable def cU (H:Hp):V->Option (List V)
 | .range ..=> .none
 | v=>itemsOf H v
noncomputable def lg (H:Hp) (v:V) (ys:List V):Option Hp:=match v with
 | .ref a=>match H a with | some (.list _)=>some (upd H a (.list ys)) | _=> .none
 | .part a k=>match H a with
  | some (.aig N I U T)=>(match k with
   | 0=>some (upd H a (.aig ys I U T)) | 1=>some (upd H a (.aig N ys U T)) | 2=>some (upd H a (.aig N I ys T)) | _=> .none)
  | _=> .none
 | _=> .none
noncomputable def dictOf (H:Hp):V->Option (List (V×V))
 | .ref a=>match H a with | some (.dict es)=>some es | _=> .none
 | .part a k=>if k=3 then (match H a with | some (.aig _ _ _ T)=>some T | _=> .none) else .none
 | _=> .none
noncomputable def k9 (H:Hp) (v:V) (es:List (V×V)):Option Hp:=match v with
 | .ref a=>match H a with | some (.dict _)=>some (upd H a (.dict es)) | _=> .none
 | .part a k=>if k=3 then (match H a with | some (.aig N I U _)=>some (upd H a (.aig N I U es)) | _=> .none) else .none
 | _=> .none
noncomputable def cH:V->V->Bool
 | .ref _, .int _=>true
 | .part _ _, .tup [.int _, .int _]=>true
 | _,_=>false
noncomputable def bU (es:List (V×V)) (k:V):Option V:=match es with
 | []=> .none
 | (a,v)::r=>if jN a k then some v else bU r k
noncomputable def cR (es:List (V×V)) (k v:V):List (V×V):=match es with
 | []=> [(k,v)]
 | (a,u)::r=>if jN a k then (a,v)::r else (a,u)::cR r k v
noncomputable def place (i:Int) (n:Nat):Option Nat:=
 if 0<=i then (if i < n then some i.toNat else .none) else (if 0<=i+n then some (i+n).toNat else .none)
noncomputable def truth (H:Hp):V->Option Bool
 | .none=>some false
 | .bool b=>some b
 | .int i=>some (iNz i)
 | .tup xs=>some (!xs.isEmpty)
 | .ref a=>match H a with | some (.list xs)=>some (!xs.isEmpty) | _=> .none
 | _=> .none
noncomputable def gE (a b c d:Int):Bool:=a < c || (a == c && b<=d)
noncomputable abbrev PV:=V->St->Prop
noncomputable abbrev PB:=Bool->St->Prop
noncomputable abbrev PF:=Fl->St->Prop
noncomputable def alloc (o:O) (Q:PV) (σ:St):Prop:= ∀a,σ.H a= .none->Q (.ref a) ⟨σ.loc,upd σ.H a o⟩
noncomputable def I5 (x:Option (Option V)) (Q:PV) (σ:St):Prop:=match x with
 | some (some v)=>Q v σ
 | _=>False
noncomputable def gG (v:V) (Q:PB) (σ:St):Prop:=match truth σ.H v with
 | some b=>Q b σ
 | .none=>False
noncomputable def Gb (x y:Int):Prop:=x.natAbs < 2 ^ 64\/y.natAbs < 2 ^ 64
noncomputable def pn (x y:V) (k:Int->Int->Prop):Prop:=match x with | .int x=>(match y with | .int y=>k x y | _=>False) | _=>False
theorem qq {i j:Int} {k:Int->Int->Prop}:pn (.int i) (.int j) k=k i j:=rfl
theorem tK {x y:V} {k:Int->Int->Prop} (h:pn x y k): ∃i j,x= .int i/\y= .int j/\k i j:=by
 cases x with
 | int i=>
  cases y with
  | int j=>exact ⟨i,j,rfl,rfl,h⟩
  | _=>exact h.elim
 | _=>exact h.elim
noncomputable def cw (op:Op) (x y:V) (Q:PV) (σ:St):Prop:=match op with
 | .add=>(match x with
  | .int x=>(match y with | .int y=>Q (.int (x+y)) σ | _=>False)
  | .ref a=>(match y with
   | .ref b=>(match σ.H a,σ.H b with
    | some (.list xs),some (.list ys)=>(xs.length+ys.length<=lim)/\alloc (.list (xs++ys)) Q σ
    | _,_=>False)
   | _=>False)
  | _=>False)
 | .sub=>pn x y λ x y=>Q (.int (x - y)) σ
 | .mul=>(match x with
  | .int x=>(match y with | .int y=>Gb x y/\Q (.int (x*y)) σ | _=>False)
  | .ref a=>(match y with
   | .int k=>(match σ.H a with
    | some (.list [x])=>(0<=k/\k<=lim)/\alloc (.list (List.replicate k.toNat x)) Q σ
    | _=>False)
   | _=>False)
  | _=>False)
 | .fdiv=>pn x y λ x y=>(y≠0/\y.natAbs < 1073741824)/\Q (.int (x.fdiv y)) σ
 | .mod=>pn x y λ x y=>y≠0/\Q (.int (x.fmod y)) σ
 | .pow=>pn x y λ x y=>(0<=y/\y<=1000000/\x.natAbs < 2 ^ 64)/\Q (.int (x ^ y.toNat)) σ
 | .shl=>pn x y λ x y=>(0<=y/\y<=1000000/\x.natAbs < 2 ^ 64)/\Q (.int (x*2 ^ y.toNat)) σ
 | .shr=>pn x y λ x y=>match y with | .ofNat _=>Q (.int (WX x y)) σ | .negSucc _=>False
 | .band=>pn x y λ x y=>Q (.int (Pk x y)) σ
 | .bor=>pn x y λ x y=>Q (.int (iOr x y)) σ
 | .bxor=>pn x y λ x y=>Q (.int (Ug x y)) σ
noncomputable def jR (op:Op) (x y:V) (Q:PV) (σ:St):Prop:=match x with
 | .int x=>(match y with | .int y=>cw op (.int x) (.int y) Q σ | _=>False)
 | .ref a=>(match y with
  | .ref b=>(match op with
   | .add=>(match σ.H a,σ.H b with
    | some (.list xs),some (.list ys)=>(xs.length+ys.length<=lim/\a≠b)/\Q (.ref a) ⟨σ.loc,upd σ.H a (.list (xs++ys))⟩
    | _,_=>False)
   | _=>False)
  | _=>False)
 | _=>False
noncomputable def allInts:List V->Bool
 | []=>true
 | .int _::r=>allInts r
 | _=>false
noncomputable def mq:List V->Bool
 | []=>true
 | .bool _::r=>mq r
 | _=>false
noncomputable def Bh (x:V) (xs:List V) (Q:Bool->Prop):Prop:=match x with
 | .int _=>allInts xs=true/\Q (xs.any (jN x))
 | .bool _=>mq xs=true/\Q (xs.any (jN x))
 | _=>False
noncomputable def jh:V->Bool
 | .none=>true
 | _=>false
noncomputable def inP (x v:V) (Q:Bool->Prop) (σ:St):Prop:=match v with
 | .tup xs=>(match x with | .int _=>allInts xs=true/\Q (xs.any (jN x)) | _=>False)
 | v=>match dictOf σ.H v with
  | some es=>cH v x=true/\Q (bU es x).isSome
  | .none=>match cU σ.H v with
   | some xs=>Bh x xs Q
   | .none=>False
noncomputable def plain:V->Bool
 | .none | .int _ | .str _=>true
 | _=>false
noncomputable def xg:V->Bool
 | .tup xs=>xs.all plain
 | v=>plain v
mutual
noncomputable def flat:V->Bool
 | .none | .int _ | .str _=>true
 | .tup xs=>iM xs
 | _=>false
noncomputable def iM:List V->Bool
 | []=>true
 | x::r=>flat x && iM r
end
noncomputable def dZ (H:Hp):V->Option (List V)
 | .ref a=>itemsOf H (.ref a)
 | .part a k=>itemsOf H (.part a k)
 | _=> .none
inductive Vx (H:Hp) (xs ys:List V) (t:Prop):Prop where
 | mk (p q r p' q' r':V) (e:xs= [p,q,r]) (e':ys= [p',q',r']) (P R S:List V) (h1:dZ H p=some P) (h1':dZ H p'=some P) (h2:dZ H q=some R) (h2':dZ H q'=some R) (h3:dZ H r=some S) (h3':dZ H r'=some S) (f:P.all xg=true/\allInts R=true/\allInts S=true) (t:t)
noncomputable def Yi (x y:V) (Q:Bool->Prop) (σ:St):Prop:=match x,y with
 | .ref a, .ref b=>(match σ.H a,σ.H b with
  | some (.list xs),some (.list ys)=>(allInts xs=true/\allInts ys=true/\Q (pL xs ys))\/Vx σ.H xs ys (Q true)
  | _,_=>False)
 | .int x, .int y=>Q (iEq x y)
 | .str x, .str y=>Q (x == y)
 | .tup xs, .tup ys=>iM xs=true/\ys.all plain=true/\Q (pL xs ys)
 | _,_=>False
noncomputable def Us (xs ys:List V) (k:Bool->Prop):Prop:=match xs with
 | [.int a, .int b]=>(match ys with | [.int c, .int d]=>k (gE a b c d) | _=>False)
 | _=>False
theorem QE {vs:List V} {F:Int->Int->Prop} (h:match vs with | [.int x, .int y]=>F x y | _=>False): ∃x y,vs= [.int x, .int y]/\F x y:=by
 cases vs with
 | nil=>exact h.elim
 | cons v r=>
  cases v with
  | int i=>
   cases r with
   | nil=>exact h.elim
   | cons v r=>
    cases v with
    | int j=>
     cases r with
     | nil=>exact ⟨i,j,rfl,h⟩
     | cons _ _=>exact h.elim
    | _=>exact h.elim
  | _=>exact h.elim
theorem PG {xs ys:List V} {k:Bool->Prop} (h:Us xs ys k): ∃a b c d,xs= [.int a, .int b]/\ys= [.int c, .int d]/\k (gE a b c d):=by
 obtain ⟨a,b,rfl,h⟩:=QE (F:=λ a b=>match (generalizing:=false) ys with | [.int c, .int d]=>k (gE a b c d) | _=>False) h
 obtain ⟨c,d,rfl,h⟩:=QE (F:=λ c d=>k (gE a b c d)) h
 exact ⟨a,b,c,d,rfl,rfl,h⟩
noncomputable def b8 (op:GJ) (x y:V) (Q:PV) (σ:St):Prop:=match op with
 | .lt=>pn x y λ x y=>Q (.bool (WW x y)) σ
 | .le=>match x with
  | .int x=>(match y with | .int y=>Q (.bool (WV x y)) σ | _=>False)
  | .tup xs=>(match y with | .tup ys=>Us xs ys (λ b=>Q (.bool b) σ) | _=>False)
  | _=>False
 | .gt=>pn x y λ x y=>Q (.bool (WW y x)) σ
 | .ge=>pn x y λ x y=>Q (.bool (WV y x)) σ
 | .eq=>Yi x y (λ b=>Q (.bool b) σ) σ
 | .ne=>Yi x y (λ b=>Q (.bool (!b)) σ) σ
 | .is=>match y with | .none=>Q (.bool (jh x)) σ | _=>False
 | .dm=>match y with | .none=>Q (.bool (!jh x)) σ | _=>False
 | .sa=>inP x y (λ b=>Q (.bool b) σ) σ
 | .BV=>match y with | .tup _=>inP x y (λ b=>Q (.bool (!b)) σ) σ | _=>False
noncomputable def b7 (x i:V) (Q:PV) (σ:St):Prop:=match dictOf σ.H x with
 | some es=>cH x i=true/\(match bU es i with | some v=>Q v σ | .none=>False)
 | .none=>match cU σ.H x,i with
  | some xs, .int i=>(match place i xs.length with | some k=>(match df xs k with | some v=>Q v σ | .none=>False) | .none=>False)
  | _,_=>False
noncomputable def t6 (x:V) (k:Nat) (Q:PV) (σ:St):Prop:=match x with
 | .ref a=>(match σ.H a with | some (.aig ..)=>k < 4/\Q (.part a k) σ | _=>False)
 | _=>False
noncomputable def xZ (x i:V) (Q:PV) (σ:St):Prop:=match x,i with
 | .ref a, .int i=>(match σ.H a with | some (.list xs)=>(0<=i/\i<=lim/\xs.length<=lim)/\alloc (.list (xs.take i.toNat)) Q σ | _=>False)
 | _,_=>False
noncomputable def xi (x i:V) (Q:PV) (σ:St):Prop:=match x,i with
 | .ref a, .int i=>(match σ.H a with | some (.list xs)=>(0<=i/\i<=lim/\xs.length<=lim)/\alloc (.list (xs.drop i.toNat)) Q σ | _=>False)
 | _,_=>False
noncomputable def intsOf:List V->Option (List Int)
 | []=>some []
 | .int i::r=>(intsOf r).map (i:: ·)
 | _=> .none
noncomputable def fS:List (V×V)->Option (List Int)
 | []=>some []
 | (.int i,_)::r=>(fS r).map (i:: ·)
 | _=> .none
noncomputable def gD (x:Int):List Int->List Int
 | []=> [x]
 | y::r=>if x<=y then x::y::r else y::gD x r
noncomputable def dD:List Int->List Int
 | []=> []
 | x::r=>gD x (dD r)
noncomputable def eU (b:Bi) (vs:List V) (Q:PV) (σ:St):Prop:=match b with
 | .len=>(match vs with | [v]=>(match cU σ.H v with | some xs=>Q (.int xs.length) σ | .none=>False) | _=>False)
 | .max=>(match vs with | [.int x, .int y]=>Q (.int (if x < y then y else x)) σ | _=>False)
 | .min=>(match vs with | [.int x, .int y]=>Q (.int (if y < x then y else x)) σ | _=>False)
 | .sum=>(match vs with | [.ref a]=>(match σ.H a with | some (.list xs)=>(match intsOf xs with | some is=>Q (.int is.sum) σ | .none=>False) | _=>False) | _=>False)
 | .sorted=>(match vs with | [.ref a]=>(match σ.H a with | some (.dict es)=>(match fS es with | some is=>is.length < 64/\alloc (.list ((dD is).map V.int)) Q σ | .none=>False) | _=>False) | _=>False)
 | .tuple=>(match vs with | [.ref a]=>(match σ.H a with | some (.list xs)=>xs.length<=lim/\Q (.tup xs) σ | _=>False) | _=>False)
 | .list=>(match vs with | [.part a k]=>(match cU σ.H (.part a k) with | some xs=>xs.length<=lim/\alloc (.list xs) Q σ | .none=>False) | _=>False)
 | .range=>(match vs with
  | [.int n]=>n.natAbs<=lim/\Q (.range 0 n false) σ
  | [.int a, .int n]=>(a.natAbs<=lim/\n.natAbs<=lim)/\Q (.range a n false) σ
  | [.int a, .int n, .int s]=>(s= -1/\a.natAbs<=lim/\n.natAbs<=lim)/\Q (.range a n true) σ
  | _=>False)
noncomputable def sd (xs:List V) (n:Nat) (v:V):List V:=xs.take n++v::xs.drop n
noncomputable def xH (m:Lm) (o:V) (vs:List V) (Q:PV) (σ:St):Prop:=match m with
 | .append=>(match vs with
  | [v]=>(match cU σ.H o with
   | some xs=>xs.length < lim/\(match lg σ.H o (xs++ [v]) with | some H'=>Q .none ⟨σ.loc,H'⟩ | .none=>False)
   | .none=>False)
  | _=>False)
 | .pop=>(match vs with
  | []=>(match o with
   | .ref a=>(match σ.H a with
    | some (.list xs)=>(match xs.getLast? with | some v=>Q v ⟨σ.loc,upd σ.H a (.list xs.dropLast)⟩ | .none=>False)
    | _=>False)
   | _=>False)
  | _=>False)
 | .nB=>(match vs with
  | [.int 0]=>(match o with
   | .ref a=>(match σ.H a with
    | some (.list (v::r))=>r.length<=lim/\Q v ⟨σ.loc,upd σ.H a (.list r)⟩
    | _=>False)
   | _=>False)
  | _=>False)
 | .insert=>(match vs with
  | [.int i,v]=>(match o with
   | .ref a=>(match σ.H a with
    | some (.list xs)=>(0<=i/\i<=xs.length/\xs.length < lim)/\Q .none ⟨σ.loc,upd σ.H a (.list (sd xs i.toNat v))⟩
    | _=>False)
   | _=>False)
  | _=>False)
 | .get=>(match vs with
  | [k,d]=>(match dictOf σ.H o with | some es=>cH o k=true/\Q ((bU es k).getD d) σ | .none=>False)
  | _=>False)
noncomputable def zU (v:V) (Q:PV) (σ:St):Prop:=match v with
 | .ref a=>(match σ.H a with
  | some (.list xs)=>(xs.length < 64/\∀x∈xs,∃ys,x=V.tup ys/\allInts ys=true/\ys.length<=lim)/\∀zs,zs.Perm xs->alloc (.list zs) Q σ
  | _=>False)
 | _=>False
noncomputable def bC (o i v:V) (Q:PF) (σ:St):Prop:=match dictOf σ.H o with
 | some es=>(cH o i=true/\es.length < lim/\(∀e∈es,match e.1,i with | .int _, .int _=>True | .tup _, .tup _=>True | _,_=>False))/\
   (match k9 σ.H o (cR es i v) with | some H'=>Q .next ⟨σ.loc,H'⟩ | .none=>False)
 | .none=>match o,i with
  | .ref a, .int i=>(match σ.H a with
   | some (.list xs)=>(0<=i/\i < xs.length)/\Q .next ⟨σ.loc,upd σ.H a (.list (put xs i.toNat v))⟩
   | _=>False)
  | _,_=>False
noncomputable def Oc (x:Nat) (Q:PF) (v:V) (σ:St):Prop:=Q .next ⟨put σ.loc x (some v),σ.H⟩
noncomputable def putAll:List (Option V)->List Nat->List V->List (Option V)
 | l,x::xs,v::vs=>putAll (put l x (some v)) xs vs
 | l,_,_=>l
noncomputable def X1 (xs:List Nat) (Q:PF) (v:V) (σ:St):Prop:=match v with
 | .tup vs=>vs.length=xs.length/\Q .next ⟨putAll σ.loc xs vs,σ.H⟩
 | _=>False
noncomputable def sJ (bind:V->St->Option St) (body:PF->St->Prop) (it:V) (all:List V) (Q:PF):List V->St->Prop
 | [],σ=>Q .next σ
 | y::ys,σ=>match bind y σ with
  | some σ₁=>body (λ f σ₂=>match f with
    | .next | .cont=>itemsOf σ₂.H it=some all/\sJ bind body it all Q ys σ₂
    | .brk=>Q .next σ₂
    | .ret v=>Q (.ret v) σ₂) σ₁
  | .none=>False
noncomputable def bind1 (x:Nat) (v:V) (σ:St):Option St:=some ⟨put σ.loc x (some v),σ.H⟩
noncomputable def wV (xs:List Nat) (v:V) (σ:St):Option St:=match v with
 | .tup vs=>if vs.length=xs.length then some ⟨putAll σ.loc xs vs,σ.H⟩ else .none
 | _=> .none
noncomputable def NC (test:PB->St->Prop) (body:PF->St->Prop) (Q:PF) (σ:St):Prop:=
 ∃I:Nat->St->Prop,(∃m,I m σ)/\∀m σ',I m σ'->test (λ b σ₁=>match b with
  | true=>body (λ f σ₂=>match f with
    | .next | .cont=> ∃m',m' < m/\I m' σ₂
    | .brk=>Q .next σ₂
    | .ret v=>Q (.ret v) σ₂) σ₁
  | false=>Q .next σ₁) σ'
noncomputable def oD (x:Nat) (test:PB->St->Prop) (elt:PV->St->Prop) (it:V) (all:List V) (Q:PV):List V->List V->St->Prop
 | [],acc,σ=>alloc (.list acc) Q ⟨put σ.loc x .none,σ.H⟩
 | y::ys,acc,σ=>test (λ b σ₁=>match b with
   | true=>elt (λ v σ₂=>(itemsOf σ₂.H it=some all/\acc.length < lim)/\oD x test elt it all Q ys (acc++ [v]) σ₂) σ₁
   | false=>itemsOf σ₁.H it=some all/\oD x test elt it all Q ys acc σ₁) ⟨put σ.loc x (some y),σ.H⟩
noncomputable def Bn (H:Hp) (x:V):Prop:= ∃a N I U T,x= .ref a/\H a=some (.aig N I U T)
noncomputable def lV (m:Lm) (H:Hp) (o:V):Prop:=match m with | .get=> ∃es,dictOf H o=some es | _=> ∃xs,dZ H o=some xs
noncomputable abbrev CT:=Nat->List V->(V->Hp->Prop)->Hp->Prop
mutual
noncomputable def W (C:CT):E->PV->St->Prop
 | .none,Q,σ=>Q .none σ
 | .bool b,Q,σ=>Q (.bool b) σ
 | .int i,Q,σ=>Q (.int i) σ
 | .str k,Q,σ=>Q (.str k) σ
 | .var i,Q,σ=>I5 (df σ.loc i) Q σ
 | .bin op a b,Q,σ=>W C a (λ x=>W C b (λ y=>cw op x y Q)) σ
 | .neg a,Q,σ=>W C a (λ x σ=>match x with | .int i=>Q (.int (-i)) σ | _=>False) σ
 | .inv a,Q,σ=>W C a (λ x σ=>match x with | .int i=>Q (.int (bitNot i)) σ | _=>False) σ
 | .cmp op a b,Q,σ=>W C a (λ x=>W C b (λ y=>b8 op x y Q)) σ
 | .ite c a b,Q,σ=>T C c (λ t=>match t with | true=>W C a Q | false=>W C b Q) σ
 | .w4 xq a b,Q,σ=>W C a (λ x=>gG x (λ t=>if t=xq then W C b Q else Q x)) σ
 | .attr a k,Q,σ=>W C a (λ x=>t6 x k Q) σ
 | .sub a i,Q,σ=>W C a (λ x=>W C i (λ y=>b7 x y Q)) σ
 | .EK a i,Q,σ=>W C a (λ x=>W C i (λ y=>xZ x y Q)) σ
 | .from a i,Q,σ=>W C a (λ x=>W C i (λ y=>xi x y Q)) σ
 | .tup es,Q,σ=>Ws C es (λ vs=>Q (.tup vs)) σ
 | .list es,Q,σ=>Ws C es (λ vs=>alloc (.list vs) Q) σ
 | .uj,Q,σ=>alloc (.dict []) Q σ
 | .AF k v,Q,σ=>W C k (λ x=>W C v (λ y σ=>cH (.ref 0) x=true/\alloc (.dict [(x,y)]) Q σ)) σ
 | .call f es,Q,σ=>Ws C es (λ vs σ=>C f vs (λ v H=>Q v ⟨σ.loc,H⟩) σ.H) σ
 | .gZ f o es,Q,σ=>W C o (λ x σ=>Bn σ.H x/\Ws C es (λ vs σ=>C f (x::vs) (λ v H=>Q v ⟨σ.loc,H⟩) σ.H) σ) σ
 | .mk,Q,σ=>alloc (.aig [.none] [] [] []) Q σ
 | .blt b es,Q,σ=>Ws C es (λ vs=>eU b vs Q) σ
 | .lm m o es,Q,σ=>W C o (λ x σ=>lV m σ.H x/\Ws C es (λ vs=>xH m x vs Q) σ) σ
 | .Cz e,Q,σ=>W C e (λ v=>zU v Q) σ
 | .comp x it c elt,Q,σ=>W C it (λ v σ=>match itemsOf σ.H v with
   | some xs=>oD x (match c with | some c=>T C c | .none=>λ Q=>Q true) (W C elt) v xs Q xs [] σ
   | .none=>False) σ
noncomputable def Ws (C:CT):List E->(List V->St->Prop)->St->Prop
 | [],Q,σ=>Q [] σ
 | e::es,Q,σ=>W C e (λ v=>Ws C es (λ vs=>Q (v::vs))) σ
noncomputable def T (C:CT):B->PB->St->Prop
 | .e e,Q,σ=>W C e (λ v=>gG v Q) σ
 | .not b,Q,σ=>T C b (λ t=>Q (!t)) σ
 | .and bs,Q,σ=>TA C bs Q σ
 | .or bs,Q,σ=>TO C bs Q σ
noncomputable def TA (C:CT):List B->PB->St->Prop
 | [],Q,σ=>Q true σ
 | b::bs,Q,σ=>T C b (λ t=>match t with | true=>TA C bs Q | false=>Q false) σ
noncomputable def TO (C:CT):List B->PB->St->Prop
 | [],Q,σ=>Q false σ
 | b::bs,Q,σ=>T C b (λ t=>match t with | true=>Q true | false=>TO C bs Q) σ
end
mutual
noncomputable def X (C:CT):S->PF->St->Prop
 | .assign x e,Q,σ=>W C e (Oc x Q) σ
 | .unpack xs e,Q,σ=>W C e (X1 xs Q) σ
 | .bB o i e,Q,σ=>W C e (λ v=>W C o (λ x=>W C i (λ y=>bC x y v Q))) σ
 | .cq x op e,Q,σ=>W C (.var x) (λ old=>W C e (λ v=>jR op old v (Oc x Q))) σ
 | .oR o i op e,Q,σ=>W C o (λ x=>W C i (λ y=>b7 x y (λ old=>W C e (λ v=>jR op old v (λ new=>bC x y new Q))))) σ
 | .expr e,Q,σ=>W C e (λ z=>Q .next) σ
 | .iff c t f,Q,σ=>T C c (λ b=>match b with | true=>Xs C t Q | false=>Xs C f Q) σ
 | .while c body,Q,σ=>NC (T C c) (Xs C body) Q σ
 | .bL x it body,Q,σ=>W C it (λ v σ=>match itemsOf σ.H v with | some xs=>sJ (bind1 x) (Xs C body) v xs Q xs σ | .none=>False) σ
 | .AY x it body,Q,σ=>W C it (λ v σ=>match itemsOf σ.H v with | some xs=>sJ (wV x) (Xs C body) v xs Q xs σ | .none=>False) σ
 | .brk,Q,σ=>Q .brk σ
 | .cont,Q,σ=>Q .cont σ
 | .ret e,Q,σ=>W C e (λ v=>Q (.ret v)) σ
 | .raise,_,_=>False
noncomputable def Xs (C:CT):List S->PF->St->Prop
 | [],Q,σ=>Q .next σ
 | s::r,Q,σ=>X C s (λ f=>match f with | .next=>Xs C r Q | f=>Q f) σ
end
structure Fn where
 params:Nat
 dflt:List V
 names:Nat
 body:List S
noncomputable def d8 (Q:V->Hp->Prop):PF:=λ f σ=>match f with
 | .next=>Q .none σ.H
 | .ret v=>Q v σ.H
 | _=>False
noncomputable def fW (f:Fn) (vs:List V):Option (List (Option V)):=
 if vs.length<=f.params/\f.params<=vs.length+f.dflt.length then
  some ((vs++f.dflt.drop (f.dflt.length+vs.length - f.params)).map some++List.replicate (f.names - f.params) .none)
 else .none
noncomputable def au (F:Nat->Option Fn):Nat->CT
 | 0=>λ x x x x=>False
 | n+1=>λ f vs Q H=>match F f with
  | some fn=>(match fW fn vs with
   | some l=>Xs (au F n) fn.body (d8 Q) ⟨l,H⟩
   | .none=>False)
  | .none=>False
end
section
open PySem PySem.W PyProof.Rows
noncomputable def bodyOf:Option Stmt->List Stmt
 | some (.FunctionDef _ _ body _ _ _ _ _ _ _)=>body
 | _=> []
noncomputable def clsOf:Option Stmt->List Stmt
 | some (.ClassDef _ _ _ body _ _ _ _ _ _ _)=>body
 | _=> []
end
section
open PySem PySem.W PyProof.Rows
noncomputable def av (p:Program) (n:Nat):Option Stmt:=df p.main.body n
noncomputable def jJ (p:Program) (n:Nat):Option Stmt:=df (clsOf (av p 2)) n
noncomputable def bK:Option Stmt->Str
 | some (.FunctionDef n _ _ _ _ _ _ _ _ _)=>n
 | _=>Str.ofString ""
noncomputable def xa (st:Option Stmt) (q:Str) (c:Addr) (d:Value):Option FuncData:=match st with
 | some (.FunctionDef n ps body _ _ _ sc _ _ _)=>some {name:=n,qualname:=q,params:=ps,body:= .stmts body,scope:=sc,globals:=3,closure:= [],defaults:=d,kwdefaults:= .none,code:= .ref c}
 | _=>none
noncomputable def aY (st:Option Stmt) (c:Addr) (d:Value):Option FuncData:=xa st (bK st) c d
noncomputable def fnD:Data->Option FuncData
 | .func fd=>some {fd with pyModule:= .none}
 | _=>none
noncomputable def TJ:Data->Option (Array Value)
 | .fields vs=>some vs
 | _=>none
noncomputable def U4:Value->Option Str
 | .str n _=>some n
 | _=>none
noncomputable def Rx (s:String):Value->Bool
 | .type n=>n == s
 | _=>false
noncomputable def isRef (a:Addr):Value->Bool
 | .ref b=>b == a
 | _=>false
noncomputable def isInt:Value->Bool
 | .int _ _=>true
 | _=>false
noncomputable def Rw:Value->Bool
 | .bool _=>true
 | _=>false
noncomputable def kP (h:Heap) (a:Addr):Option FuncData:=(h.get? a).bind λ o=>fnD o.data
noncomputable def Fq (h:Heap) (a:Addr):Option Str:=(h.get? a).bind λ o=>(TJ o.data).bind λ vs=>vs[1]?.bind U4
noncomputable def Ku (h:Heap):Bool:=(h.get? 243).any λ o=>Rx "code" o.cls && (TJ o.data).any λ vs=>vs[11]?.any (isRef 239) && ((U4 (vs.getD 18 .none)).isSome && (isInt (vs.getD 7 .none) && (Rw (vs.getD 9 .none) && isInt (vs.getD 10 .none))))
noncomputable def fns (p:Program):List (Addr×Option FuncData):=
 [(35,xa (jJ p 0) (Str.ofString "Aig.__init__") 34 .none),(42,xa (jJ p 1) (Str.ofString "Aig.add_input") 41 .none),
 (49,xa (jJ p 2) (Str.ofString "Aig.add_output") 48 .none),
 (63,xa (jJ p 4) (Str.ofString "Aig.land") 62 .none),
 (70,xa (jJ p 5) (Str.ofString "Aig.lor") 69 .none),
 (84,xa (jJ p 7) (Str.ofString "Aig.lmux") 83 .none),
 (134,aY (av p 4) 133 (.none)),
 (141,aY (av p 5) 140 (.none)),
 (181,aY (av p 10) 180 (.none)),
 (188,aY (av p 11) 187 (.none)),
 (195,aY (av p 12) 194 (.none)),
 (202,aY (av p 13) 201 (.none)),
 (209,aY (av p 14) 208 (.none)),
 (216,aY (av p 15) 215 (.none)),
 (223,aY (av p 16) 222 (.none)),
 (230,aY (av p 18) 229 (.none)),
 (237,aY (av p 19) 236 (.none)),
 (244,aY (av p 20) 243 (.none)),
 (251,aY (av p 21) 250 (.none)),
 (258,aY (av p 22) 257 (.none)),
 (265,aY (av p 23) 264 (.none)),
 (272,aY (av p 24) 271 (.none)),
 (279,aY (av p 25) 278 (.none)),
 (286,aY (av p 27) 285 (.none)),
 (293,aY (av p 28) 292 (.none)),
 (300,aY (av p 29) 299 (.none)),
 (307,aY (av p 30) 306 (.none)),
 (314,aY (av p 31) 313 (.none)),
 (321,aY (av p 32) 320 (.none)),
 (328,aY (av p 33) 327 (.none)),
 (335,aY (av p 34) 334 (.none)),
 (342,aY (av p 35) 341 (.none)),
 (349,aY (av p 36) 348 (.none)),
 (356,aY (av p 37) 355 (.none)),
 (363,aY (av p 38) 362 (.none)),
 (370,aY (av p 39) 369 (.none)),
 (377,aY (av p 40) 376 (.none)),
 (385,aY (av p 41) 384 (.ref 378)),
 (392,aY (av p 42) 391 (.none)),
 (399,aY (av p 43) 398 (.none)),
 (406,aY (av p 44) 405 (.none)),
 (413,aY (av p 45) 412 (.none)),
 (420,aY (av p 46) 419 (.none)),
 (427,aY (av p 47) 426 (.none)),
 (434,aY (av p 48) 433 (.none)),
 (441,aY (av p 49) 440 (.none)),
 (448,aY (av p 50) 447 (.none)),
 (455,aY (av p 51) 454 (.none)),
 (463,aY (av p 52) 462 (.ref 456)),
 (471,aY (av p 53) 470 (.ref 464)),
 (478,aY (av p 55) 477 (.none)),
 (485,aY (av p 56) 484 (.none)),
 (492,aY (av p 57) 491 (.none)),
 (497,aY (av p 58) 496 (.none)),
 (502,aY (av p 59) 501 (.none)),
 (507,aY (av p 60) 506 (.none)),
 (512,aY (av p 61) 511 (.none)),
 (517,aY (av p 62) 516 (.none))]
noncomputable def GX:List (Addr×Str):=
 [(34,Str.ofString "Aig.__init__"),(41,Str.ofString "Aig.add_input"),(48,Str.ofString "Aig.add_output"),(62,Str.ofString "Aig.land"),(69,Str.ofString "Aig.lor"),(83,Str.ofString "Aig.lmux"),(133,Str.ofString "used_nodes"),(140,Str.ofString "swept"),(180,Str.ofString "full_table"),(187,Str.ofString "var_table"),(194,Str.ofString "cofactor"),(201,Str.ofString "depends"),(208,Str.ofString "cube_table"),(215,Str.ofString "cover_table"),(222,Str.ofString "isop"),(229,Str.ofString "merge_cuts"),(236,Str.ofString "within"),(243,Str.ofString "without_dominated"),(250,Str.ofString "node_cuts"),(257,Str.ofString "cut_sets"),(264,Str.ofString "cone"),(271,Str.ofString "literal_table"),(278,Str.ofString "cut_table"),(285,Str.ofString "use_counts"),(292,Str.ofString "and_count"),(299,Str.ofString "started"),(306,Str.ofString "moved"),(313,Str.ofString "finish"),(320,Str.ofString "absorbed_nodes"),(327,Str.ofString "and_leaves"),(334,Str.ofString "place_by_level"),(341,Str.ofString "join_balanced"),(348,Str.ofString "balance"),(355,Str.ofString "opposed"),(362,Str.ofString "other_side"),(369,Str.ofString "rule_positive"),(376,Str.ofString "rule_negative"),(384,Str.ofString "smart_and"),(391,Str.ofString "rewrite_local"),(398,Str.ofString "literal_chain"),(405,Str.ofString "commonest_literal"),(412,Str.ofString "factor"),(419,Str.ofString "tree_size"),(426,Str.ofString "build_tree"),(433,Str.ofString "best_tree"),(440,Str.ofString "private_size"),(447,Str.ofString "choose_cones"),(454,Str.ofString "needed_nodes"),(462,Str.ofString "rewrite_cuts"),(470,Str.ofString "rewrite_until_still"),(477,Str.ofString "_law_pick"),(484,Str.ofString "_law_of"),(491,Str.ofString "_law_values"),(496,Str.ofString "_law_graph"),(501,Str.ofString "_law_inputs"),(506,Str.ofString "_law_depth"),(511,Str.ofString "_law_used"),(516,Str.ofString "law")]
noncomputable def XG (p:Program):List (Str×Addr):=
 [(Str.ofString "Aig",116),(bK (av p 4),134),(bK (av p 5),141),(bK (av p 10),181),(bK (av p 11),188),(bK (av p 12),195),(bK (av p 13),202),(bK (av p 14),209),(bK (av p 15),216),(bK (av p 16),223),(bK (av p 18),230),(bK (av p 19),237),(bK (av p 20),244),(bK (av p 21),251),(bK (av p 22),258),(bK (av p 23),265),(bK (av p 24),272),(bK (av p 25),279),(bK (av p 27),286),(bK (av p 28),293),(bK (av p 29),300),(bK (av p 30),307),(bK (av p 31),314),(bK (av p 32),321),(bK (av p 33),328),(bK (av p 34),335),(bK (av p 35),342),(bK (av p 36),349),(bK (av p 37),356),(bK (av p 38),363),(bK (av p 39),370),(bK (av p 40),377),(bK (av p 41),385),(bK (av p 42),392),(bK (av p 43),399),(bK (av p 44),406),(bK (av p 45),413),(bK (av p 46),420),(bK (av p 47),427),(bK (av p 48),434),(bK (av p 49),441),(bK (av p 50),448),(bK (av p 51),455),(bK (av p 52),463),(bK (av p 53),471),(bK (av p 55),478),(bK (av p 56),485),(bK (av p 57),492),(bK (av p 58),497),(bK (av p 59),502),(bK (av p 60),507),(bK (av p 61),512),(bK (av p 62),517)]
noncomputable def Yd:List Str:= [Str.ofString "len",Str.ofString "max",Str.ofString "min",Str.ofString "sum",Str.ofString "sorted",Str.ofString "tuple",Str.ofString "list",Str.ofString "range"]
noncomputable def YR (p:Program):Program:={p with main:={p.main with body:=(av p 62).toList}}
noncomputable def loo (p:Program):List Str:=(p.main.scope.names.map (·.1)).dropLast
noncomputable def ent (P:Params) (x:String) (t:Tok) (v:Value):DictEntry:=⟨PyData.keyHash P (Str.ofString x), .str (Str.ofString x) t,v⟩
noncomputable def HW (p:Program) (j:Nat) (q:String) (c:Addr):Obj:={cls:= .type "function",data:=match xa (jJ p j) (Str.ofString q) c .none with
 | some fd=>(.func {fd with pyModule:= .str (Str.ofString "gateloom.aig") 194}:Data)
 | none=> .plain}
noncomputable def kF (p:Program) (P:Params):Frag:=
 [(116,{cls:= .type "type",data:=(.cls {name:=Str.ofString "Aig",bases:= [.type "object"],mro:= [.ref 116, .type "object"],ns:=115,qualname:=Str.ofString "Aig"}:Data),slots:= #[none,none,some (.str (Str.ofString "Aig") 196),some (.str (Str.ofString "Aig") 204),some (.builtin "object.__new__"),some (.bool true)]}),
 (115,{cls:= .type "dict",data:= .dict #[ent P "__module__" 203 (.str (Str.ofString "gateloom.aig") 194),ent P "__firstlineno__" 207 (.int 5 206),ent P "__init__" 214 (.ref 35),ent P "add_input" 222 (.ref 42),ent P "add_output" 230 (.ref 49),
   ent P "is_and" 238 (.ref 56),ent P "land" 248 (.ref 63),ent P "lor" 257 (.ref 70),ent P "lxor" 266 (.ref 77),ent P "lmux" 276 (.ref 84),ent P "levels" 285 (.ref 91),ent P "users" 292 (.ref 98),ent P "uses" 299 (.ref 105),ent P "value" 314 (.ref 113),
   ent P "__static_attributes__" 319 (.ref 114),ent P "__dict__" 321 (.ref 117),ent P "__weakref__" 323 (.ref 118),ent P "__doc__" 324 .none] 4}),
 (35,HW p 0 "Aig.__init__" 34),(42,HW p 1 "Aig.add_input" 41),(49,HW p 2 "Aig.add_output" 48),(63,HW p 4 "Aig.land" 62),(70,HW p 5 "Aig.lor" 69),(84,HW p 7 "Aig.lmux" 83),
 (378,{cls:= .type "tuple",data:= .seq #[.int 32 755]}),(456,{cls:= .type "tuple",data:= .seq #[.int 4 903, .int 8 904]}),(464,{cls:= .type "tuple",data:= .seq #[.int 4 927, .int 4 928, .int 8 929]})]
noncomputable def obs (p:Program) (s:Shared):List (Option Obj)×List (Option FuncData)×List (Option Str)×Option Obj×Bool:=
 ([116,115,35,42,49,63,70,84,378,456,464].map s.heap.get?,(fns p).map (λ x=>kP s.heap x.1),GX.map (λ x=>Fq s.heap x.1),s.heap.get? 239,
  Ku s.heap)
noncomputable def val (p:Program) (w:World):List (Option Obj)×List (Option FuncData)×List (Option Str)×Option Obj×Bool:=
 ((kF p w.params).map (λ x=>some x.2),(fns p).map (·.2),GX.map (λ x=>some x.2),some (tabObj #[]),true)
noncomputable def xt (f:Heap->Addr->Str->Option Value) (R:WRecords) (p:Program) (s:Shared):Bool:=
 (xlAt (YR p) [] s && recOk R s) && ((XG p).all (λ x=>(f s.heap mainGlobals x.1).any (isRef x.2)) && Yd.all λ x=>(f s.heap mainGlobals x).isNone)
noncomputable def Qy (tb:String->Option Builtin) (p:Program) (w:World) (n₀:Nat) (ann:Option Value):Nat->SharedT->Thread->Option SharedT
 | 0,_,_=>none
 | n+1,s,t=>match through t with
  | true=>some s
  | false=>match stepOk n₀ ann t with
   | false=>none
   | true=>match stepT (denote tb) p w s t with
    | some (s',t')=>Qy tb p w n₀ ann n s' t'
    | none=>none
noncomputable def toT:BT->Nat->List Obj->Option (BT×Nat)
 | t,n,[]=>some (t,n)
 | t,n,o::r=>match ((t.ins n o).get n).isSome with
  | true=>toT (t.ins n o) (n+1) r
  | false=>none
noncomputable def Vo (t:BT):Nat->List Obj->List Obj
 | 0,acc=>acc
 | k+1,acc=>Vo t k ((t.get k).getD default::acc)
noncomputable def Td (p:Program) (s₀ s₁:Shared):Option Shared:=match staticsOk (importedModules p.main.body) s₀.heap s₁.heap && namesBound p s₁.heap && gensDone s₁ && laidKept s₀.heap s₁.heap with
 | true=>some s₁
 | false=>none
noncomputable def ends (tb:String->Option Builtin) (p:Program) (w:World) (N:Nat):Option Shared:=
 (fencedOpening tb p w N).bind λ s₀=>match s₀.heap.isNs mainGlobals && s₀.gens.size == 0 with
  | true=>match toT .nil 0 s₀.heap.objs.toList with
   | some T=>(Qy tb p w s₀.heap.objs.size (s₀.heap.nsMap mainGlobals "__annotations__") N ⟨T.1,T.2,s₀.heap.life,s₀.gens,s₀.drawn,s₀.toks,s₀.os⟩ (topStub p)).bind λ s₁=>
     match Vo s₁.tree s₁.n [] with
     | []=>none
     | o::r=>Td p s₀ ⟨⟨⟨o::r⟩,s₁.life⟩,s₁.gens,s₁.drawn,s₁.toks,s₁.os⟩
   | none=>none
  | false=>none
theorem U6 {t:BT}: ∀(k:Nat) (acc:List Obj),Vo t k acc=t.list k++acc:=by
 intro k
 induction k with
 | zero=>intro acc; rfl
 | succ k ih=>intro acc; show Vo t k _=_; rw [ih]; simp [BT.list,List.range_succ]
theorem vf {α:Type} {P:Prop} {a:α} (h:none=some a):P:=(Option.some_ne_none _ h.symm).elim
theorem Qz {tb:String->Option Builtin} {p:Program} {w:World} {n₀:Nat} {ann:Option Value} {n:Nat}: ∀{s s':SharedT} {t:Thread},Qy tb p w n₀ ann n s t=some s'->topRun tb p w n₀ ann n s.abs t=some s'.abs:=by
 induction n with
 | zero=>intro s s' t h; exact vf h
 | succ n ih=>
  intro s s' t h
  replace h:(match through t with
   | true=>some s
   | false=>match stepOk n₀ ann t with
    | false=>none
    | true=>match stepT (denote tb) p w s t with
     | some (s',t')=>Qy tb p w n₀ ann n s' t'
     | none=>none)=some s':=h
  show (match through t with
   | true=>some s.abs
   | false=>match stepOk n₀ ann t with
    | false=>none
    | true=>match step (denote tb) p w s.abs t with
     | .go s' t'=>topRun tb p w n₀ ann n s' t'
     | .halt _ _=>none)=_
  cases hT:through t with
  | true=>rw [hT] at h; exact congrArg (Option.map SharedT.abs) h
  | false=>
   rw [hT] at h
   cases hk:stepOk n₀ ann t with
   | false=>rw [hk] at h; exact vf h
   | true=>
    rw [hk] at h
    cases hs:stepT (denote tb) p w s t with
    | none=>rw [hs] at h; exact vf h
    | some r=>rw [hs] at h; rw [stepT_spec hs]; exact ih h
theorem U7 {life:Life}: ∀{l:List Obj} {t:BT} {n:Nat} {T:BT×Nat},toT t n l=some T->absHeap T.1 T.2 life=l.foldl (λ h o=>h.push o) (absHeap t n life):=by
 intro l
 induction l with
 | nil=>intro t n T h; rw [<- Option.some.inj h]; rfl
 | cons o r ih=>
  intro t n T h
  replace h:(match ((t.ins n o).get n).isSome with
   | true=>toT (t.ins n o) (n+1) r
   | false=>none)=some T:=h
  cases e:((t.ins n o).get n).isSome with
  | false=>rw [e] at h; exact vf h
  | true=>rw [e] at h; rw [ih h,absHeap_ins e]; rfl
theorem UM {life:Life}: ∀(l:List Obj) (xs:Array Obj),l.foldl (λ (h:Heap) o=>h.push o) ⟨xs,life⟩=⟨xs++l.toArray,life⟩:=by
 intro l
 induction l with
 | nil=>intro xs; show (⟨xs,life⟩:Heap)=_; rw [Array.append_empty]
 | cons o r ih=>intro xs; show r.foldl _ (⟨xs.push o,life⟩:Heap)=_; rw [ih]; congr 1; apply Array.ext'; simp
theorem OB {tb:String->Option Builtin} {p:Program} {w:World} {N:Nat} {s:Shared} (h:ends tb p w N=some s):openEnds tb p w N=some s:=by
 obtain ⟨s₀,h0,h⟩:=Option.bind_eq_some_iff.mp h
 unfold openEnds; rw [h0]
 show (match s₀.heap.isNs mainGlobals && s₀.gens.size == 0 with
  | true=>(topRun tb p w s₀.heap.objs.size (s₀.heap.nsMap mainGlobals "__annotations__") N s₀ (topStub p)).bind (Td p s₀)
  | false=>none)=_
 cases hb:s₀.heap.isNs mainGlobals && s₀.gens.size == 0 with
 | false=>rw [hb] at h; exact vf h
 | true=>
  rw [hb] at h
  cases hT:toT .nil 0 s₀.heap.objs.toList with
  | none=>simp only [hT] at h; exact vf h
  | some T=>
   simp only [hT] at h
   obtain ⟨s₁,h1,h2⟩:=Option.bind_eq_some_iff.mp h
   have e:=Qz h1
   have ea:SharedT.abs ⟨T.1,T.2,s₀.heap.life,s₀.gens,s₀.drawn,s₀.toks,s₀.os⟩=s₀:=by
    show (⟨absHeap T.1 T.2 s₀.heap.life,s₀.gens,s₀.drawn,s₀.toks,s₀.os⟩:Shared)=s₀
    rw [U7 hT,show absHeap .nil 0 s₀.heap.life=⟨#[],s₀.heap.life⟩ from rfl,UM]
    simp
   rw [ea] at e
   dsimp only; rw [e]
   show Td p s₀ s₁.abs=some s
   have el:Vo s₁.tree s₁.n []=s₁.tree.list s₁.n:=by rw [U6,List.append_nil]
   cases hl:Vo s₁.tree s₁.n [] with
   | nil=>simp only [hl] at h2; exact vf h2
   | cons o r=>
    simp only [hl] at h2
    rw [show s₁.abs=⟨⟨⟨o::r⟩,s₁.life⟩,s₁.gens,s₁.drawn,s₁.toks,s₁.os⟩ by rw [<- hl,el]; rfl]; exact h2
theorem PJ {p q:Program} {loose:List Str} {Xt:Shared->Bool} {α:Type} {Yf:Shared->α} {Ya:World->α} {N:Nat}
  (h: ∀w,(ends treeTable p w N).map (λ s=>(openSeen q loose (importedModules p.main.body) Xt true s,Yf s))=some (openGood q loose,Ya w)):LeftO p q loose Xt Yf Ya N:=λ w=>by
 obtain ⟨s,hs,e⟩:=Option.map_eq_some_iff.mp (h w)
 rw [OB hs]; exact congrArg some e
end
section
open PySem PySem.W PyProof.Rows
set_option maxHeartbeats 8000000 in
theorem PK:LeftO PySem.Challenge.pw_nn0329_01 (YR PySem.Challenge.pw_nn0329_01) (loo PySem.Challenge.pw_nn0329_01) (λ s=>xt Heap.nsMap [] PySem.Challenge.pw_nn0329_01 s) (obs PySem.Challenge.pw_nn0329_01) (val PySem.Challenge.pw_nn0329_01) 6000:=PJ λ w=>by
 rw [PySem.W.Fast.te14364793385576792824,PySem.W.Fast.te4187177175401517315,PySem.W.Fast.te5923862056798008813,PySem.W.Fast.te8920871248978507458]
 kernel_rfl
end
section
noncomputable abbrev A7:Nat:=0
noncomputable def iV:List S:=
 [.assign 1 (.blt .len [(.attr (.var 0) 0)]),
  .expr (.lm .append (.attr (.var 0) 0) [.none]),
  .expr (.lm .append (.attr (.var 0) 1) [(.var 1)]),
  .ret (.bin .mul (.int 2) (.var 1))]
noncomputable def mR:Fn:=⟨1,[],2,iV⟩
noncomputable abbrev yT:Nat:=1
noncomputable def gP:List S:=
 [.expr (.lm .append (.attr (.var 0) 2) [(.var 1)])]
noncomputable def kD:Fn:=⟨2,[],2,gP⟩
noncomputable abbrev Ui:Nat:=2
noncomputable def ke:List S:=
 [.iff (.e (.cmp .gt (.var 1) (.var 2))) [.unpack [1,2] (.tup [(.var 2),(.var 1)])] [],
  .iff (.or [(.e (.cmp .eq (.var 1) (.int 0))),(.e (.cmp .eq (.var 1) (.bin .bxor (.var 2) (.int 1))))]) [.ret (.int 0)] [],
  .iff (.or [(.e (.cmp .eq (.var 1) (.int 1))),(.e (.cmp .eq (.var 1) (.var 2)))]) [.ret (.var 2)] [],
  .assign 3 (.lm .get (.attr (.var 0) 3) [(.tup [(.var 1),(.var 2)]),(.neg (.int 1))]),
  .iff (.e (.cmp .lt (.var 3) (.int 0))) [.assign 3 (.blt .len [(.attr (.var 0) 0)]), .expr (.lm .append (.attr (.var 0) 0) [(.tup [(.var 1),(.var 2)])]), .bB (.attr (.var 0) 3) (.tup [(.var 1),(.var 2)]) (.var 3)] [],
  .ret (.bin .mul (.int 2) (.var 3))]
noncomputable def DE:Fn:=⟨3,[],4,ke⟩
noncomputable abbrev WY:Nat:=3
noncomputable def Fo:List S:=
 [.ret (.bin .bxor (.gZ 2 (.var 0) [(.bin .bxor (.var 1) (.int 1)),(.bin .bxor (.var 2) (.int 1))]) (.int 1))]
noncomputable def J5:Fn:=⟨3,[],3,Fo⟩
noncomputable abbrev Uj:Nat:=4
noncomputable def yi:List S:=
 [.iff (.e (.cmp .eq (.var 2) (.var 3))) [.ret (.var 2)] [],
  .ret (.gZ 3 (.var 0) [(.gZ 2 (.var 0) [(.var 1),(.var 3)]),(.gZ 2 (.var 0) [(.bin .bxor (.var 1) (.int 1)),(.var 2)])])]
noncomputable def DF:Fn:=⟨4,[],4,yi⟩
noncomputable abbrev y7:Nat:=5
noncomputable def L_used_nodes_1:List S:= [.assign 4 (.sub (.attr (.var 0) 0) (.var 3)), .iff (.and [(.e (.sub (.var 1) (.var 3))),(.e (.cmp .dm (.var 4) .none))]) [.bB (.var 1) (.bin .shr (.sub (.var 4) (.int 0)) (.int 1)) (.bool true), .bB (.var 1) (.bin .shr (.sub (.var 4) (.int 1)) (.int 1)) (.bool true)] []]
noncomputable def L_used_nodes_0:List S:= [.bB (.var 1) (.bin .shr (.var 2) (.int 1)) (.bool true)]
noncomputable def gX:List S:=
 [.assign 1 (.bin .mul (.list [(.bool false)]) (.blt .len [(.attr (.var 0) 0)])),
  .bL 2 (.attr (.var 0) 2) L_used_nodes_0,
  .bL 3 (.blt .range [(.bin .sub (.blt .len [(.attr (.var 0) 0)]) (.int 1)),(.neg (.int 1)),(.neg (.int 1))]) L_used_nodes_1,
  .ret (.var 1)]
noncomputable def kN:Fn:=⟨1,[],5,gX⟩
noncomputable abbrev Pq:Nat:=6
noncomputable def L_swept_2:List S:= [.expr (.gZ 1 (.var 1) [(.bin .bxor (.sub (.var 2) (.bin .shr (.var 8) (.int 1))) (.bin .band (.var 8) (.int 1)))])]
noncomputable def L_swept_1:List S:= [.assign 5 (.sub (.attr (.var 0) 0) (.var 3)), .iff (.and [(.e (.cmp .dm (.var 5) .none)),(.e (.sub (.var 4) (.var 3)))]) [.assign 6 (.bin .bxor (.sub (.var 2) (.bin .shr (.sub (.var 5) (.int 0)) (.int 1))) (.bin .band (.sub (.var 5) (.int 0)) (.int 1))), .assign 7 (.bin .bxor (.sub (.var 2) (.bin .shr (.sub (.var 5) (.int 1)) (.int 1))) (.bin .band (.sub (.var 5) (.int 1)) (.int 1))), .bB (.var 2) (.var 3) (.gZ 2 (.var 1) [(.var 6),(.var 7)])] []]
noncomputable def L_swept_0:List S:= [.bB (.var 2) (.var 3) (.gZ 0 (.var 1) [])]
noncomputable def tF:List S:=
 [.assign 1 .mk,
  .assign 2 (.bin .mul (.list [(.int 0)]) (.blt .len [(.attr (.var 0) 0)])),
  .bL 3 (.attr (.var 0) 1) L_swept_0,
  .assign 4 (.call 5 [(.var 0)]),
  .bL 3 (.blt .range [(.blt .len [(.attr (.var 0) 0)])]) L_swept_1,
  .bL 8 (.attr (.var 0) 2) L_swept_2,
  .ret (.var 1)]
noncomputable def yF:Fn:=⟨1,[],9,tF⟩
noncomputable abbrev qp:Nat:=7
noncomputable def gS:List S:=
 [.ret (.bin .sub (.bin .shl (.int 1) (.bin .shl (.int 1) (.var 0))) (.int 1))]
noncomputable def kH:Fn:=⟨1,[],1,gS⟩
noncomputable abbrev Bg:Nat:=8
noncomputable def i7:List S:=
 [.assign 2 (.call 7 [(.var 1)]),
  .ret (.bin .bxor (.var 2) (.bin .fdiv (.var 2) (.bin .add (.bin .shl (.int 1) (.bin .shl (.int 1) (.var 0))) (.int 1))))]
noncomputable def m3:Fn:=⟨2,[],3,i7⟩
noncomputable abbrev uG:Nat:=9
noncomputable def ka:List S:=
 [.assign 4 (.bin .band (.var 0) (.call 8 [(.var 1),(.var 3)])),
  .iff (.e (.cmp .eq (.var 2) (.int 1))) [.ret (.bin .bor (.var 4) (.bin .shr (.var 4) (.bin .shl (.int 1) (.var 1))))] [],
  .assign 5 (.bin .bxor (.var 0) (.var 4)),
  .ret (.bin .bor (.var 5) (.bin .shl (.var 5) (.bin .shl (.int 1) (.var 1))))]
noncomputable def pd:Fn:=⟨4,[],6,ka⟩
noncomputable abbrev xm:Nat:=10
noncomputable def nJ:List S:=
 [.ret (.cmp .ne (.call 9 [(.var 0),(.var 1),(.int 0),(.var 2)]) (.call 9 [(.var 0),(.var 1),(.int 1),(.var 2)]))]
noncomputable def rh:Fn:=⟨3,[],3,nJ⟩
noncomputable abbrev yW:Nat:=11
noncomputable def L_cube_table_0:List S:= [.iff (.e (.cmp .eq (.bin .band (.bin .shr (.var 2) (.var 6)) (.int 1)) (.int 1))) [.iff (.e (.cmp .eq (.bin .band (.bin .shr (.var 3) (.var 6)) (.int 1)) (.int 1))) [.cq 5 .band (.call 8 [(.var 6),(.var 1)])] [.cq 5 .band (.bin .bxor (.var 4) (.call 8 [(.var 6),(.var 1)]))]] []]
noncomputable def gR:List S:=
 [.unpack [2,3] (.var 0),
  .assign 4 (.call 7 [(.var 1)]),
  .assign 5 (.var 4),
  .bL 6 (.blt .range [(.var 1)]) L_cube_table_0,
  .ret (.var 5)]
noncomputable def kG:Fn:=⟨2,[],7,gR⟩
noncomputable abbrev jG:Nat:=12
noncomputable def L_cover_table_0:List S:= [.cq 2 .bor (.call 11 [(.var 3),(.var 1)])]
noncomputable def fG:List S:=
 [.assign 2 (.int 0),
  .bL 3 (.var 0) L_cover_table_0,
  .ret (.var 2)]
noncomputable def jF:Fn:=⟨2,[],4,fG⟩
noncomputable abbrev KR:Nat:=13
noncomputable def L_isop_2:List S:= [.expr (.lm .append (.var 14) [(.tup [(.bin .bor (.sub (.var 15) (.int 0)) (.bin .shl (.int 1) (.var 4))),(.bin .bor (.sub (.var 15) (.int 1)) (.bin .shl (.int 1) (.var 4)))])])]
noncomputable def L_isop_1:List S:= [.expr (.lm .append (.var 14) [(.tup [(.bin .bor (.sub (.var 15) (.int 0)) (.bin .shl (.int 1) (.var 4))),(.sub (.var 15) (.int 1))])])]
noncomputable def L_isop_0:List S:= [.cq 4 .sub (.int 1)]
noncomputable def jq:List S:=
 [.iff (.e (.cmp .eq (.var 0) (.int 0))) [.ret (.list [])] [],
  .assign 3 (.call 7 [(.var 2)]),
  .iff (.e (.cmp .eq (.var 1) (.var 3))) [.ret (.list [(.tup [(.int 0),(.int 0)])])] [],
  .assign 4 (.bin .sub (.var 2) (.int 1)),
  .while (.and [(.not (.e (.call 10 [(.var 0),(.var 4),(.var 2)]))),(.not (.e (.call 10 [(.var 1),(.var 4),(.var 2)])))]) L_isop_0,
  .assign 5 (.call 9 [(.var 0),(.var 4),(.int 0),(.var 2)]),
  .assign 6 (.call 9 [(.var 0),(.var 4),(.int 1),(.var 2)]),
  .assign 7 (.call 9 [(.var 1),(.var 4),(.int 0),(.var 2)]),
  .assign 8 (.call 9 [(.var 1),(.var 4),(.int 1),(.var 2)]),
  .assign 9 (.call 13 [(.bin .band (.var 5) (.bin .bxor (.var 3) (.var 8))),(.var 7),(.var 2)]),
  .assign 10 (.call 13 [(.bin .band (.var 6) (.bin .bxor (.var 3) (.var 7))),(.var 8),(.var 2)]),
  .assign 11 (.bin .band (.var 5) (.bin .bxor (.var 3) (.call 12 [(.var 9),(.var 2)]))),
  .assign 12 (.bin .band (.var 6) (.bin .bxor (.var 3) (.call 12 [(.var 10),(.var 2)]))),
  .assign 13 (.call 13 [(.bin .bor (.var 11) (.var 12)),(.bin .band (.var 7) (.var 8)),(.var 2)]),
  .assign 14 (.list []),
  .bL 15 (.var 9) L_isop_1,
  .bL 15 (.var 10) L_isop_2,
  .ret (.bin .add (.var 14) (.var 13))]
noncomputable def DC:Fn:=⟨3,[],16,jq⟩
noncomputable abbrev y0:Nat:=14
noncomputable def L_merge_cuts_0:List S:= [.iff (.or [(.e (.cmp .eq (.var 5) (.blt .len [(.var 1)]))),(.and [(.e (.cmp .lt (.var 4) (.blt .len [(.var 0)]))),(.e (.cmp .lt (.sub (.var 0) (.var 4)) (.sub (.var 1) (.var 5))))])]) [.expr (.lm .append (.var 3) [(.sub (.var 0) (.var 4))]), .cq 4 .add (.int 1)] [.iff (.or [(.e (.cmp .eq (.var 4) (.blt .len [(.var 0)]))),(.e (.cmp .lt (.sub (.var 1) (.var 5)) (.sub (.var 0) (.var 4))))]) [.expr (.lm .append (.var 3) [(.sub (.var 1) (.var 5))]), .cq 5 .add (.int 1)] [.expr (.lm .append (.var 3) [(.sub (.var 0) (.var 4))]), .cq 4 .add (.int 1), .cq 5 .add (.int 1)]]]
noncomputable def cM:List S:=
 [.assign 3 (.list []),
  .assign 4 (.int 0),
  .assign 5 (.int 0),
  .while (.or [(.e (.cmp .lt (.var 4) (.blt .len [(.var 0)]))),(.e (.cmp .lt (.var 5) (.blt .len [(.var 1)])))]) L_merge_cuts_0,
  .iff (.e (.cmp .gt (.blt .len [(.var 3)]) (.var 2))) [.ret .none] [],
  .ret (.blt .tuple [(.var 3)])]
noncomputable def kK:Fn:=⟨3,[],6,cM⟩
noncomputable abbrev KV:Nat:=15
noncomputable def L_within_0:List S:= [.iff (.e (.cmp .BV (.var 2) (.var 1))) [.ret (.bool false)] []]
noncomputable def pW:List S:=
 [.bL 2 (.var 0) L_within_0,
  .ret (.bool true)]
noncomputable def uy:Fn:=⟨2,[],3,pW⟩
noncomputable abbrev oj:Nat:=16
noncomputable def L_without_dominated_1:List S:= [.iff (.e (.call 15 [(.var 4),(.var 2)])) [.assign 3 (.bool false)] []]
noncomputable def L_without_dominated_0:List S:= [.assign 3 (.bool true), .bL 4 (.var 1) L_without_dominated_1, .iff (.e (.var 3)) [.expr (.lm .append (.var 1) [(.var 2)])] []]
noncomputable def cz:List S:=
 [.assign 1 (.list []),
  .bL 2 (.Cz (.var 0)) L_without_dominated_0,
  .ret (.var 1)]
noncomputable def dy:Fn:=⟨1,[],5,cz⟩
noncomputable abbrev Be:Nat:=17
noncomputable def L_node_cuts_1:List S:= [.assign 8 (.call 14 [(.var 6),(.var 7),(.var 3)]), .iff (.e (.cmp .dm (.var 8) .none)) [.expr (.lm .append (.var 5) [(.var 8)])] []]
noncomputable def L_node_cuts_0:List S:= [.bL 7 (.var 2) L_node_cuts_1]
noncomputable def i5:List S:=
 [.assign 5 (.list []),
  .bL 6 (.var 1) L_node_cuts_0,
  .assign 9 (.EK (.call 16 [(.var 5)]) (.var 4)),
  .expr (.lm .append (.var 9) [(.tup [(.var 0)])]),
  .ret (.var 9)]
noncomputable def mZ:Fn:=⟨5,[],10,i5⟩
noncomputable abbrev DX:Nat:=18
noncomputable def L_cut_sets_0:List S:= [.assign 5 (.sub (.attr (.var 0) 0) (.var 4)), .iff (.e (.cmp .is (.var 5) .none)) [.expr (.lm .append (.var 3) [(.list [(.tup [(.var 4)])])])] [.expr (.lm .append (.var 3) [(.call 17 [(.var 4),(.sub (.var 3) (.bin .shr (.sub (.var 5) (.int 0)) (.int 1))),(.sub (.var 3) (.bin .shr (.sub (.var 5) (.int 1)) (.int 1))),(.var 1),(.var 2)])])]]
noncomputable def kb:List S:=
 [.assign 3 (.list [(.list [(.tup [])])]),
  .bL 4 (.blt .range [(.int 1),(.blt .len [(.attr (.var 0) 0)])]) L_cut_sets_0,
  .ret (.var 3)]
noncomputable def pe:Fn:=⟨3,[],6,kb⟩
noncomputable abbrev Uh:Nat:=19
noncomputable def L_cone_0:List S:= [.assign 5 (.lm .pop (.var 4) []), .iff (.or [(.e (.cmp .sa (.var 5) (.var 2))),(.e (.cmp .sa (.var 5) (.var 3))),(.e (.cmp .eq (.var 5) (.int 0)))]) [.cont] [], .assign 6 (.sub (.attr (.var 0) 0) (.var 5)), .iff (.e (.cmp .is (.var 6) .none)) [.raise] [], .bB (.var 3) (.var 5) (.bool true), .expr (.lm .append (.var 4) [(.bin .shr (.sub (.var 6) (.int 0)) (.int 1))]), .expr (.lm .append (.var 4) [(.bin .shr (.sub (.var 6) (.int 1)) (.int 1))])]
noncomputable def yh:List S:=
 [.assign 3 .uj,
  .assign 4 (.list [(.var 1)]),
  .while (.e (.cmp .gt (.blt .len [(.var 4)]) (.int 0))) L_cone_0,
  .ret (.blt .sorted [(.var 3)])]
noncomputable def DB:Fn:=⟨3,[],7,yh⟩
noncomputable abbrev sN:Nat:=20
noncomputable def dH:List S:=
 [.assign 3 (.sub (.var 0) (.bin .shr (.var 1) (.int 1))),
  .iff (.e (.cmp .eq (.bin .band (.var 1) (.int 1)) (.int 1))) [.ret (.bin .bxor (.var 3) (.var 2))] [],
  .ret (.var 3)]
noncomputable def gn:Fn:=⟨3,[],4,dH⟩
noncomputable abbrev Ba:Nat:=21
noncomputable def L_cut_table_1:List S:= [.assign 8 (.sub (.attr (.var 0) 0) (.var 7)), .bB (.var 5) (.var 7) (.bin .band (.call 20 [(.var 5),(.sub (.var 8) (.int 0)),(.var 4)]) (.call 20 [(.var 5),(.sub (.var 8) (.int 1)),(.var 4)]))]
noncomputable def L_cut_table_0:List S:= [.bB (.var 5) (.sub (.var 2) (.var 6)) (.call 8 [(.var 6),(.var 3)])]
noncomputable def iY:List S:=
 [.assign 3 (.blt .len [(.var 2)]),
  .assign 4 (.call 7 [(.var 3)]),
  .assign 5 (.AF (.int 0) (.int 0)),
  .bL 6 (.blt .range [(.var 3)]) L_cut_table_0,
  .bL 7 (.call 19 [(.var 0),(.var 1),(.var 2)]) L_cut_table_1,
  .ret (.sub (.var 5) (.var 1))]
noncomputable def mW:Fn:=⟨3,[],9,iY⟩
noncomputable abbrev y5:Nat:=22
noncomputable def L_use_counts_1:List S:= [.oR (.var 1) (.bin .shr (.var 3) (.int 1)) .add (.int 1)]
noncomputable def L_use_counts_0:List S:= [.iff (.e (.cmp .dm (.var 2) .none)) [.oR (.var 1) (.bin .shr (.sub (.var 2) (.int 0)) (.int 1)) .add (.int 1), .oR (.var 1) (.bin .shr (.sub (.var 2) (.int 1)) (.int 1)) .add (.int 1)] []]
noncomputable def gW:List S:=
 [.assign 1 (.bin .mul (.list [(.int 0)]) (.blt .len [(.attr (.var 0) 0)])),
  .bL 2 (.attr (.var 0) 0) L_use_counts_0,
  .bL 3 (.attr (.var 0) 2) L_use_counts_1,
  .ret (.var 1)]
noncomputable def kM:Fn:=⟨1,[],4,gW⟩
noncomputable abbrev A8:Nat:=23
noncomputable def L_and_count_0:List S:= [.iff (.e (.cmp .dm (.var 2) .none)) [.cq 1 .add (.int 1)] []]
noncomputable def iW:List S:=
 [.assign 1 (.int 0),
  .bL 2 (.attr (.var 0) 0) L_and_count_0,
  .ret (.var 1)]
noncomputable def mU:Fn:=⟨1,[],3,iW⟩
noncomputable abbrev Hr:Nat:=24
noncomputable def L_started_0:List S:= [.bB (.var 2) (.var 3) (.gZ 0 (.var 1) [])]
noncomputable def nL:List S:=
 [.assign 1 .mk,
  .assign 2 (.bin .mul (.list [(.int 0)]) (.blt .len [(.attr (.var 0) 0)])),
  .bL 3 (.attr (.var 0) 1) L_started_0,
  .ret (.tup [(.var 1),(.var 2)])]
noncomputable def rj:Fn:=⟨1,[],4,nL⟩
noncomputable abbrev Pp:Nat:=25
noncomputable def tE:List S:=
 [.ret (.bin .bxor (.sub (.var 0) (.bin .shr (.var 1) (.int 1))) (.bin .band (.var 1) (.int 1)))]
noncomputable def yE:Fn:=⟨2,[],2,tE⟩
noncomputable abbrev KQ:Nat:=26
noncomputable def L_finish_0:List S:= [.expr (.gZ 1 (.var 1) [(.call 25 [(.var 2),(.var 3)])])]
noncomputable def pU:List S:=
 [.bL 3 (.attr (.var 0) 2) L_finish_0,
  .ret (.call 6 [(.var 1)])]
noncomputable def uw:Fn:=⟨3,[],4,pU⟩
noncomputable abbrev rv:Nat:=27
noncomputable def L_absorbed_nodes_1:List S:= [.assign 5 (.bin .shr (.var 4) (.int 1)), .iff (.and [(.e (.cmp .eq (.bin .band (.var 4) (.int 1)) (.int 0))),(.e (.cmp .eq (.sub (.var 1) (.var 5)) (.int 1))),(.e (.cmp .dm (.sub (.attr (.var 0) 0) (.var 5)) .none))]) [.bB (.var 2) (.var 5) (.bool true)] []]
noncomputable def L_absorbed_nodes_0:List S:= [.iff (.e (.cmp .is (.var 3) .none)) [.cont] [], .bL 4 (.var 3) L_absorbed_nodes_1]
noncomputable def di:List S:=
 [.assign 2 (.bin .mul (.list [(.bool false)]) (.blt .len [(.attr (.var 0) 0)])),
  .bL 3 (.attr (.var 0) 0) L_absorbed_nodes_0,
  .ret (.var 2)]
noncomputable def fg:Fn:=⟨2,[],6,di⟩
noncomputable abbrev yU:Nat:=28
noncomputable def L_and_leaves_0:List S:= [.assign 7 (.lm .pop (.var 6) []), .assign 8 (.bin .shr (.var 7) (.int 1)), .iff (.and [(.e (.cmp .eq (.bin .band (.var 7) (.int 1)) (.int 0))),(.e (.sub (.var 2) (.var 8)))]) [.unpack [4,5] (.sub (.attr (.var 0) 0) (.var 8)), .expr (.lm .append (.var 6) [(.var 5)]), .expr (.lm .append (.var 6) [(.var 4)])] [.expr (.lm .append (.var 3) [(.var 7)])]]
noncomputable def gQ:List S:=
 [.assign 3 (.list []),
  .unpack [4,5] (.sub (.attr (.var 0) 0) (.var 1)),
  .assign 6 (.list [(.var 5),(.var 4)]),
  .while (.e (.var 6)) L_and_leaves_0,
  .ret (.var 3)]
noncomputable def kE:Fn:=⟨3,[],9,gQ⟩
noncomputable abbrev jW:Nat:=29
noncomputable def L_place_by_level_0:List S:= [.cq 2 .add (.int 1)]
noncomputable def dj:List S:=
 [.assign 2 (.int 0),
  .while (.and [(.e (.cmp .lt (.var 2) (.blt .len [(.var 0)]))),(.e (.cmp .le (.sub (.var 0) (.var 2)) (.var 1)))]) L_place_by_level_0,
  .expr (.lm .insert (.var 0) [(.var 2),(.var 1)])]
noncomputable def fj:Fn:=⟨2,[],3,dj⟩
noncomputable abbrev sM:Nat:=30
noncomputable def L_join_balanced_1:List S:= [.assign 5 (.lm .nB (.var 3) [(.int 0)]), .assign 6 (.lm .nB (.var 3) [(.int 0)]), .assign 7 (.gZ 2 (.var 0) [(.sub (.var 5) (.int 1)),(.sub (.var 6) (.int 1))]), .assign 8 (.bin .shr (.var 7) (.int 1)), .iff (.e (.cmp .eq (.var 8) (.blt .len [(.var 1)]))) [.expr (.lm .append (.var 1) [(.bin .add (.int 1) (.sub (.var 6) (.int 0)))])] [], .expr (.call 29 [(.var 3),(.tup [(.sub (.var 1) (.var 8)),(.var 7)])])]
noncomputable def L_join_balanced_0:List S:= [.expr (.call 29 [(.var 3),(.tup [(.sub (.var 1) (.bin .shr (.var 4) (.int 1))),(.var 4)])])]
noncomputable def dF:List S:=
 [.assign 3 (.list []),
  .bL 4 (.var 2) L_join_balanced_0,
  .while (.e (.cmp .gt (.blt .len [(.var 3)]) (.int 1))) L_join_balanced_1,
  .ret (.sub (.sub (.var 3) (.int 0)) (.int 1))]
noncomputable def gj:Fn:=⟨3,[],9,dF⟩
noncomputable abbrev Ho:Nat:=31
noncomputable def L_balance_1:List S:= [.expr (.lm .append (.var 7) [(.call 25 [(.var 4),(.var 8)])])]
noncomputable def L_balance_0:List S:= [.iff (.or [(.e (.cmp .is (.sub (.attr (.var 0) 0) (.var 6)) .none)),(.e (.sub (.var 2) (.var 6))),(.e (.cmp .eq (.sub (.var 1) (.var 6)) (.int 0)))]) [.cont] [], .assign 7 (.list []), .bL 8 (.call 28 [(.var 0),(.var 6),(.var 2)]) L_balance_1, .bB (.var 4) (.var 6) (.call 30 [(.var 3),(.var 5),(.var 7)])]
noncomputable def nI:List S:=
 [.assign 1 (.call 22 [(.var 0)]),
  .assign 2 (.call 27 [(.var 0),(.var 1)]),
  .unpack [3,4] (.call 24 [(.var 0)]),
  .assign 5 (.bin .mul (.list [(.int 0)]) (.blt .len [(.attr (.var 3) 0)])),
  .bL 6 (.blt .range [(.blt .len [(.attr (.var 0) 0)])]) L_balance_0,
  .ret (.call 26 [(.var 0),(.var 3),(.var 4)])]
noncomputable def rg:Fn:=⟨1,[],9,nI⟩
noncomputable abbrev Hq:Nat:=32
noncomputable def nK:List S:=
 [.ret (.w4 false (.cmp .eq (.sub (.var 1) (.int 0)) (.bin .bxor (.var 2) (.int 1))) (.cmp .eq (.sub (.var 1) (.int 1)) (.bin .bxor (.var 2) (.int 1))))]
noncomputable def ri:Fn:=⟨3,[],3,nK⟩
noncomputable abbrev y4:Nat:=33
noncomputable def gV:List S:=
 [.iff (.e (.cmp .eq (.sub (.var 0) (.int 0)) (.var 1))) [.ret (.sub (.var 0) (.int 1))] [],
  .ret (.sub (.var 0) (.int 0))]
noncomputable def kL:Fn:=⟨2,[],2,gV⟩
noncomputable abbrev sR:Nat:=34
noncomputable def dK:List S:=
 [.assign 3 (.sub (.attr (.var 0) 0) (.bin .shr (.var 1) (.int 1))),
  .iff (.e (.cmp .sa (.var 2) (.var 3))) [.ret (.var 1)] [],
  .iff (.e (.call 32 [(.var 0),(.var 3),(.var 2)])) [.ret (.int 0)] [],
  .assign 4 (.sub (.attr (.var 0) 0) (.bin .shr (.var 2) (.int 1))),
  .iff (.and [(.e (.cmp .dm (.var 4) .none)),(.e (.cmp .eq (.bin .band (.var 2) (.int 1)) (.int 0)))]) [.iff (.or [(.e (.call 32 [(.var 0),(.var 3),(.sub (.var 4) (.int 0))])),(.e (.call 32 [(.var 0),(.var 3),(.sub (.var 4) (.int 1))]))]) [.ret (.int 0)] []] [],
  .ret .none]
noncomputable def gw:Fn:=⟨3,[],5,dK⟩
noncomputable abbrev sQ:Nat:=35
noncomputable def L_rule_negative_2:List S:= [.iff (.e (.cmp .sa (.var 5) (.var 3))) [.iff (.e (.cmp .eq (.call 33 [(.var 3),(.var 5)]) (.bin .bxor (.call 33 [(.var 4),(.var 5)]) (.int 1)))) [.ret (.tup [(.str 5),(.bin .bxor (.var 5) (.int 1))])] []] []]
noncomputable def L_rule_negative_1:List S:= [.iff (.e (.cmp .sa (.var 5) (.var 3))) [.ret (.tup [(.str 3),(.var 2),(.bin .bxor (.call 33 [(.var 3),(.var 5)]) (.int 1))])] []]
noncomputable def L_rule_negative_0:List S:= [.iff (.e (.call 32 [(.var 0),(.var 3),(.var 5)])) [.ret (.tup [(.str 5),(.var 2)])] []]
noncomputable def dJ:List S:=
 [.assign 3 (.sub (.attr (.var 0) 0) (.bin .shr (.var 1) (.int 1))),
  .iff (.e (.call 32 [(.var 0),(.var 3),(.var 2)])) [.ret (.tup [(.str 5),(.var 2)])] [],
  .iff (.e (.cmp .sa (.var 2) (.var 3))) [.ret (.tup [(.str 3),(.var 2),(.bin .bxor (.call 33 [(.var 3),(.var 2)]) (.int 1))])] [],
  .assign 4 (.sub (.attr (.var 0) 0) (.bin .shr (.var 2) (.int 1))),
  .iff (.e (.cmp .is (.var 4) .none)) [.ret .none] [],
  .iff (.e (.cmp .eq (.bin .band (.var 2) (.int 1)) (.int 0))) [.bL 5 (.var 4) L_rule_negative_0, .bL 5 (.var 4) L_rule_negative_1, .ret .none] [],
  .bL 5 (.var 4) L_rule_negative_2,
  .ret .none]
noncomputable def gu:Fn:=⟨3,[],6,dJ⟩
noncomputable abbrev Bf:Nat:=36
noncomputable def L_smart_and_1:List S:= [.iff (.or [(.e (.cmp .is (.sub (.attr (.var 0) 0) (.bin .shr (.var 5) (.int 1))) .none)),(.e (.cmp .dm (.var 4) .none))]) [.cont] [], .iff (.e (.cmp .eq (.bin .band (.var 5) (.int 1)) (.int 0))) [.assign 7 (.call 34 [(.var 0),(.var 5),(.var 6)]), .iff (.e (.cmp .dm (.var 7) .none)) [.assign 4 (.tup [(.str 5),(.var 7)])] []] [.assign 4 (.call 35 [(.var 0),(.var 5),(.var 6)])]]
noncomputable def L_smart_and_0:List S:= [.cq 3 .sub (.int 1), .iff (.or [(.e (.cmp .le (.var 1) (.int 1))),(.e (.cmp .le (.var 2) (.int 1))),(.e (.cmp .eq (.bin .shr (.var 1) (.int 1)) (.bin .shr (.var 2) (.int 1))))]) [.brk] [], .assign 4 .none, .AY [5,6] (.tup [(.tup [(.var 1),(.var 2)]),(.tup [(.var 2),(.var 1)])]) L_smart_and_1, .iff (.e (.cmp .is (.var 4) .none)) [.brk] [], .iff (.e (.cmp .eq (.sub (.var 4) (.int 0)) (.str 5))) [.ret (.sub (.var 4) (.int 1))] [], .assign 1 (.sub (.var 4) (.int 1)), .assign 2 (.sub (.var 4) (.int 2))]
noncomputable def i6:List S:=
 [.while (.e (.cmp .gt (.var 3) (.int 0))) L_smart_and_0,
  .ret (.gZ 2 (.var 0) [(.var 1),(.var 2)])]
noncomputable def dW:Fn:=⟨4,[.int 32],8,i6⟩
noncomputable abbrev sP:Nat:=37
noncomputable def L_rewrite_local_0:List S:= [.assign 4 (.sub (.attr (.var 0) 0) (.var 3)), .iff (.e (.cmp .dm (.var 4) .none)) [.bB (.var 2) (.var 3) (.call 36 [(.var 1),(.call 25 [(.var 2),(.sub (.var 4) (.int 0))]),(.call 25 [(.var 2),(.sub (.var 4) (.int 1))])])] []]
noncomputable def dI:List S:=
 [.unpack [1,2] (.call 24 [(.var 0)]),
  .bL 3 (.blt .range [(.blt .len [(.attr (.var 0) 0)])]) L_rewrite_local_0,
  .ret (.call 26 [(.var 0),(.var 1),(.var 2)])]
noncomputable def gp:Fn:=⟨1,[],5,dI⟩
noncomputable abbrev lM:Nat:=38
noncomputable def L_literal_chain_0:List S:= [.iff (.e (.bin .band (.bin .shr (.var 1) (.var 4)) (.int 1))) [.assign 5 (.tup [(.str 2),(.var 4),(.bin .band (.bin .shr (.var 2) (.var 4)) (.int 1))]), .iff (.e (.cmp .is (.var 3) .none)) [.assign 3 (.var 5)] [.assign 3 (.tup [(.str 3),(.var 3),(.var 5)])]] [], .cq 4 .add (.int 1)]
noncomputable def dG:List S:=
 [.unpack [1,2] (.var 0),
  .assign 3 .none,
  .assign 4 (.int 0),
  .while (.e (.bin .shr (.var 1) (.var 4))) L_literal_chain_0,
  .iff (.e (.cmp .is (.var 3) .none)) [.ret (.tup [(.str 1)])] [],
  .ret (.var 3)]
noncomputable def gk:Fn:=⟨1,[],6,dG⟩
noncomputable abbrev gM:Nat:=39
noncomputable def L_commonest_literal_2:List S:= [.iff (.and [(.e (.bin .band (.bin .shr (.var 6) (.var 3)) (.int 1))),(.e (.cmp .eq (.bin .band (.bin .shr (.var 7) (.var 3)) (.int 1)) (.var 4)))]) [.cq 5 .add (.int 1)] []]
noncomputable def L_commonest_literal_1:List S:= [.assign 5 (.int 0), .AY [6,7] (.var 0) L_commonest_literal_2, .iff (.e (.cmp .gt (.var 5) (.sub (.var 2) (.int 0)))) [.assign 2 (.tup [(.var 5),(.var 3),(.var 4)])] []]
noncomputable def L_commonest_literal_0:List S:= [.bL 4 (.tup [(.int 0),(.int 1)]) L_commonest_literal_1]
noncomputable def cy:List S:=
 [.assign 2 (.tup [(.int 0),(.int 0),(.int 0)]),
  .bL 3 (.blt .range [(.var 1)]) L_commonest_literal_0,
  .ret (.var 2)]
noncomputable def dw:Fn:=⟨2,[],8,cy⟩
noncomputable abbrev Bb:Nat:=40
noncomputable def L_factor_1:List S:= [.iff (.and [(.e (.bin .band (.var 2) (.var 8))),(.e (.cmp .eq (.bin .band (.bin .shr (.var 3) (.var 5)) (.int 1)) (.var 6)))]) [.expr (.lm .append (.var 9) [(.tup [(.bin .band (.var 2) (.inv (.var 8))),(.bin .band (.var 3) (.inv (.var 8)))])])] [.expr (.lm .append (.var 10) [(.tup [(.var 2),(.var 3)])])]]
noncomputable def L_factor_0:List S:= [.iff (.e (.cmp .eq (.var 2) (.int 0))) [.ret (.tup [(.str 1)])] []]
noncomputable def fO:List S:=
 [.iff (.not (.e (.var 0))) [.ret (.tup [(.str 0)])] [],
  .AY [2,3] (.var 0) L_factor_0,
  .iff (.e (.cmp .eq (.blt .len [(.var 0)]) (.int 1))) [.ret (.call 38 [(.sub (.var 0) (.int 0))])] [],
  .unpack [4,5,6] (.call 39 [(.var 0),(.var 1)]),
  .iff (.e (.cmp .eq (.var 4) (.int 1))) [.assign 7 (.bin .fdiv (.blt .len [(.var 0)]) (.int 2)), .ret (.tup [(.str 4),(.call 40 [(.EK (.var 0) (.var 7)),(.var 1)]),(.call 40 [(.from (.var 0) (.var 7)),(.var 1)])])] [],
  .assign 8 (.bin .shl (.int 1) (.var 5)),
  .assign 9 (.list []),
  .assign 10 (.list []),
  .AY [2,3] (.var 0) L_factor_1,
  .assign 11 (.call 40 [(.var 9),(.var 1)]),
  .assign 12 (.tup [(.str 2),(.var 5),(.var 6)]),
  .iff (.e (.cmp .eq (.var 11) (.tup [(.str 1)]))) [.assign 13 (.var 12)] [.assign 13 (.tup [(.str 3),(.var 12),(.var 11)])],
  .iff (.e (.var 10)) [.assign 13 (.tup [(.str 4),(.var 13),(.call 40 [(.var 10),(.var 1)])])] [],
  .ret (.var 13)]
noncomputable def ur:Fn:=⟨2,[],14,fO⟩
noncomputable abbrev r9:Nat:=41
noncomputable def cK:List S:=
 [.iff (.or [(.e (.cmp .eq (.sub (.var 0) (.int 0)) (.str 3))),(.e (.cmp .eq (.sub (.var 0) (.int 0)) (.str 4)))]) [.ret (.bin .add (.bin .add (.int 1) (.call 41 [(.sub (.var 0) (.int 1))])) (.call 41 [(.sub (.var 0) (.int 2))]))] [],
  .ret (.int 0)]
noncomputable def fR:Fn:=⟨1,[],1,cK⟩
noncomputable abbrev yV:Nat:=42
noncomputable def bq:List S:=
 [.assign 3 (.sub (.var 1) (.int 0)),
  .iff (.e (.cmp .eq (.var 3) (.str 0))) [.ret (.int 0)] [],
  .iff (.e (.cmp .eq (.var 3) (.str 1))) [.ret (.int 1)] [],
  .iff (.e (.cmp .eq (.var 3) (.str 2))) [.ret (.bin .bxor (.sub (.var 2) (.sub (.var 1) (.int 1))) (.bin .sub (.int 1) (.sub (.var 1) (.int 2))))] [],
  .assign 4 (.call 42 [(.var 0),(.sub (.var 1) (.int 1)),(.var 2)]),
  .assign 5 (.call 42 [(.var 0),(.sub (.var 1) (.int 2)),(.var 2)]),
  .iff (.e (.cmp .eq (.var 3) (.str 3))) [.ret (.call 36 [(.var 0),(.var 4),(.var 5)])] [],
  .ret (.bin .bxor (.call 36 [(.var 0),(.bin .bxor (.var 4) (.int 1)),(.bin .bxor (.var 5) (.int 1))]) (.int 1))]
noncomputable def cP:Fn:=⟨3,[],6,bq⟩
noncomputable abbrev A9:Nat:=43
noncomputable def iX:List S:=
 [.assign 2 (.bin .sub (.bin .shl (.int 1) (.bin .shl (.int 1) (.var 1))) (.int 1)),
  .assign 3 (.call 40 [(.call 13 [(.var 0),(.var 0),(.var 1)]),(.var 1)]),
  .assign 4 (.call 40 [(.call 13 [(.bin .bxor (.var 2) (.var 0)),(.bin .bxor (.var 2) (.var 0)),(.var 1)]),(.var 1)]),
  .iff (.e (.cmp .lt (.call 41 [(.var 4)]) (.call 41 [(.var 3)]))) [.ret (.tup [(.var 4),(.int 1)])] [],
  .ret (.tup [(.var 3),(.int 0)])]
noncomputable def mV:Fn:=⟨2,[],5,iX⟩
noncomputable abbrev uI:Nat:=44
noncomputable def L_private_size_1:List S:= [.assign 8 (.bin .shr (.var 7) (.int 1)), .iff (.or [(.e (.cmp .sa (.var 8) (.var 2))),(.e (.cmp .is (.sub (.attr (.var 0) 0) (.var 8)) .none))]) [.cont] [], .assign 9 (.bin .sub (.lm .get (.var 4) [(.var 8),(.sub (.var 3) (.var 8))]) (.int 1)), .bB (.var 4) (.var 8) (.var 9), .iff (.e (.cmp .eq (.var 9) (.int 0))) [.expr (.lm .append (.var 6) [(.var 8)])] []]
noncomputable def L_private_size_0:List S:= [.cq 5 .add (.int 1), .bL 7 (.sub (.attr (.var 0) 0) (.lm .pop (.var 6) [])) L_private_size_1]
noncomputable def ey:List S:=
 [.assign 4 .uj,
  .assign 5 (.int 0),
  .assign 6 (.list [(.var 1)]),
  .while (.e (.var 6)) L_private_size_0,
  .ret (.var 5)]
noncomputable def iK:Fn:=⟨4,[],10,ey⟩
noncomputable abbrev uF:Nat:=45
noncomputable def L_choose_cones_1:List S:= [.iff (.or [(.e (.cmp .sa (.var 6) (.var 8))),(.e (.cmp .lt (.blt .len [(.var 8)]) (.int 2)))]) [.cont] [], .unpack [9,10] (.call 43 [(.call 21 [(.var 0),(.var 6),(.var 8)]),(.blt .len [(.var 8)])]), .assign 11 (.bin .sub (.call 44 [(.var 0),(.var 6),(.var 8),(.var 3)]) (.call 41 [(.var 9)])), .iff (.e (.cmp .gt (.var 11) (.var 7))) [.assign 7 (.var 11), .bB (.var 5) (.var 6) (.tup [(.var 8),(.var 9),(.var 10)])] []]
noncomputable def L_choose_cones_0:List S:= [.iff (.or [(.e (.cmp .is (.sub (.attr (.var 0) 0) (.var 6)) .none)),(.e (.cmp .eq (.sub (.var 3) (.var 6)) (.int 0)))]) [.cont] [], .assign 7 (.int 0), .bL 8 (.sub (.var 4) (.var 6)) L_choose_cones_1]
noncomputable def er:List S:=
 [.assign 3 (.call 22 [(.var 0)]),
  .assign 4 (.call 18 [(.var 0),(.var 1),(.var 2)]),
  .assign 5 .uj,
  .bL 6 (.blt .range [(.blt .len [(.attr (.var 0) 0)])]) L_choose_cones_0,
  .ret (.var 5)]
noncomputable def iI:Fn:=⟨3,[],12,er⟩
noncomputable abbrev uH:Nat:=46
noncomputable def L_needed_nodes_2:List S:= [.bB (.var 2) (.var 5) (.bool true)]
noncomputable def L_needed_nodes_1:List S:= [.iff (.or [(.not (.e (.sub (.var 2) (.var 4)))),(.e (.cmp .is (.sub (.attr (.var 0) 0) (.var 4)) .none))]) [.cont] [], .iff (.e (.cmp .sa (.var 4) (.var 1))) [.bL 5 (.sub (.sub (.var 1) (.var 4)) (.int 0)) L_needed_nodes_2] [.bB (.var 2) (.bin .shr (.sub (.sub (.attr (.var 0) 0) (.var 4)) (.int 0)) (.int 1)) (.bool true), .bB (.var 2) (.bin .shr (.sub (.sub (.attr (.var 0) 0) (.var 4)) (.int 1)) (.int 1)) (.bool true)]]
noncomputable def L_needed_nodes_0:List S:= [.bB (.var 2) (.bin .shr (.var 3) (.int 1)) (.bool true)]
noncomputable def eu:List S:=
 [.assign 2 (.bin .mul (.list [(.bool false)]) (.blt .len [(.attr (.var 0) 0)])),
  .bL 3 (.attr (.var 0) 2) L_needed_nodes_0,
  .bL 4 (.blt .range [(.bin .sub (.blt .len [(.attr (.var 0) 0)]) (.int 1)),(.int 0),(.neg (.int 1))]) L_needed_nodes_1,
  .ret (.var 2)]
noncomputable def iJ:Fn:=⟨2,[],6,eu⟩
noncomputable abbrev uJ:Nat:=47
noncomputable def L_rewrite_cuts_1:List S:= [.expr (.lm .append (.var 12) [(.sub (.var 6) (.var 13))])]
noncomputable def L_rewrite_cuts_0:List S:= [.assign 8 (.sub (.attr (.var 0) 0) (.var 7)), .iff (.or [(.e (.cmp .is (.var 8) .none)),(.not (.e (.sub (.var 4) (.var 7))))]) [.cont] [], .iff (.e (.cmp .sa (.var 7) (.var 3))) [.unpack [9,10,11] (.sub (.var 3) (.var 7)), .assign 12 (.list []), .bL 13 (.var 9) L_rewrite_cuts_1, .bB (.var 6) (.var 7) (.bin .bxor (.call 42 [(.var 5),(.var 10),(.var 12)]) (.var 11))] [.bB (.var 6) (.var 7) (.call 36 [(.var 5),(.call 25 [(.var 6),(.sub (.var 8) (.int 0))]),(.call 25 [(.var 6),(.sub (.var 8) (.int 1))])])]]
noncomputable def eA:List S:=
 [.assign 3 (.call 45 [(.var 0),(.var 1),(.var 2)]),
  .assign 4 (.call 46 [(.var 0),(.var 3)]),
  .unpack [5,6] (.call 24 [(.var 0)]),
  .bL 7 (.blt .range [(.blt .len [(.attr (.var 0) 0)])]) L_rewrite_cuts_0,
  .assign 14 (.call 26 [(.var 0),(.var 5),(.var 6)]),
  .assign 15 (.call 6 [(.var 0)]),
  .iff (.e (.cmp .lt (.call 23 [(.var 14)]) (.call 23 [(.var 15)]))) [.ret (.var 14)] [],
  .ret (.var 15)]
noncomputable def iL:Fn:=⟨3,[.int 4, .int 8],16,eA⟩
noncomputable abbrev lS:Nat:=48
noncomputable def L_rewrite_until_still_0:List S:= [.cq 1 .sub (.int 1), .assign 5 (.call 47 [(.var 4),(.var 2),(.var 3)]), .iff (.e (.cmp .ge (.call 23 [(.var 5)]) (.call 23 [(.var 4)]))) [.brk] [], .assign 4 (.var 5)]
noncomputable def b6:List S:=
 [.assign 4 (.call 37 [(.var 0)]),
  .while (.e (.cmp .gt (.var 1) (.int 0))) L_rewrite_until_still_0,
  .ret (.call 31 [(.var 4)])]
noncomputable def cV:Fn:=⟨4,[.int 4, .int 4, .int 8],6,b6⟩
noncomputable abbrev DY:Nat:=49
noncomputable def dP:List S:=
 [.iff (.e (.cmp .eq (.sub (.var 0) (.int 2)) (.int 0))) [.iff (.e (.cmp .eq (.sub (.var 0) (.int 1)) (.blt .len [(.sub (.var 0) (.int 0))]))) [.bB (.var 0) (.int 3) (.bin .mod (.bin .mul (.sub (.var 0) (.int 3)) (.int 48271)) (.int 2147483647)), .ret (.bin .mod (.bin .fdiv (.sub (.var 0) (.int 3)) (.int 7)) (.var 1))] [], .assign 2 (.sub (.sub (.var 0) (.int 0)) (.sub (.var 0) (.int 1))), .bB (.var 0) (.int 1) (.bin .add (.sub (.var 0) (.int 1)) (.int 1)), .bB (.var 0) (.int 2) (.ite (.e (.cmp .ge (.var 2) (.int 0))) (.var 2) (.neg (.var 2)))] [],
  .assign 3 (.bin .mod (.sub (.var 0) (.int 2)) (.var 1)),
  .bB (.var 0) (.int 2) (.bin .fdiv (.sub (.var 0) (.int 2)) (.var 1)),
  .ret (.var 3)]
noncomputable def pf:Fn:=⟨2,[],4,dP⟩
noncomputable abbrev KS:Nat:=50
noncomputable def pV:List S:=
 [.ret (.ite (.e (.cmp .eq (.bin .mod (.var 1) (.int 2)) (.int 1))) (.bin .sub (.var 2) (.sub (.var 0) (.bin .fdiv (.var 1) (.int 2)))) (.sub (.var 0) (.bin .fdiv (.var 1) (.int 2))))]
noncomputable def ux:Fn:=⟨3,[],3,pV⟩
noncomputable abbrev yZ:Nat:=51
noncomputable def L_law_values_0:List S:= [.assign 6 (.sub (.attr (.var 0) 0) (.var 5)), .iff (.e (.cmp .eq (.var 5) (.int 0))) [.expr (.lm .append (.var 3) [(.int 0)])] [.iff (.e (.cmp .is (.var 6) .none)) [.expr (.lm .append (.var 3) [(.sub (.var 1) (.var 4))]), .cq 4 .add (.int 1)] [.expr (.lm .append (.var 3) [(.bin .band (.call 50 [(.var 3),(.sub (.var 6) (.int 0)),(.var 2)]) (.call 50 [(.var 3),(.sub (.var 6) (.int 1)),(.var 2)]))])]]]
noncomputable def gU:List S:=
 [.assign 3 (.list []),
  .assign 4 (.int 0),
  .bL 5 (.blt .range [(.blt .len [(.attr (.var 0) 0)])]) L_law_values_0,
  .ret (.var 3)]
noncomputable def kJ:Fn:=⟨3,[],7,gU⟩
noncomputable abbrev Bd:Nat:=52
noncomputable def L_law_graph_1:List S:= [.assign 6 (.call 49 [(.var 0),(.int 3)]), .assign 8 (.comp 7 (.blt .range [(.int 3)]) .none (.bin .bxor (.sub (.var 4) (.bin .sub (.neg (.int 1)) (.call 49 [(.var 0),(.blt .min [(.blt .len [(.var 4)]),(.int 6)])]))) (.call 49 [(.var 0),(.int 2)]))), .iff (.e (.cmp .eq (.var 6) (.int 0))) [.expr (.lm .append (.var 4) [(.gZ 2 (.var 3) [(.sub (.var 8) (.int 0)),(.sub (.var 8) (.int 1))])])] [.iff (.e (.cmp .eq (.var 6) (.int 1))) [.expr (.lm .append (.var 4) [(.gZ 3 (.var 3) [(.sub (.var 8) (.int 0)),(.sub (.var 8) (.int 1))])])] [.expr (.lm .append (.var 4) [(.gZ 4 (.var 3) [(.sub (.var 8) (.int 0)),(.sub (.var 8) (.int 1)),(.sub (.var 8) (.int 2))])])]]]
noncomputable def L_law_graph_0:List S:= [.expr (.lm .append (.var 4) [(.gZ 0 (.var 3) [])])]
noncomputable def i3:List S:=
 [.assign 3 .mk,
  .assign 4 (.list [(.int 0)]),
  .bL 5 (.blt .range [(.var 1)]) L_law_graph_0,
  .bL 5 (.blt .range [(.call 49 [(.var 0),(.bin .add (.var 2) (.int 1))])]) L_law_graph_1,
  .ret (.tup [(.var 3),(.var 4)])]
noncomputable def mY:Fn:=⟨3,[],9,i3⟩
noncomputable abbrev yX:Nat:=53
noncomputable def gT:List S:=
 [.ret (.comp 1 (.blt .range [(.var 0)]) .none (.blt .sum [(.comp 2 (.blt .range [(.bin .pow (.int 2) (.var 0))]) (some (.e (.cmp .eq (.bin .mod (.bin .fdiv (.var 2) (.bin .pow (.int 2) (.var 1))) (.int 2)) (.int 1)))) (.bin .pow (.int 2) (.var 2)))]))]
noncomputable def kI:Fn:=⟨1,[],3,gT⟩
noncomputable abbrev Bc:Nat:=54
noncomputable def L_law_depth_0:List S:= [.expr (.lm .append (.var 1) [(.ite (.e (.cmp .is (.var 2) .none)) (.int 0) (.bin .add (.int 1) (.blt .max [(.sub (.var 1) (.bin .fdiv (.sub (.var 2) (.int 0)) (.int 2))),(.sub (.var 1) (.bin .fdiv (.sub (.var 2) (.int 1)) (.int 2)))])))])]
noncomputable def iZ:List S:=
 [.assign 1 (.list []),
  .bL 2 (.attr (.var 0) 0) L_law_depth_0,
  .ret (.comp 3 (.attr (.var 0) 2) .none (.sub (.var 1) (.bin .fdiv (.var 3) (.int 2))))]
noncomputable def mX:Fn:=⟨1,[],4,iZ⟩
noncomputable abbrev DZ:Nat:=55
noncomputable def L_law_used_0:List S:= [.iff (.and [(.e (.cmp .sa (.var 3) (.var 2))),(.e (.cmp .dm (.sub (.attr (.var 0) 0) (.var 3)) .none))]) [.cq 2 .add (.comp 4 (.sub (.attr (.var 0) 0) (.var 3)) .none (.bin .fdiv (.var 4) (.int 2)))] []]
noncomputable def kg:List S:=
 [.assign 2 (.comp 1 (.attr (.var 0) 2) .none (.bin .fdiv (.var 1) (.int 2))),
  .bL 3 (.blt .range [(.bin .sub (.blt .len [(.attr (.var 0) 0)]) (.int 1)),(.neg (.int 1)),(.neg (.int 1))]) L_law_used_0,
  .ret (.blt .len [(.comp 5 (.blt .range [(.blt .len [(.attr (.var 0) 0)])]) (some (.and [(.e (.cmp .sa (.var 5) (.var 2))),(.e (.cmp .dm (.sub (.attr (.var 0) 0) (.var 5)) .none))])) (.var 5))])]
noncomputable def pg:Fn:=⟨1,[],6,kg⟩
noncomputable abbrev aaD:Nat:=56
noncomputable def L_law_1:List S:= [.assign 10 (.call 51 [(.var 17),(.var 7),(.var 8)]), .iff (.or [(.e (.cmp .ne (.blt .len [(.attr (.var 17) 1)]) (.var 3))),(.e (.cmp .ne (.comp 18 (.attr (.var 17) 2) .none (.call 50 [(.var 10),(.var 18),(.var 8)])) (.var 12)))]) [.ret (.bool false)] [], .iff (.e (.cmp .gt (.blt .len [(.comp 19 (.attr (.var 17) 0) (some (.e (.cmp .dm (.var 19) .none))) (.var 19))]) (.var 13))) [.ret (.bool false)] []]
noncomputable def L_law_0:List S:= [.expr (.gZ 1 (.var 4) [(.bin .bxor (.sub (.var 5) (.bin .sub (.neg (.int 1)) (.call 49 [(.var 2),(.blt .min [(.blt .len [(.var 5)]),(.int 3)])]))) (.call 49 [(.var 2),(.int 2)]))])]
noncomputable def Ao:List S:=
 [.assign 1 (.EK (.var 0) (.int 63)),
  .assign 2 (.list [(.var 1),(.int 0),(.int 0),(.bin .mul (.bin .mod (.blt .sum [(.var 1)]) (.int 100003)) (.int 7))]),
  .assign 3 (.call 49 [(.var 2),(.int 5)]),
  .unpack [4,5] (.call 52 [(.var 2),(.var 3),(.int 5)]),
  .bL 6 (.blt .range [(.call 49 [(.var 2),(.int 4)])]) L_law_0,
  .assign 7 (.call 53 [(.var 3)]),
  .assign 8 (.bin .sub (.bin .pow (.int 2) (.bin .pow (.int 2) (.var 3))) (.int 1)),
  .assign 9 (.list [(.blt .list [(.attr (.var 4) 0)]),(.blt .list [(.attr (.var 4) 1)]),(.blt .list [(.attr (.var 4) 2)])]),
  .assign 10 (.call 51 [(.var 4),(.var 7),(.var 8)]),
  .assign 12 (.comp 11 (.attr (.var 4) 2) .none (.call 50 [(.var 10),(.var 11),(.var 8)])),
  .assign 13 (.call 55 [(.var 4)]),
  .assign 14 (.call 54 [(.var 4)]),
  .assign 15 (.call 31 [(.var 4)]),
  .assign 16 (.bin .add (.int 2) (.bin .fdiv (.call 49 [(.var 2),(.int 3)]) (.int 2))),
  .bL 17 (.list [(.var 15),(.call 37 [(.var 4)]),(.call 47 [(.var 4),(.var 16),(.int 3)]),(.call 48 [(.var 4),(.int 1),(.var 16),(.int 2)])]) L_law_1,
  .assign 20 (.call 54 [(.var 15)]),
  .iff (.e (.cmp .sa (.bool true) (.comp 21 (.blt .range [(.blt .len [(.var 14)])]) .none (.cmp .gt (.sub (.var 20) (.var 21)) (.sub (.var 14) (.var 21)))))) [.ret (.bool false)] [],
  .ret (.cmp .eq (.var 9) (.list [(.attr (.var 4) 0),(.attr (.var 4) 1),(.attr (.var 4) 2)]))]
noncomputable def J4:Fn:=⟨1,[],22,Ao⟩
noncomputable def SF:List Fn:= [mR,kD,DE,J5,DF,kN,yF,kH,m3,pd,rh,kG,jF,DC,kK,uy,dy,mZ,pe,DB,gn,mW,kM,mU,rj,yE,uw,fg,kE,fj,gj,rg,ri,kL,gw,gu,dW,gp,gk,dw,ur,fR,cP,mV,iK,iI,iJ,iL,cV,pf,ux,kJ,mY,kI,mX,pg,J4]
noncomputable def prog (i:Nat):Option Fn:=df SF i
end
section
section
variable {C:CT} {Q:PV} {QB:PB} {QF:PF} {σ:St} {l:List (Option V)} {H:Hp}
noncomputable def Br (X Y:St->Prop) (σ:St) (p:Prop):Prop:=(p->X σ)/\(¬p->Y σ)
section
variable {X Y:St->Prop} {p:Prop}
theorem oP (h:p):Br X Y σ p=X σ:=propext ⟨λ k=>k.1 h,λ k=>⟨λ x=>k,λ n=>absurd h n⟩⟩
theorem rU (h: ¬p):Br X Y σ p=Y σ:=propext ⟨λ k=>k.2 h,λ k=>⟨λ n=>absurd n h,λ x=>k⟩⟩
theorem aL (h:p->X σ) (k: ¬p->Y σ):Br X Y σ p:=⟨h,k⟩
theorem EY:Br X Y σ True=X σ:=oP trivial
theorem z7:Br X Y σ False=Y σ:=rU id
theorem Vv:Br X Y σ (false=true)=Y σ:=rU Bool.false_ne_true
end
theorem ai:W C .none Q σ=Q .none σ:=rfl
theorem Jl {b:Bool}:W C (.bool b) Q σ=Q (.bool b) σ:=rfl
theorem QW {i:Nat}:W C (.int i) Q σ=Q (.int i) σ:=rfl
theorem Q0 {k:Nat}:W C (.str k) Q σ=Q (.str k) σ:=rfl
theorem Jr {i:Nat}:W C (.var i) Q ⟨l,H⟩=I5 (df l i) Q ⟨l,H⟩:=rfl
theorem rS {v:V}:I5 (some (some v)) Q σ=Q v σ:=rfl
theorem vh {α:Type} {a:α} {l:List α}:df (a::l) 0=some a:=rfl
theorem vg {α:Type} {a:α} {l:List α} {n:Nat}:df (a::l) (n+1)=df l n:=rfl
theorem a9 {α:Type} {a b:α} {l:List α}:put (a::l) 0 b=b::l:=rfl
theorem a8 {α:Type} {a b:α} {l:List α} {n:Nat}:put (a::l) (n+1) b=a::put l n b:=rfl
noncomputable def RK (C:CT) (op:Op) (b:E) (Q:PV):PV:=λ x σ=>W C b (λ y=>cw op x y Q) σ
noncomputable def RL (op:Op) (x:V) (Q:PV):PV:=λ y σ=>cw op x y Q σ
theorem QS {op:Op} {a b:E}:W C (.bin op a b) Q σ=W C a (RK C op b Q) σ:=rfl
theorem Li {op:Op} {x:V} {b:E}:RK C op b Q x ⟨l,H⟩=W C b (RL op x Q) ⟨l,H⟩:=rfl
theorem Lj {op:Op} {x y:V}:RL op x Q y ⟨l,H⟩=cw op x y Q ⟨l,H⟩:=rfl
noncomputable def RQ (C:CT) (op:GJ) (b:E) (Q:PV):PV:=λ x σ=>W C b (λ y=>b8 op x y Q) σ
noncomputable def RT (op:GJ) (x:V) (Q:PV):PV:=λ y σ=>b8 op x y Q σ
theorem QU {op:GJ} {a b:E}:W C (.cmp op a b) Q σ=W C a (RQ C op b Q) σ:=rfl
theorem Lp {op:GJ} {x:V} {b:E}:RQ C op b Q x ⟨l,H⟩=W C b (RT op x Q) ⟨l,H⟩:=rfl
theorem Lq {op:GJ} {x y:V}:RT op x Q y ⟨l,H⟩=b8 op x y Q ⟨l,H⟩:=rfl
noncomputable def Xe (Q:PV):PV:=λ x σ=>match x with | .int i=>Q (.int (-i)) σ | _=>False
theorem QZ {a:E}:W C (.neg a) Q σ=W C a (Xe Q) σ:=rfl
theorem R5 {i:Int}:Xe Q (.int i) ⟨l,H⟩=Q (.int (-i)) ⟨l,H⟩:=rfl
noncomputable def Xb (Q:PV):PV:=λ x σ=>match x with | .int i=>Q (.int (bitNot i)) σ | _=>False
theorem QX {a:E}:W C (.inv a) Q σ=W C a (Xb Q) σ:=rfl
theorem RX {i:Int}:Xb Q (.int i) ⟨l,H⟩=Q (.int (bitNot i)) ⟨l,H⟩:=rfl
noncomputable def Xc (C:CT) (a b:E) (Q:PV):PB:=λ t=>match t with | true=>W C a Q | false=>W C b Q
theorem QY {c:B} {a b:E}:W C (.ite c a b) Q σ=T C c (Xc C a b Q) σ:=rfl
theorem RY {a b:E} {t:Bool}:Xc C a b Q t ⟨l,H⟩=Br (W C a Q) (W C b Q) ⟨l,H⟩ (t=true):=by
 cases t
 ·exact (rU Bool.false_ne_true).symm
 ·exact (oP rfl).symm
noncomputable def uP (C:CT) (xq:Bool) (b:E) (x:V) (Q:PV):PB:=λ t=>if t=xq then W C b Q else Q x
noncomputable def RN (C:CT) (xq:Bool) (b:E) (Q:PV):PV:=λ x=>gG x (uP C xq b x Q)
theorem E9 {i:Bool} {a b:E}:W C (.w4 i a b) Q σ=W C a (RN C i b Q) σ:=rfl
theorem Lk {i:Bool} {b:E} {x:V}:RN C i b Q x ⟨l,H⟩=gG x (uP C i b x Q) ⟨l,H⟩:=rfl
theorem FU {i:Bool} {b:E} {x:V} {t:Bool}:uP C i b x Q t ⟨l,H⟩=Br (W C b Q) (Q x) ⟨l,H⟩ (t=i):=by
 by_cases c:t=i
 ·subst c; rw [oP rfl,show uP C t b x Q t=W C b Q from if_pos rfl]
 ·rw [rU c,show uP C i b x Q t=Q x from if_neg c]
noncomputable def RG (k:Nat) (Q:PV):PV:=λ x σ=>t6 x k Q σ
theorem Jk {a:E} {k:Nat}:W C (.attr a k) Q σ=W C a (RG k Q) σ:=rfl
theorem Lf {x:V} {k:Nat}:RG k Q x ⟨l,H⟩=t6 x k Q ⟨l,H⟩:=rfl
noncomputable def Sd (C:CT) (i:E) (Q:PV):PV:=λ x σ=>W C i (λ y=>b7 x y Q) σ
noncomputable def Se (x:V) (Q:PV):PV:=λ y σ=>b7 x y Q σ
theorem Q5 {a i:E}:W C (.sub a i) Q σ=W C a (Sd C i Q) σ:=rfl
theorem LD {x:V} {i:E}:Sd C i Q x ⟨l,H⟩=W C i (Se x Q) ⟨l,H⟩:=rfl
theorem LG {x y:V}:Se x Q y ⟨l,H⟩=b7 x y Q ⟨l,H⟩:=rfl
noncomputable def Xm (C:CT) (i:E) (Q:PV):PV:=λ x σ=>W C i (λ y=>xZ x y Q) σ
noncomputable def Xn (x:V) (Q:PV):PV:=λ y σ=>xZ x y Q σ
theorem Jq {a i:E}:W C (.EK a i) Q σ=W C a (Xm C i Q) σ:=rfl
theorem Sh {x:V} {i:E}:Xm C i Q x ⟨l,H⟩=W C i (Xn x Q) ⟨l,H⟩:=rfl
theorem Si {x y:V}:Xn x Q y ⟨l,H⟩=xZ x y Q ⟨l,H⟩:=rfl
noncomputable def Lw (C:CT) (i:E) (Q:PV):PV:=λ x σ=>W C i (λ y=>xi x y Q) σ
noncomputable def Lx (x:V) (Q:PV):PV:=λ y σ=>xi x y Q σ
theorem Jo {a i:E}:W C (.from a i) Q σ=W C a (Lw C i Q) σ:=rfl
theorem FV {x:V} {i:E}:Lw C i Q x ⟨l,H⟩=W C i (Lx x Q) ⟨l,H⟩:=rfl
theorem FW {x y:V}:Lx x Q y ⟨l,H⟩=xi x y Q ⟨l,H⟩:=rfl
noncomputable def Xl (Q:PV):List V->St->Prop:=λ vs σ=>Q (.tup vs) σ
theorem Q6 {es:List E}:W C (.tup es) Q σ=Ws C es (Xl Q) σ:=rfl
theorem Sg {vs:List V}:Xl Q vs ⟨l,H⟩=Q (.tup vs) ⟨l,H⟩:=rfl
noncomputable def RZ (Q:PV):List V->St->Prop:=λ vs σ=>alloc (.list vs) Q σ
theorem Jp {es:List E}:W C (.list es) Q σ=Ws C es (RZ Q) σ:=rfl
theorem Ly {vs:List V}:RZ Q vs ⟨l,H⟩=alloc (.list vs) Q ⟨l,H⟩:=rfl
theorem Fb:W C .uj Q σ=alloc (.dict []) Q σ:=rfl
noncomputable def kD1 (C:CT) (v:E) (Q:PV):PV:=λ x σ=>W C v (λ y σ=>cH (.ref 0) x=true/\alloc (.dict [(x,y)]) Q σ) σ
noncomputable def kD2 (x:V) (Q:PV):PV:=λ y σ=>cH (.ref 0) x=true/\alloc (.dict [(x,y)]) Q σ
theorem Fc {k v:E}:W C (.AF k v) Q σ=W C k (kD1 C v Q) σ:=rfl
theorem W8 {x:V} {v:E}:kD1 C v Q x ⟨l,H⟩=W C v (kD2 x Q) ⟨l,H⟩:=rfl
theorem W9 {x y:V}:kD2 x Q y ⟨l,H⟩=(cH (.ref 0) x=true/\alloc (.dict [(x,y)]) Q ⟨l,H⟩):=rfl
noncomputable def Xo (C:CT) (es:List E) (Q:List V->St->Prop):PV:=λ v σ=>Ws C es (λ vs=>Q (v::vs)) σ
noncomputable def Xp (v:V) (Q:List V->St->Prop):List V->St->Prop:=λ vs σ=>Q (v::vs) σ
theorem Js {Q:List V->St->Prop}:Ws C [] Q σ=Q [] σ:=rfl
theorem yd {Q:List V->St->Prop} {e:E} {es:List E}:Ws C (e::es) Q σ=W C e (Xo C es Q) σ:=rfl
theorem Sj {Q:List V->St->Prop} {v:V} {es:List E}:Xo C es Q v ⟨l,H⟩=Ws C es (Xp v Q) ⟨l,H⟩:=rfl
theorem Sl {Q:List V->St->Prop} {v:V} {vs:List V}:Xp v Q vs ⟨l,H⟩=Q (v::vs) ⟨l,H⟩:=rfl
noncomputable def FT (l:List (Option V)) (Q:PV):V->Hp->Prop:=λ v H=>Q v ⟨l,H⟩
theorem uO {v:V}:FT l Q v H=Q v ⟨l,H⟩:=rfl
noncomputable def RP (C:CT) (f:Nat) (Q:PV):List V->St->Prop:=λ vs σ=>C f vs (λ v H=>Q v ⟨σ.loc,H⟩) σ.H
theorem Jm {f:Nat} {es:List E}:W C (.call f es) Q σ=Ws C es (RP C f Q) σ:=rfl
theorem Ln {f:Nat} {vs:List V}:RP C f Q vs ⟨l,H⟩=C f vs (FT l Q) H:=rfl
noncomputable def Lz (C:CT) (f:Nat) (es:List E) (Q:PV):PV:=λ x σ=>Bn σ.H x/\Ws C es (λ vs σ=>C f (x::vs) (λ v H=>Q v ⟨σ.loc,H⟩) σ.H) σ
noncomputable def LB (C:CT) (f:Nat) (x:V) (Q:PV):List V->St->Prop:=λ vs σ=>C f (x::vs) (λ v H=>Q v ⟨σ.loc,H⟩) σ.H
theorem Df {f:Nat} {o:E} {es:List E}:W C (.gZ f o es) Q σ=W C o (Lz C f es Q) σ:=rfl
theorem y9 {f:Nat} {x:V} {es:List E}:Lz C f es Q x ⟨l,H⟩=(Bn H x/\Ws C es (LB C f x Q) ⟨l,H⟩):=rfl
theorem FX {f:Nat} {x:V} {vs:List V}:LB C f x Q vs ⟨l,H⟩=C f (x::vs) (FT l Q) H:=rfl
theorem K4 {a:Nat} {N I U:List V} {T:List (V×V)} (h:H a=some (.aig N I U T)):Bn H (.ref a):=⟨_,_,_,_,_,rfl,h⟩
theorem kX {m:Lm} {x:V} {P:Prop} (h:lV m H x):(lV m H x/\P)=P:=by rw [eq_true h,true_and]
theorem dN {a:Nat} {xs:List V} (h:H a=some (.list xs)):lV .append H (.ref a):=⟨xs,congrArg (λ o=>itemsOf (λ z=>o) (.ref a)) h⟩
theorem Gg {x:V} {es:List (V×V)} (h:dictOf H x=some es):lV .get H x:=⟨es,h⟩
theorem En {a k:Nat} {N I U:List V} {T:List (V×V)} (h:H a=some (.aig N I U T)) (hk:k < 3):lV .append H (.part a k):=by
 rcases k with _ | _ | _ | k
 ·exact ⟨N,congrArg (λ o=>itemsOf (λ z=>o) (.part a 0)) h⟩
 ·exact ⟨I,congrArg (λ o=>itemsOf (λ z=>o) (.part a 1)) h⟩
 ·exact ⟨U,congrArg (λ o=>itemsOf (λ z=>o) (.part a 2)) h⟩
 ·omega
theorem VK:W C .mk Q σ=alloc (.aig [.none] [] [] []) Q σ:=rfl
noncomputable def W7 (b:Bi) (Q:PV):List V->St->Prop:=λ vs σ=>eU b vs Q σ
theorem QT {b:Bi} {es:List E}:W C (.blt b es) Q σ=Ws C es (W7 b Q) σ:=rfl
theorem RM {b:Bi} {vs:List V}:W7 b Q vs ⟨l,H⟩=eU b vs Q ⟨l,H⟩:=rfl
noncomputable def Xd (C:CT) (m:Lm) (es:List E) (Q:PV):PV:=λ x σ=>lV m σ.H x/\Ws C es (λ vs=>xH m x vs Q) σ
noncomputable def Un (m:Lm) (x:V) (Q:PV):List V->St->Prop:=λ vs σ=>xH m x vs Q σ
theorem VJ {m:Lm} {o:E} {es:List E}:W C (.lm m o es) Q σ=W C o (Xd C m es Q) σ:=rfl
theorem R2 {m:Lm} {x:V} {es:List E}:Xd C m es Q x ⟨l,H⟩=(lV m H x/\Ws C es (Un m x Q) ⟨l,H⟩):=rfl
theorem R3 {m:Lm} {x:V} {vs:List V}:Un m x Q vs ⟨l,H⟩=xH m x vs Q ⟨l,H⟩:=rfl
noncomputable def LC (Q:PV):PV:=λ v σ=>zU v Q σ
theorem Fd {e:E}:W C (.Cz e) Q σ=W C e (LC Q) σ:=rfl
theorem FY {v:V}:LC Q v ⟨l,H⟩=zU v Q ⟨l,H⟩:=rfl
noncomputable def cD (C:CT) (x:Nat) (c:Option B) (elt:E) (it:V) (all:List V) (Q:PV):List V->List V->St->Prop:=
 oD x (match c with | some c=>T C c | .none=>λ Q=>Q true) (W C elt) it all Q
noncomputable def RV (C:CT) (x:Nat) (c:Option B) (elt:E) (Q:PV):PV:=λ v σ=>match itemsOf σ.H v with
   | some xs=>cD C x c elt v xs Q xs [] σ
   | .none=>False
theorem Jn {x:Nat} {it elt:E} {c:Option B}:W C (.comp x it c elt) Q σ=W C it (RV C x c elt Q) σ:=by cases c <;> rfl
theorem iO {x:Nat} {c:Option B} {elt:E} {v:V} {xs:List V} (h:itemsOf H v=some xs):RV C x c elt Q v ⟨l,H⟩=cD C x c elt v xs Q xs [] ⟨l,H⟩:=by
 show (match itemsOf H v with | some xs=>cD C x c elt v xs Q xs [] ⟨l,H⟩ | .none=>False)=_
 rw [h]
noncomputable def Py (C:CT) (x:Nat) (c:Option B) (elt:E) (it:V) (all:List V) (Q:PV) (ys acc:List V):PV:=
 λ v σ=>(itemsOf σ.H it=some all/\acc.length < lim)/\cD C x c elt it all Q ys (acc++ [v]) σ
noncomputable def RW (C:CT) (x:Nat) (c:Option B) (elt:E) (it:V) (all:List V) (Q:PV) (ys acc:List V):PB:=λ b σ=>match b with
   | true=>W C elt (Py C x c elt it all Q ys acc) σ
   | false=>itemsOf σ.H it=some all/\cD C x c elt it all Q ys acc σ
theorem iE {x:Nat} {c:Option B} {elt:E} {it:V} {all acc:List V}:cD C x c elt it all Q [] acc ⟨l,H⟩=alloc (.list acc) Q ⟨put l x .none,H⟩:=rfl
theorem je {x:Nat} {elt:E} {it:V} {all ys acc:List V} {y:V}:cD C x .none elt it all Q (y::ys) acc ⟨l,H⟩=W C elt (Py C x .none elt it all Q ys acc) ⟨put l x (some y),H⟩:=rfl
theorem mK {x:Nat} {c:B} {elt:E} {it:V} {all ys acc:List V} {y:V}:cD C x (some c) elt it all Q (y::ys) acc ⟨l,H⟩=T C c (RW C x (some c) elt it all Q ys acc) ⟨put l x (some y),H⟩:=rfl
theorem Bp {x:Nat} {c:Option B} {elt:E} {it v:V} {all ys acc:List V}:Py C x c elt it all Q ys acc v ⟨l,H⟩=((itemsOf H it=some all/\acc.length < lim)/\cD C x c elt it all Q ys (acc++ [v]) ⟨l,H⟩):=rfl
theorem D4 {x:Nat} {c:Option B} {elt:E} {it:V} {all ys acc:List V} {b:Bool}:RW C x c elt it all Q ys acc b ⟨l,H⟩=
  if b=true then W C elt (Py C x c elt it all Q ys acc) ⟨l,H⟩ else (itemsOf H it=some all/\cD C x c elt it all Q ys acc ⟨l,H⟩):=by cases b <;> rfl
noncomputable def LJ (Q:PB):PV:=λ v σ=>gG v Q σ
theorem T_e {e:E}:T C (.e e) QB σ=W C e (LJ QB) σ:=rfl
theorem FZ {v:V}:LJ QB v ⟨l,H⟩=gG v QB ⟨l,H⟩:=rfl
noncomputable def Xf (Q:PB):PB:=λ b σ=>Q (!b) σ
theorem QP {b:B}:T C (.not b) QB σ=T C b (Xf QB) σ:=rfl
theorem R6 {b:Bool}:Xf QB b ⟨l,H⟩=QB (!b) ⟨l,H⟩:=rfl
theorem QO {bs:List B}:T C (.and bs) QB σ=TA C bs QB σ:=rfl
theorem VG {bs:List B}:T C (.or bs) QB σ=TO C bs QB σ:=rfl
noncomputable def kTA (C:CT) (bs:List B) (Q:PB):PB:=λ t=>match t with | true=>TA C bs Q | false=>Q false
noncomputable def kTO (C:CT) (bs:List B) (Q:PB):PB:=λ t=>match t with | true=>Q true | false=>TO C bs Q
theorem Jh:TA C [] QB σ=QB true σ:=rfl
theorem Ji:TO C [] QB σ=QB false σ:=rfl
theorem E7 {b:B} {bs:List B}:TA C (b::bs) QB σ=T C b (kTA C bs QB) σ:=rfl
theorem E8 {b:B} {bs:List B}:TO C (b::bs) QB σ=T C b (kTO C bs QB) σ:=rfl
theorem Xj {bs:List B} {t:Bool}:kTA C bs QB t ⟨l,H⟩=Br (TA C bs QB) (QB false) ⟨l,H⟩ (t=true):=by
 cases t
 ·exact (rU Bool.false_ne_true).symm
 ·exact (oP rfl).symm
theorem Xk {bs:List B} {t:Bool}:kTO C bs QB t ⟨l,H⟩=Br (QB true) (TO C bs QB) ⟨l,H⟩ (t=true):=by
 cases t
 ·exact (rU Bool.false_ne_true).symm
 ·exact (oP rfl).symm
noncomputable def Px (x:Nat) (Q:PF):PV:=λ v σ=>Oc x Q v σ
theorem Ad {x:Nat} {e:E}:X C (.assign x e) QF σ=W C e (Px x QF) σ:=rfl
theorem RF {x:Nat} {v:V}:Px x QF v ⟨l,H⟩=QF .next ⟨put l x (some v),H⟩:=rfl
noncomputable def LK (xs:List Nat) (Q:PF):PV:=λ v σ=>X1 xs Q v σ
theorem Ai {xs:List Nat} {e:E}:X C (.unpack xs e) QF σ=W C e (LK xs QF) σ:=rfl
theorem Bt {xs:List Nat} {vs:List V}:LK xs QF (.tup vs) ⟨l,H⟩=(vs.length=xs.length/\QF .next ⟨putAll l xs vs,H⟩):=rfl
theorem iP {vs:List V}:putAll l [] vs=l:=by cases vs <;> rfl
theorem fU {x:Nat} {xs:List Nat} {v:V} {vs:List V}:putAll l (x::xs) (v::vs)=putAll (put l x (some v)) xs vs:=rfl
noncomputable def Xg (C:CT) (o i:E) (Q:PF):PV:=λ v σ=>W C o (λ x=>W C i (λ y=>bC x y v Q)) σ
noncomputable def Xh (C:CT) (v:V) (i:E) (Q:PF):PV:=λ x σ=>W C i (λ y=>bC x y v Q) σ
noncomputable def Xi (v x:V) (Q:PF):PV:=λ y σ=>bC x y v Q σ
theorem Ah {o i e:E}:X C (.bB o i e) QF σ=W C e (Xg C o i QF) σ:=rfl
theorem R8 {o i:E} {v:V}:Xg C o i QF v ⟨l,H⟩=W C o (Xh C v i QF) ⟨l,H⟩:=rfl
theorem R9 {i:E} {v x:V}:Xh C v i QF x ⟨l,H⟩=W C i (Xi v x QF) ⟨l,H⟩:=rfl
theorem Sb {v x y:V}:Xi v x QF y ⟨l,H⟩=bC x y v QF ⟨l,H⟩:=rfl
noncomputable def RH (C:CT) (op:Op) (e:E) (x:Nat) (Q:PF):PV:=λ old σ=>W C e (λ v=>jR op old v (Oc x Q)) σ
noncomputable def RJ (op:Op) (old:V) (x:Nat) (Q:PF):PV:=λ v σ=>jR op old v (Px x Q) σ
theorem Af {x:Nat} {op:Op} {e:E}:X C (.cq x op e) QF σ=W C (.var x) (RH C op e x QF) σ:=rfl
theorem Lg {op:Op} {e:E} {x:Nat} {old:V}:RH C op e x QF old ⟨l,H⟩=W C e (RJ op old x QF) ⟨l,H⟩:=rfl
theorem Lh {op:Op} {x:Nat} {old v:V}:RJ op old x QF v ⟨l,H⟩=jR op old v (Px x QF) ⟨l,H⟩:=rfl
noncomputable def W2 (C:CT) (i:E) (op:Op) (e:E) (Q:PF):PV:=λ x σ=>W C i (λ y=>b7 x y (λ old=>W C e (λ v=>jR op old v (λ new=>bC x y new Q)))) σ
noncomputable def W3 (C:CT) (x:V) (op:Op) (e:E) (Q:PF):PV:=λ y σ=>b7 x y (λ old=>W C e (λ v=>jR op old v (λ new=>bC x y new Q))) σ
noncomputable def W4 (C:CT) (x y:V) (op:Op) (e:E) (Q:PF):PV:=λ old σ=>W C e (λ v=>jR op old v (λ new=>bC x y new Q)) σ
noncomputable def W5 (x y:V) (op:Op) (old:V) (Q:PF):PV:=λ v σ=>jR op old v (λ new=>bC x y new Q) σ
noncomputable def W6 (x y:V) (Q:PF):PV:=λ new σ=>bC x y new Q σ
theorem Ae {o i e:E} {op:Op}:X C (.oR o i op e) QF σ=W C o (W2 C i op e QF) σ:=rfl
theorem Rz {i e:E} {op:Op} {x:V}:W2 C i op e QF x ⟨l,H⟩=W C i (W3 C x op e QF) ⟨l,H⟩:=rfl
theorem RA {e:E} {op:Op} {x y:V}:W3 C x op e QF y ⟨l,H⟩=b7 x y (W4 C x y op e QF) ⟨l,H⟩:=rfl
theorem RB {e:E} {op:Op} {x y old:V}:W4 C x y op e QF old ⟨l,H⟩=W C e (W5 x y op old QF) ⟨l,H⟩:=rfl
theorem RC {op:Op} {x y old v:V}:W5 x y op old QF v ⟨l,H⟩=jR op old v (W6 x y QF) ⟨l,H⟩:=rfl
theorem RD {x y new:V}:W6 x y QF new ⟨l,H⟩=bC x y new QF ⟨l,H⟩:=rfl
noncomputable def Lr (Q:PF):PV:=λ x σ=>Q .next σ
theorem Dg {e:E}:X C (.expr e) QF σ=W C e (Lr QF) σ:=rfl
theorem Ls {v:V}:Lr QF v ⟨l,H⟩=QF .next ⟨l,H⟩:=rfl
noncomputable def kIf (C:CT) (t f:List S) (Q:PF):PB:=λ b=>match b with | true=>Xs C t Q | false=>Xs C f Q
theorem Q8 {c:B} {t f:List S}:X C (.iff c t f) QF σ=T C c (kIf C t f QF) σ:=rfl
theorem Xa {t f:List S} {b:Bool}:kIf C t f QF b ⟨l,H⟩=Br (Xs C t QF) (Xs C f QF) ⟨l,H⟩ (b=true):=by
 cases b
 ·exact (rU Bool.false_ne_true).symm
 ·exact (oP rfl).symm
noncomputable def Uo (Q:PF):PV:=λ v σ=>Q (.ret v) σ
theorem Q9 {e:E}:X C (.ret e) QF σ=W C e (Uo QF) σ:=rfl
theorem R7 {v:V}:Uo QF v ⟨l,H⟩=QF (.ret v) ⟨l,H⟩:=rfl
theorem Q7:X C .brk QF σ=QF .brk σ:=rfl
theorem Jt:X C .cont QF σ=QF .cont σ:=rfl
noncomputable def lU (C:CT) (r:List S) (Q:PF):PF:=λ f=>match f with | .next=>Xs C r Q | f=>Q f
theorem Jw:Xs C [] QF σ=QF .next σ:=rfl
theorem ye {s:S} {r:List S}:Xs C (s::r) QF σ=X C s (lU C r QF) σ:=rfl
theorem xD {r:List S}:lU C r QF .next ⟨l,H⟩=Xs C r QF ⟨l,H⟩:=rfl
theorem Bq {r:List S}:lU C r QF .brk ⟨l,H⟩=QF .brk ⟨l,H⟩:=rfl
theorem xC {r:List S}:lU C r QF .cont ⟨l,H⟩=QF .cont ⟨l,H⟩:=rfl
theorem Bs {r:List S} {v:V}:lU C r QF (.ret v) ⟨l,H⟩=QF (.ret v) ⟨l,H⟩:=rfl
theorem xP {Q:V->Hp->Prop}:d8 Q .next ⟨l,H⟩=Q .none H:=rfl
theorem Ci {Q:V->Hp->Prop} {v:V}:d8 Q (.ret v) ⟨l,H⟩=Q v H:=rfl
noncomputable def GD (C:CT) (c:B) (body:List S) (Q:PF) (σ:St):Prop:=NC (T C c) (Xs C body) Q σ
theorem Fe {c:B} {body:List S}:X C (.while c body) QF σ=GD C c body QF σ:=rfl
noncomputable def ji (I:Nat->St->Prop) (m:Nat) (Q:PF):PF:=λ f σ₂=>match f with
    | .next | .cont=> ∃m',m' < m/\I m' σ₂
    | .brk=>Q .next σ₂
    | .ret v=>Q (.ret v) σ₂
noncomputable def Sf (C:CT) (body:List S) (I:Nat->St->Prop) (m:Nat) (Q:PF):PB:=λ b σ=>match b with
  | true=>Xs C body (ji I m Q) σ
  | false=>Q .next σ
theorem bx {c:B} {body:List S} (I:Nat->St->Prop) (m:Nat) (h0:I m σ) (h: ∀m σ',I m σ'->T C c (Sf C body I m QF) σ'):GD C c body QF σ:=by
 refine ⟨I,⟨m,h0⟩,λ m σ' hI=>?_⟩
 have:=h m σ' hI
 refine cast ?_ this
 congr 1
theorem LH {body:List S} {I:Nat->St->Prop} {m:Nat} {b:Bool}:Sf C body I m QF b ⟨l,H⟩=Br (Xs C body (ji I m QF)) (QF .next) ⟨l,H⟩ (b=true):=by
 cases b
 ·exact (rU Bool.false_ne_true).symm
 ·exact (oP rfl).symm
theorem uS {I:Nat->St->Prop} {m:Nat}:ji I m QF .next ⟨l,H⟩= ∃m',m' < m/\I m' ⟨l,H⟩:=rfl
theorem uR {I:Nat->St->Prop} {m:Nat}:ji I m QF .cont ⟨l,H⟩= ∃m',m' < m/\I m' ⟨l,H⟩:=rfl
theorem xE {I:Nat->St->Prop} {m:Nat}:ji I m QF .brk ⟨l,H⟩=QF .next ⟨l,H⟩:=rfl
theorem xF {I:Nat->St->Prop} {m:Nat} {v:V}:ji I m QF (.ret v) ⟨l,H⟩=QF (.ret v) ⟨l,H⟩:=rfl
noncomputable def aC (C:CT) (tg:List Nat ⊕ Nat) (body:List S) (it:V) (all:List V) (Q:PF):List V->St->Prop:=
 sJ (match tg with | .inr x=>bind1 x | .inl xs=>wV xs) (Xs C body) it all Q
noncomputable def kFor (C:CT) (tg:List Nat ⊕ Nat) (body:List S) (Q:PF):PV:=λ v σ=>match itemsOf σ.H v with | some xs=>aC C tg body v xs Q xs σ | .none=>False
theorem Ju {x:Nat} {it:E} {body:List S}:X C (.bL x it body) QF σ=W C it (kFor C (.inr x) body QF) σ:=rfl
theorem Jv {xs:List Nat} {it:E} {body:List S}:X C (.AY xs it body) QF σ=W C it (kFor C (.inl xs) body QF) σ:=rfl
theorem aX {tg:List Nat ⊕ Nat} {body:List S} {v:V} {xs:List V} (h:itemsOf H v=some xs):kFor C tg body QF v ⟨l,H⟩=aC C tg body v xs QF xs ⟨l,H⟩:=by
 show (match itemsOf H v with | some xs=>aC C tg body v xs QF xs ⟨l,H⟩ | .none=>False)=_
 rw [h]
noncomputable def oG (C:CT) (tg:List Nat ⊕ Nat) (body:List S) (it:V) (all:List V) (Q:PF) (ys:List V):PF:=λ f σ₂=>match f with
    | .next | .cont=>itemsOf σ₂.H it=some all/\aC C tg body it all Q ys σ₂
    | .brk=>Q .next σ₂
    | .ret v=>Q (.ret v) σ₂
theorem xh {tg:List Nat ⊕ Nat} {body:List S} {it:V} {all:List V}:aC C tg body it all QF [] σ=QF .next σ:=rfl
theorem nQ {x:Nat} {body:List S} {it y:V} {all ys:List V}:aC C (.inr x) body it all QF (y::ys) ⟨l,H⟩=Xs C body (oG C (.inr x) body it all QF ys) ⟨put l x (some y),H⟩:=rfl
theorem ph {xs:List Nat} {body:List S} {it:V} {vs all ys:List V} (h:vs.length=xs.length):
  aC C (.inl xs) body it all QF (.tup vs::ys) ⟨l,H⟩=Xs C body (oG C (.inl xs) body it all QF ys) ⟨putAll l xs vs,H⟩:=by
 show (match wV xs (.tup vs) ⟨l,H⟩ with | some σ₁=>_ | .none=>_)=_
 rw [show wV xs (.tup vs) ⟨l,H⟩=some ⟨putAll l xs vs,H⟩ from if_pos h]; rfl
theorem pz {tg:List Nat ⊕ Nat} {body:List S} {it:V} {all ys:List V}:oG C tg body it all QF ys .next ⟨l,H⟩=(itemsOf H it=some all/\aC C tg body it all QF ys ⟨l,H⟩):=rfl
theorem uQ {tg:List Nat ⊕ Nat} {body:List S} {it:V} {all ys:List V}:oG C tg body it all QF ys .cont ⟨l,H⟩=(itemsOf H it=some all/\aC C tg body it all QF ys ⟨l,H⟩):=rfl
theorem xA {tg:List Nat ⊕ Nat} {body:List S} {it:V} {all ys:List V}:oG C tg body it all QF ys .brk ⟨l,H⟩=QF .next ⟨l,H⟩:=rfl
theorem xB {tg:List Nat ⊕ Nat} {body:List S} {it v:V} {all ys:List V}:oG C tg body it all QF ys (.ret v) ⟨l,H⟩=QF (.ret v) ⟨l,H⟩:=rfl
end
theorem ub {F:Nat->Option Fn} {n f:Nat} {vs:List V} {Q:V->Hp->Prop} {H:Hp} {P:Prop} (h:au F (n+1) f vs Q H)
  (k: ∀fn l,F f=some fn->fW fn vs=some l->Xs (au F n) fn.body (d8 Q) ⟨l,H⟩->P):P:=by
 replace h:(match (generalizing:=false) F f with | some fn=>(match (generalizing:=false) fW fn vs with | some l=>Xs (au F n) fn.body (d8 Q) ⟨l,H⟩ | .none=>False) | .none=>False):=h
 rcases e:F f with _ | fn
 ·rw [e] at h; exact h.elim
 ·rw [e] at h
  rcases e2:fW fn vs with _ | l
  ·simp only [e2] at h
  ·simp only [e2] at h; exact k fn l e e2 h
theorem aj {F:Nat->Option Fn} {n f:Nat} {vs:List V} {Q:V->Hp->Prop} {H:Hp} (fn:Fn) (l:List (Option V)) (hf:F f=some fn) (hl:fW fn vs=some l)
  (h:Xs (au F n) fn.body (d8 Q) ⟨l,H⟩):au F (n+1) f vs Q H:=by
 show (match F f with | some fn=>(match fW fn vs with | some l=>Xs (au F n) fn.body (d8 Q) ⟨l,H⟩ | .none=>False) | .none=>False)
 rw [hf]; dsimp only; rw [hl]; exact h
end
section
theorem xX (a:Nat):((a:Nat):Int).toNat=a:=Int.toNat_natCast a
theorem pG (a:Nat):decide ((0:Int)<=(a:Int))=true:=decide_eq_true (Int.natCast_nonneg a)
theorem t8 (a b:Nat):bitAnd a b=((a &&& b:Nat):Int):=by
 unfold bitAnd; rw [pG,pG]; rfl
theorem oS (a:Nat):bitNot a=Int.negSucc a:=by unfold bitNot; lia
theorem Dj (a b:Nat):bitAnd (Int.negSucc a) (Int.negSucc b)=Int.negSucc (a ||| b):=by
 unfold bitAnd
 rw [show decide ((0:Int)<=Int.negSucc a)=false from rfl,show decide ((0:Int)<=Int.negSucc b)=false from rfl]
 have h: ∀c:Nat,(bitNot (Int.negSucc c)).toNat=c:=λ c=>by
  have:bitNot (Int.negSucc c)=(c:Int):=by unfold bitNot; exact Int.sub_eq_iff_eq_add.mpr rfl
  rw [this]; rfl
 show bitNot (((bitNot (Int.negSucc a)).toNat ||| (bitNot (Int.negSucc b)).toNat:Nat):Int)=_
 rw [h,h,oS]
theorem wW (a b:Nat):bitOr a b=((a ||| b:Nat):Int):=by
 unfold bitOr; rw [oS,oS,Dj]; unfold bitNot; exact Int.sub_eq_iff_eq_add.mpr rfl
theorem vn (a b:Nat):(a ||| b)=(a &&& b)+(a ^^^ b):=by
 have key: ∀n a b:Nat,a < 2 ^ n->(a ||| b)=(a &&& b)+(a ^^^ b):=by
  intro n
  induction n with
  | zero=>
   intro a b h
   obtain rfl:a=0:=Nat.lt_one_iff.mp h
   simp
  | succ n ih=>
   intro a b h
   have h1:=ih (a / 2) (b / 2) (by rw [Nat.pow_succ] at h; lia)
   have e1:(a ||| b)=2*((a / 2) ||| (b / 2))+((a ||| b) % 2):=by
    rw [<- Nat.or_div_two]; exact Eq.symm (Nat.div_add_mod (a ||| b) 2)
   have e2:(a &&& b)=2*((a / 2) &&& (b / 2))+((a &&& b) % 2):=by
    rw [<- Nat.and_div_two]; exact Eq.symm (Nat.div_add_mod (a &&& b) 2)
   have e3:(a ^^^ b)=2*((a / 2) ^^^ (b / 2))+((a ^^^ b) % 2):=by
    rw [<- Nat.xor_div_two]; exact Eq.symm (Nat.div_add_mod (a ^^^ b) 2)
   have f1:=Nat.or_mod_two_eq_one (a:=a) (b:=b)
   have f2:=Nat.and_mod_two_eq_one (a:=a) (b:=b)
   have f3:=Nat.xor_mod_two_eq_one (a:=a) (b:=b)
   have m:(a ||| b) % 2=(a &&& b) % 2+(a ^^^ b) % 2:=by
    have g1:=Nat.mod_two_eq_zero_or_one a
    have g2:=Nat.mod_two_eq_zero_or_one b
    have g3:=Nat.mod_two_eq_zero_or_one (a ||| b)
    have g4:=Nat.mod_two_eq_zero_or_one (a &&& b)
    have g5:=Nat.mod_two_eq_zero_or_one (a ^^^ b)
    clear e1 e2 e3 h1 ih h
    generalize (a ||| b) % 2=x at*
    generalize (a &&& b) % 2=y at*
    generalize (a ^^^ b) % 2=z at*
    generalize a % 2=p at*
    generalize b % 2=q at*
    rcases g1 with rfl | rfl <;> rcases g2 with rfl | rfl <;> rcases g3 with rfl | rfl <;> rcases g4 with rfl | rfl <;> rcases g5 with rfl | rfl <;> first | rfl | (exfalso; revert f1 f2 f3; decide)
   lia
 exact key a a b (Nat.lt_two_pow_self)
theorem Dk (a b:Nat):bitXor a b=((a ^^^ b:Nat):Int):=by
 unfold bitXor; rw [wW,t8]; have:=vn a b; exact Int.sub_eq_iff_eq_add'.mpr (congrArg Nat.cast this)
section
variable {C:CT} {Q:PV} {QB:PB} {QF:PF} {σ:St} {l:List (Option V)} {H:Hp} {a b:Nat}
theorem tB:cw .add (.int a) (.int b) Q σ=Q (.int ((a+b:Nat):Int)) σ:=rfl
theorem VM (x y:Int):cw .add (.int x) (.int y) Q σ=Q (.int (x+y)) σ:=rfl
theorem sub_int (x y:Int):cw .sub (.int x) (.int y) Q σ=Q (.int (x - y)) σ:=rfl
theorem Gd:cw .mul (.int a) (.int b) Q σ=(Gb a b/\Q (.int ((a*b:Nat):Int)) σ):=rfl
theorem nq {b:Int} (h:a < 2 ^ 64):Gb a b:= .inl (by simpa using h)
theorem Gr:cw .shr (.int a) (.int b) Q σ=Q (.int ((a >>> b:Nat):Int)) σ:=rfl
theorem Pm (x y:Int):WX x y=x.fdiv (2 ^ y.toNat):=ng (λ a b=>by
 rw [Int.fdiv_eq_ediv_of_nonneg _ (by exact Int.le_of_lt (Int.pow_pos (by decide)))]
 simp [Nat.shiftRight_eq_div_pow]) x y
theorem tO {x y:Int} (h:cw .shr (.int x) (.int y) Q σ):0<=y/\Q (.int (x.fdiv (2 ^ y.toNat))) σ:=by
 cases y with
 | ofNat b=>exact ⟨Int.natCast_nonneg b,Pm x b▸h⟩
 | negSucc _=>exact h.elim
theorem FE (x y:Int):Pk x y=bitAnd x y:=ng (λ a b=>(t8 a b).symm) x y
theorem Ue (x y:Int):iOr x y=bitOr x y:=ng (λ a b=>(wW a b).symm) x y
theorem Pn (x y:Int):Ug x y=bitXor x y:=ng (λ a b=>(Dk a b).symm) x y
theorem Fi {x y:Int} (h:cw .band (.int x) (.int y) Q σ):Q (.int (bitAnd x y)) σ:=FE x y▸(show Q (.int (Pk x y)) σ from h)
theorem MA {x y:Int} (h:cw .bor (.int x) (.int y) Q σ):Q (.int (bitOr x y)) σ:=Ue x y▸(show Q (.int (iOr x y)) σ from h)
theorem GH {x y:Int} (h:cw .bxor (.int x) (.int y) Q σ):Q (.int (bitXor x y)) σ:=Pn x y▸(show Q (.int (Ug x y)) σ from h)
theorem UG {x:Int} (h:gG (.int x) QB σ):QB (x != 0) σ:=Ud x▸(show QB (iNz x) σ from h)
theorem Qf (ha:a < 2 ^ 64) (hb:b<=1000000):cw .shl (.int a) (.int b) Q σ=Q (.int ((a <<< b:Nat):Int)) σ:=by
 have h1:(b:Int)<=1000000:=by exact Nat.ToInt.of_le rfl rfl hb
 have h2:(0:Int)<=b:=by exact Int.natCast_nonneg b
 unfold cw; simp [qq,h1,h2,Nat.shiftLeft_eq]; exact λ x=>ha
theorem qF (ha:a < 2 ^ 64) (hb:b<=1000000):cw .pow (.int a) (.int b) Q σ=Q (.int ((a ^ b:Nat):Int)) σ:=by
 have h1:(b:Int)<=1000000:=by exact Nat.ToInt.of_le rfl rfl hb
 have h2:(0:Int)<=b:=by exact Int.natCast_nonneg b
 unfold cw; simp [qq,h1,h2]; exact λ x=>ha
theorem Fj:cw .band (.int a) (.int b) Q σ=Q (.int ((a &&& b:Nat):Int)) σ:=rfl
theorem MC:cw .bor (.int a) (.int b) Q σ=Q (.int ((a ||| b:Nat):Int)) σ:=rfl
theorem GI:cw .bxor (.int a) (.int b) Q σ=Q (.int ((a ^^^ b:Nat):Int)) σ:=rfl
theorem de (hb:b≠0) (DP:b < 1073741824):cw .fdiv (.int a) (.int b) Q σ=Q (.int ((a / b:Nat):Int)) σ:=by
 have:Int.fdiv (a:Int) (b:Int)=((a / b:Nat):Int):=by
  rw [Int.fdiv_eq_ediv_of_nonneg _ (Int.natCast_nonneg b)]; simp
 unfold cw; simp [qq,this,hb,DP]
theorem qz (hb:b≠0):cw .mod (.int a) (.int b) Q σ=Q (.int ((a % b:Nat):Int)) σ:=by
 have:Int.fmod (a:Int) (b:Int)=((a % b:Nat):Int):=by
  rw [Int.fmod_eq_emod_of_nonneg _ (Int.natCast_nonneg b)]; simp
 unfold cw; simp [qq,this,hb]
theorem L7:b8 .lt (.int a) (.int b) Q σ=Q (.bool (decide (a < b))) σ:=rfl
theorem LX:b8 .le (.int a) (.int b) Q σ=Q (.bool (decide (a<=b))) σ:=rfl
theorem DM:b8 .gt (.int a) (.int b) Q σ=Q (.bool (decide (b < a))) σ:=rfl
theorem Ki:b8 .ge (.int a) (.int b) Q σ=Q (.bool (decide (b<=a))) σ:=rfl
theorem lt_int (x y:Int):b8 .lt (.int x) (.int y) Q σ=Q (.bool (decide (x < y))) σ:=congrArg (λ b=>Q (.bool b) σ) (uE x y)
theorem ge_int (x y:Int):b8 .ge (.int x) (.int y) Q σ=Q (.bool (decide (y<=x))) σ:=congrArg (λ b=>Q (.bool b) σ) (DW y x)
theorem PH (w x y z:Int):b8 .le (.tup [.int w, .int x]) (.tup [.int y, .int z]) Q σ=Q (.bool (gE w x y z)) σ:=rfl
theorem J0:b8 .eq (.int a) (.int b) Q σ=Q (.bool (decide (a=b))) σ:=rfl
theorem Mm:b8 .ne (.int a) (.int b) Q σ=Q (.bool (decide (a≠b))) σ:=by
 show Q (.bool (!decide (a=b))) σ=_
 rw [decide_not]
theorem eq_str:b8 .eq (.str a) (.str b) Q σ=Q (.bool (a == b)) σ:=rfl
theorem is_none:b8 .is .none .none Q σ=Q (.bool true) σ:=rfl
theorem is_tup (xs:List V):b8 .is (.tup xs) .none Q σ=Q (.bool false) σ:=rfl
theorem K7 (x:Int):b8 .is (.int x) .none Q σ=Q (.bool false) σ:=rfl
theorem uL:b8 .dm .none .none Q σ=Q (.bool false) σ:=rfl
theorem xv (xs:List V):b8 .dm (.tup xs) .none Q σ=Q (.bool true) σ:=rfl
theorem xr (x:Int):b8 .dm (.int x) .none Q σ=Q (.bool true) σ:=rfl
theorem iS (t:Bool):gG (.bool t) QB σ=QB t σ:=rfl
theorem xY:gG (.int a) QB σ=QB (decide (a≠0)) σ:=rfl
theorem F6:eU .max [.int a, .int b] Q σ=Q (.int ((max a b:Nat):Int)) σ:=by
 show Q (.int (if (a:Int) < b then (b:Int) else a)) σ=_
 congr 2; split <;> lia
theorem F8:eU .min [.int a, .int b] Q σ=Q (.int ((min a b:Nat):Int)) σ:=by
 show Q (.int (if (b:Int) < a then (b:Int) else a)) σ=_
 congr 2; split <;> lia
theorem ah (H:Hp) (x:Nat) (o:O):upd H x o x=some o:=by simp [upd]
theorem ao (H:Hp) {x y:Nat} (o:O) (h:y≠x):upd H x o y=H y:=by simp [upd,h]
end
noncomputable def xI:=And.intro @ai <| And.intro @Jl <| And.intro @QW <| And.intro @Q0 <| And.intro @Jr <| And.intro @rS <| And.intro @vh <| And.intro @vg <| And.intro @a9 <| And.intro @a8 <|
 And.intro @QS <| And.intro @Li <| And.intro @Lj <| And.intro @QU <| And.intro @Lp <| And.intro @Lq <| And.intro @QZ <| And.intro @R5 <| And.intro @QX <| And.intro @RX <|
 And.intro @QY <| And.intro @RY <| And.intro @E9 <| And.intro @Lk <| And.intro @FU <| And.intro @Jk <| And.intro @Lf <| And.intro @Q5 <| And.intro @LD <| And.intro @LG <|
 And.intro @Jq <| And.intro @Sh <| And.intro @Si <| And.intro @Jo <| And.intro @FV <| And.intro @FW <| And.intro @Q6 <| And.intro @Sg <| And.intro @Jp <| And.intro @Ly <|
 And.intro @Fb <| And.intro @Fc <| And.intro @W8 <| And.intro @W9 <| And.intro @Js <| And.intro @yd <| And.intro @Sj <| And.intro @Sl <| And.intro @uO <| And.intro @Jm <| And.intro @Ln <|
 And.intro @Df <| And.intro @y9 <| And.intro @FX <| And.intro @VK <| And.intro @QT <| And.intro @RM <| And.intro @VJ <| And.intro @R2 <| And.intro @R3 <| And.intro @Fd <| And.intro @FY <|
 And.intro @Jn <| And.intro @T_e <| And.intro @FZ <| And.intro @QP <| And.intro @R6 <| And.intro @QO <| And.intro @VG <| And.intro @Jh <| And.intro @Ji <| And.intro @E7 <| And.intro @E8 <| And.intro @Xj <| And.intro @Xk <|
 And.intro @Ad <| And.intro @RF <| And.intro @Ai <| And.intro @Bt <| And.intro @iP <| And.intro @fU <| And.intro @Ah <| And.intro @R8 <| And.intro @R9 <| And.intro @Sb <|
 And.intro @Af <| And.intro @Lg <| And.intro @Lh <| And.intro @Ae <| And.intro @Rz <| And.intro @RA <| And.intro @RB <| And.intro @RC <| And.intro @RD <| And.intro @Dg <| And.intro @Ls <|
 And.intro @Q8 <| And.intro @Xa <| And.intro @EY <| And.intro @z7 <| And.intro @Q9 <| And.intro @R7 <| And.intro @Q7 <| And.intro @Jt <| And.intro @Jw <| And.intro @ye <| And.intro @xD <| And.intro @Bq <| And.intro @xC <| And.intro @Bs <|
 And.intro @xP <| And.intro @Ci <| And.intro @Fe <| And.intro @Ju @Jv
noncomputable def zk:=And.intro @LH <| And.intro @uS <| And.intro @uR <| And.intro @xE <| And.intro @xF <| And.intro @xh <| And.intro @nQ <| And.intro @pz <| And.intro @uQ <| And.intro @xA <| And.intro @xB <|
 And.intro @iE <| And.intro @je <| And.intro @mK <| And.intro @Bp @D4
noncomputable def P7:=And.intro @tB <| And.intro @Gd <| And.intro @Gr <| And.intro @Fj <| And.intro @MC <| And.intro @GI <| And.intro @L7 <| And.intro @LX <| And.intro @DM <| And.intro @Ki <| And.intro @J0 <| And.intro @Mm <| And.intro @eq_str <|
 And.intro @is_none <| And.intro @is_tup <| And.intro @K7 <| And.intro @uL <| And.intro @xv <| And.intro @xr <| And.intro @iS <| And.intro @xY <| And.intro @F6 <| And.intro @F8 <| And.intro @decide_eq_true_eq @Bool.false_eq_true
end
local macro_rules
  | `(tactic| simp only [$i:ident, $ls,*] $[$l]?) => do let s := if i.getId == `mach then "ai Jl QW Q0 Jr rS vh vg a9 a8 QS Li Lj QU Lp Lq QZ R5 QX RX QY RY E9 Lk FU Jk Lf Q5 LD LG Jq Sh Si Jo FV FW Q6 Sg Jp Ly Fb Fc W8 W9 Js yd Sj Sl uO Jm Ln Df y9 FX VK QT RM VJ R2 R3 Fd FY Jn T_e FZ QP R6 QO VG Jh Ji E7 E8 Xj Xk Ad RF Ai Bt iP fU Ah R8 R9 Sb Af Lg Lh Ae Rz RA RB RC RD Dg Ls Q8 Xa EY z7 Vv Q9 R7 Q7 Jt Jw ye xD Bq xC Bs xP Ci Fe Ju Jv" else if i.getId == `ops then "tB Gd Gr Fj MC GI L7 LX DM Ki J0 Mm eq_str is_none is_tup K7 uL xv xr iS xY F6 F8 decide_eq_true_eq Bool.false_eq_true" else if i.getId == `loops then "LH uS uR xE xF xh nQ pz uQ xA xB iE je mK Bp D4" else if i.getId == `ops2 then "XR VP xu K8 rR xT" else ""; if s == "" then Lean.Macro.throwUnsupported else `(tactic| simp only [$ls,*, $(← (s.splitOn " ").toArray.mapM fun s => `(Lean.Parser.Tactic.simpLemma| $(Lean.mkIdent s.toName):term)),*] $[$l]?)
section
structure A where
 m:Nat
 ands:List (Nat×Nat)
 outs:List Nat
 lQ:List ((Nat×Nat)×Nat)
namespace A
noncomputable def N (g:A):Nat:=g.m+1+g.ands.length
noncomputable def pair (g:A) (v:Nat):Option (Nat×Nat):=if v<=g.m then none else g.ands[v - (g.m+1)]?
noncomputable def EV (g:A) (x:Nat->Bool) (v:Nat) (f: ∀u,u < v->Bool):Bool:=
 if v=0 then false else if v<=g.m then x v else
 match g.pair v with
 | some (l,r)=>if h:l / 2 < v/\r / 2 < v then (f (l / 2) h.1 ^^ (l % 2 == 1)) && (f (r / 2) h.2 ^^ (r % 2 == 1)) else false
 | none=>false
noncomputable def val (g:A) (x:Nat->Bool):Nat->Bool:=WellFounded.fix Nat.lt_wfRel.wf (EV g x)
theorem val_eq (g:A) (x:Nat->Bool) (v:Nat):g.val x v=EV g x v λ u z=>g.val x u:=WellFounded.fix_eq Nat.lt_wfRel.wf (EV g x) v
noncomputable def lv (g:A) (x:Nat->Bool) (l:Nat):Bool:=g.val x (l / 2) ^^ (l % 2 == 1)
noncomputable def HK (g:A) (v:Nat) (f: ∀u,u < v->Nat):Nat:=
 match g.pair v with
 | some (l,r)=>if h:l / 2 < v/\r / 2 < v then 1+max (f (l / 2) h.1) (f (r / 2) h.2) else 0
 | none=>0
noncomputable def bH (g:A):Nat->Nat:=WellFounded.fix Nat.lt_wfRel.wf (HK g)
theorem zg (g:A) (v:Nat):g.bH v=HK g v λ u z=>g.bH u:=WellFounded.fix_eq Nat.lt_wfRel.wf (HK g) v
structure WF (g:A):Prop where
 kids: ∀{v l r:Nat},g.pair v=some (l,r)->l / 2 < v/\r / 2 < v
 tab: ∀e∈g.lQ,g.pair e.2=some e.1
 outs: ∀o∈g.outs,o / 2 < g.N
 tsz:g.lQ.length<=g.ands.length
structure Le (g g':A):Prop where
 m:g'.m=g.m
 ands: ∃t,g'.ands=g.ands++t
 outs:g'.outs=g.outs
theorem Le.refl (g:A):Le g g:=⟨rfl,⟨[],by exact Eq.symm (List.append_nil g.ands)⟩,rfl⟩
theorem Le.trans {a b c:A} (h:Le a b) (k:Le b c):Le a c:=
 ⟨k.m.trans h.m,by obtain ⟨t,e⟩:=h.ands; obtain ⟨u,f⟩:=k.ands; exact ⟨t++u,by rw [f,e,List.append_assoc]⟩,k.outs.trans h.outs⟩
theorem Le.N {g g':A} (h:Le g g'):g.N<=g'.N:=by
 obtain ⟨t,e⟩:=h.ands
 have:=h.m
 simp only [A.N,e,List.length_append,this]; lia
theorem bt {g:A} {v:Nat} {p:Nat×Nat} (h:g.pair v=some p):v < g.N/\g.m < v:=by
 unfold pair at h
 split at h
 ·cases h
 ·have:=(List.getElem?_eq_some_iff.mp h).1
  unfold A.N; lia
theorem d0 {g:A} {v:Nat} (h:g.m < v) (h':v < g.N): ∃l r,g.pair v=some (l,r):=by
 unfold pair
 rw [if_neg (by exact Nat.not_le_of_lt h)]
 have:v - (g.m+1) < g.ands.length:=by unfold A.N at h'; exact Nat.sub_lt_left_of_lt_add h h'
 exact ⟨_,_,List.getElem?_eq_getElem this⟩
theorem xM {g:A} {v:Nat} (h:v<=g.m):g.pair v=none:=by unfold pair; rw [if_pos h]
theorem Le.pair {g g':A} (h:Le g g') {v:Nat} (hv:v < g.N):g'.pair v=g.pair v:=by
 obtain ⟨t,e⟩:=h.ands
 unfold A.pair
 rw [h.m]
 split
 ·rfl
 ·rw [e,List.getElem?_append_left (by unfold A.N at hv; lia)]
theorem val_zero (g:A) (x:Nat->Bool):g.val x 0=false:=by rw [val_eq,EV,if_pos rfl]
theorem vH {g:A} {x:Nat->Bool} {v:Nat} (h:1<=v) (h':v<=g.m):g.val x v=x v:=by
 rw [val_eq,EV,if_neg (by exact Nat.ne_zero_of_lt h),if_pos h']
theorem fN {g:A} (w:g.WF) {x:Nat->Bool} {v l r:Nat} (h:g.pair v=some (l,r)):g.val x v=(g.lv x l && g.lv x r):=by
 have h1:=(bt h).2
 have h2:=w.kids h
 rw [val_eq,EV,if_neg (by exact Nat.ne_zero_of_lt h1),if_neg (by exact Nat.not_le_of_lt h1),h]
 simp only [h2,lv]
 rfl
theorem uY {g:A} {v:Nat} (h:v<=g.m):g.bH v=0:=by rw [zg,HK,xM h]
theorem nW {g:A} (w:g.WF) {v l r:Nat} (h:g.pair v=some (l,r)):g.bH v=1+max (g.bH (l / 2)) (g.bH (r / 2)):=by
 have h2:=w.kids h
 rw [zg,HK,h]
 simp only [h2]; rfl
theorem Le.val {g g':A} (h:Le g g') (x:Nat->Bool): ∀{v:Nat},v < g.N->g'.val x v=g.val x v:=by
 intro v
 induction v using Nat.strongRecOn with
 | ind v ih=>
  intro hv
  rw [val_eq,val_eq g,show (λ u (z:u < v)=>g'.val x u)=λ u z=>g.val x u from funext λ u=>funext λ k=>ih u k (Nat.lt_trans k hv)]
  unfold EV; rw [h.m,h.pair hv]
theorem Le.bH {g g':A} (h:Le g g'): ∀{v:Nat},v < g.N->g'.bH v=g.bH v:=by
 intro v
 induction v using Nat.strongRecOn with
 | ind v ih=>
  intro hv
  rw [zg,zg g,show (λ u (z:u < v)=>g'.bH u)=λ u z=>g.bH u from funext λ u=>funext λ k=>ih u k (Nat.lt_trans k hv)]
  unfold HK; rw [h.pair hv]
theorem Le.lv {g g':A} (h:Le g g') (x:Nat->Bool) {l:Nat} (hl:l / 2 < g.N):g'.lv x l=g.lv x l:=by unfold A.lv; rw [h.val x hl]
noncomputable def cp (g:A) (P:Nat->Prop):Prop:= ∀v l r,P v->g.pair v=some (l,r)->P (l / 2)/\P (r / 2)
noncomputable def land (g:A) (l r:Nat):Nat×A:=
 let a:=if r < l then r else l
 let b:=if r < l then l else r
 if a=0\/a=b ^^^ 1 then (0,g)
 else if a=1\/a=b then (b,g)
 else match g.lQ.lookup (a,b) with
  | some k=>(2*k,g)
  | none=>(2*g.N,{g with ands:=g.ands++ [(a,b)],lQ:=g.lQ++ [((a,b),g.N)]})
theorem bS (l:Nat):(l ^^^ 1) / 2=l / 2:=by rw [Nat.xor_div_two]; simp
theorem CY (l:Nat):(l ^^^ 1) % 2=1 - l % 2:=by
 have h3:=Nat.xor_mod_two_eq_one (a:=l) (b:=1)
 have h1:=Nat.mod_two_eq_zero_or_one (l ^^^ 1)
 generalize (l ^^^ 1) % 2=y at*
 rcases Nat.mod_two_eq_zero_or_one l with k | k <;> rw [k] at h3 ⊢ <;> rcases h1 with rfl | rfl <;> first | rfl | (exfalso; revert h3; decide)
theorem Y9 (l:Nat):l ^^^ 1=if l % 2=0 then l+1 else l - 1:=by
 have e:=Nat.div_add_mod l 2
 rw [<- Nat.div_add_mod (l ^^^ 1) 2,bS,CY]
 rcases Nat.mod_two_eq_zero_or_one l with h | h
 ·rw [if_pos h,h]; rw [h] at e; exact congrArg (· +1) e
 ·rw [if_neg (by rw [h]; decide),h]; rw [h] at e; exact (Nat.sub_eq_of_eq_add e.symm).symm
theorem eM (g:A) (x:Nat->Bool) (l:Nat):g.lv x (l ^^^ 1)=!g.lv x l:=by
 unfold lv
 rw [bS,CY]
 rcases Nat.mod_two_eq_zero_or_one l with k | k <;> rw [k] <;> cases g.val x (l / 2) <;> rfl
theorem jk (g:A) (x:Nat->Bool):g.lv x 0=false:=by simp [lv,val_zero]
theorem L9 (g:A) (x:Nat->Bool):g.lv x 1=true:=by simp [lv,val_zero]
theorem tM (g:A) (x:Nat->Bool) (v:Nat):g.lv x (2*v)=g.val x v:=by simp [lv]
theorem lookup_mem {α β:Type} [BEq α] [LawfulBEq α] {l:List (α×β)} {k:α} {v:β} (h:l.lookup k=some v):(k,v)∈l:=by
 induction l with
 | nil=>cases h
 | cons e r ih=>
  obtain ⟨a,b⟩:=e
  rw [List.lookup_cons] at h
  cases q:k == a with
  | true=>rw [q] at h; cases h; rw [eq_of_beq q]; exact .head _
  | false=>rw [q] at h; exact .tail _ (ih h)
theorem j2 {g:A} {a b:Nat} {T:List ((Nat×Nat)×Nat)}:({g with ands:=g.ands++ [(a,b)],lQ:=T}:A).pair g.N=some (a,b):=by
 unfold pair
 rw [if_neg (by simp [A.N]; lia)]
 simp [A.N]
inductive rV (g:A) (a b:Nat):Nat->A->Prop
 | zero (h:a=0\/a=b ^^^ 1):rV g a b 0 g
 | one (h:a=1\/a=b):rV g a b b g
 | old (k:Nat) (h:g.lQ.lookup (a,b)=some k):rV g a b (2*k) g
 | new:rV g a b (2*g.N) {g with ands:=g.ands++ [(a,b)],lQ:=g.lQ++ [((a,b),g.N)]}
theorem Bw (g:A) (l r:Nat):rV g (if r < l then r else l) (if r < l then l else r) (g.land l r).1 (g.land l r).2:=by
 unfold land; dsimp only
 generalize (if r < l then r else l)=a
 generalize (if r < l then l else r)=b
 by_cases c:a=0\/a=b ^^^ 1
 ·rw [if_pos c]; exact .zero c
 ·rw [if_neg c]
  by_cases d:a=1\/a=b
  ·rw [if_pos d]; exact .one d
  ·rw [if_neg d]
   cases h:g.lQ.lookup (a,b) with
   | none=>exact .new
   | some k=>exact .old k h
theorem rV.le {g h:A} {a b c:Nat} (i:rV g a b c h):Le g h:=by
 cases i with
 | new=>exact ⟨rfl,⟨_,rfl⟩,rfl⟩
 | _=>exact .refl _
theorem F0 (g:A) (l r:Nat):Le g (g.land l r).2:=(Bw g l r).le
theorem Qa {g:A} (w:g.WF) {a b:Nat} (ha:a / 2 < g.N) (hb:b / 2 < g.N):({g with ands:=g.ands++ [(a,b)],lQ:=g.lQ++ [((a,b),g.N)]}:A).WF:=by
 have hle:Le g {g with ands:=g.ands++ [(a,b)],lQ:=g.lQ++ [((a,b),g.N)]}:=⟨rfl,⟨_,rfl⟩,rfl⟩
 refine ⟨λ {v l r} h=>?_,λ e he=>?_,λ o ho=>Nat.lt_of_lt_of_le (w.outs o ho) hle.N,by have:=w.tsz; simp; assumption⟩
 ·by_cases hv:v < g.N
  ·rw [hle.pair hv] at h; exact w.kids h
  ·have:v=g.N:=by have:=(bt h).1; simp [A.N] at this hv ⊢; exact Nat.eq_of_le_of_lt_succ hv this
   rw [this,j2] at h; rw [this]; cases h; exact ⟨ha,hb⟩
 ·rcases List.mem_append.mp he with he | he
  ·have:=w.tab e he
   rw [hle.pair (bt this).1]; exact this
  ·cases List.mem_singleton.mp he; exact j2
structure lY (g:A) (l r lit:Nat) (g':A):Prop where
 le:Le g g'
 wf:g'.WF
 lt:lit / 2 < g'.N
 grow:g'.N<=g.N+1
 val: ∀x,g'.lv x lit=(g.lv x l && g.lv x r)
 bX: ∀P:Nat->Prop,cp g P->P 0->P (l / 2)->P (r / 2)->P (lit / 2)\/∃l' r',g'.pair (lit / 2)=some (l',r')/\P (l' / 2)/\P (r' / 2)
structure Aa (g:A) (l r lit:Nat) (g':A):Prop where
 of:lY g l r lit g'
 bH:g'.bH (lit / 2)<=1+max (g.bH (l / 2)) (g.bH (r / 2))
 new:(g'=g/\lit / 2 < g.N)\/(lit=2*g.N/\g'.N=g.N+1/\g'.bH g.N=1+max (g.bH (l / 2)) (g.bH (r / 2)))
theorem Aa.swap {g g':A} {l r lit:Nat} (h:Aa g l r lit g'):Aa g r l lit g':=
 ⟨⟨h.of.le,h.of.wf,h.of.lt,h.of.grow,λ x=>by rw [h.of.val,Bool.and_comm],λ P c h0 h1 h2=>(h.of.bX P c h0 h2 h1).imp id λ ⟨a,b,e,p,q⟩=>⟨a,b,e,p,q⟩⟩,by rw [Nat.max_comm]; exact h.bH,by rw [Nat.max_comm]; exact h.new⟩
theorem twice (k:Nat):2*k / 2=k:=Nat.mul_div_cancel_left k (by decide)
theorem LQ {g g':A} {a b c:Nat} (w:g.WF) (ha:a / 2 < g.N) (hb:b / 2 < g.N) (i:rV g a b c g'):Aa g a b c g':=by
 cases i with
 | zero h=>
  have hz:0 / 2 < g.N:=Nat.lt_of_le_of_lt (Nat.zero_le _) ha
  refine ⟨⟨.refl _,w,hz,Nat.le_succ _,λ x=>?_,λ P x h0 y z=> .inl h0⟩,?_, .inl ⟨rfl,hz⟩⟩
  ·rw [jk]
   rcases h with rfl | rfl
   ·rw [jk]; rfl
   ·rw [eM]; exact (Bool.not_and_self _).symm
  ·rw [uY (Nat.zero_le _)]; exact Nat.zero_le _
 | one h=>
  refine ⟨⟨.refl _,w,hb,Nat.le_succ _,λ x=>?_,λ P x h0 y z=> .inl z⟩,Nat.le_trans (Nat.le_max_right _ _) (Nat.le_add_left _ _), .inl ⟨rfl,hb⟩⟩
  rcases h with rfl | rfl
  ·rw [L9]; rfl
  ·exact (Bool.and_self _).symm
 | old k h=>
  have hp:=w.tab _ (lookup_mem h)
  have e:=twice k
  refine ⟨⟨.refl _,w,by rw [e]; exact (bt hp).1,Nat.le_succ _,λ x=>?_,λ P x h0 y z=> .inr ⟨a,b,by rw [e]; exact hp,y,z⟩⟩,?_, .inl ⟨rfl,by rw [e]; exact (bt hp).1⟩⟩
  ·rw [tM,fN w hp]
  ·rw [e,nW w hp]; exact Nat.le_refl _
 | new=>
  have e:=twice g.N
  have W:=Qa w ha hb
  have L:Le g {g with ands:=g.ands++ [(a,b)],lQ:=g.lQ++ [((a,b),g.N)]}:=⟨rfl,⟨_,rfl⟩,rfl⟩
  have hN:({g with ands:=g.ands++ [(a,b)],lQ:=g.lQ++ [((a,b),g.N)]}:A).N=g.N+1:=by simp [A.N]; exact (Nat.add_assoc _ _ _).symm
  have hl:A.bH {g with ands:=g.ands++ [(a,b)],lQ:=g.lQ++ [((a,b),g.N)]} g.N=1+max (g.bH (a / 2)) (g.bH (b / 2)):=by rw [nW W j2,L.bH ha,L.bH hb]
  refine ⟨⟨L,W,by rw [e,hN]; exact Nat.lt_succ_self _,Nat.le_of_eq hN,λ x=>?_,λ P x h0 y z=> .inr ⟨a,b,by rw [e]; exact j2,y,z⟩⟩,by rw [e]; exact Nat.le_of_eq hl, .inr ⟨rfl,hN,hl⟩⟩
  rw [tM,fN W j2,L.lv x ha,L.lv x hb]
theorem uW {g:A} (w:g.WF) {l r:Nat} (hl:l / 2 < g.N) (hr:r / 2 < g.N):Aa g l r (g.land l r).1 (g.land l r).2:=by
 have i:=Bw g l r
 by_cases c:r < l
 ·rw [if_pos c,if_pos c] at i; exact (LQ w hr hl i).swap
 ·rw [if_neg c,if_neg c] at i; exact LQ w hl hr i
theorem qv {g:A} (w:g.WF) {l r:Nat} (hl:l / 2 < g.N) (hr:r / 2 < g.N):lY g l r (g.land l r).1 (g.land l r).2:=(uW w hl hr).of
theorem Bx {g:A} (w:g.WF) {l r:Nat} (hl:l / 2 < g.N) (hr:r / 2 < g.N):(g.land l r).2.bH ((g.land l r).1 / 2)<=1+max (g.bH (l / 2)) (g.bH (r / 2)):=(uW w hl hr).bH
end A
namespace A
theorem Vn (g:A) (o:List Nat) (v:Nat):({g with outs:=o}:A).pair v=g.pair v:=rfl
theorem X3 (g:A) (o:List Nat) (x:Nat->Bool) (v:Nat):({g with outs:=o}:A).val x v=g.val x v:=rfl
theorem F5 (g:A) (o:List Nat) (x:Nat->Bool) (l:Nat):({g with outs:=o}:A).lv x l=g.lv x l:=rfl
theorem BD (g:A) (o:List Nat) (v:Nat):({g with outs:=o}:A).bH v=g.bH v:=rfl
noncomputable def empty:A:=⟨0,[],[],[]⟩
theorem jZ (g:A) (x:Nat->Bool) (a o:Nat):g.lv x (a ^^^ o % 2)=(g.lv x a ^^ (o % 2 == 1)):=by
 rcases Nat.mod_two_eq_zero_or_one o with h | h <;> rw [h]
 ·simp
 ·rw [eM]; simp
theorem bu (a o:Nat):(a ^^^ o % 2) / 2=a / 2:=by
 rcases Nat.mod_two_eq_zero_or_one o with h | h <;> rw [h]
 ·simp
 ·exact bS a
theorem zV {g:A} (w:g.WF) {o:List Nat} (h: ∀y∈o,y / 2 < g.N):({g with outs:=o}:A).WF:=⟨w.kids,w.tab,h,w.tsz⟩
end A
end
section
noncomputable abbrev nV (n:Nat):V:= .int n
noncomputable def aF (p:Nat×Nat):V:= .tup [nV p.1,nV p.2]
noncomputable def cT:Option (Nat×Nat)->V
 | .none=> .none
 | some p=>aF p
noncomputable def ae (l:List Nat):List V:=l.map nV
noncomputable def lj (t:List ((Nat×Nat)×Nat)):List (V×V):=t.map λ e=>(aF e.1,nV e.2)
namespace A
noncomputable def aZ (g:A):List V:=List.replicate (g.m+1) .none++g.ands.map aF
noncomputable def iU (g:A):List V:=ae (List.range' 1 g.m)
noncomputable def obj (g:A):O:= .aig g.aZ g.iU (ae g.outs) (lj g.lQ)
end A
theorem zF {α:Type} (l:List α) (n:Nat):df l n=l[n]?:=by
 induction l generalizing n with
 | nil=>rfl
 | cons a l ih=>
  cases n with
  | zero=>rfl
  | succ n=>exact (ih n).trans List.getElem?_cons_succ.symm
theorem MK {α:Type} (l:List α) (n:Nat) (b:α):put l n b=l.set n b:=by
 induction l generalizing n with
 | nil=>rfl
 | cons a l ih=>
  cases n with
  | zero=>rfl
  | succ n=>exact congrArg (a:: ·) (ih n)
theorem YN {a k:Nat}:cH (.ref a) (nV k)=true:=rfl
theorem Xv {a p q:Nat}:cH (.part a 3) (.tup [nV p,nV q])=true:=rfl
theorem UN {α:Type} (l:List α) (n:Nat) (b:α):(put l n b).length=l.length:=by rw [MK]; exact List.length_set
theorem Iq (v n:Nat):place (v:Int) n=if v < n then some v else .none:=by
 unfold place
 rw [if_pos (Int.natCast_nonneg v)]
 by_cases h:v < n
 ·rw [if_pos (by exact Int.ofNat_lt.mpr h),if_pos h]; simp
 ·rw [if_neg (by lia),if_neg h]
theorem bA (g:A):g.aZ.length=g.N:=by simp [A.aZ,A.N]
theorem xK (g:A) {v:Nat} (h:v < g.N):df g.aZ v=some (cT (g.pair v)):=by
 rw [zF]
 unfold A.aZ A.pair
 by_cases hv:v<=g.m
 ·rw [if_pos hv,List.getElem?_append_left (by simp; lia)]
  simp only [List.getElem?_replicate,cT]
  rw [if_pos (by lia)]
 ·rw [if_neg hv,List.getElem?_append_right (by simp; lia)]
  simp only [List.length_replicate,List.getElem?_map]
  have:v - (g.m+1) < g.ands.length:=by unfold A.N at h; lia
  rw [List.getElem?_eq_getElem this]; rfl
set_option tactic.hygienic true in
theorem fY {H:Hp} {a:Nat} {o:O} (h:H a=some o):upd H a o=H:=by
 funext b; unfold upd; split
 ·rename_i e; rw [e,h]
 ·rfl
theorem cZ (H:Hp) (a:Nat) (o o':O):upd (upd H a o) a o'=upd H a o':=by
 funext b; unfold upd; split <;> rfl
section
variable {C:CT} {Q:PV} {QB:PB} {QF:PF} {l:List (Option V)} {H:Hp} {g:A} {a:Nat}
theorem aw (h:H a=some g.obj) (k:Nat) (hk:k < 4):t6 (.ref a) k Q ⟨l,H⟩=Q (.part a k) ⟨l,H⟩:=by
 show (match H a with | some (.aig ..)=>k < 4/\Q (.part a k) ⟨l,H⟩ | _=>False)=_
 rw [h]; exact propext ⟨λ x=>x.2,λ x=>⟨hk,x⟩⟩
theorem aT (h:H a=some g.obj):itemsOf H (.part a 0)=some g.aZ:=congrArg (λ o=>itemsOf (λ z=>o) (.part a 0)) h
theorem hZ (h:H a=some g.obj):itemsOf H (.part a 1)=some g.iU:=congrArg (λ o=>itemsOf (λ z=>o) (.part a 1)) h
theorem aQ (h:H a=some g.obj):itemsOf H (.part a 2)=some (ae g.outs):=congrArg (λ o=>itemsOf (λ z=>o) (.part a 2)) h
theorem Ck (k:Nat):cU H (.part a k)=itemsOf H (.part a k):=rfl
theorem YT:cU H (.ref a)=itemsOf H (.ref a):=rfl
theorem ay {xs:List V} (h:H a=some (.list xs)):itemsOf H (.ref a)=some xs:=congrArg (λ o=>itemsOf (λ z=>o) (.ref a)) h
theorem in_list {x:V} {xs:List V} (h:H a=some (.list xs)):b8 .sa x (.ref a) Q ⟨l,H⟩=Bh x xs λ b=>Q (.bool b) ⟨l,H⟩:=by
 show (match dictOf H (.ref a) with | some es=>cH (.ref a) x=true/\Q (.bool (bU es x).isSome) ⟨l,H⟩ | .none=>match cU H (.ref a) with | some xs=>Bh x xs (λ b=>Q (.bool b) ⟨l,H⟩) | .none=>False)=_
 rw [show dictOf H (.ref a)= .none from congrArg (λ o=>dictOf (λ z=>o) (.ref a)) h,show cU H (.ref a)=some xs from ay h]
theorem zf {o:V} {xs:List V} (h:cU H o=some xs):eU .len [o] Q ⟨l,H⟩=Q (nV xs.length) ⟨l,H⟩:=by
 show (match cU H o with | some xs=>Q (nV xs.length) ⟨l,H⟩ | .none=>False)=_
 rw [h]
theorem bj (h:H a=some g.obj):eU .len [.part a 0] Q ⟨l,H⟩=Q (nV g.N) ⟨l,H⟩:=by
 rw [zf (o:= .part a 0) (aT h),bA]
theorem Hb {k:Nat} (hk:k < 3):dictOf H (.part a k)= .none:=by
 exact if_neg (Nat.ne_of_lt hk)
theorem Ms {xs:List V} {v:Nat} {y:V} (hv:df xs v=some y):v < xs.length:=by
 rw [zF] at hv; exact (List.getElem?_eq_some_iff.mp hv).1
theorem Np {o:V} {i:Int} {xs:List V} {v:Nat} {y:V} (h1:dictOf H o= .none) (h2:cU H o=some xs) (hl:place i xs.length=some v) (hv:df xs v=some y):b7 o (.int i) Q ⟨l,H⟩=Q y ⟨l,H⟩:=by
 unfold b7; simp only [h1,h2,hl,hv]
theorem rQ {o:V} {xs:List V} {v:Nat} {y:V} (h1:dictOf H o= .none) (h2:cU H o=some xs) (hl:v < xs.length) (hv:df xs v=some y):b7 o (nV v) Q ⟨l,H⟩=Q y ⟨l,H⟩:=
 Np h1 h2 ((Iq v xs.length).trans (if_pos hl)) hv
theorem nH {o v:V} {xs:List V} {H':Hp} (h1:cU H o=some xs) (h2:lg H o (xs++ [v])=some H') (hn:xs.length < lim):xH .append o [v] Q ⟨l,H⟩=Q .none ⟨l,H'⟩:=by
 unfold xH; simp only [h1,h2,hn,true_and]
theorem aO (h:H a=some g.obj) {v:Nat} (hv:v < g.N):b7 (.part a 0) (nV v) Q ⟨l,H⟩=Q (cT (g.pair v)) ⟨l,H⟩:=by
 exact rQ (Hb (by decide)) (aT h) (by rw [bA]; exact hv) (xK g hv)
theorem aU {xs:List V} (h:H a=some (.list xs)) {v:Nat} {y:V} (hv:df xs v=some y):b7 (.ref a) (nV v) Q ⟨l,H⟩=Q y ⟨l,H⟩:=by
 exact rQ (congrArg (λ o=>dictOf (λ z=>o) (.ref a)) h) (ay h) (Ms hv) hv
theorem bI {xs:List V} {v:Nat} {y:V} (hv:df xs v=some y):b7 (.tup xs) (nV v) Q ⟨l,H⟩=Q y ⟨l,H⟩:=by
 exact rQ rfl rfl (Ms hv) hv
theorem set_list {xs:List V} (h:H a=some (.list xs)) {v:Nat} {y:V} (hv:v < xs.length):bC (.ref a) (nV v) y QF ⟨l,H⟩=QF .next ⟨l,upd H a (.list (put xs v y))⟩:=by
 unfold bC; rw [show dictOf H (.ref a)= .none from congrArg (λ o=>dictOf (λ z=>o) (.ref a)) h]
 show (match H a with | some (.list xs)=>(0<=(v:Int)/\(v:Int) < xs.length)/\QF .next ⟨l,upd H a (.list (put xs v y))⟩ | _=>False)=_
 rw [h]; exact propext ⟨λ x=>x.2,λ x=>⟨⟨Int.natCast_nonneg v,Int.ofNat_lt.mpr hv⟩,x⟩⟩
theorem len_list {xs:List V} (h:H a=some (.list xs)):eU .len [.ref a] Q ⟨l,H⟩=Q (nV xs.length) ⟨l,H⟩:=by
 exact zf (ay h)
theorem ik {xs:List V} {v:V} (h:H a=some (.list xs)) (hn:xs.length < lim):xH .append (.ref a) [v] Q ⟨l,H⟩=Q .none ⟨l,upd H a (.list (xs++ [v]))⟩:=by
 exact nH (ay h) (by show (match H a with | some (.list _)=>some (upd H a (.list (xs++ [v]))) | _=> .none)=_; rw [h]) hn
theorem append_list {xs:List V} {v:V} (h:H a=some (.list xs)) (hn:xs.length < lim):(lV .append H (.ref a)/\xH .append (.ref a) [v] Q ⟨l,H⟩)=Q .none ⟨l,upd H a (.list (xs++ [v]))⟩:=
 (kX (dN h)).trans (ik h hn)
end
section
variable {C:CT} {Q:PV} {QF:PF} {l:List (Option V)} {H:Hp} {a:Nat} {N I U:List V} {T:List (V×V)}
theorem jQ (h:H a=some (.aig N I U T)) {k:Nat} (hk:k < 4):t6 (.ref a) k Q ⟨l,H⟩=Q (.part a k) ⟨l,H⟩:=by
 show (match H a with | some (.aig ..)=>k < 4/\Q (.part a k) ⟨l,H⟩ | _=>False)=_
 rw [h]; exact propext ⟨λ x=>x.2,λ x=>⟨hk,x⟩⟩
theorem Km {o k d:V} {es:List (V×V)} (h:dictOf H o=some es) (hk:cH o k=true):xH .get o [k,d] Q ⟨l,H⟩=Q ((bU es k).getD d) ⟨l,H⟩:=by
 show (match dictOf H o with | some es=>cH o k=true/\Q ((bU es k).getD d) ⟨l,H⟩ | .none=>False)=_
 rw [h]; exact propext ⟨λ x=>x.2,λ x=>⟨hk,x⟩⟩
theorem OV (h:H a=some (.aig N I U T)) {k d:V} (hk:cH (.part a 3) k=true):(lV .get H (.part a 3)/\xH .get (.part a 3) [k,d] Q ⟨l,H⟩)=Q ((bU T k).getD d) ⟨l,H⟩:=by
 have hd:dictOf H (.part a 3)=some T:=congrArg (λ o=>dictOf (λ z=>o) (.part a 3)) h
 exact (kX (Gg hd)).trans (Km hd hk)
theorem rX (h:H a=some (.aig N I U T)) {v:V} (hn:N.length < lim):(lV .append H (.part a 0)/\xH .append (.part a 0) [v] Q ⟨l,H⟩)=Q .none ⟨l,upd H a (.aig (N++ [v]) I U T)⟩:=by
 exact (kX (En h (by decide))).trans (nH (congrArg (λ o=>itemsOf (λ z=>o) (.part a 0)) h) (by show (match H a with | some (.aig N1 I1 U1 T1)=>some (upd H a (.aig (N++ [v]) I1 U1 T1)) | _=> .none)=_; rw [h]) hn)
theorem Am (h:H a=some (.aig N I U T)) {v:V} (hn:I.length < lim):(lV .append H (.part a 1)/\xH .append (.part a 1) [v] Q ⟨l,H⟩)=Q .none ⟨l,upd H a (.aig N (I++ [v]) U T)⟩:=by
 exact (kX (En h (by decide))).trans (nH (congrArg (λ o=>itemsOf (λ z=>o) (.part a 1)) h) (by show (match H a with | some (.aig N1 I1 U1 T1)=>some (upd H a (.aig N1 (I++ [v]) U1 T1)) | _=> .none)=_; rw [h]) hn)
theorem An (h:H a=some (.aig N I U T)) {v:V} (hn:U.length < lim):(lV .append H (.part a 2)/\xH .append (.part a 2) [v] Q ⟨l,H⟩)=Q .none ⟨l,upd H a (.aig N I (U++ [v]) T)⟩:=by
 exact (kX (En h (by decide))).trans (nH (congrArg (λ o=>itemsOf (λ z=>o) (.part a 2)) h) (by show (match H a with | some (.aig N1 I1 U1 T1)=>some (upd H a (.aig N1 I1 (U++ [v]) T1)) | _=> .none)=_; rw [h]) hn)
theorem Bz (h:H a=some (.aig N I U T)):eU .len [.part a 0] Q ⟨l,H⟩=Q (nV N.length) ⟨l,H⟩:=by exact zf (congrArg (λ o=>itemsOf (λ z=>o) (.part a 0)) h)
theorem Qe (h:H a=some (.aig N I U T)) {p q:Nat} {v:V} (hn:T.length < lim) (hk: ∀e∈T,∃ys,e.1= .tup ys):
  bC (.part a 3) (.tup [nV p,nV q]) v QF ⟨l,H⟩=QF .next ⟨l,upd H a (.aig N I U (cR T (.tup [nV p,nV q]) v))⟩:=by
 have Ky: ∀e∈T,(match e.1,V.tup [nV p,nV q] with | .int _, .int _=>True | .tup _, .tup _=>True | _,_=>False):=λ e he=>by
  obtain ⟨ys,e'⟩:=hk e he
  rw [e']; trivial
 have hd:dictOf H (.part a 3)=some T:=congrArg (λ o=>dictOf (λ z=>o) (.part a 3)) h
 have hs:k9 H (.part a 3) (cR T (.tup [nV p,nV q]) v)=some (upd H a (.aig N I U (cR T (.tup [nV p,nV q]) v))):=by show (match H a with | some (.aig N I U _)=>some (upd H a (.aig N I U (cR T (.tup [nV p,nV q]) v))) | _=> .none)=_; rw [h]
 unfold bC
 rw [hd]
 show (_/\match k9 H (.part a 3) (cR T (.tup [nV p,nV q]) v) with | some H'=>_ | .none=>_)=_
 rw [hs]
 exact propext ⟨λ x=>x.2,λ x=>⟨⟨rfl,hn,Ky⟩,x⟩⟩
end
theorem CV (p q:Nat×Nat):jN (aF p) (aF q)=(p == q):=by
 obtain ⟨a,b⟩:=p; obtain ⟨c,d⟩:=q
 show ((((a:Int) == c) && (((b:Int) == d) && true)))=((a,b) == (c,d))
 have h1:((a:Int) == c)=(a == c):=by rw [Bool.eq_iff_iff]; simp; lia
 have h2:((b:Int) == d)=(b == d):=by rw [Bool.eq_iff_iff]; simp; lia
 rw [h1,h2]; simp; rfl
theorem JT (t:List ((Nat×Nat)×Nat)) (p:Nat×Nat):bU (lj t) (aF p)=(t.lookup p).map nV:=by
 induction t with
 | nil=>rfl
 | cons e r ih=>
  obtain ⟨q,v⟩:=e
  show (if jN (aF q) (aF p)=true then some (nV v) else bU (lj r) (aF p))=_
  rw [CV,List.lookup_cons]
  have:(q == p)=(p == q):=BEq.comm
  rw [this]
  cases p == q <;> simp [ih]
theorem JX (t:List ((Nat×Nat)×Nat)) (p:Nat×Nat) (v:Nat) (h:t.lookup p= .none):cR (lj t) (aF p) (nV v)=lj (t++ [(p,v)]):=by
 induction t with
 | nil=>rfl
 | cons e r ih=>
  obtain ⟨q,u⟩:=e
  rw [List.lookup_cons] at h
  have:(q == p)=(p == q):=BEq.comm
  show (if jN (aF q) (aF p)=true then _ else _)=_
  rw [CV,this]
  cases hb:p == q with
  | true=>rw [hb] at h; cases h
  | false=>rw [hb] at h; simp only [Bool.false_eq_true,if_false]; exact congrArg _ (ih h)
theorem BW (g:A) (p:Nat×Nat) (T:List ((Nat×Nat)×Nat)):
  (A.obj {g with ands:=g.ands++ [p],lQ:=T})= .aig (g.aZ++ [aF p]) g.iU (ae g.outs) (lj T):=by
 simp [A.obj,A.aZ,A.iU]
theorem kU {n a l r:Nat} {g:A} {H:Hp} {Q:V->Hp->Prop} (hG:H a=some g.obj) (hN:g.N < 10000) (w:g.WF)
  (k:Q (nV (g.land l r).1) (upd H a (g.land l r).2.obj)):au prog (n+1) Ui [.ref a,nV l,nV r] Q H:=by
 refine aj DE [some (.ref a),some (nV l),some (nV r), .none] rfl rfl ?_
 have oF:H a=some (.aig g.aZ g.iU (ae g.outs) (lj g.lQ)):=hG
 have key: ∀p q:Nat,p=(if r < l then r else l)->q=(if r < l then l else r)->
   Xs (au prog n) (ke.drop 1) (d8 Q) ⟨[some (.ref a),some (nV p),some (nV q), .none],H⟩:=by
  intro p q hp hq
  unfold A.land at k
  dsimp only at k
  rw [<- hp,<- hq] at k
  simp only [mach,ops,ke,List.drop]
  by_cases c1:p=0\/p=q ^^^ 1
  ·rw [if_pos c1] at k
   rw [fY hG] at k
   rcases c1 with c | c
   ·simp only [mach,c,if_true]; exact k
   ·by_cases c':p=0
    ·simp only [mach,c',if_true]; exact k
    ·simp only [mach,ops,c',if_false]; simp only [mach,c,if_true]; exact k
  ·rw [if_neg c1] at k
   have d1: ¬p=0:=λ e=>c1 (.inl e)
   have d2: ¬p=q ^^^ 1:=λ e=>c1 (.inr e)
   simp only [mach,ops,d1,d2,if_false]
   by_cases c2:p=1\/p=q
   ·rw [if_pos c2,fY hG] at k
    by_cases c':p=1
    ·simp only [mach,c',if_true]; exact k
    ·have c:p=q:=c2.resolve_left c'
     simp only [mach,ops,c',if_false]; simp only [mach,c,if_true]; exact k
   ·rw [if_neg c2] at k
    have d3: ¬p=1:=λ e=>c2 (.inl e)
    have d4: ¬p=q:=λ e=>c2 (.inr e)
    have hd:bU (lj g.lQ) (.tup [nV p,nV q])=(g.lQ.lookup (p,q)).map nV:=JT g.lQ (p,q)
    simp only [mach,ops,d3,d4,if_false,jQ oF (k:=3) (by decide),OV oF (k:= .tup [nV p,nV q]) rfl,hd]
    cases hk:g.lQ.lookup (p,q) with
    | some v=>
     rw [hk] at k
     have e:upd H a g.obj=H:=fY hG
     have: ¬v < 0:=by exact Nat.not_lt_zero v
     simp only [mach,ops,Option.map_some,Option.getD_some,this,if_false]
     refine ⟨nq (by decide),?_⟩
     rw [e] at k; exact k
    | none=>
     rw [hk] at k
     have:((-((1:Nat):Int)) < ((0:Nat):Int)):=by decide
     have hn:g.aZ.length < lim:=by rw [bA]; unfold lim; lia
     have hl:(lj g.lQ).length < lim:=by have:=w.tsz; unfold A.N at hN; unfold lim lj; simp; lia
     have hs:=JX g.lQ (p,q) g.N hk
     simp only [aF] at hs
     have hu:upd H a (.aig (g.aZ++ [.tup [nV p,nV q]]) g.iU (ae g.outs) (lj g.lQ)) a=some (.aig (g.aZ++ [.tup [nV p,nV q]]) g.iU (ae g.outs) (lj g.lQ)):=ah _ _ _
     have ht: ∀e∈lj g.lQ,∃ys,e.1=V.tup ys:=by
      intro e he
      obtain ⟨e',_,rfl⟩:=List.mem_map.mp he
      exact ⟨_,rfl⟩
     simp only [mach,ops,Option.map_none,Option.getD_none,lt_int,this,if_true,jQ oF (k:=0) (by decide),Bz oF,bA,rX oF hn,jQ hu (k:=3) (by decide),Qe hu hl ht,hs,cZ]
     refine ⟨nq (by decide),?_⟩
     rw [BW] at k; exact k
 show Xs _ ke _ _
 have kk:=key _ _ rfl rfl
 by_cases c:r < l
 ·simp only [c,if_true,ke,List.drop] at kk
  simp only [mach,ops,ke,c,if_true]
  refine ⟨rfl,?_⟩
  simp only [mach,ops,ai] at kk ⊢; exact kk
 ·simp only [c,if_false,ke,List.drop] at kk
  simp only [mach,ops,ke,c,if_false]
  simp only [mach,ops,ai] at kk; exact kk
end
section
noncomputable def Ext (H H':Hp):Prop:= ∀b o,H b=some o->H' b=some o
noncomputable def ExtBut (a:Nat) (H H':Hp):Prop:= ∀b o,b≠a->H b=some o->H' b=some o
theorem Ext.refl (H:Hp):Ext H H:=λ x x e=>e
theorem Ext.trans {A B C:Hp} (h:Ext A B) (k:Ext B C):Ext A C:=λ b o e=>k b o (h b o e)
theorem Ext.but {A B:Hp} (a:Nat) (h:Ext A B):ExtBut a A B:=λ b o x e=>h b o e
theorem ExtBut.refl (a:Nat) (H:Hp):ExtBut a H H:=λ x x x e=>e
theorem ExtBut.trans {a:Nat} {A B C:Hp} (h:ExtBut a A B) (k:ExtBut a B C):ExtBut a A C:=λ b o n e=>k b o n (h b o n e)
theorem ExtBut.upd (a:Nat) (H:Hp) (o:O):ExtBut a H (upd H a o):=λ b o' n e=>by rw [ao H o n]; exact e
theorem ExtBut.ext {a:Nat} {A B:Hp} (h:ExtBut a A B) (n:A a= .none):Ext A B:=λ b o e=>h b o (λ q=>by rw [q,n] at e; cases e) e
theorem adv {k m N:Nat} (h:k+(m+1)=N):k+1+m=N:=(Nat.add_right_comm k 1 m).trans h
theorem adk {k m N:Nat} (h:k+(m+1)=N):k < N:=h▸Nat.lt_add_of_pos_right (Nat.succ_pos m)
theorem fuel {n x m:Nat} (h:x<=m):n+(1+m)=n+(m - x)+x+1:=by rw [Nat.add_assoc n,Nat.sub_add_cancel h,Nat.add_comm 1]; rfl
theorem Gh {a b n s:Nat} (ha:a < n) (hb:b < n):3 ^ a+(3 ^ b+s) < 3 ^ n+s:=by
 cases n with
 | zero=>exact absurd ha (Nat.not_lt_zero _)
 | succ n=>
  have h1:3 ^ a<=3 ^ n:=Nat.pow_le_pow_right (by decide) (Nat.le_of_lt_succ ha)
  have h2:3 ^ b<=3 ^ n:=Nat.pow_le_pow_right (by decide) (Nat.le_of_lt_succ hb)
  have h4:0 < 3 ^ n:=Nat.pow_pos (by decide)
  rw [Nat.pow_succ]; omega
theorem ak {H:Hp} {a b:Nat} {o:O} (h:H b=some o) (n:H a= .none):b≠a:=λ q=>by rw [q,n] at h; cases h
theorem bg {H H':Hp} {a:Nat} (h:Ext H H') (n:H' a= .none):H a= .none:=by
 cases q:H a with
 | none=>rfl
 | some o=>rw [h a o q] at n; cases n
theorem aq {o:O} {K:PV} {l:List (Option V)} {H:Hp} (h: ∀a H',H a= .none->H' a=some o->Ext H H'->K (.ref a) ⟨l,H'⟩):alloc o K ⟨l,H⟩:=by
 intro a ha
 exact h a _ ha (ah _ _ _) ((ExtBut.upd a H o).ext ha)
noncomputable def aR (l:List Bool):List V:=l.map V.bool
theorem dM {α β:Type} (f:α->β) (l:List α) (n:Nat):df (l.map f) n=(l[n]?).map f:=by rw [zF]; simp
theorem Gl {α β:Type} (f:α->β) (l:List α) (n:Nat) (b:α):put (l.map f) n (f b)=(l.set n b).map f:=by rw [MK]; exact Eq.symm List.map_set
theorem Iu (l:List Bool) (n:Nat) (b:Bool):put (aR l) n (.bool b)=aR (l.set n b):=Gl _ _ _ _
theorem ML (l:List Nat) (n:Nat) (b:Nat):put (ae l) n (nV b)=ae (l.set n b):=Gl _ _ _ _
theorem az (l:List Nat):(ae l).length=l.length:=List.length_map ..
theorem yk (l:List Bool):(aR l).length=l.length:=List.length_map ..
theorem bM (a b:List Nat):ae (a++b)=ae a++ae b:=List.map_append
section
variable {Q:PV} {QF:PF} {l:List (Option V)} {H:Hp} {a:Nat}
theorem d7 {u:List Bool} (h:H a=some (.list (aR u))) {v:Nat} (hv:v < u.length):b7 (.ref a) (nV v) Q ⟨l,H⟩=Q (.bool (u.getD v false)) ⟨l,H⟩:=
 aU h (by rw [aR,dM,List.getElem?_eq_getElem hv]; simp [hv])
theorem bD {u:List Nat} (h:H a=some (.list (ae u))) {v:Nat} (hv:v < u.length):b7 (.ref a) (nV v) Q ⟨l,H⟩=Q (nV (u.getD v 0)) ⟨l,H⟩:=
 aU h (by rw [ae,dM,List.getElem?_eq_getElem hv]; simp [hv])
theorem d6 {u:List Bool} (h:H a=some (.list (aR u))) {v:Nat} {b:Bool} (hv:v < u.length):bC (.ref a) (nV v) (.bool b) QF ⟨l,H⟩=QF .next ⟨l,upd H a (.list (aR (u.set v b)))⟩:=by
 rw [set_list h (by rw [yk]; exact hv),Iu]
theorem eP {u:List Nat} (h:H a=some (.list (ae u))) {v b:Nat} (hv:v < u.length):bC (.ref a) (nV v) (nV b) QF ⟨l,H⟩=QF .next ⟨l,upd H a (.list (ae (u.set v b)))⟩:=by
 rw [set_list h (by rw [az]; exact hv),ML]
theorem rR (p:Nat×Nat):b7 (aF p) (nV 0) Q ⟨l,H⟩=Q (nV p.1) ⟨l,H⟩:=bI rfl
theorem xT (p:Nat×Nat):b7 (aF p) (nV 1) Q ⟨l,H⟩=Q (nV p.2) ⟨l,H⟩:=bI rfl
theorem xu (p:Option (Nat×Nat)):b8 .dm (cT p) .none Q ⟨l,H⟩=Q (.bool p.isSome) ⟨l,H⟩:=by cases p <;> rfl
theorem K8 (p:Option (Nat×Nat)):b8 .is (cT p) .none Q ⟨l,H⟩=Q (.bool p.isNone) ⟨l,H⟩:=by cases p <;> rfl
theorem mul_list {x:V} (h:H a=some (.list [x])) {n:Nat} (hn:n<=lim):cw .mul (.ref a) (nV n) Q ⟨l,H⟩=alloc (.list (List.replicate n x)) Q ⟨l,H⟩:=by
 have:(n:Int)<=lim:=by exact Int.ofNat_le.mpr hn
 unfold cw; simp [h,this]
end
theorem rM (n:Nat) (b:Bool):List.replicate n (V.bool b)=aR (List.replicate n b):=by simp [aR]
theorem qG (n k:Nat):List.replicate n (nV k)=ae (List.replicate n k):=by simp [ae]
theorem bO {Q:PV} {σ:St} {n:Nat} (hn:n<=lim):eU .range [nV n] Q σ=Q (.range 0 (n:Int) false) σ:=by
 have:(n:Int).natAbs<=lim:=by assumption
 exact propext ⟨λ h=>h.2,λ h=>⟨this,h⟩⟩
theorem Ep {Q:PV} {σ:St} {a n:Nat} (ha:a<=lim) (hn:n<=lim):eU .range [nV a,nV n] Q σ=Q (.range (a:Int) (n:Int) false) σ:=by
 have:(n:Int).natAbs<=lim:=by lia
 have h2:(a:Int).natAbs<=lim:=by lia
 exact propext ⟨λ h=>h.2,λ h=>⟨⟨h2,this⟩,h⟩⟩
theorem vp {Q:PV} {σ:St} {n:Nat} (hn:n<=lim):eU .range [.int ((n:Int) - ((1:Nat):Int)), .int (-((1:Nat):Int)), .int (-((1:Nat):Int))] Q σ=Q (.range ((n:Int) - ((1:Nat):Int)) (-((1:Nat):Int)) true) σ:=by
 have hl:lim=1000000:=rfl
 have:((n:Int) - ((1:Nat):Int)).natAbs<=lim:=by omega
 have h2:(-((1:Nat):Int)).natAbs<=lim:=by exact Nat.le_of_ble_eq_true rfl
 exact propext ⟨λ h=>h.2,λ h=>⟨⟨rfl,this,h2⟩,h⟩⟩
theorem Ce {Q:PV} {σ:St} {n:Nat} (hn:n<=lim):eU .range [.int ((n:Int) - ((1:Nat):Int)),nV 0, .int (-((1:Nat):Int))] Q σ=Q (.range ((n:Int) - ((1:Nat):Int)) 0 true) σ:=by
 have hl:lim=1000000:=rfl
 have:((n:Int) - ((1:Nat):Int)).natAbs<=lim:=by omega
 exact propext ⟨λ h=>h.2,λ h=>⟨⟨rfl,this,Nat.zero_le _⟩,h⟩⟩
theorem nT {H:Hp} {x y:Int} {d:Bool}:itemsOf H (.range x y d)=some (cG x y d):=rfl
theorem MR {x y:Int}:cG x y false=(List.range (y - x).toNat).map λ i=>V.int (x+(i:Nat)):=rfl
theorem Cj {x y:Int}:cG x y true=(List.range (x - y).toNat).map λ i=>V.int (x - (i:Nat)):=rfl
noncomputable def Gf (F:Nat->Nat):V->V:=λ v=>match v with | .int i=>nV (F i.toNat) | v=>v
theorem pI (F:Nat->Nat) (l:List Nat):(ae l).map (Gf F)=ae (l.map F):=by rw [ae,ae,List.map_map,List.map_map]; rfl
noncomputable def Mz (F:Nat->Bool):V->Bool:=λ v=>match v with | .int i=>F i.toNat | _=>false
theorem Im (F:Nat->Bool) (o:Nat):Mz F (nV o)=F o:=rfl
theorem aJ {H:Hp} {n:Nat}:itemsOf H (.range 0 (n:Int) false)=some (ae (List.range n)):=by
 simp [nT,MR,ae]
theorem uM {H:Hp} {a n:Nat}:itemsOf H (.range (a:Int) (n:Int) false)=some (ae (List.range' a (n - a))):=by
 have:((n:Int) - (a:Int)).toNat=n - a:=by exact Int.toNat_sub n a
 simp [nT,MR,ae,this,List.range'_eq_map_range]
theorem kQ {H:Hp} {n:Nat}:itemsOf H (.range ((n:Int) - ((1:Nat):Int)) (-((1:Nat):Int)) true)=some (ae (List.range n).reverse):=by
 have e:((n:Int) - ((1:Nat):Int) - -((1:Nat):Int)).toNat=n:=by lia
 simp only [nT,Cj,ae,e]
 congr 1
 refine List.ext_getElem (by simp) λ i h1 h2=>?_
 simp at h1
 simp [List.getElem_reverse]
 omega
theorem si {H:Hp} {n:Nat}:itemsOf H (.range ((n:Int) - ((1:Nat):Int)) 0 true)=some (ae (List.range' 1 (n - 1)).reverse):=by
 have e:((n:Int) - ((1:Nat):Int) - 0).toNat=n - 1:=by lia
 simp only [nT,Cj,ae,e]
 congr 1
 refine List.ext_getElem (by simp) λ i h1 h2=>?_
 simp at h1
 simp [List.getElem_reverse]
 omega
theorem XR (a:Nat):a >>> 1=a / 2:=rfl
theorem VP (a:Nat):a &&& 1=a % 2:=Nat.and_one_is_mod a
theorem Ry {H H':Hp} (x y:Int) (d:Bool):itemsOf H (.range x y d)=itemsOf H' (.range x y d):=rfl
noncomputable def Sz:=And.intro @XR <| And.intro @VP <| And.intro @xu <| And.intro @K8 <| And.intro @rR @xT
theorem pT {n a:Nat} {g:A} {H:Hp} {Q:V->Hp->Prop} (hG:H a=some g.obj) (hN:g.N < 10000) (ha:g.ands= [])
  (k:Q (nV (2*(g.m+1))) (upd H a (A.obj {g with m:=g.m+1}))):au prog (n+1) A7 [.ref a] Q H:=by
 refine aj mR [some (.ref a), .none] rfl rfl ?_
 have oF:H a=some (.aig g.aZ g.iU (ae g.outs) (lj g.lQ)):=hG
 have hn:g.aZ.length < lim:=by rw [bA]; unfold lim; lia
 have e:g.N=g.m+1:=by simp [A.N,ha]
 have hi:g.iU.length < lim:=by simp [A.iU,az]; unfold lim; lia
 have hu:upd H a (.aig (g.aZ++ [V.none]) g.iU (ae g.outs) (lj g.lQ)) a=_:=ah _ _ _
 show Xs _ iV _ _
 simp only [mach,ops,iV,jQ oF (k:=0) (by decide),Bz oF,bA,rX oF hn,jQ hu (k:=1) (by decide),Am hu hi,cZ,e]
 refine ⟨nq (by decide),?_⟩
 have:A.obj {g with m:=g.m+1}= .aig (g.aZ++ [V.none]) (g.iU++ [nV (g.m+1)]) (ae g.outs) (lj g.lQ):=by
  have e1:List.replicate (g.m+1+1) V.none=List.replicate (g.m+1) V.none++ [V.none]:=List.replicate_succ'
  simp only [A.obj,A.aZ,A.iU,ha,e1]
  simp [List.range'_concat,bM,ae,Nat.add_comm]
 rw [this] at k; exact k
theorem jo {n a o:Nat} {g:A} {H:Hp} {Q:V->Hp->Prop} (hG:H a=some g.obj) (hN:g.outs.length < 10000)
  (k:Q .none (upd H a (A.obj {g with outs:=g.outs++ [o]}))):au prog (n+1) yT [.ref a,nV o] Q H:=by
 refine aj kD [some (.ref a),some (nV o)] rfl rfl ?_
 have oF:H a=some (.aig g.aZ g.iU (ae g.outs) (lj g.lQ)):=hG
 have hn:(ae g.outs).length < lim:=by rw [az]; unfold lim; lia
 show Xs _ gP _ _
 simp only [mach,ops,gP,jQ oF (k:=2) (by decide),An oF hn]
 have:A.obj {g with outs:=g.outs++ [o]}= .aig g.aZ g.iU (ae g.outs++ [nV o]) (lj g.lQ):=by
  simp [A.obj,A.aZ,A.iU,bM,ae]
 rw [this] at k; exact k
theorem bJ {H:Hp} {a:Nat} {g:A} (h:H a=some g.obj):Bn H (.ref a):=K4 h
end
section
theorem aM {α:Type} (l:List α) (i j:Nat) (a d:α):(l.set i a).getD j d=if i=j/\i < l.length then a else l.getD j d:=by
 simp only [List.getD_eq_getElem?_getD,List.getElem?_set]
 by_cases h:i=j
 ·subst h
  by_cases k:i < l.length
  ·simp [k]
  ·simp [k]
 ·simp [h]
theorem bQ {α:Type} [DecidableEq α]: ∀{l m:List α},l.Nodup->(∀x∈l,x∈m)->l.length<=m.length
 | [],_,_,_=>Nat.zero_le _
 | a::l,m,hn,hs=>by
  have h1:=hs a (.head _)
  have C5:=List.nodup_cons.mp hn
  have:l.length<=(m.erase a).length:=bQ C5.2 λ x hx=>by
   have eS:x≠a:=λ e=>C5.1 (e▸hx)
   exact (List.mem_erase_of_ne eS).mpr (hs x (.tail _ hx))
  rw [List.length_erase_of_mem h1] at this
  have:0 < m.length:=List.length_pos_of_mem h1
  simp only [List.length_cons]; lia
structure tY (g:A) (u:List Bool):Prop where
 len:u.length=g.N
 outs: ∀o∈g.outs,u.getD (o / 2) false=true
 kids: ∀v l r,u.getD v false=true->g.pair v=some (l,r)->u.getD (l / 2) false=true/\u.getD (r / 2) false=true
 least: ∀P:Nat->Prop,A.cp g P->(∀o∈g.outs,P (o / 2))->∀v,u.getD v false=true->P v
section
variable {C:CT} {K:PF} {a t:Nat} {g:A}
set_option tactic.hygienic true in
theorem EP (w:g.WF): ∀(todo dn:List Nat) (u:List Bool) (H H₀:Hp) (o2:Option V),dn++todo=g.outs->H a=some g.obj->H t=some (.list (aR u))->ExtBut t H₀ H->
  u.length=g.N->(∀o∈dn,u.getD (o / 2) false=true)->(∀P:Nat->Prop,A.cp g P->(∀o∈g.outs,P (o / 2))->∀v,u.getD v false=true->P v)->a≠t->
  (∀u' H' o',H' a=some g.obj->H' t=some (.list (aR u'))->ExtBut t H₀ H'->u'.length=g.N->(∀o∈g.outs,u'.getD (o / 2) false=true)->
   (∀P:Nat->Prop,A.cp g P->(∀o∈g.outs,P (o / 2))->∀v,u'.getD v false=true->P v)->K .next ⟨[some (.ref a),some (.ref t),o', .none, .none],H'⟩)->
  aC C (.inr 2) L_used_nodes_0 (.part a 2) (ae g.outs) K (ae todo) ⟨[some (.ref a),some (.ref t),o2, .none, .none],H⟩:=by
 intro todo
 induction todo with
 | nil=>
  intro dn u H H₀ o2 hd hG ht hE hlen ho hl eS fin
  rw [List.append_nil] at hd; subst hd
  exact fin u H o2 hG ht hE hlen ho hl
 | cons o r ih=>
  intro dn u H H₀ o2 hd hG ht hE hlen ho hl eS fin
  have hm:o∈g.outs:=hd▸List.mem_append_right _ (.head _)
  have dz:o / 2 < u.length:=by rw [hlen]; exact w.outs o hm
  have oF:upd H t (.list (aR (u.set (o / 2) true))) a=some g.obj:=(ao H _ eS).trans hG
  show aC C (.inr 2) L_used_nodes_0 _ _ K (nV o::ae r) _
  simp only [mach,ops,ops2,loops,L_used_nodes_0,d6 ht dz,aQ oF]
  refine ⟨trivial,?_⟩
  refine ih (dn++ [o]) _ _ H₀ _ (by simp [hd]) oF (ah _ _ _) (hE.trans (.upd _ _ _)) (by simpa using hlen) ?_ ?_ eS fin
  ·intro o' KD
   rw [aM]
   rcases List.mem_append.mp KD with h | h
   ·split
    ·rfl
    ·exact ho _ h
   ·rw [List.mem_singleton.mp h,if_pos ⟨rfl,dz⟩]
  ·intro P hc hP v hv
   rw [aM] at hv
   split at hv
   ·rename_i e; rw [<- e.1]; exact hP o hm
   ·exact hl P hc hP v hv
set_option tactic.hygienic true in
theorem ER (w:g.WF) (eS:a≠t): ∀(k:Nat) (u:List Bool) (H H₀:Hp) (o2 o3 o4:Option V) (all:List V),k<=g.N->H a=some g.obj->H t=some (.list (aR u))->ExtBut t H₀ H->
  u.length=g.N->(∀o∈g.outs,u.getD (o / 2) false=true)->(∀P:Nat->Prop,A.cp g P->(∀o∈g.outs,P (o / 2))->∀v,u.getD v false=true->P v)->
  (∀v l r,k<=v->u.getD v false=true->g.pair v=some (l,r)->u.getD (l / 2) false=true/\u.getD (r / 2) false=true)->
  (∀H,itemsOf H (.range ((g.N:Int) - ((1:Nat):Int)) (-((1:Nat):Int)) true)=some all)->
  (∀u' H' o2 o3 o4,H' t=some (.list (aR u'))->ExtBut t H₀ H'->tY g u'->K .next ⟨[some (.ref a),some (.ref t),o2,o3,o4],H'⟩)->
  aC C (.inr 3) L_used_nodes_1 (.range ((g.N:Int) - ((1:Nat):Int)) (-((1:Nat):Int)) true) all K (ae (List.range k).reverse) ⟨[some (.ref a),some (.ref t),o2,o3,o4],H⟩:=by
 intro k
 induction k with
 | zero=>
  intro u H H₀ o2 o3 o4 all hk hG ht hE hlen ho hl hc hit fin
  exact fin u H o2 o3 o4 ht hE ⟨hlen,ho,λ v l r=>hc v l r (Nat.zero_le _),hl⟩
 | succ k ih=>
  intro u H H₀ o2 o3 o4 all hk hG ht hE hlen ho hl hc hit fin
  rw [List.range_succ,List.reverse_append]
  show aC C (.inr 3) L_used_nodes_1 _ _ K (nV k::ae (List.range k).reverse) _
  have pN:k < g.N:=by assumption
  have Hn:k < u.length:=by exact Nat.lt_of_lt_of_eq hk (id (Eq.symm hlen))
  simp only [mach,ops,ops2,loops,L_used_nodes_1,aw hG 0 (by decide),aO hG pN,d7 ht Hn]
  cases hu:u.getD k false with
  | false=>
   simp only [mach,loops,Bool.false_eq_true,if_false,hit,true_and]
   refine ih u H H₀ _ _ _ _ (by lia) hG ht hE hlen ho hl (λ v l r hv zY hp=>?_) hit fin
   by_cases e:v=k
   ·subst e; rw [hu] at zY; cases zY
   ·exact hc v l r (by lia) zY hp
  | true=>
   simp only [mach,ops,ops2,if_true]
   cases hp:g.pair k with
   | none=>
    simp only [mach,loops,Option.isSome_none,Bool.false_eq_true,if_false,hit,true_and]
    refine ih u H H₀ _ _ _ _ (by lia) hG ht hE hlen ho hl (λ v l r hv zY jL=>?_) hit fin
    by_cases e:v=k
    ·subst e; rw [hp] at jL; cases jL
    ·exact hc v l r (by lia) zY jL
   | some p=>
    obtain ⟨x,y⟩:=p
    have uD:=w.kids hp
    have h1:x / 2 < u.length:=by lia
    have h2:y / 2 < (u.set (x / 2) true).length:=by simp; lia
    have C7:upd H t (.list (aR (u.set (x / 2) true))) t=some (.list (aR (u.set (x / 2) true))):=ah _ _ _
    have cF:upd H t (.list (aR ((u.set (x / 2) true).set (y / 2) true))) a=some g.obj:=(ao H _ eS).trans hG
    simp only [mach,ops,ops2,loops,Option.isSome_some,cT,if_true,d6 ht h1,d6 C7 h2,cZ,hit,true_and]
    have mono: ∀v,u.getD v false=true->((u.set (x / 2) true).set (y / 2) true).getD v false=true:=by
     intro v hv
     rw [aM,aM]; split
     ·rfl
     ·split
      ·rfl
      ·exact hv
    refine ih _ _ H₀ _ _ _ _ (by lia) cF (ah _ _ _) (hE.trans (.upd _ _ _)) (by simpa using hlen) (λ o h=>mono _ (ho o h)) ?_ ?_ hit fin
    ·intro P wo hP v hv
     have pk:P k:=hl P wo hP k hu
     have:=wo k x y pk hp
     rw [aM] at hv
     split at hv
     ·rename_i e; rw [<- e.1]; exact this.2
     ·rw [aM] at hv
      split at hv
      ·rename_i e; rw [<- e.1]; exact this.1
      ·exact hl P wo hP v hv
    ·intro v l r hv zY O9
     by_cases e:v=k
     ·subst e
      rw [hp] at O9; cases O9
      constructor
      ·rw [aM]; split
       ·rfl
       ·rw [aM,if_pos ⟨rfl,h1⟩]
      ·rw [aM,if_pos ⟨rfl,h2⟩]
     ·have hn: ∀z,z < k->z≠v:=λ z h q=>by lia
      rw [aM,if_neg (λ q=>hn _ uD.2 q.1),aM,if_neg (λ q=>hn _ uD.1 q.1)] at zY
      have:=hc v l r (by lia) zY O9
      exact ⟨mono _ this.1,mono _ this.2⟩
end
theorem wR {n a:Nat} {g:A} {H:Hp} {Q:V->Hp->Prop} (hG:H a=some g.obj) (w:g.WF) (hN:g.N < 10000)
  (k: ∀t u H',Ext H H'->H t= .none->H' t=some (.list (aR u))->tY g u->Q (.ref t) H'):au prog (n+1) y7 [.ref a] Q H:=by
 refine aj kN [some (.ref a), .none, .none, .none, .none] rfl rfl ?_
 show Xs _ gX _ _
 simp only [mach,gX]
 refine aq λ t0 H0 f0 e0 x0=>?_
 have qo:=x0 _ _ hG
 have bz:g.N<=lim:=by unfold lim; lia
 simp only [mach,aw qo 0 (by decide),bj qo,mul_list e0 bz,rM]
 refine aq λ t H1 f1 e1 x1=>?_
 have cF:=x1 _ _ qo
 have eS:a≠t:=ak qo f1
 simp only [mach,aw cF 2 (by decide)]
 rw [aX (aQ cF)]
 refine EP w _ [] _ _ H1 _ (by simp) cF e1 (.refl _ _) (by exact List.length_replicate) (λ x h=>nomatch h) ?_ eS ?_
 ·intro P _ _ v hv
  simp [List.getD_eq_getElem?_getD,List.getElem?_replicate] at hv
  split at hv <;> simp at hv
 ·intro u2 H2 o2 dk e2 x2 hlen ho hl
  simp only [mach,ops,aw dk 0 (by decide),bj dk,sub_int]
  rw [vp bz,aX kQ]
  refine ER w eS g.N u2 H2 H1 _ _ _ _ (Nat.le_refl _) dk e2 x2 hlen ho hl (λ v l r hv x hp=>by have:=(A.bt hp).1; lia) (λ x=>kQ) ?_
  intro u3 H3 _ _ _ e3 x3 hu
  simp only [mach,ai]
  have hx:Ext H0 H3:=(x1.but t).trans x3 |>.ext f1
  exact k t u3 H3 (x0.trans hx) (bg x0 f1) e3 hu
end
section
noncomputable def tabIn (N j:Nat):List Nat:=(List.range N).map λ i=>if i<=j then 2*i else 0
theorem lh (N j:Nat):(tabIn N j).length=N:=by simp [tabIn]
theorem vE (N:Nat):List.replicate N 0=tabIn N 0:=by
 refine List.ext_getElem (by simp [tabIn]) λ i h1 h2=>?_
 simp [tabIn]; lia
set_option tactic.hygienic true in
theorem I3 (N j:Nat) (h:j+1 < N):(tabIn N j).set (j+1) (2*(j+1))=tabIn N (j+1):=by
 refine List.ext_getElem (by simp [tabIn]) λ i h1 h2=>?_
 simp only [tabIn,List.getElem_set,List.getElem_map,List.getElem_range]
 split
 ·rename_i e; subst e; simp
 ·by_cases h:i<=j
  ·rw [if_pos h,if_pos (by exact Nat.le_add_right_of_le h)]
  ·rw [if_neg h,if_neg (by lia)]
theorem iR (N j v:Nat) (h:v<=j) (h':v < N):(tabIn N j).getD v 0=2*v:=by
 rw [List.getD_eq_getElem?_getD,List.getElem?_eq_getElem (by simpa [tabIn] using h')]
 simp [tabIn,h]
noncomputable def lT (j:Nat):A:={A.empty with m:=j}
theorem D1 (j:Nat):(lT j).WF:=
 ⟨λ {v l r} h=>by unfold A.pair at h; split at h <;> simp [lT,A.empty] at h,λ x h=>by simp [lT,A.empty] at h,λ x h=>by simp [lT,A.empty] at h,by simp [lT,A.empty]⟩
theorem ni (j:Nat):(lT j).N=j+1:=by simp [lT,A.N,A.empty]
theorem FH {n a r t:Nat} {g:A} {K:PF} {rest:List (Option V)} (hN:g.N < 10000) (pM:a≠r) (d9:a≠t) (lL:r≠t): ∀(k j:Nat) (H H₀:Hp) (o3:Option V),j+k=g.m->H a=some g.obj->
  H r=some (lT j).obj->H t=some (.list (ae (tabIn g.N j)))->(∀b o,b≠r->b≠t->H₀ b=some o->H b=some o)->
  (∀H' o3,H' a=some g.obj->H' r=some (lT g.m).obj->H' t=some (.list (ae (tabIn g.N g.m)))->(∀b o,b≠r->b≠t->H₀ b=some o->H' b=some o)->
   K .next ⟨some (.ref a)::some (.ref r)::some (.ref t)::o3::rest,H'⟩)->
  aC (au prog (n+1)) (.inr 3) L_swept_0 (.part a 1) g.iU K (ae (List.range' (j+1) k)) ⟨some (.ref a)::some (.ref r)::some (.ref t)::o3::rest,H⟩:=by
 intro k
 induction k with
 | zero=>
  intro j H H₀ o3 hj hG hr ht hE fin
  have:j=g.m:=by assumption
  subst this
  exact fin H o3 hG hr ht hE
 | succ k ih=>
  intro j H H₀ o3 hj hG hr ht hE fin
  rw [List.range'_succ]
  show aC _ (.inr 3) L_swept_0 _ _ K (nV (j+1)::ae (List.range' (j+1+1) k)) _
  simp only [mach,ops,ops2,loops,L_swept_0]
  refine ⟨bJ hr,?_⟩
  have C3:j+1 < g.N:=by unfold A.N; lia
  refine pT hr (by rw [ni]; exact Nat.lt_trans C3 hN) rfl ?_
  have C7:upd H r (A.obj {lT j with m:=(lT j).m+1}) t=some (.list (ae (tabIn g.N j))):=(ao H _ (Ne.symm lL)).trans ht
  have dz:j+1 < (tabIn g.N j).length:=by rw [lh]; exact C3
  have e1:(lT j).m+1=j+1:=rfl
  have e2:({lT j with m:=j+1}:A)=lT (j+1):=rfl
  simp only [mach,e1,e2] at C7 ⊢
  have cF:upd (upd H r (lT (j+1)).obj) t (.list (ae (tabIn g.N (j+1)))) a=some g.obj:=(ao _ _ d9).trans ((ao _ _ pM).trans hG)
  simp only [mach,loops,eP C7 dz,I3 _ _ C3,hZ cF,true_and]
  refine ih (j+1) _ H₀ _ (by exact adv (by assumption)) cF ((ao _ _ lL).trans (ah _ _ _)) (ah _ _ _) (λ b o h1 h2 e=>?_) fin
  exact (ao _ _ h2).trans ((ao _ _ h1).trans (hE b o h1 h2 e))
structure nG (g g':A):Prop where
 wf:g'.WF
 m:g'.m=g.m
 N:g'.N<=g.N
 outs: ∃τ:Nat->Nat,g'.outs=g.outs.map τ/\∀o∈g.outs,(∀x,g'.lv x (τ o)=g.lv x o)/\g'.bH (τ o / 2)<=g.bH (o / 2)
 cnt: ∀P:Nat->Prop,A.cp g P->(∀o∈g.outs,P (o / 2))->∀bX:List Nat,(∀u,P u->g.m < u->u < g.N->u∈bX)->g'.ands.length<=bX.length
structure tV (g:A) (u:List Bool) (k:Nat) (r:A) (t:List Nat):Prop where
 wf:r.WF
 m:r.m=g.m
 outs:r.outs= []
 len:t.length=g.N
 ok: ∀v,v < g.N->(v<=g.m\/(v < k/\u.getD v false=true))->t.getD v 0 / 2 < r.N/\(∀x,r.lv x (t.getD v 0)=g.val x v)/\r.bH (t.getD v 0 / 2)<=g.bH v
 cnt:r.ands.length<=((List.range k).filter λ v=>decide (g.m < v) && u.getD v false).length
theorem sI (k:Nat) (p:Nat->Bool):((List.range k).filter p).length<=k:=by
 have:=List.length_filter_le p (List.range k); simpa using this
theorem tV.start {g:A} {u:List Bool} (hu:tY g u):tV g u 0 (lT g.m) (tabIn g.N g.m):=
 ⟨D1 _,rfl,rfl,lh _ _,λ v hv h=>by
  have hm:v<=g.m:=h.elim id λ h=>absurd h.1 (Nat.not_lt_zero _)
  rw [iR _ _ _ hm hv]
  have e:2*v / 2=v:=by exact Nat.mul_div_cancel_left _ (by decide)
  refine ⟨by rw [e,ni]; exact Nat.lt_succ_of_le hm,λ x=>?_,?_⟩
  ·rw [A.tM]
   by_cases h0:v=0
   ·subst h0; rw [A.val_zero,A.val_zero]
   ·rw [A.vH (by lia) (show v<=(lT g.m).m from hm),A.vH (by lia) hm]
  ·rw [e,A.uY (show v<=(lT g.m).m from hm)]; exact Nat.zero_le _,by simp [lT,A.empty]⟩
theorem m6 (k:Nat) (p:Nat->Bool):((List.range (k+1)).filter p).length=((List.range k).filter p).length+if p k then 1 else 0:=by
 rw [List.range_succ,List.filter_append,List.length_append]
 by_cases h:p k=true <;> simp [h]
theorem tV.skip {g:A} {u:List Bool} {k:Nat} {r:A} {t:List Nat} (h:tV g u k r t) (hs:g.pair k=none\/u.getD k false=false):tV g u (k+1) r t:=
 ⟨h.wf,h.m,h.outs,h.len,λ v hv hh=>h.ok v hv (hh.elim .inl λ q=>by
  by_cases e:v=k
  ·subst e
   rcases hs with hs | hs
   ·rcases Nat.lt_or_ge g.m v with l | l
    ·obtain ⟨a,b,e⟩:=A.d0 l hv; rw [hs] at e; cases e
    ·exact .inl l
   ·rw [hs] at q; cases q.2
  ·exact .inr ⟨by lia,q.2⟩),by rw [m6]; exact Nat.le_trans h.cnt (Nat.le_add_right _ _)⟩
theorem tV.step {g:A} (w:g.WF) {u:List Bool} (hu:tY g u) {k:Nat} {r:A} {t:List Nat} {x y:Nat} (h:tV g u k r t) (hp:g.pair k=some (x,y)) (NT:u.getD k false=true):
  tV g u (k+1) (r.land (t.getD (x / 2) 0 ^^^ x % 2) (t.getD (y / 2) 0 ^^^ y % 2)).2 (t.set k (r.land (t.getD (x / 2) 0 ^^^ x % 2) (t.getD (y / 2) 0 ^^^ y % 2)).1):=by
 have hk:=w.kids hp
 have hN:=(A.bt hp)
 have huu:=hu.kids k x y NT hp
 have okx:=h.ok (x / 2) (by lia) (by by_cases c:x / 2<=g.m; exact .inl c; exact .inr ⟨hk.1,huu.1⟩)
 have oky:=h.ok (y / 2) (by lia) (by by_cases c:y / 2<=g.m; exact .inl c; exact .inr ⟨hk.2,huu.2⟩)
 have hx:(t.getD (x / 2) 0 ^^^ x % 2) / 2 < r.N:=by rw [A.bu]; exact okx.1
 have hy:(t.getD (y / 2) 0 ^^^ y % 2) / 2 < r.N:=by rw [A.bu]; exact oky.1
 have M:=A.qv h.wf hx hy
 have L:=A.Bx h.wf hx hy
 refine ⟨M.wf,M.le.m.trans h.m,M.le.outs.trans h.outs,by simpa using h.len,λ v hv hh=>?_,?_⟩
 ·rw [aM]
  by_cases e:k=v
  ·subst e
   rw [if_pos ⟨rfl,by rw [h.len]; exact hv⟩]
   refine ⟨M.lt,λ z=>?_,?_⟩
   ·rw [M.val,A.fN w hp,A.jZ,A.jZ,okx.2.1,oky.2.1]; rfl
   ·rw [A.nW w hp]
    rw [A.bu,A.bu] at L
    have:=okx.2.2; have:=oky.2.2
    lia
  ·rw [if_neg (λ q=>e q.1)]
   have:=h.ok v hv (hh.elim .inl λ q=> .inr ⟨by lia,q.2⟩)
   exact ⟨Nat.lt_of_lt_of_le this.1 M.le.N,λ z=>by rw [M.le.lv z this.1]; exact this.2.1 z,by rw [M.le.bH this.1]; exact this.2.2⟩
 ·rw [m6]
  have e:(decide (g.m < k) && u.getD k false)=true:=by rw [NT]; simp [hN.2]
  rw [if_pos e]
  have h1:=M.grow
  have h2:=M.le.m
  have h3:=h.cnt
  simp only [A.N] at h1
  lia
section
variable {n a r t s:Nat} {g:A} {K:PF} {u:List Bool}
theorem CJ (w:g.WF) (hN:g.N < 5000) (hu:tY g u) (pM:a≠r) (d9:a≠t) (lL:r≠t) (YH:s≠r) (KN:s≠t) {all:List V} (hit: ∀H,itemsOf H (.range 0 (g.N:Int) false)=some all): ∀(d k:Nat) (f:A) (T:List Nat) (H H₀:Hp) (o3 o5 o6 o7 o8:Option V),k+d=g.N->H a=some g.obj->
  H r=some f.obj->H t=some (.list (ae T))->H s=some (.list (aR u))->(∀b o,b≠r->b≠t->H₀ b=some o->H b=some o)->tV g u k f T->
  (∀H' f T o3 o5 o6 o7 o8,H' a=some g.obj->H' r=some f.obj->H' t=some (.list (ae T))->(∀b o,b≠r->b≠t->H₀ b=some o->H' b=some o)->tV g u g.N f T->
   K .next ⟨[some (.ref a),some (.ref r),some (.ref t),o3,some (.ref s),o5,o6,o7,o8],H'⟩)->
  aC (au prog (n+1)) (.inr 3) L_swept_1 (.range 0 (g.N:Int) false) all K (ae (List.range' k d)) ⟨[some (.ref a),some (.ref r),some (.ref t),o3,some (.ref s),o5,o6,o7,o8],H⟩:=by
 intro d
 induction d with
 | zero=>
  intro k f T H H₀ o3 o5 o6 o7 o8 hk hG hr ht hs hE hI fin
  have:k=g.N:=by assumption
  subst this
  exact fin H f T _ _ _ _ _ hG hr ht hE hI
 | succ d ih=>
  intro k f T H H₀ o3 o5 o6 o7 o8 hk hG hr ht hs hE hI fin
  rw [List.range'_succ]
  show aC _ (.inr 3) L_swept_1 _ _ K (nV k::ae (List.range' (k+1) d)) _
  have pN:k < g.N:=by exact adk (by assumption)
  have Hn:k < u.length:=by rw [hu.len]; exact pN
  simp only [L_swept_1,xI,P7,Sz,zk,aw hG 0 (by decide),aO hG pN]
  cases hp:g.pair k with
  | none=>
   simp only [Option.isSome_none,xI,zk,Bool.false_eq_true,if_false,hit,true_and]
   exact ih (k+1) f T H H₀ _ _ _ _ _ (by lia) hG hr ht hs hE (hI.skip (.inl hp)) fin
  | some p=>
   obtain ⟨x,y⟩:=p
   simp only [Option.isSome_some,xI,P7,if_true,d7 hs Hn]
   cases NT:u.getD k false with
   | false=>
    simp only [xI,zk,Bool.false_eq_true,if_false,hit,true_and]
    exact ih (k+1) f T H H₀ _ _ _ _ _ (by lia) hG hr ht hs hE (hI.skip (.inr NT)) fin
   | true=>
    have uD:=w.kids hp
    have hx:x / 2 < T.length:=by rw [hI.len]; lia
    have hy:y / 2 < T.length:=by rw [hI.len]; lia
    simp only [xI,P7,Sz,if_true,cT,bD ht hx,bD ht hy]
    refine ⟨bJ hr,?_⟩
    have O5:f.N < 10000:=by
     have h1:=hI.cnt
     have h2:=sI k λ v=>decide (g.m < v) && u.getD v false
     have h3:=hI.m
     have:g.m < g.N:=by unfold A.N; lia
     unfold A.N; lia
    refine kU hr O5 hI.wf ?_
    have S:=hI.step w hu hp NT
    generalize f.land (T.getD (x / 2) 0 ^^^ x % 2) (T.getD (y / 2) 0 ^^^ y % 2)=z at S ⊢
    have C7:upd H r z.2.obj t=some (.list (ae T)):=(ao H _ (Ne.symm lL)).trans ht
    have DQ:k < T.length:=by rw [hI.len]; exact pN
    simp only [xI,P7,eP C7 DQ,zk,hit,true_and]
    refine ih (k+1) z.2 (T.set k z.1) _ H₀ _ _ _ _ _ (by lia) ?_ ?_ (ah _ _ _) ?_ ?_ S fin
    ·exact (ao _ _ d9).trans ((ao _ _ pM).trans hG)
    ·exact (ao _ _ lL).trans (ah _ _ _)
    ·exact (ao _ _ KN).trans ((ao _ _ YH).trans hs)
    ·exact λ b o h1 h2 e=>(ao _ _ h2).trans ((ao _ _ h1).trans (hE b o h1 h2 e))
theorem CK (pM:a≠r) (lL:r≠t) (hO:g.outs.length < 1000) {T:List Nat} (hT:T.length=g.N) (w:g.WF) {rest:List (Option V)}: ∀(todo dn:List Nat) (f:A) (H H₀:Hp) (o3 o4 o5 o6 o7 o8:Option V),dn++todo=g.outs->H a=some g.obj->
  H r=some ({f with outs:=dn.map λ o=>T.getD (o / 2) 0 ^^^ o % 2}:A).obj->H t=some (.list (ae T))->ExtBut r H₀ H->
  (∀H' o3 o4 o5 o6 o7 o8,H' r=some ({f with outs:=g.outs.map λ o=>T.getD (o / 2) 0 ^^^ o % 2}:A).obj->ExtBut r H₀ H'->
   K .next ⟨[some (.ref a),some (.ref r),some (.ref t),o3,o4,o5,o6,o7,o8],H'⟩)->
  aC (au prog (n+1)) (.inr 8) L_swept_2 (.part a 2) (ae g.outs) K (ae todo) ⟨[some (.ref a),some (.ref r),some (.ref t),o3,o4,o5,o6,o7,o8],H⟩:=by
 intro todo
 induction todo with
 | nil=>
  intro dn f H H₀ o3 o4 o5 o6 o7 o8 hd hG hr ht hE fin
  rw [List.append_nil] at hd; subst hd
  exact fin H _ _ _ _ _ _ hr hE
 | cons o todo ih=>
  intro dn f H H₀ o3 o4 o5 o6 o7 o8 hd hG hr ht hE fin
  have hm:o∈g.outs:=hd▸List.mem_append_right _ (.head _)
  have dz:o / 2 < T.length:=by rw [hT]; exact w.outs o hm
  show aC _ (.inr 8) L_swept_2 _ _ K (nV o::ae todo) _
  simp only [mach,ops,ops2,loops,L_swept_2,bD ht dz]
  refine ⟨bJ hr,?_⟩
  have Vh:dn.length < 10000:=by
   have:=congrArg List.length hd
   simp at this; lia
  refine jo hr (by simpa using Vh) ?_
  have cF: ∀o,upd H r o a=some g.obj:=λ o=>(ao _ _ pM).trans hG
  simp only [mach,loops,aQ (cF _),true_and]
  refine ih (dn++ [o]) f _ H₀ _ _ _ _ _ _ (by simp [hd]) (cF _) ?_ ((ao _ _ (Ne.symm lL)).trans ht) (hE.trans (.upd _ _ _)) fin
  rw [ah]; simp
end
theorem Vd:O.aig [V.none] [] [] []=(lT 0).obj:=rfl
theorem CL {n a:Nat} {g:A} {H:Hp} {Q:V->Hp->Prop} (hG:H a=some g.obj) (w:g.WF) (hN:g.N < 5000) (hO:g.outs.length < 1000)
  (k: ∀t g' H',Ext H H'->H t= .none->H' t=some g'.obj->nG g g'->Q (.ref t) H'):au prog (n+2) Pq [.ref a] Q H:=by
 refine aj yF [some (.ref a), .none, .none, .none, .none, .none, .none, .none, .none] rfl rfl ?_
 show Xs _ tF _ _
 simp only [mach,tF]
 refine aq λ r H0 f0 e0 x0=>?_
 have qo:=x0 _ _ hG
 simp only [mach,ai]
 refine aq λ t0 H1 f1 e1 x1=>?_
 have cF:=x1 _ _ qo
 have bz:g.N<=lim:=by unfold lim; exact Nat.le_trans (Nat.le_of_lt (by assumption)) (by decide)
 simp only [mach,aw cF 0 (by decide),bj cF,mul_list e1 bz,qG,vE]
 refine aq λ t H2 f2 e2 x2=>?_
 have dk:=x2 _ _ cF
 have hr2:=x2 _ _ (x1 _ _ e0)
 simp only [mach,aw dk 1 (by decide)]
 rw [aX (hZ dk)]
 have pM:a≠r:=ak hG f0
 have d9:a≠t:=ak cF f2
 have lL:r≠t:=ak (x1 _ _ e0) f2
 refine FH (by lia) pM d9 lL g.m 0 H2 H2 _ (by exact Nat.zero_add g.m) dk hr2 e2 (λ z z z z e=>e) λ H3 o3 FA Rp Jd A1=>?_
 simp only [mach,ai]
 refine wR FA w (by lia) λ s u H4 x4 f4 e4 hu=>?_
 have Wj:=x4 _ _ FA
 simp only [mach,aw Wj 0 (by decide),bj Wj]
 rw [bO bz,aX aJ,List.range_eq_range']
 refine CJ w hN hu pM d9 lL (λ q=>?_) (λ q=>?_) (λ z=>aJ.trans (by rw [List.range_eq_range'])) g.N 0 _ _ H4 H4 _ _ _ _ _ (by exact Nat.zero_add g.N) Wj (x4 _ _ Rp) (x4 _ _ Jd) e4 (λ z z z z e=>e) (tV.start hu) ?_
 ·rw [q,Rp] at f4; cases f4
 ·rw [q,Jd] at f4; cases f4
 intro H5 f T o3 o5 o6 o7 o8 TP hr5 ht5 Wi hI
 simp only [mach,aw TP 2 (by decide)]
 rw [aX (aQ TP)]
 have hf:f.obj=({f with outs:=([]:List Nat).map λ o=>T.getD (o / 2) 0 ^^^ o % 2}:A).obj:=by
  have:=hI.outs
  show f.obj=({f with outs:= []}:A).obj
  rw [<- this]
 refine CK (T:=T) (g:=g) pM lL hO hI.len w (rest:= []) g.outs [] f H5 H5 _ _ _ _ _ _ rfl TP (hf▸hr5) ht5 (.refl _ _) ?_
 intro H6 _ _ _ _ _ _ hr6 ZG
 simp only [mach,ai]
 have Fy: ∀b o,H b=some o->b≠r/\b≠t:=λ b o e=>⟨ak e f0,ak (x1 _ _ (x0 _ _ e)) f2⟩
 have xx:Ext H H6:=λ b o e=>ZG b o (Fy b o e).1 (Wi b o (Fy b o e).1 (Fy b o e).2 (x4 _ _ (A1 b o (Fy b o e).1 (Fy b o e).2 (x2 _ _ (x1 _ _ (x0 _ _ e))))))
 refine k r _ H6 xx f0 hr6 ⟨A.zV hI.wf ?_,hI.m,?_,⟨λ o=>T.getD (o / 2) 0 ^^^ o % 2,rfl,λ o ho=>?_⟩,?_⟩
 ·intro y hy
  obtain ⟨o,ho,rfl⟩:=List.mem_map.mp hy
  rw [A.bu]
  exact (hI.ok _ (w.outs o ho) (by by_cases c:o / 2<=g.m; exact .inl c; exact .inr ⟨w.outs o ho,hu.outs o ho⟩)).1
 ·show f.N<=g.N
  have h1:=hI.cnt
  have h3:=hI.m
  have h4:((List.range g.N).filter λ v=>decide (g.m < v) && u.getD v false).length<=(List.range' (g.m+1) g.ands.length).length:=by
   refine bQ (List.nodup_range.sublist List.filter_sublist) λ v hv=>?_
   have:=List.mem_filter.mp hv
   simp [A.N] at this
   simp; lia
  rw [List.length_range'] at h4
  unfold A.N; lia
 ·have:=hI.ok _ (w.outs o ho) (by by_cases c:o / 2<=g.m; exact .inl c; exact .inr ⟨w.outs o ho,hu.outs o ho⟩)
  refine ⟨λ x=>?_,?_⟩
  ·rw [A.F5,A.jZ,this.2.1]; rfl
  ·rw [A.BD,A.bu]; exact this.2.2
 ·intro P hc hP bX hi
  show f.ands.length<=_
  refine Nat.le_trans hI.cnt (bQ (List.nodup_range.sublist List.filter_sublist) λ v hv=>?_)
  have:=List.mem_filter.mp hv
  simp at this
  exact hi v (hu.least P hc hP v (by simpa using this.2.2)) this.2.1 this.1
end
section
section
variable {n:Nat} {Q:V->Hp->Prop} {H:Hp} {QV:PV} {l:List (Option V)}
theorem tJ (b:Nat) (p:Nat×Nat):b8 .sa (nV b) (aF p) QV ⟨l,H⟩=QV (.bool (decide (b=p.1\/b=p.2))) ⟨l,H⟩:=by
 obtain ⟨c,d⟩:=p
 have h1: ∀c:Nat,jN (nV b) (nV c)=decide (b=c):=λ c=>by
  show ((b:Int) == (c:Int))=_
  rw [Bool.eq_iff_iff]; simp; exact Int.ofNat_inj
 show (true=true/\QV (.bool ([nV c,nV d].any (jN (nV b)))) ⟨l,H⟩)=_
 rw [eq_self,true_and,List.any_cons,List.any_cons,List.any_nil,h1,h1,Bool.or_false]; simp
theorem fC {x:V} {p:Nat×Nat} {b:Nat} (k:Q (.bool (p.1 == b ^^^ 1 || p.2 == b ^^^ 1)) H):au prog (n+1) Hq [x,aF p,nV b] Q H:=by
 refine aj ri [some x,some (aF p),some (nV b)] rfl rfl ?_
 show Xs _ nK _ _
 simp only [mach,ops,ops2,nK]
 by_cases c:p.1=b ^^^ 1
 ·have e:(p.1 == b ^^^ 1)=true:=beq_iff_eq.mpr c
  rw [e] at k
  simp only [mach,c,decide_true,Bool.true_eq_false,if_false]; exact k
 ·have e:(p.1 == b ^^^ 1)=false:=beq_eq_false_iff_ne.mpr c
  rw [e] at k
  simp only [mach,ops,ops2,c,decide_false,if_true]
  have e2:(false || p.2 == b ^^^ 1)=decide (p.2=b ^^^ 1):=by rw [Bool.false_or,Bool.eq_iff_iff]; rfl
  rw [e2] at k; exact k
noncomputable def bV (p:Nat×Nat) (b:Nat):Nat:=if p.1=b then p.2 else p.1
theorem cu {p:Nat×Nat} {b:Nat} (k:Q (nV (bV p b)) H):au prog (n+1) y4 [aF p,nV b] Q H:=by
 refine aj kL [some (aF p),some (nV b)] rfl rfl ?_
 show Xs _ gV _ _
 simp only [mach,ops,ops2,gV]
 unfold bV at k
 refine aL (λ c=>?_) λ c=>?_
 ·rw [if_pos c] at k
  simp only [mach,ops,ops2,c,if_true]; exact k
 ·rw [if_neg c] at k
  simp only [mach,ops,ops2,c,if_false]; exact k
theorem fF {QB:PB} {σ:St} (t:Bool):gG (.bool t) QB σ=QB t σ:=rfl
end
namespace A
structure Eqv (g:A) (a b c:Nat):Prop where
 lt:c / 2 < g.N
 val: ∀x,g.lv x c=(g.lv x a && g.lv x b)
 bX: ∀P:Nat->Prop,cp g P->P 0->P (a / 2)->P (b / 2)->P (c / 2)
structure oi (g:A) (a b c d:Nat):Prop where
 Xz:c / 2 < g.N
 XA:d / 2 < g.N
 val: ∀x,(g.lv x c && g.lv x d)=(g.lv x a && g.lv x b)
 bX: ∀P:Nat->Prop,cp g P->P 0->P (a / 2)->P (b / 2)->P (c / 2)/\P (d / 2)
theorem Eqv.swap {g:A} {a b c:Nat} (h:Eqv g a b c):Eqv g b a c:=⟨h.lt,λ x=>by rw [h.val,Bool.and_comm],λ P hc h0 ha hb=>h.bX P hc h0 hb ha⟩
theorem oi.swap {g:A} {a b c d:Nat} (h:oi g a b c d):oi g b a c d:=⟨h.Xz,h.XA,λ x=>by rw [h.val,Bool.and_comm],λ P hc h0 ha hb=>h.bX P hc h0 hb ha⟩
theorem zl {g:A} (w:g.WF) {a x y:Nat} (hp:g.pair (a / 2)=some (x,y)) (h:a % 2=0) (z:Nat->Bool):g.lv z a=(g.lv z x && g.lv z y):=by
 unfold lv; rw [fN w hp,h]; simp [lv]
theorem L8 {g:A} (w:g.WF) {a x y:Nat} (hp:g.pair (a / 2)=some (x,y)) (h:a % 2=1) (z:Nat->Bool):g.lv z a=!(g.lv z x && g.lv z y):=by
 unfold lv; rw [fN w hp,h]; simp [lv]
end A
open A
noncomputable def jn (g:A) (a b:Nat) (v:V):Prop:=
 v= .none\/(∃c,v= .tup [.str 5,nV c]/\Eqv g a b c)\/(∃c d,v= .tup [.str 3,nV c,nV d]/\oi g a b c d)
theorem jn.swap {g:A} {a b:Nat} {v:V} (h:jn g a b v):jn g b a v:=by
 rcases h with h | ⟨c,e,h⟩ | ⟨c,d,e,h⟩
 ·exact .inl h
 ·exact .inr (.inl ⟨c,e,h.swap⟩)
 ·exact .inr (.inr ⟨c,d,e,h.swap⟩)
theorem rO {n ad a b:Nat} {g:A} {H:Hp} {Q:V->Hp->Prop} {x y:Nat} (hG:H ad=some g.obj) (w:g.WF) (ha:a / 2 < g.N) (hb:b / 2 < g.N) (hp:g.pair (a / 2)=some (x,y)) (hev:a % 2=0)
  (k: ∀v,(v= .none\/∃c,v=nV c/\Eqv g a b c)->Q v H):au prog (n+2) sR [.ref ad,nV a,nV b] Q H:=by
 refine aj gw [some (.ref ad),some (nV a),some (nV b), .none, .none] rfl rfl ?_
 show Xs _ dK _ _
 have hv:=zl w hp hev
 have zero:(∀z,(g.lv z a && g.lv z b)=false)->Eqv g a b 0:=λ h=>⟨by simp [A.N]; lia,λ z=>by rw [A.jk,h],λ P j h0 j j=>by simpa using h0⟩
 have UK: ∀c,(x=c ^^^ 1\/y=c ^^^ 1)->(∀z,g.lv z b=true->g.lv z c=true)->∀z,(g.lv z a && g.lv z b)=false:=by
  intro c hc h z
  rw [hv]
  cases DP:g.lv z b with
  | false=>exact Bool.and_false (g.lv z x && g.lv z y)
  | true=>
   have:=h z DP
   rcases hc with rfl | rfl <;> rw [A.eM,this] <;> simp
 simp only [mach,ops,ops2,dK,aw hG 0 (by decide),aO hG ha,hp,cT,tJ]
 refine aL (λ c1=>?_) λ c1=>?_
 ·simp only [mach,c1,if_true]
  refine k _ (.inr ⟨a,rfl,ha,λ z=>?_,λ P j j h j=>h⟩)
  rw [hv]
  rcases c1 with rfl | rfl <;> cases g.lv z b <;> simp
 ·simp only [mach,c1,if_false]
  refine fC ?_
  simp only [mach,fF]
  refine aL (λ c2=>?_) λ c2=>?_
  ·simp only [mach,c2,if_true]
   refine k _ (.inr ⟨0,rfl,zero (UK b (by simpa using c2) λ j h=>h)⟩)
  ·simp only [mach,ops,ops2,c2,if_false,aw hG 0 (by decide),aO hG hb]
   cases hq:g.pair (b / 2) with
   | none=>
    simp only [mach,Option.isSome_none,Bool.false_eq_true,if_false]
    exact k _ (.inl rfl)
   | some q=>
    obtain ⟨s,t⟩:=q
    simp only [mach,ops,ops2,Option.isSome_some,if_true]
    refine aL (λ c3=>?_) λ c3=>?_
    ·have Uc:=zl w hq c3
     simp only [mach,ops2,c3,if_true,cT]
     refine fC ?_
     simp only [mach,fF]
     refine aL (λ c4=>?_) λ c4=>?_
     ·simp only [mach,c4,if_true]
      exact k _ (.inr ⟨0,rfl,zero (UK s (by simpa using c4) λ z h=>by rw [Uc] at h; simp at h; exact h.1)⟩)
     ·simp only [mach,ops2,c4,if_false]
      refine fC ?_
      simp only [mach,fF]
      refine aL (λ c5=>?_) λ c5=>?_
      ·simp only [mach,c5,if_true]
       exact k _ (.inr ⟨0,rfl,zero (UK t (by simpa using c5) λ z h=>by rw [Uc] at h; simp at h; exact h.2)⟩)
      ·simp only [mach,c5,if_false]
       exact k _ (.inl rfl)
    ·simp only [mach,c3,if_false]
     exact k _ (.inl rfl)
theorem rJ {x y q:Nat} (h:q=x\/q=y):(bV (x,y) q=x\/bV (x,y) q=y)/\∀(g:A) z,(g.lv z x && g.lv z y)=(g.lv z q && g.lv z (bV (x,y) q)):=by
 unfold bV
 by_cases c:x=q
 ·subst c; rw [if_pos rfl]; exact ⟨.inr rfl,λ j j=>rfl⟩
 ·rw [if_neg c]
  have:q=y:=h.resolve_left (λ e=>c e.symm)
  subst this
  exact ⟨.inl rfl,λ j j=>Bool.and_comm ..⟩
section
variable {n ad a b:Nat} {g:A} {H:Hp} {x y:Nat}
theorem aH {H:Hp} (xs:List V):itemsOf H (.tup xs)=some xs:=rfl
theorem rN {Q:V->Hp->Prop} (hG:H ad=some g.obj) (w:g.WF) (ha:a / 2 < g.N) (hb:b / 2 < g.N) (hp:g.pair (a / 2)=some (x,y)) (aad:a % 2=1)
  (k: ∀v,jn g a b v->Q v H):au prog (n+2) sQ [.ref ad,nV a,nV b] Q H:=by
 refine aj gu [some (.ref ad),some (nV a),some (nV b), .none, .none, .none] rfl rfl ?_
 show Xs _ dJ _ _
 have hv:=L8 w hp aad
 have hkx:=w.kids hp
 have isb:(∀z,g.lv z b=true->g.lv z a=true)->jn g a b (.tup [.str 5,nV b]):=λ h=>
  .inr (.inl ⟨b,rfl,hb,λ z=>by cases e:g.lv z b; exact Eq.symm (Bool.and_false (g.lv z a)); rw [h z e]; rfl,λ P j j j h=>h⟩)
 have UK: ∀c,(x=c ^^^ 1\/y=c ^^^ 1)->(∀z,g.lv z b=true->g.lv z c=true)->jn g a b (.tup [.str 5,nV b]):=by
  intro c hc h
  refine isb λ z hz=>?_
  rw [hv]
  have:=h z hz
  rcases hc with rfl | rfl <;> rw [A.eM,this] <;> simp
 have S8: ∀c,(c=x\/c=y)->(∀z,g.lv z b=true->g.lv z c=true)->jn g a b (.tup [.str 3,nV b,nV (bV (x,y) c ^^^ 1)]):=by
  intro c hc h
  have om:=rJ hc
  have dz:bV (x,y) c / 2 < g.N:=by rcases om.1 with e | e <;> rw [e] <;> lia
  refine .inr (.inr ⟨b,_,rfl,hb,by rw [A.bS]; exact dz,λ z=>?_,λ P wo j h1 h2=>⟨h2,?_⟩⟩)
  ·rw [hv,om.2 g z,A.eM]
   cases e:g.lv z b
   ·exact Eq.symm (Bool.and_comm (!(g.lv z c && g.lv z (bV (x,y) c))) false)
   ·rw [h z e]; exact Eq.symm (Bool.and_true !(true && g.lv z (bV (x,y) c)))
  ·rw [A.bS]
   have:=wo _ _ _ h1 hp
   rcases om.1 with e | e <;> rw [e]
   ·exact this.1
   ·exact this.2
 simp only [mach,ops,ops2,dJ,aw hG 0 (by decide),aO hG ha,hp,cT]
 refine fC ?_
 simp only [mach,fF]
 refine aL (λ c1=>?_) λ c1=>?_
 ·simp only [mach,c1,if_true]
  exact k _ (UK b (by simpa using c1) λ j h=>h)
 simp only [mach,ops,c1,if_false,tJ]
 refine aL (λ c2=>?_) λ c2=>?_
 ·simp only [mach,c2,if_true]
  refine cu ?_
  simp only [mach,ops,ai]
  exact k _ (S8 b c2 λ j h=>h)
 simp only [mach,ops,ops2,c2,if_false,aw hG 0 (by decide),aO hG hb]
 cases hq:g.pair (b / 2) with
 | none=>
  simp only [mach,Option.isNone_none,if_true]
  exact k _ (.inl rfl)
 | some q=>
  obtain ⟨s,t⟩:=q
  have Hm:=w.kids hq
  have hbl:=(A.bt hq).1
  simp only [mach,ops,ops2,Option.isNone_some,Bool.false_eq_true,if_false,cT]
  refine aL (λ c3=>?_) λ c3=>?_
  ·have Uc:=zl w hq c3
   have hs: ∀z,g.lv z b=true->g.lv z s=true:=λ z h=>by rw [Uc] at h; simp at h; exact h.1
   have ht: ∀z,g.lv z b=true->g.lv z t=true:=λ z h=>by rw [Uc] at h; simp at h; exact h.2
   simp only [mach,c3,if_true,aF]
   rw [aX (aH _)]
   simp only [mach,loops,L_rule_negative_0]
   refine fC (p:=(x,y)) ?_
   simp only [mach,fF]
   refine aL (λ d1=>?_) λ d1=>?_
   ·simp only [mach,loops,d1,if_true]
    exact k _ (UK s (by simpa using d1) hs)
   simp only [mach,loops,d1,if_false,aH,true_and]
   refine fC (p:=(x,y)) ?_
   simp only [mach,fF]
   refine aL (λ d2=>?_) λ d2=>?_
   ·simp only [mach,loops,d2,if_true]
    exact k _ (UK t (by simpa using d2) ht)
   simp only [mach,loops,d2,if_false,aH,true_and]
   rw [aX (aH _)]
   have ip: ∀(b:Nat) (K:PV) l,b8 .sa (nV b) (.tup [nV x,nV y]) K ⟨l,H⟩=K (.bool (decide (b=x\/b=y))) ⟨l,H⟩:=λ b K l=>tJ b (x,y)
   simp only [mach,ops,loops,L_rule_negative_1,ip]
   refine aL (λ d3=>?_) λ d3=>?_
   ·simp only [mach,d3,if_true]
    refine cu (p:=(x,y)) ?_
    simp only [mach,ops,loops,ai]
    exact k _ (S8 s d3 hs)
   simp only [mach,ops,loops,d3,if_false,aH,true_and,ip]
   refine aL (λ d4=>?_) λ d4=>?_
   ·simp only [mach,d4,if_true]
    refine cu (p:=(x,y)) ?_
    simp only [mach,ops,loops,ai]
    exact k _ (S8 t d4 ht)
   simp only [mach,loops,d4,if_false,aH,true_and]
   exact k _ (.inl rfl)
  ·have Zn:b % 2=1:=by exact Nat.mod_two_ne_zero.mp c3
   have Uc:=L8 w hq Zn
   simp only [mach,c3,if_false,aF]
   rw [aX (aH _)]
   have ip: ∀(b:Nat) (K:PV) l,b8 .sa (nV b) (.tup [nV x,nV y]) K ⟨l,H⟩=K (.bool (decide (b=x\/b=y))) ⟨l,H⟩:=λ b K l=>tJ b (x,y)
   have fin: ∀c,(c=x\/c=y)->(c=s\/c=t)->bV (x,y) c=bV (s,t) c ^^^ 1->jn g a b (.tup [.str 5,nV (c ^^^ 1)]):=by
    intro c hc TQ he
    have om:=rJ hc
    have om':=rJ TQ
    refine .inr (.inl ⟨_,rfl,?_,λ z=>?_,λ P wo j h1 h2=>?_⟩)
    ·rw [A.bS]; rcases hc with rfl | rfl <;> lia
    ·rw [hv,Uc,om.2 g z,om'.2 g z,he,A.eM,A.eM]
     cases g.lv z c <;> cases g.lv z (bV (s,t) c) <;> rfl
    ·rw [A.bS]
     have:=wo _ _ _ h1 hp
     rcases hc with rfl | rfl
     ·exact this.1
     ·exact this.2
   simp only [mach,ops,loops,L_rule_negative_2,ip]
   have last: ∀(o5:Option V) (l':List (Option V)),(∀f:Fl,f= .next->True)->True:=λ j j j=>trivial
   have second:Xs (au prog (n+1)) [S.iff (.e (.cmp .sa (.var 5) (.var 3))) [S.iff (.e (.cmp .eq (.call 33 [(.var 3),(.var 5)]) (.bin .bxor (.call 33 [(.var 4),(.var 5)]) (.int 1)))) [S.ret (.tup [(.str 5),(.bin .bxor (.var 5) (.int 1))])] []] []]
     (oG (au prog (n+1)) (.inr 5) [S.iff (.e (.cmp .sa (.var 5) (.var 3))) [S.iff (.e (.cmp .eq (.call 33 [(.var 3),(.var 5)]) (.bin .bxor (.call 33 [(.var 4),(.var 5)]) (.int 1)))) [S.ret (.tup [(.str 5),(.bin .bxor (.var 5) (.int 1))])] []] []]
      (.tup [nV s,nV t]) [nV s,nV t] (lU (au prog (n+1)) [S.ret E.none] (d8 Q)) []) ⟨[some (.ref ad),some (nV a),some (nV b),some (.tup [nV x,nV y]),some (.tup [nV s,nV t]),some (nV t)],H⟩:=by
    simp only [mach,ops,ip]
    refine aL (λ d4=>?_) λ d4=>?_
    ·simp only [mach,d4,if_true]
     refine cu (p:=(x,y)) ?_
     simp only [mach,ai]
     refine cu (p:=(s,t)) ?_
     simp only [mach,ops,ai]
     refine aL (λ d5=>?_) λ d5=>?_
     ·simp only [mach,ops,loops,d5,if_true]
      exact k _ (fin t d4 (.inr rfl) d5)
     ·simp only [mach,loops,d5,if_false,aH,true_and]
      exact k _ (.inl rfl)
    ·simp only [mach,loops,d4,if_false,aH,true_and]
     exact k _ (.inl rfl)
   refine aL (λ d3=>?_) λ d3=>?_
   ·simp only [mach,d3,if_true]
    refine cu (p:=(x,y)) ?_
    simp only [mach,ai]
    refine cu (p:=(s,t)) ?_
    simp only [mach,ops,ai]
    refine aL (λ d5=>?_) λ d5=>?_
    ·simp only [mach,ops,loops,d5,if_true]
     exact k _ (fin s d3 (.inl rfl) d5)
    ·simp only [mach,loops,d5,if_false,aH,true_and]
     simp only [mach,ops,loops,ip,aH,true_and] at second ⊢
     exact second
   ·simp only [mach,loops,d3,if_false,aH,true_and]
    simp only [mach,ops,loops,ip,aH,true_and] at second ⊢
    exact second
end
end
section
open A
theorem lY.XJ {g:A} (w:g.WF) {a b c:Nat} (h:Eqv g a b c):lY g a b c g:=
 ⟨.refl _,w,h.lt,Nat.le_succ _,h.val,λ P hc h0 h1 h2=> .inl (h.bX P hc h0 h1 h2)⟩
theorem lY.UH {g g':A} {a b c d lit:Nat} (h:oi g a b c d) (k:lY g c d lit g'):lY g a b lit g':=
 ⟨k.le,k.wf,k.lt,k.grow,λ x=>by rw [k.val,h.val],λ P hc h0 h1 h2=>k.bX P hc h0 (h.bX P hc h0 h1 h2).1 (h.bX P hc h0 h1 h2).2⟩
theorem A.oi.refl {g:A} {a b:Nat} (ha:a / 2 < g.N) (hb:b / 2 < g.N):oi g a b a b:=⟨ha,hb,λ x=>rfl,λ x x x h1 h2=>⟨h1,h2⟩⟩
theorem A.oi.trans {g:A} {a b c d e f:Nat} (h:oi g a b c d) (k:oi g c d e f):oi g a b e f:=
 ⟨k.Xz,k.XA,λ x=>by rw [k.val,h.val],λ P hc h0 h1 h2=>k.bX P hc h0 (h.bX P hc h0 h1 h2).1 (h.bX P hc h0 h1 h2).2⟩
theorem A.Eqv.trans {g:A} {a b c d e:Nat} (h:oi g a b c d) (k:Eqv g c d e):Eqv g a b e:=
 ⟨k.lt,λ x=>by rw [k.val,h.val],λ P hc h0 h1 h2=>k.bX P hc h0 (h.bX P hc h0 h1 h2).1 (h.bX P hc h0 h1 h2).2⟩
section
variable {n ad:Nat} {g:A} {H:Hp} {K:PF}
theorem vq {one two:Nat} {x1 x2 x3:Option V} {step:V} {o7:Option V} (hG:H ad=some g.obj) (w:g.WF) (h1:one / 2 < g.N) (h2:two / 2 < g.N) (hs:jn g one two step)
  (fin: ∀step' YS,jn g one two step'->K .next ⟨[some (.ref ad),x1,x2,x3,some step',some (nV one),some (nV two),YS],H⟩/\K .cont ⟨[some (.ref ad),x1,x2,x3,some step',some (nV one),some (nV two),YS],H⟩):
  Xs (au prog (n+2)) L_smart_and_1 K ⟨[some (.ref ad),x1,x2,x3,some step,some (nV one),some (nV two),o7],H⟩:=by
 simp only [mach,ops,ops2,L_smart_and_1,aw hG 0 (by decide),aO hG h1]
 cases hp:g.pair (one / 2) with
 | none=>
  simp only [mach,Option.isNone_none,if_true]
  exact (fin _ _ hs).2
 | some p=>
  obtain ⟨x,y⟩:=p
  simp only [mach,Option.isNone_some,Bool.false_eq_true,if_false]
  have cont:step≠ .none->b8 .dm step .none=λ (Q:PV) σ=>Q (.bool true) σ:=by
   intro h; funext Q σ; cases step <;> first | rfl | exact absurd rfl h
  rcases hs with rfl | hs
  ·simp only [mach,ops,ops2,Bool.false_eq_true,if_false]
   refine aL (λ c=>?_) λ c=>?_
   ·simp only [mach,c,if_true]
    refine rO hG w h1 h2 hp c λ v hv=>?_
    rcases hv with rfl | ⟨lit,rfl,he⟩
    ·simp only [mach,ops,Bool.false_eq_true,if_false]
     exact (fin _ _ (.inl rfl)).1
    ·simp only [mach,ops,if_true]
     exact (fin _ _ (.inr (.inl ⟨lit,rfl,he⟩))).1
   ·simp only [mach,c,if_false]
    refine rN hG w h1 h2 hp (by exact Nat.mod_two_ne_zero.mp c) λ v hv=>?_
    simp only [mach,ai]
    exact (fin _ _ hv).1
  ·have eS:step≠ .none:=by rcases hs with ⟨c,rfl,_⟩ | ⟨c,d,rfl,_⟩ <;> exact λ h=>nomatch h
   simp only [mach,ops,cont eS,if_true]
   exact (fin _ _ (.inr hs)).2
theorem hU {a b:Nat} {Q:V->Hp->Prop} (hG:H ad=some g.obj) (w:g.WF) (hN:g.N < 10000) (ha:a / 2 < g.N) (hb:b / 2 < g.N)
  (k: ∀lit g',lY g a b lit g'->Q (nV lit) (upd H ad g'.obj)):au prog (n+3) Bf [.ref ad,nV a,nV b] Q H:=by
 refine aj dW [some (.ref ad),some (nV a),some (nV b),some (.int 32), .none, .none, .none, .none] rfl rfl ?_
 show Xs _ i6 _ _
 have land: ∀c d x3 x4 x5 x6 x7,oi g a b c d->Xs (au prog (n+2)) [.ret (.gZ 2 (.var 0) [(.var 1),(.var 2)])] (d8 Q) ⟨[some (.ref ad),some (nV c),some (nV d),x3,x4,x5,x6,x7],H⟩:=by
  intro c d x3 x4 x5 x6 x7 he
  simp only [mach,ai]
  refine ⟨bJ hG,?_⟩
  refine kU hG hN w ?_
  exact k _ _ (lY.UH he (A.qv w he.Xz he.XA))
 simp only [mach,i6]
 refine bx (λ m σ=> ∃c d z x4 x5 x6 x7,σ=⟨[some (.ref ad),some (nV c),some (nV d),some (.int z),x4,x5,x6,x7],H⟩/\oi g a b c d/\m=z.toNat) 32
  ⟨a,b,32,_,_,_,_,rfl, .refl ha hb,rfl⟩ ?_
 rintro m σ ⟨c,d,z,x4,x5,x6,x7,rfl,he,rfl⟩
 have gt: ∀(x y:Int) (Q:PV) (σ:St),b8 .gt (.int x) (.int y) Q σ=Q (.bool (decide (y < x))) σ:=λ x y Q σ=>congrArg (λ b=>Q (.bool b) σ) (uE y x)
 simp only [mach,ops,loops,gt]
 refine aL (λ hz=>?_) λ hz=>?_
 ·simp only [mach,loops,hz,if_true,L_smart_and_0]
  have aug: ∀(Q:PV) (σ:St),jR .sub (.int z) (nV 1) Q σ=Q (.int (z - 1)) σ:=λ j j=>rfl
  simp only [mach,ops,ops2,aug]
  have sj:=land c d
  simp only [mach,ai] at sj
  refine aL (λ c1=>?_) λ c1=>?_
  ·simp only [mach,loops,c1,if_true]; exact sj _ _ _ _ _ he
  simp only [mach,ops,c1,if_false]
  refine aL (λ c2=>?_) λ c2=>?_
  ·simp only [mach,loops,c2,if_true]; exact sj _ _ _ _ _ he
  simp only [mach,ops,ops2,c2,if_false]
  refine aL (λ c3=>?_) λ c3=>?_
  ·simp only [mach,loops,c3,if_true]; exact sj _ _ _ _ _ he
  simp only [mach,c3,if_false]
  rw [aX (aH _),ph rfl]
  simp only [mach,ai]
  refine vq hG w he.Xz he.XA (.inl rfl) λ s1 o7 Rt=>?_
  have next:aC (au prog (n+2)) (.inl [5,6]) L_smart_and_1 (.tup [.tup [nV c,nV d], .tup [nV d,nV c]]) [.tup [nV c,nV d], .tup [nV d,nV c]]
    (lU (au prog (n+2)) [.iff (.e (.cmp .is (.var 4) .none)) [.brk] [], .iff (.e (.cmp .eq (.sub (.var 4) (.int 0)) (.str 5))) [.ret (.sub (.var 4) (.int 1))] [], .assign 1 (.sub (.var 4) (.int 1)), .assign 2 (.sub (.var 4) (.int 2))]
     (ji (λ m σ=> ∃c d z x4 x5 x6 x7,σ=⟨[some (.ref ad),some (nV c),some (nV d),some (.int z),x4,x5,x6,x7],H⟩/\oi g a b c d/\m=z.toNat) z.toNat
      (lU (au prog (n+2)) [.ret (.gZ 2 (.var 0) [(.var 1),(.var 2)])] (d8 Q)))) [.tup [nV d,nV c]]
    ⟨[some (.ref ad),some (nV c),some (nV d),some (.int (z - 1)),some s1,some (nV c),some (nV d),o7],H⟩:=by
   rw [ph rfl]
   simp only [mach,ai]
   refine vq hG w he.XA he.Xz Rt.swap λ s2 YS KJ=>?_
   have KJ:=KJ.swap
   have last:Xs (au prog (n+2)) [.iff (.e (.cmp .is (.var 4) .none)) [.brk] [], .iff (.e (.cmp .eq (.sub (.var 4) (.int 0)) (.str 5))) [.ret (.sub (.var 4) (.int 1))] [], .assign 1 (.sub (.var 4) (.int 1)), .assign 2 (.sub (.var 4) (.int 2))]
     (ji (λ m σ=> ∃c d z x4 x5 x6 x7,σ=⟨[some (.ref ad),some (nV c),some (nV d),some (.int z),x4,x5,x6,x7],H⟩/\oi g a b c d/\m=z.toNat) z.toNat
      (lU (au prog (n+2)) [.ret (.gZ 2 (.var 0) [(.var 1),(.var 2)])] (d8 Q)))
     ⟨[some (.ref ad),some (nV c),some (nV d),some (.int (z - 1)),some s2,some (nV d),some (nV c),YS],H⟩:=by
    rcases KJ with rfl | ⟨e,rfl,hq⟩ | ⟨e,f,rfl,hq⟩
    ·simp only [mach,ops,loops,if_true]
     exact sj _ _ _ _ _ he
    ·have t0: ∀(Q:PV) l,b7 (.tup [.str 5,nV e]) (nV 0) Q ⟨l,H⟩=Q (.str 5) ⟨l,H⟩:=λ Q l=>bI rfl
     have t1: ∀(Q:PV) l,b7 (.tup [.str 5,nV e]) (nV 1) Q ⟨l,H⟩=Q (nV e) ⟨l,H⟩:=λ Q l=>bI rfl
     simp only [mach,ops,loops,Bool.false_eq_true,if_false,t0,t1,beq_self_eq_true,if_true]
     have:=k e g (lY.XJ w (A.Eqv.trans he hq))
     rw [fY hG] at this
     exact this
    ·have t0: ∀(Q:PV) l,b7 (.tup [.str 3,nV e,nV f]) (nV 0) Q ⟨l,H⟩=Q (.str 3) ⟨l,H⟩:=λ Q l=>bI rfl
     have t1: ∀(Q:PV) l,b7 (.tup [.str 3,nV e,nV f]) (nV 1) Q ⟨l,H⟩=Q (nV e) ⟨l,H⟩:=λ Q l=>bI rfl
     have t2: ∀(Q:PV) l,b7 (.tup [.str 3,nV e,nV f]) (nV 2) Q ⟨l,H⟩=Q (nV f) ⟨l,H⟩:=λ Q l=>bI rfl
     have e35:(3 == 5)=false:=rfl
     simp only [mach,ops,loops,Bool.false_eq_true,if_false,t0,t1,t2,e35]
     exact ⟨(z - 1).toNat,by lia,e,f,z - 1,_,_,_,_,rfl,he.trans hq,rfl⟩
   simp only [mach,loops,aH,true_and]
   simp only [mach,ai] at last
   exact ⟨last,last⟩
  simp only [loops,aH,true_and]
  exact ⟨next,next⟩
 ·simp only [mach,hz,if_false]
  have sj:=land c d
  simp only [mach,ai] at sj
  exact sj _ _ _ _ _ he
end
end
section
open A
section
variable {n a:Nat} {g:A} {H:Hp} {Q:V->Hp->Prop}
theorem pK (hG:H a=some g.obj) (hN:g.N < 5000)
  (k: ∀r t H',Ext H H'->H r= .none->H t= .none->r≠t->H' r=some (lT g.m).obj->H' t=some (.list (ae (tabIn g.N g.m)))->Q (.tup [.ref r, .ref t]) H'):au prog (n+2) Hr [.ref a] Q H:=by
 refine aj rj [some (.ref a), .none, .none, .none] rfl rfl ?_
 show Xs _ nL _ _
 simp only [mach,nL]
 refine aq λ r H0 f0 e0 x0=>?_
 have qo:=x0 _ _ hG
 simp only [mach,ai]
 refine aq λ t0 H1 f1 e1 x1=>?_
 have cF:=x1 _ _ qo
 have bz:g.N<=lim:=by unfold lim; lia
 simp only [mach,aw cF 0 (by decide),bj cF,mul_list e1 bz,qG,vE]
 refine aq λ t H2 f2 e2 x2=>?_
 have dk:=x2 _ _ cF
 simp only [mach,aw dk 1 (by decide)]
 rw [aX (hZ dk)]
 have pM:a≠r:=ak hG f0
 have d9:a≠t:=ak cF f2
 have lL:r≠t:=ak (x1 _ _ e0) f2
 refine FH (by lia) pM d9 lL g.m 0 H2 H2 _ (by exact Nat.zero_add g.m) dk (x2 _ _ (x1 _ _ e0)) e2 (λ x x x x e=>e) λ H3 o3 FA Rp Jd A1=>?_
 simp only [mach,ai]
 have Fy: ∀b o,H b=some o->b≠r/\b≠t:=λ b o e=>⟨ak e f0,ak (x1 _ _ (x0 _ _ e)) f2⟩
 exact k r t H3 (λ b o e=>A1 b o (Fy b o e).1 (Fy b o e).2 (x2 _ _ (x1 _ _ (x0 _ _ e)))) f0 (bg x0 (bg x1 f2)) lL Rp Jd
theorem j0 {t l:Nat} {T:List Nat} (ht:H t=some (.list (ae T))) (hl:l / 2 < T.length) (k:Q (nV (T.getD (l / 2) 0 ^^^ l % 2)) H):au prog (n+1) Pp [.ref t,nV l] Q H:=by
 refine aj yE [some (.ref t),some (nV l)] rfl rfl ?_
 show Xs _ tE _ _
 simp only [mach,ops,ops2,tE,bD ht hl]
 exact k
end
noncomputable def fE (g:A) (T:List Nat) (l:List Nat):List Nat:=l.map λ o=>T.getD (o / 2) 0 ^^^ o % 2
section
variable {n a r t:Nat} {g:A} {K:PF}
theorem AV (pM:a≠r) (lL:r≠t) (hO:g.outs.length < 1000) {T:List Nat} (hT:T.length=g.N) (w:g.WF): ∀(todo dn:List Nat) (f:A) (H H₀:Hp) (o3:Option V),dn++todo=g.outs->H a=some g.obj->
  H r=some ({f with outs:=fE g T dn}:A).obj->H t=some (.list (ae T))->ExtBut r H₀ H->
  (∀H' o3,H' r=some ({f with outs:=fE g T g.outs}:A).obj->ExtBut r H₀ H'->K .next ⟨[some (.ref a),some (.ref r),some (.ref t),o3],H'⟩)->
  aC (au prog (n+1)) (.inr 3) L_finish_0 (.part a 2) (ae g.outs) K (ae todo) ⟨[some (.ref a),some (.ref r),some (.ref t),o3],H⟩:=by
 intro todo
 induction todo with
 | nil=>
  intro dn f H H₀ o3 hd hG hr ht hE fin
  rw [List.append_nil] at hd; subst hd
  exact fin H _ hr hE
 | cons o todo ih=>
  intro dn f H H₀ o3 hd hG hr ht hE fin
  have hm:o∈g.outs:=hd▸List.mem_append_right _ (.head _)
  have dz:o / 2 < T.length:=by rw [hT]; exact w.outs o hm
  show aC _ (.inr 3) L_finish_0 _ _ K (nV o::ae todo) _
  simp only [mach,ops,ops2,loops,L_finish_0]
  refine ⟨bJ hr,j0 ht dz ?_⟩
  simp only [mach,ai]
  have Vh:dn.length < 10000:=by
   have:=congrArg List.length hd
   simp at this; lia
  refine jo hr (by simpa [fE] using Vh) ?_
  have cF: ∀o,upd H r o a=some g.obj:=λ o=>(ao _ _ pM).trans hG
  simp only [mach,loops,aQ (cF _),true_and]
  refine ih (dn++ [o]) f _ H₀ _ (by simp [hd]) (cF _) ?_ ((ao _ _ (Ne.symm lL)).trans ht) (hE.trans (.upd _ _ _)) fin
  rw [ah]; simp [fE]
theorem finish_ok {H:Hp} {Q:V->Hp->Prop} {T:List Nat} {f:A} (hG:H a=some g.obj) (w:g.WF) (hO:g.outs.length < 1000) (hr:H r=some f.obj) (ht:H t=some (.list (ae T))) (hT:T.length=g.N)
  (hf:f.outs= []) (wf:f.WF) (O5:f.N < 5000) (yS: ∀o∈g.outs,T.getD (o / 2) 0 / 2 < f.N) (pM:a≠r) (lL:r≠t)
  (k: ∀s g' H',ExtBut r H H'->H s= .none->H' s=some g'.obj->nG {f with outs:=fE g T g.outs} g'->Q (.ref s) H'):au prog (n+3) KQ [.ref a, .ref r, .ref t] Q H:=by
 refine aj uw [some (.ref a),some (.ref r),some (.ref t), .none] rfl rfl ?_
 show Xs _ pU _ _
 simp only [mach,pU,aw hG 2 (by decide)]
 rw [aX (aQ hG)]
 refine AV pM lL hO hT w g.outs [] f H H _ rfl hG (by rw [show ({f with outs:=fE g T []}:A)=f by rw [show fE g T []= [] from rfl,<- hf]]; exact hr) ht (.refl _ _) λ H1 o3 Ua Wh=>?_
 simp only [mach,ai]
 refine CL Ua (A.zV wf λ y hy=>?_) O5 (by simpa [fE] using hO) λ s g' H2 x2 f2 e2 hs=>?_
 ·obtain ⟨o,ho,rfl⟩:=List.mem_map.mp hy
  rw [A.bu]; exact yS o ho
 simp only [mach,ai]
 refine k s g' H2 (λ b o hb e=>x2 _ _ (Wh b o hb e)) ?_ e2 hs
 cases q:H s with
 | none=>rfl
 | some o=>
  have:H1 s≠ .none:=by
   by_cases c:s=r
   ·subst c; rw [Ua]; exact λ h=>nomatch h
   ·rw [Wh s o c q]; exact λ h=>nomatch h
  exact absurd f2 this
end
structure cC (g g':A):Prop where
 wf:g'.WF
 m:g'.m=g.m
 outs: ∃τ:Nat->Nat,g'.outs=g.outs.map τ/\∀o∈g.outs,∀x,g'.lv x (τ o)=g.lv x o
noncomputable def fP (g:A) (S:Nat->Bool) (k:Nat):Nat:=((List.range k).filter λ v=>decide (g.m < v) && S v).length
structure TabOf (g f:A) (T:List Nat) (D:Nat->Prop):Prop where
 wf:f.WF
 m:f.m=g.m
 outs:f.outs= []
 len:T.length=g.N
 ok: ∀v,v < g.N->(v<=g.m\/D v)->T.getD v 0 / 2 < f.N/\∀x,f.lv x (T.getD v 0)=g.val x v
theorem TabOf.start (g:A):TabOf g (lT g.m) (tabIn g.N g.m) (λ y=>False):=
 ⟨D1 _,rfl,rfl,lh _ _,λ v hv h=>by
  have hm:v<=g.m:=h.elim id False.elim
  rw [iR _ _ _ hm hv]
  have e:2*v / 2=v:=by lia
  refine ⟨by rw [e,ni]; exact Nat.lt_succ_of_le hm,λ x=>?_⟩
  rw [A.tM]
  by_cases h0:v=0
  ·subst h0; rw [A.val_zero,A.val_zero]
  ·rw [A.vH (by lia) (show v<=(lT g.m).m from hm),A.vH (by lia) hm]⟩
theorem TabOf.mono {g f:A} {T:List Nat} {D D':Nat->Prop} (h:TabOf g f T D) (hd: ∀v,v < g.N->g.m < v->D' v->D v):TabOf g f T D':=
 ⟨h.wf,h.m,h.outs,h.len,λ v hv hh=>h.ok v hv (by
  by_cases c:v<=g.m
  ·exact .inl c
  ·exact hh.elim .inl λ q=> .inr (hd v hv (by exact Nat.lt_of_not_le c) q))⟩
theorem TabOf.set {g f f':A} {T:List Nat} {D:Nat->Prop} (h:TabOf g f T D) {k lit:Nat} (hk:k < g.N) (le:Le f f') (wf:f'.WF) (lt:lit / 2 < f'.N) (hv: ∀x,f'.lv x lit=g.val x k):
  TabOf g f' (T.set k lit) (λ v=>D v\/v=k):=
 ⟨wf,le.m.trans h.m,le.outs.trans h.outs,by simpa using h.len,λ v DV hh=>by
  rw [aM]
  by_cases e:k=v
  ·subst e
   rw [if_pos ⟨rfl,by rw [h.len]; exact hk⟩]
   exact ⟨lt,hv⟩
  ·rw [if_neg (λ q=>e q.1)]
   have:=h.ok v DV (by rcases hh with q | q | q; exact .inl q; exact .inr q; exact absurd q.symm e)
   exact ⟨Nat.lt_of_lt_of_le this.1 le.N,λ z=>by rw [le.lv z this.1]; exact this.2 z⟩⟩
theorem TabOf.moved {g f:A} {T:List Nat} {D:Nat->Prop} (h:TabOf g f T D) {l:Nat} (hl:l / 2 < g.N) (hd:l / 2<=g.m\/D (l / 2)):
  (T.getD (l / 2) 0 ^^^ l % 2) / 2 < f.N/\∀x,f.lv x (T.getD (l / 2) 0 ^^^ l % 2)=g.lv x l:=by
 have:=h.ok _ hl hd
 refine ⟨by rw [A.bu]; exact this.1,λ x=>?_⟩
 rw [A.jZ,this.2]; rfl
theorem cC.of {g f g':A} {T:List Nat} {D:Nat->Prop} (h:TabOf g f T D) (hd: ∀o∈g.outs,o / 2<=g.m\/D (o / 2)) (w:g.WF) (s:nG {f with outs:=fE g T g.outs} g'):cC g g':=by
 obtain ⟨τ,e,hτ⟩:=s.outs
 refine ⟨s.wf,s.m.trans h.m,λ o=>τ (T.getD (o / 2) 0 ^^^ o % 2),?_,λ o ho x=>?_⟩
 ·rw [e]; simp [fE]
 ·have h1:=(hτ _ (List.mem_map_of_mem ho)).1 x
  rw [h1,A.F5]
  exact (h.moved (w.outs o ho) (hd o ho)).2 x
structure pQ (g f:A) (S:Nat->Bool) (T:List Nat) (D:Nat->Prop) (bX:List Nat):Prop where
 tab: ∀v,v < g.N->(v<=g.m\/D v)->S v=true->T.getD v 0 / 2∈bX\/T.getD v 0 / 2<=g.m
 kids: ∀u∈bX,∀l r,f.pair u=some (l,r)->(l / 2∈bX\/l / 2<=g.m)/\(r / 2∈bX\/r / 2<=g.m)
 lt: ∀u∈bX,u < f.N
theorem pQ.closed {g f:A} {S:Nat->Bool} {T:List Nat} {D:Nat->Prop} {bX:List Nat} (h:pQ g f S T D bX) (hm:f.m=g.m):A.cp f λ u=>u∈bX\/u<=g.m:=by
 intro v l r hv hp
 rcases hv with hv | hv
 ·exact h.kids v hv l r hp
 ·have:=(A.bt hp).2; lia
theorem pQ.grow {g f f':A} {S:Nat->Bool} {T:List Nat} {D:Nat->Prop} {bX:List Nat} (h:pQ g f S T D bX) (le:Le f f'):pQ g f' S T D bX:=
 ⟨h.tab,λ u hu l r hp=>h.kids u hu l r (by rw [<- le.pair (h.lt u hu)]; exact hp),λ u hu=>Nat.lt_of_lt_of_le (h.lt u hu) le.N⟩
theorem pQ.cnt {g f g':A} {S:Nat->Bool} {T:List Nat} {D:Nat->Prop} {bX:List Nat} (h:pQ g f S T D bX) (ht:TabOf g f T D) (w:g.WF) (hd: ∀o∈g.outs,o / 2<=g.m\/D (o / 2)) (hS: ∀o∈g.outs,S (o / 2)=true)
  (s:nG {f with outs:=fE g T g.outs} g'):g'.ands.length<=bX.length:=by
 refine s.cnt (λ u=>u∈bX\/u<=g.m) (λ v l r hv hp=>h.closed ht.m v l r hv hp) ?_ bX λ u hu h1 h2=>hu.resolve_right (by have:({f with outs:=fE g T g.outs}:A).m=g.m:=ht.m; lia)
 intro o ho
 obtain ⟨o',KD,rfl⟩:=List.mem_map.mp ho
 rw [A.bu]
 exact h.tab _ (w.outs _ KD) (hd _ KD) (hS _ KD)
theorem kh (g:A) (S:Nat->Bool) (k:Nat):fP g S (k+1)=fP g S k+if g.m < k/\S k=true then 1 else 0:=by
 unfold fP; rw [m6]
 congr 1
 by_cases c:g.m < k <;> by_cases d:S k=true <;> simp [c,d]
structure tS (g:A) (k:Nat) (f:A) (T:List Nat):Prop where
 tab:TabOf g f T (· < k)
 N:f.N<=g.m+1+k
 bX: ∀S:Nat->Bool,A.cp g (S · =true)->∃bX,pQ g f S T (· < k) bX/\bX.length<=fP g S k
theorem tS.start (g:A):tS g 0 (lT g.m) (tabIn g.N g.m):=
 ⟨(TabOf.start g).mono λ v x x h=>absurd h (Nat.not_lt_zero _),by rw [ni]; exact Nat.le_add_right (g.m+1) 0,λ S x=>⟨[],⟨λ v hv h x=> .inr (by
  have hm:v<=g.m:=h.elim id λ h=>absurd h (Nat.not_lt_zero _)
  rw [iR _ _ _ hm hv]; lia),(λ x h=>nomatch h),(λ x h=>nomatch h)⟩,Nat.zero_le _⟩⟩
theorem tS.skip {g f:A} {k:Nat} {T:List Nat} (h:tS g k f T) (hp:g.pair k=none):tS g (k+1) f T:=by
 have key: ∀v,v < g.N->g.m < v->v < k+1->v < k:=λ v hv hm hk=>by
  by_cases e:v=k
  ·subst e; obtain ⟨_,_,q⟩:=A.d0 hm hv; rw [hp] at q; cases q
  ·lia
 refine ⟨h.tab.mono key,by have:=h.N; exact Nat.le_succ_of_le this,λ S hS=>?_⟩
 obtain ⟨bX,hi,hc⟩:=h.bX S hS
 refine ⟨bX,⟨λ v hv hh=>hi.tab v hv ?_,hi.kids,hi.lt⟩,by rw [kh]; exact Nat.le_add_right_of_le hc⟩
 by_cases c:v<=g.m
 ·exact .inl c
 ·exact hh.elim .inl λ q=> .inr (key v hv (by exact Nat.lt_of_not_le c) q)
theorem tS.step {g f f':A} {k x y lit:Nat} {T:List Nat} (w:g.WF) (h:tS g k f T) (hp:g.pair k=some (x,y)) (hm:lY f (T.getD (x / 2) 0 ^^^ x % 2) (T.getD (y / 2) 0 ^^^ y % 2) lit f'):tS g (k+1) f' (T.set k lit):=by
 have hk:=w.kids hp
 have hN:=A.bt hp
 have mx:=h.tab.moved (l:=x) (by lia) (.inr hk.1)
 have my:=h.tab.moved (l:=y) (by lia) (.inr hk.2)
 refine ⟨(h.tab.set hN.1 hm.le hm.wf hm.lt λ z=>by rw [hm.val,mx.2,my.2,A.fN w hp]).mono λ v j j q=>by exact Nat.lt_succ_iff_lt_or_eq.mp q,by have:=h.N; have:=hm.grow; lia,λ S hS=>?_⟩
 obtain ⟨bX,hi,hc⟩:=h.bX S hS
 have hg:=hi.grow hm.le
 have I2: ∀v,v < g.N->(v<=g.m\/v < k+1)->v≠k->S v=true->(T.set k lit).getD v 0 / 2∈bX\/(T.set k lit).getD v 0 / 2<=g.m:=by
  intro v hv hh eS hs
  rw [aM,if_neg (λ q=>eS q.1.symm)]
  exact hi.tab v hv (hh.elim .inl λ q=> .inr (by lia)) hs
 by_cases c:S k=true
 ·have T6:=hS k x y c hp
  have px:=hi.tab (x / 2) (by lia) (.inr hk.1) T6.1
  have py:=hi.tab (y / 2) (by lia) (.inr hk.2) T6.2
  have wo:=hi.closed h.tab.m
  have Z2:=hm.bX (λ u=>u∈bX\/u<=g.m) wo (.inr (Nat.zero_le _)) (by rw [A.bu]; exact px) (by rw [A.bu]; exact py)
  have DQ:k < T.length:=by rw [h.tab.len]; exact hN.1
  rcases Z2 with Z2 | ⟨l',r',jL,h1,h2⟩
  ·refine ⟨bX,⟨λ v hv hh hs=>?_,hg.kids,hg.lt⟩,by rw [kh]; exact Nat.le_add_right_of_le hc⟩
   by_cases e:v=k
   ·subst e; rw [aM,if_pos ⟨rfl,DQ⟩]; exact Z2
   ·exact I2 v hv hh e hs
  ·refine ⟨lit / 2::bX,⟨λ v hv hh hs=>?_,λ u hu l r NR=>?_,λ u hu=>?_⟩,by rw [kh,if_pos ⟨hN.2,c⟩]; simp; assumption⟩
   ·by_cases e:v=k
    ·subst e; rw [aM,if_pos ⟨rfl,DQ⟩]; exact .inl (.head _)
    ·exact (I2 v hv hh e hs).imp (.tail _) id
   ·rcases List.mem_cons.mp hu with rfl | hu
    ·rw [jL] at NR; cases NR
     exact ⟨h1.imp (.tail _) id,h2.imp (.tail _) id⟩
    ·have:=hg.kids u hu l r NR
     exact ⟨this.1.imp (.tail _) id,this.2.imp (.tail _) id⟩
   ·rcases List.mem_cons.mp hu with rfl | hu
    ·exact hm.lt
    ·exact hg.lt u hu
 ·refine ⟨bX,⟨λ v hv hh hs=>I2 v hv hh (λ e=>c (e▸hs)) hs,hg.kids,hg.lt⟩,by rw [kh]; exact Nat.le_add_right_of_le hc⟩
section
variable {n a r t:Nat} {g:A} {K:PF}
theorem Eb (w:g.WF) (hN:g.N < 2000) (pM:a≠r) (d9:a≠t) (lL:r≠t) {all:List V} (hit: ∀H,itemsOf H (.range 0 (g.N:Int) false)=some all): ∀(d k:Nat) (f:A) (T:List Nat) (H H₀:Hp) (o3 o4:Option V),k+d=g.N->H a=some g.obj->
  H r=some f.obj->H t=some (.list (ae T))->(∀b o,b≠r->b≠t->H₀ b=some o->H b=some o)->tS g k f T->
  (∀H' f T o3 o4,H' a=some g.obj->H' r=some f.obj->H' t=some (.list (ae T))->(∀b o,b≠r->b≠t->H₀ b=some o->H' b=some o)->tS g g.N f T->
   K .next ⟨[some (.ref a),some (.ref r),some (.ref t),o3,o4],H'⟩)->
  aC (au prog (n+3)) (.inr 3) L_rewrite_local_0 (.range 0 (g.N:Int) false) all K (ae (List.range' k d)) ⟨[some (.ref a),some (.ref r),some (.ref t),o3,o4],H⟩:=by
 intro d
 induction d with
 | zero=>
  intro k f T H H₀ o3 o4 hk hG hr ht hE hI fin
  have:k=g.N:=by assumption
  subst this
  exact fin H f T _ _ hG hr ht hE hI
 | succ d ih=>
  intro k f T H H₀ o3 o4 hk hG hr ht hE hI fin
  rw [List.range'_succ]
  show aC _ (.inr 3) L_rewrite_local_0 _ _ K (nV k::ae (List.range' (k+1) d)) _
  have pN:k < g.N:=by lia
  simp only [mach,ops,ops2,loops,L_rewrite_local_0,aw hG 0 (by decide),aO hG pN]
  cases hp:g.pair k with
  | none=>
   simp only [mach,loops,Option.isSome_none,Bool.false_eq_true,if_false,hit,true_and]
   exact ih (k+1) f T H H₀ _ _ (by lia) hG hr ht hE (hI.skip hp) fin
  | some p=>
   obtain ⟨x,y⟩:=p
   have uD:=w.kids hp
   have hx:x / 2 < T.length:=by rw [hI.tab.len]; lia
   have hy:y / 2 < T.length:=by rw [hI.tab.len]; lia
   simp only [mach,ops,ops2,Option.isSome_some,cT,if_true]
   refine j0 ht hx ?_
   simp only [mach,ops2,ai]
   refine j0 ht hy ?_
   simp only [mach,ai]
   have mx:=hI.tab.moved (l:=x) (by lia) (.inr uD.1)
   have my:=hI.tab.moved (l:=y) (by lia) (.inr uD.2)
   have WG:g.m < g.N:=by unfold A.N; lia
   refine hU hr hI.tab.wf (by have:=hI.N; lia) mx.1 my.1 λ lit f' hm=>?_
   have C7:upd H r f'.obj t=some (.list (ae T)):=(ao H _ (Ne.symm lL)).trans ht
   have DQ:k < T.length:=by rw [hI.tab.len]; exact pN
   simp only [mach,loops,eP C7 DQ,hit,true_and]
   refine ih (k+1) f' (T.set k lit) _ H₀ _ _ (by lia) ?_ ?_ (ah _ _ _) ?_ (hI.step w hp hm) fin
   ·exact (ao _ _ d9).trans ((ao _ _ pM).trans hG)
   ·exact (ao _ _ lL).trans (ah _ _ _)
   ·exact λ b o h1 h2 e=>(ao _ _ h2).trans ((ao _ _ h1).trans (hE b o h1 h2 e))
theorem j3 {H:Hp} {Q:V->Hp->Prop} (hG:H a=some g.obj) (w:g.WF) (hN:g.N < 2000) (hO:g.outs.length < 1000)
  (k: ∀s g' H',Ext H H'->H s= .none->H' s=some g'.obj->cC g g'->(∀S:Nat->Bool,A.cp g (S · =true)->(∀o∈g.outs,S (o / 2)=true)->g'.ands.length<=fP g S g.N)->Q (.ref s) H'):
  au prog (n+4) sP [.ref a] Q H:=by
 refine aj gp [some (.ref a), .none, .none, .none, .none] rfl rfl ?_
 show Xs _ dI _ _
 simp only [mach,dI]
 refine pK hG (by lia) λ r t H1 x1 fr ft lL Ua C7=>?_
 have cF:=x1 _ _ hG
 have bz:g.N<=lim:=by unfold lim; lia
 simp only [mach,List.length_cons,List.length_nil,true_and,aw cF 0 (by decide),bj cF]
 rw [bO bz,aX aJ,List.range_eq_range']
 have pM:a≠r:=ak hG fr
 have d9:a≠t:=ak hG ft
 refine Eb w hN pM d9 lL (λ x=>aJ.trans (by rw [List.range_eq_range'])) g.N 0 _ _ H1 H1 _ _ (by exact Nat.zero_add g.N) cF Ua C7 (λ x x x x e=>e) (tS.start g) λ H2 f T o3 o4 dk hr2 YJ hE2 hI=>?_
 simp only [mach,ai]
 have Kw: ∀o∈g.outs,o / 2<=g.m\/o / 2 < g.N:=λ o ho=> .inr (w.outs o ho)
 have WG:g.m < g.N:=by unfold A.N; lia
 refine finish_ok dk w hO hr2 YJ hI.tab.len hI.tab.outs hI.tab.wf (by have:=hI.N; lia) (λ o ho=>(hI.tab.ok _ (w.outs o ho) (Kw o ho)).1) pM lL λ s g' H3 A1 fs es hs=>?_
 simp only [mach,ai]
 have Fy: ∀b o,H b=some o->b≠r/\b≠t:=λ b o e=>⟨ak e fr,ak e ft⟩
 refine k s g' H3 (λ b o e=>A1 b o (Fy b o e).1 (hE2 b o (Fy b o e).1 (Fy b o e).2 (x1 _ _ e))) ?_ es (cC.of hI.tab Kw w hs) λ S hS ho=>?_
 ·cases q:H s with
  | none=>rfl
  | some o=>rw [hE2 s o (Fy s o q).1 (Fy s o q).2 (x1 _ _ q)] at fs; cases fs
 ·obtain ⟨bX,hi,hc⟩:=hI.bX S hS
  exact Nat.le_trans (hi.cnt hI.tab w Kw ho hs) hc
end
end
section
open A
section
variable {Q:PV} {QB:PB} {QF:PF} {l:List (Option V)} {H:Hp} {a:Nat}
theorem lr {xs:List V} (h:H a=some (.list xs)):gG (.ref a) QB ⟨l,H⟩=QB (!xs.isEmpty) ⟨l,H⟩:=by
 show (match truth H (.ref a) with | some b=>QB b ⟨l,H⟩ | .none=>False)=_
 rw [show truth H (.ref a)=some (!xs.isEmpty) from congrArg (λ o=>truth (λ z=>o) (.ref a)) h]
theorem pop_list {ys:List V} {v:V} (h:H a=some (.list (ys++ [v]))):(lV .pop H (.ref a)/\xH .pop (.ref a) [] Q ⟨l,H⟩)=Q v ⟨l,upd H a (.list ys)⟩:=by rw [kX (m:= .pop) (dN h)]; unfold xH; simp [h]
theorem cg {op:Op} {x y:Nat}:jR op (nV x) (nV y) Q ⟨l,H⟩=cw op (nV x) (nV y) Q ⟨l,H⟩:=by cases op <;> rfl
end
theorem ic (g:A):g.aZ=(List.range g.N).map λ v=>cT (g.pair v):=by
 refine List.ext_getElem (by rw [bA]; simp) λ i h1 h2=>?_
 rw [bA] at h1
 have:=xK g h1
 rw [zF,List.getElem?_eq_getElem (by rw [bA]; exact h1)] at this
 simp at this ⊢; exact this
noncomputable def kids (p:Option (Nat×Nat)):List Nat:=match p with | some (x,y)=> [x,y] | none=> []
noncomputable def oI (g:A) (k d:Nat):List Nat:=(List.range' k d).flatMap λ v=>kids (g.pair v)
noncomputable def lits (g:A):List Nat:=oI g 0 g.N
noncomputable def aS (l:List Nat):List Nat:=l.map (· / 2)
noncomputable def eQ (N:Nat) (seen:List Nat):List Nat:=(List.range N).map λ v=>seen.count v
theorem dU (N:Nat) (seen:List Nat):(eQ N seen).length=N:=by simp [eQ]
theorem jT {N:Nat} (seen:List Nat) {v:Nat} (h:v < N):(eQ N seen).getD v 0=seen.count v:=by
 rw [List.getD_eq_getElem?_getD,List.getElem?_eq_getElem (by simpa [eQ] using h)]; simp [eQ]
theorem qT {N:Nat} (seen:List Nat) {v:Nat} (h:v < N):(eQ N seen).set v (seen.count v+1)=eQ N (seen++ [v]):=by
 refine List.ext_getElem (by simp [eQ]) λ i h1 h2=>?_
 simp only [eQ,List.getElem_set,List.getElem_map,List.getElem_range,List.count_append,List.count_singleton]
 by_cases e:v=i
 ·subst e; simp
 ·simp [e]
theorem JL (N:Nat):List.replicate N 0=eQ N []:=by
 refine List.ext_getElem (by simp [eQ]) λ i h1 h2=>?_
 simp [eQ]
theorem nk {g:A} {v x y:Nat} (hp:g.pair v=some (x,y)):x∈lits g/\y∈lits g:=by
 have hv:=(A.bt hp).1
 constructor <;> refine List.mem_flatMap.mpr ⟨v,by simp [hv],by simp [kids,hp]⟩
theorem nu {g:A} {l:Nat} (h:l∈lits g): ∃v x y,g.pair v=some (x,y)/\(l=x\/l=y):=by
 obtain ⟨v,_,h⟩:=List.mem_flatMap.mp h
 cases hp:g.pair v with
 | none=>rw [hp] at h; simp [kids] at h
 | some p=>obtain ⟨x,y⟩:=p; rw [hp] at h; simp [kids] at h; exact ⟨v,x,y,hp,h⟩
noncomputable def P0 (g:A) (v:Nat):Nat:=(aS (lits g)++aS g.outs).count v
section
variable {n a t:Nat} {g:A} {K:PF} {C:CT}
theorem yt (w:g.WF) (d9:a≠t): ∀(d k:Nat) (H H₀:Hp) (o2 o3:Option V),k+d=g.N->H a=some g.obj->H t=some (.list (ae (eQ g.N (aS (oI g 0 k)))))->ExtBut t H₀ H->
  (∀H' o2 o3,H' a=some g.obj->H' t=some (.list (ae (eQ g.N (aS (lits g)))))->ExtBut t H₀ H'->K .next ⟨[some (.ref a),some (.ref t),o2,o3],H'⟩)->
  aC C (.inr 2) L_use_counts_0 (.part a 0) g.aZ K ((List.range' k d).map λ v=>cT (g.pair v)) ⟨[some (.ref a),some (.ref t),o2,o3],H⟩:=by
 intro d
 induction d with
 | zero=>
  intro k H H₀ o2 o3 hk hG ht hE fin
  have:k=g.N:=by assumption
  subst this
  exact fin H o2 o3 hG ht hE
 | succ d ih=>
  intro k H H₀ o2 o3 hk hG ht hE fin
  rw [List.range'_succ,List.map_cons]
  have hl:oI g 0 (k+1)=oI g 0 k++kids (g.pair k):=by
   unfold oI; rw [List.range'_concat]; simp
  cases hp:g.pair k with
  | none=>
   rw [hp] at hl
   simp only [mach,ops,loops,cT,L_use_counts_0,aT hG,true_and,Bool.false_eq_true,if_false]
   refine ih (k+1) H H₀ _ _ (by lia) hG ?_ hE fin
   rw [hl]; simpa [kids] using ht
  | some p=>
   obtain ⟨x,y⟩:=p
   rw [hp] at hl
   have uD:=w.kids hp
   have hN:=(A.bt hp).1
   have hx:x / 2 < (eQ g.N (aS (oI g 0 k))).length:=by rw [dU]; lia
   have t1:upd H t (.list (ae (eQ g.N (aS (oI g 0 k)++ [x / 2])))) t=some (.list (ae (eQ g.N (aS (oI g 0 k)++ [x / 2])))):=ah _ _ _
   have hy:y / 2 < (eQ g.N (aS (oI g 0 k)++ [x / 2])).length:=by rw [dU]; lia
   have cF: ∀o,upd H t o a=some g.obj:=λ o=>(ao _ _ d9).trans hG
   simp only [mach,ops,ops2,loops,cT,L_use_counts_0,aF,Bool.true_eq_false,if_true]
   have s0: ∀(Q:PV) l H,b7 (.tup [nV x,nV y]) (nV 0) Q ⟨l,H⟩=Q (nV x) ⟨l,H⟩:=λ Q l H=>bI rfl
   have s1: ∀(Q:PV) l H,b7 (.tup [nV x,nV y]) (nV 1) Q ⟨l,H⟩=Q (nV y) ⟨l,H⟩:=λ Q l H=>bI rfl
   simp only [mach,ops,ops2,s0,s1,bD ht hx,cg,eP ht hx,jT _ (show x / 2 < g.N by lia),qT _ (show x / 2 < g.N by lia)]
   simp only [mach,ops,loops,bD t1 hy,cg,eP t1 hy,jT _ (show y / 2 < g.N by lia),qT _ (show y / 2 < g.N by lia),cZ,aT (cF _),true_and]
   refine ih (k+1) _ H₀ _ _ (by lia) (cF _) ?_ (hE.trans (.upd _ _ _)) fin
   rw [ah,hl]; simp [kids,aS]
theorem yu (w:g.WF) (d9:a≠t): ∀(todo dn:List Nat) (H H₀:Hp) (o2 o3:Option V),dn++todo=g.outs->H a=some g.obj->H t=some (.list (ae (eQ g.N (aS (lits g)++aS dn))))->ExtBut t H₀ H->
  (∀H' o2 o3,H' t=some (.list (ae (eQ g.N (aS (lits g)++aS g.outs))))->ExtBut t H₀ H'->K .next ⟨[some (.ref a),some (.ref t),o2,o3],H'⟩)->
  aC C (.inr 3) L_use_counts_1 (.part a 2) (ae g.outs) K (ae todo) ⟨[some (.ref a),some (.ref t),o2,o3],H⟩:=by
 intro todo
 induction todo with
 | nil=>
  intro dn H H₀ o2 o3 hd hG ht hE fin
  rw [List.append_nil] at hd; subst hd
  exact fin H _ _ ht hE
 | cons o todo ih=>
  intro dn H H₀ o2 o3 hd hG ht hE fin
  have hm:o∈g.outs:=hd▸List.mem_append_right _ (.head _)
  have WK:=w.outs o hm
  have dz:o / 2 < (eQ g.N (aS (lits g)++aS dn)).length:=by rw [dU]; exact WK
  have cF: ∀o,upd H t o a=some g.obj:=λ o=>(ao _ _ d9).trans hG
  show aC _ (.inr 3) L_use_counts_1 _ _ K (nV o::ae todo) _
  simp only [mach,ops,ops2,loops,L_use_counts_1,bD ht dz,cg,eP ht dz,jT _ WK,qT _ WK,aQ (cF _),true_and]
  refine ih (dn++ [o]) _ H₀ _ _ (by simp [hd]) (cF _) ?_ (hE.trans (.upd _ _ _)) fin
  rw [ah]; simp [aS]
theorem oO {H:Hp} {Q:V->Hp->Prop} (hG:H a=some g.obj) (w:g.WF) (hN:g.N < 10000)
  (k: ∀t H',Ext H H'->H t= .none->H' t=some (.list (ae (eQ g.N (aS (lits g)++aS g.outs))))->Q (.ref t) H'):au prog (n+1) y5 [.ref a] Q H:=by
 refine aj kM [some (.ref a), .none, .none, .none] rfl rfl ?_
 show Xs _ gW _ _
 simp only [mach,gW]
 refine aq λ t0 H0 f0 e0 x0=>?_
 have qo:=x0 _ _ hG
 have bz:g.N<=lim:=by unfold lim; lia
 simp only [mach,aw qo 0 (by decide),bj qo,mul_list e0 bz,qG,JL]
 refine aq λ t H1 f1 e1 x1=>?_
 have cF:=x1 _ _ qo
 simp only [mach,aw cF 0 (by decide)]
 rw [aX (aT cF)]
 have d9:a≠t:=ak qo f1
 have:=yt (C:=au prog n) (K:=lU (au prog n) [.bL 3 (.attr (.var 0) 2) L_use_counts_1, .ret (.var 1)] (d8 Q)) w d9 g.N 0 H1 H1 .none .none (by exact Nat.zero_add g.N) cF e1 (.refl _ _) ?_
 ·rw [<- List.range_eq_range',<- ic] at this; exact this
 intro H2 o2 o3 dk e2 x2
 simp only [mach,aw dk 2 (by decide)]
 rw [aX (aQ dk)]
 refine yu w d9 g.outs [] H2 H2 _ _ rfl dk (by simpa [aS] using e2) (.refl _ _) λ H3 o2 o3 e3 x3=>?_
 simp only [mach,ai]
 exact k t H3 (x0.trans (((x1.but t).trans (x2.trans x3)).ext f1)) (bg x0 f1) e3
end
noncomputable def N7 (g:A) (v:Nat):Prop:=2*v∈lits g/\P0 g v=1/\(g.pair v).isSome=true
structure bW (g:A) (B:List Bool):Prop where
 len:B.length=g.N
 ok: ∀v,B.getD v false=true->N7 g v
section
variable {n a c t:Nat} {g:A} {K:PF} {C:CT}
set_option tactic.hygienic true in
theorem ot {l:Nat} {B:List Bool} {H:Hp} {o3 o5:Option V} (w:g.WF) (hl:l∈lits g) (hG:H a=some g.obj) (hc:H c=some (.list (ae (eQ g.N (aS (lits g)++aS g.outs))))) (ht:H t=some (.list (aR B))) (hB:bW g B)
  (fin: ∀H' B' o5,ExtBut t H H'->H' t=some (.list (aR B'))->bW g B'->K .next ⟨[some (.ref a),some (.ref c),some (.ref t),o3,some (nV l),o5],H'⟩):
  Xs C L_absorbed_nodes_1 K ⟨[some (.ref a),some (.ref c),some (.ref t),o3,some (nV l),o5],H⟩:=by
 obtain ⟨u,x,y,hp,NV⟩:=nu hl
 have hk:=w.kids hp
 have hu:=(A.bt hp).1
 have T7:l / 2 < g.N:=by rcases NV with rfl | rfl <;> lia
 have YB:l / 2 < (eQ g.N (aS (lits g)++aS g.outs)).length:=by rw [dU]; exact T7
 have Z8:l / 2 < B.length:=by rw [hB.len]; exact T7
 simp only [mach,ops,ops2,L_absorbed_nodes_1]
 refine aL (λ c1=>?_) λ c1=>?_
 ·simp only [mach,ops,c1,if_true,bD hc YB,jT _ T7]
  refine aL (λ c2=>?_) λ c2=>?_
  ·simp only [mach,ops,ops2,c2,if_true,aw hG 0 (by decide),aO hG T7]
   refine aL (λ c3=>?_) λ c3=>?_
   ·simp only [mach,c3,if_true,d6 ht Z8]
    refine fin _ (B.set (l / 2) true) _ (.upd _ _ _) (ah _ _ _) ⟨by simpa using hB.len,λ v hv=>?_⟩
    rw [aM] at hv
    split at hv
    ·rename_i e; rw [<- e.1]
     exact ⟨by rw [show 2*(l / 2)=l by lia]; exact hl,c2,c3⟩
    ·exact hB.ok v hv
   ·simp only [mach,c3,if_false]
    exact fin H B _ (.refl _ _) ht hB
  ·simp only [mach,c2,if_false]
   exact fin H B _ (.refl _ _) ht hB
 ·simp only [mach,c1,if_false]
  exact fin H B _ (.refl _ _) ht hB
theorem vO (w:g.WF) (d9:a≠t) (Kt:c≠t): ∀(d k:Nat) (B:List Bool) (H H₀:Hp) (o3 o4 o5:Option V),k+d=g.N->H a=some g.obj->H c=some (.list (ae (eQ g.N (aS (lits g)++aS g.outs))))->H t=some (.list (aR B))->bW g B->ExtBut t H₀ H->
  (∀H' B' o3 o4 o5,H' t=some (.list (aR B'))->bW g B'->ExtBut t H₀ H'->K .next ⟨[some (.ref a),some (.ref c),some (.ref t),o3,o4,o5],H'⟩)->
  aC C (.inr 3) L_absorbed_nodes_0 (.part a 0) g.aZ K ((List.range' k d).map λ v=>cT (g.pair v)) ⟨[some (.ref a),some (.ref c),some (.ref t),o3,o4,o5],H⟩:=by
 intro d
 induction d with
 | zero=>
  intro k B H H₀ o3 o4 o5 hk hG hc ht hB hE fin
  exact fin H B o3 o4 o5 ht hB hE
 | succ d ih=>
  intro k B H H₀ o3 o4 o5 hk hG hc ht hB hE fin
  rw [List.range'_succ,List.map_cons]
  cases hp:g.pair k with
  | none=>
   simp only [mach,ops,loops,cT,L_absorbed_nodes_0,aT hG,true_and,if_true]
   exact ih (k+1) B H H₀ _ _ _ (by lia) hG hc ht hB hE fin
  | some p=>
   obtain ⟨x,y⟩:=p
   have hm:=nk hp
   simp only [mach,ops,loops,cT,L_absorbed_nodes_0,aF,Bool.false_eq_true,if_false]
   rw [aX (aH _)]
   simp only [mach,loops,ai]
   refine ot w hm.1 hG hc ht hB λ H1 B1 o5' x1 t1 hB1=>?_
   have cF:=x1 _ _ d9 hG
   have TR:=x1 _ _ Kt hc
   simp only [mach,loops,aH,true_and]
   refine ot w hm.2 cF TR t1 hB1 λ H2 B2 aaH x2 t2 hB2=>?_
   have dk:=x2 _ _ d9 cF
   simp only [mach,loops,aH,true_and,aT dk]
   exact ih (k+1) B2 H2 H₀ _ _ _ (by lia) dk (x2 _ _ Kt TR) t2 hB2 (hE.trans (x1.trans x2)) fin
theorem Aj {H:Hp} {Q:V->Hp->Prop} (hG:H a=some g.obj) (w:g.WF) (hN:g.N < 10000) (hc:H c=some (.list (ae (eQ g.N (aS (lits g)++aS g.outs)))))
  (k: ∀t B H',Ext H H'->H t= .none->H' t=some (.list (aR B))->bW g B->Q (.ref t) H'):au prog (n+1) rv [.ref a, .ref c] Q H:=by
 refine aj fg [some (.ref a),some (.ref c), .none, .none, .none, .none] rfl rfl ?_
 show Xs _ di _ _
 simp only [mach,di]
 refine aq λ t0 H0 f0 e0 x0=>?_
 have qo:=x0 _ _ hG
 have bz:g.N<=lim:=by unfold lim; lia
 simp only [mach,aw qo 0 (by decide),bj qo,mul_list e0 bz,rM]
 refine aq λ t H1 f1 e1 x1=>?_
 have cF:=x1 _ _ qo
 have TR:=x1 _ _ (x0 _ _ hc)
 simp only [mach,aw cF 0 (by decide)]
 rw [aX (aT cF)]
 have d9:a≠t:=ak qo f1
 have Kt:c≠t:=ak (x0 _ _ hc) f1
 have:=vO (C:=au prog n) (K:=lU (au prog n) [.ret (.var 2)] (d8 Q)) w d9 Kt g.N 0 _ H1 H1 .none .none .none (by exact Nat.zero_add g.N) cF TR e1
  ⟨by exact List.length_replicate,λ v hv=>by simp [List.getD_eq_getElem?_getD,List.getElem?_replicate] at hv; split at hv <;> simp at hv⟩ (.refl _ _) ?_
 ·rw [<- List.range_eq_range',<- ic] at this; exact this
 intro H2 B o3 o4 o5 e2 hB x2
 simp only [mach,ai]
 exact k t B H2 (x0.trans (((x1.but t).trans x2).ext f1)) (bg x0 f1) e2 hB
end
end
section
open A
noncomputable def J2 (g:A) (B:List Bool) (l:Nat) (f: ∀u,u / 2 < l / 2->List Nat):List Nat:=
 if l % 2=0/\B.getD (l / 2) false=true then
  match g.pair (l / 2) with
  | some (x,y)=>if h:x / 2 < l / 2/\y / 2 < l / 2 then f x h.1++f y h.2 else [l]
  | none=> [l]
 else [l]
noncomputable def expand (g:A) (B:List Bool):Nat->List Nat:=WellFounded.fix (InvImage.wf (· / 2) Nat.lt_wfRel.wf) (J2 g B)
theorem w8 (g:A) (B:List Bool) (l:Nat):expand g B l=J2 g B l λ u z=>expand g B u:=WellFounded.fix_eq (InvImage.wf (· / 2) Nat.lt_wfRel.wf) (J2 g B) l
noncomputable def leaves (g:A) (B:List Bool) (v:Nat):List Nat:=match g.pair v with
 | some (x,y)=>expand g B x++expand g B y
 | none=> []
section
variable {g:A} {B:List Bool}
theorem dR (w:g.WF) {l x y:Nat} (h1:l % 2=0) (h2:B.getD (l / 2) false=true) (hp:g.pair (l / 2)=some (x,y)):expand g B l=expand g B x++expand g B y:=by
 rw [w8,J2,if_pos ⟨h1,h2⟩,hp]; simp [w.kids hp]
theorem dc {l:Nat} (h: ¬(l % 2=0/\B.getD (l / 2) false=true)):expand g B l= [l]:=by rw [w8,J2,if_neg h]
theorem qh (w:g.WF) (hB:bW g B) (l:Nat):(¬(l % 2=0/\B.getD (l / 2) false=true)/\expand g B l= [l])\/
  ∃x y,l % 2=0/\B.getD (l / 2) false=true/\g.pair (l / 2)=some (x,y)/\expand g B l=expand g B x++expand g B y:=by
 by_cases h:l % 2=0/\B.getD (l / 2) false=true
 ·obtain ⟨_,_,h3⟩:=hB.ok _ h.2
  obtain ⟨⟨x,y⟩,hp⟩:=Option.isSome_iff_exists.mp h3
  exact .inr ⟨x,y,h.1,h.2,hp,dR w h.1 h.2 hp⟩
 ·exact .inl ⟨h,dc h⟩
theorem iH (w:g.WF) (hB:bW g B) {P:Nat->Prop} (leaf: ∀l,¬(l % 2=0/\B.getD (l / 2) false=true)->P l)
  (node: ∀l x y,l % 2=0->B.getD (l / 2) false=true->g.pair (l / 2)=some (x,y)->P x->P y->P l): ∀l,P l:=by
 intro l
 generalize hv:l / 2=v
 induction v using Nat.strongRecOn generalizing l with
 | ind v ih=>
  rcases qh w hB l with ⟨h,_⟩ | ⟨x,y,h1,h2,hp,_⟩
  ·exact leaf l h
  ·have:=w.kids hp
   exact node l x y h1 h2 hp (ih (x / 2) (by lia) x rfl) (ih (y / 2) (by lia) y rfl)
theorem uq (w:g.WF) (hB:bW g B) (z:Nat->Bool) (l:Nat):(expand g B l).all (g.lv z)=g.lv z l:=by
 induction l using iH w hB with
 | leaf l h=>rw [dc h]; simp
 | node l x y h1 h2 hp ix iy=>rw [dR w h1 h2 hp,List.all_append,ix,iy,zl w hp h1]
theorem oZ (w:g.WF) (hB:bW g B) (l:Nat):1<=(expand g B l).length:=by
 induction l using iH w hB with
 | leaf l h=>rw [dc h]; simp
 | node l x y h1 h2 hp ix iy=>rw [dR w h1 h2 hp,List.length_append]; exact Nat.le_add_right_of_le ix
theorem um (w:g.WF) (hB:bW g B) {l:Nat} (hl:l∈lits g): ∀e∈expand g B l,e∈lits g/\¬(e % 2=0/\B.getD (e / 2) false=true)/\e / 2<=l / 2:=by
 induction l using iH w hB with
 | leaf l h=>rw [dc h]; intro e he; rw [List.mem_singleton.mp he]; exact ⟨hl,h,Nat.le_refl _⟩
 | node l x y h1 h2 hp ix iy=>
  rw [dR w h1 h2 hp]
  have hm:=nk hp
  have hk:=w.kids hp
  intro e he
  rcases List.mem_append.mp he with he | he
  ·have:=ix hm.1 e he; exact ⟨this.1,this.2.1,by lia⟩
  ·have:=iy hm.2 e he; exact ⟨this.1,this.2.1,by lia⟩
noncomputable def cj (f:Nat->Nat) (l:List Nat):Nat:=(l.map λ e=>2 ^ f e).sum
theorem qt (f:Nat->Nat) (a b:List Nat):cj f (a++b)=cj f a+cj f b:=by simp [cj]
theorem Gi (a b:Nat):2 ^ a+2 ^ b<=2 ^ (1+max a b):=by
 have h1:2 ^ a<=2 ^ max a b:=Nat.pow_le_pow_right (by decide) (Nat.le_max_left ..)
 have h2:2 ^ b<=2 ^ max a b:=Nat.pow_le_pow_right (by decide) (Nat.le_max_right ..)
 rw [Nat.add_comm 1,Nat.pow_succ]; lia
theorem qj (w:g.WF) (hB:bW g B) (l:Nat):cj (λ e=>g.bH (e / 2)) (expand g B l)<=2 ^ g.bH (l / 2):=by
 induction l using iH w hB with
 | leaf l h=>rw [dc h]; simp [cj]
 | node l x y h1 h2 hp ix iy=>
  rw [dR w h1 h2 hp,qt,nW w hp]
  exact Nat.le_trans (Nat.add_le_add ix iy) (Gi _ _)
theorem zc (w:g.WF) (hB:bW g B) (v:Nat) (hp:(g.pair v).isSome=true):cj (λ e=>g.bH (e / 2)) (leaves g B v)<=2 ^ g.bH v:=by
 obtain ⟨⟨x,y⟩,hp⟩:=Option.isSome_iff_exists.mp hp
 unfold leaves; rw [hp,nW w hp]
 show cj _ (expand g B x++expand g B y)<=_
 rw [qt]
 exact Nat.le_trans (Nat.add_le_add (qj w hB x) (qj w hB y)) (Gi _ _)
theorem D9 (w:g.WF) (hB:bW g B) {v x y:Nat} (hp:g.pair v=some (x,y)) (z:Nat->Bool):(leaves g B v).all (g.lv z)=g.val z v:=by
 unfold leaves; rw [hp,fN w hp]
 show List.all (expand g B x++expand g B y) _=_
 rw [List.all_append,uq w hB,uq w hB]
theorem uX (w:g.WF) (hB:bW g B) {v:Nat}: ∀e∈leaves g B v,e∈lits g/\¬(e % 2=0/\B.getD (e / 2) false=true)/\e / 2 < v:=by
 intro e he
 unfold leaves at he
 cases hp:g.pair v with
 | none=>rw [hp] at he; simp at he
 | some p=>
  obtain ⟨x,y⟩:=p
  rw [hp] at he
  have hm:=nk hp
  have hk:=w.kids hp
  rcases List.mem_append.mp he with he | he
  ·have:=um w hB hm.1 e he; exact ⟨this.1,this.2.1,by lia⟩
  ·have:=um w hB hm.2 e he; exact ⟨this.1,this.2.1,by lia⟩
theorem pB (w:g.WF) (hB:bW g B) {v x y:Nat} (hp:g.pair v=some (x,y)):2<=(leaves g B v).length:=by
 unfold leaves; rw [hp]
 have:=oZ w hB x; have:=oZ w hB y
 simp; lia
theorem Ds {l:List Nat} {p:Nat->Bool} {a b:Nat} (ha:a∈l) (hb:b∈l) (eS:a≠b) (pa:p a=true) (pb:p b=true):2<=l.countP p:=by
 induction l with
 | nil=>cases ha
 | cons c r ih=>
  rw [List.countP_cons]
  rcases List.mem_cons.mp ha with rfl | OZ <;> rcases List.mem_cons.mp hb with rfl | DP
  ·exact absurd rfl eS
  ·have:0 < r.countP p:=List.countP_pos_iff.mpr ⟨b,DP,pb⟩
   rw [if_pos pa]; lia
  ·have:0 < r.countP p:=List.countP_pos_iff.mpr ⟨a,OZ,pa⟩
   rw [if_pos pb]; lia
  ·have:=ih OZ DP; exact Nat.le_add_right_of_le (ih OZ DP)
theorem yr (l:List Nat) (v:Nat):(aS l).count v=l.countP λ e=>e / 2 == v:=by
 unfold aS
 rw [List.count,List.countP_map]; rfl
theorem occ_eq (g:A) (v:Nat):P0 g v=((lits g).countP λ e=>e / 2 == v)+(aS g.outs).count v:=by
 unfold P0; rw [List.count_append,yr]
theorem GN (hB:bW g B) {e:Nat} (he:e∈lits g) (h:B.getD (e / 2) false=true):e % 2=0:=by
 obtain ⟨h1,h2,_⟩:=hB.ok _ h
 rcases Nat.mod_two_eq_zero_or_one e with c | c
 ·exact c
 ·exfalso
  have:2<=(lits g).countP λ l=>l / 2 == e / 2:=Ds h1 he (by lia) (by simp) (by exact ReflBEq.rfl)
  rw [occ_eq] at h2; lia
theorem HG (w:g.WF) (hB:bW g B) {v e:Nat} (he:e∈leaves g B v):B.getD (e / 2) false=false:=by
 have:=uX w hB e he
 cases h:B.getD (e / 2) false with
 | false=>rfl
 | true=>exact absurd ⟨GN hB this.1 h,h⟩ this.2.1
theorem PL {e:Nat} (he:e∈lits g):P0 g (e / 2)≠0:=by
 rw [occ_eq]
 have:0 < (lits g).countP λ l=>l / 2 == e / 2:=List.countP_pos_iff.mpr ⟨e,he,by exact ReflBEq.rfl⟩
 lia
theorem B8 (hB:bW g B) {o:Nat} (ho:o∈g.outs):B.getD (o / 2) false=false/\P0 g (o / 2)≠0:=by
 have hc:0 < (aS g.outs).count (o / 2):=List.count_pos_iff.mpr (List.mem_map_of_mem ho)
 refine ⟨?_,by rw [occ_eq]; lia⟩
 cases h:B.getD (o / 2) false with
 | false=>rfl
 | true=>
  obtain ⟨h1,h2,_⟩:=hB.ok _ h
  have:0 < (lits g).countP λ l=>l / 2 == o / 2:=List.countP_pos_iff.mpr ⟨_,h1,by simp⟩
  rw [occ_eq] at h2; lia
theorem j7 (f:Nat->Nat): ∀{l m:List Nat},l.Nodup->(∀x∈l,x∈m)->(l.map f).sum<=(m.map f).sum
 | [],_,_,_=>Nat.zero_le _
 | a::l,m,hn,hs=>by
  have h1:=hs a (.head _)
  have C5:=List.nodup_cons.mp hn
  have:=j7 f (m:=m.erase a) C5.2 λ x hx=>by
   have eS:x≠a:=λ e=>C5.1 (e▸hx)
   exact (List.mem_erase_of_ne eS).mpr (hs x (.tail _ hx))
  have hp:=(List.perm_cons_erase h1).map f
  have:=hp.sum_nat
  simp only [List.map_cons,List.sum_cons] at this ⊢
  lia
noncomputable def dX (g:A) (B:List Bool) (v:Nat):Nat:=(leaves g B v).length - 1
noncomputable def fZ (B:List Bool) (l:Nat):Bool:=l % 2 == 0 && B.getD (l / 2) false
theorem uk (w:g.WF) (hB:bW g B) (l:Nat):(expand g B l).length=1+if fZ B l=true then dX g B (l / 2) else 0:=by
 rcases qh w hB l with ⟨h,e⟩ | ⟨x,y,h1,h2,hp,e⟩
 ·rw [e,if_neg (by simpa [fZ] using h)]; rfl
 ·rw [if_pos (by simp [fZ,h1]; simpa using h2)]
  have h2':=pB w hB hp
  have:leaves g B (l / 2)=expand g B l:=by rw [e]; unfold leaves; rw [hp]
  unfold dX; rw [this] at h2' ⊢; lia
theorem Ld (w:g.WF) (hB:bW g B) {v x y:Nat} (hp:g.pair v=some (x,y)):dX g B v=1+((kids (g.pair v)).map λ l=>if fZ B l=true then dX g B (l / 2) else 0).sum:=by
 have h1:=uk w hB x
 have h2:=uk w hB y
 rw [hp]
 show (leaves g B v).length - 1=_
 have:leaves g B v=expand g B x++expand g B y:=by unfold leaves; rw [hp]
 rw [this,List.length_append,h1,h2]; simp [kids]; lia
theorem CG (f:Nat->Nat) (k:Nat->List Nat) (l:List Nat):((l.flatMap k).map f).sum=(l.map λ v=>((k v).map f).sum).sum:=by
 induction l with
 | nil=>rfl
 | cons a r ih=>simp [List.flatMap_cons,ih]
theorem sum_filter (f:Nat->Nat) (p:Nat->Bool) (l:List Nat):(l.map λ e=>if p e=true then f e else 0).sum=((l.filter p).map f).sum:=by
 induction l with
 | nil=>rfl
 | cons a r ih=>
  by_cases h:p a=true
  ·simp [h,ih]
  ·simp [h,ih]
theorem sum_add (f h:Nat->Nat) (l:List Nat):(l.map λ e=>f e+h e).sum=(l.map f).sum+(l.map h).sum:=by
 induction l with
 | nil=>rfl
 | cons a r ih=>simp [ih]; exact Nat.add_add_add_comm (f a) (h a) (List.map f r).sum (List.map h r).sum
theorem Qv (l:List Nat):(l.map λ x=>1).sum=l.length:=by
 induction l with
 | nil=>rfl
 | cons a r ih=>simp [ih]; exact Nat.add_comm 1 r.length
theorem IY (f:Nat->Nat) (p:Nat->Bool) (l:List Nat):(l.map f).sum=((l.filter p).map f).sum+((l.filter λ e=>!p e).map f).sum:=by
 induction l with
 | nil=>rfl
 | cons a r ih=>
  by_cases h:p a=true
  ·simp [h,ih]; exact Eq.symm (Nat.add_assoc (f a) (List.map f (List.filter p r)).sum (List.map f (List.filter (λ e=>!p e) r)).sum)
  ·simp [h,ih]; exact Nat.add_left_comm (f a) (List.map f (List.filter p r)).sum (List.map f (List.filter (λ e=>!p e) r)).sum
theorem ve {l:List Nat} (h: ∀v∈l,l.count v<=1):l.Nodup:=by
 rw [List.nodup_iff_count]
 intro a
 by_cases c:a∈l
 ·exact h a c
 ·rw [List.count_eq_zero_of_not_mem c]; exact Nat.zero_le _
noncomputable def dO (g:A) (S:Nat->Bool):List Nat:=(List.range g.N).filter λ v=>decide (g.m < v) && S v
theorem vQ (S:Nat->Bool):(dO g S).length=fP g S g.N:=rfl
theorem wQ {l m:List Nat} (h:l.Sublist m) (v:Nat):l.count v<=m.count v:=h.count_le v
theorem HB (w:g.WF) (hB:bW g B) (S:Nat->Bool) (hS:A.cp g (S · =true)):(((dO g S).filter λ v=>!B.getD v false).map (dX g B)).sum<=fP g S g.N:=by
 have e1:((dO g S).map (dX g B)).sum=(dO g S).length+(((dO g S).flatMap λ v=>kids (g.pair v)).map λ l=>if fZ B l=true then dX g B (l / 2) else 0).sum:=by
  rw [CG,<- Qv,<- sum_add]
  congr 1
  refine List.map_congr_left λ v hv=>?_
  have hm:=List.mem_filter.mp hv
  simp at hm
  obtain ⟨x,y,hp⟩:=A.d0 hm.2.1 hm.1
  exact Ld w hB hp
 have e2:(((dO g S).flatMap λ v=>kids (g.pair v)).map λ l=>if fZ B l=true then dX g B (l / 2) else 0).sum<=(((dO g S).filter λ v=>B.getD v false).map (dX g B)).sum:=by
  have:=sum_filter (λ l=>dX g B (l / 2)) (fZ B) ((dO g S).flatMap λ v=>kids (g.pair v))
  rw [this]
  have e3:((((dO g S).flatMap λ v=>kids (g.pair v)).filter (fZ B)).map λ l=>dX g B (l / 2))=((aS (((dO g S).flatMap λ v=>kids (g.pair v)).filter (fZ B))).map (dX g B)):=by
   simp [aS]
  rw [e3]
  refine j7 _ (ve λ v hv=>?_) λ v hv=>?_
  ·obtain ⟨l,hl,rfl⟩:=List.mem_map.mp hv
   have sL:=(List.mem_filter.mp hl).2
   simp [fZ] at sL
   obtain ⟨_,h2,_⟩:=hB.ok (l / 2) (by simpa using sL.2)
   have aai:(((dO g S).flatMap λ v=>kids (g.pair v)).filter (fZ B)).Sublist (lits g):=by
    refine List.Sublist.trans List.filter_sublist ?_
    unfold lits oI
    rw [<- List.range_eq_range']
    unfold dO
    generalize List.range g.N=L
    induction L with
    | nil=>exact .slnil
    | cons c r ih=>
     rw [List.filter_cons]
     split
     ·rw [List.flatMap_cons,List.flatMap_cons]; exact (List.Sublist.refl _).append ih
     ·rw [List.flatMap_cons]; exact List.Sublist.trans ih (List.sublist_append_right _ _)
   have:=wQ (aai.map (· / 2)) (l / 2)
   have h4:(aS (lits g)).count (l / 2)<=1:=by
    unfold P0 at h2; rw [List.count_append] at h2; exact Nat.le.intro h2
   exact Nat.le_trans this h4
  ·obtain ⟨l,hl,rfl⟩:=List.mem_map.mp hv
   have sL:=List.mem_filter.mp hl
   have Ko:=sL.2
   simp [fZ] at Ko
   obtain ⟨v,WR,WB⟩:=List.mem_flatMap.mp sL.1
   have hm:=List.mem_filter.mp WR
   simp at hm
   cases hp:g.pair v with
   | none=>rw [hp] at WB; simp [kids] at WB
   | some p=>
    obtain ⟨x,y⟩:=p
    rw [hp] at WB
    simp [kids] at WB
    have hk:=w.kids hp
    have hs:=hS v x y hm.2.2 hp
    have hB':B.getD (l / 2) false=true:=by simpa using Ko.2
    obtain ⟨_,_,h3⟩:=hB.ok _ hB'
    obtain ⟨q,hq⟩:=Option.isSome_iff_exists.mp h3
    have:=A.bt hq
    have hSl:S (l / 2)=true:=by rcases WB with rfl | rfl; exact hs.1; exact hs.2
    exact List.mem_filter.mpr ⟨List.mem_filter.mpr ⟨by simp [this.1],by simp [this.2,hSl]⟩,hB'⟩
 have e4:=IY (dX g B) (λ v=>B.getD v false) (dO g S)
 rw [vQ] at e1
 lia
end
end
section
open A
theorem J3 {g:A} {B:List Bool} (w:g.WF) (hB:bW g B) {l:Nat}:(expand g B l).length<=1+g.N\/True:= .inr trivial
section
variable {n a b:Nat} {g:A} {B:List Bool}
noncomputable def jE (g:A) (B:List Bool) (st:List Nat):List Nat:=st.flatMap (expand g B)
theorem vV (w:g.WF) (hB:bW g B) (st:List Nat):st.length<=(jE g B st).length:=by
 induction st with
 | nil=>exact Nat.le_refl _
 | cons x r ih=>
  have:=oZ w hB x
  simp only [jE,List.flatMap_cons,List.length_append,List.length_cons] at ih ⊢; lia
noncomputable def w3 (st:List Nat):Nat:=(st.map λ l=>3 ^ (l / 2)).sum
theorem bT (st:List Nat) (x:Nat):ae (x::st).reverse=ae st.reverse++ [nV x]:=by simp [ae]
theorem QJ {l p q:Nat} {st:List Nat} (hp:p / 2 < l / 2) (hq:q / 2 < l / 2):w3 (p::q::st) < w3 (l::st):=Gh hp hq
inductive AI (a b t s:Nat) (o:Option V) (g:A) (B:List Bool) (L:List Nat) (H1:Hp) (m:Nat) (σ:St):Prop where
 | mk (st dn:List Nat) (o4 o5 o7 o8:Option V) (H:Hp) (e:σ=⟨[some (.ref a),o,some (.ref b),some (.ref t),o4,o5,some (.ref s),o7,o8],H⟩) (ht:H t=some (.list (ae dn))) (hs:H s=some (.list (ae st.reverse)))
  (hE: ∀c o,c≠t->c≠s->H1 c=some o->H c=some o) (hd:dn++jE g B st=L) (hl: ∀l∈st,l∈lits g) (m:m=w3 st)
theorem N9 {C:CT} {K:PF} {t s l:Nat} {o o4 o5 o7 o8:Option V} {L st dn:List Nat} {H1 H:Hp} (w:g.WF) (hB:bW g B) (hG:H a=some g.obj) (hb:H b=some (.list (aR B))) (ht:H t=some (.list (ae dn))) (hs:H s=some (.list (ae (l::st).reverse)))
  (hE: ∀c o,c≠t->c≠s->H1 c=some o->H c=some o) (hd:dn++jE g B (l::st)=L) (DS: ∀e∈l::st,e∈lits g) (hL:L.length < 900000) (WQ:t≠s) (has:a≠s) (hbs:b≠s):
  Xs C L_and_leaves_0 (ji (AI a b t s o g B L H1) (w3 (l::st)) K) ⟨[some (.ref a),o,some (.ref b),some (.ref t),o4,o5,some (.ref s),o7,o8],H⟩:=by
 have KN:=vV w hB (l::st)
 rw [<- hd,List.length_append] at hL
 obtain ⟨u,p,q,NR,hlu⟩:=nu (DS l (.head _))
 have T7:l / 2 < g.N:=by
  have Hn:=w.kids NR
  have huN:=(A.bt NR).1
  exact Nat.lt_trans (hlu.elim (λ e=>e▸Hn.1) λ e=>e▸Hn.2) huN
 have Z8:l / 2 < B.length:=hB.len▸T7
 have Ub:H s=some (.list (ae st.reverse++ [nV l])):=by rw [<- bT]; exact hs
 have O8:(ae st.reverse).length+1 < lim:=by rw [az,List.length_reverse]; unfold lim; rw [List.length_cons] at KN; omega
 have YJ:upd H s (.list (ae st.reverse)) t=some (.list (ae dn)):=(ao _ _ WQ).trans ht
 have leaf: ¬(l % 2=0/\B.getD (l / 2) false=true)->∃m',m' < w3 (l::st)/\AI a b t s o g B L H1 m' ⟨[some (.ref a),o,some (.ref b),some (.ref t),o4,o5,some (.ref s),some (nV l),some (nV (l / 2))],upd (upd H s (.list (ae st.reverse))) t (.list (ae dn++ [nV l]))⟩:=λ hnl=>
  ⟨w3 st,Nat.lt_add_of_pos_left (Nat.pow_pos (by decide)),st,dn++ [l],_,_,_,_,_,rfl,by rw [ah,bM]; rfl,(ao _ _ (Ne.symm WQ)).trans (ah _ _ _),λ c o h1 h2 e=>(ao _ _ h1).trans ((ao _ _ h2).trans (hE c o h1 h2 e)),
   by rw [<- hd,jE,jE,List.flatMap_cons,dc hnl,List.append_assoc],λ e he=>DS e (.tail _ he),rfl⟩
 have Vh:(ae dn).length < lim:=by rw [az]; unfold lim; omega
 simp only [mach,ops,ops2,L_and_leaves_0,pop_list Ub]
 refine aL (λ c1=>?_) λ c1=>?_
 ·simp only [mach,ops,eq_true c1,d7 ((ao _ _ hbs).trans hb) Z8]
  cases c2:B.getD (l / 2) false with
  | true=>
   obtain ⟨⟨p',q'⟩,jL⟩:=Option.isSome_iff_exists.mp (hB.ok _ c2).2.2
   have Wy:=w.kids jL
   have FC:=nk jL
   have hn2:(ae st.reverse++ [nV q']).length < lim:=by rw [List.length_append]; exact O8
   simp only [mach,loops,ai,aw ((ao _ _ has).trans hG) 0 (by decide),aO ((ao _ _ has).trans hG) T7,jL,cT,aF,List.length_cons,List.length_nil,true_and,append_list (ah H s (.list (ae st.reverse))) (Nat.lt_of_succ_lt O8),cZ,append_list (ah H s (.list (ae st.reverse++ [nV q']))) hn2]
   refine ⟨w3 (p'::q'::st),QJ Wy.1 Wy.2,p'::q'::st,dn,_,_,_,_,_,rfl,(ao _ _ WQ).trans ht,?_,λ c o h1 h2 e=>(ao _ _ h2).trans (hE c o h1 h2 e),?_,λ e he=>?_,rfl⟩
   ·rw [ah,bT,bT]
   ·rw [<- hd,jE,jE,List.flatMap_cons,List.flatMap_cons,List.flatMap_cons,dR w c1 c2 jL,List.append_assoc]
   ·exact (List.mem_cons.mp he).elim (λ e=>e▸FC.1) λ he=>(List.mem_cons.mp he).elim (λ e=>e▸FC.2) λ he=>DS e (.tail _ he)
  | false=>
   simp only [mach,loops,ai,append_list YJ Vh]
   exact leaf λ h=>Bool.noConfusion (c2.symm.trans h.2)
 ·simp only [mach,loops,eq_false c1,append_list YJ Vh]
  exact leaf λ h=>c1 h.1
theorem vP {v x y:Nat} {H:Hp} {Q:V->Hp->Prop} (hG:H a=some g.obj) (w:g.WF) (hB:bW g B) (hb:H b=some (.list (aR B))) (hp:g.pair v=some (x,y)) (hl:(leaves g B v).length < 900000)
  (k: ∀t H',Ext H H'->H t= .none->H' t=some (.list (ae (leaves g B v)))->Q (.ref t) H'):au prog (n+1) yU [.ref a,nV v, .ref b] Q H:=by
 refine aj kE [some (.ref a),some (nV v),some (.ref b), .none, .none, .none, .none, .none, .none] rfl rfl ?_
 show Xs _ gQ _ _
 simp only [mach,gQ]
 refine aq λ t H0 f0 e0 x0=>?_
 have qo:=x0 _ _ hG
 simp only [mach,aw qo 0 (by decide),aO qo (A.bt hp).1,hp,cT,aF,List.length_cons,List.length_nil,true_and]
 refine aq λ s H1 f1 e1 x1=>?_
 have hm:=nk hp
 simp only [mach,ai]
 refine bx (AI a b t s (some (nV v)) g B (leaves g B v) H1) (w3 [x,y])
  ⟨[x,y],[],_,_,_,_,H1,rfl,x1 _ _ e0,(show H1 s=some (.list (ae [x,y].reverse)) from e1),λ z z z z e=>e,by simp [jE,leaves,hp],λ e he=>(List.mem_cons.mp he).elim (λ e=>e▸hm.1) λ he=>(List.mem_singleton.mp he)▸hm.2,rfl⟩ λ m σ ⟨st,dn,o4,o5,o7,o8,H',e,ht,hs,hE,hd,DS,hm⟩=>?_
 subst e
 simp only [mach,loops,lr hs]
 cases st with
 | nil=>
  simp only [mach,List.reverse_nil,ae,List.map_nil,List.isEmpty_nil,Bool.not_true]
  exact k t H' (λ c o e=>hE c o (ak e f0) (ak (x0 _ _ e) f1) (x1 _ _ (x0 _ _ e))) f0 (by rw [<- hd,ht]; simp [jE])
 | cons l st=>
  have eS:(ae (l::st).reverse).isEmpty=false:=by rw [bT]; simp
  simp only [mach,eS,Bool.not_false]
  exact hm▸N9 w hB (hE _ _ (ak hG f0) (ak qo f1) (x1 _ _ qo)) (hE _ _ (ak hb f0) (ak (x0 _ _ hb) f1) (x1 _ _ (x0 _ _ hb))) ht hs hE hd DS hl (ak e0 f1) (ak qo f1) (ak (x0 _ _ hb) f1)
end
noncomputable def prV (p:Nat×Nat):V:=aF p
noncomputable def aN (l:List (Nat×Nat)):List V:=l.map aF
noncomputable def qP (p q:Nat×Nat):Bool:=p.1 < q.1 || (p.1 == q.1 && p.2<=q.2)
noncomputable def wu (e:Nat×Nat):List (Nat×Nat)->List (Nat×Nat)
 | []=> [e]
 | p::r=>if qP p e=true then p::wu e r else e::p::r
theorem HD (p q:Nat×Nat):qP p q=true\/qP q p=true:=by
 simp only [qP,Bool.or_eq_true,decide_eq_true_eq,Bool.and_eq_true,beq_iff_eq]; lia
theorem HF {p q r:Nat×Nat} (h:qP p q=true) (k:qP q r=true):qP p r=true:=by
 simp only [qP,Bool.or_eq_true,decide_eq_true_eq,Bool.and_eq_true,beq_iff_eq] at*; lia
theorem nS (e:Nat×Nat) (l:List (Nat×Nat)):(wu e l).Perm (e::l):=by
 induction l with
 | nil=>exact .refl _
 | cons p r ih=>
  show (if qP p e=true then p::wu e r else e::p::r).Perm _; split
  ·exact (ih.cons p).trans (.swap ..)
  ·exact .refl _
set_option tactic.hygienic true in
theorem nj (e:Nat×Nat): ∀{l:List (Nat×Nat)},l.Pairwise (λ p q=>qP p q=true)->(wu e l).Pairwise (λ p q=>qP p q=true)
 | [],_=>List.pairwise_singleton _ _
 | p::r,h=>by
  have h':=List.pairwise_cons.mp h
  show (if qP p e=true then p::wu e r else e::p::r).Pairwise _; split
  ·rename_i c
   refine List.pairwise_cons.mpr ⟨λ q hq=>?_,nj e h'.2⟩
   rcases List.mem_cons.mp ((nS e r).mem_iff.mp hq) with rfl | hq
   ·exact c
   ·exact h'.1 q hq
  ·rename_i c
   have hep:qP e p=true:=(HD e p).resolve_right (by simpa using c)
   refine List.pairwise_cons.mpr ⟨λ q hq=>?_,h⟩
   rcases List.mem_cons.mp hq with rfl | hq
   ·exact hep
   ·exact HF hep (h'.1 q hq)
theorem FK (e:Nat×Nat): ∀(l:List (Nat×Nat)) (i:Nat),i<=l.length->(∀j < i,∀p,l[j]?=some p->qP p e=true)->(∀p,l[i]?=some p->qP p e=false)->wu e l=l.take i++e::l.drop i
 | [],i,h,_,_=>by simp at h; subst h; rfl
 | p::r,0,_,_,h2=>if_neg (Bool.eq_false_iff.mp (h2 p rfl))
 | p::r,i+1,h,h1,h2=>by
  have hp:=h1 0 (by exact Nat.zero_lt_succ i) p rfl
  have:=FK e r i (by simpa using h) (λ j hj q hq=>h1 (j+1) (by exact Nat.add_lt_add_right hj 1) q (by simpa using hq)) (λ q hq=>h2 q (by simpa using hq))
  exact (if_pos hp).trans (congrArg (p:: ·) this)
theorem Eo (p q:Nat×Nat):gE p.1 p.2 q.1 q.2=qP p q:=by
 simp only [gE,qP]
 have h1:decide ((p.1:Int) < (q.1:Int))=decide (p.1 < q.1):=by simp
 have h2:((p.1:Int) == (q.1:Int))=(p.1 == q.1):=by rw [Bool.eq_iff_iff]; simp; exact Int.ofNat_inj
 have h3:decide ((p.2:Int)<=(q.2:Int))=decide (p.2<=q.2):=by simp
 rw [h1,h2,h3]
theorem Hv (l:List (Nat×Nat)) (i:Nat) (e:Nat×Nat):sd (aN l) i (aF e)=aN (l.take i++e::l.drop i):=by
 simp [sd,aN]
section
variable {n t:Nat} {H:Hp} {Q:V->Hp->Prop}
theorem Ca {l:List (Nat×Nat)} {e:Nat×Nat} (ht:H t=some (.list (aN l))) (hl:l.length < 900000) (k:Q .none (upd H t (.list (aN (wu e l))))):au prog (n+1) jW [.ref t,aF e] Q H:=by
 refine aj fj [some (.ref t),some (aF e), .none] rfl rfl ?_
 show Xs _ dj _ _
 simp only [mach,dj]
 have fin: ∀i,i<=l.length->(∀j < i,∀p,l[j]?=some p->qP p e=true)->(∀p,l[i]?=some p->qP p e=false)->
   Xs (au prog n) [.expr (.lm .insert (.var 0) [(.var 2),(.var 1)])] (d8 Q) ⟨[some (.ref t),some (aF e),some (nV i)],H⟩:=by
  intro i hi h1 h2
  simp only [mach,ai]
  have:=FK e l i hi h1 h2
  rw [this,<- Hv] at k
  have hx: ∀(K:PV) s,(lV .insert H (.ref t)/\xH .insert (.ref t) [nV i,aF e] K ⟨s,H⟩)=((0<=(i:Int)/\(i:Int)<=(aN l).length/\(aN l).length < lim)/\K .none ⟨s,upd H t (.list (sd (aN l) i (aF e)))⟩):=by
   intro K s; rw [kX (m:= .insert) (dN ht)]; unfold xH; simp [ht]
  rw [hx]
  refine ⟨⟨by exact Int.natCast_nonneg i,by simp [aN]; assumption,by simp [aN]; unfold lim; lia⟩,?_⟩
  simp only [mach,ai]; exact k
 refine bx (λ m σ=> ∃i,σ=⟨[some (.ref t),some (aF e),some (nV i)],H⟩/\i<=l.length/\(∀j < i,∀p,l[j]?=some p->qP p e=true)/\m=l.length - i) l.length
  ⟨0,rfl,Nat.zero_le _,λ x h=>absurd h (Nat.not_lt_zero _),rfl⟩ ?_
 rintro m σ ⟨i,rfl,hi,hj,rfl⟩
 have hpl:(aN l).length=l.length:=by simp [aN]
 simp only [mach,ops,len_list ht,hpl]
 refine aL (λ c=>?_) λ c=>?_
 ·have hn:df (aN l) i=some (aF l[i]):=by rw [aN,dM,List.getElem?_eq_getElem c]; rfl
  simp only [mach,c,if_true,aU ht hn]
  have hle: ∀(K:PV) s,b8 .le (aF l[i]) (aF e) K ⟨s,H⟩=K (.bool (qP l[i] e)) ⟨s,H⟩:=by
   intro K s
   have:=PH (Q:=K) (σ:=⟨s,H⟩) (l[i]).1 (l[i]).2 e.1 e.2
   rw [Eo] at this; exact this
  simp only [mach,ops,hle]
  cases c2:qP l[i] e with
  | true=>
   simp only [mach,ops,loops,if_true,L_place_by_level_0,cg]
   refine ⟨l.length - (i+1),by exact Nat.sub_succ_lt_self l.length i c,i+1,rfl,c,λ j hjl p hp=>?_,rfl⟩
   by_cases ej:j=i
   ·subst ej; rw [List.getElem?_eq_getElem c] at hp; cases hp; exact c2
   ·exact hj j (by lia) p hp
  | false=>
   simp only [mach,loops,Bool.false_eq_true,if_false]
   have:=fin i hi hj λ p hp=>by rw [List.getElem?_eq_getElem c] at hp; cases hp; exact c2
   simp only [mach,ai] at this; exact this
 ·simp only [mach,loops,c,if_false,Bool.false_eq_true]
  have:=fin i hi hj λ p hp=>by rw [List.getElem?_eq_none (by exact Nat.le_of_not_lt c)] at hp; cases hp
  simp only [mach,ai] at this; exact this
end
end
section
open A
theorem LP {g:A} (w:g.WF) {l r:Nat} (hl:l / 2 < g.N) (hr:r / 2 < g.N):((g.land l r).2=g/\(g.land l r).1 / 2 < g.N)\/
  ((g.land l r).1=2*g.N/\(g.land l r).2.N=g.N+1/\(g.land l r).2.bH g.N=1+max (g.bH (l / 2)) (g.bH (r / 2))):=(uW w hl hr).new
structure SX (f:A) (bX:List Nat) (L:List Nat):Prop where
 kids: ∀u∈bX,∀l r,f.pair u=some (l,r)->(l / 2∈bX\/l / 2<=f.m)/\(r / 2∈bX\/r / 2<=f.m)
 lt: ∀u∈bX,u < f.N
 mem: ∀e∈L,e / 2∈bX\/e / 2<=f.m
structure qS (f0:A) (L0:List Nat) (f:A) (L:List Nat):Prop where
 le:Le f0 f
 wf:f.WF
 lt: ∀e∈L,e / 2 < f.N
 N:f.N+L.length<=f0.N+L0.length
 val: ∀z,L.all (f.lv z)=L0.all (f0.lv z)
 kr: ∀D,cj (λ e=>f0.bH (e / 2)) L0<=2 ^ D->cj (λ e=>f.bH (e / 2)) L<=2 ^ D
 bX: ∀y8,SX f0 y8 L0->∃bX,SX f bX L/\(∀u∈y8,u∈bX)/\bX.length+L.length<=y8.length+L0.length
theorem qS.start {f:A} (w:f.WF) {L:List Nat} (h: ∀e∈L,e / 2 < f.N):qS f L f L:=
 ⟨.refl _,w,h,Nat.le_refl _,λ x=>rfl,λ x h=>h,λ y8 h=>⟨y8,h,λ x h=>h,Nat.le_refl _⟩⟩
theorem D7 (f:Nat->Nat) {l m:List Nat} (h:l.Perm m):cj f l=cj f m:=(h.map _).sum_nat
theorem Jy (p:Nat->Bool) {l m:List Nat} (h:l.Perm m):l.all p=m.all p:=by
 rw [Bool.eq_iff_iff]; simp only [List.all_eq_true]
 exact ⟨λ k x hx=>k x (h.mem_iff.mpr hx),λ k x hx=>k x (h.mem_iff.mp hx)⟩
theorem qS.perm {f0 f:A} {L0 L L':List Nat} (h:qS f0 L0 f L) (p:L.Perm L'):qS f0 L0 f L':=
 ⟨h.le,h.wf,λ e he=>h.lt e (p.mem_iff.mpr he),by rw [<- p.length_eq]; exact h.N,λ z=>by rw [<- Jy _ p]; exact h.val z,λ D hd=>by rw [<- D7 _ p]; exact h.kr D hd,
  λ y8 h0=>by obtain ⟨bX,h1,h2,h3⟩:=h.bX y8 h0; exact ⟨bX,⟨h1.kids,h1.lt,λ e he=>h1.mem e (p.mem_iff.mpr he)⟩,h2,by rw [<- p.length_eq]; exact h3⟩⟩
theorem Bu {f h:Nat->Nat} {l:List Nat} (e: ∀x∈l,f x=h x):cj f l=cj h l:=by
 unfold cj; rw [List.map_congr_left λ x hx=>by rw [e x hx]]
theorem uV {f h:Nat->Nat}: ∀{l:List Nat},(∀x∈l,f x<=h x)->cj f l<=cj h l
 | [],_=>Nat.le_refl _
 | x::r,e=>by
  have h1:=e x (.head _)
  have h2:=uV (l:=r) λ y hy=>e y (.tail _ hy)
  have h3:2 ^ f x<=2 ^ h x:=Nat.pow_le_pow_right (by decide) h1
  simp only [cj,List.map_cons,List.sum_cons] at h2 ⊢; exact Nat.add_le_add h3 h2
theorem xG {f:Nat->Nat} {b:Nat}: ∀{l:List Nat},(∀x∈l,b<=f x)->∃c,cj f l=2 ^ b*c
 | [],_=>⟨0,rfl⟩
 | x::r,h=>by
  obtain ⟨c,hc⟩:=xG (l:=r) λ y hy=>h y (.tail _ hy)
  have hx:=h x (.head _)
  refine ⟨2 ^ (f x - b)+c,?_⟩
  have:2 ^ f x=2 ^ b*2 ^ (f x - b):=by rw [<- Nat.pow_add]; congr 1; exact Eq.symm (Nat.add_sub_of_le hx)
  simp only [cj,List.map_cons,List.sum_cons] at hc ⊢
  rw [hc,this,Nat.mul_add]
theorem D6 {a b R D:Nat} (Ko:a<=b) (hR: ∃c,R=2 ^ b*c) (h:2 ^ a+(2 ^ b+R)<=2 ^ D):2 ^ (1+b)+R<=2 ^ D:=by
 obtain ⟨c,rfl⟩:=hR
 have hp:0 < 2 ^ a:=Nat.pow_pos (by decide)
 have hbD:b < D:=by
  have:2 ^ b < 2 ^ D:=by lia
  exact (Nat.pow_lt_pow_iff_right (by decide)).mp this
 have e:2 ^ D=2 ^ b*2 ^ (D - b):=by rw [<- Nat.pow_add]; congr 1; lia
 rw [e] at h ⊢
 have h1:2 ^ b*(1+c) < 2 ^ b*2 ^ (D - b):=by rw [Nat.mul_add,Nat.mul_one]; lia
 have h2:1+c < 2 ^ (D - b):=Nat.lt_of_mul_lt_mul_left h1
 have h3:2 ^ b*(2+c)<=2 ^ b*2 ^ (D - b):=Nat.mul_le_mul_left _ (by lia)
 rw [Nat.mul_add] at h3
 rw [Nat.add_comm 1,Nat.pow_succ]; exact h3
theorem qS.step {f0 f:A} {L0 R:List Nat} {a b:Nat} (h:qS f0 L0 f (a::b::R)) (Ko:f.bH (a / 2)<=f.bH (b / 2)) (hb: ∀e∈R,f.bH (b / 2)<=f.bH (e / 2)):qS f0 L0 (f.land a b).2 ((f.land a b).1::R):=by
 have ha:=h.lt a (.head _)
 have DP:=h.lt b (.tail _ (.head _))
 have M:=A.qv h.wf ha DP
 have V:=A.Bx h.wf ha DP
 refine ⟨h.le.trans M.le,M.wf,λ e he=>?_,?_,λ z=>?_,λ D hd=>?_,λ y8 h0=>?_⟩
 ·rcases List.mem_cons.mp he with rfl | he
  ·exact M.lt
  ·exact Nat.lt_of_lt_of_le (h.lt e (.tail _ (.tail _ he))) M.le.N
 ·have:=h.N; have:=M.grow; simp only [List.length_cons] at*; lia
 ·rw [<- h.val z,List.all_cons,M.val,List.all_cons,List.all_cons,Bool.and_assoc]
  congr 2
  rw [Bool.eq_iff_iff]; simp only [List.all_eq_true]
  have: ∀e∈R,(f.land a b).2.lv z e=f.lv z e:=λ e he=>M.le.lv z (h.lt e (.tail _ (.tail _ he)))
  exact ⟨λ k e he=>by rw [<- this e he]; exact k e he,λ k e he=>by rw [this e he]; exact k e he⟩
 ·have hk:=h.kr D hd
  have e1:cj (λ e=>(f.land a b).2.bH (e / 2)) R=cj (λ e=>f.bH (e / 2)) R:=Bu λ e he=>M.le.bH (h.lt e (.tail _ (.tail _ he)))
  have h2:2 ^ (1+f.bH (b / 2))+cj (λ e=>f.bH (e / 2)) R<=2 ^ D:=D6 Ko (xG hb) (by simpa [cj] using hk)
  have h3:2 ^ (f.land a b).2.bH ((f.land a b).1 / 2)<=2 ^ (1+f.bH (b / 2)):=Nat.pow_le_pow_right (by decide) (by lia)
  show 2 ^ (f.land a b).2.bH ((f.land a b).1 / 2)+cj (λ e=>(f.land a b).2.bH (e / 2)) R<=_
  rw [e1]; lia
 ·obtain ⟨bX,h1,h2,h3⟩:=h.bX y8 h0
  have hm:(f.land a b).2.m=f.m:=M.le.m
  have Sn: ∀u∈bX,∀l r,(f.land a b).2.pair u=some (l,r)->(l / 2∈bX\/l / 2<=f.m)/\(r / 2∈bX\/r / 2<=f.m):=λ u hu l r hp=>h1.kids u hu l r (by rw [<- M.le.pair (h1.lt u hu)]; exact hp)
  have wo:A.cp f λ u=>u∈bX\/u<=f.m:=by
   intro v l r hv hp
   rcases hv with hv | hv
   ·exact h1.kids v hv l r hp
   ·have:=(A.bt hp).2; lia
  have XE: ∀e∈R,e / 2∈bX\/e / 2<=f.m:=λ e he=>h1.mem e (.tail _ (.tail _ he))
  rcases M.bX (λ u=>u∈bX\/u<=f.m) wo (.inr (Nat.zero_le _)) (h1.mem a (.head _)) (h1.mem b (.tail _ (.head _))) with q | ⟨l',r',jL,q1,q2⟩
  ·refine ⟨bX,⟨by rw [hm]; exact Sn,λ u hu=>Nat.lt_of_lt_of_le (h1.lt u hu) M.le.N,λ e he=>?_⟩,h2,by simp only [List.length_cons] at*; exact Nat.le_of_succ_le h3⟩
   rw [hm]
   rcases List.mem_cons.mp he with rfl | he
   ·exact q
   ·exact XE e he
  ·refine ⟨(f.land a b).1 / 2::bX,⟨λ u hu l r hp=>?_,λ u hu=>?_,λ e he=>?_⟩,λ u hu=> .tail _ (h2 u hu),by simp only [List.length_cons] at*; lia⟩
   ·rw [hm]
    rcases List.mem_cons.mp hu with rfl | hu
    ·rw [jL] at hp; cases hp
     exact ⟨q1.imp (.tail _) id,q2.imp (.tail _) id⟩
    ·have:=Sn u hu l r hp
     exact ⟨this.1.imp (.tail _) id,this.2.imp (.tail _) id⟩
   ·rcases List.mem_cons.mp hu with rfl | hu
    ·exact M.lt
    ·exact Nat.lt_of_lt_of_le (h1.lt u hu) M.le.N
   ·rw [hm]
    rcases List.mem_cons.mp he with rfl | he
    ·exact .inl (.head _)
    ·exact (XE e he).imp (.tail _) id
noncomputable def cL (f:A):List Nat:=(List.range f.N).map f.bH
theorem eL (f:A):(cL f).length=f.N:=by simp [cL]
theorem pC (f:A) {v:Nat} (h:v < f.N):(cL f).getD v 0=f.bH v:=by
 rw [List.getD_eq_getElem?_getD,List.getElem?_eq_getElem (by simpa [cL] using h)]; simp [cL]
theorem Ea {f f':A} (le:Le f f') (h:f'.N=f.N+1):cL f'=cL f++ [f'.bH f.N]:=by
 unfold cL
 rw [h,List.range_succ,List.map_append]
 congr 1
 exact List.map_congr_left λ v hv=>le.bH (List.mem_range.mp hv)
noncomputable def tag (f:A) (l:Nat):Nat×Nat:=(f.bH (l / 2),l)
section
variable {Q:PV} {l:List (Option V)} {H:Hp} {a:Nat}
theorem xO {v:V} {r:List V} (h:H a=some (.list (v::r))) (hr:r.length<=lim):(lV .nB H (.ref a)/\xH .nB (.ref a) [nV 0] Q ⟨l,H⟩)=Q v ⟨l,upd H a (.list r)⟩:=by
 rw [kX (m:= .nB) (dN h)]
 show (match H a with | some (.list (v::r))=>r.length<=lim/\Q v ⟨l,upd H a (.list r)⟩ | _=>False)=_
 rw [h]; simp [hr]
theorem dS (l:List (Nat×Nat)):(aN l).length=l.length:=by simp [aN]
end
section
variable {n a d t:Nat} {K:PF}
theorem D3 {f:A} {L0:List Nat} {H0:Hp} {xs:Nat} (dz: ∀e∈L0,e / 2 < f.N) (hlen:L0.length < 800000) (pj:d≠t) (hxt:xs≠t): ∀(todo dn:List Nat) (ps:List (Nat×Nat)) (H:Hp) (o4:Option V),dn++todo=L0->
  H d=some (.list (ae (cL f)))->H xs=some (.list (ae L0))->H t=some (.list (aN ps))->ps.Perm (dn.map (tag f))->ps.Pairwise (λ p q=>qP p q=true)->ExtBut t H0 H->
  (∀NZ H' o4,H' t=some (.list (aN NZ))->NZ.Perm (L0.map (tag f))->NZ.Pairwise (λ p q=>qP p q=true)->ExtBut t H0 H'->
   K .next ⟨[some (.ref a),some (.ref d),some (.ref xs),some (.ref t),o4, .none, .none, .none, .none],H'⟩)->
  aC (au prog (n+1)) (.inr 4) L_join_balanced_0 (.ref xs) (ae L0) K (ae todo) ⟨[some (.ref a),some (.ref d),some (.ref xs),some (.ref t),o4, .none, .none, .none, .none],H⟩:=by
 intro todo
 induction todo with
 | nil=>
  intro dn ps H o4 hd TX Pj ht hp hs hE fin
  rw [List.append_nil] at hd; subst hd
  exact fin ps H o4 ht hp hs hE
 | cons e todo ih=>
  intro dn ps H o4 hd TX Pj ht hp hs hE fin
  have hm:e∈L0:=hd▸List.mem_append_right _ (.head _)
  have he:=dz e hm
  have hel:e / 2 < (cL f).length:=by rw [eL]; exact he
  show aC _ (.inr 4) L_join_balanced_0 _ _ K (nV e::ae todo) _
  simp only [mach,ops,ops2,loops,L_join_balanced_0,bD TX hel,pC f he]
  have hpl:ps.length < 900000:=by
   have:=hp.length_eq
   have:=congrArg List.length hd
   simp at*; lia
  refine Ca (e:=tag f e) ht hpl ?_
  simp only [mach,loops,ai]
  have aao:itemsOf (upd H t (.list (aN (wu (tag f e) ps)))) (.ref xs)=some (ae L0):=ay ((ao _ _ hxt).trans Pj)
  refine ⟨aao,?_⟩
  refine ih (dn++ [e]) _ _ _ (by simp [hd]) ((ao _ _ pj).trans TX) ((ao _ _ hxt).trans Pj) (ah _ _ _) ?_ (nj _ hs) (hE.trans (.upd _ _ _)) fin
  rw [List.map_append]
  exact (nS _ _).trans ((hp.cons _).trans (List.perm_append_comm (l₁:= [tag f e])))
structure QM (f0:A) (L0:List Nat) (f:A) (ps:List (Nat×Nat)):Prop where
 inv:qS f0 L0 f (ps.map (·.2))
 tag: ∀q∈ps,q=tag f q.2
 sort:ps.Pairwise (λ p q=>qP p q=true)
theorem EI {f:A} {p u:Nat×Nat} (e1:p=tag f p.2) (e2:u=tag f u.2) (h:qP p u=true):f.bH (p.2 / 2)<=f.bH (u.2 / 2):=by
 replace e1:p.1=f.bH (p.2 / 2):=congrArg (·.1) e1
 replace e2:u.1=f.bH (u.2 / 2):=congrArg (·.1) e2
 simp only [qP,Bool.or_eq_true,decide_eq_true_eq,Bool.and_eq_true,beq_iff_eq] at h; omega
theorem QM.step {f0 f:A} {L0:List Nat} {p q:Nat×Nat} {r:List (Nat×Nat)} (h:QM f0 L0 f (p::q::r)):QM f0 L0 (f.land p.2 q.2).2 (wu ((f.land p.2 q.2).2.bH ((f.land p.2 q.2).1 / 2),(f.land p.2 q.2).1) r):=by
 have YG:=List.pairwise_cons.mp (List.pairwise_cons.mp h.sort).2
 have hpm:=nS ((f.land p.2 q.2).2.bH ((f.land p.2 q.2).1 / 2),(f.land p.2 q.2).1) r
 have hi:=qS.step (R:=r.map λ u:Nat×Nat=>u.2) h.inv (EI (h.tag p (.head _)) (h.tag q (.tail _ (.head _))) ((List.pairwise_cons.mp h.sort).1 q (.head _))) λ e he=>by
  obtain ⟨u,hu,e⟩:=List.mem_map.mp he
  exact e▸EI (h.tag q (.tail _ (.head _))) (h.tag u (.tail _ (.tail _ hu))) (YG.1 u hu)
 refine ⟨hi.perm (hpm.symm.map (λ u:Nat×Nat=>u.2)),λ u hu=>?_,nj _ YG.2⟩
 refine (List.mem_cons.mp (hpm.mem_iff.mp hu)).elim (λ e=>e▸rfl) λ hu=>?_
 unfold Mine.tag
 rw [(A.F0 f p.2 q.2).bH (h.inv.lt u.2 (.tail _ (.tail _ (List.mem_map_of_mem hu))))]; exact h.tag u (.tail _ (.tail _ hu))
inductive JI (a d t:Nat) (o:Option V) (f0:A) (L0:List Nat) (H1:Hp) (m:Nat) (σ:St):Prop where
 | mk (f:A) (ps:List (Nat×Nat)) (o4 o5 o6 o7 o8:Option V) (H:Hp) (e:σ=⟨[some (.ref a),some (.ref d),o,some (.ref t),o4,o5,o6,o7,o8],H⟩) (hf:H a=some f.obj) (hd:H d=some (.list (ae (cL f)))) (ht:H t=some (.list (aN ps)))
  (hE: ∀c o,c≠a->c≠d->c≠t->H1 c=some o->H c=some o) (hJ:QM f0 L0 f ps) (hn:ps≠[]) (m:m=ps.length)
theorem Hz {K:PF} {f0 f:A} {L0:List Nat} {t m:Nat} {o o4 o5 o6 o7 o8:Option V} {p q:Nat×Nat} {r:List (Nat×Nat)} {H1 H:Hp} (hN:f0.N+L0.length < 9000) (tI:a≠d) (d9:a≠t) (pj:d≠t) (hf:H a=some f.obj) (hd:H d=some (.list (ae (cL f)))) (ht:H t=some (.list (aN (p::q::r))))
  (hE: ∀c o,c≠a->c≠d->c≠t->H1 c=some o->H c=some o) (hJ:QM f0 L0 f (p::q::r)) (hm:m=(p::q::r).length):Xs (au prog (n+1)) L_join_balanced_1 (ji (JI a d t o f0 L0 H1) m K) ⟨[some (.ref a),some (.ref d),o,some (.ref t),o4,o5,o6,o7,o8],H⟩:=by
 have ZK:=hJ.inv.N
 simp only [List.length_map,List.length_cons] at ZK
 have hr:r.length+2<=9000:=by omega
 have Ua:(aF q::aN r).length<=lim:=by rw [List.length_cons,dS]; unfold lim; omega
 have hf3: ∀o,upd H t o a=some f.obj:=λ o=>(ao _ _ d9).trans hf
 simp only [mach,ops,ops2,L_join_balanced_1,xO (show H t=some (.list (aF p::aF q::aN r)) from ht) Ua,xO (ah H t (.list (aF q::aN r))) (Nat.le_of_succ_le Ua),cZ]
 refine ⟨bJ (hf3 _),kU (hf3 _) (by omega) hJ.inv.wf ?_⟩
 have WL:=hJ.inv.lt p.2 (.head _)
 have hq2:=hJ.inv.lt q.2 (.tail _ (.head _))
 have Ko:=EI (hJ.tag p (.head _)) (hJ.tag q (.tail _ (.head _))) ((List.pairwise_cons.mp hJ.sort).1 q (.head _))
 have hq1:q.1=f.bH (q.2 / 2):=congrArg (·.1) (hJ.tag q (.tail _ (.head _)))
 have hS:=hJ.step
 have DU:=LP hJ.inv.wf WL hq2
 have L:=A.F0 f p.2 q.2
 generalize f.land p.2 q.2=z at hS DU L ⊢
 have Rm:upd (upd H t (.list (aN r))) a z.2.obj d=some (.list (ae (cL f))):=(ao _ _ (Ne.symm tI)).trans ((ao _ _ pj).trans hd)
 have rest: ∀(H4:Hp) (p5 p6 p7 p8:Option V),H4 a=some z.2.obj->H4 d=some (.list (ae (cL z.2)))->H4 t=some (.list (aN r))->(∀c o,c≠a->c≠d->c≠t->H c=some o->H4 c=some o)->
   ∀Q:V->Hp->Prop,(∀H5:Hp,(∃m',m' < m/\JI a d t o f0 L0 H1 m' ⟨[some (.ref a),some (.ref d),o,some (.ref t),o4,p5,p6,p7,p8],H5⟩)->Q .none H5)->au prog (n+1) jW [.ref t,aF (z.2.bH (z.1 / 2),z.1)] Q H4:=by
  intro H4 p5 p6 p7 p8 h4a h4d h4t h4e Q hQ
  have hl:=(nS (z.2.bH (z.1 / 2),z.1) r).length_eq
  exact Ca h4t (by omega) (hQ _ ⟨_,by rw [hl,hm]; exact Nat.lt_succ_self _,z.2,wu (z.2.bH (z.1 / 2),z.1) r,_,_,_,_,_,_,rfl,(ao _ _ d9).trans h4a,(ao _ _ pj).trans h4d,ah _ _ _,λ c o h1 h2 h3 e=>(ao _ _ h3).trans (h4e c o h1 h2 h3 (hE c o h1 h2 h3 e)),hS,λ e=>absurd (hl.symm.trans (congrArg List.length e)) (Nat.succ_ne_zero _),rfl⟩)
 simp only [mach,ops,ops2,len_list Rm,az,eL]
 rcases DU with ⟨WU,WT⟩ | ⟨WT,WU,hz3⟩
 ·have O8:z.1 / 2 < (cL f).length:=by rw [eL]; exact WT
  simp only [mach,ops,eq_false (Nat.ne_of_lt WT),bD Rm O8,pC f WT]
  rw [WU] at rest Rm ⊢
  refine rest _ (some (aF p)) (some (aF q)) (some (nV z.1)) (some (nV (z.1 / 2))) (ah _ _ _) Rm ((ao _ _ (Ne.symm d9)).trans (ah _ _ _)) (λ c o h1 x h3 e=>(ao _ _ h1).trans ((ao _ _ h3).trans e)) _ λ H5 h5=>?_
  simp only [mach,loops,ai]
  exact h5
 ·have e2:z.1 / 2=f.N:=by rw [WT]; exact Nat.mul_div_cancel_left _ (by decide)
  have Kv:(ae (cL f)).length < lim:=by rw [az,eL]; unfold lim; omega
  have Ro:=Ea L WU
  rw [hz3,Nat.max_eq_right Ko,<- hq1] at Ro
  have T9:ae (cL f)++ [nV (1+q.1)]=ae (cL z.2):=by rw [Ro,ae,ae,List.map_append]; rfl
  have O8:z.1 / 2 < (cL z.2).length:=by rw [eL,WU,e2]; exact Nat.lt_succ_self _
  simp only [mach,ops,ops2,eq_true e2,append_list Rm Kv,T9,bD (ah (upd (upd H t (.list (aN r))) a z.2.obj) d (.list (ae (cL z.2)))) O8,pC z.2 (show z.1 / 2 < z.2.N by rw [WU,e2]; exact Nat.lt_succ_self _)]
  refine rest _ (some (aF p)) (some (aF q)) (some (nV z.1)) (some (nV (z.1 / 2))) ((ao _ _ tI).trans (ah _ _ _)) (ah _ _ _) ((ao _ _ (Ne.symm pj)).trans ((ao _ _ (Ne.symm d9)).trans (ah _ _ _))) (λ c o h1 h2 h3 e=>(ao _ _ h2).trans ((ao _ _ h1).trans ((ao _ _ h3).trans e))) _ λ H5 h5=>?_
  simp only [mach,loops,ai]
  exact h5
theorem QM.start {f:A} (w:f.WF) {L:List Nat} {ps:List (Nat×Nat)} (dz: ∀e∈L,e / 2 < f.N) (hp:ps.Perm (L.map (Mine.tag f))) (hs:ps.Pairwise (λ p q=>qP p q=true)):QM f L f ps:=
 ⟨(qS.start w dz).perm (by have:=hp.map (·.2); rw [List.map_map,show ((λ x:Nat×Nat=>x.2)∘Mine.tag f)=id from rfl,List.map_id] at this; exact this.symm),λ q hq=>by obtain ⟨e,_,rfl⟩:=List.mem_map.mp (hp.mem_iff.mp hq); rfl,hs⟩
theorem Pu {f0:A} {L0:List Nat} {xs:Nat} {H:Hp} {Q:V->Hp->Prop} (hG:H a=some f0.obj) (w:f0.WF) (hN:f0.N+L0.length < 9000) (TX:H d=some (.list (ae (cL f0)))) (Pj:H xs=some (.list (ae L0))) (eS:L0≠[])
  (dz: ∀e∈L0,e / 2 < f0.N) (tI:a≠d)
  (k: ∀lit f H',(∀c o,c≠a->c≠d->H c=some o->H' c=some o)->H' a=some f.obj->H' d=some (.list (ae (cL f)))->qS f0 L0 f [lit]->Q (nV lit) H'):au prog (n+2) sM [.ref a, .ref d, .ref xs] Q H:=by
 refine aj gj [some (.ref a),some (.ref d),some (.ref xs), .none, .none, .none, .none, .none, .none] rfl rfl ?_
 show Xs _ dF _ _
 simp only [mach,dF]
 refine aq λ t H1 f1 e1 x1=>?_
 have d9:a≠t:=ak hG f1
 have pj:d≠t:=ak TX f1
 simp only [mach,ai]
 rw [aX (ay (x1 _ _ Pj))]
 refine D3 dz (by omega) pj (ak Pj f1) L0 [] [] H1 _ rfl (x1 _ _ TX) (x1 _ _ Pj) (by simpa [aN] using e1) (.refl _) .nil (.refl _ _) λ ps H2 o4 e2 hp hs x2=>?_
 simp only [mach,ai]
 refine bx (JI a d t (some (.ref xs)) f0 L0 H1) ps.length ⟨f0,ps,_,_,_,_,_,H2,rfl,x2 _ _ d9 (x1 _ _ hG),x2 _ _ pj (x1 _ _ TX),e2,λ c o x x h e=>x2 c o h e,QM.start w dz hp hs,λ e=>?_,rfl⟩ λ m σ ⟨f,ps,o4,o5,o6,o7,o8,H',e,hf,hd,ht,hE,hJ,hnn,hm⟩=>?_
 ·have:=hp.length_eq
  rw [e,List.length_map] at this
  exact eS (List.eq_nil_of_length_eq_zero this.symm)
 subst e
 simp only [mach,ops,loops,len_list ht,dS]
 rcases ps with _ | ⟨p,_ | ⟨q,r⟩⟩
 ·exact absurd rfl hnn
 ·simp only [mach,ops2,List.length_cons,List.length_nil,Nat.zero_add,Nat.lt_irrefl,aU ht (show df (aN [p]) 0=some (aF p) from rfl)]
  exact k p.2 f H' (λ c o h1 h2 e=>hE c o h1 h2 (ak e f1) (x1 _ _ e)) hf hd hJ.inv
 ·simp only [mach,eq_true (show 1 < (p::q::r).length from Nat.succ_lt_succ (Nat.succ_pos _))]
  exact Hz hN tI d9 pj hf hd ht hE hJ hm
end
end
section
open A
noncomputable def kR (g:A) (B:List Bool) (S:Nat->Bool) (k:Nat):Nat:=(((List.range k).filter λ v=>(decide (g.m < v) && S v) && !B.getD v false).map (dX g B)).sum
theorem fv (g:A) (B:List Bool) (S:Nat->Bool) (k:Nat):kR g B S (k+1)=kR g B S k+if ((decide (g.m < k) && S k) && !B.getD k false)=true then dX g B k else 0:=by
 unfold kR
 rw [List.range_succ,List.filter_append,List.map_append,List.sum_append]
 congr 1
 by_cases h:((decide (g.m < k) && S k) && !B.getD k false)=true
 ·rw [if_pos h]; simp only [List.filter_cons,h,if_true,List.filter_nil,List.map_cons,List.map_nil,List.sum_cons,List.sum_nil,Nat.add_zero]
 ·rw [if_neg h]; simp only [List.filter_cons,h,List.filter_nil]; rfl
theorem Pw {g:A} {B:List Bool} {S:Nat->Bool} {k d:Nat}:kR g B S k<=kR g B S (k+d):=by
 induction d with
 | zero=>exact Nat.le_refl _
 | succ d ih=>rw [<- Nat.add_assoc,fv]; exact Nat.le_add_right_of_le ih
theorem Bo {g:A} {B:List Bool} (w:g.WF) (hB:bW g B) (S:Nat->Bool) (hS:A.cp g (S · =true)):kR g B S g.N<=fP g S g.N:=by
 have:=HB w hB S hS
 unfold dO at this
 rw [List.filter_filter] at this
 have e:(λ v=>(decide (g.m < v) && S v) && !B.getD v false)=λ a=>(!B.getD a false) && (decide (g.m < a) && S a):=by funext v; rw [Bool.and_comm]
 unfold kR; rw [e]; exact this
theorem qc (g:A) (S:Nat->Bool):fP g S g.N<=g.ands.length:=by
 have h4:((List.range g.N).filter λ v=>decide (g.m < v) && S v).length<=(List.range' (g.m+1) g.ands.length).length:=by
  refine bQ (List.nodup_range.sublist List.filter_sublist) λ v hv=>?_
  have:=List.mem_filter.mp hv
  simp [A.N] at this
  simp; lia
 rw [List.length_range'] at h4; exact h4
theorem uN {g:A} {B:List Bool} (w:g.WF) (hB:bW g B) {k:Nat} (hk:k<=g.N):kR g B (λ x=>true) k<=g.ands.length:=by
 have h1:=Bo w hB (λ x=>true) (λ x x x x x=>⟨rfl,rfl⟩)
 have h2:kR g B (λ x=>true) k<=kR g B (λ x=>true) (k+(g.N - k)):=Pw
 rw [Nat.add_sub_cancel' hk] at h2
 exact Nat.le_trans h2 (Nat.le_trans h1 (qc _ _))
noncomputable def sC (g:A) (B:List Bool) (k:Nat):Nat->Prop:=λ v=>v < k/\B.getD v false=false/\P0 g v≠0
structure qQ (g:A) (B:List Bool) (k:Nat) (f:A) (T:List Nat):Prop where
 tab:TabOf g f T (sC g B k)
 bH: ∀v,v < g.N->(v<=g.m\/sC g B k v)->f.bH (T.getD v 0 / 2)<=g.bH v
 N:f.N<=g.m+1+kR g B (λ x=>true) k
 bX: ∀S:Nat->Bool,A.cp g (S · =true)->∃bX,pQ g f S T (sC g B k) bX/\bX.length<=kR g B S k
theorem qQ.start (g:A) (B:List Bool):qQ g B 0 (lT g.m) (tabIn g.N g.m):=
 ⟨(TabOf.start g).mono λ v y y h=>absurd h.1 (Nat.not_lt_zero _),λ v hv h=>by
  have hm:v<=g.m:=h.elim id λ h=>absurd h.1 (Nat.not_lt_zero _)
  rw [iR _ _ _ hm hv,show 2*v / 2=v by exact Nat.mul_div_cancel_left _ (by decide),A.uY (show v<=(lT g.m).m from hm)]; exact Nat.zero_le _,by rw [ni]; exact Nat.le_add_right (g.m+1) (kR g B (λ x=>true) 0),λ S y=>⟨[],⟨λ v hv h y=> .inr (by
  have hm:v<=g.m:=h.elim id λ h=>absurd h.1 (Nat.not_lt_zero _)
  rw [iR _ _ _ hm hv]; lia),(λ y h=>nomatch h),(λ y h=>nomatch h)⟩,Nat.zero_le _⟩⟩
theorem qQ.skip {g f:A} {B:List Bool} {k:Nat} {T:List Nat} (h:qQ g B k f T) (hp:g.pair k=none\/B.getD k false=true\/P0 g k=0):qQ g B (k+1) f T:=by
 have key: ∀v,v < g.N->g.m < v->sC g B (k+1) v->sC g B k v:=λ v hv hm hk=>by
  refine ⟨?_,hk.2⟩
  by_cases e:v=k
  ·subst e
   rcases hp with hp | hp | hp
   ·obtain ⟨_,_,q⟩:=A.d0 hm hv; rw [hp] at q; cases q
   ·rw [hk.2.1] at hp; cases hp
   ·exact absurd hp hk.2.2
  ·have:=hk.1; lia
 have Xu: ∀v,v < g.N->(v<=g.m\/sC g B (k+1) v)->(v<=g.m\/sC g B k v):=λ v hv hh=>by
  by_cases c:v<=g.m
  ·exact .inl c
  ·exact hh.elim .inl λ q=> .inr (key v hv (by exact Nat.lt_of_not_le c) q)
 refine ⟨h.tab.mono key,λ v hv hh=>h.bH v hv (Xu v hv hh),by have:=h.N; rw [fv]; lia,λ S hS=>?_⟩
 obtain ⟨bX,hi,hc⟩:=h.bX S hS
 exact ⟨bX,⟨λ v hv hh=>hi.tab v hv (Xu v hv hh),hi.kids,hi.lt⟩,by rw [fv]; exact Nat.le_add_right_of_le hc⟩
noncomputable def cX (T:List Nat) (l:List Nat):List Nat:=l.map λ e=>T.getD (e / 2) 0 ^^^ e % 2
theorem LZ {g:A} {B:List Bool} (w:g.WF) (hB:bW g B) {S:Nat->Bool} (hS:A.cp g (S · =true)) {v:Nat} (hv:S v=true): ∀e∈leaves g B v,S (e / 2)=true:=by
 have exp: ∀l,S (l / 2)=true->∀e∈expand g B l,S (e / 2)=true:=by
  intro l
  induction l using iH w hB with
  | leaf l h=>rw [dc h]; intro hl e he; rw [List.mem_singleton.mp he]; exact hl
  | node l x y h1 h2 hp ix iy=>
   rw [dR w h1 h2 hp]
   intro hl e he
   have:=hS _ _ _ hl hp
   rcases List.mem_append.mp he with he | he
   ·exact ix this.1 e he
   ·exact iy this.2 e he
 intro e he
 unfold leaves at he
 cases hp:g.pair v with
 | none=>rw [hp] at he; simp at he
 | some p=>
  obtain ⟨x,y⟩:=p
  rw [hp] at he
  have:=hS _ _ _ hv hp
  rcases List.mem_append.mp he with he | he
  ·exact exp x this.1 e he
  ·exact exp y this.2 e he
theorem qQ.leaf {g f:A} {B:List Bool} {k:Nat} {T:List Nat} (w:g.WF) (hB:bW g B) (h:qQ g B k f T) {e:Nat} (he:e∈leaves g B k):e / 2 < g.N/\(e / 2<=g.m\/sC g B k (e / 2)):=by
 have hm:=uX w hB e he
 obtain ⟨u,x,y,hp,NV⟩:=nu hm.1
 have hu:=(A.bt hp).1
 have hk:=w.kids hp
 exact ⟨by rcases NV with rfl | rfl <;> lia, .inr ⟨hm.2.2,HG w hB he,PL hm.1⟩⟩
theorem qQ.step {g f f':A} {B:List Bool} {k x y lit:Nat} {T:List Nat} (w:g.WF) (hB:bW g B) (h:qQ g B k f T) (hp:g.pair k=some (x,y)) (Vf:B.getD k false=false) (hj:qS f (cX T (leaves g B k)) f' [lit]):qQ g B (k+1) f' (T.set k lit):=by
 have hN:=A.bt hp
 have two:=pB w hB hp
 have hlen:(cX T (leaves g B k)).length=(leaves g B k).length:=by simp [cX]
 have aal: ∀z,f'.lv z lit=g.val z k:=λ z=>by
  have:=hj.val z
  simp only [List.all_cons,List.all_nil,Bool.and_true] at this
  rw [this,<- D9 w hB hp]
  unfold cX
  rw [List.all_map,Bool.eq_iff_iff]
  simp only [List.all_eq_true,Function.comp]
  have: ∀e∈leaves g B k,f.lv z (T.getD (e / 2) 0 ^^^ e % 2)=g.lv z e:=λ e he=>(h.tab.moved (h.leaf w hB he).1 (h.leaf w hB he).2).2 z
  exact ⟨λ q e he=>by rw [<- this e he]; exact q e he,λ q e he=>by rw [this e he]; exact q e he⟩
 have dz:=hj.lt lit (.head _)
 have DQ:k < T.length:=by rw [h.tab.len]; exact hN.1
 have old: ∀v,v≠k->(v<=g.m\/sC g B (k+1) v)->(v<=g.m\/sC g B k v):=λ v eS hh=>hh.imp id λ q=>⟨by have:=q.1; lia,q.2⟩
 have hkr:f'.bH (lit / 2)<=g.bH k:=by
  have h1:=hj.kr (g.bH k) ?_
  ·simp only [cj,List.map_cons,List.map_nil,List.sum_cons,List.sum_nil,Nat.add_zero] at h1
   exact (Nat.pow_le_pow_iff_right (by decide)).mp h1
  ·refine Nat.le_trans ?_ (zc w hB k (by rw [hp]; rfl))
   have:cj (λ e=>f.bH (e / 2)) (cX T (leaves g B k))=cj (λ e=>f.bH (T.getD (e / 2) 0 / 2)) (leaves g B k):=by
    unfold cj cX
    rw [List.map_map]
    congr 1
    refine List.map_congr_left λ e j=>?_
    simp only [Function.comp,A.bu]
   rw [this]
   exact uV λ e he=>h.bH _ (h.leaf w hB he).1 (h.leaf w hB he).2
 have hjN:=hj.N
 have hjs:kR g B (λ j=>true) (k+1)=kR g B (λ j=>true) k+dX g B k:=by
  rw [fv,if_pos (by simp [hN.2]; simpa using Vf)]
 have Z4:dX g B k=(leaves g B k).length - 1:=rfl
 refine ⟨(h.tab.set hN.1 hj.le hj.wf dz aal).mono λ v j j q=>?_,λ v hv hh=>?_,?_,λ S hS=>?_⟩
 ·by_cases e:v=k
  ·exact .inr e
  ·exact .inl ⟨by have:=q.1; lia,q.2⟩
 ·rw [aM]
  by_cases e:k=v
  ·subst e; rw [if_pos ⟨rfl,DQ⟩]; exact hkr
  ·rw [if_neg (λ q=>e q.1),hj.le.bH (h.tab.ok v hv (old v (Ne.symm e) hh)).1]
   exact h.bH v hv (old v (Ne.symm e) hh)
 ·have:=h.N
  simp only [List.length_cons,List.length_nil] at hjN
  lia
 ·obtain ⟨bX,hi,hc⟩:=h.bX S hS
  have I2: ∀(I:List Nat),(∀u∈bX,u∈I)->∀v,v < g.N->(v<=g.m\/sC g B (k+1) v)->v≠k->S v=true->(T.set k lit).getD v 0 / 2∈I\/(T.set k lit).getD v 0 / 2<=g.m:=by
   intro I hI v hv hh eS hs
   rw [aM,if_neg (λ q=>eS q.1.symm)]
   exact (hi.tab v hv (old v eS hh) hs).imp (hI _) id
  by_cases c:S k=true
  ·have hL:SX f bX (cX T (leaves g B k)):=by
    refine ⟨λ u hu l r NR=>by rw [h.tab.m]; exact hi.kids u hu l r NR,hi.lt,λ e he=>?_⟩
    obtain ⟨e',yR,rfl⟩:=List.mem_map.mp he
    rw [A.bu,h.tab.m]
    exact hi.tab _ (h.leaf w hB yR).1 (h.leaf w hB yR).2 (LZ w hB hS c e' yR)
   obtain ⟨I,h1,h2,h3⟩:=hj.bX bX hL
   have FC:f'.m=g.m:=hj.le.m.trans h.tab.m
   have aaG:kR g B S (k+1)=kR g B S k+dX g B k:=by rw [fv,if_pos (by simp [hN.2,c]; simpa using Vf)]
   refine ⟨I,⟨λ v hv hh hs=>?_,λ u hu l r NR=>by rw [<- FC]; exact h1.kids u hu l r NR,h1.lt⟩,by simp only [List.length_cons,List.length_nil] at h3; lia⟩
   by_cases e:v=k
   ·subst e; rw [aM,if_pos ⟨rfl,DQ⟩,<- FC]; exact h1.mem lit (.head _)
   ·exact I2 I h2 v hv hh e hs
  ·have hg:=hi.grow hj.le
   exact ⟨bX,⟨λ v hv hh hs=>I2 bX (λ j q=>q) v hv hh (λ e=>c (e▸hs)) hs,hg.kids,hg.lt⟩,by rw [fv]; exact Nat.le_add_right_of_le hc⟩
section
variable {n a c b r t d:Nat} {g:A} {K:PF} {B:List Bool}
theorem GP {T:List Nat} {ls xs:Nat} {L:List Nat} {node:V} {rest:List (Option V)} (hT: ∀e∈L,e / 2 < T.length) (hlen:L.length < 900000) (htx:t≠xs) (YD:ls≠xs) {z0 z1 z2 z3 z5:Option V}: ∀(todo dn:List Nat) (H H₀:Hp) (o8:Option V),dn++todo=L->
  H t=some (.list (ae T))->H ls=some (.list (ae L))->H xs=some (.list (ae (cX T dn)))->ExtBut xs H₀ H->
  (∀H' o8,H' xs=some (.list (ae (cX T L)))->ExtBut xs H₀ H'->K .next ⟨[z0,z1,z2,z3,some (.ref t),z5,some node,some (.ref xs),o8],H'⟩)->
  aC (au prog (n+1)) (.inr 8) L_balance_1 (.ref ls) (ae L) K (ae todo) ⟨[z0,z1,z2,z3,some (.ref t),z5,some node,some (.ref xs),o8],H⟩:=by
 intro todo
 induction todo with
 | nil=>
  intro dn H H₀ o8 hd ht hl hx hE fin
  rw [List.append_nil] at hd; subst hd
  exact fin H o8 hx hE
 | cons e todo ih=>
  intro dn H H₀ o8 hd ht hl hx hE fin
  have hm:e∈L:=hd▸List.mem_append_right _ (.head _)
  show aC _ (.inr 8) L_balance_1 _ _ K (nV e::ae todo) _
  simp only [mach,L_balance_1]
  refine And.intro (dN hx) (j0 ht (hT e hm) ?_)
  have WC:(ae (cX T dn)).length < lim:=by
   have:=congrArg List.length hd
   simp at this
   rw [az]; simp [cX]; unfold lim; lia
  have hl':itemsOf (upd H xs (.list (ae (cX T dn)++ [nV (T.getD (e / 2) 0 ^^^ e % 2)]))) (.ref ls)=some (ae L):=ay ((ao _ _ YD).trans hl)
  simp only [mach,loops,ik hx WC]
  refine ⟨hl',?_⟩
  refine ih (dn++ [e]) _ H₀ _ (by simp [hd]) ((ao _ _ htx).trans ht) ((ao _ _ YD).trans hl) ?_ (hE.trans (.upd _ _ _)) fin
  rw [ah]; simp [cX,ae]
theorem JC (w:g.WF) (hN:g.N < 2000) (hB:bW g B) (pM:a≠r) (d9:a≠t) (tI:a≠d) (hcr:c≠r) (Kt:c≠t) (Ks:c≠d) (hbr:b≠r) (ZQ:b≠t) (ZP:b≠d) (lL:r≠t) (NS:r≠d) (htd:t≠d)
  {all:List V} (hit: ∀H,itemsOf H (.range 0 (g.N:Int) false)=some all): ∀(m k:Nat) (f:A) (T:List Nat) (H H₀:Hp) (o6 o7 o8:Option V),k+m=g.N->H a=some g.obj->H c=some (.list (ae (eQ g.N (aS (lits g)++aS g.outs))))->H b=some (.list (aR B))->
  H r=some f.obj->H t=some (.list (ae T))->H d=some (.list (ae (cL f)))->(∀x o,x≠r->x≠t->x≠d->H₀ x=some o->H x=some o)->qQ g B k f T->
  (∀H' f T o6 o7 o8,H' a=some g.obj->H' r=some f.obj->H' t=some (.list (ae T))->(∀x o,x≠r->x≠t->x≠d->H₀ x=some o->H' x=some o)->qQ g B g.N f T->
   K .next ⟨[some (.ref a),some (.ref c),some (.ref b),some (.ref r),some (.ref t),some (.ref d),o6,o7,o8],H'⟩)->
  aC (au prog (n+2)) (.inr 6) L_balance_0 (.range 0 (g.N:Int) false) all K (ae (List.range' k m)) ⟨[some (.ref a),some (.ref c),some (.ref b),some (.ref r),some (.ref t),some (.ref d),o6,o7,o8],H⟩:=by
 intro m
 induction m with
 | zero=>
  intro k f T H H₀ o6 o7 o8 hk hG hc hb hr ht hd hE hI fin
  have:k=g.N:=by assumption
  subst this
  exact fin H f T _ _ _ hG hr ht hE hI
 | succ m ih=>
  intro k f T H H₀ o6 o7 o8 hk hG hc hb hr ht hd hE hI fin
  rw [List.range'_succ]
  show aC _ (.inr 6) L_balance_0 _ _ K (nV k::ae (List.range' (k+1) m)) _
  have pN:k < g.N:=by exact adk (by assumption)
  have Z5:k < (eQ g.N (aS (lits g)++aS g.outs)).length:=by rw [dU]; exact pN
  have hkB:k < B.length:=by rw [hB.len]; exact pN
  have skip:(g.pair k=none\/B.getD k false=true\/P0 g k=0)->∀o7 o8,aC (au prog (n+2)) (.inr 6) L_balance_0 (.range 0 (g.N:Int) false) all K (ae (List.range' (k+1) m)) ⟨[some (.ref a),some (.ref c),some (.ref b),some (.ref r),some (.ref t),some (.ref d),some (nV k),o7,o8],H⟩:=
   λ hs o7 o8=>ih (k+1) f T H H₀ _ _ _ (by lia) hG hc hb hr ht hd hE (hI.skip hs) fin
  simp only [mach,ops,ops2,loops,L_balance_0,aw hG 0 (by decide),aO hG pN]
  cases hp:g.pair k with
  | none=>
   simp only [mach,loops,Option.isNone_none,if_true,hit,true_and]
   exact skip (.inl hp) _ _
  | some p=>
   obtain ⟨x,y⟩:=p
   simp only [mach,ops,Option.isNone_some,Bool.false_eq_true,if_false,d7 hb hkB]
   cases Vf:B.getD k false with
   | true=>
    simp only [mach,loops,if_true,hit,true_and]
    exact skip (.inr (.inl Vf)) _ _
   | false=>
    simp only [mach,ops,Bool.false_eq_true,if_false,bD hc Z5,jT _ pN]
    by_cases ho:List.count k (aS (lits g)++aS g.outs)=0
    ·simp only [mach,loops,ho,if_true,hit,true_and]
     exact skip (.inr (.inr ho)) _ _
    ·simp only [mach,ho,if_false]
     refine aq λ xs H1 f1 e1 x1=>?_
     have hjb:=uN w hB (k:=k+1) (by assumption)
     have hN2:=A.bt hp
     have hjs:kR g B (λ j=>true) (k+1)=kR g B (λ j=>true) k+dX g B k:=by
      rw [fv,if_pos (by simp [hN2.2]; simpa using Vf)]
     have hlen:(leaves g B k).length<=g.ands.length+1:=by
      have:dX g B k=(leaves g B k).length - 1:=rfl
      lia
     have hands:g.ands.length < g.N:=by unfold A.N; lia
     simp only [mach,ai]
     refine vP (x1 _ _ hG) w hB (x1 _ _ hb) hp (by lia) λ ls H2 x2 f2 e2=>?_
     have aap:=x2 _ _ e1
     simp only [mach,ai]
     rw [aX (ay e2)]
     have htx:t≠xs:=ak ht f1
     have YD:ls≠xs:=by
      intro q; rw [q,e1] at f2; cases f2
     refine GP (T:=T) (rest:= []) (λ e he=>by rw [hI.tab.len]; exact (hI.leaf w hB he).1) (by lia) htx YD (leaves g B k) [] H2 H2 _ rfl (x2 _ _ (x1 _ _ ht)) e2 (by simpa [cX,ae] using aap) (.refl _ _) λ H3 o8' e3 x3=>?_
     have up: ∀z o,H z=some o->H3 z=some o:=λ z o e=>x3 z o (ak e f1) (x2 _ _ (x1 _ _ e))
     simp only [mach,ai]
     have O5:f.N+(cX T (leaves g B k)).length < 9000:=by
      have:=hI.N
      have:(cX T (leaves g B k)).length=(leaves g B k).length:=by simp [cX]
      have hm:g.m < g.N:=by unfold A.N; lia
      lia
     have two:=pB w hB hp
     refine Pu (up _ _ hr) hI.tab.wf O5 (up _ _ hd) e3 (by intro q; have:=congrArg List.length q; simp [cX] at this; rw [this] at two; simp at two) ?_ NS λ lit f' H4 x4 Rq ZT hj=>?_
     ·intro e he
      obtain ⟨e',yR,rfl⟩:=List.mem_map.mp he
      exact (hI.tab.moved (hI.leaf w hB yR).1 (hI.leaf w hB yR).2).1
     have WO:H4 t=some (.list (ae T)):=x4 _ _ (Ne.symm lL) htd (up _ _ ht)
     have DQ:k < T.length:=by rw [hI.tab.len]; exact pN
     simp only [mach,loops,eP WO DQ,hit,true_and]
     refine ih (k+1) f' (T.set k lit) _ H₀ _ _ _ (by lia) ?_ ?_ ?_ ?_ (ah _ _ _) ?_ ?_ (hI.step w hB hp Vf hj) fin
     ·exact (ao _ _ d9).trans (x4 _ _ pM tI (up _ _ hG))
     ·exact (ao _ _ Kt).trans (x4 _ _ hcr Ks (up _ _ hc))
     ·exact (ao _ _ ZQ).trans (x4 _ _ hbr ZP (up _ _ hb))
     ·exact (ao _ _ lL).trans Rq
     ·exact (ao _ _ (Ne.symm htd)).trans ZT
     ·exact λ z o h1 h2 h3 e=>(ao _ _ h2).trans (x4 _ _ h1 h3 (up _ _ (hE z o h1 h2 h3 e)))
theorem L4 (m:Nat):List.replicate (lT m).N 0=cL (lT m):=by
 refine List.ext_getElem (by simp [cL]) λ i h1 h2=>?_
 simp only [cL,List.getElem_replicate,List.getElem_map,List.getElem_range]
 rw [A.uY]
 simp [ni] at h1
 show i<=m; exact Nat.le_of_lt_succ h1
theorem t7 {H:Hp} {Q:V->Hp->Prop} (hG:H a=some g.obj) (w:g.WF) (hN:g.N < 2000) (hO:g.outs.length < 1000)
  (k: ∀s g' H',Ext H H'->H s= .none->H' s=some g'.obj->cC g g'->(∀S:Nat->Bool,A.cp g (S · =true)->(∀o∈g.outs,S (o / 2)=true)->g'.ands.length<=fP g S g.N)->
   (∃τ:Nat->Nat,g'.outs=g.outs.map τ/\∀o∈g.outs,g'.bH (τ o / 2)<=g.bH (o / 2))->Q (.ref s) H'):
  au prog (n+4) Ho [.ref a] Q H:=by
 refine aj rg [some (.ref a), .none, .none, .none, .none, .none, .none, .none, .none] rfl rfl ?_
 show Xs _ nI _ _
 simp only [mach,nI]
 refine oO hG w (by lia) λ c H1 x1 fc hc=>?_
 have cF:=x1 _ _ hG
 simp only [mach,ai]
 refine Aj cF w (by lia) hc λ b B H2 x2 fb hb hB=>?_
 have dk:=x2 _ _ cF
 simp only [mach,ai]
 refine pK dk (by lia) λ r t H3 x3 fr ft lL hr ht=>?_
 have FA:=x3 _ _ dk
 simp only [mach,List.length_cons,List.length_nil,true_and]
 refine aq λ z H4 fz ez x4=>?_
 have Rq:=x4 _ _ hr
 have hNm:(lT g.m).N=g.m+1:=ni _
 have WG:g.m < g.N:=by unfold A.N; lia
 have bz:(lT g.m).N<=lim:=by rw [hNm]; unfold lim; lia
 simp only [mach,aw Rq 0 (by decide),bj Rq,mul_list ez bz,qG,L4]
 refine aq λ d H5 fd ed x5=>?_
 have TP:=x5 _ _ (x4 _ _ FA)
 have WD:g.N<=lim:=by unfold lim; lia
 simp only [mach,aw TP 0 (by decide),bj TP]
 rw [bO WD,aX aJ,List.range_eq_range']
 have hc5:=x5 _ _ (x4 _ _ (x3 _ _ (x2 _ _ hc)))
 have hb5:=x5 _ _ (x4 _ _ (x3 _ _ hb))
 have nd: ∀{q:Nat} {o:O},H4 q=some o->q≠d:=λ e=>ak e fd
 refine JC w hN hB (ak dk fr) (ak dk ft) (nd (x4 _ _ FA)) (ak (x2 _ _ hc) fr) (ak (x2 _ _ hc) ft) (nd (x4 _ _ (x3 _ _ (x2 _ _ hc)))) (ak hb fr) (ak hb ft) (nd (x4 _ _ (x3 _ _ hb))) lL (nd Rq) (nd (x4 _ _ ht))
  (λ x=>aJ.trans (by rw [List.range_eq_range'])) g.N 0 _ _ H5 H5 _ _ _ (by exact Nat.zero_add g.N) TP hc5 hb5 (x5 _ _ Rq) (x5 _ _ (x4 _ _ ht)) ed (λ x x x x x e=>e) (qQ.start g B) λ H6 f T o6 o7 o8 hG6 hr6 ht6 ZG hI=>?_
 simp only [mach,ai]
 have Kw: ∀o∈g.outs,o / 2<=g.m\/sC g B g.N (o / 2):=λ o ho=> .inr ⟨w.outs o ho,(B8 hB ho).1,(B8 hB ho).2⟩
 have O5:f.N < 5000:=by
  have h1:=hI.N
  have h2:=uN w hB (k:=g.N) (Nat.le_refl _)
  have hands:g.ands.length < g.N:=by unfold A.N; lia
  lia
 refine finish_ok hG6 w hO hr6 ht6 hI.tab.len hI.tab.outs hI.tab.wf O5 (λ o ho=>(hI.tab.ok _ (w.outs o ho) (Kw o ho)).1) (ak dk fr) lL λ s g' H7 hE7 fs es hs=>?_
 simp only [mach,ai]
 have up: ∀q o,H q=some o->H2 q=some o:=λ q o e=>x2 _ _ (x1 _ _ e)
 have up6: ∀q o,H q=some o->H6 q=some o:=λ q o e=>ZG q o (ak (up q o e) fr) (ak (up q o e) ft) (nd (x4 _ _ (x3 _ _ (up q o e)))) (x5 _ _ (x4 _ _ (x3 _ _ (up q o e))))
 refine k s g' H7 (λ q o e=>hE7 q o (ak (up q o e) fr) (up6 q o e)) ?_ es (cC.of hI.tab Kw w hs) (λ S hS ho=>?_) ?_
 ·cases q:H s with
  | none=>rfl
  | some o=>rw [up6 s o q] at fs; cases fs
 ·obtain ⟨bX,hi,hcn⟩:=hI.bX S hS
  exact Nat.le_trans (hi.cnt hI.tab w Kw ho hs) (Nat.le_trans hcn (Bo w hB S hS))
 ·obtain ⟨τ,e,hτ⟩:=hs.outs
  refine ⟨λ o=>τ (T.getD (o / 2) 0 ^^^ o % 2),by rw [e]; simp [fE],λ o ho=>?_⟩
  have h1:=(hτ _ (List.mem_map_of_mem ho)).2
  refine Nat.le_trans h1 (Nat.le_trans (Nat.le_of_eq (A.BD f _ _)) ?_)
  rw [A.bu]
  exact hI.bH _ (w.outs o ho) (Kw o ho)
end
end
section
inductive Tr where
 | zero | one
 | lit (p s:Nat)
 | and (a b:Tr)
 | or (a b:Tr)
namespace Tr
noncomputable def size:Tr->Nat
 | .and a b=>1+a.size+b.size
 | .or a b=>1+a.size+b.size
 | _=>0
noncomputable def depth:Tr->Nat
 | .and a b=>1+max a.depth b.depth
 | .or a b=>1+max a.depth b.depth
 | _=>0
noncomputable def val (e:Nat->Bool):Tr->Bool
 | .zero=>false
 | .one=>true
 | .lit p s=>e p ^^ (s == 0)
 | .and a b=>a.val e && b.val e
 | .or a b=>a.val e || b.val e
noncomputable def okIn (k:Nat):Tr->Bool
 | .lit p s=>decide (p < k) && decide (s<=1)
 | .and a b=>a.okIn k && b.okIn k
 | .or a b=>a.okIn k && b.okIn k
 | _=>true
noncomputable def K5:Tr->Bool
 | .one=>true
 | _=>false
theorem Mw {k p s:Nat} (h:okIn k (.lit p s)=true):p < k/\s<=1:=by
 have h:(decide (p < k) && decide (s<=1))=true:=h
 rwa [Bool.and_eq_true,decide_eq_true_eq,decide_eq_true_eq] at h
theorem rC {k:Nat} {a b:Tr} (h:(a.okIn k && b.okIn k)=true):a.okIn k=true/\b.okIn k=true:=Bool.and_eq_true _ _▸h
end Tr
noncomputable def bp (k:Nat):Nat:=(1 <<< (1 <<< k)) - 1
noncomputable def vI (i k:Nat):Nat:=bp k ^^^ (bp k / ((1 <<< (1 <<< i))+1))
noncomputable def c7 (t i bit k:Nat):Nat:=
 if bit=1 then (t &&& vI i k) ||| ((t &&& vI i k) >>> (1 <<< i))
 else (t ^^^ (t &&& vI i k)) ||| ((t ^^^ (t &&& vI i k)) <<< (1 <<< i))
noncomputable def q9 (t i k:Nat):Bool:=decide (c7 t i 0 k≠c7 t i 1 k)
noncomputable def qd (k p v:Nat) (r i:Nat):Nat:=
 if (p >>> i) &&& 1=1 then (if (v >>> i) &&& 1=1 then r &&& vI i k else r &&& (bp k ^^^ vI i k)) else r
noncomputable def Fu (k:Nat) (c:Nat×Nat):Nat:=(List.range k).foldl (qd k c.1 c.2) (bp k)
noncomputable def iF (k:Nat) (cs:List (Nat×Nat)):Nat:=cs.foldl (λ r c=>r ||| Fu k c) 0
noncomputable def m8 (on upper k:Nat):Nat->Option Nat
 | 0=>none
 | i+1=>if q9 on i k=true\/q9 upper i k=true then some i else m8 on upper k i
noncomputable abbrev Nu (k a b:Nat):Prop:=1<=k/\k<=3/\a < 65536/\b < 65536
noncomputable def eJ:Nat->Nat->Nat->Nat->Option (List (Nat×Nat))
 | 0,_,_,_=>none
 | f+1,on,upper,k=>
  if Nu k on upper then
   if on=0 then some [] else
   if upper=bp k then some [(0,0)] else
   match m8 on upper k k with
   | none=>none
   | some i=>
    match eJ f (c7 on i 0 k &&& (bp k ^^^ c7 upper i 1 k)) (c7 upper i 0 k) k with
    | none=>none
    | some c0=>
     match eJ f (c7 on i 1 k &&& (bp k ^^^ c7 upper i 0 k)) (c7 upper i 1 k) k with
     | none=>none
     | some c1=>
      match eJ f ((c7 on i 0 k &&& (bp k ^^^ iF k c0)) ||| (c7 on i 1 k &&& (bp k ^^^ iF k c1))) (c7 upper i 0 k &&& c7 upper i 1 k) k with
      | none=>none
      | some c2=>if c0.length+c1.length+c2.length < 100 then some (((c0.map λ c=>(c.1 ||| 1 <<< i,c.2))++c1.map λ c=>(c.1 ||| 1 <<< i,c.2 ||| 1 <<< i))++c2) else none
  else none
noncomputable def jr (mask value:Nat):Nat->Nat->Option Tr->Option (Option Tr)
 | f,place,acc=>if mask >>> place=0 then some acc else match f with
  | 0=>none
  | f+1=>jr mask value f (place+1) (if (mask >>> place) &&& 1≠0 then some (match acc with
    | none=> .lit place ((value >>> place) &&& 1)
    | some t=> .and t (.lit place ((value >>> place) &&& 1))) else acc)
theorem GR {mask value:Nat} {f place:Nat} {acc:Option Tr}:jr mask value f place acc=if mask >>> place=0 then some acc else match f with
  | 0=>none
  | f+1=>jr mask value f (place+1) (if (mask >>> place) &&& 1≠0 then some (match acc with
    | none=> .lit place ((value >>> place) &&& 1)
    | some t=> .and t (.lit place ((value >>> place) &&& 1))) else acc):=by cases f <;> rfl
noncomputable def uZ (cs:List (Nat×Nat)) (p s:Nat):Nat:=(cs.filter λ c=>(c.1 >>> p) &&& 1≠0 && (c.2 >>> p) &&& 1 == s).length
noncomputable def nM (cs:List (Nat×Nat)) (best:Nat×Nat×Nat) (ps:Nat×Nat):Nat×Nat×Nat:=
 if best.1 < uZ cs ps.1 ps.2 then (uZ cs ps.1 ps.2,ps.1,ps.2) else best
noncomputable def lR (cs:List (Nat×Nat)) (k:Nat):Nat×Nat×Nat:=(List.range k).foldl (λ b p=>nM cs (nM cs b (p,0)) (p,1)) (0,0,0)
noncomputable def cW (p s:Nat) (c:Nat×Nat):Bool:=(c.1 &&& 1 <<< p≠0) && ((c.2 >>> p) &&& 1 == s)
noncomputable def without (p:Nat) (c:Nat×Nat):Nat×Nat:=(c.1 - (c.1 &&& 1 <<< p),c.2 - (c.2 &&& 1 <<< p))
noncomputable def aW:Nat->List (Nat×Nat)->Nat->Option Tr
 | 0,_,_=>none
 | f+1,cs,k=>
  if 100 < cs.length then none else
  match cs with
  | []=>some .zero
  | c::r=>
   if (c::r).any (λ c=>c.1 == 0) then some .one else
   match r with
   | []=>(match jr c.1 c.2 20 0 none with
    | some (some t)=>some t
    | some none=>some .one
    | none=>none)
   | _::_=>
    if (lR cs k).2.1<=20 then
    if (lR cs k).1=1 then
     match aW f (cs.take (cs.length / 2)) k,aW f (cs.drop (cs.length / 2)) k with
     | some a,some b=>some (.or a b)
     | _,_=>none
    else
     match aW f ((cs.filter (cW (lR cs k).2.1 (lR cs k).2.2)).map (without (lR cs k).2.1)) k with
     | none=>none
     | some inner=>
      let tree:=if inner.K5 then Tr.lit (lR cs k).2.1 (lR cs k).2.2 else .and (.lit (lR cs k).2.1 (lR cs k).2.2) inner
      match cs.filter λ c=>!cW (lR cs k).2.1 (lR cs k).2.2 c with
      | []=>some tree
      | e::r'=>match aW f (e::r') k with
       | some t=>some (.or tree t)
       | none=>none
    else none
noncomputable def cS:Nat:=6
noncomputable def cQ:Nat:=8
noncomputable def wU (t k:Nat):Option (Tr×Nat):=
 match eJ cS t t k,eJ cS (bp k ^^^ t) (bp k ^^^ t) k with
 | some a,some b=>(match aW cQ a k,aW cQ b k with
  | some on,some off=>if off.depth<=6/\on.depth<=6 then (if off.size < on.size then some (off,1) else some (on,0)) else none
  | _,_=>none)
 | _,_=>none
noncomputable def vj (k t:Nat):Bool:=match wU t k with
 | none=>false
 | some (tr,inv)=>decide (inv<=1) && tr.okIn k && decide (tr.depth<=6) && decide (tr.size<=20) && (List.range (2 ^ k)).all λ j=>((tr.val λ i=>j.testBit i) ^^ (inv == 1)) == t.testBit j
theorem P1:((List.range 16).all (vj 2))=true:=by decide+kernel
theorem P2:((List.range 256).all (vj 3))=true:=by decide+kernel
end
section
open A
section
variable {n:Nat} {H:Hp} {Q:V->Hp->Prop} {C:CT}
theorem qM {QV:PV} {σ:St} {a b:Nat} (h:b<=a):cw .sub (nV a) (nV b) QV σ=QV (nV (a - b)) σ:=by
 have:(a:Int) - (b:Int)=((a - b:Nat):Int):=by exact Eq.symm (Int.ofNat_sub h)
 show QV (.int ((a:Int) - (b:Int))) σ=_
 rw [this]
theorem b9 {QV:PV} {σ:St} {a b:Nat} (ha:a < 2 ^ 40) (hb:b<=1000):cw .shl (nV a) (nV b) QV σ=QV (nV (a <<< b)) σ:=
 Qf (Nat.lt_of_lt_of_le ha (by decide)) (by lia)
theorem sm (k:Nat):1<=1 <<< k:=by rw [Nat.shiftLeft_eq]; have:0 < 2 ^ k:=Nat.pow_pos (by decide); exact Nat.le_mul_of_pos_right 1 this
theorem kY {k:Nat} (h:k<=3):1 <<< k<=8:=by
 match k,h with
 | 0,_=>decide
 | 1,_=>decide
 | 2,_=>decide
 | 3,_=>decide
theorem fH {k:Nat} (hk:k<=3) (h:Q (nV (bp k)) H):au prog (n+1) qp [nV k] Q H:=by
 refine aj kH [some (nV k)] rfl rfl ?_
 show Xs _ gS _ _
 have h1:=kY hk
 simp only [mach,gS,b9 (show 1 < 2 ^ 40 by decide) (show k<=1000 by lia),b9 (show 1 < 2 ^ 40 by decide) (show 1 <<< k<=1000 by lia),qM (sm _)]
 exact h
theorem hX {i k:Nat} (hi:i<=3) (hk:k<=3) (h:Q (nV (vI i k)) H):au prog (n+2) Bg [nV i,nV k] Q H:=by
 refine aj m3 [some (nV i),some (nV k), .none] rfl rfl ?_
 show Xs _ i7 _ _
 have h1:=kY hi
 simp only [mach,i7]
 refine fH hk ?_
 have h2:(1 <<< (1 <<< i))+1 < 1073741824:=by
  rw [Nat.shiftLeft_eq]
  have:2 ^ (1 <<< i)<=2 ^ 8:=Nat.pow_le_pow_right (by decide) h1
  lia
 simp only [mach,ops,b9 (show 1 < 2 ^ 40 by decide) (show i<=1000 by lia),b9 (show 1 < 2 ^ 40 by decide) (show 1 <<< i<=1000 by lia),de (Nat.succ_ne_zero _) h2]
 exact h
theorem Zm {a b m:Nat} (h:a < m):a &&& b < m:=Nat.lt_of_le_of_lt Nat.and_le_left h
theorem EW (a b:Nat):a ^^^ (a &&& b)<=a:=by
 have:=vn a (a &&& b)
 have e1:a ||| (a &&& b)=a:=by
  refine Nat.eq_of_testBit_eq λ i=>?_
  simp only [Nat.testBit_or,Nat.testBit_and]; cases a.testBit i <;> rfl
 lia
theorem mJ {t i bit k:Nat} (hi:i<=3) (hk:k<=3) (ht:t < 65536) (h:Q (nV (c7 t i bit k)) H):au prog (n+3) uG [nV t,nV i,nV bit,nV k] Q H:=by
 refine aj pd [some (nV t),some (nV i),some (nV bit),some (nV k), .none, .none] rfl rfl ?_
 show Xs _ ka _ _
 have h1:=kY hi
 simp only [mach,ka]
 refine hX hi hk ?_
 unfold c7 at h
 simp only [mach,ops,ai]
 refine aL (λ c=>?_) λ c=>?_
 ·rw [if_pos c] at h
  simp only [mach,ops,c,if_true,b9 (show 1 < 2 ^ 40 by decide) (show i<=1000 by lia)]
  exact h
 ·rw [if_neg c] at h
  have hl:t ^^^ (t &&& vI i k) < 2 ^ 40:=Nat.lt_of_le_of_lt (EW _ _) (by lia)
  simp only [mach,ops,c,if_false,b9 (show 1 < 2 ^ 40 by decide) (show i<=1000 by lia),b9 hl (show 1 <<< i<=1000 by lia)]
  exact h
theorem Dx {t i k:Nat} (hi:i<=3) (hk:k<=3) (ht:t < 65536) (h:Q (.bool (q9 t i k)) H):au prog (n+4) xm [nV t,nV i,nV k] Q H:=by
 refine aj rh [some (nV t),some (nV i),some (nV k)] rfl rfl ?_
 show Xs _ nJ _ _
 simp only [mach,nJ]
 refine mJ hi hk ht ?_
 simp only [mach,ai]
 refine mJ hi hk ht ?_
 simp only [mach,ops,ai]
 exact h
theorem G8 {K:PF} {p v k:Nat} (hk:k<=3) {c:V} {all:List V} (hit: ∀H,itemsOf H (.range 0 (k:Int) false)=some all): ∀(d i r:Nat) (o6:Option V),i+d=k->
  (∀o6,K .next ⟨[some c,some (nV k),some (nV p),some (nV v),some (nV (bp k)),some (nV ((List.range' i d).foldl (qd k p v) r)),o6],H⟩)->
  aC (au prog (n+2)) (.inr 6) L_cube_table_0 (.range 0 (k:Int) false) all K (ae (List.range' i d)) ⟨[some c,some (nV k),some (nV p),some (nV v),some (nV (bp k)),some (nV r),o6],H⟩:=by
 intro d
 induction d with
 | zero=>intro i r o6 _ fin; exact fin o6
 | succ d ih=>
  intro i r o6 hd fin
  rw [List.range'_succ] at fin ⊢
  rw [List.foldl_cons] at fin
  have hi:i<=3:=by lia
  show aC _ (.inr 6) L_cube_table_0 _ _ K (nV i::ae (List.range' (i+1) d)) _
  simp only [mach,ops,loops,L_cube_table_0]
  have go:=ih (i+1) (qd k p v r i) (some (nV i)) (by lia) fin
  unfold qd at go
  refine aL (λ c1=>?_) λ c1=>?_
  ·rw [if_pos c1] at go
   simp only [mach,ops,c1,if_true]
   refine aL (λ c2=>?_) λ c2=>?_
   ·rw [if_pos c2] at go
    simp only [mach,c2,if_true]
    refine hX hi hk ?_
    simp only [mach,ops,loops,cg,hit,true_and]; exact go
   ·rw [if_neg c2] at go
    simp only [mach,c2,if_false]
    refine hX hi hk ?_
    simp only [mach,ops,loops,cg,hit,true_and]; exact go
  ·rw [if_neg c1] at go
   simp only [mach,loops,c1,if_false,hit,true_and]; exact go
theorem vT {c:Nat×Nat} {k:Nat} (hk:k<=3) (h:Q (nV (Fu k c)) H):au prog (n+3) yW [aF c,nV k] Q H:=by
 refine aj kG [some (aF c),some (nV k), .none, .none, .none, .none, .none] rfl rfl ?_
 show Xs _ gR _ _
 have hu: ∀(K:PF) l,LK [2,3] K (aF c) ⟨l,H⟩=K .next ⟨put (put l 2 (some (nV c.1))) 3 (some (nV c.2)),H⟩:=by
  intro K l; simp [aF,Bt,fU,iP]
 simp only [mach,gR,hu]
 refine fH hk ?_
 simp only [mach,ai]
 rw [bO (by unfold lim; lia),aX aJ,List.range_eq_range']
 refine G8 hk (λ x=>aJ.trans (by rw [List.range_eq_range'])) k 0 _ _ (by exact Nat.zero_add k) λ o6=>?_
 simp only [mach,ai]
 unfold Fu at h; rw [List.range_eq_range'] at h; exact h
theorem Dt {K:PF} {k t:Nat} {all:List V} {H:Hp} (hk:k<=3) (hit:itemsOf H (.ref t)=some all): ∀(cs:List (Nat×Nat)) (r:Nat) (o3:Option V),
  (∀o3,K .next ⟨[some (.ref t),some (nV k),some (nV (cs.foldl (λ r c=>r ||| Fu k c) r)),o3],H⟩)->
  aC (au prog (n+3)) (.inr 3) L_cover_table_0 (.ref t) all K (aN cs) ⟨[some (.ref t),some (nV k),some (nV r),o3],H⟩:=by
 intro cs
 induction cs with
 | nil=>intro r o3 fin; exact fin o3
 | cons c cs ih=>
  intro r o3 fin
  show aC _ (.inr 3) L_cover_table_0 _ _ K (aF c::aN cs) _
  simp only [mach,loops,L_cover_table_0]
  refine vT hk ?_
  simp only [mach,ops,loops,cg,hit,true_and]
  exact ih _ _ fin
theorem ud {t k:Nat} {cs:List (Nat×Nat)} (ht:H t=some (.list (aN cs))) (hk:k<=3) (h:Q (nV (iF k cs)) H):au prog (n+4) jG [.ref t,nV k] Q H:=by
 refine aj jF [some (.ref t),some (nV k), .none, .none] rfl rfl ?_
 show Xs _ fG _ _
 simp only [mach,fG]
 rw [aX (ay ht)]
 refine Dt hk (ay ht) cs 0 _ λ o3=>?_
 simp only [mach,ai]; exact h
theorem Kc {on upper k:Nat}: ∀{j i:Nat},m8 on upper k j=some i->i < j
 | j+1,i,h=>by
  replace h:(if q9 on j k=true\/q9 upper j k=true then some j else m8 on upper k j)=some i:=h
  split at h
  ·cases h; exact Nat.lt_succ_self _
  ·have:=Kc h; exact Nat.lt_add_right 1 this
theorem Al {K:PF} {src dst:Nat} {f:Nat×Nat->Nat×Nat} {body:List S} {all:List V} {pre:List (Option V)} (hsd:src≠dst)
  (hb: ∀(C:CT) (K':PF) (c:Nat×Nat) (H:Hp) (xs:List V),H dst=some (.list xs)->xs.length < 900000->K' .next ⟨pre++ [some (aF c)],upd H dst (.list (xs++ [aF (f c)]))⟩->Xs C body K' ⟨pre++ [some (aF c)],H⟩)
  (hp: ∀(v w:Option V),put (pre++ [w]) 15 v=pre++ [v]): ∀(cs:List (Nat×Nat)) (xs:List V) (H H₀:Hp) (o:Option V),H dst=some (.list xs)->H src=some (.list all)->xs.length+cs.length < 900000->ExtBut dst H₀ H->
  (∀H' o,H' dst=some (.list (xs++aN (cs.map f)))->ExtBut dst H₀ H'->K .next ⟨pre++ [o],H'⟩)->
  aC C (.inr 15) body (.ref src) all K (aN cs) ⟨pre++ [o],H⟩:=by
 intro cs
 induction cs with
 | nil=>intro xs H H₀ o hd hs hl hE fin; exact fin H o (by simpa [aN] using hd) hE
 | cons c cs ih=>
  intro xs H H₀ o hd hs hl hE fin
  simp only [List.length_cons] at hl
  show aC _ (.inr 15) body _ _ K (aF c::aN cs) _
  rw [nQ,hp]
  refine hb _ _ c H xs hd (by exact Nat.lt_of_add_right_lt hl) ?_
  have Ub:upd H dst (.list (xs++ [aF (f c)])) src=some (.list all):=(ao _ _ hsd).trans hs
  rw [pz]
  refine ⟨ay Ub,?_⟩
  refine ih _ _ H₀ _ (ah _ _ _) Ub (by simp; lia) (hE.trans (.upd _ _ _)) λ H' o h1 h2=>?_
  refine fin H' o ?_ h2
  rw [h1]; simp [aN]
end
end
section
open A
theorem XX {Q:PV} {l:List (Option V)} {H:Hp} (c:Nat×Nat):b7 (aF c) (nV 0) Q ⟨l,H⟩=Q (nV c.1) ⟨l,H⟩:=rR c
theorem Di {QV:PV} {l:List (Option V)} {H:Hp} {a b:Nat} {xs ys:List V} (ha:H a=some (.list xs)) (hb:H b=some (.list ys)) (hl:xs.length+ys.length<=lim):
  cw .add (.ref a) (.ref b) QV ⟨l,H⟩=alloc (.list (xs++ys)) QV ⟨l,H⟩:=by
 unfold cw; simp [ha,hb,hl]
noncomputable def N2 (C:CT) (vs:List V) (cs:List (Nat×Nat)):Prop:=
 ∀(H:Hp) (Q:V->Hp->Prop),(∀t H',Ext H H'->H t= .none->H' t=some (.list (aN cs))->Q (.ref t) H')->C KR vs Q H
section
variable {n:Nat} {Q:V->Hp->Prop} {H:Hp} {o0 o1 o2 o3 o5 o6 o7 o8 o11 o12:Option V} {j k:Nat} {zW zX Ft:List (Nat×Nat)}
theorem Lb {C:CT} {t0 t1 t2 d:Nat} (hj:j<=3) (hlen:zW.length+zX.length+Ft.length < 100) (n0:t0≠d) (n1:t1≠d) (n2:t2≠d) (e:H d=some (.list [])) (q0:H t0=some (.list (aN zW))) (q1:H t1=some (.list (aN zX))) (q2:H t2=some (.list (aN Ft)))
  (fin: ∀t H5 H6,ExtBut d H H5->Ext H5 H6->H5 t= .none->H6 t=some (.list (aN (((zW.map λ c=>(c.1 ||| 1 <<< j,c.2))++zX.map λ c=>(c.1 ||| 1 <<< j,c.2 ||| 1 <<< j))++Ft)))->Q (.ref t) H6):
  Xs C (jq.drop 15) (d8 Q) ⟨[o0,o1,o2,o3,some (nV j),o5,o6,o7,o8,some (.ref t0),some (.ref t1),o11,o12,some (.ref t2),some (.ref d), .none],H⟩:=by
 have C3:j<=1000:=Nat.le_trans hj (by decide)
 simp only [mach,jq,List.drop]
 rw [aX (ay q0)]
 refine Al (pre:= [o0,o1,o2,o3,some (nV j),o5,o6,o7,o8,some (.ref t0),some (.ref t1),o11,o12,some (.ref t2),some (.ref d)]) (f:=λ c=>(c.1 ||| 1 <<< j,c.2)) n0 (λ C K' c H xs hd hl hK=>?_) (λ v w=>rfl) zW [] H H _ e q0 (by rw [List.length_nil]; omega) (.refl _ _) λ H4 o e4 x4=>?_
 ·simp only [List.cons_append,List.nil_append] at hK ⊢
  simp only [mach,ops,ops2,L_isop_1,b9 (show 1 < 2 ^ 40 by decide) C3,append_list hd (Nat.lt_of_lt_of_le hl (by decide:900000<=lim))]
  exact hK
 simp only [mach,List.cons_append,List.nil_append] at e4 ⊢
 rw [aX (ay (x4 _ _ n1 q1))]
 refine Al (pre:= [o0,o1,o2,o3,some (nV j),o5,o6,o7,o8,some (.ref t0),some (.ref t1),o11,o12,some (.ref t2),some (.ref d)]) (f:=λ c=>(c.1 ||| 1 <<< j,c.2 ||| 1 <<< j)) n1 (λ C K' c H xs hd hl hK=>?_) (λ v w=>rfl) zX _ H4 H _ e4 (x4 _ _ n1 q1) (by simp [aN]; omega) x4 λ H5 o e5 x5=>?_
 ·simp only [List.cons_append,List.nil_append] at hK ⊢
  simp only [mach,ops,ops2,L_isop_2,b9 (show 1 < 2 ^ 40 by decide) C3,append_list hd (Nat.lt_of_lt_of_le hl (by decide:900000<=lim))]
  exact hK
 simp only [mach,List.cons_append,List.nil_append] at e5 ⊢
 rw [Di e5 (x5 _ _ n2 q2) (by simp [aN]; unfold lim; omega)]
 refine aq λ t H6 f6 e6 x6=>?_
 simp only [mach,ai]
 exact fin t H5 H6 x5 x6 f6 (by rw [e6]; simp [aN])
theorem Hy {C:CT} {F a0 a1 u0 u1:Nat} (hj:j<=3) (hk:k<=3) (hlen:zW.length+zX.length+Ft.length < 100) (c0:N2 C [nV (a0 &&& (F ^^^ u1)),nV u0,nV k] zW) (c1:N2 C [nV (a1 &&& (F ^^^ u0)),nV u1,nV k] zX)
  (hc: ∀{t:Nat} {cs:List (Nat×Nat)} {H:Hp} {Q:V->Hp->Prop},H t=some (.list (aN cs))->Q (nV (iF k cs)) H->C jG [.ref t,nV k] Q H) (c2:N2 C [nV ((a0 &&& (F ^^^ iF k zW)) ||| (a1 &&& (F ^^^ iF k zX))),nV (u0 &&& u1),nV k] Ft)
  (fin: ∀t H',Ext H H'->H t= .none->H' t=some (.list (aN (((zW.map λ c=>(c.1 ||| 1 <<< j,c.2))++zX.map λ c=>(c.1 ||| 1 <<< j,c.2 ||| 1 <<< j))++Ft)))->Q (.ref t) H'):
  Xs C (jq.drop 9) (d8 Q) ⟨[o0,o1,some (nV k),some (nV F),some (nV j),some (nV a0),some (nV a1),some (nV u0),some (nV u1), .none, .none, .none, .none, .none, .none, .none],H⟩:=by
 simp only [mach,ops,jq,List.drop]
 refine c0 _ _ λ t0 H0 x0 f0 e0=>?_
 simp only [mach,ops]
 refine c1 _ _ λ t1 H1 x1 f1 e1=>?_
 simp only [mach,ai]
 refine hc (x1 _ _ e0) ?_
 simp only [mach,ops]
 refine hc e1 ?_
 simp only [mach,ops]
 refine c2 _ _ λ t2 H2 x2 f2 e2=>?_
 simp only [mach,ai]
 refine aq λ d H3 f3 e3 x3=>?_
 simp only [mach,ai]
 have q0:=x2 _ _ (x1 _ _ e0)
 have xe: ∀{b o},H b=some o->H2 b=some o:=λ e=>x2 _ _ (x1 _ _ (x0 _ _ e))
 refine Lb hj hlen (ak q0 f3) (ak (x2 _ _ e1) f3) (ak e2 f3) e3 (x3 _ _ q0) (x3 _ _ (x2 _ _ e1)) (x3 _ _ e2) λ t H5 H6 x5 x6 f6 e6=>fin t H6 (λ b o e=>x6 _ _ (x5 _ _ (ak (xe e) f3) (x3 _ _ (xe e)))) ?_ e6
 cases q:H t with
 | none=>rfl
 | some o=>rw [x5 _ _ (ak (xe q) f3) (x3 _ _ (xe q))] at f6; cases f6
end
inductive VB (f on upper k:Nat) (cs:List (Nat×Nat)):Prop where
 | zero (h:on=0) (t:cs= [])
 | full (h: ¬on=0) (h':upper=bp k) (t:cs= [(0,0)])
 | step (h: ¬on=0) (h': ¬upper=bp k) (i:Nat) (hi:m8 on upper k k=some i) (zW zX Ft:List (Nat×Nat)) (h0:eJ f (c7 on i 0 k &&& (bp k ^^^ c7 upper i 1 k)) (c7 upper i 0 k) k=some zW)
  (h1:eJ f (c7 on i 1 k &&& (bp k ^^^ c7 upper i 0 k)) (c7 upper i 1 k) k=some zX) (h2:eJ f ((c7 on i 0 k &&& (bp k ^^^ iF k zW)) ||| (c7 on i 1 k &&& (bp k ^^^ iF k zX))) (c7 upper i 0 k &&& c7 upper i 1 k) k=some Ft)
  (hl:zW.length+zX.length+Ft.length < 100) (t:cs=((zW.map λ c=>(c.1 ||| 1 <<< i,c.2))++zX.map λ c=>(c.1 ||| 1 <<< i,c.2 ||| 1 <<< i))++Ft)
theorem FP {f on upper k:Nat} {cs:List (Nat×Nat)} (h:eJ (f+1) on upper k=some cs):Nu k on upper/\VB f on upper k cs:=by
 have no: ∀{P:Prop},(none:Option (List (Nat×Nat)))=some cs->P:=λ h=>(Option.some_ne_none _ h.symm).elim
 by_cases c:Nu k on upper
 ·refine ⟨c,?_⟩
  replace h:=(if_pos c).symm.trans h
  by_cases c0:on=0
  ·exact .zero c0 (Option.some.inj ((if_pos c0).symm.trans h)).symm
  ·replace h:=(if_neg c0).symm.trans h
   by_cases c1:upper=bp k
   ·exact .full c0 c1 (Option.some.inj ((if_pos c1).symm.trans h)).symm
   ·replace h:=(if_neg c1).symm.trans h
    cases hi:m8 on upper k k with
    | none=>rw [hi] at h; exact no h
    | some i=>
     rw [hi] at h
     cases h0:eJ f (c7 on i 0 k &&& (bp k ^^^ c7 upper i 1 k)) (c7 upper i 0 k) k with
     | none=>exact no (by simpa only [h0] using h)
     | some zW=>
      cases h1:eJ f (c7 on i 1 k &&& (bp k ^^^ c7 upper i 0 k)) (c7 upper i 1 k) k with
      | none=>exact no (by simpa only [h0,h1] using h)
      | some zX=>
       cases h2:eJ f ((c7 on i 0 k &&& (bp k ^^^ iF k zW)) ||| (c7 on i 1 k &&& (bp k ^^^ iF k zX))) (c7 upper i 0 k &&& c7 upper i 1 k) k with
       | none=>exact no (by simpa only [h0,h1,h2] using h)
       | some Ft=>
        simp only [h0,h1,h2] at h
        by_cases hl:zW.length+zX.length+Ft.length < 100
        ·exact .step c0 c1 i hi zW zX Ft h0 h1 h2 hl (Option.some.inj ((if_pos hl).symm.trans h)).symm
        ·exact no ((if_neg hl).symm.trans h)
 ·exact no ((if_neg c).symm.trans h)
theorem TG {on upper k j i:Nat} (h:m8 on upper k (j+1)=some i):((q9 on j k=true\/q9 upper j k=true)/\j=i)\/¬(q9 on j k=true\/q9 upper j k=true)/\m8 on upper k j=some i:=by
 by_cases c:q9 on j k=true\/q9 upper j k=true
 ·exact .inl ⟨c,Option.some.inj ((if_pos c).symm.trans h)⟩
 ·exact .inr ⟨c,(if_neg c).symm.trans h⟩
structure VA (C:CT) (f k:Nat):Prop where
 full: ∀{H:Hp} {Q:V->Hp->Prop},Q (nV (bp k)) H->C qp [nV k] Q H
 dep: ∀{t j:Nat} {H:Hp} {Q:V->Hp->Prop},j<=3->t < 65536->Q (.bool (q9 t j k)) H->C xm [nV t,nV j,nV k] Q H
 Yh: ∀{t j b:Nat} {H:Hp} {Q:V->Hp->Prop},j<=3->t < 65536->Q (nV (c7 t j b k)) H->C uG [nV t,nV j,nV b,nV k] Q H
 cov: ∀{t:Nat} {cs:List (Nat×Nat)} {H:Hp} {Q:V->Hp->Prop},H t=some (.list (aN cs))->Q (nV (iF k cs)) H->C jG [.ref t,nV k] Q H
 iso: ∀{on upper:Nat} {cs:List (Nat×Nat)},eJ f on upper k=some cs->N2 C [nV on,nV upper,nV k] cs
inductive IW (on upper k i:Nat) (H:Hp) (m:Nat) (σ:St):Prop where
 | mk (j:Nat) (e:σ=⟨[some (nV on),some (nV upper),some (nV k),some (nV (bp k)),some (nV j), .none, .none, .none, .none, .none, .none, .none, .none, .none, .none, .none],H⟩) (hj:m8 on upper k (j+1)=some i) (hk:j < k) (m:m=j)
section
variable {C:CT} {f on upper k i:Nat} {Q:V->Hp->Prop} {H:Hp} {cs:List (Nat×Nat)}
theorem La (F:VA C f k) (hk:k<=3) (hi:i<=3) (T8:on < 65536) (Vk:upper < 65536) (h:VB f on upper k cs) (c0: ¬on=0) (c1: ¬upper=bp k) (e:m8 on upper k k=some i) (fin: ∀t H',Ext H H'->H t= .none->H' t=some (.list (aN cs))->Q (.ref t) H'):
  Xs C (jq.drop 5) (d8 Q) ⟨[some (nV on),some (nV upper),some (nV k),some (nV (bp k)),some (nV i), .none, .none, .none, .none, .none, .none, .none, .none, .none, .none, .none],H⟩:=by
 rcases h with ⟨h,_⟩ | ⟨_,h,_⟩ | ⟨_,_,i',e',zW,zX,Ft,h0,h1,h2,hl,rfl⟩
 ·exact absurd h c0
 ·exact absurd h c1
 ·obtain rfl:=Option.some.inj (e.symm.trans e')
  simp only [mach,jq,List.drop]
  refine F.Yh hi T8 ?_
  simp only [mach,ai]
  refine F.Yh hi T8 ?_
  simp only [mach,ai]
  refine F.Yh hi Vk ?_
  simp only [mach,ai]
  refine F.Yh hi Vk ?_
  simp only [mach,ai]
  exact Hy hi hk hl (F.iso h0) (F.iso h1) F.cov (F.iso h2) fin
theorem K9 (F:VA C f k) (h:eJ (f+1) on upper k=some cs) (fin: ∀t H',Ext H H'->H t= .none->H' t=some (.list (aN cs))->Q (.ref t) H'):
  Xs C jq (d8 Q) ⟨[some (nV on),some (nV upper),some (nV k), .none, .none, .none, .none, .none, .none, .none, .none, .none, .none, .none, .none, .none],H⟩:=by
 obtain ⟨⟨Wz,hk,T8,Vk⟩,h⟩:=FP h
 simp only [mach,ops,jq]
 refine aL (λ c0=>?_) λ c0=>?_
 ·rcases h with ⟨_,rfl⟩ | ⟨h,_⟩ | ⟨h,_⟩
  ·simp only [mach,eq_true c0]
   refine aq λ t H1 f1 e1 x1=>?_
   simp only [mach,ai]
   exact fin t H1 x1 f1 e1
  all_goals exact absurd c0 h
 simp only [mach,eq_false c0]
 refine F.full ?_
 simp only [mach,ops]
 refine aL (λ c1=>?_) λ c1=>?_
 ·rcases h with ⟨h,_⟩ | ⟨_,_,rfl⟩ | ⟨_,h,_⟩
  ·exact absurd h c0
  ·simp only [mach,eq_true c1]
   refine aq λ t H1 f1 e1 x1=>?_
   simp only [mach,ai]
   exact fin t H1 x1 f1 e1
  ·exact absurd c1 h
 simp only [mach,eq_false c1]
 rw [qM Wz]
 simp only [mach,ai]
 have hi: ∃i,m8 on upper k k=some i:=by
  rcases h with ⟨h,_⟩ | ⟨_,h,_⟩ | ⟨_,_,i,hi,_⟩
  ·exact absurd h c0
  ·exact absurd h c1
  ·exact ⟨i,hi⟩
 obtain ⟨i,hi⟩:=hi
 have Jc:=Nat.sub_add_cancel Wz
 refine bx (IW on upper k i H) (k - 1) ⟨k - 1,rfl,by rw [Jc]; exact hi,Nat.sub_lt Wz Nat.one_pos,rfl⟩ λ m σ ⟨j,e,hj,hjk,hm⟩=>?_
 subst e
 have Yy:j<=3:=Nat.le_trans (Nat.le_of_lt hjk) hk
 have rest:=λ (e:j=i)=>La (Q:=Q) (H:=H) F hk Yy T8 Vk h c0 c1 (e▸hi) fin
 simp only [mach,ai]
 refine F.dep Yy T8 ?_
 simp only [mach,ops]
 rcases TG hj with ⟨d,e⟩ | ⟨d,hj⟩
 ·by_cases d1:q9 on j k=true
  ·simp only [mach,loops,d1,Bool.not_true]
   exact rest e
  ·simp only [mach,eq_false_of_ne_true d1,Bool.not_false]
   refine F.dep Yy Vk ?_
   simp only [mach,ops,loops,d.resolve_left d1,Bool.not_true]
   exact rest e
 ·simp only [mach,eq_false_of_ne_true λ q=>d (.inl q),Bool.not_false]
  refine F.dep Yy Vk ?_
  cases j with
  | zero=>exact (Option.some_ne_none _ hj.symm).elim
  | succ j=>
   simp only [mach,ops,loops,eq_false_of_ne_true λ q=>d (.inr q),Bool.not_false,L_isop_0,cg]
   rw [qM (Nat.succ_pos j)]
   simp only [mach,loops,ai]
   exact ⟨j,hm▸Nat.lt_succ_self j,j,rfl,hj,Nat.lt_of_succ_lt hjk,rfl⟩
end
theorem FQ: ∀(f n on upper k:Nat) (cs:List (Nat×Nat)) (H:Hp) (Q:V->Hp->Prop),eJ f on upper k=some cs->
  (∀t H',Ext H H'->H t= .none->H' t=some (.list (aN cs))->Q (.ref t) H')->au prog (n+f+5) KR [nV on,nV upper,nV k] Q H:=by
 intro f
 induction f with
 | zero=>intro n on upper k cs H Q h; exact (Option.some_ne_none _ h.symm).elim
 | succ f ih=>
  intro n on upper k cs H Q h fin
  have hk:=(FP h).1.2.1
  exact aj (n:=n+f+5) DC [some (nV on),some (nV upper),some (nV k), .none, .none, .none, .none, .none, .none, .none, .none, .none, .none, .none, .none, .none] rfl rfl
   (K9 ⟨fH hk,λ h1 h2=>Dx h1 hk h2,λ h1 h2=>mJ h1 hk h2,λ h=>ud h hk,λ h H Q k=>ih n _ _ _ _ H Q h k⟩ h fin)
end
section
open A
noncomputable def toV:Tr->V
 | .zero=> .tup [.str 0]
 | .one=> .tup [.str 1]
 | .lit p s=> .tup [.str 2,nV p,nV s]
 | .and a b=> .tup [.str 3,toV a,toV b]
 | .or a b=> .tup [.str 4,toV a,toV b]
noncomputable def VL:Option Tr->V
 | .none=> .none
 | some t=>toV t
section
variable {QV:PV} {QB:PB} {l:List (Option V)} {H:Hp}
theorem Um (t:Tr):b8 .is (toV t) .none QV ⟨l,H⟩=QV (.bool false) ⟨l,H⟩:=by cases t <;> rfl
theorem K6 (t:Option Tr):b8 .is (VL t) .none QV ⟨l,H⟩=QV (.bool t.isNone) ⟨l,H⟩:=by
 cases t with
 | none=>rfl
 | some t=>exact Um t
theorem AW (t:Tr):flat (toV t)=true:=by
 have two: ∀{x y:V},flat x=true->flat y=true->(flat x && (flat y && true))=true:=λ h k=>by rw [h,k]; rfl
 induction t with
 | and a b ia ib=>exact two ia ib
 | or a b ia ib=>exact two ia ib
 | _=>rfl
theorem TC (t:Tr):b8 .eq (toV t) (.tup [.str 1]) QV ⟨l,H⟩=QV (.bool t.K5) ⟨l,H⟩:=by
 have h: ∀{xs:List V} {b:Bool},flat (.tup xs)=true->pL xs [.str 1]=b->b8 .eq (.tup xs) (.tup [.str 1]) QV ⟨l,H⟩=QV (.bool b) ⟨l,H⟩:=λ h e=>propext ⟨λ k=>e▸k.2.2,λ k=>⟨h,rfl,e▸k⟩⟩
 cases t with
 | and a b=>exact h (AW (.and a b)) rfl
 | or a b=>exact h (AW (.or a b)) rfl
 | _=>exact h rfl rfl
theorem Ak {m b:Nat}:cw .band (nV m) (.int (bitNot (b:Int))) QV ⟨l,H⟩=QV (nV (m - (m &&& b))) ⟨l,H⟩:=by
 have h1:decide ((0:Int)<=bitNot (b:Int))=false:=by unfold bitNot; simp; lia
 have h2:bitNot (bitNot (b:Int))=(b:Int):=by unfold bitNot; lia
 have h3:bitAnd (m:Int) (bitNot (b:Int))=((m - (m &&& b):Nat):Int):=by
  unfold bitAnd
  rw [pG,h1]
  simp only [h2,xX]
  have:m &&& b<=m:=Nat.and_le_left
  exact Eq.symm (Int.ofNat_sub this)
 show QV (.int (Pk (m:Int) (bitNot (b:Int)))) ⟨l,H⟩=_
 rw [FE,h3]
theorem Ny {QF:PF} {i j:Nat} (c:Nat×Nat):LK [i,j] QF (aF c) ⟨l,H⟩=QF .next ⟨put (put l i (some (nV c.1))) j (some (nV c.2)),H⟩:=by
 simp [aF,Bt,fU,iP]
theorem uB {C:CT} {QF:PF} {i j:Nat} {body:List S} {it:V} {all ys:List V} (c:Nat×Nat):
  aC C (.inl [i,j]) body it all QF (aF c::ys) ⟨l,H⟩=Xs C body (oG C (.inl [i,j]) body it all QF ys) ⟨put (put l i (some (nV c.1))) j (some (nV c.2)),H⟩:=by
 rw [aF,ph rfl]; rfl
end
section
variable {n:Nat} {H:Hp} {Q:V->Hp->Prop}
noncomputable def UR:Option Tr->V
 | some t=>toV t
 | .none=> .tup [.str 1]
theorem rz {c:Nat×Nat} {f:Nat} {res:Option Tr} (h:jr c.1 c.2 f 0 none=some res) (k:Q (UR res) H):au prog (n+1) lM [aF c] Q H:=by
 refine aj gk [some (aF c), .none, .none, .none, .none, .none] rfl rfl ?_
 show Xs _ dG _ _
 simp only [mach,dG,Ny]
 refine bx (λ m σ=> ∃f place acc o5,σ=⟨[some (aF c),some (nV c.1),some (nV c.2),some (VL acc),some (nV place),o5],H⟩/\jr c.1 c.2 f place acc=some res/\m=f) f ⟨f,0,none,_,rfl,h,rfl⟩ ?_
 rintro m σ ⟨f,place,acc,o5,rfl,hf,hm⟩
 rw [GR] at hf
 simp only [mach,ops,loops,ai]
 by_cases c0:c.1 >>> place=0
 ·rw [if_pos c0] at hf; cases hf
  simp only [mach,ops,c0,ne_eq,not_true_eq_false,if_false,K6]
  cases res with
  | none=>simp only [mach,Option.isNone_none,if_true]; exact k
  | some t=>simp only [mach,Option.isNone_some,Bool.false_eq_true,if_false]; exact k
 ·rw [if_neg c0] at hf
  cases f with
  | zero=>cases hf
  | succ f=>
   simp only [mach,ops,c0,ne_eq,not_false_eq_true,if_true,L_literal_chain_0]
   by_cases c1:(c.1 >>> place) &&& 1=0
   ·simp only [mach,ops,loops,c1,ne_eq,not_true_eq_false,if_false,cg] at hf ⊢
    exact ⟨f,by lia,f,place+1,acc,_,rfl,hf,rfl⟩
   ·simp only [mach,ops,c1,ne_eq,not_false_eq_true,if_true,K6] at hf ⊢
    cases acc with
    | none=>
     simp only [mach,ops,loops,Option.isNone_none,if_true,cg]
     exact ⟨f,by lia,f,place+1,some (.lit place ((c.2 >>> place) &&& 1)),_,rfl,hf,rfl⟩
    | some t=>
     simp only [mach,ops,loops,Option.isNone_some,Bool.false_eq_true,if_false,cg]
     exact ⟨f,by lia,f,place+1,some (.and t (.lit place ((c.2 >>> place) &&& 1))),_,rfl,hf,rfl⟩
noncomputable def jI (p s:Nat) (c:Nat×Nat):Bool:=(c.1 >>> p) &&& 1≠0 && (c.2 >>> p) &&& 1 == s
theorem GZ {K:PF} {t k p s:Nat} {best:V} {all:List V} {C:CT} (hit:itemsOf H (.ref t)=some all): ∀(cs:List (Nat×Nat)) (n0:Nat) (o6 o7:Option V),
  (∀o6 o7,K .next ⟨[some (.ref t),some (nV k),some best,some (nV p),some (nV s),some (nV (n0+(cs.filter (jI p s)).length)),o6,o7],H⟩)->
  aC C (.inl [6,7]) L_commonest_literal_2 (.ref t) all K (aN cs) ⟨[some (.ref t),some (nV k),some best,some (nV p),some (nV s),some (nV n0),o6,o7],H⟩:=by
 intro cs
 induction cs with
 | nil=>intro n0 o6 o7 fin; exact fin o6 o7
 | cons c cs ih=>
  intro n0 o6 o7 fin
  show aC _ _ _ _ _ K (aF c::aN cs) _
  rw [uB]
  simp only [mach,ops,L_commonest_literal_2]
  have miss:jI p s c=false->aC C (.inl [6,7]) L_commonest_literal_2 (.ref t) all K (aN cs) ⟨[some (.ref t),some (nV k),some best,some (nV p),some (nV s),some (nV n0),some (nV c.1),some (nV c.2)],H⟩:=by
   intro h
   refine ih n0 _ _ λ o6 o7=>?_
   have:=fin o6 o7
   rw [List.filter_cons,h] at this; exact this
  by_cases c1:(c.1 >>> p) &&& 1=0
  ·simp only [mach,loops,c1,ne_eq,not_true_eq_false,if_false,hit,true_and]
   exact miss (by simp only [jI,ne_eq,c1,not_true_eq_false,decide_false,Bool.false_and])
  ·simp only [mach,ops,c1,ne_eq,not_false_eq_true,if_true]
   refine aL (λ c2=>?_) λ c2=>?_
   ·simp only [mach,ops,loops,c2,if_true,cg,hit,true_and]
    refine ih (n0+1) _ _ λ o6 o7=>?_
    have:=fin o6 o7
    have h:jI p s c=true:=by simp only [jI,c2,ne_eq,c1,not_false_eq_true,decide_true,beq_self_eq_true,Bool.and_self]
    rw [List.filter_cons,h] at this
    simp only [if_true,List.length_cons] at this
    rw [show n0+1+(List.filter (jI p s) cs).length=n0+((List.filter (jI p s) cs).length+1) by exact Nat.succ_add_eq_add_succ n0 (List.filter (jI p s) cs).length]
    exact this
   ·simp only [mach,loops,c2,if_false,hit,true_and]
    exact miss (by simp only [jI,beq_eq_false_iff_ne.mpr c2,Bool.and_false])
noncomputable def pX (b:Nat×Nat×Nat):V:= .tup [nV b.1,nV b.2.1,nV b.2.2]
theorem Ax {K:PF} {t k p s:Nat} {cs:List (Nat×Nat)} {best:Nat×Nat×Nat} {C:CT} {o5 o6 o7:Option V} (ht:H t=some (.list (aN cs)))
  (fin: ∀o5 o6 o7,K .next ⟨[some (.ref t),some (nV k),some (pX (nM cs best (p,s))),some (nV p),some (nV s),o5,o6,o7],H⟩):
  Xs C L_commonest_literal_1 K ⟨[some (.ref t),some (nV k),some (pX best),some (nV p),some (nV s),o5,o6,o7],H⟩:=by
 simp only [mach,L_commonest_literal_1]
 rw [aX (ay ht)]
 refine GZ (ay ht) cs 0 _ _ λ o6 o7=>?_
 have s0: ∀(Q:PV) l,b7 (pX best) (nV 0) Q ⟨l,H⟩=Q (nV best.1) ⟨l,H⟩:=λ Q l=>bI rfl
 simp only [mach,ops,s0,Nat.zero_add]
 have e:(List.filter (jI p s) cs).length=uZ cs p s:=rfl
 rw [e]
 unfold nM at fin
 refine aL (λ c=>?_) λ c=>?_
 ·simp only [mach,c,if_true] at fin ⊢
  exact fin _ _ _
 ·simp only [mach,c,if_false] at fin ⊢
  exact fin _ _ _
theorem GY {K:PF} {t k:Nat} {cs:List (Nat×Nat)} {C:CT} {all:List V} (ht:H t=some (.list (aN cs))) (hit:itemsOf H (.range 0 (k:Int) false)=some all): ∀(d i:Nat) (best:Nat×Nat×Nat) (o3 o4 o5 o6 o7:Option V),
  (∀o3 o4 o5 o6 o7,K .next ⟨[some (.ref t),some (nV k),some (pX ((List.range' i d).foldl (λ b p=>nM cs (nM cs b (p,0)) (p,1)) best)),o3,o4,o5,o6,o7],H⟩)->
  aC C (.inr 3) L_commonest_literal_0 (.range 0 (k:Int) false) all K (ae (List.range' i d)) ⟨[some (.ref t),some (nV k),some (pX best),o3,o4,o5,o6,o7],H⟩:=by
 intro d
 induction d with
 | zero=>intro i best o3 o4 o5 o6 o7 fin; exact fin _ _ _ _ _
 | succ d ih=>
  intro i best o3 o4 o5 o6 o7 fin
  rw [List.range'_succ] at fin ⊢
  rw [List.foldl_cons] at fin
  show aC _ _ _ _ _ K (nV i::ae (List.range' (i+1) d)) _
  simp only [mach,loops,L_commonest_literal_0]
  rw [aX (aH _)]
  simp only [mach,loops,ai]
  refine Ax ht λ o5 o6 o7=>?_
  simp only [mach,loops,aH,true_and]
  refine Ax ht λ o5 o6 o7=>?_
  simp only [mach,loops,aH,true_and,hit]
  exact ih (i+1) _ _ _ _ _ _ fin
theorem yp {t k:Nat} {cs:List (Nat×Nat)} (ht:H t=some (.list (aN cs))) (hk:k<=1000) (h:Q (pX (lR cs k)) H):au prog (n+1) gM [.ref t,nV k] Q H:=by
 refine aj dw [some (.ref t),some (nV k), .none, .none, .none, .none, .none, .none] rfl rfl ?_
 show Xs _ cy _ _
 simp only [mach,cy]
 rw [bO (by unfold lim; lia),aX aJ,List.range_eq_range']
 refine GY ht (aJ.trans (by rw [List.range_eq_range'])) k 0 (0,0,0) _ _ _ _ _ λ x x x x x=>?_
 simp only [mach,ai]
 unfold lR at h; rw [List.range_eq_range'] at h; exact h
theorem Hd {K:PF} {t k:Nat} {C:CT} {all:List V} {rest:List (Option V)} (hit:itemsOf H (.ref t)=some all): ∀(cs:List (Nat×Nat)) (o2 o3:Option V),
  (cs.any (λ c=>c.1 == 0)=true->K (.ret (.tup [.str 1])) ⟨some (.ref t)::some (nV k)::(.none:Option V)::rest,H⟩->False->True)->
  (cs.any (λ c=>c.1 == 0)=true->∀o2 o3,K (.ret (.tup [.str 1])) ⟨some (.ref t)::some (nV k)::o2::o3::rest,H⟩)->
  (cs.any (λ c=>c.1 == 0)=false->∀o2 o3,K .next ⟨some (.ref t)::some (nV k)::o2::o3::rest,H⟩)->
  aC C (.inl [2,3]) L_factor_0 (.ref t) all K (aN cs) ⟨some (.ref t)::some (nV k)::o2::o3::rest,H⟩:=by
 intro cs
 induction cs with
 | nil=>intro o2 o3 _ _ fin; exact fin rfl o2 o3
 | cons c cs ih=>
  intro o2 o3 _ f1 f2
  show aC _ _ _ _ _ K (aF c::aN cs) _
  rw [uB]
  simp only [mach,ops,L_factor_0]
  refine aL (λ c0=>?_) λ c0=>?_
  ·simp only [mach,loops,c0,if_true]
   exact f1 (by simp [c0]) _ _
  ·simp only [mach,loops,c0,if_false,hit,true_and]
   have e:(c::cs).any (λ c=>c.1 == 0)=cs.any (λ c=>c.1 == 0):=by simp [c0]
   rw [e] at f1 f2
   exact ih _ _ (λ x x x=>trivial) f1 f2
theorem He {K:PF} {t k p s q r:Nat} {C:CT} {x7 o11 o12 zG:Option V} {cnt:V} {all:List V} (htq:t≠q) (htr:t≠r) (hqr:q≠r): ∀(cs:List (Nat×Nat)) (dq dr:List (Nat×Nat)) (H H₀:Hp) (o2 o3:Option V),
  H t=some (.list all)->H q=some (.list (aN dq))->H r=some (.list (aN dr))->dq.length+dr.length+cs.length < 900000->(∀b o,b≠q->b≠r->H₀ b=some o->H b=some o)->
  (∀H' o2 o3,H' q=some (.list (aN (dq++(cs.filter (cW p s)).map (without p))))->H' r=some (.list (aN (dr++cs.filter λ c=>!cW p s c)))->(∀b o,b≠q->b≠r->H₀ b=some o->H' b=some o)->
   K .next ⟨[some (.ref t),some (nV k),o2,o3,some cnt,some (nV p),some (nV s),x7,some (nV (1 <<< p)),some (.ref q),some (.ref r),o11,o12,zG],H'⟩)->
  aC C (.inl [2,3]) L_factor_1 (.ref t) all K (aN cs) ⟨[some (.ref t),some (nV k),o2,o3,some cnt,some (nV p),some (nV s),x7,some (nV (1 <<< p)),some (.ref q),some (.ref r),o11,o12,zG],H⟩:=by
 intro cs
 induction cs with
 | nil=>
  intro dq dr H H₀ o2 o3 ht hq hr hl hE fin
  exact fin H o2 o3 (by simpa using hq) (by simpa using hr) hE
 | cons c cs ih=>
  intro dq dr H H₀ o2 o3 ht hq hr hl hE fin
  simp only [List.length_cons] at hl
  show aC _ _ _ _ _ K (aF c::aN cs) _
  rw [uB]
  simp only [mach,ops,L_factor_1]
  have hlr:(aN dr).length < lim:=by rw [dS]; unfold lim; lia
  have hlq:(aN dq).length < lim:=by rw [dS]; unfold lim; lia
  have Nx:cW p s c=false->aC C (.inl [2,3]) L_factor_1 (.ref t) all K (aN cs) ⟨[some (.ref t),some (nV k),some (nV c.1),some (nV c.2),some cnt,some (nV p),some (nV s),x7,some (nV (1 <<< p)),some (.ref q),some (.ref r),o11,o12,zG],upd H r (.list (aN dr++ [.tup [nV c.1,nV c.2]]))⟩:=by
   intro h
   refine ih dq (dr++ [c]) _ H₀ _ _ ((ao _ _ htr).trans ht) ((ao _ _ hqr).trans hq) ?_ (by simp; lia) (λ b o h1 h2 e=>(ao _ _ h2).trans (hE b o h1 h2 e)) λ H' o2 o3 h1 h2 h3=>fin H' o2 o3 ?_ ?_ h3
   ·rw [ah]; simp [aN,aF]
   ·rw [h1,List.filter_cons,h]; rfl
   ·rw [h2,List.filter_cons,h]; simp
  have hti:itemsOf (upd H r (.list (aN dr++ [.tup [nV c.1,nV c.2]]))) (.ref t)=some all:=ay ((ao _ _ htr).trans ht)
  by_cases c1:c.1 &&& 1 <<< p=0
  ·simp only [mach,loops,c1,ne_eq,not_true_eq_false,if_false,append_list hr hlr,hti,true_and]
   exact Nx (by simp only [cW,ne_eq,c1,not_true_eq_false,decide_false,Bool.false_and])
  ·simp only [mach,ops,c1,ne_eq,not_false_eq_true,if_true]
   refine aL (λ c2=>?_) λ c2=>?_
   ·have h:cW p s c=true:=by simp only [cW,c2,ne_eq,c1,not_false_eq_true,decide_true,beq_self_eq_true,Bool.and_self]
    have htj:itemsOf (upd H q (.list (aN dq++ [.tup [nV (c.1 - (c.1 &&& 1 <<< p)),nV (c.2 - (c.2 &&& 1 <<< p))]]))) (.ref t)=some all:=ay ((ao _ _ htq).trans ht)
    simp only [mach,loops,c2,if_true,Ak,append_list hq hlq,htj,true_and]
    refine ih (dq++ [without p c]) dr _ H₀ _ _ ((ao _ _ htq).trans ht) ?_ ((ao _ _ (Ne.symm hqr)).trans hr) (by simp; lia) (λ b o h1 h2 e=>(ao _ _ h1).trans (hE b o h1 h2 e)) λ H' o2 o3 h1 h2 h3=>fin H' o2 o3 ?_ ?_ h3
    ·rw [ah]; simp [aN,aF,without]
    ·rw [h1,List.filter_cons,h]; simp
    ·rw [h2,List.filter_cons,h]; rfl
   ·simp only [mach,loops,c2,if_false,append_list hr hlr,hti,true_and]
    exact Nx (by simp only [cW,beq_eq_false_iff_ne.mpr c2,Bool.and_false])
end
theorem ya {QV:PV} {l:List (Option V)} {H:Hp} {a i:Nat} {xs:List V} (h:H a=some (.list xs)) (hi:i<=lim) (hl:xs.length<=lim):xZ (.ref a) (nV i) QV ⟨l,H⟩=alloc (.list (xs.take i)) QV ⟨l,H⟩:=by
 have:(i:Int)<=lim:=by lia
 unfold xZ; simp [h,this,hl]
theorem Hj {QV:PV} {l:List (Option V)} {H:Hp} {a i:Nat} {xs:List V} (h:H a=some (.list xs)) (hi:i<=lim) (hl:xs.length<=lim):xi (.ref a) (nV i) QV ⟨l,H⟩=alloc (.list (xs.drop i)) QV ⟨l,H⟩:=by
 have:(i:Int)<=lim:=by lia
 unfold xi; simp [h,this,hl]
theorem MG (cs:List (Nat×Nat)) (i:Nat):(aN cs).take i=aN (cs.take i):=by simp [aN,List.map_take]
theorem MD (cs:List (Nat×Nat)) (i:Nat):(aN cs).drop i=aN (cs.drop i):=by simp [aN,List.map_drop]
theorem CM {QF:PF} {i j m:Nat} {l:List (Option V)} {H:Hp} (c:Nat×Nat×Nat):LK [i,j,m] QF (pX c) ⟨l,H⟩=QF .next ⟨put (put (put l i (some (nV c.1))) j (some (nV c.2.1))) m (some (nV c.2.2)),H⟩:=by
 simp [pX,Bt,fU,iP]
noncomputable abbrev zR (p s:Nat) (inner:Tr):Tr:=if inner.K5 then .lit p s else .and (.lit p s) inner
inductive Zc (f:Nat) (cs:List (Nat×Nat)) (k:Nat) (tr:Tr):Prop where
 | nil (e:cs= []) (t:tr= .zero)
 | one (c:Nat×Nat) (r:List (Nat×Nat)) (e:cs=c::r) (hz:cs.any (λ c=>c.1 == 0)=true) (t:tr= .one)
 | lit (c:Nat×Nat) (e:cs= [c]) (hz:cs.any (λ c=>c.1 == 0)=false) (res:Option Tr) (hc:jr c.1 c.2 20 0 none=some res) (t:UR res=toV tr)
 | half (c d:Nat×Nat) (r:List (Nat×Nat)) (e:cs=c::d::r) (hz:cs.any (λ c=>c.1 == 0)=false) (p s:Nat) (hm:lR cs k=(1,p,s)) (ta tb:Tr) (ha:aW f (cs.take (cs.length / 2)) k=some ta) (hb:aW f (cs.drop (cs.length / 2)) k=some tb) (t:tr= .or ta tb)
 | quot (c d:Nat×Nat) (r:List (Nat×Nat)) (e:cs=c::d::r) (hz:cs.any (λ c=>c.1 == 0)=false) (m p s:Nat) (hm:lR cs k=(m,p,s)) (hp:p<=20) (m1: ¬m=1) (inner:Tr) (hi:aW f ((cs.filter (cW p s)).map (without p)) k=some inner)
  (hr:(cs.filter (λ c=>!cW p s c)= []/\tr=zR p s inner)\/∃e r' t',cs.filter (λ c=>!cW p s c)=e::r'/\aW f (e::r') k=some t'/\tr= .or (zR p s inner) t')
theorem OI {f k:Nat} {cs:List (Nat×Nat)} {tr:Tr} (h:aW (f+1) cs k=some tr):cs.length<=100/\Zc f cs k tr:=by
 have ite: ∀{c:Prop} [Decidable c] {x:Option Tr},(if c then none else x)=some tr->¬c/\x=some tr:=λ {c} _ _ h=>by
  by_cases q:c
  ·rw [if_pos q] at h; exact (Option.some_ne_none _ h.symm).elim
  ·rw [if_neg q] at h; exact ⟨q,h⟩
 cases cs with
 | nil=>exact ⟨Nat.zero_le _, .nil rfl (Option.some.inj (ite h).2).symm⟩
 | cons c r=>
  obtain ⟨h0,h⟩:=ite h
  refine ⟨Nat.not_lt.mp h0,?_⟩
  cases hz:(c::r).any (λ c=>c.1 == 0) with
  | true=>exact .one c r rfl hz (Option.some.inj ((if_pos hz).symm.trans h)).symm
  | false=>
   replace h:=(if_neg (λ e=>Bool.noConfusion (hz.symm.trans e))).symm.trans h
   cases r with
   | nil=>
    replace h:(match jr c.1 c.2 20 0 none with
     | some (some t)=>some t
     | some none=>some .one
     | none=>none)=some tr:=h
    cases hc:jr c.1 c.2 20 0 none with
    | none=>rw [hc] at h; exact (Option.some_ne_none _ h.symm).elim
    | some res=>
     rw [hc] at h
     refine .lit c rfl hz res hc ?_
     cases res with
     | none=>exact congrArg toV (Option.some.inj h)
     | some t=>exact congrArg toV (Option.some.inj h)
   | cons d r=>
    by_cases hp:(lR (c::d::r) k).2.1<=20
    ·replace h:=(if_pos hp).symm.trans h
     rcases hm:lR (c::d::r) k with ⟨m,p,s⟩
     rw [hm] at h hp
     by_cases m1:m=1
     ·subst m1
      replace h:(match aW f ((c::d::r).take ((c::d::r).length / 2)) k,aW f ((c::d::r).drop ((c::d::r).length / 2)) k with
       | some a,some b=>some (Tr.or a b)
       | _,_=>none)=some tr:=(if_pos rfl).symm.trans h
      cases ha:aW f ((c::d::r).take ((c::d::r).length / 2)) k with
      | none=>rw [ha] at h; exact (Option.some_ne_none _ h.symm).elim
      | some ta=>
       rw [ha] at h
       cases hb:aW f ((c::d::r).drop ((c::d::r).length / 2)) k with
       | none=>rw [hb] at h; exact (Option.some_ne_none _ h.symm).elim
       | some tb=>rw [hb] at h; exact .half c d r rfl hz p s hm ta tb ha hb (Option.some.inj h).symm
     ·replace h:=(if_neg m1).symm.trans h
      cases hi:aW f (((c::d::r).filter (cW p s)).map (without p)) k with
      | none=>rw [hi] at h; exact (Option.some_ne_none _ h.symm).elim
      | some inner=>
       rw [hi] at h
       refine .quot c d r rfl hz m p s hm hp m1 inner hi ?_
       replace h:(match (c::d::r).filter (λ c=>!cW p s c) with
        | []=>some (zR p s inner)
        | e::r'=>match aW f (e::r') k with
         | some t=>some (.or (zR p s inner) t)
         | none=>none)=some tr:=h
       cases he:(c::d::r).filter (λ c=>!cW p s c) with
       | nil=>rw [he] at h; exact .inl ⟨rfl,(Option.some.inj h).symm⟩
       | cons e r'=>
        rw [he] at h
        replace h:(match aW f (e::r') k with
         | some t=>some (.or (zR p s inner) t)
         | none=>none)=some tr:=h
        cases ht:aW f (e::r') k with
        | none=>rw [ht] at h; exact (Option.some_ne_none _ h.symm).elim
        | some t'=>rw [ht] at h; exact .inr ⟨e,r',t',rfl,ht,(Option.some.inj h).symm⟩
    ·exact (Option.some_ne_none _ ((if_neg hp).symm.trans h).symm).elim
structure SW (C:CT) (f k:Nat):Prop where
 lit: ∀{c:Nat×Nat} {res:Option Tr} {H:Hp} {Q:V->Hp->Prop},jr c.1 c.2 20 0 none=some res->Q (UR res) H->C lM [aF c] Q H
 com: ∀{t:Nat} {cs:List (Nat×Nat)} {H:Hp} {Q:V->Hp->Prop},H t=some (.list (aN cs))->Q (pX (lR cs k)) H->C gM [.ref t,nV k] Q H
 Yk: ∀{t:Nat} {cs:List (Nat×Nat)} {tr:Tr} {H:Hp} {Q:V->Hp->Prop},H t=some (.list (aN cs))->aW f cs k=some tr->(∀H',Ext H H'->Q (toV tr) H')->C Bb [.ref t,nV k] Q H
section
variable {C:CT} {f k t r:Nat} {Q:V->Hp->Prop} {H:Hp} {o0 o2 o3 o4 o5 o6 o7 o8 o9 o11 o12:Option V}
theorem J8 (F:SW C f k) {R:List (Nat×Nat)} {tree tr:Tr} (hr:H r=some (.list (aN R))) (h:(R= []/\tr=tree)\/∃e r' t',R=e::r'/\aW f (e::r') k=some t'/\tr= .or tree t') (fin: ∀H',Ext H H'->Q (toV tr) H'):
  Xs C (fO.drop 12) (d8 Q) ⟨[o0,some (nV k),o2,o3,o4,o5,o6,o7,o8,o9,some (.ref r),o11,o12,some (toV tree)],H⟩:=by
 simp only [mach,fO,List.drop,lr hr]
 rcases h with ⟨rfl,rfl⟩ | ⟨e,r',t',rfl,ht,rfl⟩
 ·simp only [mach,aN,List.map_nil,List.isEmpty_nil,Bool.not_true]
  exact fin H (.refl _)
 ·simp only [mach,show (aN (e::r')).isEmpty=false from rfl,Bool.not_false]
  refine F.Yk hr ht λ H5 x5=>?_
  simp only [mach,ai]
  exact fin H5 x5
theorem J7 (F:SW C f k) {cs:List (Nat×Nat)} {tr inner:Tr} {p s:Nat} (ht:H t=some (.list (aN cs))) (hl:cs.length<=100) (hp:p<=20) (hi:aW f ((cs.filter (cW p s)).map (without p)) k=some inner)
  (hr:(cs.filter (λ c=>!cW p s c)= []/\tr=zR p s inner)\/∃e r' t',cs.filter (λ c=>!cW p s c)=e::r'/\aW f (e::r') k=some t'/\tr= .or (zR p s inner) t') (fin: ∀H',Ext H H'->Q (toV tr) H') {m:Nat}:
  Xs C (fO.drop 5) (d8 Q) ⟨[some (.ref t),some (nV k),o2,o3,some (nV m),some (nV p),some (nV s),o7,o8,o9, .none,o11,o12, .none],H⟩:=by
 simp only [mach,ops,fO,List.drop,b9 (show 1 < 2 ^ 40 by decide) (Nat.le_trans hp (by decide:20<=1000))]
 refine aq λ q H1 f1 e1 x1=>?_
 simp only [mach,ai]
 refine aq λ r' H2 f2 e2 x2=>?_
 simp only [mach,ai]
 rw [aX (ay (x2 _ _ (x1 _ _ ht)))]
 refine He (ak ht f1) (ak (x1 _ _ ht) f2) (ak e1 f2) cs [] [] H2 H2 _ _ (x2 _ _ (x1 _ _ ht)) (x2 _ _ e1) e2 (by simp only [List.length_nil]; omega) (λ y y y y e=>e) λ H3 o2 o3 hq3 Rp A1=>?_
 simp only [mach,ai]
 refine F.Yk hq3 hi λ H4 x4=>?_
 have Zz:Ext H H4:=λ b o e=>x4 _ _ (A1 b o (ak e f1) (ak (x1 _ _ e) f2) (x2 _ _ (x1 _ _ e)))
 have tail:=λ (o7 o9 o11 o12:Option V)=>J8 (o0:=some (.ref t)) (o2:=o2) (o3:=o3) (o4:=some (nV m)) (o5:=some (nV p)) (o6:=some (nV s)) (o7:=o7) (o8:=some (nV (1 <<< p))) (o9:=o9) (o11:=o11) (o12:=o12) F (x4 _ _ Rp) hr λ H' x=>fin H' (Zz.trans x)
 simp only [mach,ops,TC]
 refine aL (λ co=>?_) λ co=>?_
 ·simp only [mach,eq_true co]
  rw [show zR p s inner= .lit p s from if_pos co] at tail
  exact tail _ _ _ _
 ·simp only [mach,eq_false co]
  rw [show zR p s inner= .and (.lit p s) inner from if_neg co] at tail
  exact tail _ _ _ _
theorem J6 (F:SW C f k) {cs:List (Nat×Nat)} {tr:Tr} (ht:H t=some (.list (aN cs))) (h:aW (f+1) cs k=some tr) (fin: ∀H',Ext H H'->Q (toV tr) H'):
  Xs C fO (d8 Q) ⟨[some (.ref t),some (nV k), .none, .none, .none, .none, .none, .none, .none, .none, .none, .none, .none, .none],H⟩:=by
 obtain ⟨hl,h⟩:=OI h
 simp only [mach,fO,lr ht]
 cases cs with
 | nil=>
  simp only [mach,aN,List.map_nil,List.isEmpty_nil,Bool.not_true,Bool.not_false]
  rcases h with ⟨_,rfl⟩ | ⟨_,_,e,_,_⟩ | ⟨_,e,_⟩ | ⟨_,_,_,e,_⟩ | ⟨_,_,_,e,_⟩
  ·exact fin H (.refl _)
  all_goals exact absurd e.symm (List.cons_ne_nil _ _)
 | cons c r=>
  simp only [mach,show (aN (c::r)).isEmpty=false from rfl,Bool.not_false,Bool.not_true]
  rw [aX (ay ht)]
  have L3: ∀{d:Nat×Nat} {s:List (Nat×Nat)},c::r=d::s->(aN (c::r)).length=(d::s).length:=λ e=>by rw [dS,e]
  refine Hd (ay ht) (c::r) _ _ (λ x x x=>trivial) (λ hz o2 o3=>?_) (λ hz o2 o3=>?_)
  ·simp only [mach,ai]
   rcases h with ⟨e,_⟩ | ⟨_,_,_,_,rfl⟩ | ⟨_,_,h,_⟩ | ⟨_,_,_,_,h,_⟩ | ⟨_,_,_,_,h,_⟩
   ·exact absurd e (List.cons_ne_nil _ _)
   ·exact fin H (.refl _)
   all_goals exact Bool.noConfusion (h.symm.trans hz)
  ·simp only [mach,ops,len_list ht]
   have two: ∀{d e:Nat×Nat} {s:List (Nat×Nat)},c::r=d::e::s->((aN (c::r)).length=1)=False:=λ e=>eq_false λ q=>by rw [L3 e,List.length_cons,List.length_cons] at q; omega
   rcases h with ⟨e,_⟩ | ⟨_,_,_,h,_⟩ | ⟨c',e,_,res,hc,e2⟩ | ⟨c',d,s',e,_,p,s,hm,ta,tb,ha,hb,rfl⟩ | ⟨c',d,s',e,_,m,p,s,hm,hp,m1,inner,hi,hr⟩
   ·exact absurd e (List.cons_ne_nil _ _)
   ·exact Bool.noConfusion (hz.symm.trans h)
   ·simp only [mach,eq_true (show (aN (c::r)).length=1 from L3 e),aU ht (show df (aN (c::r)) 0=some (aF c') by rw [e]; rfl)]
    refine F.lit hc ?_
    simp only [mach,ai]; rw [e2]; exact fin H (.refl _)
   ·have YC:(aN (c::r)).length<=lim:=by rw [dS]; exact Nat.le_trans hl (by decide)
    have hhl:(c::r).length / 2<=lim:=Nat.le_trans (Nat.div_le_self _ _) (Nat.le_trans hl (by decide))
    simp only [mach,two e]
    refine F.com ht ?_
    rw [hm]
    simp only [mach,ops,CM,len_list ht,dS,de (show (2:Nat)≠0 by decide) (show 2 < 1073741824 by decide)]
    rw [ya ht hhl YC,MG]
    refine aq λ t1 H1 f1 e1 x1=>?_
    simp only [mach,ai]
    refine F.Yk e1 ha λ H2 x2=>?_
    simp only [mach,ai]
    rw [Hj (x2 _ _ (x1 _ _ ht)) hhl YC,MD]
    refine aq λ t3 H3 f3 e3 x3=>?_
    simp only [mach,ai]
    refine F.Yk e3 hb λ H4 x4=>?_
    simp only [mach,ai]
    exact fin H4 (x1.trans (x2.trans (x3.trans x4)))
   ·simp only [mach,two e]
    refine F.com ht ?_
    rw [hm]
    simp only [mach,ops,CM,eq_false m1]
    exact J7 F ht hl hp hi hr fin
end
theorem w9: ∀(f n t k:Nat) (cs:List (Nat×Nat)) (tr:Tr) (H:Hp) (Q:V->Hp->Prop),k<=1000->H t=some (.list (aN cs))->aW f cs k=some tr->(∀H',Ext H H'->Q (toV tr) H')->au prog (n+f+1) Bb [.ref t,nV k] Q H:=by
 intro f
 induction f with
 | zero=>intro n t k cs tr H Q _ _ h; exact (Option.some_ne_none _ h.symm).elim
 | succ f ih=>
  intro n t k cs tr H Q hk ht h fin
  rw [show n+(f+1)+1=(n+f+1)+1 from rfl]
  exact aj ur [some (.ref t),some (nV k), .none, .none, .none, .none, .none, .none, .none, .none, .none, .none, .none, .none] rfl rfl (J6 ⟨rz,λ h=>yp h hk,λ h1 h2 h3=>ih n _ k _ _ _ _ hk h1 h2 h3⟩ ht h fin)
end
section
open A
section
variable {QV:PV} {l:List (Option V)} {H:Hp}
noncomputable def kindOf:Tr->Nat
 | .zero=>0 | .one=>1 | .lit ..=>2 | .and ..=>3 | .or ..=>4
theorem fX (t:Tr):b7 (toV t) (nV 0) QV ⟨l,H⟩=QV (.str (kindOf t)) ⟨l,H⟩:=by cases t <;> exact bI rfl
theorem CB (a b:Tr):b7 (toV (.and a b)) (nV 1) QV ⟨l,H⟩=QV (toV a) ⟨l,H⟩:=bI rfl
theorem CF (a b:Tr):b7 (toV (.and a b)) (nV 2) QV ⟨l,H⟩=QV (toV b) ⟨l,H⟩:=bI rfl
theorem Gz (a b:Tr):b7 (toV (.or a b)) (nV 1) QV ⟨l,H⟩=QV (toV a) ⟨l,H⟩:=bI rfl
theorem GA (a b:Tr):b7 (toV (.or a b)) (nV 2) QV ⟨l,H⟩=QV (toV b) ⟨l,H⟩:=bI rfl
theorem Nq (p s:Nat):b7 (toV (.lit p s)) (nV 1) QV ⟨l,H⟩=QV (nV p) ⟨l,H⟩:=bI rfl
theorem Nr (p s:Nat):b7 (toV (.lit p s)) (nV 2) QV ⟨l,H⟩=QV (nV s) ⟨l,H⟩:=bI rfl
end
theorem lq: ∀(t:Tr) (n:Nat) (H:Hp) (Q:V->Hp->Prop),Q (nV t.size) H->au prog (n+t.depth+1) r9 [toV t] Q H:=by
 intro t
 have leaf: ∀(t:Tr) (n:Nat) (H:Hp) (Q:V->Hp->Prop),(kindOf t == 3)=false->(kindOf t == 4)=false->t.size=0->Q (nV t.size) H->au prog (n+1) r9 [toV t] Q H:=by
  intro t n H Q h3 h4 hs k
  refine aj fR [some (toV t)] rfl rfl ?_
  show Xs _ cK _ _
  simp only [mach,ops,cK,fX,h3,h4,Bool.false_eq_true,if_false]
  rw [hs] at k; exact k
 induction t with
 | zero=>intro n H Q k; exact leaf _ n H Q rfl rfl rfl k
 | one=>intro n H Q k; exact leaf _ n H Q rfl rfl rfl k
 | lit p s=>intro n H Q k; exact leaf _ n H Q rfl rfl rfl k
 | and a b ia ib=>
  intro n H Q k
  refine aj fR [some (toV (.and a b))] rfl rfl ?_
  show Xs (au prog (n+(1+max a.depth b.depth))) cK _ _
  have e:(kindOf (.and a b) == 3)=true:=rfl
  simp only [mach,ops,cK,fX,e,if_true,CB]
  rw [fuel (Nat.le_max_left a.depth b.depth)]
  refine ia _ _ _ ?_
  simp only [mach,ops,CF]
  rw [(fuel (Nat.le_max_left a.depth b.depth)).symm.trans (fuel (Nat.le_max_right a.depth b.depth))]
  refine ib _ _ _ ?_
  simp only [mach,ops,ai]
  exact k
 | or a b ia ib=>
  intro n H Q k
  refine aj fR [some (toV (.or a b))] rfl rfl ?_
  show Xs (au prog (n+(1+max a.depth b.depth))) cK _ _
  have e3:(kindOf (.or a b) == 3)=false:=rfl
  have e:(kindOf (.or a b) == 4)=true:=rfl
  simp only [mach,ops,cK,fX,e3,e,Bool.false_eq_true,if_false,if_true,Gz]
  rw [fuel (Nat.le_max_left a.depth b.depth)]
  refine ia _ _ _ ?_
  simp only [mach,ops,GA]
  rw [(fuel (Nat.le_max_left a.depth b.depth)).symm.trans (fuel (Nat.le_max_right a.depth b.depth))]
  refine ib _ _ _ ?_
  simp only [mach,ops,ai]
  exact k
structure N0 (g:A) (L:List Nat) (t:Tr) (lit:Nat) (g':A):Prop where
 le:Le g g'
 wf:g'.WF
 lt:lit / 2 < g'.N
 grow:g'.N<=g.N+t.size
 val: ∀x,g'.lv x lit=t.val λ i=>g.lv x (L.getD i 0)
theorem val_congr {e f:Nat->Bool} (h: ∀i,e i=f i) (t:Tr):t.val e=t.val f:=by
 have:e=f:=funext h
 rw [this]
theorem vR: ∀(t:Tr) (n ad ls:Nat) (g:A) (L:List Nat) (H:Hp) (Q:V->Hp->Prop),H ad=some g.obj->H ls=some (.list (ae L))->ad≠ls->g.WF->g.N+t.size < 9000->(∀e∈L,e / 2 < g.N)->t.okIn L.length=true->
  (∀lit g',N0 g L t lit g'->Q (nV lit) (upd H ad g'.obj))->au prog (n+t.depth+4) yV [.ref ad,toV t, .ref ls] Q H:=by
 intro t
 induction t with
 | zero=>
  intro n ad ls g L H Q hG hL eS w hN dz yS k
  refine aj cP [some (.ref ad),some (toV .zero),some (.ref ls), .none, .none, .none] rfl rfl ?_
  show Xs _ bq _ _
  have e:(kindOf .zero == 0)=true:=rfl
  simp only [mach,ops,bq,fX,e,if_true]
  have:=k 0 g ⟨.refl _,w,by simp [A.N]; lia,Nat.le_refl _,λ x=>by rw [A.jk]; rfl⟩
  rw [fY hG] at this; exact this
 | one=>
  intro n ad ls g L H Q hG hL eS w hN dz yS k
  refine aj cP [some (.ref ad),some (toV .one),some (.ref ls), .none, .none, .none] rfl rfl ?_
  show Xs _ bq _ _
  have e0:(kindOf .one == 0)=false:=rfl
  have e:(kindOf .one == 1)=true:=rfl
  simp only [mach,ops,bq,fX,e0,e,if_true,if_false,Bool.false_eq_true]
  have:=k 1 g ⟨.refl _,w,by simp [A.N]; lia,Nat.le_refl _,λ x=>by rw [A.L9]; rfl⟩
  rw [fY hG] at this; exact this
 | lit p s=>
  intro n ad ls g L H Q hG hL eS w hN dz yS k
  refine aj cP [some (.ref ad),some (toV (.lit p s)),some (.ref ls), .none, .none, .none] rfl rfl ?_
  show Xs _ bq _ _
  replace yS:=Tr.Mw yS
  have e0:(kindOf (.lit p s) == 0)=false:=rfl
  have e1:(kindOf (.lit p s) == 1)=false:=rfl
  have e:(kindOf (.lit p s) == 2)=true:=rfl
  simp only [mach,ops,bq,fX,e0,e1,e,if_true,if_false,Bool.false_eq_true,Nq,bD hL yS.1,Nr,qM yS.2]
  have hm:L.getD p 0∈L:=by
   rw [List.getD_eq_getElem?_getD,List.getElem?_eq_getElem yS.1]; exact List.getElem_mem _
  have hs:s=0\/s=1:=by lia
  have:=k (L.getD p 0 ^^^ (1 - s)) g ⟨.refl _,w,?_,Nat.le_refl _,λ x=>?_⟩
  ·rw [fY hG] at this; exact this
  ·rcases hs with rfl | rfl
   ·rw [A.bS]; exact dz _ hm
   ·simp; exact dz _ hm
  ·rcases hs with rfl | rfl
   ·rw [A.eM]; exact (Bool.xor_true _).symm
   ·show g.lv x (L.getD p 0 ^^^ 0)=(g.lv x (L.getD p 0) ^^ false)
    rw [Nat.xor_zero,Bool.xor_false]
 | and a b ia ib=>
  intro n ad ls g L H Q hG hL eS w hN dz yS k
  refine aj cP [some (.ref ad),some (toV (.and a b)),some (.ref ls), .none, .none, .none] rfl rfl ?_
  show Xs (au prog (n+(1+max a.depth b.depth)+3)) bq _ _
  replace yS:=Tr.rC yS
  replace hN:_+(1+a.size+b.size) < _:=hN
  have e0:(kindOf (.and a b) == 0)=false:=rfl
  have e1:(kindOf (.and a b) == 1)=false:=rfl
  have e2:(kindOf (.and a b) == 2)=false:=rfl
  have e:(kindOf (.and a b) == 3)=true:=rfl
  simp only [mach,ops,bq,fX,e0,e1,e2,if_false,Bool.false_eq_true,CB]
  rw [show n+(1+max a.depth b.depth)+3=(n+(max a.depth b.depth - a.depth))+a.depth+4 from congrArg (· +3) (fuel (Nat.le_max_left _ _))]
  refine ia _ ad ls g L H _ hG hL eS w (by lia) dz yS.1 λ la ga ha=>?_
  have cF:upd H ad ga.obj ad=some ga.obj:=ah _ _ _
  have Kn:upd H ad ga.obj ls=some (.list (ae L)):=(ao _ _ (Ne.symm eS)).trans hL
  simp only [mach,CF]
  rw [show (n+(max a.depth b.depth - a.depth))+a.depth+4=(n+(max a.depth b.depth - b.depth))+b.depth+4 from congrArg (· +3) ((fuel (Nat.le_max_left a.depth b.depth)).symm.trans (fuel (Nat.le_max_right a.depth b.depth)))]
  refine ib _ ad ls ga L _ _ cF Kn eS ha.wf (by have:=ha.grow; lia) (λ e he=>Nat.lt_of_lt_of_le (dz e he) ha.le.N) yS.2 λ lb gb hb=>?_
  rw [cZ]
  have dk:upd H ad gb.obj ad=some gb.obj:=ah _ _ _
  simp only [mach,ops,e,if_true]
  refine hU dk hb.wf (by have:=ha.grow; have:=hb.grow; lia) (Nat.lt_of_lt_of_le ha.lt hb.le.N) hb.lt λ lit g' hm=>?_
  rw [cZ]
  simp only [mach,ai]
  refine k lit g' ⟨ha.le.trans (hb.le.trans hm.le),hm.wf,hm.lt,by have:=ha.grow; have:=hb.grow; have:=hm.grow; have e:(Tr.and a b).size=1+a.size+b.size:=rfl; lia,λ x=>?_⟩
  rw [hm.val,hb.le.lv x ha.lt,ha.val,hb.val]
  show _=(a.val _ && b.val _)
  congr 1
  by_cases hh: ∀i,ga.lv x (L.getD i 0)=g.lv x (L.getD i 0)
  ·exact val_congr hh b
  ·exact absurd (λ i=>by
    by_cases hi:i < L.length
    ·have hm:L.getD i 0∈L:=by rw [List.getD_eq_getElem?_getD,List.getElem?_eq_getElem hi]; exact List.getElem_mem _
     exact ha.le.lv x (dz _ hm)
    ·have:L.getD i 0=0:=by rw [List.getD_eq_getElem?_getD,List.getElem?_eq_none (by exact Nat.le_of_not_lt hi)]; rfl
     rw [this,A.jk,A.jk]) hh
 | or a b ia ib=>
  intro n ad ls g L H Q hG hL eS w hN dz yS k
  refine aj cP [some (.ref ad),some (toV (.or a b)),some (.ref ls), .none, .none, .none] rfl rfl ?_
  show Xs (au prog (n+(1+max a.depth b.depth)+3)) bq _ _
  replace yS:=Tr.rC yS
  replace hN:_+(1+a.size+b.size) < _:=hN
  have e0:(kindOf (.or a b) == 0)=false:=rfl
  have e1:(kindOf (.or a b) == 1)=false:=rfl
  have e2:(kindOf (.or a b) == 2)=false:=rfl
  have e:(kindOf (.or a b) == 3)=false:=rfl
  simp only [mach,ops,bq,fX,e0,e1,e2,if_false,Bool.false_eq_true,Gz]
  rw [show n+(1+max a.depth b.depth)+3=(n+(max a.depth b.depth - a.depth))+a.depth+4 from congrArg (· +3) (fuel (Nat.le_max_left _ _))]
  refine ia _ ad ls g L H _ hG hL eS w (by lia) dz yS.1 λ la ga ha=>?_
  have cF:upd H ad ga.obj ad=some ga.obj:=ah _ _ _
  have Kn:upd H ad ga.obj ls=some (.list (ae L)):=(ao _ _ (Ne.symm eS)).trans hL
  simp only [mach,GA]
  rw [show (n+(max a.depth b.depth - a.depth))+a.depth+4=(n+(max a.depth b.depth - b.depth))+b.depth+4 from congrArg (· +3) ((fuel (Nat.le_max_left a.depth b.depth)).symm.trans (fuel (Nat.le_max_right a.depth b.depth)))]
  refine ib _ ad ls ga L _ _ cF Kn eS ha.wf (by have:=ha.grow; lia) (λ e he=>Nat.lt_of_lt_of_le (dz e he) ha.le.N) yS.2 λ lb gb hb=>?_
  rw [cZ]
  have dk:upd H ad gb.obj ad=some gb.obj:=ah _ _ _
  simp only [mach,ops,e,if_false,Bool.false_eq_true]
  refine hU dk hb.wf (by have:=ha.grow; have:=hb.grow; lia) (by rw [A.bS]; exact Nat.lt_of_lt_of_le ha.lt hb.le.N) (by rw [A.bS]; exact hb.lt) λ lit g' hm=>?_
  rw [cZ]
  simp only [mach,ops,ai]
  refine k (lit ^^^ 1) g' ⟨ha.le.trans (hb.le.trans hm.le),hm.wf,by rw [A.bS]; exact hm.lt,by have:=ha.grow; have:=hb.grow; have:=hm.grow; have e:(Tr.or a b).size=1+a.size+b.size:=rfl; lia,λ x=>?_⟩
  rw [A.eM,hm.val,A.eM,A.eM,hb.le.lv x ha.lt,ha.val,hb.val]
  have hbb:(b.val λ i=>ga.lv x (L.getD i 0))=b.val λ i=>g.lv x (L.getD i 0):=val_congr (λ i=>by
    by_cases hi:i < L.length
    ·have hm:L.getD i 0∈L:=by rw [List.getD_eq_getElem?_getD,List.getElem?_eq_getElem hi]; exact List.getElem_mem _
     exact ha.le.lv x (dz _ hm)
    ·have:L.getD i 0=0:=by rw [List.getD_eq_getElem?_getD,List.getElem?_eq_none (by exact Nat.le_of_not_lt hi)]; rfl
     rw [this,A.jk,A.jk]) b
  rw [hbb]
  show _=(a.val _ || b.val _)
  cases a.val λ i=>g.lv x (L.getD i 0) <;> cases b.val λ i=>g.lv x (L.getD i 0) <;> rfl
structure Je (k t:Nat) (tr:Tr) (inv:Nat):Prop where
 Xw:inv<=1
 ok:tr.okIn k=true
 depth:tr.depth<=6
 size:tr.size<=20
 val: ∀j,j < 2 ^ k->((tr.val λ i=>j.testBit i) ^^ (inv == 1))=t.testBit j
theorem Og {k t:Nat} (hk:k=2\/k=3) (ht:t < 2 ^ 2 ^ k): ∃tr inv,wU t k=some (tr,inv)/\Je k t tr inv:=by
 have h:vj k t=true:=by
  rcases hk with rfl | rfl
  ·exact List.all_eq_true.mp P1 t (List.mem_range.mpr ht)
  ·exact List.all_eq_true.mp P2 t (List.mem_range.mpr ht)
 obtain ⟨⟨tr,inv⟩,hb⟩: ∃z,wU t k=some z:=by
  cases e:wU t k with
  | none=>exact absurd h (by unfold vj; rw [e]; exact Bool.false_ne_true)
  | some z=>exact ⟨z,rfl⟩
 unfold vj at h
 rw [hb] at h
 simp only [Bool.and_eq_true,decide_eq_true_eq,List.all_eq_true,List.mem_range,beq_iff_eq] at h
 exact ⟨tr,inv,hb,h.1.1.1.1,h.1.1.1.2,h.1.1.2,h.1.2,λ j hj=>h.2 j hj⟩
inductive Vr (t k:Nat) (z:Tr×Nat):Prop where
 | mk (a b:List (Nat×Nat)) (on off:Tr) (h1:eJ cS t t k=some a) (h2:eJ cS (bp k ^^^ t) (bp k ^^^ t) k=some b) (h3:aW cQ a k=some on) (h4:aW cQ b k=some off) (d:off.depth<=6/\on.depth<=6)
  (e:(if off.size < on.size then (off,1) else (on,0))=z)
theorem JF {t k:Nat} {z:Tr×Nat} (h:wU t k=some z):Vr t k z:=by
 unfold wU at h
 cases h1:eJ cS t t k with
 | none=>rw [h1] at h; exact (Option.some_ne_none _ h.symm).elim
 | some a=>
  cases h2:eJ cS (bp k ^^^ t) (bp k ^^^ t) k with
  | none=>rw [h1,h2] at h; exact (Option.some_ne_none _ h.symm).elim
  | some b=>
   rw [h1,h2] at h
   replace h:(match aW cQ a k,aW cQ b k with
    | some on,some off=>if off.depth<=6/\on.depth<=6 then (if off.size < on.size then some (off,1) else some (on,0)) else none
    | _,_=>none)=some z:=h
   cases h3:aW cQ a k with
   | none=>rw [h3] at h; exact (Option.some_ne_none _ h.symm).elim
   | some on=>
    cases h4:aW cQ b k with
    | none=>rw [h3,h4] at h; exact (Option.some_ne_none _ h.symm).elim
    | some off=>
     rw [h3,h4] at h
     by_cases d:off.depth<=6/\on.depth<=6
     ·refine ⟨a,b,on,off,h1,h2,h3,h4,d,?_⟩
      replace h:=(if_pos d).symm.trans h
      by_cases c:off.size < on.size
      ·rw [if_pos c]; exact Option.some.inj ((if_pos c).symm.trans h)
      ·rw [if_neg c]; exact Option.some.inj ((if_neg c).symm.trans h)
     ·exact (Option.some_ne_none _ ((if_neg d).symm.trans h).symm).elim
theorem yj {n k t:Nat} {H:Hp} {Q:V->Hp->Prop} (hk:k=2\/k=3) (ht:t < 2 ^ 2 ^ k) (fin: ∀tr inv H',Ext H H'->Je k t tr inv->Q (.tup [toV tr,nV inv]) H'):au prog (n+40) A9 [nV t,nV k] Q H:=by
 obtain ⟨tr,inv,hb,hbo⟩:=Og hk ht
 refine aj mV [some (nV t),some (nV k), .none, .none, .none] rfl rfl ?_
 show Xs (au prog (n+39)) iX _ _
 have Jb:k<=3:=by lia
 have h1:=kY Jb
 obtain ⟨ca,cb,on,off,ha,DP,T8,aae,aaF,hz⟩:=JF hb
 have ef:(1 <<< (1 <<< k)) - 1=bp k:=rfl
 simp only [mach,iX,b9 (show 1 < 2 ^ 40 by decide) (show k<=1000 by lia),b9 (show 1 < 2 ^ 40 by decide) (show 1 <<< k<=1000 by lia),qM (sm _),ef]
 rw [show n+39=(n+28)+cS+5 from rfl]
 refine FQ cS (n+28) t t k ca _ _ ha λ t1 H1 x1 f1 e1=>?_
 simp only [mach,ai]
 rw [show (n+28)+cS+5=(n+30)+cQ+1 from rfl]
 refine w9 cQ (n+30) t1 k ca on _ _ (by lia) e1 T8 λ H2 x2=>?_
 simp only [mach,ops,ai]
 rw [show (n+30)+cQ+1=(n+28)+cS+5 from rfl]
 refine FQ cS (n+28) _ _ k cb _ _ DP λ t3 H3 x3 f3 e3=>?_
 simp only [mach,ai]
 rw [show (n+28)+cS+5=(n+30)+cQ+1 from rfl]
 refine w9 cQ (n+30) t3 k cb off _ _ (by lia) e3 aae λ H4 x4=>?_
 simp only [mach,ai]
 have hx:Ext H H4:=x1.trans (x2.trans (x3.trans x4))
 rw [show (n+30)+cQ+1=(n+38 - off.depth)+off.depth+1 by unfold cQ; lia]
 refine lq off _ _ _ ?_
 simp only [mach,ai]
 rw [show (n+38 - off.depth)+off.depth+1=(n+38 - on.depth)+on.depth+1 by lia]
 refine lq on _ _ _ ?_
 simp only [mach,ops,ai]
 refine aL (λ c=>?_) λ c=>?_
 ·rw [if_pos c] at hz; cases hz
  simp only [mach,c,if_true]
  exact fin _ _ _ hx hbo
 ·rw [if_neg c] at hz; cases hz
  simp only [mach,c,if_false]
  exact fin _ _ _ hx hbo
end
section
open A
noncomputable abbrev aV (c:List Nat):V:= .tup (ae c)
section
variable {QV:PV} {QB:PB} {l:List (Option V)} {H:Hp}
theorem cf (c:List Nat):allInts (ae c)=true:=by
 induction c with
 | nil=>rfl
 | cons x r ih=>exact ih
theorem tZ (c:List Nat) (e:Nat):(ae c).any (jN (nV e))=decide (e∈c):=by
 induction c with
 | nil=>rfl
 | cons x r ih=>
  show (jN (nV e) (nV x) || (ae r).any (jN (nV e)))=_
  rw [ih]
  have:jN (nV e) (nV x)=decide (e=x):=by
   show ((e:Int) == (x:Int))=_
   rw [Bool.eq_iff_iff]; simp; exact Int.ofNat_inj
  rw [this,Bool.eq_iff_iff]; simp
theorem D2 (c:List Nat) (e:Nat):b8 .sa (nV e) (aV c) QV ⟨l,H⟩=QV (.bool (decide (e∈c))) ⟨l,H⟩:=by
 show (allInts (ae c)=true/\QV (.bool ((ae c).any (jN (nV e)))) ⟨l,H⟩)=_
 rw [tZ]; exact propext ⟨λ x=>x.2,λ x=>⟨cf c,x⟩⟩
theorem Ie (c:List Nat) (e:Nat):b8 .BV (nV e) (aV c) QV ⟨l,H⟩=QV (.bool (!decide (e∈c))) ⟨l,H⟩:=by
 show (allInts (ae c)=true/\QV (.bool (!(ae c).any (jN (nV e)))) ⟨l,H⟩)=_
 rw [tZ]; exact propext ⟨λ x=>x.2,λ x=>⟨cf c,x⟩⟩
theorem gY (c:List Nat):eU .len [aV c] QV ⟨l,H⟩=QV (nV c.length) ⟨l,H⟩:=(zf rfl).trans (by rw [az])
theorem fM {c:List Nat} {i:Nat} (h:i < c.length):b7 (aV c) (nV i) QV ⟨l,H⟩=QV (nV (c.getD i 0)) ⟨l,H⟩:=
 bI (by rw [ae,dM,List.getElem?_eq_getElem h]; simp [h])
theorem tuple_list {xs:List V} {a:Nat} (h:H a=some (.list xs)) (hl:xs.length<=lim):eU .tuple [.ref a] QV ⟨l,H⟩=QV (.tup xs) ⟨l,H⟩:=by unfold eU; simp [h,hl]
end
section
variable {n:Nat} {H:Hp} {Q:V->Hp->Prop}
inductive MI (c1 c2:List Nat) (k t:Nat) (H1:Hp) (m:Nat) (σ:St):Prop where
 | mk (i j:Nat) (dn:List Nat) (H:Hp) (e:σ=⟨[some (aV c1),some (aV c2),some (nV k),some (.ref t),some (nV i),some (nV j)],H⟩) (ht:H t=some (.list (ae dn))) (hE:ExtBut t H1 H) (hi:i<=c1.length) (hj:j<=c2.length)
  (hm: ∀e,e∈dn↔e∈c1.take i\/e∈c2.take j) (hl:dn.length<=i+j) (m:m=(c1.length - i)+(c2.length - j))
theorem nX {c:List Nat} {i:Nat} (h:i < c.length) (e:Nat):e∈c.take (i+1)↔e∈c.take i\/e=c.getD i 0:=by
 rw [List.take_add_one,List.getElem?_eq_getElem h,List.mem_append,List.getD_eq_getElem?_getD,List.getElem?_eq_getElem h]
 exact or_congr_right List.mem_singleton
section
variable {C:CT} {c1 c2 dn:List Nat} {k t i j:Nat}
theorem Eh {K:PF} {m:Nat} {H1:Hp} (bz:(ae dn).length < lim) (ht:H t=some (.list (ae dn))) (hE:ExtBut t H1 H) (hi:i<=c1.length) (hj:j<=c2.length) (DT: ∀e,e∈dn↔e∈c1.take i\/e∈c2.take j) (Kv:dn.length<=i+j)
  (hm:m=(c1.length - i)+(c2.length - j)) (hor:i < c1.length\/j < c2.length):Xs C L_merge_cuts_0 (ji (MI c1 c2 k t H1) m K) ⟨[some (aV c1),some (aV c2),some (nV k),some (.ref t),some (nV i),some (nV j)],H⟩:=by
 have go: ∀i' j' x,i'<=c1.length->j'<=c2.length->i+j+1<=i'+j'->(c1.length - i')+(c2.length - j') < m->(∀e,(e∈c1.take i\/e∈c2.take j)\/e=x↔e∈c1.take i'\/e∈c2.take j')->∃m',m' < m/\MI c1 c2 k t H1 m' ⟨[some (aV c1),some (aV c2),some (nV k),some (.ref t),some (nV i'),some (nV j')],upd H t (.list (ae dn++ [nV x]))⟩:=
  λ i' j' x a b c d e=>⟨_,d,i',j',dn++ [x],_,rfl,by rw [ah,ae,ae,List.map_append]; rfl,hE.trans (.upd _ _ _),a,b,λ y=>by rw [List.mem_append,List.mem_singleton,DT]; exact e y,by rw [List.length_append]; exact Nat.le_trans (Nat.succ_le_succ Kv) c,rfl⟩
 have T2:j < c2.length->∃m',m' < m/\MI c1 c2 k t H1 m' ⟨[some (aV c1),some (aV c2),some (nV k),some (.ref t),some (nV i),some (nV (j+1))],upd H t (.list (ae dn++ [nV (c2.getD j 0)]))⟩:=λ h=>go _ _ _ hi h (Nat.le_refl _) (hm▸Nat.add_lt_add_left (Nat.sub_succ_lt_self _ _ h) _) λ e=>by rw [nX h,or_assoc]
 have T1:i < c1.length->∃m',m' < m/\MI c1 c2 k t H1 m' ⟨[some (aV c1),some (aV c2),some (nV k),some (.ref t),some (nV (i+1)),some (nV j)],upd H t (.list (ae dn++ [nV (c1.getD i 0)]))⟩:=λ h=>go _ _ _ h hj (Nat.le_of_eq (Nat.succ_add i j).symm) (hm▸Nat.add_lt_add_right (Nat.sub_succ_lt_self _ _ h) _) λ e=>by rw [nX h,or_right_comm]
 simp only [mach,ops,L_merge_cuts_0,gY]
 refine aL (λ d1=>?_) λ d1=>?_
 ·have Yx:i < c1.length:=hor.elim id λ h=>absurd d1 (Nat.ne_of_lt h)
  simp only [mach,ops,loops,eq_true d1,fM Yx,append_list ht bz,cg]
  exact T1 Yx
 ·have C3:j < c2.length:=Nat.lt_of_le_of_ne hj d1
  simp only [mach,ops,eq_false d1,gY]
  refine aL (λ d2=>?_) λ d2=>?_
  ·simp only [mach,ops,eq_true d2,fM d2,fM C3]
   refine aL (λ d3=>?_) λ d3=>?_
   ·simp only [mach,ops,loops,eq_true d3,fM d2,append_list ht bz,cg]
    exact T1 d2
   ·simp only [mach,ops,eq_false d3,gY,eq_false (Nat.ne_of_lt d2),fM d2,fM C3]
    refine aL (λ d5=>?_) λ d5=>?_
    ·simp only [mach,ops,loops,eq_true d5,fM C3,append_list ht bz,cg]
     exact T2 C3
    ·simp only [mach,ops,loops,eq_false d5,fM d2,append_list ht bz,cg]
     have he:c1.getD i 0=c2.getD j 0:=Nat.le_antisymm (Nat.not_lt.mp d5) (Nat.not_lt.mp d3)
     exact go _ _ _ d2 C3 (Nat.add_le_add_right (Nat.le_succ i) (j+1)) (hm▸Nat.add_lt_add (Nat.sub_succ_lt_self _ _ d2) (Nat.sub_succ_lt_self _ _ C3)) λ e=>by
      rw [nX d2,nX C3,<- he]
      exact ⟨λ h=>h.elim (λ h=>h.elim (λ h=> .inl (.inl h)) λ h=> .inr (.inl h)) λ h=> .inl (.inr h),λ h=>h.elim (λ h=>h.elim (λ h=> .inl (.inl h)) .inr) λ h=>h.elim (λ h=> .inl (.inr h)) .inr⟩
  ·simp only [mach,ops,eq_false d2,gY]
   simp only [mach,ops,loops,eq_true (Nat.le_antisymm hi (Nat.not_lt.mp d2)),fM C3,append_list ht bz,cg]
   exact T2 C3
theorem HV (bz:(ae dn).length<=lim) (ht:H t=some (.list (ae dn))) {o4 o5:Option V} (k1:Q .none H) (k2:dn.length<=k->Q (aV dn) H):Xs C (cM.drop 4) (d8 Q) ⟨[some (aV c1),some (aV c2),some (nV k),some (.ref t),o4,o5],H⟩:=by
 simp only [mach,ops,cM,List.drop,len_list ht,az]
 refine aL (λ c=>?_) λ c=>?_
 ·simp only [mach,eq_true c]; exact k1
 ·simp only [mach,eq_false c,tuple_list ht bz]; exact k2 (Nat.not_lt.mp c)
end
theorem Mg {c1 c2:List Nat} {k:Nat} (h1:c1.length < 1000) (h2:c2.length < 1000) (fin: ∀v H',Ext H H'->(v= .none\/∃m,v=aV m/\m.length<=k/\∀e,e∈m↔e∈c1\/e∈c2)->Q v H'):
  au prog (n+1) y0 [aV c1,aV c2,nV k] Q H:=by
 refine aj kK [some (aV c1),some (aV c2),some (nV k), .none, .none, .none] rfl rfl ?_
 show Xs _ cM _ _
 simp only [mach,cM]
 refine aq λ t H1 f1 e1 x1=>?_
 simp only [mach,ai]
 refine bx (MI c1 c2 k t H1) (c1.length+c2.length) ⟨0,0,[],H1,rfl,e1, .refl _ _,Nat.zero_le _,Nat.zero_le _,λ e=>⟨.inl,λ h=>h.elim id id⟩,Nat.zero_le _,rfl⟩ λ m σ ⟨i,j,dn,H',e,ht,hE,hi,hj,DT,Kv,hm⟩=>?_
 subst e
 have bz:(ae dn).length < lim:=by rw [az]; exact Nat.lt_of_le_of_lt (Nat.le_trans Kv (Nat.add_le_add (Nat.le_trans hi (Nat.le_of_lt h1)) (Nat.le_trans hj (Nat.le_of_lt h2)))) (by decide)
 have body:=λ h=>Eh (C:=au prog n) (K:=lU (au prog n) (cM.drop 4) (d8 Q)) (k:=k) bz ht hE hi hj DT Kv hm h
 simp only [mach,ops,gY]
 by_cases Ye:i < c1.length
 ·simp only [mach,loops,eq_true Ye]
  exact body (.inl Ye)
 ·simp only [mach,ops,eq_false Ye,gY]
  by_cases Yg:j < c2.length
  ·simp only [mach,loops,eq_true Yg]
   exact body (.inr Yg)
  ·simp only [mach,loops,eq_false Yg]
   have hx:Ext H H':=(x1.but t).trans hE |>.ext f1
   exact HV (Nat.le_of_lt bz) ht (fin _ _ hx (.inl rfl)) λ c=>fin _ _ hx (.inr ⟨dn,rfl,c,λ e=>by rw [DT e,List.take_of_length_le (Nat.not_lt.mp Ye),List.take_of_length_le (Nat.not_lt.mp Yg)]⟩)
end
end
section
open A
noncomputable def bf (cs:List (List Nat)):List V:=cs.map aV
theorem fQ (cs:List (List Nat)):(bf cs).length=cs.length:=by simp [bf]
section
variable {n:Nat} {H:Hp} {Q:V->Hp->Prop}
theorem CW {K:PF} {C:CT} {x0:V} {big:List Nat} {all:List V} {it:V} (hit:itemsOf H it=some all): ∀(small:List Nat) (o2:Option V),
  (∀o2,K .next ⟨[some x0,some (aV big),o2],H⟩)->(∀o2,K (.ret (.bool false)) ⟨[some x0,some (aV big),o2],H⟩)->
  aC C (.inr 2) L_within_0 it all K (ae small) ⟨[some x0,some (aV big),o2],H⟩:=by
 intro small
 induction small with
 | nil=>intro o2 f1 f2; exact f1 o2
 | cons e r ih=>
  intro o2 f1 f2
  show aC _ _ _ _ _ K (nV e::ae r) _
  simp only [mach,ops,loops,L_within_0,Ie]
  by_cases c:e∈big
  ·simp only [mach,loops,c,decide_true,Bool.not_true,Bool.false_eq_true,if_false,hit,true_and]
   exact ih _ f1 f2
  ·simp only [mach,loops,c,decide_false,Bool.not_false,if_true]
   exact f2 _
theorem I7 {small big:List Nat} (fin: ∀b,Q (.bool b) H):au prog (n+1) KV [aV small,aV big] Q H:=by
 refine aj uy [some (aV small),some (aV big), .none] rfl rfl ?_
 show Xs _ pW _ _
 simp only [mach,pW]
 rw [aX (aH _)]
 refine CW (aH _) small _ (λ o2=>?_) (λ o2=>?_)
 ·simp only [mach,ai]; exact fin true
 ·simp only [mach,ai]; exact fin false
theorem NB {K:PF} {c:List Nat} {z0:Option V} {t:Nat} {all:List V} (hit:itemsOf H (.ref t)=some all): ∀(ks:List (List Nat)) (b:Bool) (o4:Option V),
  (∀b o4,K .next ⟨[z0,some (.ref t),some (aV c),some (.bool b),o4],H⟩)->
  aC (au prog (n+1)) (.inr 4) L_without_dominated_1 (.ref t) all K (bf ks) ⟨[z0,some (.ref t),some (aV c),some (.bool b),o4],H⟩:=by
 intro ks
 induction ks with
 | nil=>intro b o4 fin; exact fin b o4
 | cons k r ih=>
  intro b o4 fin
  show aC _ _ _ _ _ K (aV k::bf r) _
  simp only [mach,loops,L_without_dominated_1]
  refine I7 λ b'=>?_
  simp only [mach,iS]
  cases b' with
  | true=>simp only [mach,loops,if_true,hit,true_and]; exact ih _ _ fin
  | false=>simp only [mach,loops,Bool.false_eq_true,if_false,hit,true_and]; exact ih _ _ fin
theorem QK {K:PF} {z0:Option V} {t s:Nat} {all:List V} (KN:s≠t): ∀(cs ks:List (List Nat)) (H H₀:Hp) (o2 o3 o4:Option V),H t=some (.list (bf ks))->H s=some (.list all)->ks.length+cs.length < 1000->ExtBut t H₀ H->
  (∀Ur H' o2 o3 o4,H' t=some (.list (bf Ur))->(∀c∈Ur,c∈ks\/c∈cs)->Ur.length<=ks.length+cs.length->ExtBut t H₀ H'->K .next ⟨[z0,some (.ref t),o2,o3,o4],H'⟩)->
  aC (au prog (n+1)) (.inr 2) L_without_dominated_0 (.ref s) all K (bf cs) ⟨[z0,some (.ref t),o2,o3,o4],H⟩:=by
 intro cs
 induction cs with
 | nil=>intro ks H H₀ o2 o3 o4 ht hs hl hE fin; exact fin ks H o2 o3 o4 ht (λ c h=> .inl h) (by simp) hE
 | cons c r ih=>
  intro ks H H₀ o2 o3 o4 ht hs hl hE fin
  simp only [List.length_cons] at hl
  show aC _ _ _ _ _ K (aV c::bf r) _
  simp only [mach,loops,L_without_dominated_0]
  rw [aX (ay ht)]
  refine NB (ay ht) ks true _ λ b o4=>?_
  have bz:(bf ks).length < lim:=by rw [fQ]; unfold lim; lia
  simp only [mach,iS]
  cases b with
  | true=>
   have Ub:upd H t (.list (bf ks++ [aV c])) s=some (.list all):=(ao _ _ KN).trans hs
   simp only [mach,loops,if_true,append_list ht bz,ay Ub,true_and]
   refine ih (ks++ [c]) _ H₀ _ _ _ (by rw [ah]; simp [bf]) Ub (by simp; lia) (hE.trans (.upd _ _ _)) λ Ur H' o2 o3 o4 h1 h2 h3 h4=>fin Ur H' o2 o3 o4 h1 (λ e he=>?_) (by simp at h3 ⊢; lia) h4
   rcases h2 e he with q | q
   ·rcases List.mem_append.mp q with q | q
    ·exact .inl q
    ·rw [List.mem_singleton.mp q]; exact .inr (.head _)
   ·exact .inr (.tail _ q)
  | false=>
   simp only [mach,loops,Bool.false_eq_true,if_false,ay hs,true_and]
   refine ih ks _ H₀ _ _ _ ht hs (by exact Nat.lt_of_succ_lt hl) hE λ Ur H' o2 o3 o4 h1 h2 h3 h4=>fin Ur H' o2 o3 o4 h1 (λ e he=>(h2 e he).imp id (.tail _)) (by simp; exact Nat.le_succ_of_le h3) h4
theorem EC {QV:PV} {l:List (Option V)} {H:Hp} {a:Nat} {cs:List (List Nat)} (h:H a=some (.list (bf cs))) (hl:cs.length < 64) (hc: ∀c∈cs,c.length<=100)
  (fin: ∀zs,zs.Perm cs->alloc (.list (bf zs)) QV ⟨l,H⟩):zU (.ref a) QV ⟨l,H⟩:=by
 show (match H a with | some (.list xs)=>_ | _=>False)
 rw [h]
 refine ⟨⟨by rw [fQ]; exact hl,λ x hx=>?_⟩,λ zs hz=>?_⟩
 ·obtain ⟨c,TQ,rfl⟩:=List.mem_map.mp hx
  exact ⟨ae c,rfl,cf c,by rw [az]; have:=hc c TQ; unfold lim; lia⟩
 ·have hzs: ∃ds,zs=bf ds:=by
   have: ∀zs:List V,(∀z∈zs,∃c,z=aV c)->∃ds,zs=bf ds:=by
    intro zs
    induction zs with
    | nil=>intro _; exact ⟨[],rfl⟩
    | cons z r ih=>
     intro h
     obtain ⟨c,rfl⟩:=h z (.head _)
     obtain ⟨ds,rfl⟩:=ih λ y hy=>h y (.tail _ hy)
     exact ⟨c::ds,rfl⟩
   refine this zs λ z hz'=>?_
   obtain ⟨c,_,rfl⟩:=List.mem_map.mp (hz.mem_iff.mp hz')
   exact ⟨c,rfl⟩
  obtain ⟨ds,rfl⟩:=hzs
  refine fin ds ?_
  have inj: ∀a b:List Nat,aV a=aV b->a=b:=by
   intro a b h
   have h1:ae a=ae b:=by injection h
   have: ∀a b:List Nat,ae a=ae b->a=b:=by
    intro a
    induction a with
    | nil=>intro b h; cases b with
     | nil=>rfl
     | cons y r=>cases h
    | cons x a ih=>intro b h; cases b with
     | nil=>cases h
     | cons y r=>
      simp only [ae,List.map_cons,List.cons.injEq] at h
      obtain ⟨h1,h2⟩:=h
      have NV:(x:Int)=(y:Int):=by injection h1
      rw [ih r h2,show x=y by exact Int.ofNat_inj.mp NV]
   exact this a b h1
  have back: ∀(f:V->List Nat),(∀c,f (aV c)=c)->ds.Perm cs:=λ f hf=>by
   have:=hz.map f
   unfold bf at this
   rw [List.map_map,List.map_map] at this
   have e:(f∘aV)=id:=funext hf
   rw [e] at this; simpa using this
  refine back (λ v=>match v with | .tup xs=>xs.map (λ v=>match v with | .int i=>i.toNat | _=>0) | _=> []) λ c=>?_
  show (ae c).map _=c
  unfold ae
  rw [List.map_map]
  have:((λ v:V=>match v with | .int i=>i.toNat | _=>0)∘nV)=id:=funext λ x=>xX x
  rw [this]; exact List.map_id c
theorem nF {a:Nat} {cs:List (List Nat)} (ha:H a=some (.list (bf cs))) (hl:cs.length < 64) (hc: ∀c∈cs,c.length<=100)
  (fin: ∀t ks H',Ext H H'->H t= .none->H' t=some (.list (bf ks))->(∀c∈ks,c∈cs)->ks.length<=cs.length->Q (.ref t) H'):au prog (n+2) oj [.ref a] Q H:=by
 refine aj dy [some (.ref a), .none, .none, .none, .none] rfl rfl ?_
 show Xs _ cz _ _
 simp only [mach,cz]
 refine aq λ t H1 f1 e1 x1=>?_
 simp only [mach,ai]
 refine EC (x1 _ _ ha) hl hc λ zs hz=>?_
 refine aq λ s H2 f2 e2 x2=>?_
 have WQ:s≠t:=λ q=>by rw [q,e1] at f2; cases f2
 rw [aX (ay e2)]
 refine QK WQ zs [] H2 H2 _ _ _ (x2 _ _ e1) e2 (by rw [hz.length_eq]; simp; lia) (.refl _ _) λ ks H3 o2 o3 o4 h1 h2 h3 h4=>?_
 simp only [mach,ai]
 exact fin t ks H3 (((x1.but t).trans ((x2.but t).trans h4)).ext f1) f1 h1 (λ c hc=>hz.mem_iff.mp ((h2 c hc).resolve_left (λ q=>nomatch q))) (by rw [hz.length_eq] at h3; simpa using h3)
end
end
section
open A
noncomputable def pR (L R:List (List Nat)) (k:Nat) (c:List Nat):Prop:=c.length<=k/\∃a∈L,∃b∈R,∀e,e∈c↔e∈a\/e∈b
theorem Hw {QV:PV} {l:List (Option V)} {H:Hp} (c:List Nat):b8 .dm (aV c) .none QV ⟨l,H⟩=QV (.bool true) ⟨l,H⟩:=rfl
theorem Rb (a b:List (List Nat)):bf (a++b)=bf a++bf b:=by simp [bf]
section
variable {n:Nat}
theorem Mh {K:PF} {L R:List (List Nat)} {k most M rr:Nat} {z0 z1:Option V} {a:List Nat} {all:List V} (ha:a∈L) (YF:rr≠M) (Wm: ∀c∈L,c.length < 1000) (Rh: ∀c∈R,c.length < 1000): ∀(bs ms:List (List Nat)) (H H₀:Hp) (o7 o8 o9:Option V),(∀b∈bs,b∈R)->
  H M=some (.list (bf ms))->H rr=some (.list all)->(∀c∈ms,pR L R k c)->ms.length+bs.length < 1000->ExtBut M H₀ H->
  (∀HY H' o7 o8 o9,H' M=some (.list (bf HY))->(∀c∈HY,pR L R k c)->HY.length<=ms.length+bs.length->ExtBut M H₀ H'->K .next ⟨[z0,z1,some (.ref rr),some (nV k),some (nV most),some (.ref M),some (aV a),o7,o8,o9],H'⟩)->
  aC (au prog (n+1)) (.inr 7) L_node_cuts_1 (.ref rr) all K (bf bs) ⟨[z0,z1,some (.ref rr),some (nV k),some (nV most),some (.ref M),some (aV a),o7,o8,o9],H⟩:=by
 intro bs
 induction bs with
 | nil=>intro ms H H₀ o7 o8 o9 _ hM hR hp hl hE fin; exact fin ms H o7 o8 o9 hM hp (by simp) hE
 | cons b r ih=>
  intro ms H H₀ o7 o8 o9 hb hM hR hp hl hE fin
  simp only [List.length_cons] at hl
  show aC _ _ _ _ _ K (aV b::bf r) _
  simp only [mach,loops,L_node_cuts_1]
  refine Mg (Wm a ha) (Rh b (hb b (.head _))) λ v H1 x1 hv=>?_
  have Yq:=x1 _ _ hM
  have OY:=x1 _ _ hR
  have Wh:ExtBut M H₀ H1:=hE.trans (x1.but M)
  rcases hv with rfl | ⟨m,rfl,hm1,hm2⟩
  ·simp only [mach,ops,loops,Bool.false_eq_true,if_false,ay OY,true_and]
   exact ih ms H1 H₀ _ _ _ (λ b' h=>hb b' (.tail _ h)) Yq OY hp (by exact Nat.lt_of_succ_lt hl) Wh λ HY H' o7 o8 o9 h1 h2 h3 h4=>fin HY H' o7 o8 o9 h1 h2 (by simp; exact Nat.le_succ_of_le h3) h4
  ·have bz:(bf ms).length < lim:=by rw [fQ]; unfold lim; lia
   have hR2:upd H1 M (.list (bf ms++ [aV m])) rr=some (.list all):=(ao _ _ YF).trans OY
   simp only [mach,ops,loops,Hw,if_true,append_list Yq bz,ay hR2,true_and]
   refine ih (ms++ [m]) _ H₀ _ _ _ (λ b' h=>hb b' (.tail _ h)) (by rw [ah]; simp [bf]) hR2 (λ c hc=>?_) (by simp; lia) (Wh.trans (.upd _ _ _)) λ HY H' o7 o8 o9 h1 h2 h3 h4=>fin HY H' o7 o8 o9 h1 h2 (by simp at h3 ⊢; lia) h4
   rcases List.mem_append.mp hc with hc | hc
   ·exact hp c hc
   ·rw [List.mem_singleton.mp hc]; exact ⟨hm1,a,ha,b,hb b (.head _),hm2⟩
theorem Mj {K:PF} {L R:List (List Nat)} {k most M rr ll:Nat} {z0:Option V} (YF:rr≠M) (Z9:ll≠M) (Wm: ∀c∈L,c.length < 1000) (Rh: ∀c∈R,c.length < 1000) (hRn:R.length<=7): ∀(as ms:List (List Nat)) (H H₀:Hp) (o6 o7 o8 o9:Option V),(∀a∈as,a∈L)->
  H M=some (.list (bf ms))->H rr=some (.list (bf R))->H ll=some (.list (bf L))->(∀c∈ms,pR L R k c)->ms.length+7*as.length < 64->ExtBut M H₀ H->
  (∀HY H' o6 o7 o8 o9,H' M=some (.list (bf HY))->(∀c∈HY,pR L R k c)->HY.length < 64->ExtBut M H₀ H'->K .next ⟨[z0,some (.ref ll),some (.ref rr),some (nV k),some (nV most),some (.ref M),o6,o7,o8,o9],H'⟩)->
  aC (au prog (n+1)) (.inr 6) L_node_cuts_0 (.ref ll) (bf L) K (bf as) ⟨[z0,some (.ref ll),some (.ref rr),some (nV k),some (nV most),some (.ref M),o6,o7,o8,o9],H⟩:=by
 intro as
 induction as with
 | nil=>intro ms H H₀ o6 o7 o8 o9 _ hM hR hL hp hl hE fin; exact fin ms H _ _ _ _ hM hp (by simpa using hl) hE
 | cons a r ih=>
  intro ms H H₀ o6 o7 o8 o9 ha hM hR hL hp hl hE fin
  simp only [List.length_cons] at hl
  show aC _ _ _ _ _ K (aV a::bf r) _
  simp only [mach,loops,L_node_cuts_0]
  rw [aX (ay hR)]
  refine Mh (z1:=some (.ref ll)) (ha a (.head _)) YF Wm Rh R ms H H _ _ _ (λ x h=>h) hM hR hp (by lia) (.refl _ _) λ HY H' o7 o8 o9 h1 h2 h3 h4=>?_
  have hL':=h4 _ _ Z9 hL
  simp only [mach,loops,ay hL',true_and]
  exact ih HY H' H₀ _ _ _ _ (λ a' h=>ha a' (.tail _ h)) h1 (h4 _ _ YF hR) hL' h2 (by lia) (hE.trans h4) fin
theorem G9 (cs:List (List Nat)) (i:Nat):(bf cs).take i=bf (cs.take i):=by simp [bf,List.map_take]
theorem zC {H:Hp} {Q:V->Hp->Prop} {node ll rr k most:Nat} {L R:List (List Nat)} (hL:H ll=some (.list (bf L))) (hR:H rr=some (.list (bf R))) (hk:k<=100) (lK:most<=6) (hLn:L.length<=7) (hRn:R.length<=7)
  (Wm: ∀c∈L,c.length<=100) (Rh: ∀c∈R,c.length<=100)
  (fin: ∀t rs H',Ext H H'->H t= .none->H' t=some (.list (bf rs))->rs.length<=most+1->(∀c∈rs,pR L R k c\/c= [node])->Q (.ref t) H'):
  au prog (n+3) Be [nV node, .ref ll, .ref rr,nV k,nV most] Q H:=by
 refine aj mZ [some (nV node),some (.ref ll),some (.ref rr),some (nV k),some (nV most), .none, .none, .none, .none, .none] rfl rfl ?_
 show Xs _ i5 _ _
 simp only [mach,i5]
 refine aq λ M H1 f1 e1 x1=>?_
 have Kn:=x1 _ _ hL
 have OY:=x1 _ _ hR
 simp only [mach,ai]
 rw [aX (ay Kn)]
 refine Mj (ak hR f1) (ak hL f1) (λ c hc=>by have:=Wm c hc; lia) (λ c hc=>by have:=Rh c hc; lia) hRn L [] H1 H1 _ _ _ _ (λ x h=>h) e1 OY Kn (λ x h=>nomatch h) (by simp; lia) (.refl _ _) λ ms H2 o6 o7 o8 o9 h1 h2 h3 h4=>?_
 simp only [mach,ai]
 refine nF h1 h3 (λ c hc=>by have:=(h2 c hc).1; exact Nat.le_trans this hk) λ t2 ks H3 x3 f3 e3 Hm hkl=>?_
 have hml:most<=lim:=by unfold lim; lia
 simp only [mach,ai]
 rw [ya e3 hml (by rw [fQ]; unfold lim; lia),G9]
 refine aq λ t H4 f4 e4 x4=>?_
 have hkt:(bf (ks.take most)).length < lim:=by rw [fQ]; simp; unfold lim; lia
 have hx:Ext H H4:=(((x1.but M).trans h4).ext f1).trans (x3.trans x4)
 have ft:H t= .none:=by
  cases q:H t with
  | none=>rfl
  | some o=>
   have:H3 t=some o:=x3 _ _ (h4 _ _ (ak q f1) (x1 _ _ q))
   rw [this] at f4; cases f4
 simp only [mach,append_list e4 hkt]
 refine fin t (ks.take most++ [[node]]) _ (λ b o e=>?_) ft ?_ ?_ ?_
 ·exact (ao _ _ (ak e ft)).trans (hx b o e)
 ·rw [ah]; simp [bf,ae]
 ·simp; exact Nat.min_le_left most ks.length
 ·intro c hc
  rcases List.mem_append.mp hc with hc | hc
  ·exact .inl (h2 c (Hm c (List.mem_of_mem_take hc)))
  ·exact .inr (List.mem_singleton.mp hc)
inductive E0 (g:A) (c:List Nat):Nat->Prop where
 | mem {v:Nat}:v∈c->E0 g c v
 | zero:E0 g c 0
 | node {v x y:Nat}:g.pair v=some (x,y)->E0 g c (x / 2)->E0 g c (y / 2)->E0 g c v
theorem E0.mono {g:A} {c d:List Nat} (h: ∀e∈c,e∈d) {v:Nat} (k:E0 g c v):E0 g d v:=by
 induction k with
 | mem m=>exact .mem (h _ m)
 | zero=>exact .zero
 | node hp _ _ ix iy=>exact .node hp ix iy
structure E2 (g:A) (k v:Nat) (c:List Nat):Prop where
 cov:E0 g c v
 len:c.length<=max 1 k
 le: ∀e∈c,1<=e/\e<=v
structure jm (g:A) (k most:Nat) (R:Nat) (rs:List Nat) (H:Hp):Prop where
 row: ∀v,v < rs.length->∃cs,H (rs.getD v 0)=some (.list (bf cs))/\cs.length<=most+1/\∀c∈cs,E2 g k v c
 ne: ∀v,v < rs.length->rs.getD v 0≠R
noncomputable def oJ (rs:List Nat):List V:=rs.map V.ref
theorem vD {QV:PV} {l:List (Option V)} {H:Hp} {a v:Nat} {rs:List Nat} (h:H a=some (.list (oJ rs))) (hv:v < rs.length):b7 (.ref a) (nV v) QV ⟨l,H⟩=QV (.ref (rs.getD v 0)) ⟨l,H⟩:=
 aU h (by rw [oJ,dM,List.getElem?_eq_getElem hv]; simp [hv])
set_option tactic.hygienic true in
theorem getD_snoc (rs:List Nat) (a v:Nat) (h:v < rs.length+1):(rs++ [a]).getD v 0=if v=rs.length then a else rs.getD v 0:=by
 simp only [List.getD_eq_getElem?_getD]
 split
 ·rename_i e; subst e; simp
 ·rw [List.getElem?_append_left (by lia)]
set_option tactic.hygienic true in
theorem jm.snoc {g:A} {k most R a:Nat} {rs:List Nat} {H H':Hp} (h:jm g k most R rs H) (hE: ∀b o,b≠R->H b=some o->H' b=some o) {cs:List (List Nat)} (ha:H' a=some (.list (bf cs))) (O2:a≠R) (hl:cs.length<=most+1) (hc: ∀c∈cs,E2 g k rs.length c):
  jm g k most R (rs++ [a]) H':=
 ⟨λ v hv=>by
  simp at hv
  rw [getD_snoc _ _ _ hv]
  split
  ·rename_i e; subst e; exact ⟨cs,ha,hl,hc⟩
  ·obtain ⟨cs',h1,h2⟩:=h.row v (by lia)
   exact ⟨cs',hE _ _ (h.ne v (by lia)) h1,h2⟩,λ v hv=>by
  simp at hv
  rw [getD_snoc _ _ _ hv]
  split
  ·exact O2
  ·exact h.ne v (by lia)⟩
theorem vU {K:PF} {ad R k most:Nat} {g:A} {H₀:Hp} (w:g.WF) (hN:g.N < 2000) (hk:k<=100) (lK:most<=6) (Wq:ad≠R) (f0:H₀ R= .none) {all:List V} (hit: ∀H,itemsOf H (.range ((1:Nat):Int) (g.N:Int) false)=some all): ∀(d v:Nat) (rs:List Nat) (H:Hp) (o4 o5:Option V),v+d=g.N->1<=v->rs.length=v->
  H ad=some g.obj->H R=some (.list (oJ rs))->jm g k most R rs H->ExtBut R H₀ H->
  (∀rs H' o4 o5,rs.length=g.N->H' R=some (.list (oJ rs))->jm g k most R rs H'->ExtBut R H₀ H'->K .next ⟨[some (.ref ad),some (nV k),some (nV most),some (.ref R),o4,o5],H'⟩)->
  aC (au prog (n+3)) (.inr 4) L_cut_sets_0 (.range ((1:Nat):Int) (g.N:Int) false) all K (ae (List.range' v d)) ⟨[some (.ref ad),some (nV k),some (nV most),some (.ref R),o4,o5],H⟩:=by
 intro d
 induction d with
 | zero=>
  intro v rs H o4 o5 hv h1 hr hG hR hO hE fin
  exact fin rs H o4 o5 (by lia) hR hO hE
 | succ d ih=>
  intro v rs H o4 o5 hv h1 hr hG hR hO hE fin
  rw [List.range'_succ]
  show aC _ (.inr 4) L_cut_sets_0 _ _ K (nV v::ae (List.range' (v+1) d)) _
  have DV:v < g.N:=by lia
  have Rh:(oJ rs).length < lim:=by simp [oJ,hr]; unfold lim; lia
  simp only [mach,ops,ops2,loops,L_cut_sets_0,aw hG 0 (by decide),aO hG DV]
  cases hp:g.pair v with
  | none=>
   simp only [mach,Option.isNone_none,if_true]
   refine And.intro (dN hR) (aq λ a H1 f1 e1 x1=>?_)
   have OY:=x1 _ _ hR
   have O2:a≠R:=λ q=>by rw [q,hR] at f1; cases f1
   simp only [mach,loops,ik OY Rh,hit,true_and]
   refine ih (v+1) (rs++ [a]) _ _ _ (by lia) (by lia) (by simp [hr]) ((ao _ _ Wq).trans (x1 _ _ hG)) (by rw [ah]; simp [oJ]) ?_ ((hE.trans (x1.but R)).trans (.upd _ _ _)) fin
   refine hO.snoc (cs:= [[v]]) (λ b o h e=>(ao _ _ h).trans (x1 _ _ e)) ((ao _ _ O2).trans (by rw [e1]; rfl)) O2 (by exact Nat.le_add_left [[v]].length most) λ c hc=>?_
   rw [List.mem_singleton.mp hc,hr]
   exact ⟨.mem (.head _),by simp; lia,λ e he=>by rw [List.mem_singleton.mp he]; lia⟩
  | some p=>
   obtain ⟨x,y⟩:=p
   have uD:=w.kids hp
   have hx:x / 2 < rs.length:=by lia
   have hy:y / 2 < rs.length:=by lia
   obtain ⟨L,Kn,hL2,ZI⟩:=hO.row _ hx
   obtain ⟨M,Yq,hM2,ZJ⟩:=hO.row _ hy
   have L3: ∀{v c},E2 g k v c->c.length<=100:=λ h=>by have:=h.len; lia
   simp only [mach,ops,ops2,Option.isNone_some,Bool.false_eq_true,if_false,cT,vD hR hx,vD hR hy]
   refine And.intro (dN hR) (zC Kn Yq hk lK (by lia) (by lia) (λ c hc=>L3 (ZI c hc)) (λ c hc=>L3 (ZJ c hc)) λ a rows H1 x1 f1 e1 hl hc=>?_)
   have OY:=x1 _ _ hR
   have O2:a≠R:=λ q=>by rw [q,hR] at f1; cases f1
   simp only [mach,loops,ik OY Rh,hit,true_and]
   refine ih (v+1) (rs++ [a]) _ _ _ (by lia) (by lia) (by simp [hr]) ((ao _ _ Wq).trans (x1 _ _ hG)) (by rw [ah]; simp [oJ]) ?_ ((hE.trans (x1.but R)).trans (.upd _ _ _)) fin
   refine hO.snoc (cs:=rows) (λ b o h e=>(ao _ _ h).trans (x1 _ _ e)) ((ao _ _ O2).trans e1) O2 hl λ c TQ=>?_
   rw [hr]
   rcases hc c TQ with ⟨h1,a',OZ,b',DP,Ko⟩ | rfl
   ·refine ⟨.node hp ((ZI a' OZ).cov.mono λ e he=>(Ko e).mpr (.inl he)) ((ZJ b' DP).cov.mono λ e he=>(Ko e).mpr (.inr he)),by lia,λ e he=>?_⟩
    rcases (Ko e).mp he with q | q
    ·have:=(ZI a' OZ).le e q; lia
    ·have:=(ZJ b' DP).le e q; lia
   ·exact ⟨.mem (.head _),by simp; lia,λ e he=>by rw [List.mem_singleton.mp he]; lia⟩
theorem Az {H:Hp} {Q:V->Hp->Prop} {ad k most:Nat} {g:A} (hG:H ad=some g.obj) (w:g.WF) (hN:g.N < 2000) (hk:k<=100) (lK:most<=6)
  (fin: ∀R rs H',Ext H H'->H R= .none->H' R=some (.list (oJ rs))->rs.length=g.N->jm g k most R rs H'->Q (.ref R) H'):au prog (n+4) DX [.ref ad,nV k,nV most] Q H:=by
 refine aj pe [some (.ref ad),some (nV k),some (nV most), .none, .none, .none] rfl rfl ?_
 show Xs _ kb _ _
 simp only [mach,kb]
 refine aq λ a H1 f1 e1 x1=>?_
 simp only [mach,ai]
 refine aq λ R H2 f2 e2 x2=>?_
 have dk:=x2 _ _ (x1 _ _ hG)
 have O2:a≠R:=ak e1 f2
 have bz:g.N<=lim:=by unfold lim; lia
 simp only [mach,aw dk 0 (by decide),bj dk]
 rw [Ep (by decide) bz,aX uM]
 have hN1:1<=g.N:=by unfold A.N; lia
 refine vU w hN hk lK (ak (x1 _ _ hG) f2) (H₀:=H1) f2 (λ x=>uM) (g.N - 1) 1 [a] H2 _ _ (by exact Nat.add_sub_of_le hN1) (Nat.le_refl _) rfl dk e2 ?_ (x2.but R) λ rs H3 o4 o5 h1 h2 h3 h4=>?_
 ·refine ⟨λ v hv=>⟨[[]],?_,by exact Nat.le_add_left [[]].length most,λ c hc=>?_⟩,λ v hv=>?_⟩
  ·have:v=0:=by simpa using hv
   subst this; rw [show [a].getD 0 0=a from rfl,x2 _ _ e1]; rfl
  ·have:v=0:=by simpa using hv
   subst this; rw [List.mem_singleton.mp hc]
   exact ⟨.zero,by simp,λ x h=>nomatch h⟩
  ·have:v=0:=by simpa using hv
   subst this; exact O2
 ·simp only [mach,ai]
  exact fin R rs H3 (x1.trans (h4.ext f2)) (bg x1 f2) h2 h1 h3
end
end
section
open A
theorem lu (a b:Nat):jN (nV a) (nV b)=decide (a=b):=by
 show ((a:Int) == (b:Int))=_
 rw [Bool.eq_iff_iff]; simp; exact Int.ofNat_inj
noncomputable def intKeyed (es:List (V×V)):Prop:= ∀e∈es,∃n:Nat,e.1=nV n
theorem nO (es:List (V×V)) (hk:intKeyed es) (k k':Nat) (v:V):bU (cR es (nV k) v) (nV k')=if k=k' then some v else bU es (nV k'):=by
 induction es with
 | nil=>
  show (if jN (nV k) (nV k')=true then some v else bU [] (nV k'))=_
  rw [lu]; by_cases c:k=k' <;> simp only [c,decide_true,decide_false,if_true,if_false,Bool.false_eq_true] <;> rfl
 | cons e r ih=>
  obtain ⟨a,u⟩:=e
  obtain ⟨n,rfl⟩:=hk _ (.head _)
  have ih':=ih λ e he=>hk e (.tail _ he)
  show bU (if jN (nV n) (nV k)=true then (nV n,v)::r else (nV n,u)::cR r (nV k) v) (nV k')=_
  rw [lu]
  by_cases c:n=k
  ·subst c
   simp only [decide_true,if_true]
   show (if jN (nV n) (nV k')=true then some v else bU r (nV k'))=if n=k' then some v else (if jN (nV n) (nV k')=true then some u else bU r (nV k'))
   rw [lu]
   by_cases d:n=k' <;> simp [d]
  ·simp only [c,decide_false,Bool.false_eq_true,if_false]
   show (if jN (nV n) (nV k')=true then some u else bU (cR r (nV k) v) (nV k'))=if k=k' then some v else (if jN (nV n) (nV k')=true then some u else bU r (nV k'))
   rw [lu,ih']
   by_cases d:n=k'
   ·subst d
    have: ¬k=n:=λ q=>c q.symm
    simp [this]
   ·simp [d]
theorem oY {es:List (V×V)} (hk:intKeyed es) (k:Nat) (v:V):intKeyed (cR es (nV k) v):=by
 induction es with
 | nil=>intro e he; rw [List.mem_singleton.mp he]; exact ⟨k,rfl⟩
 | cons e r ih=>
  obtain ⟨a,u⟩:=e
  have ih':=ih λ e he=>hk e (.tail _ he)
  intro e he
  change e∈(if jN a (nV k)=true then (a,v)::r else (a,u)::cR r (nV k) v) at he
  split at he
  ·rcases List.mem_cons.mp he with rfl | he
   ·exact hk (a,u) (.head _)
   ·exact hk e (.tail _ he)
  ·rcases List.mem_cons.mp he with rfl | he
   ·exact hk (a,u) (.head _)
   ·exact ih' e he
theorem jg (es:List (V×V)) (k v:V):(cR es k v).length<=es.length+1:=by
 induction es with
 | nil=>exact Nat.le_refl _
 | cons e r ih=>
  obtain ⟨a,u⟩:=e
  show (if jN a k=true then (a,v)::r else (a,u)::cR r k v).length<=_
  split
  ·exact Nat.le_add_right ((a,v)::r).length 1
  ·simp; assumption
section
variable {QV:PV} {QF:PF} {l:List (Option V)} {H:Hp} {a:Nat} {es:List (V×V)}
theorem qg (h:H a=some (.dict es)):dictOf H (.ref a)=some es:=congrArg (λ o=>dictOf (λ z=>o) (.ref a)) h
theorem j5 (h:H a=some (.dict es)) (hk:intKeyed es) (hl:es.length < lim) {k:Nat} {v:V}:bC (.ref a) (nV k) v QF ⟨l,H⟩=QF .next ⟨l,upd H a (.dict (cR es (nV k) v))⟩:=by
 have Ky: ∀e∈es,(match e.1,nV k with | .int _, .int _=>True | .tup _, .tup _=>True | _,_=>False):=by
  intro e he
  obtain ⟨n,e'⟩:=hk e he
  rw [e']; trivial
 have hs:k9 H (.ref a) (cR es (nV k) v)=some (upd H a (.dict (cR es (nV k) v))):=by show (match H a with | some (.dict _)=>some (upd H a (.dict (cR es (nV k) v))) | _=> .none)=_; rw [h]
 unfold bC; rw [qg h]
 show (_/\match k9 H (.ref a) (cR es (nV k) v) with | some H'=>_ | .none=>_)=_
 rw [hs]; exact propext ⟨λ x=>x.2,λ x=>⟨⟨rfl,hl,Ky⟩,x⟩⟩
theorem qL (h:H a=some (.dict es)) {k:Nat} {v:V} (hv:bU es (nV k)=some v):b7 (.ref a) (nV k) QV ⟨l,H⟩=QV v ⟨l,H⟩:=by
 unfold b7; rw [qg h]
 show (_/\match bU es (nV k) with | some v=>QV v ⟨l,H⟩ | .none=>False)=_
 rw [hv]; exact propext ⟨λ x=>x.2,λ x=>⟨rfl,x⟩⟩
theorem in_dict (h:H a=some (.dict es)) {k:Nat}:b8 .sa (nV k) (.ref a) QV ⟨l,H⟩=QV (.bool (bU es (nV k)).isSome) ⟨l,H⟩:=by
 show (match dictOf H (.ref a) with | some es=>cH (.ref a) (nV k)=true/\QV (.bool (bU es (nV k)).isSome) ⟨l,H⟩ | .none=>_)=_
 rw [qg h]; exact propext ⟨λ x=>x.2,λ x=>⟨rfl,x⟩⟩
end
noncomputable def iQ (s:List Nat):List (V×V):=s.map λ v=>(nV v,V.bool true)
theorem Es (s:List Nat):intKeyed (iQ s):=λ e he=>by
 obtain ⟨v,_,rfl⟩:=List.mem_map.mp he; exact ⟨v,rfl⟩
theorem MX (s:List Nat) (e:Nat):(bU (iQ s) (nV e)).isSome=decide (e∈s):=by
 induction s with
 | nil=>rfl
 | cons x r ih=>
  show (if jN (nV x) (nV e)=true then some (V.bool true) else bU (iQ r) (nV e)).isSome=_
  rw [lu]
  by_cases c:x=e
  ·simp [c]
  ·simp only [c,decide_false,Bool.false_eq_true,if_false,ih]
   have: ¬e=x:=λ q=>c q.symm
   simp [this]
theorem MY (s:List Nat) (e:Nat) (h:e∉s):cR (iQ s) (nV e) (.bool true)=iQ (s++ [e]):=by
 induction s with
 | nil=>rfl
 | cons x r ih=>
  have h1: ¬x=e:=λ q=>h (q▸ .head _)
  have h2:e∉r:=λ q=>h (.tail _ q)
  show (if jN (nV x) (nV e)=true then _ else _)=_
  rw [lu]
  simp only [h1,decide_false,Bool.false_eq_true,if_false]
  show (nV x,V.bool true)::cR (iQ r) (nV e) (V.bool true)=_
  rw [ih h2]; rfl
noncomputable def Bj (x:Nat):List Nat->List Nat
 | []=> [x]
 | y::r=>if x<=y then x::y::r else y::Bj x r
noncomputable def su:List Nat->List Nat
 | []=> []
 | x::r=>Bj x (su r)
theorem KY (x:Nat) (l:List Nat):gD x (l.map λ n:Nat=>(n:Int))=(Bj x l).map λ n:Nat=>(n:Int):=by
 induction l with
 | nil=>rfl
 | cons y r ih=>
  show (if (x:Int)<=(y:Int) then _ else _)=_
  show _=(if x<=y then x::y::r else y::Bj x r).map _
  by_cases c:x<=y
  ·rw [if_pos (by exact Int.ofNat_le.mpr c),if_pos c]; rfl
  ·rw [if_neg (by lia),if_neg c,ih]; rfl
theorem IP (l:List Nat):dD (l.map λ n:Nat=>(n:Int))=(su l).map λ n:Nat=>(n:Int):=by
 induction l with
 | nil=>rfl
 | cons x r ih=>
  show gD x (dD (r.map _))=_
  rw [ih,KY]; rfl
theorem xo (x:Nat) (l:List Nat):(Bj x l).Perm (x::l):=by
 induction l with
 | nil=>exact .refl _
 | cons y r ih=>
  show (if x<=y then x::y::r else y::Bj x r).Perm _; split
  ·exact .refl _
  ·exact (ih.cons y).trans (.swap ..)
theorem EA (l:List Nat):(su l).Perm l:=by
 induction l with
 | nil=>exact .refl _
 | cons x r ih=>exact (xo x _).trans (ih.cons x)
set_option tactic.hygienic true in
theorem sf (x:Nat): ∀{l:List Nat},l.Pairwise (·<=·)->(Bj x l).Pairwise (·<=·)
 | [],_=>List.pairwise_singleton _ _
 | y::r,h=>by
  have h':=List.pairwise_cons.mp h
  show (if x<=y then x::y::r else y::Bj x r).Pairwise _; split
  ·rename_i c
   refine List.pairwise_cons.mpr ⟨λ z hz=>?_,h⟩
   rcases List.mem_cons.mp hz with rfl | hz
   ·exact c
   ·exact Nat.le_trans c (h'.1 z hz)
  ·rename_i c
   refine List.pairwise_cons.mpr ⟨λ z hz=>?_,sf x h'.2⟩
   rcases List.mem_cons.mp ((xo x r).mem_iff.mp hz) with rfl | hz
   ·exact Nat.le_of_not_ge c
   ·exact h'.1 z hz
theorem zT (l:List Nat):(su l).Pairwise (·<=·):=by
 induction l with
 | nil=>exact .nil
 | cons x r ih=>exact sf x ih
theorem HC (s:List Nat):fS (iQ s)=some (s.map λ n:Nat=>(n:Int)):=by
 induction s with
 | nil=>rfl
 | cons x r ih=>exact congrArg (Option.map _) ih
theorem Cy {QV:PV} {l:List (Option V)} {H:Hp} {a:Nat} {s:List Nat} (h:H a=some (.dict (iQ s))) (hl:s.length < 64):eU .sorted [.ref a] QV ⟨l,H⟩=alloc (.list (ae (su s))) QV ⟨l,H⟩:=by
 unfold eU; simp only [h,HC,List.length_map,hl,true_and,IP,List.map_map]
 rfl
noncomputable def under (c s wt:List Nat) (v:Nat):Prop:=v∈c\/v=0\/v∈s\/v∈wt
structure dE (g:A) (c:List Nat) (node:Nat) (s wt:List Nat):Prop where
 cov: ∀v∈wt,E0 g c v
 nd:s.Nodup
 bP: ∀e∈s,e∉c/\e≠0/\∃x y,g.pair e=some (x,y)/\under c s wt (x / 2)/\under c s wt (y / 2)
 root:under c s wt node
 len:wt.length<=1+s.length
 lt: ∀v∈wt,v < g.N
structure C9 (g:A) (c:List Nat) (node:Nat) (s:List Nat):Prop where
 sorted:s.Pairwise (·<=·)
 nd:s.Nodup
 bP: ∀e∈s,e∉c/\e≠0/\∃x y,g.pair e=some (x,y)/\under c s [] (x / 2)/\under c s [] (y / 2)
 root:under c s [] node
theorem Mk {g:A} {s:List Nat} (h:s.Nodup) (hp: ∀e∈s,∃x y,g.pair e=some (x,y)):s.length<=g.N:=by
 have:=bQ (m:=List.range g.N) h λ e he=>by
  obtain ⟨x,y,hp⟩:=hp e he
  exact List.mem_range.mpr (A.bt hp).1
 simpa using this
noncomputable def p3 (st:List Nat):Nat:=(st.map λ v=>3 ^ v).sum
theorem vF {c s s' wt Vp:List Nat} {u:Nat} (h:under c s wt u) (hs: ∀e∈s,e∈s') (hw: ∀e∈wt,under c s' Vp e):under c s' Vp u:=h.elim .inl λ h=>h.elim (λ h=> .inr (.inl h)) λ h=>h.elim (λ h=> .inr (.inr (.inl (hs _ h)))) (hw _)
section
variable {g:A} {c s wt:List Nat} {node v x y:Nat}
theorem dE.Uq {s' Vp:List Nat} (h:dE g c node s wt) (hu: ∀u,under c s wt u->under c s' Vp u) {e:Nat} (he:e∈s):e∉c/\e≠0/\∃x y,g.pair e=some (x,y)/\under c s' Vp (x / 2)/\under c s' Vp (y / 2):=
 have ⟨h1,h2,x,y,hp,h3,h4⟩:=h.bP e he; ⟨h1,h2,x,y,hp,hu _ h3,hu _ h4⟩
theorem dE.skip (h:dE g c node s (v::wt)) (hv:under c s wt v):dE g c node s wt:=
 have un: ∀u,under c s (v::wt) u->under c s wt u:=λ u k=>vF k (λ x h=>h) λ e he=>(List.mem_cons.mp he).elim (λ q=>q▸hv) λ he=> .inr (.inr (.inr he))
 ⟨λ u hu=>h.cov u (.tail _ hu),h.nd,λ e he=>h.Uq un he,un _ h.root,Nat.le_of_succ_le h.len,λ u hu=>h.lt u (.tail _ hu)⟩
theorem dE.push (h:dE g c node s (v::wt)) (c1:v∉c) (c2:v∉s) (c3:v≠0) (hp:g.pair v=some (x,y)) (hx:E0 g c (x / 2)) (hy:E0 g c (y / 2)) (kx:x / 2 < v) (ky:y / 2 < v):dE g c node (s++ [v]) (y / 2::x / 2::wt):=by
 have un: ∀u,under c s (v::wt) u->under c (s++ [v]) (y / 2::x / 2::wt) u:=λ u k=>vF k (λ z h=>List.mem_append_left _ h) λ e he=>(List.mem_cons.mp he).elim (λ q=> .inr (.inr (.inl (List.mem_append_right _ (q▸ .head _))))) λ he=> .inr (.inr (.inr (.tail _ (.tail _ he))))
 have two: ∀{P:Nat->Prop},P (x / 2)->P (y / 2)->(∀u∈v::wt,P u)->∀u∈y / 2::x / 2::wt,P u:=λ a b h u hu=>(List.mem_cons.mp hu).elim (λ e=>e▸b) λ hu=>(List.mem_cons.mp hu).elim (λ e=>e▸a) λ hu=>h u (.tail _ hu)
 have DV:=h.lt v (.head _)
 refine ⟨two hx hy h.cov,List.nodup_append.mpr ⟨h.nd,by simp,λ a ha b hb=>by rw [List.mem_singleton.mp hb]; exact λ q=>c2 (q▸ha)⟩,λ e he=>?_,un _ h.root,?_,two (Nat.lt_trans kx DV) (Nat.lt_trans ky DV) h.lt⟩
 ·exact (List.mem_append.mp he).elim (λ he=>h.Uq un he) λ he=>by
   rw [List.mem_singleton.mp he]
   exact ⟨c1,c3,x,y,hp, .inr (.inr (.inr (.tail _ (.head _)))), .inr (.inr (.inr (.head _)))⟩
 ·rw [List.length_append]; have:=h.len; simp only [List.length_cons,List.length_nil] at this ⊢; omega
theorem dE.done (h:dE g c node s []):C9 g c node (su s):=
 have hp:=EA s
 have un: ∀u,under c s [] u->under c (su s) [] u:=λ u k=>vF k (λ x h=>hp.mem_iff.mpr h) λ x h=>nomatch h
 ⟨zT s,hp.nodup_iff.mpr h.nd,λ e he=>h.Uq un (hp.mem_iff.mp he),un _ h.root⟩
end
inductive CI (ad d t node:Nat) (o:Option V) (g:A) (c:List Nat) (H2:Hp) (m:Nat) (σ:St):Prop where
 | mk (s wt:List Nat) (o5 o6:Option V) (H:Hp) (e:σ=⟨[some (.ref ad),o,some (aV c),some (.ref d),some (.ref t),o5,o6],H⟩) (hd:H d=some (.dict (iQ s))) (ht:H t=some (.list (ae wt.reverse)))
  (hE: ∀b o,b≠d->b≠t->H2 b=some o->H b=some o) (hI:dE g c node s wt) (m:m=p3 wt)
section
variable {n:Nat} {H:Hp} {Q:V->Hp->Prop}
theorem G6 {C:CT} {K:PF} {ad d t node v:Nat} {o o5 o6:Option V} {g:A} {c s wt:List Nat} {H2:Hp} (hG:H ad=some g.obj) (w:g.WF) (KL:s.length < 60) (hd:H d=some (.dict (iQ s))) (ht:H t=some (.list (ae (v::wt).reverse)))
  (hE: ∀b o,b≠d->b≠t->H2 b=some o->H b=some o) (hI:dE g c node s (v::wt)) (pj:d≠t) (d9:ad≠t):
  Xs C L_cone_0 (ji (CI ad d t node o g c H2) (p3 (v::wt)) K) ⟨[some (.ref ad),o,some (aV c),some (.ref d),some (.ref t),o5,o6],H⟩:=by
 have Ru:H t=some (.list (ae wt.reverse++ [nV v])):=by rw [<- bT]; exact ht
 have hd2:upd H t (.list (ae wt.reverse)) d=some (.dict (iQ s)):=(ao _ _ pj).trans hd
 have skip: ∀{o5},under c s wt v->∃m',m' < p3 (v::wt)/\CI ad d t node o g c H2 m' ⟨[some (.ref ad),o,some (aV c),some (.ref d),some (.ref t),o5,o6],upd H t (.list (ae wt.reverse))⟩:=λ hv=>
  ⟨p3 wt,Nat.lt_add_of_pos_left (Nat.pow_pos (by decide)),s,wt,_,_,_,rfl,hd2,ah _ _ _,λ b o' h1 h2 e=>(ao _ _ h2).trans (hE b o' h1 h2 e),hI.skip hv,rfl⟩
 simp only [mach,ops,L_cone_0,pop_list Ru,D2]
 refine aL (λ c1=>?_) λ c1=>?_
 ·simp only [mach,loops,eq_true c1]
  exact skip (.inl c1)
 ·simp only [mach,ops,eq_false c1,in_dict hd2,MX]
  refine aL (λ c2=>?_) λ c2=>?_
  ·simp only [mach,loops,eq_true c2]
   exact skip (.inr (.inr (.inl c2)))
  ·simp only [mach,ops,eq_false c2]
   refine aL (λ c3=>?_) λ c3=>?_
   ·simp only [mach,loops,eq_true c3]
    exact skip (.inr (.inl c3))
   ·simp only [mach,eq_false c3,aw ((ao _ _ d9).trans hG) 0 (by decide),aO ((ao _ _ d9).trans hG) (hI.lt v (.head _))]
    cases hI.cov v (.head _) with
    | mem h=>exact absurd h c1
    | zero=>exact absurd rfl c3
    | @node _ x y hp hx hy=>
     have hk:=w.kids hp
     have aah:(iQ s).length < lim:=by rw [iQ,List.length_map]; exact Nat.lt_trans KL (by decide)
     have hl:(ae wt.reverse).length+1 < lim:=by rw [az,List.length_reverse]; have:=hI.len; rw [List.length_cons] at this; unfold lim; omega
     have Jd:upd (upd H t (.list (ae wt.reverse))) d (.dict (iQ (s++ [v]))) t=some (.list (ae wt.reverse)):=(ao _ _ (Ne.symm pj)).trans (ah _ _ _)
     simp only [mach,ops2,hp,Option.isNone_some]
     simp only [mach,ops,ops2,loops,cT,j5 hd2 (Es s) aah,MY s v c2,append_list Jd (Nat.lt_of_succ_lt hl),append_list (ah (upd (upd H t (.list (ae wt.reverse))) d (.dict (iQ (s++ [v])))) t (.list (ae wt.reverse++ [nV (x / 2)]))) (by rw [List.length_append]; exact hl),cZ]
     refine ⟨_,Gh hk.2 hk.1,s++ [v],y / 2::x / 2::wt,_,_,_,rfl,(ao _ _ pj).trans (ah _ _ _),?_,λ b o h1 h2 e=>(ao _ _ h2).trans ((ao _ _ h1).trans ((ao _ _ h2).trans (hE b o h1 h2 e))),hI.push c1 c2 c3 hp hx hy hk.1 hk.2,rfl⟩
     rw [ah,bT,bT]
theorem Ov {ad node:Nat} {g:A} {c:List Nat} (hG:H ad=some g.obj) (w:g.WF) (hN:g.N < 60) (hn:node < g.N) (TS:E0 g c node)
  (fin: ∀t s H',Ext H H'->H t= .none->H' t=some (.list (ae s))->C9 g c node s->Q (.ref t) H'):au prog (n+1) Uh [.ref ad,nV node,aV c] Q H:=by
 refine aj DB [some (.ref ad),some (nV node),some (aV c), .none, .none, .none, .none] rfl rfl ?_
 show Xs _ yh _ _
 simp only [mach,yh]
 refine aq λ d H1 f1 e1 x1=>?_
 simp only [mach,ai]
 refine aq λ t H2 f2 e2 x2=>?_
 simp only [mach,ai]
 have one: ∀{P:Nat->Prop},P node->∀v∈[node],P v:=λ h v hv=>(List.mem_singleton.mp hv)▸h
 refine bx (CI ad d t node (some (nV node)) g c H2) (p3 [node])
  ⟨[],[node],_,_,H2,rfl,x2 _ _ e1,(show H2 t=some (.list (ae [node].reverse)) from e2),λ j j j j e=>e,⟨one TS, .nil,(λ j h=>nomatch h), .inr (.inr (.inr (.head _))),Nat.le_refl _,one hn⟩,rfl⟩ λ m σ ⟨s,wt,o5,o6,H',e,hd,ht,hE,hI,hm⟩=>?_
 subst e
 have KL:s.length < 60:=Nat.lt_of_le_of_lt (Mk hI.nd λ e he=>have ⟨_,_,x,y,hp,_⟩:=hI.bP e he; ⟨x,y,hp⟩) hN
 have hx: ∀b o,H b=some o->H' b=some o:=λ b o e=>hE _ _ (ak e f1) (ak (x1 _ _ e) f2) (x2 _ _ (x1 _ _ e))
 simp only [mach,ops,loops,len_list ht,az,List.length_reverse]
 cases wt with
 | nil=>
  simp only [mach,List.length_nil,Nat.lt_irrefl,Cy hd (Nat.lt_trans KL (by decide))]
  refine aq λ z H4 f4 e4 x4=>?_
  simp only [mach,ai]
  exact fin z (su s) H4 (λ b o e=>x4 _ _ (hx b o e)) (bg hx f4) e4 hI.done
 | cons v wt=>
  simp only [mach,eq_true (show 0 < (v::wt).length from Nat.succ_pos _)]
  exact hm▸G6 (hx _ _ hG) w KL hd ht hE hI (ak e1 f2) (ak (x1 _ _ hG) f2)
end
end
section
open A
noncomputable def idxOf (b:Nat->Bool):Nat->Nat
 | 0=>0
 | k+1=>idxOf b k+if b k=true then 2 ^ k else 0
theorem nh (b:Nat->Bool): ∀k,idxOf b k < 2 ^ k
 | 0=>Nat.one_pos
 | k+1=>by have:=nh b k; show idxOf b k+(if b k=true then 2 ^ k else 0) < _; rw [Nat.pow_succ]; split <;> lia
set_option tactic.hygienic true in
theorem nR (b:Nat->Bool): ∀{k i:Nat},i < k->(idxOf b k).testBit i=b i
 | k+1,i,h=>by
  have dz:=nh b k
  show (idxOf b k+(if b k=true then 2 ^ k else 0)).testBit i=_
  by_cases e:i=k
  ·subst e
   split
   ·rename_i hb
    rw [Nat.add_comm,Nat.testBit_two_pow_add_eq,Nat.testBit_lt_two_pow dz,hb]; rfl
   ·rename_i hb
    rw [Nat.add_zero,Nat.testBit_lt_two_pow dz]; simpa using hb
  ·have hi:i < k:=by lia
   split
   ·rw [Nat.add_comm,Nat.testBit_two_pow_add_gt hi]; exact nR b hi
   ·rw [Nat.add_zero]; exact nR b hi
theorem I6: ∀k,k=2\/k=3->∀i,i < k->(vI i k < 2 ^ 2 ^ k/\∀j,j < 2 ^ k->(vI i k).testBit j=j.testBit i):=by
 intro k hk
 rcases hk with rfl | rfl <;> decide+kernel
theorem DK: ∀k,k=2\/k=3->(bp k < 2 ^ 2 ^ k/\∀j,j < 2 ^ k->(bp k).testBit j=true):=by
 intro k hk
 rcases hk with rfl | rfl <;> decide+kernel
structure mn (g:A) (k:Nat) (J:(Nat->Bool)->Nat) (v n:Nat):Prop where
 lt:n < 2 ^ 2 ^ k
 bit: ∀x,n.testBit (J x)=g.val x v
structure I8 (g:A) (k:Nat) (J:(Nat->Bool)->Nat) (es:List (V×V)) (b:Nat) (NJ:Nat->Prop):Prop where
 keyed:intKeyed es
 len:es.length<=b
 good: ∀v t,bU es (nV v)=some t->∃n:Nat,t=nV n/\mn g k J v n
 has: ∀v,NJ v->∃n:Nat,bU es (nV v)=some (nV n)
set_option tactic.hygienic true in
theorem I8.set {g:A} {k b:Nat} {J:(Nat->Bool)->Nat} {es:List (V×V)} {NJ:Nat->Prop} (h:I8 g k J es b NJ) {v n:Nat} (hn:mn g k J v n):I8 g k J (cR es (nV v) (nV n)) (b+1) (λ u=>NJ u\/u=v):=
 ⟨oY h.keyed _ _,Nat.le_trans (jg _ _ _) (Nat.succ_le_succ h.len),λ u t hu=>by
  rw [nO _ h.keyed] at hu
  split at hu
  ·rename_i e; cases hu; subst e; exact ⟨n,rfl,hn⟩
  ·exact h.good u t hu,λ u hu=>by
  rw [nO _ h.keyed]
  split
  ·exact ⟨n,rfl⟩
  ·rename_i eS
   exact h.has u (hu.resolve_right λ q=>eS q.symm)⟩
theorem I8.get {g:A} {k b:Nat} {J:(Nat->Bool)->Nat} {es:List (V×V)} {NJ:Nat->Prop} (h:I8 g k J es b NJ) {v:Nat} (hv:NJ v): ∃n:Nat,bU es (nV v)=some (nV n)/\mn g k J v n:=by
 obtain ⟨n,e⟩:=h.has v hv
 obtain ⟨m,e',hm⟩:=h.good v _ e
 have:(n:Int)=(m:Int):=by injection e'
 have:n=m:=by exact Int.ofNat_inj.mp this
 subst this
 exact ⟨n,e,hm⟩
theorem I8.mono {g:A} {k b b':Nat} {J:(Nat->Bool)->Nat} {es:List (V×V)} {NJ Vz:Nat->Prop} (h:I8 g k J es b NJ) (hb:b<=b') (hh: ∀v,Vz v->NJ v):I8 g k J es b' Vz:=
 ⟨h.keyed,Nat.le_trans h.len hb,h.good,λ v hv=>h.has v (hh v hv)⟩
noncomputable def zh (k l n:Nat):Nat:=if l % 2=1 then n ^^^ bp k else n
section
variable {n:Nat} {H:Hp} {Q:V->Hp->Prop}
theorem jY {d l t k:Nat} {es:List (V×V)} (hd:H d=some (.dict es)) (hg:bU es (nV (l / 2))=some (nV t)) (fin:Q (nV (zh k l t)) H):au prog (n+1) sN [.ref d,nV l,nV (bp k)] Q H:=by
 refine aj gn [some (.ref d),some (nV l),some (nV (bp k)), .none] rfl rfl ?_
 show Xs _ dH _ _
 unfold zh at fin
 simp only [mach,ops,ops2,dH,qL hd hg]
 refine aL (λ c=>?_) λ c=>?_
 ·rw [if_pos c] at fin
  simp only [mach,ops,c,if_true]; exact fin
 ·rw [if_neg c] at fin
  simp only [mach,c,if_false]; exact fin
theorem F3 {g:A} {k l t:Nat} {J:(Nat->Bool)->Nat} (hk:k=2\/k=3) (hJ: ∀x,J x < 2 ^ k) (h:mn g k J (l / 2) t):zh k l t < 2 ^ 2 ^ k/\∀x,(zh k l t).testBit (J x)=g.lv x l:=by
 have hf:=DK k hk
 unfold zh
 rcases Nat.mod_two_eq_zero_or_one l with c | c
 ·rw [if_neg (by exact Nat.mod_two_ne_one.mpr c)]
  refine ⟨h.lt,λ x=>?_⟩
  rw [h.bit]; unfold A.lv; rw [c]; simp
 ·rw [if_pos c]
  refine ⟨Nat.xor_lt_two_pow h.lt hf.1,λ x=>?_⟩
  rw [Nat.testBit_xor,h.bit,hf.2 _ (hJ x)]; unfold A.lv; rw [c]; rfl
noncomputable def I9 (g:A) (c:List Nat) (k:Nat) (x:Nat->Bool):Nat:=idxOf (λ i=>g.val x (c.getD i 0)) k
theorem JN {K:PF} {ad d node k:Nat} {c:List Nat} {g:A} (hk:k=2\/k=3) (hc:c.length=k) {all:List V} (hit: ∀H,itemsOf H (.range 0 (k:Int) false)=some all): ∀(m i:Nat) (es:List (V×V)) (H H₀:Hp) (o6:Option V),i+m=k->H d=some (.dict es)->ExtBut d H₀ H->
  I8 g k (I9 g c k) es (1+i) (λ v=>v=0\/v∈c.take i)->
  (∀es H' o6,H' d=some (.dict es)->ExtBut d H₀ H'->I8 g k (I9 g c k) es (1+k) (λ v=>v=0\/v∈c)->K .next ⟨[some (.ref ad),some (nV node),some (aV c),some (nV k),some (nV (bp k)),some (.ref d),o6, .none, .none],H'⟩)->
  aC (au prog (n+2)) (.inr 6) L_cut_table_0 (.range 0 (k:Int) false) all K (ae (List.range' i m)) ⟨[some (.ref ad),some (nV node),some (aV c),some (nV k),some (nV (bp k)),some (.ref d),o6, .none, .none],H⟩:=by
 intro m
 induction m with
 | zero=>
  intro i es H H₀ o6 hi hd hE hD fin
  have:i=k:=by assumption
  subst this
  rw [<- hc] at hD
  have e:c.take c.length=c:=List.take_length
  rw [e,hc] at hD
  exact fin es H o6 hd hE hD
 | succ m ih=>
  intro i es H H₀ o6 hi hd hE hD fin
  rw [List.range'_succ]
  show aC _ _ _ _ _ K (nV i::ae (List.range' (i+1) m)) _
  have Z1:i < k:=by lia
  have Z0:i < c.length:=by exact Nat.lt_of_lt_of_eq Z1 (id (Eq.symm hc))
  have hv:=I6 k hk i Z1
  simp only [mach,loops,L_cut_table_0]
  refine hX (by lia) (by lia) ?_
  have hlen:es.length < lim:=by have:=hD.len; unfold lim; lia
  simp only [mach,loops,fM Z0,j5 hd hD.keyed hlen,hit,true_and]
  refine ih (i+1) _ _ H₀ _ (by lia) (ah _ _ _) (hE.trans (.upd _ _ _)) ?_ fin
  have ht:mn g k (I9 g c k) (c.getD i 0) (vI i k):=⟨hv.1,λ x=>by
   rw [hv.2 (I9 g c k x) (nh _ k)]
   exact nR _ Z1⟩
  refine (hD.set ht).mono (by exact Nat.le_refl (1+i+1)) λ v hv=>?_
  rcases hv with h | h
  ·exact .inl (.inl h)
  ·rw [List.take_add_one,List.getElem?_eq_getElem Z0] at h
   rcases List.mem_append.mp h with h | h
   ·exact .inl (.inr h)
   ·refine .inr ?_
    have:v=c[i]:=by simpa using h
    rw [this]; simp [List.getD_eq_getElem?_getD,Z0]
theorem JP {K:PF} {ad d node k S:Nat} {c s:List Nat} {g:A} (w:g.WF) (hk:k=2\/k=3) (tI:ad≠d) (ZM:S≠d) (hs:C9 g c node s) (KL:s.length<=60): ∀(todo dn:List Nat) (es:List (V×V)) (H H₀:Hp) (o6 o7 o8:Option V),dn++todo=s->H ad=some g.obj->H S=some (.list (ae s))->H d=some (.dict es)->ExtBut d H₀ H->
  I8 g k (I9 g c k) es (4+dn.length) (λ v=>(v=0\/v∈c)\/v∈dn)->
  (∀es H' o6 o7 o8,H' d=some (.dict es)->ExtBut d H₀ H'->I8 g k (I9 g c k) es 100 (λ v=>(v=0\/v∈c)\/v∈s)->K .next ⟨[some (.ref ad),some (nV node),some (aV c),some (nV k),some (nV (bp k)),some (.ref d),o6,o7,o8],H'⟩)->
  aC (au prog (n+2)) (.inr 7) L_cut_table_1 (.ref S) (ae s) K (ae todo) ⟨[some (.ref ad),some (nV node),some (aV c),some (nV k),some (nV (bp k)),some (.ref d),o6,o7,o8],H⟩:=by
 intro todo
 induction todo with
 | nil=>
  intro dn es H H₀ o6 o7 o8 hd hG hS Wu hE hD fin
  rw [List.append_nil] at hd; subst hd
  exact fin es H _ _ _ Wu hE (hD.mono (by lia) λ j h=>h)
 | cons e todo ih=>
  intro dn es H H₀ o6 o7 o8 hd hG hS Wu hE hD fin
  have hes:e∈s:=hd▸List.mem_append_right _ (.head _)
  obtain ⟨_,_,x,y,hp,hx,hy⟩:=hs.bP e hes
  have DR:=w.kids hp
  have heN:=(A.bt hp).1
  have Kv:dn.length < s.length:=by rw [<- hd]; simp
  have sorted:=hs.sorted
  rw [<- hd] at sorted
  have hpw:=List.pairwise_append.mp sorted
  have Rl: ∀u,u < e->under c s [] u->(u=0\/u∈c)\/u∈dn:=λ u hu h=>by
   rcases h with h | h | h | h
   ·exact .inl (.inr h)
   ·exact .inl (.inl h)
   ·rw [<- hd] at h
    rcases List.mem_append.mp h with h | h
    ·exact .inr h
    ·rcases List.mem_cons.mp h with rfl | h
     ·lia
     ·have:=(List.pairwise_cons.mp hpw.2.1).1 u h; lia
   ·cases h
  obtain ⟨tx,gx,Tx⟩:=hD.get (Rl _ DR.1 hx)
  obtain ⟨ty,gy,Ty⟩:=hD.get (Rl _ DR.2 hy)
  show aC _ _ _ _ _ K (nV e::ae todo) _
  have hJ: ∀z,I9 g c k z < 2 ^ k:=λ z=>nh _ k
  simp only [mach,ops2,loops,L_cut_table_1,aw hG 0 (by decide),aO hG heN,hp,cT]
  refine jY (k:=k) Wu gx ?_
  simp only [mach,ops2,ai]
  refine jY (k:=k) Wu gy ?_
  have hlen:es.length < lim:=by have:=hD.len; unfold lim; lia
  have lx:=F3 hk hJ Tx
  have ly:=F3 hk hJ Ty
  have Ri:upd H d (.dict (cR es (nV e) (nV (zh k x tx &&& zh k y ty)))) S=some (.list (ae s)):=(ao _ _ ZM).trans hS
  simp only [mach,ops,loops,j5 Wu hD.keyed hlen,ay Ri,true_and]
  refine ih (dn++ [e]) _ _ H₀ _ _ _ (by simp [hd]) ((ao _ _ tI).trans hG) Ri (ah _ _ _) (hE.trans (.upd _ _ _)) ?_ fin
  have ht:mn g k (I9 g c k) e (zh k x tx &&& zh k y ty):=⟨Nat.lt_of_le_of_lt Nat.and_le_left lx.1,λ z=>by
   rw [Nat.testBit_and,lx.2,ly.2,A.fN w hp]⟩
  refine (hD.set ht).mono (by simp; exact Nat.le_refl (4+dn.length+1)) λ v hv=>?_
  rcases hv with h | h
  ·exact .inl (.inl h)
  ·rcases List.mem_append.mp h with h | h
   ·exact .inl (.inr h)
   ·exact .inr (List.mem_singleton.mp h)
theorem yv {ad node:Nat} {c:List Nat} {g:A} (hG:H ad=some g.obj) (w:g.WF) (hN:g.N < 60) (hn:node < g.N) (hk:c.length=2\/c.length=3) (TS:E0 g c node)
  (fin: ∀t H',Ext H H'->mn g c.length (I9 g c c.length) node t->Q (nV t) H'):au prog (n+3) Ba [.ref ad,nV node,aV c] Q H:=by
 refine aj mW [some (.ref ad),some (nV node),some (aV c), .none, .none, .none, .none, .none, .none] rfl rfl ?_
 show Xs _ iY _ _
 simp only [mach,iY,gY]
 refine fH (by lia) ?_
 simp only [mach,ai]
 refine ⟨rfl,?_⟩
 refine aq λ d H1 f1 e1 x1=>?_
 simp only [mach,ai]
 rw [bO (by unfold lim; lia),aX aJ,List.range_eq_range']
 have h0:mn g c.length (I9 g c c.length) 0 0:=⟨Nat.pow_pos (by decide),λ x=>by rw [A.val_zero]; exact Nat.zero_testBit (I9 g c c.length x)⟩
 refine JN (g:=g) hk rfl (λ z=>aJ.trans (by rw [List.range_eq_range'])) c.length 0 _ H1 H1 _ (by exact Nat.zero_add c.length) e1 (.refl _ _) ?_ λ es H2 o6 e2 x2 hD=>?_
 ·refine ⟨λ e he=>by rw [List.mem_singleton.mp he]; exact ⟨0,rfl⟩,by exact Nat.le_add_right [(V.int ↑0,V.int ↑0)].length 0,λ v t hv=>?_,λ v hv=>?_⟩
  ·change (if jN (nV 0) (nV v)=true then some (nV 0) else .none)=some t at hv
   rw [lu] at hv
   by_cases c0:0=v
   ·subst c0; simp at hv; exact ⟨0,hv.symm,h0⟩
   ·simp [c0] at hv
  ·have:v=0:=by simpa using hv
   subst this
   exact ⟨0,rfl⟩
 have tI:ad≠d:=ak hG f1
 have dk:=x2 _ _ tI (x1 _ _ hG)
 simp only [mach,ai]
 refine Ov dk w hN hn TS λ S s H3 x3 f3 e3 hs=>?_
 have ZM:S≠d:=λ q=>by rw [q,e2] at f3; cases f3
 simp only [mach,ai]
 rw [aX (ay e3)]
 have KL:s.length<=60:=by
  have:=Mk hs.nd (g:=g) λ e he=>by obtain ⟨_,_,x,y,hp,_⟩:=hs.bP e he; exact ⟨x,y,hp⟩
  lia
 refine JP w hk tI ZM hs KL s [] es H3 H3 _ _ _ rfl (x3 _ _ dk) e3 (x3 _ _ e2) (.refl _ _) (hD.mono (by simp; lia) λ v h=>h.elim id λ q=>nomatch q) λ hY H4 o6 o7 o8 e4 x4 Wg=>?_
 have WN:(node=0\/node∈c)\/node∈s:=by
  rcases hs.root with h | h | h | h
  ·exact .inl (.inr h)
  ·exact .inl (.inl h)
  ·exact .inr h
  ·cases h
 obtain ⟨t,gt,Tt⟩:=Wg.get WN
 simp only [mach,qL e4 gt]
 refine fin t H4 (λ b o e=>?_) Tt
 have hb:b≠d:=ak e f1
 exact x4 _ _ hb (x3 _ _ (x2 _ _ hb (x1 _ _ e)))
end
end
section
open A
theorem eq_int (QV:PV) (σ:St) (x y:Int):b8 .eq (.int x) (.int y) QV σ=QV (.bool (x == y)) σ:=congrArg (λ b=>QV (.bool b) σ) (KP x y)
theorem gt_int (QV:PV) (σ:St) (x y:Int):b8 .gt (.int x) (.int y) QV σ=QV (.bool (decide (y < x))) σ:=congrArg (λ b=>QV (.bool b) σ) (uE y x)
theorem get_dict {QV:PV} {l:List (Option V)} {H:Hp} {a:Nat} {es:List (V×V)} (h:H a=some (.dict es)) {k:Nat} {d:V}:(lV .get H (.ref a)/\xH .get (.ref a) [nV k,d] QV ⟨l,H⟩)=QV ((bU es (nV k)).getD d) ⟨l,H⟩:=
 (kX (Gg (qg h))).trans (Km (qg h) rfl)
noncomputable def qU (N:Nat) (R:Nat->Int):Nat:=(List.range N).countP λ v=>decide (1<=R v)
noncomputable def Dw (R:Nat->Int) (b:Nat):Nat->Int:=λ v=>if v=b then R b - 1 else R v
theorem oE {p q:Nat->Bool} {b:Nat}: ∀{l:List Nat},b∈l->p b=false->q b=true->(∀v,p v=true->q v=true)->l.countP p+1<=l.countP q
 | [],h,_,_,_=>nomatch h
 | a::r,h,hp,hq,hm=>by
  have aaC:r.countP p<=r.countP q:=List.countP_mono_left λ x y hx=>hm x hx
  rw [List.countP_cons,List.countP_cons]
  rcases List.mem_cons.mp h with rfl | h
  ·rw [hp,hq]; simp; assumption
  ·have:=oE h hp hq hm
   have:(if p a=true then 1 else 0)<=(if q a=true then 1 else 0):=by
    by_cases c:p a=true
    ·rw [if_pos c,if_pos (hm a c)]; exact Nat.le_refl _
    ·rw [if_neg c]; exact Nat.zero_le _
   lia
set_option tactic.hygienic true in
theorem Ot (N:Nat) (R:Nat->Int) (b:Nat):qU N (Dw R b)<=qU N R:=by
 refine List.countP_mono_left λ v x h=>?_
 have h:=of_decide_eq_true h
 refine decide_eq_true ?_
 unfold Dw at h
 split at h
 ·rename_i e; subst e; lia
 ·exact h
set_option tactic.hygienic true in
theorem Ou {N:Nat} {R:Nat->Int} {b:Nat} (hb:b < N) (h:R b - 1=0):qU N (Dw R b)+1<=qU N R:=by
 refine oE (b:=b) (List.mem_range.mpr hb) ?_ ?_ λ v hv=>?_
 ·refine decide_eq_false ?_
  unfold Dw; rw [if_pos rfl]; lia
 ·refine decide_eq_true ?_
  exact Int.le.intro_sub 0 h
 ·have hv:=of_decide_eq_true hv
  refine decide_eq_true ?_
  unfold Dw at hv
  split at hv
  ·rename_i e; subst e; exact Int.le.intro_sub 0 h
  ·exact hv
structure S6 (C:List Nat) (es:List (V×V)) (R:Nat->Int):Prop where
 keyed:intKeyed es
 val: ∀v,v < C.length->(bU es (nV v)).getD (nV (C.getD v 0))= .int (R v)
theorem S6.set {C:List Nat} {es:List (V×V)} {R:Nat->Int} (h:S6 C es R) (b:Nat):S6 C (cR es (nV b) (.int (R b - 1))) (Dw R b):=
 ⟨oY h.keyed _ _,λ v hv=>by
  rw [nO _ h.keyed]
  unfold Dw
  by_cases e:b=v
  ·subst e; simp
  ·rw [if_neg e,if_neg (λ q=>e q.symm)]; exact h.val v hv⟩
section
variable {n:Nat} {H:Hp} {Q:V->Hp->Prop}
theorem Gj {K:PF} {C':CT} {ad d ct t l:Nat} {cut C:List Nat} {g:A} {node sz:V} {es:List (V×V)} {R:Nat->Int} {st:List Nat} {H:Hp} {o8 o9:Option V} (hG:H ad=some g.obj) (hC:H ct=some (.list (ae C))) (NP:C.length=g.N) (hl:l / 2 < g.N) (hd:H d=some (.dict es)) (ht:H t=some (.list (ae st.reverse))) (hP:S6 C es R)
  (hel:es.length < 900000) (KN:st.length < 900000) (pj:d≠t)
  (fin: ∀(hY:List (V×V)) (R':Nat->Int) (SM:List Nat) (H':Hp) (o8 o9:Option V),H' d=some (.dict hY)->H' t=some (.list (ae SM.reverse))->S6 C hY R'->hY.length<=es.length+1->SM.length+qU g.N R'<=st.length+qU g.N R->(∀v∈SM,v∈st\/v < g.N/\(g.pair v).isSome=true)->(∀b o,b≠d->b≠t->H b=some o->H' b=some o)->
   K .next ⟨[some (.ref ad),some node,some (aV cut),some (.ref ct),some (.ref d),some sz,some (.ref t),some (nV l),o8,o9],H'⟩/\K .cont ⟨[some (.ref ad),some node,some (aV cut),some (.ref ct),some (.ref d),some sz,some (.ref t),some (nV l),o8,o9],H'⟩):
  Xs C' L_private_size_1 K ⟨[some (.ref ad),some node,some (aV cut),some (.ref ct),some (.ref d),some sz,some (.ref t),some (nV l),o8,o9],H⟩:=by
 simp only [mach,ops,ops2,L_private_size_1,D2]
 have XW: ∀o8 o9,K .next ⟨[some (.ref ad),some node,some (aV cut),some (.ref ct),some (.ref d),some sz,some (.ref t),some (nV l),o8,o9],H⟩/\K .cont ⟨[some (.ref ad),some node,some (aV cut),some (.ref ct),some (.ref d),some sz,some (.ref t),some (nV l),o8,o9],H⟩:=
  λ o8 o9=>fin es R st H o8 o9 hd ht hP (Nat.le_succ _) (Nat.le_refl _) (λ v hv=> .inl hv) (λ x x x x e=>e)
 refine aL (λ c1=>?_) λ c1=>?_
 ·simp only [mach,c1,if_true]; exact (XW _ _).2
 simp only [mach,ops,ops2,c1,if_false,aw hG 0 (by decide),aO hG hl]
 refine aL (λ c2=>?_) λ c2=>?_
 ·simp only [mach,c2,if_true]; exact (XW _ _).2
 have YB:l / 2 < C.length:=by exact Nat.lt_of_lt_of_eq hl (id (Eq.symm NP))
 have Kv:es.length < lim:=by unfold lim; lia
 simp only [mach,c2,if_false,bD hC YB,get_dict hd,hP.val _ YB,sub_int,j5 hd hP.keyed Kv,eq_int]
 have hP':=hP.set (l / 2)
 have Ru:upd H d (.dict (cR es (nV (l / 2)) (.int (R (l / 2) - 1)))) t=some (.list (ae st.reverse)):=(ao _ _ (Ne.symm pj)).trans ht
 have e1:R (l / 2) - ((1:Nat):Int)=R (l / 2) - 1:=rfl
 rw [e1]
 by_cases c3:R (l / 2) - 1=0
 ·have e2:(R (l / 2) - 1 == ((0:Nat):Int))=true:=by rw [beq_iff_eq]; exact c3
  have KL:(ae st.reverse).length < lim:=by rw [az]; simp; unfold lim; lia
  simp only [mach,ops,e2,if_true,append_list Ru KL]
  refine (fin _ _ (l / 2::st) _ _ _ ((ao _ _ pj).trans (ah _ _ _)) ?_ hP' (jg _ _ _) ?_ (λ v hv=>?_) (λ b o h1 h2 e=>(ao _ _ h2).trans ((ao _ _ h1).trans e))).1
  ·rw [ah]; simp [ae]
  ·have:=Ou hl c3; simp; lia
  ·rcases List.mem_cons.mp hv with rfl | hv
   ·exact .inr ⟨hl,by cases q:g.pair (l / 2) <;> simp_all⟩
   ·exact .inl hv
 ·have e2:(R (l / 2) - 1 == ((0:Nat):Int))=false:=by rw [beq_eq_false_iff_ne]; exact c3
  simp only [mach,ops,e2,Bool.false_eq_true,if_false]
  exact (fin _ _ st _ _ _ (ah _ _ _) Ru hP' (jg _ _ _) (by have:=Ot g.N R (l / 2); exact Nat.add_le_add_iff_left.mpr this) (λ v hv=> .inl hv) (λ b o h1 h2 e=>(ao _ _ h1).trans e)).1
theorem MJ {E T N E1 T1:Nat} (hN:N < 2000) (hb:E+2*(T+1)<=2*(1+N)) (h1:E1<=E+1) (h2:T1<=T):E1 < 900000/\T1 < 900000:=by omega
theorem UL {E T N E1 T1 E4 T4:Nat} (hb:E+2*(T+1)<=2*(1+N)) (h1:E1<=E+1) (h2:T1<=T) (h3:E4<=E1+1) (h4:T4<=T1):E4+2*T4<=2*(1+N):=by omega
inductive X8 (g:A) (C:List Nat) (ad ct d t:Nat) (node:V) (cut:List Nat) (H2:Hp) (m:Nat) (σ:St):Prop where
 | mk (st:List Nat) (es:List (V×V)) (R:Nat->Int) (z:Int) (o7 o8 o9:Option V) (H:Hp) (e:σ=⟨[some (.ref ad),some node,some (aV cut),some (.ref ct),some (.ref d),some (.int z),some (.ref t),o7,o8,o9],H⟩) (hd:H d=some (.dict es)) (ht:H t=some (.list (ae st.reverse)))
  (hE: ∀b o,b≠d->b≠t->H2 b=some o->H b=some o) (hP:S6 C es R) (hb:es.length+2*(st.length+qU g.N R)<=2*(1+g.N)) (hs: ∀v∈st,v < g.N/\(g.pair v).isSome=true) (m:m=st.length+qU g.N R)
theorem P9 {C':CT} {K:PF} {ad ct d t v m:Nat} {z:Int} {node:V} {cut:List Nat} {o7 o8 o9:Option V} {C st:List Nat} {es:List (V×V)} {R:Nat->Int} {g:A} {H2 H:Hp} (hG:H ad=some g.obj) (w:g.WF) (hN:g.N < 2000) (hC:H ct=some (.list (ae C))) (NP:C.length=g.N) (hd:H d=some (.dict es)) (ht:H t=some (.list (ae (v::st).reverse)))
  (hE: ∀b o,b≠d->b≠t->H2 b=some o->H b=some o) (hP:S6 C es R) (hb:es.length+2*((v::st).length+qU g.N R)<=2*(1+g.N)) (hs: ∀u∈v::st,u < g.N/\(g.pair u).isSome=true) (hm:m=(v::st).length+qU g.N R) (pj:d≠t) (tI:ad≠d) (d9:ad≠t) (Ks:ct≠d) (Kt:ct≠t):
  Xs C' L_private_size_0 (ji (X8 g C ad ct d t node cut H2) m K) ⟨[some (.ref ad),some node,some (aV cut),some (.ref ct),some (.ref d),some (.int z),some (.ref t),o7,o8,o9],H⟩:=by
 have Ru:H t=some (.list (ae st.reverse++ [nV v])):=by rw [<- bT]; exact ht
 obtain ⟨DV,hvp⟩:=hs v (.head _)
 obtain ⟨⟨x,y⟩,O9⟩:=Option.isSome_iff_exists.mp hvp
 have hk:=w.kids O9
 have dk:upd H t (.list (ae st.reverse)) ad=some g.obj:=(ao _ _ d9).trans hG
 have Vg:upd H t (.list (ae st.reverse)) ct=some (.list (ae C)):=(ao _ _ Kt).trans hC
 have aug: ∀(Q:PV) (σ:St),jR .add (.int z) (nV 1) Q σ=Q (.int (z+1)) σ:=λ j j=>rfl
 rw [List.length_cons,Nat.add_right_comm] at hb hm
 have b0:=MJ hN hb (Nat.le_succ _) (Nat.le_refl _)
 simp only [mach,ai,L_private_size_0,aug,aw hG 0 (by decide),pop_list Ru,aO dk DV,O9,cT,aF]
 rw [aX (aH _)]
 simp only [mach,loops,ai]
 refine Gj (g:=g) (R:=R) (st:=st) dk Vg NP (Nat.lt_trans hk.1 DV) ((ao _ _ pj).trans hd) (ah _ _ _) hP b0.1 (Nat.lt_of_le_of_lt (Nat.le_add_right _ _) b0.2) pj λ es1 R1 st1 H3 p8 p9 Rm Jd hP3 Z7 Ys hs3 A1=>?_
 have sec:Xs C' L_private_size_1 (oG C' (.inr 7) L_private_size_1 (.tup [nV x,nV y]) [nV x,nV y] (lU C' [] (ji (X8 g C ad ct d t node cut H2) m K)) []) ⟨[some (.ref ad),some node,some (aV cut),some (.ref ct),some (.ref d),some (.int (z+1)),some (.ref t),some (nV y),p8,p9],H3⟩:=by
  refine Gj (g:=g) (R:=R1) (st:=st1) (A1 _ _ tI d9 dk) (A1 _ _ Ks Kt Vg) NP (Nat.lt_trans hk.2 DV) Rm Jd hP3 (MJ hN hb Z7 Ys).1 (Nat.lt_of_le_of_lt (Nat.le_add_right _ _) (MJ hN hb Z7 Ys).2) pj λ es4 R4 XU H4 p8 p9 ZT WO hP4 hl4 hc4 hs4 ZF=>?_
  have Wf: ∃m',m' < m/\X8 g C ad ct d t node cut H2 m' ⟨[some (.ref ad),some node,some (aV cut),some (.ref ct),some (.ref d),some (.int (z+1)),some (.ref t),some (nV y),p8,p9],H4⟩:=
   ⟨XU.length+qU g.N R4,hm▸Nat.lt_succ_of_le (Nat.le_trans hc4 Ys),XU,es4,R4,z+1,_,_,_,H4,rfl,ZT,WO,λ b o h1 h2 e=>ZF b o h1 h2 (A1 b o h1 h2 ((ao _ _ h2).trans (hE b o h1 h2 e))),hP4,UL hb Z7 Ys hl4 hc4,λ u hu=>(hs4 u hu).elim (λ q=>(hs3 u q).elim (λ q=>hs u (.tail _ q)) id) id,rfl⟩
  simp only [mach,loops,aH,true_and]
  exact ⟨Wf,Wf⟩
 simp only [loops,aH,true_and]
 exact ⟨sec,sec⟩
theorem tm {ad ct node:Nat} {cut C:List Nat} {g:A} (hG:H ad=some g.obj) (w:g.WF) (hN:g.N < 2000) (hC:H ct=some (.list (ae C))) (NP:C.length=g.N) (hn:node < g.N) (hp:(g.pair node).isSome=true)
  (fin: ∀z H',Ext H H'->Q (.int z) H'):au prog (n+1) uI [.ref ad,nV node,aV cut, .ref ct] Q H:=by
 refine aj iK [some (.ref ad),some (nV node),some (aV cut),some (.ref ct), .none, .none, .none, .none, .none, .none] rfl rfl ?_
 show Xs _ ey _ _
 simp only [mach,ey]
 refine aq λ d H1 f1 e1 x1=>?_
 simp only [mach,ai]
 refine aq λ t H2 f2 e2 x2=>?_
 simp only [mach,ai]
 have hc:qU g.N (λ v=>(C.getD v 0:Nat))<=g.N:=by
  have:=List.countP_le_length (p:=λ v=>decide ((1:Int)<=((C.getD v 0:Nat):Int))) (l:=List.range g.N)
  rw [List.length_range] at this; exact this
 refine bx (X8 g C ad ct d t (nV node) cut H2) (1+qU g.N λ v=>(C.getD v 0:Nat))
  ⟨[node],[],λ v=>(C.getD v 0:Nat),0,_,_,_,H2,rfl,x2 _ _ e1,(show H2 t=some (.list (ae [node].reverse)) from e2),λ x x x x e=>e,⟨λ x h=>absurd h List.not_mem_nil,λ v hv=>rfl⟩,by simp only [List.length_nil,List.length_cons]; omega,λ v hv=>by rw [List.mem_singleton.mp hv]; exact ⟨hn,hp⟩,rfl⟩ λ m σ ⟨st,es,R,z,o7,o8,o9,H',e,hd,ht,hE,hP,hb,KN,hm⟩=>?_
 subst e
 have hx: ∀b o,H b=some o->H' b=some o:=λ b o e=>hE _ _ (ak e f1) (ak (x1 _ _ e) f2) (x2 _ _ (x1 _ _ e))
 simp only [mach,loops,lr ht]
 cases st with
 | nil=>
  simp only [mach,List.reverse_nil,ae,List.map_nil,List.isEmpty_nil,Bool.not_true]
  exact fin z H' hx
 | cons v st=>
  simp only [mach,(show (ae (v::st).reverse).isEmpty=false by rw [bT]; simp),Bool.not_false]
  exact P9 (hx _ _ hG) w hN (hx _ _ hC) NP hd ht hE hP hb KN hm (ak e1 f2) (ak hG f1) (ak (x1 _ _ hG) f2) (ak hC f1) (ak (x1 _ _ hC) f2)
end
end
section
open A
structure Choice (g:A) (v:Nat) (c:List Nat) (tr:Tr) (inv:Nat):Prop where
 vN:v < g.N
 pair:(g.pair v).isSome=true
 Zo:c.length=2\/c.length=3
 le: ∀e∈c,1<=e/\e < v
 ok:tr.okIn c.length=true
 Xw:inv<=1
 depth:tr.depth<=6
 size:tr.size<=20
 val: ∀x,((tr.val λ i=>g.val x (c.getD i 0)) ^^ (inv == 1))=g.val x v
structure tQ (g:A) (es:List (V×V)):Prop where
 keyed:intKeyed es
 ok: ∀v t,bU es (nV v)=some t->∃c tr inv,t= .tup [aV c,toV tr,nV inv]/\Choice g v c tr inv
theorem CN {k:Nat} {e f:Nat->Bool} (h: ∀i,i < k->e i=f i): ∀t:Tr,t.okIn k=true->t.val e=t.val f:=by
 intro t
 induction t with
 | zero=>intro _; rfl
 | one=>intro _; rfl
 | lit p s=>
  intro ho
  exact congrArg (· ^^ (s == 0)) (h p (Tr.Mw ho).1)
 | and a b ia ib=>
  intro ho
  show (a.val e && b.val e)=(a.val f && b.val f); rw [ia (Tr.rC ho).1,ib (Tr.rC ho).2]
 | or a b ia ib=>
  intro ho
  show (a.val e || b.val e)=(a.val f || b.val f); rw [ia (Tr.rC ho).1,ib (Tr.rC ho).2]
set_option tactic.hygienic true in
theorem tQ.set {g:A} {es:List (V×V)} (h:tQ g es) {v inv:Nat} {c:List Nat} {tr:Tr} (hc:Choice g v c tr inv):tQ g (cR es (nV v) (.tup [aV c,toV tr,nV inv])):=
 ⟨oY h.keyed _ _,λ u t hu=>by
  rw [nO _ h.keyed] at hu
  split at hu
  ·rename_i e; cases hu; subst e; exact ⟨c,tr,inv,rfl,hc⟩
  ·exact h.ok u t hu⟩
theorem HZ: ∀a b:List Nat,ae a=ae b->a=b:=by
 intro a
 induction a with
 | nil=>intro b h; cases b with
  | nil=>rfl
  | cons y r=>cases h
 | cons x a ih=>intro b h; cases b with
  | nil=>cases h
  | cons y r=>
   simp only [ae,List.map_cons,List.cons.injEq] at h
   obtain ⟨h1,h2⟩:=h
   have NV:(x:Int)=(y:Int):=by injection h1
   rw [ih r h2,show x=y by exact Int.ofNat_inj.mp NV]
theorem JQ {a b:List Nat} (h:aV a=aV b):a=b:=HZ a b (by injection h)
section
variable {n:Nat}
theorem JK {K:PF} {ad ct R d row node k most:Nat} {g:A} {C:List Nat} {all:List V} {H₀:Hp} (w:g.WF) (hN:g.N < 60) (NP:C.length=g.N) (hn:node < g.N) (hp:(g.pair node).isSome=true) (hk:k<=3) (tI:ad≠d) (Ks:ct≠d) (NS:row≠d): ∀(cs:List (List Nat)) (es:List (V×V)) (best:Int) (H:Hp) (o8 o9 lO o11:Option V),(∀c∈cs,E2 g k node c)->
  H ad=some g.obj->H ct=some (.list (ae C))->H row=some (.list all)->H d=some (.dict es)->tQ g es->es.length+cs.length < 900000->ExtBut d H₀ H->
  (∀hY VR H' o8 o9 lO o11,H' d=some (.dict hY)->tQ g hY->hY.length<=es.length+cs.length->ExtBut d H₀ H'->K .next ⟨[some (.ref ad),some (nV k),some (nV most),some (.ref ct),some (.ref R),some (.ref d),some (nV node),some (.int VR),o8,o9,lO,o11],H'⟩)->
  aC (au prog (n+41)) (.inr 8) L_choose_cones_1 (.ref row) all K (bf cs) ⟨[some (.ref ad),some (nV k),some (nV most),some (.ref ct),some (.ref R),some (.ref d),some (nV node),some (.int best),o8,o9,lO,o11],H⟩:=by
 intro cs
 induction cs with
 | nil=>intro es best H o8 o9 lO o11 _ hG hC A6 hd hO hl hE fin; exact fin es best H _ _ _ _ hd hO (by simp) hE
 | cons c cs ih=>
  intro es best H o8 o9 lO o11 Yv hG hC A6 hd hO hl hE fin
  simp only [List.length_cons] at hl
  have TV:=Yv c (.head _)
  have next: ∀o9 lO o11,aC (au prog (n+41)) (.inr 8) L_choose_cones_1 (.ref row) all K (bf cs) ⟨[some (.ref ad),some (nV k),some (nV most),some (.ref ct),some (.ref R),some (.ref d),some (nV node),some (.int best),some (aV c),o9,lO,o11],H⟩:=
   λ o9 lO o11=>ih es best H _ _ _ _ (λ c' h=>Yv c' (.tail _ h)) hG hC A6 hd hO (by lia) hE λ hY b' H' o8 o9 lO o11 h1 h2 h3 h4=>fin hY b' H' o8 o9 lO o11 h1 h2 (by simp; lia) h4
  show aC _ _ _ _ _ K (aV c::bf cs) _
  simp only [mach,ops,loops,L_choose_cones_1,D2]
  refine aL (λ c1=>?_) λ c1=>?_
  ·simp only [mach,loops,c1,if_true,ay A6,true_and]; exact next _ _ _
  simp only [mach,ops,c1,if_false,gY]
  refine aL (λ c2=>?_) λ c2=>?_
  ·simp only [mach,loops,c2,if_true,ay A6,true_and]; exact next _ _ _
  have hlen:c.length=2\/c.length=3:=by have:=TV.len; lia
  simp only [mach,c2,if_false]
  refine yv hG w hN hn hlen TV.cov λ t H1 x1 hT=>?_
  simp only [mach,gY]
  rw [show n+41=(n+1)+40 from rfl]
  refine yj hlen hT.lt λ tr inv H2 x2 hB=>?_
  have dk:=x2 _ _ (x1 _ _ hG)
  have Vg:=x2 _ _ (x1 _ _ hC)
  simp only [mach,List.length_cons,List.length_nil,true_and]
  refine tm dk w (by lia) Vg NP hn hp λ z H3 x3=>?_
  simp only [mach,ai]
  have Rm:=hB.depth
  rw [show (n+1)+40=(n+40 - tr.depth)+tr.depth+1 by lia]
  refine lq tr _ _ _ ?_
  rw [show (n+40 - tr.depth)+tr.depth+1=n+41 by lia]
  have vL:=x3 _ _ (x2 _ _ (x1 _ _ hd))
  have KH:=x3 _ _ (x2 _ _ (x1 _ _ A6))
  have A1:ExtBut d H₀ H3:=hE.trans ((x1.trans (x2.trans x3)).but d)
  simp only [mach,ops,sub_int,gt_int]
  refine aL (λ c3=>?_) λ c3=>?_
  ·have Kv:es.length < lim:=by unfold lim; lia
   have Rr:upd H3 d (.dict (cR es (nV node) (.tup [aV c,toV tr,nV inv]))) row=some (.list all):=(ao _ _ NS).trans KH
   have A3:Choice g node c tr inv:=by
    refine ⟨hn,hp,hlen,λ e he=>?_,hB.ok,hB.Xw,hB.depth,hB.size,λ x=>?_⟩
    ·have:=TV.le e he
     refine ⟨this.1,Nat.lt_of_le_of_ne this.2 λ q=>c1 (q▸he)⟩
    ·have h1:=hB.val (I9 g c c.length x) (nh _ _)
     rw [hT.bit] at h1
     rw [<- h1]
     congr 1
     exact (CN (λ i hi=>nR (λ i=>g.val x (c.getD i 0)) hi) tr hB.ok).symm
   simp only [mach,loops,c3,if_true,j5 vL hO.keyed Kv,ay Rr,true_and]
   have hl4:=jg es (nV node) (.tup [aV c,toV tr,nV inv])
   refine ih _ _ _ _ _ _ _ (λ c' h=>Yv c' (.tail _ h)) ((ao _ _ tI).trans (x3 _ _ dk)) ((ao _ _ Ks).trans (x3 _ _ Vg)) Rr (ah _ _ _) (hO.set A3) (by lia) (A1.trans (.upd _ _ _)) λ hY b' H' o8 o9 lO o11 h1 h2 h3 h4=>fin hY b' H' o8 o9 lO o11 h1 h2 (by simp; lia) h4
  ·simp only [mach,loops,c3,if_false,ay KH,true_and]
   exact ih es best H3 _ _ _ _ (λ c' h=>Yv c' (.tail _ h)) (x3 _ _ dk) (x3 _ _ Vg) KH vL hO (by lia) A1 λ hY b' H' o8 o9 lO o11 h1 h2 h3 h4=>fin hY b' H' o8 o9 lO o11 h1 h2 (by simp; lia) h4
theorem jm.ext {g:A} {k most R:Nat} {rs:List Nat} {H H':Hp} (h:jm g k most R rs H) (hE: ∀v,v < rs.length->∀o,H (rs.getD v 0)=some o->H' (rs.getD v 0)=some o):jm g k most R rs H':=
 ⟨λ v hv=>by obtain ⟨cs,h1,h2⟩:=h.row v hv; exact ⟨cs,hE v hv _ h1,h2⟩,h.ne⟩
theorem Oq {K:PF} {ad ct R d k most:Nat} {g:A} {C rs:List Nat} {H₀:Hp} (w:g.WF) (hN:g.N < 60) (NP:C.length=g.N) (hrs:rs.length=g.N) (hk:k<=3) (lK:most<=6) (tI:ad≠d) (Ks:ct≠d) (hRd:R≠d) {all:List V} (hit: ∀H,itemsOf H (.range 0 (g.N:Int) false)=some all)
  (hG:H₀ ad=some g.obj) (hC:H₀ ct=some (.list (ae C))) (hR:H₀ R=some (.list (oJ rs))) (hO:jm g k most R rs H₀) (NS: ∀v,v < rs.length->rs.getD v 0≠d): ∀(m v:Nat) (es:List (V×V)) (H:Hp) (o6 o7 o8 o9 lO o11:Option V),v+m=g.N->
  H d=some (.dict es)->tQ g es->es.length<=7*v->ExtBut d H₀ H->
  (∀hY H' o6 o7 o8 o9 lO o11,H' d=some (.dict hY)->tQ g hY->ExtBut d H₀ H'->K .next ⟨[some (.ref ad),some (nV k),some (nV most),some (.ref ct),some (.ref R),some (.ref d),o6,o7,o8,o9,lO,o11],H'⟩)->
  aC (au prog (n+41)) (.inr 6) L_choose_cones_0 (.range 0 (g.N:Int) false) all K (ae (List.range' v m)) ⟨[some (.ref ad),some (nV k),some (nV most),some (.ref ct),some (.ref R),some (.ref d),o6,o7,o8,o9,lO,o11],H⟩:=by
 intro m
 induction m with
 | zero=>intro v es H o6 o7 o8 o9 lO o11 hv hd A3 hl hE fin; exact fin es H _ _ _ _ _ _ hd A3 hE
 | succ m ih=>
  intro v es H o6 o7 o8 o9 lO o11 hv hd A3 hl hE fin
  rw [List.range'_succ]
  show aC _ _ _ _ _ K (nV v::ae (List.range' (v+1) m)) _
  have DV:v < g.N:=by lia
  have hvc:v < C.length:=by lia
  have YL:v < rs.length:=by lia
  have oF:=hE _ _ tI hG
  have hC':=hE _ _ Ks hC
  have hR':=hE _ _ hRd hR
  simp only [mach,ops,ops2,loops,L_choose_cones_0,aw oF 0 (by decide),aO oF DV]
  refine aL (λ c1=>?_) λ c1=>?_
  ·simp only [mach,loops,c1,if_true,hit,true_and]
   exact ih (v+1) es H _ _ _ _ _ _ (by lia) hd A3 (by lia) hE fin
  simp only [mach,ops,c1,if_false,bD hC' hvc]
  refine aL (λ c2=>?_) λ c2=>?_
  ·simp only [mach,loops,c2,if_true,hit,true_and]
   exact ih (v+1) es H _ _ _ _ _ _ (by lia) hd A3 (by lia) hE fin
  obtain ⟨cs,h1,h2,h3⟩:=hO.row v YL
  have A6:=hE _ _ (NS v YL) h1
  simp only [mach,c2,if_false,vD hR' YL]
  rw [aX (ay A6)]
  refine JK w hN NP DV (by cases q:g.pair v <;> simp_all) hk tI Ks (NS v YL) (H₀:=H₀) cs es 0 H _ _ _ _ h3 oF hC' A6 hd A3 (by lia) hE λ hY b' H' o8 o9 lO o11 q1 q2 q3 q4=>?_
  simp only [mach,loops,hit,true_and]
  exact ih (v+1) hY H' _ _ _ _ _ _ (by lia) q1 q2 (by lia) q4 fin
theorem GU {H:Hp} {Q:V->Hp->Prop} {ad k most:Nat} {g:A} (hG:H ad=some g.obj) (w:g.WF) (hN:g.N < 60) (hk:k<=3) (lK:most<=6)
  (fin: ∀d es H',Ext H H'->H d= .none->H' d=some (.dict es)->tQ g es->Q (.ref d) H'):au prog (n+42) uF [.ref ad,nV k,nV most] Q H:=by
 refine aj iI [some (.ref ad),some (nV k),some (nV most), .none, .none, .none, .none, .none, .none, .none, .none, .none] rfl rfl ?_
 show Xs _ er _ _
 simp only [mach,er]
 refine oO hG w (by lia) λ ct H1 x1 f1 e1=>?_
 have cF:=x1 _ _ hG
 simp only [mach,ai]
 refine Az cF w (by lia) (by lia) lK λ R rs H2 x2 f2 e2 hrs hO=>?_
 have dk:=x2 _ _ cF
 simp only [mach,ai]
 refine aq λ d H3 f3 e3 x3=>?_
 have FA:=x3 _ _ dk
 have bz:g.N<=lim:=by unfold lim; lia
 simp only [mach,aw FA 0 (by decide),bj FA]
 rw [bO bz,aX aJ,List.range_eq_range']
 have NS: ∀v,v < rs.length->rs.getD v 0≠d:=λ v hv=>by
  obtain ⟨cs,h1,_⟩:=hO.row v hv
  exact ak h1 f3
 refine Oq (H₀:=H3) w hN (dU _ _) hrs hk lK (ak dk f3) (ak (x2 _ _ e1) f3) (ak e2 f3) (λ x=>aJ.trans (by rw [List.range_eq_range'])) FA (x3 _ _ (x2 _ _ e1)) (x3 _ _ e2) (hO.ext λ v hv o e=>x3 _ _ e) NS g.N 0 [] H3 _ _ _ _ _ _ (by exact Nat.zero_add g.N) e3 ⟨λ x h=>(nomatch h),λ x x h=>by cases h⟩ (by simp) (.refl _ _) λ hY H4 x x x x x x q1 q2 q3=>?_
 simp only [mach,ai]
 exact fin d hY H4 (x1.trans (x2.trans (((x3.but d).trans q3).ext f3))) (bg x1 (bg x2 f3)) q1 q2
noncomputable def needs (g:A) (es:List (V×V)) (u:List Bool) (v:Nat):Prop:=
 (∀c tr inv,bU es (nV v)=some (.tup [aV c,toV tr,nV inv])->∀e∈c,u.getD e false=true)/\
 (bU es (nV v)=none->∀x y,g.pair v=some (x,y)->u.getD (x / 2) false=true/\u.getD (y / 2) false=true)
structure De (g:A) (es:List (V×V)) (u:List Bool):Prop where
 len:u.length=g.N
 outs: ∀o∈g.outs,u.getD (o / 2) false=true
 kids: ∀v,0 < v->u.getD v false=true->needs g es u v
theorem Mq {K:PF} {C:CT} {ad d t:Nat} {g:A} (w:g.WF) (tI:ad≠t) (pj:d≠t) {es:List (V×V)}: ∀(todo dn:List Nat) (u:List Bool) (H H₀:Hp) (o3:Option V),dn++todo=g.outs->H ad=some g.obj->H t=some (.list (aR u))->ExtBut t H₀ H->u.length=g.N->(∀o∈dn,u.getD (o / 2) false=true)->
  (∀u' H' o3,H' t=some (.list (aR u'))->ExtBut t H₀ H'->u'.length=g.N->(∀o∈g.outs,u'.getD (o / 2) false=true)->K .next ⟨[some (.ref ad),some (.ref d),some (.ref t),o3, .none, .none],H'⟩)->
  aC C (.inr 3) L_needed_nodes_0 (.part ad 2) (ae g.outs) K (ae todo) ⟨[some (.ref ad),some (.ref d),some (.ref t),o3, .none, .none],H⟩:=by
 intro todo
 induction todo with
 | nil=>intro dn u H H₀ o3 hd hG ht hE hl ho fin; rw [List.append_nil] at hd; subst hd; exact fin u H o3 ht hE hl ho
 | cons o r ih=>
  intro dn u H H₀ o3 hd hG ht hE hl ho fin
  have hm:o∈g.outs:=hd▸List.mem_append_right _ (.head _)
  have dz:o / 2 < u.length:=by rw [hl]; exact w.outs o hm
  have oF:upd H t (.list (aR (u.set (o / 2) true))) ad=some g.obj:=(ao H _ tI).trans hG
  show aC _ _ _ _ _ K (nV o::ae r) _
  simp only [mach,ops,ops2,loops,L_needed_nodes_0,d6 ht dz,aQ oF,true_and]
  refine ih (dn++ [o]) _ _ H₀ _ (by simp [hd]) oF (ah _ _ _) (hE.trans (.upd _ _ _)) (by simpa using hl) (λ o' KD=>?_) fin
  rw [aM]
  rcases List.mem_append.mp KD with h | h
  ·split
   ·rfl
   ·exact ho _ h
  ·rw [List.mem_singleton.mp h,if_pos ⟨rfl,dz⟩]
theorem Mp {K:PF} {C:CT} {ad d t node:Nat} {o3:Option V} {all:List V} {it:V} (hit: ∀H,itemsOf H it=some all): ∀(c:List Nat) (u:List Bool) (H H₀:Hp) (o5:Option V),(∀e∈c,e < u.length)->H t=some (.list (aR u))->ExtBut t H₀ H->
  (∀u' H' o5,H' t=some (.list (aR u'))->ExtBut t H₀ H'->u'.length=u.length->(∀e∈c,u'.getD e false=true)->(∀e,u.getD e false=true->u'.getD e false=true)->(∀e,e∉c->u'.getD e false=u.getD e false)->K .next ⟨[some (.ref ad),some (.ref d),some (.ref t),o3,some (nV node),o5],H'⟩)->
  aC C (.inr 5) L_needed_nodes_2 it all K (ae c) ⟨[some (.ref ad),some (.ref d),some (.ref t),o3,some (nV node),o5],H⟩:=by
 intro c
 induction c with
 | nil=>intro u H H₀ o5 _ ht hE fin; exact fin u H o5 ht hE rfl (λ x h=>nomatch h) (λ x h=>h) (λ x x=>rfl)
 | cons e r ih=>
  intro u H H₀ o5 dz ht hE fin
  have he:=dz e (.head _)
  show aC _ _ _ _ _ K (nV e::ae r) _
  simp only [mach,loops,L_needed_nodes_2,d6 ht he,hit,true_and]
  refine ih (u.set e true) _ H₀ _ (λ e' h=>by simpa using dz e' (.tail _ h)) (ah _ _ _) (hE.trans (.upd _ _ _)) λ u' H' o5 h1 h2 h3 h4 h5 h6=>fin u' H' o5 h1 h2 (by simpa using h3) ?_ ?_ ?_
  ·intro e' yR
   rcases List.mem_cons.mp yR with rfl | yR
   ·exact h5 _ (by rw [aM,if_pos ⟨rfl,he⟩])
   ·exact h4 _ yR
  ·intro e' yR
   refine h5 _ ?_
   rw [aM]; split
   ·rfl
   ·exact yR
  ·intro e' yR
   have h1:e'∉r:=λ q=>yR (.tail _ q)
   have h2: ¬e=e':=λ q=>yR (q▸ .head _)
   rw [h6 _ h1,aM,if_neg (λ q=>h2 q.1)]
theorem Mr {K:PF} {C:CT} {ad d t:Nat} {g:A} {es:List (V×V)} (w:g.WF) (tI:ad≠t) (pj:d≠t) (A3:tQ g es) {all:List V} (hit: ∀H,itemsOf H (.range ((g.N:Int) - ((1:Nat):Int)) 0 true)=some all): ∀(k:Nat) (u:List Bool) (H H₀:Hp) (o3 o4 o5:Option V),k+1<=g.N->H ad=some g.obj->H d=some (.dict es)->H t=some (.list (aR u))->ExtBut t H₀ H->
  u.length=g.N->(∀o∈g.outs,u.getD (o / 2) false=true)->(∀v,k+1<=v->u.getD v false=true->needs g es u v)->
  (∀u' H' o3 o4 o5,H' t=some (.list (aR u'))->ExtBut t H₀ H'->De g es u'->K .next ⟨[some (.ref ad),some (.ref d),some (.ref t),o3,o4,o5],H'⟩)->
  aC C (.inr 4) L_needed_nodes_1 (.range ((g.N:Int) - ((1:Nat):Int)) 0 true) all K (ae (List.range' 1 k).reverse) ⟨[some (.ref ad),some (.ref d),some (.ref t),o3,o4,o5],H⟩:=by
 intro k
 induction k with
 | zero=>intro u H H₀ o3 o4 o5 hk hG hd ht hE hl ho DR fin; exact fin u H _ _ _ ht hE ⟨hl,ho,λ v hv=>DR v (by assumption)⟩
 | succ k ih=>
  intro u H H₀ o3 o4 o5 hk hG hd ht hE hl ho DR fin
  rw [List.range'_concat,List.reverse_append]
  show aC _ _ _ _ _ K (nV (1+1*k)::ae (List.range' 1 k).reverse) _
  rw [show 1+1*k=k+1 by lia]
  have pN:k+1 < g.N:=by assumption
  have Hn:k+1 < u.length:=by exact Nat.lt_of_lt_of_eq hk (id (Eq.symm hl))
  simp only [mach,ops,loops,L_needed_nodes_1,d7 ht Hn]
  have skip: ∀o4 o5,needs g es u (k+1)\/u.getD (k+1) false=false->aC C (.inr 4) L_needed_nodes_1 (.range ((g.N:Int) - ((1:Nat):Int)) 0 true) all K (ae (List.range' 1 k).reverse) ⟨[some (.ref ad),some (.ref d),some (.ref t),o3,o4,o5],H⟩:=
   λ o4 o5 hs=>ih u H H₀ _ _ _ (by lia) hG hd ht hE hl ho (λ v hv zY=>by
    by_cases e:v=k+1
    ·subst e
     rcases hs with hs | hs
     ·exact hs
     ·rw [hs] at zY; cases zY
    ·exact DR v (by lia) zY) fin
  cases hu:u.getD (k+1) false with
  | false=>
   simp only [mach,loops,Bool.not_false,if_true,hit,true_and]
   exact skip _ _ (.inr hu)
  | true=>
   simp only [mach,ops,ops2,Bool.not_true,Bool.false_eq_true,if_false,aw hG 0 (by decide),aO hG pN]
   cases hp:g.pair (k+1) with
   | none=>
    simp only [mach,loops,Option.isNone_none,if_true,hit,true_and]
    refine skip _ _ (.inl ⟨λ c tr inv h=>?_,λ z x y h=>(by rw [hp] at h; cases h)⟩)
    obtain ⟨c',tr',aaq,_,hc⟩:=A3.ok _ _ h
    have:=hc.pair; rw [hp] at this; cases this
   | some p=>
    obtain ⟨x,y⟩:=p
    have uD:=w.kids hp
    simp only [mach,ops,Option.isNone_some,Bool.false_eq_true,if_false,in_dict hd]
    have after: ∀(u':List Bool) (H':Hp) (o5:Option V),H' t=some (.list (aR u'))->ExtBut t H₀ H'->u'.length=u.length->(∀e,u.getD e false=true->u'.getD e false=true)->(∀e,k+1<=e->u'.getD e false=u.getD e false)->needs g es u' (k+1)->H' ad=some g.obj->H' d=some (.dict es)->
      aC C (.inr 4) L_needed_nodes_1 (.range ((g.N:Int) - ((1:Nat):Int)) 0 true) all K (ae (List.range' 1 k).reverse) ⟨[some (.ref ad),some (.ref d),some (.ref t),o3,some (nV (k+1)),o5],H'⟩:=by
     intro u' H' o5 h1 h2 h3 h4 h5 h6 h7 h8
     refine ih u' H' H₀ _ _ _ (by lia) h7 h8 h1 h2 (by lia) (λ o h=>h4 _ (ho o h)) (λ v hv zY=>?_) fin
     by_cases e:v=k+1
     ·subst e; exact h6
     ·rw [h5 v (by assumption)] at zY
      have:=DR v (by lia) zY
      exact ⟨λ c tr inv h e' yR=>h4 _ (this.1 c tr inv h e' yR),λ h x y jL=>⟨h4 _ (this.2 h x y jL).1,h4 _ (this.2 h x y jL).2⟩⟩
    cases hg:bU es (nV (k+1)) with
    | some val=>
     obtain ⟨c,tr,inv,rfl,hc⟩:=A3.ok _ _ hg
     have t0: ∀(Q:PV) l H,b7 (.tup [aV c,toV tr,nV inv]) (nV 0) Q ⟨l,H⟩=Q (aV c) ⟨l,H⟩:=λ Q l H=>bI rfl
     simp only [mach,Option.isSome_some,if_true,qL hd hg,t0]
     rw [aX (aH _)]
     refine Mp (λ z=>aH _) c u H H _ (λ e he=>by have:=(hc.le e he).2; exact Nat.lt_trans this Hn) ht (.refl _ _) λ u' H' o5 h1 h2 h3 h4 h5 h6=>?_
     simp only [mach,loops,hit,true_and]
     have oF:H' ad=some g.obj:=h2 _ _ tI hG
     have vL:H' d=some (.dict es):=h2 _ _ pj hd
     refine after u' H' _ h1 (hE.trans h2) h3 h5 (λ e he=>h6 e λ q=>by have:=(hc.le e q).2; lia) ⟨λ c' tr' aaq h e he=>?_,λ h=>(by rw [hg] at h; cases h)⟩ oF vL
     rw [hg] at h
     have Yt:c=c':=JQ (by injection h with h; injection h with h; injection h)
     exact h4 e (Yt▸he)
    | none=>
     have h1:x / 2 < u.length:=by lia
     have h2:y / 2 < (u.set (x / 2) true).length:=by simp; lia
     have C7:upd H t (.list (aR (u.set (x / 2) true))) t=some (.list (aR (u.set (x / 2) true))):=ah _ _ _
     have cF:upd H t (.list (aR (u.set (x / 2) true))) ad=some g.obj:=(ao H _ tI).trans hG
     simp only [mach,ops,ops2,loops,Option.isSome_none,Bool.false_eq_true,if_false,cT,d6 ht h1,aw hG 0 (by decide),aO hG pN,aw cF 0 (by decide),aO cF pN,hp,d6 C7 h2,cZ,hit,true_and]
     have mono: ∀v,u.getD v false=true->((u.set (x / 2) true).set (y / 2) true).getD v false=true:=by
      intro v hv
      rw [aM,aM]; split
      ·rfl
      ·split
       ·rfl
       ·exact hv
     refine after _ _ _ (ah _ _ _) (hE.trans (.upd _ _ _)) (by simp) mono (λ e he=>?_) ⟨λ c tr inv h=>(by rw [hg] at h; cases h),λ z x' y' jL=>?_⟩ ((ao _ _ tI).trans hG) ((ao _ _ pj).trans hd)
     ·rw [aM,if_neg (λ q=>by lia),aM,if_neg (λ q=>by lia)]
     ·rw [hp] at jL; cases jL
      constructor
      ·rw [aM]; split
       ·rfl
       ·rw [aM,if_pos ⟨rfl,h1⟩]
      ·rw [aM,if_pos ⟨rfl,h2⟩]
end
end
section
open A
section
variable {n a:Nat} {g:A} {H:Hp} {Q:V->Hp->Prop}
theorem Ia {d:Nat} {es:List (V×V)} (hG:H a=some g.obj) (w:g.WF) (hN:g.N < 5000) (hd:H d=some (.dict es)) (A3:tQ g es)
  (k: ∀t u H',Ext H H'->H t= .none->H' t=some (.list (aR u))->De g es u->Q (.ref t) H'):au prog (n+1) uH [.ref a, .ref d] Q H:=by
 refine aj iJ [some (.ref a),some (.ref d), .none, .none, .none, .none] rfl rfl ?_
 show Xs _ eu _ _
 simp only [mach,eu]
 refine aq λ t0 H0 f0 e0 x0=>?_
 have qo:=x0 _ _ hG
 have bz:g.N<=lim:=by unfold lim; lia
 simp only [mach,aw qo 0 (by decide),bj qo,mul_list e0 bz,rM]
 refine aq λ t H1 f1 e1 x1=>?_
 have cF:=x1 _ _ qo
 have Yw:=x1 _ _ (x0 _ _ hd)
 have eS:a≠t:=ak qo f1
 have pj:d≠t:=ak (x0 _ _ hd) f1
 simp only [mach,aw cF 2 (by decide)]
 rw [aX (aQ cF)]
 refine Mq (es:=es) w eS pj g.outs [] _ H1 H1 _ rfl cF e1 (.refl _ _) (by exact List.length_replicate) (λ x h=>nomatch h) λ u H2 o3 e2 x2 hl ho=>?_
 have dk:=x2 _ _ eS cF
 have hd2:=x2 _ _ pj Yw
 simp only [mach,ops,aw dk 0 (by decide),bj dk,sub_int]
 rw [Ce bz,aX si]
 have WM:1<=g.N:=by unfold A.N; lia
 refine Mr w eS pj A3 (λ x=>si) (g.N - 1) u H2 H1 _ _ _ (by lia) dk hd2 e2 x2 hl ho (λ v hv zY=>?_) λ u' H3 x x x q1 q2 q3=>?_
 ·rw [List.getD_eq_getElem?_getD,List.getElem?_eq_none (by lia)] at zY
  cases zY
 ·simp only [mach,ai]
  exact k t u' H3 (x0.trans (((x1.but t).trans q2).ext f1)) (bg x0 f1) q1 q3
theorem N8 {K:PF} {C:CT}: ∀(rest dn:List V) (z:Nat) (o2:Option V),H a=some g.obj->dn++rest=g.aZ->(∀v∈rest,∃p:Option (Nat×Nat),v=cT p)->
  (∀o2,K .next ⟨[some (.ref a),some (nV (z+rest.countP λ v=>!jh v)),o2],H⟩)->
  aC C (.inr 2) L_and_count_0 (.part a 0) g.aZ K rest ⟨[some (.ref a),some (nV z),o2],H⟩:=by
 intro rest
 induction rest with
 | nil=>intro dn z o2 hG hd hp fin; exact fin o2
 | cons v r ih=>
  intro dn z o2 hG hd hp fin
  obtain ⟨p,rfl⟩:=hp v (.head _)
  have aug: ∀(Q:PV) (σ:St),jR .add (nV z) (nV 1) Q σ=Q (nV (z+1)) σ:=λ Q σ=>tB
  simp only [mach,ops,ops2,loops,L_and_count_0]
  cases p with
  | none=>
   simp only [mach,loops,Option.isSome_none,if_false,aT hG,true_and,Bool.false_eq_true]
   refine ih (dn++ [_]) z _ hG (by rw [List.append_assoc]; exact hd) (λ v h=>hp v (.tail _ h)) λ o2=>?_
   have:=fin o2
   rw [List.countP_cons] at this; exact this
  | some p=>
   simp only [mach,loops,Option.isSome_some,if_true,aug,aT hG,true_and]
   refine ih (dn++ [_]) (z+1) _ hG (by rw [List.append_assoc]; exact hd) (λ v h=>hp v (.tail _ h)) λ o2=>?_
   have:=fin o2
   rw [List.countP_cons,Nat.add_comm (List.countP _ r),<- Nat.add_assoc] at this
   exact this
theorem BR (g:A):(g.aZ.countP λ v=>!jh v)=g.ands.length:=by
 unfold A.aZ
 rw [List.countP_append,List.countP_eq_zero.mpr,List.countP_eq_length.mpr]
 ·simp
 ·intro v hv
  obtain ⟨p,_,rfl⟩:=List.mem_map.mp hv
  rfl
 ·intro v hv
  rw [List.eq_of_mem_replicate hv]; exact Bool.false_ne_true
theorem gO (hG:H a=some g.obj) (k:Q (nV g.ands.length) H):au prog (n+1) A8 [.ref a] Q H:=by
 refine aj mU [some (.ref a), .none, .none] rfl rfl ?_
 show Xs _ iW _ _
 simp only [mach,iW,aw hG 0 (by decide)]
 rw [aX (aT hG)]
 refine N8 g.aZ [] 0 _ hG rfl (λ v hv=>?_) λ o2=>?_
 ·rw [ic] at hv
  obtain ⟨i,_,rfl⟩:=List.mem_map.mp hv
  exact ⟨_,rfl⟩
 ·rw [BR,Nat.zero_add]
  simp only [mach,ai]
  exact k
end
noncomputable def qx (T:List Nat) (c:List Nat):List Nat:=c.map λ e=>T.getD e 0
section
variable {n a d s r t:Nat} {g:A} {K:PF}
theorem MN {C:CT} {k0 most:Nat} {node:Nat} {pv cv tv iv:V} {Sx Sy:Option V} {T:List Nat} {p:Nat} (hpt:p≠t) {all:List V} {it:V} (hit: ∀H,itemsOf H it=some all): ∀(c dn:List Nat) (H H₀:Hp) (zG:Option V),(∀e∈c,e < T.length)->dn.length+c.length < 100->H t=some (.list (ae T))->H p=some (.list (ae (qx T dn)))->ExtBut p H₀ H->
  (∀H' zG,H' p=some (.list (ae (qx T (dn++c))))->ExtBut p H₀ H'->K .next ⟨[some (.ref a),some (nV k0),some (nV most),some (.ref d),some (.ref s),some (.ref r),some (.ref t),some (nV node),some pv,some cv,some tv,some iv,some (.ref p),zG,Sx,Sy],H'⟩)->
  aC C (.inr 13) L_rewrite_cuts_1 it all K (ae c) ⟨[some (.ref a),some (nV k0),some (nV most),some (.ref d),some (.ref s),some (.ref r),some (.ref t),some (nV node),some pv,some cv,some tv,some iv,some (.ref p),zG,Sx,Sy],H⟩:=by
 intro c
 induction c with
 | nil=>intro dn H H₀ zG _ _ ht hp hE fin; exact fin H zG (by simpa using hp) hE
 | cons e c ih=>
  intro dn H H₀ zG hc hl ht hp hE fin
  simp only [List.length_cons] at hl
  have he:=hc e (.head _)
  show aC _ _ _ _ _ K (nV e::ae c) _
  have hlen:(ae (qx T dn)).length < lim:=by simp [az,qx]; unfold lim; lia
  simp only [mach,loops,L_rewrite_cuts_1,bD ht he,append_list hp hlen,hit,true_and]
  refine ih (dn++ [e]) _ H₀ _ (λ e' h=>hc e' (.tail _ h)) (by simp; lia) ((ao _ _ (Ne.symm hpt)).trans ht) ?_ (hE.trans (.upd _ _ _)) λ H' zG h1 h2=>fin H' zG (by rw [List.append_assoc] at h1; exact h1) h2
  rw [ah]
  simp [qx,ae]
structure tU (g:A) (u:List Bool) (k:Nat) (f:A) (T:List Nat):Prop where
 tab:TabOf g f T (λ v=>v < k/\u.getD v false=true)
 N:f.N<=g.m+1+21*k
theorem tU.skip {u:List Bool} {f:A} {k:Nat} {T:List Nat} (h:tU g u k f T) (hp:g.pair k= .none\/u.getD k false=false):tU g u (k+1) f T:=by
 refine ⟨h.tab.mono λ v hv hm q=>?_,by have:=h.N; lia⟩
 by_cases e:v=k
 ·subst e
  rcases hp with hp | hp
  ·obtain ⟨_,_,q⟩:=A.d0 hm hv; rw [hp] at q; cases q
  ·rw [hp] at q; cases q.2
 ·exact ⟨by lia,q.2⟩
theorem tU.step {u:List Bool} {f f':A} {k lit:Nat} {T:List Nat} (h:tU g u k f T) (hk:k < g.N) (le:Le f f') (wf:f'.WF) (lt:lit / 2 < f'.N) (hN:f'.N<=f.N+20) (hv: ∀x,f'.lv x lit=g.val x k):tU g u (k+1) f' (T.set k lit):=by
 refine ⟨(h.tab.set hk le wf lt hv).mono λ v y y q=>?_,by have:=h.N; lia⟩
 by_cases e:v=k
 ·exact .inr e
 ·exact .inl ⟨by lia,q.2⟩
theorem tU.start (u:List Bool):tU g u 0 (lT g.m) (tabIn g.N g.m):=
 ⟨(TabOf.start g).mono λ v x x h=>absurd h.1 (Nat.not_lt_zero _),by rw [ni]; exact Nat.le_add_right (g.m+1) (21*0)⟩
theorem Qc (w:g.WF) (hN:g.N < 60) {es:List (V×V)} (A3:tQ g es) {u:List Bool} (hu:De g es u) (pM:a≠r) (d9:a≠t) (lL:r≠t) (hdr:d≠r) (pj:d≠t) (YH:s≠r) (KN:s≠t) {k0 most:Nat} {all:List V} (hit: ∀H,itemsOf H (.range 0 (g.N:Int) false)=some all):
  ∀(m k:Nat) (f:A) (T:List Nat) (H H₀:Hp) (o7 o8 o9 lO o11 o12 zG Sx Sy:Option V),k+m=g.N->H a=some g.obj->H d=some (.dict es)->H s=some (.list (aR u))->H r=some f.obj->H t=some (.list (ae T))->(∀b o,b≠r->b≠t->H₀ b=some o->H b=some o)->tU g u k f T->
  (∀H' f T o7 o8 o9 lO o11 o12 zG Sx Sy,H' a=some g.obj->H' r=some f.obj->H' t=some (.list (ae T))->(∀b o,b≠r->b≠t->H₀ b=some o->H' b=some o)->tU g u g.N f T->
   K .next ⟨[some (.ref a),some (nV k0),some (nV most),some (.ref d),some (.ref s),some (.ref r),some (.ref t),o7,o8,o9,lO,o11,o12,zG,Sx,Sy],H'⟩)->
  aC (au prog (n+10)) (.inr 7) L_rewrite_cuts_0 (.range 0 (g.N:Int) false) all K (ae (List.range' k m)) ⟨[some (.ref a),some (nV k0),some (nV most),some (.ref d),some (.ref s),some (.ref r),some (.ref t),o7,o8,o9,lO,o11,o12,zG,Sx,Sy],H⟩:=by
 intro m
 induction m with
 | zero=>
  intro k f T H H₀ o7 o8 o9 lO o11 o12 zG Sx Sy hk hG hd hs hr ht hE hI fin
  have:k=g.N:=by assumption
  subst this
  exact fin H f T _ _ _ _ _ _ _ _ _ hG hr ht hE hI
 | succ m ih=>
  intro k f T H H₀ o7 o8 o9 lO o11 o12 zG Sx Sy hk hG hd hs hr ht hE hI fin
  rw [List.range'_succ]
  show aC _ _ _ _ _ K (nV k::ae (List.range' (k+1) m)) _
  have pN:k < g.N:=by lia
  have Hn:k < u.length:=by rw [hu.len]; exact pN
  simp only [mach,ops,ops2,loops,L_rewrite_cuts_0,aw hG 0 (by decide),aO hG pN,d7 hs Hn]
  have O5:=hI.N
  have WG:g.m < g.N:=by unfold A.N; lia
  cases hp:g.pair k with
  | none=>
   simp only [mach,loops,Option.isNone_none,if_true,hit,true_and]
   exact ih (k+1) f T H H₀ _ _ _ _ _ _ _ _ _ (by lia) hG hd hs hr ht hE (hI.skip (.inl hp)) fin
  | some p=>
   obtain ⟨x,y⟩:=p
   cases NT:u.getD k false with
   | false=>
    simp only [mach,loops,Option.isNone_some,d7 hs Hn,NT,iS,Bool.not_false,hit,true_and]
    exact ih (k+1) f T H H₀ _ _ _ _ _ _ _ _ _ (by lia) hG hd hs hr ht hE (hI.skip (.inr NT)) fin
   | true=>
    have DQ:k < T.length:=by rw [hI.tab.len]; exact pN
    have hk0:0 < k:=by have:=(A.bt hp).2; exact Nat.zero_lt_of_lt this
    have KC:=hu.kids k hk0 NT
    simp only [mach,ops,Option.isNone_some,d7 hs Hn,NT,Bool.not_true,in_dict hd]
    cases hg:bU es (nV k) with
    | some val=>
     obtain ⟨c,tr,inv,rfl,hc⟩:=A3.ok _ _ hg
     have ZR: ∀e∈c,e < T.length:=λ e he=>by have:=(hc.le e he).2; exact Nat.lt_trans this DQ
     have wo:=hc.Zo
     simp only [mach,Option.isSome_some,if_true,qL hd hg,List.length_cons,List.length_nil,true_and]
     refine aq λ p H1 f1 e1 x1=>?_
     have hpt:p≠t:=λ q=>by rw [q,ht] at f1; cases f1
     have hrp:r≠p:=ak hr f1
     simp only [mach,ai]
     rw [aX (aH _)]
     refine MN hpt (λ j=>aH _) c [] H1 H1 _ ZR (by simp; lia) (x1 _ _ ht) e1 (.refl _ _) λ H2 zG e2 x2=>?_
     simp only [mach,ai]
     have xx:Ext H H2:=((x1.but p).trans x2).ext f1
     have DS: ∀e∈qx T c,e / 2 < f.N:=by
      intro e' yR
      obtain ⟨e,he,rfl⟩:=List.mem_map.mp yR
      have hle:=hc.le e he
      exact (hI.tab.ok e (by lia) (.inr ⟨hle.2,KC.1 c tr inv hg e he⟩)).1
     have C6:=hc.size
     have hdp:=hc.depth
     rw [show n+10=(n+(6 - tr.depth))+tr.depth+4 by lia]
     refine vR tr _ r p f (qx T c) H2 _ (xx _ _ hr) (by simpa using e2) hrp hI.tab.wf (by lia) DS (by simpa [qx] using hc.ok) λ lit f' hB=>?_
     rw [show (n+(6 - tr.depth))+tr.depth+4=n+10 by lia]
     have hi1:=hc.Xw
     have hinv:inv=inv % 2:=by lia
     have Jd:upd H2 r f'.obj t=some (.list (ae T)):=(ao _ _ (Ne.symm lL)).trans (xx _ _ ht)
     simp only [mach,ops,loops,eP Jd DQ,hit,true_and]
     have hgr:=hB.grow
     refine ih (k+1) f' (T.set k (lit ^^^ inv)) _ H₀ _ _ _ _ _ _ _ _ _ (by lia) ?_ ?_ ?_ ?_ (ah _ _ _) ?_ (hI.step pN hB.le hB.wf ?_ (by lia) λ z=>?_) fin
     ·exact (ao _ _ d9).trans ((ao _ _ pM).trans (xx _ _ hG))
     ·exact (ao _ _ pj).trans ((ao _ _ hdr).trans (xx _ _ hd))
     ·exact (ao _ _ KN).trans ((ao _ _ YH).trans (xx _ _ hs))
     ·exact (ao _ _ lL).trans (ah _ _ _)
     ·exact λ b o h1 h2 e=>(ao _ _ h2).trans ((ao _ _ h1).trans (xx _ _ (hE b o h1 h2 e)))
     ·rw [hinv,A.bu]; exact hB.lt
     ·rw [hinv,A.jZ,hB.val,<- hinv,<- hc.val z]
      congr 1
      refine CN (λ i hi=>?_) tr hc.ok
      have DT:c.getD i 0∈c:=by
       rw [List.getD_eq_getElem?_getD,List.getElem?_eq_getElem hi]; exact List.getElem_mem hi
      have hle:=hc.le _ DT
      have:=(hI.tab.ok (c.getD i 0) (by lia) (.inr ⟨hle.2,KC.1 c tr inv hg _ DT⟩)).2 z
      rw [<- this]
      congr 1
      simp [qx,List.getD_eq_getElem?_getD,List.getElem?_map,List.getElem?_eq_getElem hi]
    | none=>
     have uD:=w.kids hp
     have hx:x / 2 < T.length:=by rw [hI.tab.len]; lia
     have hy:y / 2 < T.length:=by rw [hI.tab.len]; lia
     have NV:=KC.2 hg x y hp
     simp only [mach,ops,ops2,Option.isSome_none,Bool.false_eq_true,if_false,cT]
     refine j0 ht hx ?_
     simp only [mach,ops2,ai]
     refine j0 ht hy ?_
     simp only [mach,ai]
     have mx:=hI.tab.moved (l:=x) (by lia) (.inr ⟨uD.1,NV.1⟩)
     have my:=hI.tab.moved (l:=y) (by lia) (.inr ⟨uD.2,NV.2⟩)
     refine hU hr hI.tab.wf (by lia) mx.1 my.1 λ lit f' hm=>?_
     have C7:upd H r f'.obj t=some (.list (ae T)):=(ao H _ (Ne.symm lL)).trans ht
     have hgr:=hm.grow
     simp only [mach,loops,eP C7 DQ,hit,true_and]
     refine ih (k+1) f' (T.set k lit) _ H₀ _ _ _ _ _ _ _ _ _ (by lia) ?_ ?_ ?_ ?_ (ah _ _ _) ?_ (hI.step pN hm.le hm.wf hm.lt (by lia) λ z=>?_) fin
     ·exact (ao _ _ d9).trans ((ao _ _ pM).trans hG)
     ·exact (ao _ _ pj).trans ((ao _ _ hdr).trans hd)
     ·exact (ao _ _ KN).trans ((ao _ _ YH).trans hs)
     ·exact (ao _ _ lL).trans (ah _ _ _)
     ·exact λ b o h1 h2 e=>(ao _ _ h2).trans ((ao _ _ h1).trans (hE b o h1 h2 e))
     ·rw [hm.val,mx.2,my.2,A.fN w hp]
theorem EG {g g':A} (h:nG g g'):cC g g':=by
 obtain ⟨τ,e,hτ⟩:=h.outs
 exact ⟨h.wf,h.m,τ,e,λ o ho=>(hτ o ho).1⟩
theorem IZ {g g':A} (h:nG g g') (S:Nat->Bool) (hS:A.cp g (S · =true)) (ho: ∀o∈g.outs,S (o / 2)=true):g'.ands.length<=fP g S g.N:=
 h.cnt (S · =true) hS ho (dO g S) λ u hu hm hN=>List.mem_filter.mpr ⟨List.mem_range.mpr hN,by simp [hm,hu]⟩
structure eT (g g':A):Prop where
 same:cC g g'
 cnt: ∀S:Nat->Bool,A.cp g (S · =true)->(∀o∈g.outs,S (o / 2)=true)->g'.ands.length<=fP g S g.N
theorem lP {H:Hp} {Q:V->Hp->Prop} {k0 most:Nat} (hG:H a=some g.obj) (w:g.WF) (hN:g.N < 60) (hO:g.outs.length < 1000) (hk:k0<=3) (lK:most<=6)
  (k: ∀s g' H',Ext H H'->H s= .none->H' s=some g'.obj->eT g g'->Q (.ref s) H'):
  au prog (n+43) uJ [.ref a,nV k0,nV most] Q H:=by
 refine aj iL [some (.ref a),some (nV k0),some (nV most), .none, .none, .none, .none, .none, .none, .none, .none, .none, .none, .none, .none, .none] rfl rfl ?_
 show Xs _ eA _ _
 simp only [mach,eA]
 refine GU hG w hN hk lK λ d es H1 x1 fd Yw A3=>?_
 have cF:=x1 _ _ hG
 simp only [mach,ai]
 refine Ia cF w (by lia) Yw A3 λ s u H2 x2 fs KJ hu=>?_
 have dk:=x2 _ _ cF
 simp only [mach,ai]
 refine pK dk (by lia) λ r t H3 x3 fr ft lL Rp Jd=>?_
 have FA:=x3 _ _ dk
 have bz:g.N<=lim:=by unfold lim; lia
 have WG:g.m < g.N:=by unfold A.N; lia
 simp only [mach,List.length_cons,List.length_nil,true_and,aw FA 0 (by decide),bj FA]
 rw [bO bz,aX aJ,List.range_eq_range']
 have pM:a≠r:=ak dk fr
 have d9:a≠t:=ak dk ft
 have hd2:=x2 _ _ Yw
 rw [show n+42=(n+32)+10 from rfl]
 refine Qc w hN A3 hu pM d9 lL (ak hd2 fr) (ak hd2 ft) (ak KJ fr) (ak KJ ft) (λ x=>aJ.trans (by rw [List.range_eq_range'])) g.N 0 _ _ H3 H3 _ _ _ _ _ _ _ _ _ (by exact Nat.zero_add g.N) FA (x3 _ _ hd2) (x3 _ _ KJ) Rp Jd (λ x x x x e=>e) (tU.start u) λ H4 f T x x x x x x x x x Wj Rq WO ZF hI=>?_
 simp only [mach,ai]
 have O5:=hI.N
 have Kw: ∀o∈g.outs,o / 2<=g.m\/(o / 2 < g.N/\u.getD (o / 2) false=true):=λ o ho=> .inr ⟨w.outs o ho,hu.outs o ho⟩
 refine finish_ok Wj w hO Rq WO hI.tab.len hI.tab.outs hI.tab.wf (by lia) (λ o ho=>(hI.tab.ok _ (w.outs o ho) (Kw o ho)).1) pM lL λ q gq H5 Wi fq eq YG=>?_
 have Y8:Ext H2 H4:=λ b o e=>ZF b o (ak e fr) (ak e ft) (x3 _ _ e)
 have x25:Ext H2 H5:=λ b o e=>Wi b o (ak e fr) (Y8 b o e)
 have Y2:Ext H H5:=x1.trans (x2.trans x25)
 simp only [mach,ai]
 have fq0:H q= .none:=bg (x1.trans (x2.trans Y8)) fq
 have same:cC g gq:=cC.of hI.tab Kw w YG
 refine CL (Y2 _ _ hG) w (by lia) hO λ b gb H6 x6 fb eb Pb=>?_
 simp only [mach,ai]
 refine gO (x6 _ _ eq) ?_
 simp only [mach,ai]
 refine gO eb ?_
 simp only [mach,ops,ai]
 have last:eT g gb:=⟨EG Pb,IZ Pb⟩
 refine aL (λ c=>?_) λ c=>?_
 ·simp only [mach,c,if_true]
  exact k q gq H6 (Y2.trans x6) fq0 (x6 _ _ eq) ⟨same,λ S h1 h2=>by have:=last.cnt S h1 h2; lia⟩
 ·simp only [mach,c,if_false]
  exact k b gb H6 (Y2.trans x6) (bg Y2 fb) eb last
end
end
section
open A
theorem cC.trans {a b c:A} (h:cC a b) (k:cC b c):cC a c:=by
 obtain ⟨τ,e,hτ⟩:=h.outs
 obtain ⟨σ,f,hσ⟩:=k.outs
 refine ⟨k.wf,k.m.trans h.m,λ o=>σ (τ o),by rw [f,e,List.map_map]; rfl,λ o ho x=>?_⟩
 rw [hσ (τ o) (by rw [e]; exact List.mem_map_of_mem ho) x,hτ o ho x]
theorem cC.nz {a b:A} (h:cC a b):b.outs.length=a.outs.length:=by
 obtain ⟨τ,e,_⟩:=h.outs
 rw [e,List.length_map]
theorem Dq (g:A):A.cp g (λ v=>(λ x=>true:Nat->Bool) v=true):=λ x x x x x=>⟨rfl,rfl⟩
theorem eT.le {a b:A} (h:eT a b):b.ands.length<=a.ands.length:=
 Nat.le_trans (h.cnt (λ x=>true) (Dq a) (λ x x=>rfl)) (qc a _)
theorem eT.N {a b:A} (h:eT a b):b.N<=a.N:=by
 have:=h.le; have:=h.same.m; unfold A.N; lia
theorem eT.trans {a b c:A} (h:eT a b) (k:eT b c):eT a c:=
 ⟨h.same.trans k.same,λ S hS ho=>Nat.le_trans k.le (h.cnt S hS ho)⟩
section
variable {n a:Nat} {g:A} {H:Hp} {Q:V->Hp->Prop}
theorem vG {turns k0 most:Nat} (hG:H a=some g.obj) (w:g.WF) (hN:g.N < 60) (hO:g.outs.length < 1000) (hk:k0<=3) (lK:most<=6)
  (k: ∀s g' H',Ext H H'->H s= .none->H' s=some g'.obj->eT g g'->Q (.ref s) H'):
  au prog (n+44) lS [.ref a,nV turns,nV k0,nV most] Q H:=by
 refine aj cV [some (.ref a),some (nV turns),some (nV k0),some (nV most), .none, .none] rfl rfl ?_
 show Xs _ b6 _ _
 simp only [mach,b6]
 rw [show n+43=(n+39)+4 from rfl]
 refine j3 hG w (by lia) hO λ c gc H1 x1 fc ec hs hc=>?_
 rw [show (n+39)+4=n+43 from rfl]
 simp only [mach,ai]
 have fin: ∀(c:Nat) (gc:A) (H1:Hp) l,Ext H H1->H c= .none->H1 c=some gc.obj->eT g gc->au prog (n+43) 31 [V.ref c] (FT l (Uo (lU (au prog (n+43)) [] (d8 Q)))) H1:=by
  intro c gc H1 l x1 fc ec hc
  have hcN:=hc.N
  rw [show n+43=(n+39)+4 from rfl]
  refine t7 ec hc.same.wf (by lia) (by rw [hc.same.nz]; exact hO) λ s gs H2 x2 fs es h1 h2 x=>?_
  simp only [mach,ai]
  exact k s gs H2 (x1.trans x2) (bg x1 fs) es (hc.trans ⟨h1,h2⟩)
 refine bx (λ m σ=> ∃c gc H' o5,σ=⟨[some (.ref a),some (nV m),some (nV k0),some (nV most),some (.ref c),o5],H'⟩/\Ext H H'/\H c= .none/\H' c=some gc.obj/\eT g gc) turns ⟨c,gc,H1,_,rfl,x1,fc,ec,hs,hc⟩ ?_
 rintro m σ ⟨c,gc,H',o5,rfl,xc,fc,ec,hc⟩
 simp only [mach,ops,loops,ai]
 refine aL (λ hm=>?_) λ hm=>?_
 ·have e1: ∀(Q:PV) (σ:St),jR .sub (nV m) (nV 1) Q σ=Q (nV (m - 1)) σ:=λ Q σ=>by
   show Q (.int ((m:Int) - ((1:Nat):Int))) σ=_
   congr 2; exact Eq.symm (Int.ofNat_sub hm)
  have hcN:=hc.N
  simp only [mach,hm,if_true,L_rewrite_until_still_0,e1]
  refine lP ec hc.same.wf (by exact Nat.lt_of_le_of_lt hcN hN) (by rw [hc.same.nz]; exact hO) hk lK λ s gs H2 x2 fs es hs=>?_
  simp only [mach,ai]
  refine gO es ?_
  simp only [mach,ai]
  refine gO (x2 _ _ ec) ?_
  simp only [mach,ops,ai]
  refine aL (λ c1=>?_) λ c1=>?_
  ·simp only [mach,loops,c1,if_true]
   exact fin c gc H2 _ (xc.trans x2) fc (x2 _ _ ec) hc
  ·simp only [mach,loops,c1,if_false]
   exact ⟨m - 1,by exact Nat.sub_one_lt_of_lt hm,s,gs,H2,_,rfl,xc.trans x2,bg xc fs,es,hc.trans hs⟩
 ·simp only [mach,loops,hm,if_false]
  exact fin c gc H' _ xc fc ec hc
end
end
section
open A
structure Hand (H:Hp) (h c:Nat) (ns:List Int):Prop where
 hand: ∃i p s:Nat,H h=some (.list [.ref c,nV i,nV p,nV s])/\i<=ns.length
 cells:H c=some (.list (ns.map V.int))
 ne:h≠c
theorem Hand.ext {H H':Hp} {h c:Nat} {ns:List Int} (x:Hand H h c ns) (e:Ext H H'):Hand H' h c ns:=
 let ⟨⟨i,p,s,k,l⟩,q,r⟩:=x; ⟨⟨i,p,s,e _ _ k,l⟩,e _ _ q,r⟩
theorem Hand.but {H H':Hp} {h c b:Nat} {ns:List Int} (x:Hand H h c ns) (e:ExtBut b H H') (h1:h≠b) (h2:c≠b):Hand H' h c ns:=
 let ⟨⟨i,p,s,k,l⟩,q,r⟩:=x; ⟨⟨i,p,s,e _ _ h1 k,l⟩,e _ _ h2 q,r⟩
section
variable {n h c:Nat} {ns:List Int} {H:Hp} {Q:V->Hp->Prop}
theorem nE {QF:PF} {l:List (Option V)} {xs:List V} {v:Nat} {y:V} (e:H h=some (.list xs)) (hv:v < xs.length):bC (.ref h) (nV v) y QF ⟨l,H⟩=QF .next ⟨l,upd H h (.list (put xs v y))⟩:=set_list e hv
theorem kZ {lm:Nat} (hh:Hand H h c ns) (h0:0 < lm) (h1:lm < 1073741824) (hn:ns.length < 1000) (k: ∀d H',d < lm->ExtBut h H H'->Hand H' h c ns->Q (nV d) H'):
  au prog (n+1) DY [.ref h,nV lm] Q H:=by
 obtain ⟨⟨i,p,s,eh,hi⟩,ec,eS⟩:=hh
 refine aj pf [some (.ref h),some (nV lm), .none, .none] rfl rfl ?_
 show Xs _ dP _ _
 have l0:lm≠0:=by exact Nat.ne_zero_of_lt h0
 have tail: ∀(j r:Nat) (o2:Option V) (H':Hp),H' h=some (.list [.ref c,nV j,nV r,nV s])->H' c=some (.list (ns.map V.int))->ExtBut h H H'->j<=ns.length->
   Xs (au prog n) (dP.drop 1) (d8 Q) ⟨[some (.ref h),some (nV lm),o2, .none],H'⟩:=by
  intro j r o2 H' e1 e2 e3 hj
  simp only [mach,dP,List.drop,aU e1 (v:=2) (y:=nV r) rfl,qz l0,de l0 h1,nE e1 (v:=2) (by exact Nat.lt_of_sub_eq_succ rfl),a8,a9]
  refine k (r % lm) _ (Nat.mod_lt _ h0) (e3.trans (.upd _ _ _)) ⟨⟨j,r / lm,s,ah _ _ _,hj⟩,(ao _ _ (Ne.symm eS)).trans e2,eS⟩
 simp only [mach,ops,dP,aU eh (v:=2) (y:=nV p) rfl]
 refine aL (λ c1=>?_) λ c1=>?_
 ·have e0:=aU (Q:=(λ x x=>True)) eh (v:=0) (y:=V.ref c) (l:= []) rfl
  simp only [mach,ops,c1,if_true,aU eh (v:=1) (y:=nV i) rfl,aU eh (v:=0) (y:=V.ref c) rfl,len_list ec,List.length_map]
  refine aL (λ c2=>?_) λ c2=>?_
  ·have V9:upd H h (.list [.ref c,nV i,nV p,nV (s*48271 % 2147483647)]) h=some (.list [.ref c,nV i,nV p,nV (s*48271 % 2147483647)]):=ah _ _ _
   subst c1
   simp only [c2] at V9 eh
   simp only [mach,ops,c2,if_true,aU eh (v:=3) (y:=nV s) rfl,qz (show 2147483647≠0 by decide),nE eh (v:=3) (by exact Nat.lt_add_one 3),a8,a9]
   refine ⟨.inr (by decide),?_⟩
   simp only [mach,qz l0,aU V9 (v:=3) (y:=nV (s*48271 % 2147483647)) rfl,de (show 7≠0 by decide) (show 7 < 1073741824 by decide)]
   exact k _ _ (Nat.mod_lt _ h0) (.upd _ _ _) ⟨⟨ns.length,0,_,ah _ _ _,Nat.le_refl _⟩,(ao _ _ (Ne.symm eS)).trans ec,eS⟩
  ·have dz:i < ns.length:=by exact Nat.lt_of_le_of_ne hi c2
   have hx:df (ns.map V.int) i=some (.int ns[i]):=by rw [dM,List.getElem?_eq_getElem dz]; rfl
   have V9:upd H h (.list [.ref c,nV (i+1),nV p,nV s]) h=some (.list [.ref c,nV (i+1),nV p,nV s]):=ah _ _ _
   simp only [mach,ops,c2,if_false,aU eh (v:=1) (y:=nV i) rfl,aU eh (v:=0) (y:=V.ref c) rfl,aU ec hx,nE eh (v:=1) (by exact Nat.one_lt_succ_succ [nV p,nV s].length),a8,a9,ge_int]
   have hb: ∀r:Nat,upd (upd H h (.list [.ref c,nV (i+1),nV p,nV s])) h (.list [.ref c,nV (i+1),nV r,nV s]) h=some (.list [.ref c,nV (i+1),nV r,nV s]):=λ r=>ah _ _ _
   have Yt: ∀r:Nat,upd (upd H h (.list [.ref c,nV (i+1),nV p,nV s])) h (.list [.ref c,nV (i+1),nV r,nV s]) c=some (.list (ns.map V.int)):=λ r=>(ao _ _ (Ne.symm eS)).trans ((ao _ _ (Ne.symm eS)).trans ec)
   refine aL (λ c3=>?_) λ c3=>?_
   ·obtain ⟨r,hr⟩: ∃r:Nat,ns[i]=(r:Int):=⟨ns[i].toNat,by exact Int.eq_natCast_toNat.mpr c3⟩
    have Zn:((0:Nat):Int)<=(r:Int):=by exact Int.le.intro_sub (r+0) rfl
    simp only [mach,hr,Zn,decide_true,if_true,nE V9 (v:=2) (by exact Nat.lt_of_sub_eq_succ rfl),a8,a9]
    exact tail (i+1) r _ _ (hb r) (Yt r) ((ExtBut.upd _ _ _).trans (.upd _ _ _)) dz
   ·obtain ⟨r,hr⟩: ∃r:Nat,-ns[i]=(r:Int):=⟨(-ns[i]).toNat,by lia⟩
    simp only [mach,c3,decide_false,Bool.false_eq_true,if_false,hr,nE V9 (v:=2) (by exact Nat.lt_of_sub_eq_succ rfl),a8,a9]
    exact tail (i+1) r _ _ (hb r) (Yt r) ((ExtBut.upd _ _ _).trans (.upd _ _ _)) dz
 ·have t:=tail i p .none H eh ec (.refl _ _) hi
  simp only [mach,ops,dP,List.drop,aU eh (v:=2) (y:=nV p) rfl] at t
  simp only [mach,ops,c1,aU eh (v:=2) (y:=nV p) rfl]
  exact t
end
end
section
open A
noncomputable def sA (M w:Nat) (f:Nat->Bool):Prop:=w < 2 ^ M/\∀r,r < M->w.testBit r=f r
theorem sA.eq {M a b:Nat} {f:Nat->Bool} (x:sA M a f) (y:sA M b f):a=b:=by
 refine Nat.eq_of_testBit_eq λ i=>?_
 by_cases h:i < M
 ·rw [x.2 i h,y.2 i h]
 ·have h2: ∀z:Nat,z < 2 ^ M->z.testBit i=false:=λ z hz=>Nat.testBit_lt_two_pow (Nat.lt_of_lt_of_le hz (Nat.pow_le_pow_right (by decide) (by exact Nat.le_of_not_lt h)))
  rw [h2 a x.1,h2 b y.1]
theorem sA.and {M a b:Nat} {f e:Nat->Bool} (x:sA M a f) (y:sA M b e):sA M (a &&& b) λ r=>f r && e r:=
 ⟨Nat.and_lt_two_pow _ y.1,λ r h=>by rw [Nat.testBit_and,x.2 r h,y.2 r h]⟩
theorem sA.not {M a:Nat} {f:Nat->Bool} (x:sA M a f):sA M (2 ^ M - 1 - a) λ r=>!f r:=
 ⟨by have:=Nat.two_pow_pos M; omega,λ r h=>by
  have:2 ^ M - 1 - a=2 ^ M - (a+1):=by lia
  rw [this,Nat.testBit_two_pow_sub_succ x.1,x.2 r h]; simp [h]⟩
theorem sA.zero (M:Nat):sA M 0 λ x=>false:=⟨Nat.two_pow_pos M,λ r x=>by exact Nat.zero_testBit r⟩
theorem sA.congr {M a:Nat} {f e:Nat->Bool} (x:sA M a f) (h: ∀r,r < M->f r=e r):sA M a e:=⟨x.1,λ r k=>(x.2 r k).trans (h r k)⟩
theorem Kj {l m:List Nat} (v:Nat) {d:Nat} (h:v < l.length):(l++m).getD v d=l.getD v d:=by
 simp only [List.getD_eq_getElem?_getD,List.getElem?_append_left h]
theorem getD_last {l:List Nat} (x d:Nat):(l++ [x]).getD l.length d=x:=by
 simp [List.getD_eq_getElem?_getD]
noncomputable def zi (M:Nat) (vals:List Nat) (l:Nat):Nat:=if l % 2=1 then 2 ^ M - 1 - vals.getD (l / 2) 0 else vals.getD (l / 2) 0
noncomputable def UX (r:Nat):Nat->Bool:=λ v=>r.testBit (v - 1)
noncomputable def j9 (g:A) (M:Nat) (vals:List Nat) (k:Nat):Prop:=vals.length=k/\∀v,v < k->sA M (vals.getD v 0) λ r=>g.val (UX r) v
theorem j9.lit {g:A} {M:Nat} {vals:List Nat} {k l:Nat} (h:j9 g M vals k) (hl:l / 2 < k):sA M (zi M vals l) λ r=>g.lv (UX r) l:=by
 have hv:=h.2 _ hl
 unfold zi A.lv
 rcases Nat.mod_two_eq_zero_or_one l with e | e
 ·rw [e,if_neg (by decide)]; exact hv.congr λ r x=>by simp
 ·rw [e,if_pos rfl]; exact hv.not.congr λ r x=>by simp
section
variable {C:CT} {K:PF} {n a t:Nat} {g:A} {H:Hp} {Q:V->Hp->Prop}
theorem rx {M l:Nat} {vals:List Nat} (ht:H t=some (.list (ae vals))) (hl:l / 2 < vals.length) (hw:vals.getD (l / 2) 0 < 2 ^ M) (k:Q (nV (zi M vals l)) H):au prog (n+1) KS [.ref t,nV l,nV (2 ^ M - 1)] Q H:=by
 refine aj ux [some (.ref t),some (nV l),some (nV (2 ^ M - 1))] rfl rfl ?_
 show Xs _ pV _ _
 unfold zi at k
 simp only [mach,ops,pV,qz (show 2≠0 by decide)]
 refine aL (λ c=>?_) λ c=>?_
 ·rw [if_pos c] at k
  have e:((2 ^ M - 1:Nat):Int) - ((vals.getD (l / 2) 0:Nat):Int)=((2 ^ M - 1 - vals.getD (l / 2) 0:Nat):Int):=(Int.ofNat_sub (Nat.le_sub_one_of_lt hw)).symm
  simp only [mach,eq_true c,de (show 2≠0 by decide) (show 2 < 1073741824 by decide),bD ht hl,sub_int,e]; exact k
 ·rw [if_neg c] at k
  simp only [mach,eq_false c,de (show 2≠0 by decide) (show 2 < 1073741824 by decide),bD ht hl]; exact k
theorem CQ {M wd:Nat} {ws:List Nat} (w:g.WF) (hN:g.N < 10000) (hG:H a=some g.obj) (YM:H wd=some (.list (ae ws))) (Rv:ws.length=g.m) (hW: ∀j,j < g.m->sA M (ws.getD j 0) λ r=>r.testBit j) (d9:a≠t) (hwt:wd≠t):
  ∀(cnt k:Nat) (vals:List Nat) (H':Hp) (o5 o6:Option V) (all:List V),k+cnt=g.N->H' t=some (.list (ae vals))->ExtBut t H H'->j9 g M vals k->(∀H,itemsOf H (.range 0 (g.N:Int) false)=some all)->
  (∀vals H' o4 o5 o6,H' t=some (.list (ae vals))->ExtBut t H H'->j9 g M vals g.N->K .next ⟨[some (.ref a),some (.ref wd),some (nV (2 ^ M - 1)),some (.ref t),o4,o5,o6],H'⟩)->
  aC (au prog (n+1)) (.inr 5) L_law_values_0 (.range 0 (g.N:Int) false) all K (ae (List.range' k cnt)) ⟨[some (.ref a),some (.ref wd),some (nV (2 ^ M - 1)),some (.ref t),some (nV (min (k - 1) g.m)),o5,o6],H'⟩:=by
 intro cnt
 induction cnt with
 | zero=>
  intro k vals H' o5 o6 all hk ht hE hV hit fin
  have:k=g.N:=by assumption
  subst this
  exact fin vals H' _ o5 o6 ht hE hV
 | succ cnt ih=>
  intro k vals H' o5 o6 all hk ht hE hV hit fin
  rw [List.range'_succ]
  show aC _ (.inr 5) L_law_values_0 _ _ K (nV k::ae (List.range' (k+1) cnt)) _
  have pN:k < g.N:=by lia
  have oF:=hE _ _ d9 hG
  have aam:=hE _ _ hwt YM
  have WG:g.m < g.N:=by unfold A.N; lia
  have hn:(ae vals).length < lim:=by rw [az,hV.1]; unfold lim; lia
  have next: ∀(x g4:Nat) (o6:Option V),g4=min k g.m->sA M x (λ r=>g.val (UX r) k)->
    aC (au prog (n+1)) (.inr 5) L_law_values_0 (.range 0 (g.N:Int) false) all K (ae (List.range' (k+1) cnt)) ⟨[some (.ref a),some (.ref wd),some (nV (2 ^ M - 1)),some (.ref t),some (nV g4),some (nV k),o6],upd H' t (.list (ae vals++ [nV x]))⟩:=by
   intro x g4 o6 e hx
   subst e
   have e2:ae vals++ [nV x]=ae (vals++ [x]):=by rw [bM]; rfl
   rw [e2]
   refine ih (k+1) _ _ _ _ all (by lia) (ah _ _ _) (hE.trans (.upd _ _ _)) ⟨by simp [hV.1],λ v hv=>?_⟩ hit fin
   by_cases c:v < k
   ·have:=hV.2 v c
    rw [Kj _ (by rw [hV.1]; exact c)]; exact this
   ·have:v=k:=by exact Nat.eq_of_lt_succ_of_not_lt hv c
    subst this
    rw [<- hV.1,getD_last]; rw [hV.1]; exact hx
  simp only [mach,ops,ops2,loops,L_law_values_0,aw oF 0 (by decide),aO oF pN]
  refine aL (λ c0=>?_) λ c0=>?_
  ·subst c0
   simp only [mach,loops,if_true,append_list ht hn,hit,true_and]
   have h0:=next 0 (min (0 - 1) g.m) (some (cT (g.pair 0))) (by rfl) ((sA.zero M).congr λ r z=>(A.val_zero g _).symm)
   exact h0
  ·simp only [mach,c0,if_false]
   cases hp:g.pair k with
   | none=>
    have hle:k<=g.m:=by
     apply Nat.le_of_not_lt; intro dz
     obtain ⟨l,r,e⟩:=A.d0 dz pN
     rw [hp] at e; cases e
    have e4:min (k - 1) g.m=k - 1:=by lia
    have hj:k - 1 < ws.length:=by lia
    simp only [mach,ops,cT,if_true,e4,bD aam hj,append_list ht hn]
    have e5: ∀(Q:PV) (σ:St),jR .add (nV (k - 1)) (nV 1) Q σ=Q (nV (k - 1+1)) σ:=λ Q σ=>by
     show cw .add (nV (k - 1)) (nV 1) Q σ=_
     rw [tB]
    simp only [mach,ops,loops,hit,true_and,e5]
    refine next _ _ _ (by lia) ((hW (k - 1) (by exact Nat.lt_of_lt_of_eq hj Rv)).congr λ r z=>?_)
    rw [A.vH (by exact Nat.one_le_iff_ne_zero.mpr c0) hle]; rfl
   | some p=>
    obtain ⟨x,y⟩:=p
    have uD:=w.kids hp
    have hm:g.m < k:=(A.bt hp).2
    simp only [mach,ops,cT,aF,is_tup,Option.isNone_some,Bool.false_eq_true,if_false,bI (xs:= [nV x,nV y]) (v:=0) (y:=nV x) rfl,bI (xs:= [nV x,nV y]) (v:=1) (y:=nV y) rfl]
    have hx:=hV.lit (l:=x) uD.1
    have hy:=hV.lit (l:=y) uD.2
    refine And.intro (dN ht) (rx ht (by rw [hV.1]; exact uD.1) (hV.2 _ uD.1).1 ?_)
    simp only [mach,bI (xs:= [nV x,nV y]) (v:=1) (y:=nV y) rfl]
    refine rx ht (by rw [hV.1]; exact uD.2) (hV.2 _ uD.2).1 ?_
    simp only [mach,ops,loops,ik ht hn,hit,true_and]
    refine next _ _ _ (by lia) ((hx.and hy).congr λ r z=>?_)
    rw [A.fN w hp]
theorem oH {M wd:Nat} {ws:List Nat} (hG:H a=some g.obj) (w:g.WF) (hN:g.N < 10000) (YM:H wd=some (.list (ae ws))) (Rv:ws.length=g.m) (hW: ∀j,j < g.m->sA M (ws.getD j 0) λ r=>r.testBit j)
  (k: ∀t vals H',Ext H H'->H t= .none->H' t=some (.list (ae vals))->j9 g M vals g.N->Q (.ref t) H'):au prog (n+2) yZ [.ref a, .ref wd,nV (2 ^ M - 1)] Q H:=by
 refine aj kJ [some (.ref a),some (.ref wd),some (nV (2 ^ M - 1)), .none, .none, .none, .none] rfl rfl ?_
 show Xs _ gU _ _
 simp only [mach,gU]
 refine aq λ t H1 ft et x1=>?_
 have cF:=x1 _ _ hG
 have aan:=x1 _ _ YM
 have bz:g.N<=lim:=by unfold lim; lia
 simp only [mach,aw cF 0 (by decide),bj cF]
 rw [bO bz,aX aJ,List.range_eq_range']
 have e0:V.int ((0:Nat):Int)=nV (min (0 - 1) g.m):=by rfl
 rw [e0]
 refine CQ (H:=H1) (ws:=ws) (t:=t) w hN cF aan Rv hW (ak hG ft) (ak YM ft) g.N 0 [] H1 _ _ _ (by exact Nat.zero_add g.N) et (.refl _ _) ⟨rfl,λ v hv=>absurd hv (Nat.not_lt_zero _)⟩ (λ x=>aJ.trans (by rw [List.range_eq_range'])) λ vals H' o4 o5 o6 ht hE hV=>?_
 simp only [mach,ai]
 exact k t vals H' (((x1.but t).trans hE).ext ft) ft ht hV
end
end
section
open A
theorem CH (p:Nat->Bool): ∀M:Nat,sA M (((List.range M).filter p).map (2 ^ ·)).sum p
 | 0=>⟨by exact Nat.lt_two_pow_self,λ r h=>absurd h (Nat.not_lt_zero _)⟩
 | M+1=>by
  have ih:=CH p M
  have e:(((List.range (M+1)).filter p).map (2 ^ ·)).sum=2 ^ M*(if p M then 1 else 0)+(((List.range M).filter p).map (2 ^ ·)).sum:=by
   rw [List.range_succ,List.filter_append,List.map_append,List.sum_append]
   cases h:p M <;> simp [List.filter,h] <;> exact Nat.add_comm (List.map (λ x=>2 ^ x) (List.filter p (List.range M))).sum (2 ^ M)
  rw [e]
  refine ⟨?_,λ r hr=>?_⟩
  ·have:=ih.1; rw [Nat.pow_succ]; cases p M <;> simp <;> lia
  ·rw [Nat.testBit_two_pow_mul_add _ ih.1]
   by_cases c:r < M
   ·rw [if_pos c]; exact ih.2 r c
   ·have:r=M:=by exact Nat.eq_of_lt_succ_of_not_lt hr c
    subst this
    rw [if_neg c]; cases p r <;> simp
theorem sh: ∀l:List Nat,intsOf (ae l)=some (l.map λ i:Nat=>(i:Int))
 | []=>rfl
 | a::l=>by
  show (intsOf (ae l)).map _=_
  rw [sh l]; rfl
theorem xU: ∀l:List Nat,(l.map λ i:Nat=>(i:Int)).sum=((l.sum:Nat):Int)
 | []=>rfl
 | a::l=>by simp only [List.map_cons,List.sum_cons,xU l]; exact Int.ofNat_add_ofNat a l.sum
section
variable {n:Nat} {H:Hp} {Q:V->Hp->Prop}
theorem Nt {K:PV} {l:List (Option V)} {a:Nat} {u:List Nat} (h:H a=some (.list (ae u))):eU .sum [.ref a] K ⟨l,H⟩=K (nV u.sum) ⟨l,H⟩:=by
 unfold eU; simp only [h,sh,xU]
noncomputable def qH (j:Nat) (r:Nat):Bool:=decide (r / 2 ^ j % 2=1)
theorem Iw (j r:Nat):qH j r=r.testBit j:=by rw [Nat.testBit_eq_decide_div_mod_eq]; rfl
noncomputable abbrev UU:B:= .e (.cmp .eq (.bin .mod (.bin .fdiv (.var 2) (.bin .pow (.int 2) (.var 1))) (.int 2)) (.int 1))
noncomputable abbrev UW:E:= .bin .pow (.int 2) (.var 2)
theorem Iy {C:CT} {K:PV} {m j M:Nat} (hj:j < 4) {all:List V} (hit: ∀H,itemsOf H (.range 0 (M:Int) false)=some all):
  ∀(cnt k:Nat) (acc:List Nat) (o:Option V),k+cnt<=16->acc.length<=k->
   (alloc (.list (ae (acc++((List.range' k cnt).filter (qH j)).map (2 ^ ·)))) K ⟨[some (nV m),some (nV j), .none],H⟩)->
   cD C 2 (some UU) UW (.range 0 (M:Int) false) all K (ae (List.range' k cnt)) (ae acc) ⟨[some (nV m),some (nV j),o],H⟩:=by
 intro cnt
 induction cnt with
 | zero=>
  intro k acc o _ _ h
  show cD C 2 _ _ _ _ K [] _ _
  simp only [loops,a8,a9]
  simpa using h
 | succ cnt ih=>
  intro k acc o hk ha h
  rw [List.range'_succ] at h ⊢
  show cD C 2 _ _ _ _ K (nV k::ae (List.range' (k+1) cnt)) _ _
  have hp:2 ^ j<=2 ^ 3:=Nat.pow_le_pow_right (by decide) (by exact Nat.le_of_lt_succ hj)
  have hp0:=Nat.two_pow_pos j
  simp only [mach,ops,loops,UU,qF (show 2 < 2 ^ 64 by decide) (show j<=1000000 by lia),de (show 2 ^ j≠0 by exact Nat.ne_zero_of_lt hp0) (show 2 ^ j < 1073741824 by lia),qz (show 2≠0 by decide)]
  have hl:(ae acc).length < lim:=by rw [az]; unfold lim; lia
  by_cases c:k / 2 ^ j % 2=1
  ·have e:ae acc++ [nV (2 ^ k)]=ae (acc++ [2 ^ k]):=by rw [bM]; rfl
   simp only [mach,loops,c,if_true,UW,qF (show 2 < 2 ^ 64 by decide) (show k<=1000000 by lia),hit,hl,true_and,e]
   refine ih (k+1) _ _ (by lia) (by simp; assumption) ?_
   have:qH j k=true:=by simp [qH,c]
   rw [List.filter_cons_of_pos this] at h
   simpa using h
  ·simp only [loops,c,if_false,hit,true_and]
   refine ih (k+1) _ _ (by lia) (by exact Nat.le_add_right_of_le ha) ?_
   have: ¬qH j k=true:=by simp [qH,c]
   rw [List.filter_cons_of_neg this] at h
   exact h
noncomputable def KW (m j:Nat):Nat:=(((List.range (2 ^ m)).filter (qH j)).map (2 ^ ·)).sum
theorem Uk (m j:Nat):sA (2 ^ m) (KW m j) λ r=>r.testBit j:=(CH (qH j) (2 ^ m)).congr λ r x=>Iw j r
noncomputable abbrev inE:E:= .blt .sum [(.comp 2 (.blt .range [(.bin .pow (.int 2) (.var 0))]) (some UU) UW)]
theorem KZ {C:CT} {K:PV} {m:Nat} (hm:m<=4) {all:List V} (hit: ∀H,itemsOf H (.range 0 (m:Int) false)=some all):
  ∀(cnt k:Nat) (acc:List Nat) (o1 o2:Option V) (H:Hp),k+cnt<=m->acc.length=k->
   (∀H',Ext H H'->alloc (.list (ae (acc++(List.range' k cnt).map (KW m)))) K ⟨[some (nV m), .none,if cnt=0 then o2 else .none],H'⟩)->
   cD C 1 .none inE (.range 0 (m:Int) false) all K (ae (List.range' k cnt)) (ae acc) ⟨[some (nV m),o1,o2],H⟩:=by
 intro cnt
 induction cnt with
 | zero=>
  intro k acc o1 o2 H _ _ h
  show cD C 1 _ _ _ _ K [] _ _
  simp only [loops,a8,a9]
  simpa using h H (.refl _)
 | succ cnt ih=>
  intro k acc o1 o2 H hk ha h
  rw [List.range'_succ] at h ⊢
  show cD C 1 _ _ _ _ K (nV k::ae (List.range' (k+1) cnt)) _ _
  have hp:2 ^ m<=2 ^ 4:=Nat.pow_le_pow_right (by decide) hm
  simp only [mach,loops,inE,qF (show 2 < 2 ^ 64 by decide) (show m<=1000000 by lia),bO (show 2 ^ m<=lim by unfold lim; lia)]
  rw [iO aJ,List.range_eq_range']
  refine Iy (by lia) (λ x=>aJ.trans (by rw [List.range_eq_range'])) (2 ^ m) 0 [] _ (by lia) (Nat.le_refl _) ?_
  refine aq λ a H1 fa ea x1=>?_
  rw [List.nil_append,<- List.range_eq_range'] at ea
  have hl:(ae acc).length < lim:=by rw [az]; unfold lim; lia
  have e:ae acc++ [nV (KW m k)]=ae (acc++ [KW m k]):=by rw [bM]; rfl
  have es:(((List.range (2 ^ m)).filter (qH k)).map (2 ^ ·)).sum=KW m k:=rfl
  simp only [mach,loops,Nt ea,es,hit,hl,true_and,e]
  refine ih (k+1) _ _ _ H1 (by lia) (by simp [ha]) λ H' x'=>?_
  have:=h H' (x1.trans x')
  simpa using this
theorem wx {m:Nat} (hm:m<=4) (k: ∀t H',Ext H H'->H t= .none->H' t=some (.list (ae ((List.range m).map (KW m))))->Q (.ref t) H'):au prog (n+1) yX [nV m] Q H:=by
 refine aj kI [some (nV m), .none, .none] rfl rfl ?_
 show Xs _ gT _ _
 simp only [mach,gT,bO (show m<=lim by unfold lim; lia)]
 rw [iO aJ,List.range_eq_range']
 refine KZ hm (λ x=>aJ.trans (by rw [List.range_eq_range'])) m 0 [] _ _ H (by lia) rfl λ H' x'=>?_
 refine aq λ a H1 fa ea x1=>?_
 rw [List.nil_append,<- List.range_eq_range'] at ea
 simp only [mach,ai]
 exact k a H1 (x'.trans x1) (bg x' fa) ea
end
end
section
open A
theorem k7 {α:Type}: ∀(l:List α) (i:Nat) (a b:α),put (put l i a) i b=put l i b
 | [],_,_,_=>rfl
 | _::_,0,_,_=>rfl
 | a::l,i+1,x,y=>congrArg (a:: ·) (k7 l i x y)
theorem pE (a:Nat) (l:List Nat):ae (a::l)=nV a::ae l:=rfl
theorem nD (k c:Nat):List.range' k (c+1)=k::List.range' (k+1) c:=List.range'_succ
theorem sY {β:Type} (f:Nat->β) (k c:Nat):(List.range' k (c+1)).map f=f k::(List.range' (k+1) c).map f:=by rw [List.range'_succ]; rfl
theorem jU {C:CT} {x:Nat} {elt:E} {it:V} {all:List V} {K:PV} {H:Hp} {l:List (Option V)} (f:V->V) (hit:itemsOf H it=some all):
  ∀(ys acc:List V) (o:Option V),(∀y∈ys,∀Q:PV,Q (f y) ⟨put l x (some y),H⟩->W C elt Q ⟨put l x (some y),H⟩)->acc.length+ys.length<=lim->
   alloc (.list (acc++ys.map f)) K ⟨put l x .none,H⟩->cD C x .none elt it all K ys acc ⟨put l x o,H⟩:=by
 intro ys
 induction ys with
 | nil=>
  intro acc o _ _ h
  rw [iE,k7]; simpa using h
 | cons y ys ih=>
  intro acc o he hl h
  rw [je,k7]
  refine he y (.head _) _ ?_
  simp only [List.length_cons] at hl
  rw [Bp]
  exact ⟨⟨hit,by exact Nat.lt_of_add_right_lt hl⟩,ih _ _ (λ z hz=>he z (.tail _ hz)) (by simp; lia) (by simpa using h)⟩
theorem Fs {C:CT} {x:Nat} {c:B} {elt:E} {it:V} {all:List V} {K:PV} {H:Hp} {l:List (Option V)} (p:V->Bool) (f:V->V) (hit:itemsOf H it=some all):
  ∀(ys acc:List V) (o:Option V),(∀y∈ys,∀Q:PV,Q (f y) ⟨put l x (some y),H⟩->W C elt Q ⟨put l x (some y),H⟩)->(∀y∈ys,∀Q:PB,Q (p y) ⟨put l x (some y),H⟩->T C c Q ⟨put l x (some y),H⟩)->acc.length+ys.length<=lim->
   alloc (.list (acc++(ys.filter p).map f)) K ⟨put l x .none,H⟩->cD C x (some c) elt it all K ys acc ⟨put l x o,H⟩:=by
 intro ys
 induction ys with
 | nil=>
  intro acc o _ _ _ h
  rw [iE,k7]; simpa using h
 | cons y ys ih=>
  intro acc o he hc hl h
  rw [mK,k7]
  refine hc y (.head _) _ ?_
  simp only [List.length_cons] at hl
  rw [D4]
  cases hp:p y with
  | true=>
   rw [if_pos rfl]
   refine he y (.head _) _ ?_
   rw [Bp]
   exact ⟨⟨hit,by exact Nat.lt_of_add_right_lt hl⟩,ih _ _ (λ z hz=>he z (.tail _ hz)) (λ z hz=>hc z (.tail _ hz)) (by simp; lia) (by rw [List.filter_cons_of_pos hp] at h; simpa using h)⟩
  | false=>
   rw [if_neg (by decide)]
   exact ⟨hit,ih _ _ (λ z hz=>he z (.tail _ hz)) (λ z hz=>hc z (.tail _ hz)) (by exact Nat.le_of_succ_le hl) (by rw [List.filter_cons_of_neg (by simp [hp])] at h; exact h)⟩
theorem FJ {Q:PV} {l:List (Option V)} {H:Hp} {t k:Nat} {u:List Nat} (h:H t=some (.list (ae u))):b8 .sa (nV k) (.ref t) Q ⟨l,H⟩=Q (.bool (decide (k∈u))) ⟨l,H⟩:=by
 rw [in_list h]; show (allInts (ae u)=true/\Q (.bool ((ae u).any (jN (nV k)))) ⟨l,H⟩)=_
 rw [tZ]; exact propext ⟨λ x=>x.2,λ x=>⟨cf u,x⟩⟩
section
variable {C:CT} {K:PF} {n a t:Nat} {g:A} {H:Hp} {Q:V->Hp->Prop}
theorem Dy (w:g.WF) (hN:g.N < 10000) (hG:H a=some g.obj) (d9:a≠t): ∀(cnt k:Nat) (H':Hp) (o2:Option V),k+cnt=g.N->H' t=some (.list (ae ((List.range k).map g.bH)))->ExtBut t H H'->
  (∀H' o2,H' t=some (.list (ae ((List.range g.N).map g.bH)))->ExtBut t H H'->K .next ⟨[some (.ref a),some (.ref t),o2, .none],H'⟩)->
  aC C (.inr 2) L_law_depth_0 (.part a 0) g.aZ K ((List.range' k cnt).map λ v=>cT (g.pair v)) ⟨[some (.ref a),some (.ref t),o2, .none],H'⟩:=by
 intro cnt
 induction cnt with
 | zero=>
  intro k H' o2 hk ht hE fin
  have:k=g.N:=by assumption
  subst this
  exact fin H' o2 ht hE
 | succ cnt ih=>
  intro k H' o2 hk ht hE fin
  rw [sY]
  have hn:(ae ((List.range k).map g.bH)).length < lim:=by rw [az]; simp; unfold lim; lia
  have next: ∀(x:Nat) (o2:Option V),x=g.bH k->itemsOf (upd H' t (.list (ae ((List.range k).map g.bH)++ [nV x]))) (.part a 0)=some g.aZ/\aC C (.inr 2) L_law_depth_0 (.part a 0) g.aZ K ((List.range' (k+1) cnt).map λ v=>cT (g.pair v)) ⟨[some (.ref a),some (.ref t),o2, .none],upd H' t (.list (ae ((List.range k).map g.bH)++ [nV x]))⟩:=by
   intro x o2 e
   have e2:ae ((List.range k).map g.bH)++ [nV x]=ae ((List.range (k+1)).map g.bH):=by rw [List.range_succ,List.map_append,bM,e]; rfl
   rw [e2]
   refine ⟨aT ((ao _ _ d9).trans (hE _ _ d9 hG)),ih (k+1) _ _ (by lia) (ah _ _ _) (hE.trans (.upd _ _ _)) fin⟩
  simp only [mach,ops,ops2,loops,L_law_depth_0]
  cases hp:g.pair k with
  | none=>
   simp only [mach,loops,Option.isNone_none,if_true,append_list ht hn]
   refine next 0 (some (cT .none)) ?_
   rw [A.uY]
   apply Nat.le_of_not_lt; intro dz
   obtain ⟨l,r,e⟩:=A.d0 dz (show k < g.N by lia)
   rw [hp] at e; cases e
  | some p=>
   obtain ⟨x,y⟩:=p
   have uD:=w.kids hp
   have hx:df (ae ((List.range k).map g.bH)) (x / 2)=some (nV (g.bH (x / 2))):=by
    rw [ae,dM,List.getElem?_eq_getElem (by simp; lia)]; simp
   have hy:df (ae ((List.range k).map g.bH)) (y / 2)=some (nV (g.bH (y / 2))):=by
    rw [ae,dM,List.getElem?_eq_getElem (by simp; lia)]; simp
   simp only [mach,ops,ops2,loops,Option.isNone_some,Bool.false_eq_true,if_false,cT,de (show 2≠0 by decide) (show 2 < 1073741824 by decide),aU ht hx,aU ht hy,append_list ht hn]
   exact next (1+max (g.bH (x / 2)) (g.bH (y / 2))) (some (cT (some (x,y)))) (A.nW w hp).symm
theorem qw (hG:H a=some g.obj) (w:g.WF) (hN:g.N < 10000) (hO:g.outs.length < 1000)
  (k: ∀t H',Ext H H'->H t= .none->H' t=some (.list (ae (g.outs.map λ o=>g.bH (o / 2))))->Q (.ref t) H'):au prog (n+1) Bc [.ref a] Q H:=by
 refine aj mX [some (.ref a), .none, .none, .none] rfl rfl ?_
 show Xs _ iZ _ _
 simp only [mach,iZ]
 refine aq λ t H1 ft et x1=>?_
 have cF:=x1 _ _ hG
 simp only [mach,aw cF 0 (by decide)]
 rw [aX (aT cF)]
 have hm:g.aZ=(List.range' 0 g.N).map λ v=>cT (g.pair v):=by rw [ic,<- List.range_eq_range']
 have d9:a≠t:=ak hG ft
 have fin: ∀(H':Hp) (o2:Option V),H' t=some (.list (ae ((List.range g.N).map g.bH)))->ExtBut t H1 H'->lU (au prog n) [S.ret (E.comp 3 ((E.var 0).attr 2) .none ((E.var 1).sub (E.bin .fdiv (.var 3) (.int 2))))] (d8 Q) .next ⟨[some (.ref a),some (.ref t),o2, .none],H'⟩:=by
  intro H2 o2 ht hE
  have dk:=hE _ _ d9 cF
  simp only [mach,aw dk 2 (by decide)]
  rw [iO (aQ dk)]
  refine jU (l:= [some (.ref a),some (.ref t),o2, .none]) (Gf λ i=>g.bH (i / 2)) (aQ dk) (ae g.outs) [] .none (λ y hy K' h=>?_) (by rw [az]; simp; unfold lim; lia) ?_
  ·obtain ⟨o,ho,rfl⟩:=List.mem_map.mp hy
   have hx:df (ae ((List.range g.N).map g.bH)) (o / 2)=some (nV (g.bH (o / 2))):=by
    rw [ae,dM,List.getElem?_eq_getElem (by simp; exact w.outs o ho)]; simp
   simp only [mach,a8,a9,de (show 2≠0 by decide) (show 2 < 1073741824 by decide),aU ht hx]
   exact h
  ·refine aq λ s H3 fs es x3=>?_
   simp only [mach,a8,a9]
   have Y1:Ext H H2:=((x1.but t).trans hE).ext ft
   refine k s H3 (Y1.trans x3) (bg Y1 fs) ?_
   rw [es,List.nil_append,pI]
 have:=Dy (C:=au prog n) (K:=lU (au prog n) [S.ret (E.comp 3 ((E.var 0).attr 2) .none ((E.var 1).sub (E.bin .fdiv (.var 3) (.int 2))))] (d8 Q)) w hN cF d9 g.N 0 H1 .none (by exact Nat.zero_add g.N) et (.refl _ _) fin
 rw [<- hm] at this
 exact this
end
end
section
open A
section
variable {C:CT} {K:PF} {n a t:Nat} {g:A} {H:Hp} {Q:V->Hp->Prop}
theorem Rk {C:CT} {x o:Nat} {l:List (Option V)} {H:Hp} {K:PV} (hx:df l x=some (some (nV o))) (h:K (nV (o / 2)) ⟨l,H⟩):W C (.bin .fdiv (.var x) (.int 2)) K ⟨l,H⟩:=by
 simp only [mach,hx,de (show 2≠0 by decide) (show 2 < 1073741824 by decide)]; exact h
noncomputable def Kp:V->V:=Gf (· / 2)
theorem xj (l:List Nat):(ae l).map Kp=ae (l.map (· / 2)):=pI _ l
theorem EL (w:g.WF) (hN:g.N < 10000) (hO:g.outs.length < 1000) (hG:H a=some g.obj) (d9:a≠t) {all:List V} (hit: ∀H,itemsOf H (.range ((g.N:Int) - ((1:Nat):Int)) (-((1:Nat):Int)) true)=some all):
  ∀(k:Nat) (u:List Nat) (H':Hp) (o3 o4:Option V),k<=g.N->H' t=some (.list (ae u))->ExtBut t H H'->u.length<=g.outs.length+2*(g.N - k)->(∀o∈g.outs,o / 2∈u)->
  (∀v l r,k<=v->v∈u->g.pair v=some (l,r)->l / 2∈u/\r / 2∈u)->
  (∀u H' o3 o4,H' t=some (.list (ae u))->ExtBut t H H'->(∀o∈g.outs,o / 2∈u)->(∀v l r,v∈u->g.pair v=some (l,r)->l / 2∈u/\r / 2∈u)->K .next ⟨[some (.ref a), .none,some (.ref t),o3,o4, .none],H'⟩)->
  aC C (.inr 3) L_law_used_0 (.range ((g.N:Int) - ((1:Nat):Int)) (-((1:Nat):Int)) true) all K (ae (List.range k).reverse) ⟨[some (.ref a), .none,some (.ref t),o3,o4, .none],H'⟩:=by
 intro k
 induction k with
 | zero=>
  intro u H' o3 o4 hk ht hE hl ho hc fin
  exact fin u H' o3 o4 ht hE ho λ v l r=>hc v l r (Nat.zero_le _)
 | succ k ih=>
  intro u H' o3 o4 hk ht hE hl ho hc fin
  rw [List.range_succ,List.reverse_append]
  show aC C (.inr 3) L_law_used_0 _ _ K (nV k::ae (List.range k).reverse) _
  have pN:k < g.N:=by assumption
  have oF:=hE _ _ d9 hG
  simp only [mach,ops,ops2,loops,L_law_used_0,FJ ht]
  refine aL (λ c1=>?_) λ c1=>?_
  ·simp only [mach,ops,ops2,c1,if_true,aw oF 0 (by decide),aO oF pN]
   cases hp:g.pair k with
   | none=>
    simp only [mach,loops,Option.isSome_none,Bool.false_eq_true,if_false,hit,true_and]
    refine ih u H' _ _ (by lia) ht hE (by lia) ho (λ v l r hv hu jL=>?_) fin
    by_cases e:v=k
    ·subst e; rw [hp] at jL; cases jL
    ·exact hc v l r (by lia) hu jL
   | some p=>
    obtain ⟨x,y⟩:=p
    have uD:=w.kids hp
    simp only [mach,Option.isSome_some,if_true,aw oF 0 (by decide),aO oF pN,hp,cT]
    have Wx:itemsOf H' (aF (x,y))=some (ae [x,y]):=rfl
    rw [iO Wx]
    refine jU (l:= [some (.ref a), .none,some (.ref t),some (nV k),o4, .none]) Kp Wx (ae [x,y]) [] o4 (λ z hz K' h=>?_) (by simp [ae]; unfold lim; exact Nat.le_of_ble_eq_true rfl) ?_
    ·obtain ⟨o,_,rfl⟩:=List.mem_map.mp hz
     exact Rk rfl h
    ·rw [List.nil_append,xj]
     refine aq λ b H1 fb eb x1=>?_
     have ZQ:t≠b:=ak ht fb
     have C7:=x1 _ _ ht
     have hlen:(ae u).length+(ae ([x,y].map (· / 2))).length<=lim:=by simp [az]; unfold lim; lia
     have ea: ∀(Q:PV) (l:List (Option V)),jR .add (.ref t) (.ref b) Q ⟨l,H1⟩=Q (.ref t) ⟨l,upd H1 t (.list (ae (u++ [x / 2,y / 2])))⟩:=λ Q l=>by
      unfold jR; simp only [C7,eb,hlen,ZQ,true_and,ne_eq,not_false_eq_true,<- bM]; rfl
     simp only [mach,loops,a8,a9,ea,hit,true_and]
     refine ih _ _ _ _ (by lia) (ah _ _ _) ((hE.trans (x1.but t)).trans (.upd _ _ _)) (by simp; lia) (λ o h=>List.mem_append_left _ (ho o h)) (λ v l r hv hu jL=>?_) fin
     by_cases e:v=k
     ·subst e; rw [hp] at jL; cases jL; exact ⟨by exact List.mem_append_cons_self,by simp⟩
     ·rcases List.mem_append.mp hu with hu | hu
      ·have:=hc v l r (by lia) hu jL
       exact ⟨List.mem_append_left _ this.1,List.mem_append_left _ this.2⟩
      ·simp at hu; lia
  ·simp only [mach,loops,c1,if_false,hit,true_and]
   refine ih u H' _ _ (by lia) ht hE (by lia) ho (λ v l r hv hu jL=>?_) fin
   by_cases e:v=k
   ·exact absurd (e▸hu) c1
   ·exact hc v l r (by lia) hu jL
theorem By (hG:H a=some g.obj) (w:g.WF) (hN:g.N < 10000) (hO:g.outs.length < 1000)
  (k: ∀(S:Nat->Bool) H',A.cp g (S · =true)->(∀o∈g.outs,S (o / 2)=true)->Ext H H'->Q (nV (fP g S g.N)) H'):au prog (n+1) DZ [.ref a] Q H:=by
 refine aj pg [some (.ref a), .none, .none, .none, .none, .none] rfl rfl ?_
 show Xs _ kg _ _
 simp only [mach,kg,aw hG 2 (by decide)]
 rw [iO (aQ hG)]
 refine jU (l:= [some (.ref a), .none, .none, .none, .none, .none]) Kp (aQ hG) (ae g.outs) [] .none (λ z hz K' h=>?_) (by simp [az]; unfold lim; lia) ?_
 ·obtain ⟨o,_,rfl⟩:=List.mem_map.mp hz
  exact Rk rfl h
 rw [List.nil_append,xj]
 refine aq λ t H1 ft et x1=>?_
 have cF:=x1 _ _ hG
 have bz:g.N<=lim:=by unfold lim; lia
 have d9:a≠t:=ak hG ft
 simp only [mach,a8,a9,aw cF 0 (by decide),bj cF,sub_int]
 rw [vp bz,aX kQ]
 refine EL w hN hO cF d9 (λ x=>kQ) g.N _ H1 _ _ (Nat.le_refl _) et (.refl _ _) (by simp) (λ o h=>List.mem_map_of_mem h) (λ v l r hv x hp=>by have:=(A.bt hp).1; lia) λ u H2 o3 o4 ht hE ho hc=>?_
 have dk:=hE _ _ d9 cF
 simp only [mach,aw dk 0 (by decide),bj dk]
 rw [bO bz,iO aJ]
 refine Fs (l:= [some (.ref a), .none,some (.ref t),o3,o4, .none]) (Mz λ i=>decide (i∈u) && (g.pair i).isSome) id aJ (ae (List.range g.N)) [] .none (λ z hz K' h=>?_) (λ z hz K' h=>?_) (by simp [az]; assumption) ?_
 ·obtain ⟨o,_,rfl⟩:=List.mem_map.mp hz
  simp only [mach,a8,a9]; exact h
 ·obtain ⟨o,hm,rfl⟩:=List.mem_map.mp hz
  have WK:o < g.N:=List.mem_range.mp hm
  simp only [Im] at h
  simp only [mach,ops,a8,a9,FJ ht]
  by_cases c:o∈u
  ·rw [decide_eq_true c,Bool.true_and] at h
   simp only [mach,ops,ops2,eq_true c,aw dk 0 (by decide),aO dk WK]
   cases hp:g.pair o with
   | none=>rw [hp] at h; simp only [mach,Option.isSome_none]; exact h
   | some p=>rw [hp] at h; simp only [mach,Option.isSome_some]; exact h
  ·rw [decide_eq_false c,Bool.false_and] at h
   simp only [mach,eq_false c]; exact h
 rw [List.nil_append,List.map_id]
 refine aq λ b H3 fb eb x3=>?_
 simp only [mach,a8,a9,len_list eb]
 have Y1:Ext H H2:=((x1.but t).trans hE).ext ft
 have ZS:((ae (List.range g.N)).filter (Mz λ i=>decide (i∈u) && (g.pair i).isSome)).length=fP g (λ v=>decide (v∈u)) g.N:=by
  unfold fP ae
  rw [List.filter_map,List.length_map]
  congr 1
  refine List.filter_congr λ v hv=>?_
  have DV:v < g.N:=List.mem_range.mp hv
  show (decide (((v:Nat):Int).toNat∈u) && (g.pair ((v:Nat):Int).toNat).isSome)=_
  rw [Int.toNat_natCast,Bool.and_comm]
  congr 1
  by_cases hm:g.m < v
  ·obtain ⟨l,r,e⟩:=A.d0 hm DV
   simp [e,hm]
  ·rw [A.xM (by exact Nat.le_of_not_lt hm)]; simp [hm]
 rw [ZS]
 exact k (λ v=>decide (v∈u)) H3 (λ v l r hv hp=>by simp only [decide_eq_true_eq] at hv ⊢; exact hc v l r hv hp) (λ o h=>by simpa using ho o h) (Y1.trans x3)
end
end
section
open A
structure Lit (g g':A) (x c:Nat):Prop where
 le:A.Le g g'
 wf:g'.WF
 lt:x / 2 < g'.N
 grow:g'.N<=g.N+c
theorem Lit.xor {g g':A} {x c:Nat} (h:Lit g g' x c):Lit g g' (x ^^^ 1) c:=⟨h.le,h.wf,by rw [A.bS]; exact h.lt,h.grow⟩
theorem Lit.land {g:A} {l r:Nat} (w:g.WF) (hl:l / 2 < g.N) (hr:r / 2 < g.N):Lit g (g.land l r).2 (g.land l r).1 1:=
 have h:=A.qv w hl hr; ⟨h.le,h.wf,h.lt,h.grow⟩
section
variable {n a l r:Nat} {g:A} {H:Hp} {Q:V->Hp->Prop}
theorem L6 (hG:H a=some g.obj) (hN:g.N < 9000) (w:g.WF) (hl:l / 2 < g.N) (hr:r / 2 < g.N) (k: ∀x g',Lit g g' x 1->Q (nV x) (upd H a g'.obj)):au prog (n+2) WY [.ref a,nV l,nV r] Q H:=by
 refine aj J5 [some (.ref a),some (nV l),some (nV r)] rfl rfl ?_
 show Xs _ Fo _ _
 simp only [mach,ops,Fo]
 refine ⟨bJ hG,kU hG (by lia) w ?_⟩
 simp only [mach,ops,ai]
 exact k _ _ (Lit.land w (by rw [A.bS]; exact hl) (by rw [A.bS]; exact hr)).xor
theorem PN {s:Nat} (hG:H a=some g.obj) (hN:g.N < 8000) (w:g.WF) (hs:s / 2 < g.N) (hl:l / 2 < g.N) (hr:r / 2 < g.N) (k: ∀x g',Lit g g' x 3->Q (nV x) (upd H a g'.obj)):au prog (n+3) Uj [.ref a,nV s,nV l,nV r] Q H:=by
 refine aj DF [some (.ref a),some (nV s),some (nV l),some (nV r)] rfl rfl ?_
 show Xs _ yi _ _
 simp only [mach,ops,yi]
 refine aL (λ c=>?_) λ c=>?_
 ·simp only [mach,c,if_true]
  have:=k r g ⟨.refl _,w,hr,by exact Nat.le_add_right g.N 3⟩
  rwa [fY hG] at this
 ·simp only [mach,ops,c,if_false]
  have L1:=Lit.land w hs hr
  refine ⟨bJ hG,bJ hG,?_⟩
  rw [show n+2=(n+1)+1 from rfl]
  refine kU hG (by lia) w ?_
  simp only [mach,ops,ai]
  have cF:upd H a (g.land s r).2.obj a=some (g.land s r).2.obj:=ah _ _ _
  have g1:=L1.grow
  have n1:=L1.le.N
  have L2:=Lit.land L1.wf (l:=s ^^^ 1) (r:=l) (by rw [A.bS]; exact Nat.lt_of_lt_of_le hs n1) (by exact Nat.lt_of_lt_of_le hl n1)
  refine ⟨bJ cF,kU cF (by lia) L1.wf ?_⟩
  rw [cZ]
  simp only [mach,ops,ai]
  have dk:upd H a ((g.land s r).2.land (s ^^^ 1) l).2.obj a=some ((g.land s r).2.land (s ^^^ 1) l).2.obj:=ah _ _ _
  have g2:=L2.grow
  have n2:=L2.le.N
  refine L6 dk (by lia) L2.wf (by have:=L1.lt; exact Nat.lt_of_lt_of_le this n2) L2.lt λ x g' h=>?_
  rw [cZ]
  have g3:=h.grow
  simp only [mach,ai]
  exact k x g' ⟨(L1.le.trans L2.le).trans h.le,h.wf,h.lt,by lia⟩
end
theorem NF (x d:Nat) (h:d < 2):(x ^^^ d) / 2=x / 2:=by
 have:d=0\/d=1:=by lia
 rcases this with rfl | rfl
 ·simp
 ·exact A.bS x
theorem sub_neg {Q:PV} {l:List (Option V)} {H:Hp} {t d:Nat} {u:List Nat} (h:H t=some (.list (ae u))) (hd:d < u.length):
  b7 (.ref t) (.int (-((1:Nat):Int) - (d:Int))) Q ⟨l,H⟩=Q (nV (u.getD (u.length - 1 - d) 0)) ⟨l,H⟩:=by
 have hp:place (-((1:Nat):Int) - (d:Int)) (ae u).length=some (u.length - 1 - d):=by
  unfold place
  rw [az,if_neg (by lia),if_pos (by lia)]
  congr 1; lia
 have hx:df (ae u) (u.length - 1 - d)=some (nV (u.getD (u.length - 1 - d) 0)):=by
  rw [ae,dM,List.getElem?_eq_getElem (by lia)]; simp [List.getD_eq_getElem?_getD,List.getElem?_eq_getElem (show u.length - 1 - d < u.length by lia)]
 exact Np (congrArg (λ o=>dictOf (λ z=>o) (.ref t)) h) (ay h) hp hx
theorem getD_mem {u:List Nat} {i:Nat} (h:i < u.length):u.getD i 0∈u:=by
 simp [List.getD_eq_getElem?_getD,List.getElem?_eq_getElem h]
noncomputable abbrev JV (i j lm:Nat):E:= .bin .bxor (.sub (.var j) (.bin .sub (.neg (.int 1)) (.call 49 [(.var i),(.blt .min [(.blt .len [(.var j)]),(.int lm)])]))) (.call 49 [(.var i),(.int 2)])
section
variable {n h c kn M:Nat} {ns:List Int} {u:List Nat} {H:Hp} {K:PV}
theorem Fv {i j lm:Nat} {l:List (Option V)} (hh:Hand H h c ns) (hn:ns.length < 1000) (hk:H kn=some (.list (ae u))) (A4:kn≠h) (hu:0 < u.length) (hM: ∀x∈u,x / 2 < M) (hl0:0 < lm) (O8:lm < 1000)
  (hi:df l i=some (some (.ref h))) (hj:df l j=some (some (.ref kn))) (k: ∀x H',x / 2 < M->ExtBut h H H'->Hand H' h c ns->K (nV x) ⟨l,H'⟩):W (au prog (n+1)) (JV i j lm) K ⟨l,H⟩:=by
 simp only [mach,ops,JV,hi,hj,len_list hk,az]
 refine kZ hh (by lia) (by lia) hn λ d H1 hd x1 h1=>?_
 have Wz:=x1 _ _ A4 hk
 have hdu:d < u.length:=by lia
 simp only [mach,sub_int,sub_neg Wz hdu,hi]
 refine kZ h1 (by decide) (by decide) hn λ e H2 he x2 h2=>?_
 simp only [mach,ops,ai]
 refine k _ H2 ?_ (x1.trans x2) h2
 rw [NF _ _ he]
 exact hM _ (getD_mem (by exact Nat.sub_one_sub_lt_of_lt hdu))
theorem JW {i j lm x:Nat} {l:List (Option V)} (hn:ns.length < 1000) (A4:kn≠h) (hu:0 < u.length) (hM: ∀x∈u,x / 2 < M) (hl0:0 < lm) (O8:lm < 1000)
  (hi: ∀o,df (put l x o) i=some (some (.ref h))) (hj: ∀o,df (put l x o) j=some (some (.ref kn))) {N:Nat} {all:List V} (hit: ∀H,itemsOf H (.range 0 (N:Int) false)=some all):
  ∀(ys:List V) (acc:List Nat) (o:Option V) (H:Hp),Hand H h c ns->H kn=some (.list (ae u))->acc.length+ys.length < 1000->(∀x∈acc,x / 2 < M)->
   (∀ps H',ps.length=acc.length+ys.length->(∀x∈ps,x / 2 < M)->ExtBut h H H'->Hand H' h c ns->alloc (.list (ae ps)) K ⟨put l x .none,H'⟩)->
   cD (au prog (n+1)) x .none (JV i j lm) (.range 0 (N:Int) false) all K ys (ae acc) ⟨put l x o,H⟩:=by
 intro ys
 induction ys with
 | nil=>
  intro acc o H hh hk hl ha k
  rw [iE,k7]
  exact k acc H rfl ha (.refl _ _) hh
 | cons y ys ih=>
  intro acc o H hh hk hl ha k
  simp only [List.length_cons] at hl
  rw [je,k7]
  refine Fv hh hn hk A4 hu hM hl0 O8 (hi _) (hj _) λ z H1 hz x1 h1=>?_
  rw [Bp]
  refine ⟨⟨hit _,by rw [az]; unfold lim; lia⟩,?_⟩
  have e:ae acc++ [nV z]=ae (acc++ [z]):=by rw [bM]; rfl
  rw [e]
  refine ih (acc++ [z]) _ H1 h1 (x1 _ _ A4 hk) (by simp; lia) (λ q hq=>?_) λ ps H2 sL hp x2 h2=>?_
  ·rcases List.mem_append.mp hq with hq | hq
   ·exact ha q hq
   ·rw [List.mem_singleton.mp hq]; exact hz
  ·exact k ps H2 (by simp at sL ⊢; lia) hp (x1.trans x2) h2
end
end
section
open A
noncomputable def N3 (h a kn:Nat) (H H':Hp):Prop:= ∀b o,b≠h->b≠a->b≠kn->H b=some o->H' b=some o
theorem N3.trans {h a kn:Nat} {A B C:Hp} (x:N3 h a kn A B) (y:N3 h a kn B C):N3 h a kn A C:=λ b o h1 h2 h3 e=>y b o h1 h2 h3 (x b o h1 h2 h3 e)
structure Dc (g:A) (u:List Nat) (m k:Nat):Prop where
 wf:g.WF
 m:g.m=m
 N:g.N<=5+3*k
 outs:g.outs= []
 lits: ∀x∈u,x / 2 < g.N
 pos:0 < u.length
 len:u.length<=5+k
theorem Dc.step {g g':A} {u:List Nat} {m k x:Nat} (I:Dc g u m k) (h:Lit g g' x 3):Dc g' (u++ [x]) m (k+1):=
 ⟨h.wf,h.le.m.trans I.m,by have:=h.grow; have:=I.N; lia,h.le.outs.trans I.outs,λ y hy=>by
  rcases List.mem_append.mp hy with hy | hy
  ·have:=I.lits y hy; have:=h.le.N; lia
  ·rw [List.mem_singleton.mp hy]; exact h.lt,by simp,by have:=I.len; simp; exact Nat.add_le_add_right this 1⟩
section
variable {n h c a kn m:Nat} {ns:List Int} {H:Hp} {K:PF} {Q:V->Hp->Prop}
theorem AZ {most:V} (hm:m<=4) (Hl:a≠kn) (C2:a≠h) (C4:kn≠h) {all:List V} (hit: ∀H,itemsOf H (.range 0 (m:Int) false)=some all):
  ∀(cnt k:Nat) (u:List Nat) (H':Hp) (o5 o6 o7 o8:Option V),k+cnt=m->H' a=some (lT k).obj->H' kn=some (.list (ae u))->H' h=H h->N3 h a kn H H'->u.length=k+1->(∀x∈u,x / 2 < k+1)->
   (∀u H' o5 o6 o7 o8,H' a=some (lT m).obj->H' kn=some (.list (ae u))->H' h=H h->N3 h a kn H H'->u.length=m+1->(∀x∈u,x / 2 < m+1)->K .next ⟨[some (.ref h),some (nV m),some most,some (.ref a),some (.ref kn),o5,o6,o7,o8],H'⟩)->
   aC (au prog (n+1)) (.inr 5) L_law_graph_0 (.range 0 (m:Int) false) all K (ae (List.range' k cnt)) ⟨[some (.ref h),some (nV m),some most,some (.ref a),some (.ref kn),o5,o6,o7,o8],H'⟩:=by
 intro cnt
 induction cnt with
 | zero=>
  intro k u H' o5 o6 o7 o8 hk ha A4 hh hE hl hx fin
  have:k=m:=by assumption
  subst this
  exact fin u H' o5 o6 o7 o8 ha A4 hh hE hl hx
 | succ cnt ih=>
  intro k u H' o5 o6 o7 o8 hk ha A4 hh hE hl hx fin
  rw [nD,pE]
  simp only [mach,loops,L_law_graph_0]
  refine ⟨dN A4,bJ ha,pT ha (by rw [ni]; lia) rfl ?_⟩
  have O6:upd H' a (A.obj {lT k with m:=k+1}) kn=some (.list (ae u)):=(ao _ _ (Ne.symm Hl)).trans A4
  have hn:(ae u).length < lim:=by rw [az,hl]; unfold lim; lia
  have e:ae u++ [nV (2*(k+1))]=ae (u++ [2*(k+1)]):=by rw [bM]; rfl
  have e1:(lT k).m=k:=rfl
  simp only [mach,loops,e1,ik O6 hn,e,hit,true_and]
  refine ih (k+1) _ _ _ _ _ _ (by lia) ?_ (ah _ _ _) ?_ ?_ (by simp [hl]) (λ x Vl=>?_) fin
  ·exact (ao _ _ Hl).trans (ah _ _ _)
  ·exact (ao _ _ (Ne.symm C4)).trans ((ao _ _ (Ne.symm C2)).trans hh)
  ·exact λ b o h1 h2 h3 eb=>(ao _ _ h3).trans ((ao _ _ h2).trans (hE b o h1 h2 h3 eb))
  ·rcases List.mem_append.mp Vl with Vl | Vl
   ·have:=hx x Vl; exact Nat.lt_add_right 1 (hx x Vl)
   ·rw [List.mem_singleton.mp Vl]; lia
theorem A0 {most:V} {M:Nat} (hm:m<=4) (hM:M<=5) (hn:ns.length < 1000) (Hl:a≠kn) (C2:a≠h) (C4:kn≠h) (Ja:c≠a) (Yu:c≠kn) {all:List V} (hit: ∀H,itemsOf H (.range 0 (M:Int) false)=some all):
  ∀(cnt k:Nat) (g:A) (u:List Nat) (H':Hp) (o5 o6 o7 o8:Option V),k+cnt=M->H' a=some g.obj->H' kn=some (.list (ae u))->Hand H' h c ns->N3 h a kn H H'->Dc g u m k->
   (∀g u H' o5 o6 o7 o8,H' a=some g.obj->H' kn=some (.list (ae u))->Hand H' h c ns->N3 h a kn H H'->Dc g u m M->K .next ⟨[some (.ref h),some (nV m),some most,some (.ref a),some (.ref kn),o5,o6,o7,o8],H'⟩)->
   aC (au prog (n+3)) (.inr 5) L_law_graph_1 (.range 0 (M:Int) false) all K (ae (List.range' k cnt)) ⟨[some (.ref h),some (nV m),some most,some (.ref a),some (.ref kn),o5,o6,o7,o8],H'⟩:=by
 intro cnt
 induction cnt with
 | zero=>
  intro k g u H' o5 o6 o7 o8 hk ha A4 hh hE I fin
  have:k=M:=by assumption
  subst this
  exact fin g u H' o5 o6 o7 o8 ha A4 hh hE I
 | succ cnt ih=>
  intro k g u H' o5 o6 o7 o8 hk ha A4 hh hE I fin
  rw [nD,pE]
  simp only [mach,loops,L_law_graph_1]
  rw [show n+3=(n+2)+1 from rfl]
  refine kZ hh (by decide) (by decide) hn λ kind H1 aaB x1 h1=>?_
  have Wo:=x1 _ _ C2 ha
  have O6:=x1 _ _ C4 A4
  simp only [mach,bO (show 3<=lim by decide)]
  rw [iO aJ]
  have hN:g.N < 30:=by have:=I.N; lia
  refine JW (l:= [some (.ref h),some (nV m),some most,some (.ref a),some (.ref kn),some (nV k),some (nV kind), .none,o8]) hn C4 I.pos I.lits (by decide) (by decide) (λ y=>rfl) (λ y=>rfl) (λ y=>aJ) _ [] o7 H1 h1 O6 (by simp [ae]) (λ y h=>nomatch h) λ ps H2 FD Vj x2 h2=>?_
  have ZN:=x2 _ _ C2 Wo
  have Z6:=x2 _ _ C4 O6
  obtain ⟨p,q,r,rfl⟩: ∃p q r,ps= [p,q,r]:=by
   simp [ae] at FD
   match ps,FD with
   | [p,q,r],_=>exact ⟨p,q,r,rfl⟩
  have hp:=Vj p (by exact List.mem_cons_self)
  have hq:=Vj q (by simp)
  have hr:=Vj r (by exact List.mem_of_getLast? rfl)
  refine aq λ b H3 fb eb x3=>?_
  have Rj:=x3 _ _ ZN
  have O7:=x3 _ _ Z6
  have hul:(ae u).length < lim:=by rw [az]; have:=I.len; unfold lim; lia
  have E3:N3 h a kn H H3:=λ b o h1 h2 h3 e=>x3 _ _ (x2 _ _ h1 (x1 _ _ h1 (hE b o h1 h2 h3 e)))
  have next: ∀(g':A) (x:Nat),Lit g g' x 3->
    Un .append (.ref kn) (Lr (lU (au prog ((n+2)+1)) [] (lU (au prog ((n+2)+1)) [] (oG (au prog ((n+2)+1)) (.inr 5) L_law_graph_1 (.range 0 (M:Int) false) all K (ae (List.range' (k+1) cnt)))))) [nV x] ⟨[some (.ref h),some (nV m),some most,some (.ref a),some (.ref kn),some (nV k),some (nV kind), .none,some (.ref b)],upd H3 a g'.obj⟩:=by
   intro g' x hx
   have hk4:upd H3 a g'.obj kn=some (.list (ae u)):=(ao _ _ (Ne.symm Hl)).trans O7
   have e:ae u++ [nV x]=ae (u++ [x]):=by rw [bM]; rfl
   simp only [mach,loops,ik hk4 hul,e,hit,true_and]
   refine ih (k+1) g' _ _ _ _ _ _ (by lia) ((ao _ _ Hl).trans (ah _ _ _)) (ah _ _ _) ?_ ?_ (I.step hx) fin
   ·have ZX:=h2.ext x3
    exact (ZX.but (.upd a H3 g'.obj) (Ne.symm C2) Ja).but (.upd kn _ _) (Ne.symm C4) Yu
   ·exact E3.trans λ b o h1 h2 h3 eb=>(ao _ _ h3).trans ((ao _ _ h2).trans eb)
  have s0: ∀{Q:PV} {l:List (Option V)},b7 (.ref b) (nV 0) Q ⟨l,H3⟩=Q (nV p) ⟨l,H3⟩:=λ {Q l}=>aU eb rfl
  have s1: ∀{Q:PV} {l:List (Option V)},b7 (.ref b) (nV 1) Q ⟨l,H3⟩=Q (nV q) ⟨l,H3⟩:=λ {Q l}=>aU eb rfl
  have s2: ∀{Q:PV} {l:List (Option V)},b7 (.ref b) (nV 2) Q ⟨l,H3⟩=Q (nV r) ⟨l,H3⟩:=λ {Q l}=>aU eb rfl
  simp only [mach,ops,a8,a9]
  refine aL (λ c0=>?_) λ c0=>?_
  ·simp only [mach,c0,if_true,s0,s1]
   subst c0
   refine ⟨dN O7,bJ Rj,kU Rj (by lia) I.wf ?_⟩
   rw [uO]
   have L:=Lit.land I.wf hp hq
   exact next _ _ ⟨L.le,L.wf,L.lt,by have:=L.grow; lia⟩
  ·simp only [mach,ops,c0,if_false]
   refine aL (λ c1=>?_) λ c1=>?_
   ·simp only [mach,c1,if_true,s0,s1]
    subst c1
    refine ⟨dN O7,bJ Rj,?_⟩
    rw [show (n+2)+1=(n+1)+2 from rfl]
    refine L6 Rj (by lia) I.wf hp hq λ x g' L=>?_
    rw [uO]
    exact next _ _ ⟨L.le,L.wf,L.lt,by have:=L.grow; lia⟩
   ·simp only [mach,c1,if_false,s0,s1,s2]
    refine ⟨dN O7,bJ Rj,?_⟩
    rw [show (n+2)+1=n+3 from rfl]
    refine PN Rj (by lia) I.wf hp hq hr λ x g' L=>?_
    rw [uO]
    exact next _ _ L
theorem zb (hh:Hand H h c ns) (hn:ns.length < 1000) (hm:m<=4)
  (k: ∀a kn g u H',ExtBut h H H'->Hand H' h c ns->H a= .none->H kn= .none->a≠kn->H' a=some g.obj->H' kn=some (.list (ae u))->Dc g u m 5->Q (.tup [.ref a, .ref kn]) H'):au prog (n+4) Bd [.ref h,nV m,nV 5] Q H:=by
 refine aj mY [some (.ref h),some (nV m),some (nV 5), .none, .none, .none, .none, .none, .none] rfl rfl ?_
 show Xs _ i3 _ _
 simp only [mach,i3]
 refine aq λ a H1 fa ea x1=>?_
 simp only [mach,ai]
 refine aq λ kn H2 fk ek x2=>?_
 have ea2:=x2 _ _ ea
 have eh: ∃o,H h=some o:=let ⟨_,_,_,e,_⟩:=hh.hand; ⟨_,e⟩
 obtain ⟨oh,eh⟩:=eh
 have C2:a≠h:=Ne.symm (ak eh fa)
 have C4:kn≠h:=Ne.symm (ak (x1 _ _ eh) fk)
 have Ja:c≠a:=ak hh.cells fa
 have Yu:c≠kn:=ak (x1 _ _ hh.cells) fk
 have Hl:a≠kn:=ak ea fk
 simp only [mach,bO (show m<=lim by unfold lim; lia)]
 rw [aX aJ,List.range_eq_range',show n+3=(n+2)+1 from rfl]
 refine AZ (H:=H2) hm Hl C2 C4 (λ y=>aJ.trans (by rw [List.range_eq_range'])) m 0 [0] H2 _ _ _ _ (by lia) ea2 ek rfl (λ y y y y y e=>e) rfl (λ x hx=>by rw [List.mem_singleton.mp hx]; decide) λ u H3 o5 o6 o7 o8 Rj Jb ZX A1 hl hx=>?_
 have hh2:=(hh.ext x1).ext x2
 have ZY:Hand H3 h c ns:=let ⟨⟨i,p,s,e,q⟩,e2,ne⟩:=hh2; ⟨⟨i,p,s,ZX.trans e,q⟩,A1 _ _ (Ne.symm ne) Ja Yu e2,ne⟩
 simp only [mach,ops,ai]
 refine kZ ZY (by decide) (by decide) hn λ M H4 hM x4 h4=>?_
 simp only [mach,bO (show M<=lim by unfold lim; lia)]
 rw [aX aJ,List.range_eq_range',show (n+2)+1=n+3 from rfl]
 have I0:Dc (lT m) u m 0:=⟨D1 _,rfl,by rw [ni]; exact Nat.add_le_add_right hm 1,rfl,λ x h=>by rw [ni]; exact hx x h,by exact Nat.lt_of_sub_eq_succ hl,by lia⟩
 refine A0 (H:=H2) hm (by exact Nat.le_of_lt_succ hM) hn Hl C2 C4 Ja Yu (λ y=>aJ.trans (by rw [List.range_eq_range'])) M 0 (lT m) u H4 _ _ _ _ (by lia) (x4 _ _ C2 Rj) (x4 _ _ C4 Jb) h4 (λ b o h1 h2 h3 e=>x4 _ _ h1 (A1 b o h1 h2 h3 e)) I0 λ g u H5 y y y y ha5 hk5 hh5 Wi I=>?_
 simp only [mach,ai]
 refine k a kn g u H5 (λ b o hb e=>Wi b o hb (ak e fa) (ak (x1 _ _ e) fk) (x2 _ _ (x1 _ _ e))) hh5 fa (bg x1 fk) Hl ha5 hk5 ⟨I.wf,I.m,by have:=I.N; lia,I.outs,I.lits,I.pos,by have:=I.len; lia⟩
end
end
section
open A
section
variable {n h c a kn m:Nat} {ns:List Int} {H:Hp} {K:PF} {Q:V->Hp->Prop}
theorem M3 (g:A) (o:List Nat):A.obj {g with outs:=o}= .aig g.aZ g.iU (ae o) (lj g.lQ):=rfl
theorem Io {g:A} {u:List Nat} {M:Nat} {v0 v1 v3:Option V} {tl:List (Option V)} (w:g.WF) (hM:M<=4) (hn:ns.length < 1000) (Hl:a≠kn) (C2:a≠h) (C4:kn≠h) (Ja:c≠a) (hu: ∀x∈u,x / 2 < g.N) (hu0:0 < u.length) {all:List V} (hit: ∀H,itemsOf H (.range 0 (M:Int) false)=some all):
  ∀(cnt k:Nat) (outs:List Nat) (H':Hp) (o6:Option V),k+cnt=M->H' a=some (A.obj {g with outs:=outs})->H' kn=some (.list (ae u))->Hand H' h c ns->(∀b o,b≠h->b≠a->H b=some o->H' b=some o)->outs.length=k->(∀x∈outs,x / 2 < g.N)->
   (∀outs H' o6,H' a=some (A.obj {g with outs:=outs})->Hand H' h c ns->(∀b o,b≠h->b≠a->H b=some o->H' b=some o)->outs.length=M->(∀x∈outs,x / 2 < g.N)->K .next ⟨v0::v1::some (.ref h)::v3::some (.ref a)::some (.ref kn)::o6::tl,H'⟩)->
   aC (au prog (n+1)) (.inr 6) L_law_0 (.range 0 (M:Int) false) all K (ae (List.range' k cnt)) ⟨v0::v1::some (.ref h)::v3::some (.ref a)::some (.ref kn)::o6::tl,H'⟩:=by
 intro cnt
 induction cnt with
 | zero=>
  intro k outs H' o6 hk ha A4 hh hE hl hx fin
  exact fin outs H' o6 ha hh hE (by lia) hx
 | succ cnt ih=>
  intro k outs H' o6 hk ha A4 hh hE hl hx fin
  rw [nD,pE]
  simp only [L_law_0,nQ,a8,a9,ye,Dg,Df,Jr,vg,vh,rS,y9,yd]
  refine And.intro (bJ ha) (Fv hh hn A4 C4 hu0 hu (by decide) (by decide) rfl rfl λ x H1 hx1 x1 h1=>?_)
  have Wo:=x1 _ _ C2 ha
  have hN:({g with outs:=outs}:A).outs.length < 10000:=by show outs.length < _; lia
  simp only [mach,ai]
  refine jo Wo hN ?_
  simp only [mach,loops,hit,true_and]
  refine ih (k+1) (outs++ [x]) _ _ (by lia) (ah _ _ _) ((ao _ _ (Ne.symm Hl)).trans (x1 _ _ C4 A4)) ?_ ?_ (by simp [hl]) (λ y hy=>?_) fin
  ·exact h1.but (.upd a H1 _) (Ne.symm C2) Ja
  ·exact λ b o h1 h2 eb=>(ao _ _ h2).trans (x1 _ _ h1 (hE b o h1 h2 eb))
  ·rcases List.mem_append.mp hy with hy | hy
   ·exact hx y hy
   ·rw [List.mem_singleton.mp hy]; exact hx1
theorem Mv {K:PV} {g:A} {t x i f M:Nat} {l:List (Option V)} {vals outs:List Nat} {it:V} {all:List V} {o:Option V} (hit:itemsOf H it=some all) (ht:H t=some (.list (ae vals))) (hV:j9 g M vals g.N) (ho: ∀y∈outs,y / 2 < g.N) (hl:outs.length < 1000)
  (hi: ∀y,df (put l x (some y)) i=some (some (.ref t))) (hx: ∀y,df (put l x (some y)) x=some (some y)) (hf: ∀y,df (put l x (some y)) f=some (some (nV (2 ^ M - 1))))
  (k:alloc (.list (ae (outs.map (zi M vals)))) K ⟨put l x .none,H⟩):
  cD (au prog (n+1)) x .none (.call 50 [(.var i),(.var x),(.var f)]) it all K (ae outs) [] ⟨put l x o,H⟩:=by
 refine jU (Gf (zi M vals)) hit (ae outs) [] o (λ y hy K' h=>?_) (by simp [az]; unfold lim; lia) ?_
 ·obtain ⟨z,hz,rfl⟩:=List.mem_map.mp hy
  simp only [mach,hi,hx,hf]
  have hzN:=ho z hz
  refine rx ht (by rw [hV.1]; exact hzN) (hV.2 _ hzN).1 ?_
  simp only [mach,ai]
  exact h
 ·rw [List.nil_append]
  rw [pI]; exact k
theorem yb: ∀u:List Nat,pL (ae u) (ae u)=true
 | []=>rfl
 | a::r=>by
  show (((a:Int) == (a:Int)) && pL (ae r) (ae r))=true
  rw [yb r]; simp
theorem AH {H:Hp} {P:Bool->Prop} {l:List (Option V)} {p q:Nat} {xs ys:List V} (hp:H p=some (.list xs)) (hq:H q=some (.list ys)):
  Yi (.ref p) (.ref q) P ⟨l,H⟩=((allInts xs=true/\allInts ys=true/\P (pL xs ys))\/Vx H xs ys (P true)):=by
 show (match H p,H q with | some (.list xs),some (.list ys)=>(allInts xs=true/\allInts ys=true/\P (pL xs ys))\/Vx H xs ys (P true) | _,_=>False)=_
 rw [hp,hq]
theorem OG {H:Hp} {K:PV} {l:List (Option V)} {p q:Nat} {xs ys:List V} (hp:H p=some (.list xs)) (hq:H q=some (.list ys)):
  b8 .eq (.ref p) (.ref q) K ⟨l,H⟩=((allInts xs=true/\allInts ys=true/\K (.bool (pL xs ys)) ⟨l,H⟩)\/Vx H xs ys (K (.bool true) ⟨l,H⟩)):=AH (P:=λ b=>K (.bool b) ⟨l,H⟩) hp hq
theorem Ml {H:Hp} {K:PV} {l:List (Option V)} {p q:Nat} {u:List Nat} (hp:H p=some (.list (ae u))) (hq:H q=some (.list (ae u))) (h:K (.bool false) ⟨l,H⟩):b8 .ne (.ref p) (.ref q) K ⟨l,H⟩:=by
 refine Eq.mpr (AH (P:=λ b=>K (.bool (!b)) ⟨l,H⟩) hp hq) ?_
 exact .inl ⟨cf u,cf u,by rw [yb]; exact h⟩
structure Good (g:A) (sz:Nat) (g':A):Prop where
 same:cC g g'
 sz:g'.ands.length<=sz
theorem HL {g g':A} {M:Nat} {vals Nz:List Nat} (s:cC g g') (w:g.WF) (hV:j9 g M vals g.N) (Yr:j9 g' M Nz g'.N):g'.outs.map (zi M Nz)=g.outs.map (zi M vals):=by
 obtain ⟨τ,e,hτ⟩:=s.outs
 rw [e,List.map_map]
 refine List.map_congr_left λ o ho=>?_
 have h1:=hV.lit (l:=o) (w.outs o ho)
 have h2:=Yr.lit (l:=τ o) (s.wf.outs _ (by rw [e]; exact List.mem_map_of_mem ho))
 exact h2.eq (h1.congr λ r x=>(hτ o ho _).symm)
theorem BU (g:A):(g.aZ.filter λ v=>!jh v).length=g.ands.length:=by
 unfold A.aZ
 rw [List.filter_append,List.filter_eq_nil_iff.mpr,List.filter_eq_self.mpr]
 ·simp
 ·intro v hv
  obtain ⟨p,_,rfl⟩:=List.mem_map.mp hv
  rfl
 ·intro v hv
  rw [List.eq_of_mem_replicate hv]; exact Bool.false_ne_true
theorem cC.B9 {a b:A} (h:cC a b):b.outs.length=a.outs.length:=h.nz
theorem Dp {g:A} {wd du sz lst:Nat} {vals ws:List Nat} {v0 v1 v2 v4 v5 v6 v9 YX YY YZ v20 Y0:Option V} (w:g.WF) (hm:g.m=m) (hN:g.N < 60) (hO:g.outs.length < 1000) (C6:sz<=g.ands.length) (hV:j9 g (2 ^ m) vals g.N) (Rv:ws.length=m) (hW: ∀j,j < m->sA (2 ^ m) (ws.getD j 0) λ r=>r.testBit j) {all:List V}:
  ∀(ms:List (Nat×A)) (H:Hp) (lO o11 NX Mu Ih:Option V),H lst=some (.list all)->H wd=some (.list (ae ws))->H du=some (.list (ae (g.outs.map (zi (2 ^ m) vals))))->(∀p∈ms,H p.1=some p.2.obj/\Good g sz p.2)->
   (∀H' lO o11 NX Mu Ih,Ext H H'->K .next ⟨[v0,v1,v2,some (nV m),v4,v5,v6,some (.ref wd),some (nV (2 ^ 2 ^ m - 1)),v9,lO,o11,some (.ref du),some (nV sz),YX,YY,YZ,NX,Mu,Ih,v20,Y0],H'⟩)->
   aC (au prog (n+2)) (.inr 17) L_law_1 (.ref lst) all K (ms.map λ p=>V.ref p.1) ⟨[v0,v1,v2,some (nV m),v4,v5,v6,some (.ref wd),some (nV (2 ^ 2 ^ m - 1)),v9,lO,o11,some (.ref du),some (nV sz),YX,YY,YZ,NX,Mu,Ih,v20,Y0],H⟩:=by
 intro ms
 induction ms with
 | nil=>intro H lO o11 NX Mu Ih hl hw hd hp fin; exact fin H lO o11 NX Mu Ih (.refl _)
 | cons p ms ih=>
  intro H lO o11 NX Mu Ih hl hw hd hp fin
  obtain ⟨s,gs⟩:=p
  obtain ⟨hs,hg⟩:H s=some gs.obj/\Good g sz gs:=hp (s,gs) (.head _)
  have ZW:gs.m=m:=hg.same.m.trans hm
  have hgN:gs.N < 60:=by have:=hg.sz; unfold A.N at hN ⊢; lia
  have hgO:gs.outs.length < 1000:=by rw [hg.same.B9]; exact hO
  rw [List.map_cons]
  simp only [mach,loops,L_law_1]
  refine oH hs hg.same.wf (by lia) hw (by rw [Rv,ZW]) (λ j hj=>hW j (by exact Nat.lt_of_lt_of_eq hj ZW)) λ t Nz H1 x1 ft ht Yr=>?_
  have Rt:=x1 _ _ hs
  have Z3:(ae (List.range' 1 gs.m)).length=m:=by rw [az]; simp [ZW]
  have hlen: ∀(Q:PV) (l:List (Option V)),eU .len [.part s 1] Q ⟨l,H1⟩=Q (nV m) ⟨l,H1⟩:=λ Q l=>by
   unfold eU; simp only [Ck,hZ Rt,A.iU,Z3]
  simp only [mach,ops,aw Rt 1 (by decide),hlen,not_true,ne_eq,if_false,aw Rt 2 (by decide)]
  rw [iO (aQ Rt)]
  refine Mv (n:=n+1) (l:= [v0,v1,v2,some (nV m),v4,v5,v6,some (.ref wd),some (nV (2 ^ 2 ^ m - 1)),v9,some (.ref t),o11,some (.ref du),some (nV sz),YX,YY,YZ,some (.ref s),Mu,Ih,v20,Y0]) (aQ Rt) ht Yr (λ y hy=>hg.same.wf.outs y hy) hgO (λ x=>rfl) (λ x=>rfl) (λ x=>rfl) ?_
  rw [HL hg.same w hV Yr]
  refine aq λ b H2 fb eb x2=>?_
  have hd2:=x2 _ _ (x1 _ _ hd)
  have KJ:=x2 _ _ Rt
  simp only [mach,a8,a9]
  refine Ml eb hd2 ?_
  simp only [mach,ops,if_false,aw KJ 0 (by decide),Bool.false_eq_true]
  rw [iO (aT KJ)]
  refine Fs (l:= [v0,v1,v2,some (nV m),v4,v5,v6,some (.ref wd),some (nV (2 ^ 2 ^ m - 1)),v9,some (.ref t),o11,some (.ref du),some (nV sz),YX,YY,YZ,some (.ref s), .none,Ih,v20,Y0]) (λ v=>!jh v) id (aT KJ) gs.aZ [] Ih (λ y hy K' h=>?_) (λ y hy K' h=>?_) (by rw [bA]; simp; unfold lim; lia) ?_
  ·simp only [mach,a8,a9]; exact h
  ·rw [ic] at hy
   obtain ⟨i,_,rfl⟩:=List.mem_map.mp hy
   simp only [mach,ops,ops2,a8,a9]
   cases hpi:gs.pair i with
   | none=>rw [hpi] at h; exact h
   | some p=>rw [hpi] at h; exact h
  rw [List.nil_append,List.map_id]
  refine aq λ d H3 fd ed x3=>?_
  have c: ¬sz < gs.ands.length:=by have:=hg.sz; exact Nat.not_lt.mpr this
  simp only [mach,ops,loops,a8,a9,len_list ed,BU,c,if_false]
  have ND:Ext H H3:=x1.trans (x2.trans x3)
  refine ⟨ay (ND _ _ hl),ih H3 _ _ _ _ _ (ND _ _ hl) (ND _ _ hw) (ND _ _ hd) (λ p jL=>⟨ND _ _ (hp p (.tail _ jL)).1,(hp p (.tail _ jL)).2⟩) λ H' lO o11 NX Mu Ih x'=>fin H' lO o11 NX Mu Ih (ND.trans x')⟩
end
end
section
open A
theorem sg: ∀l:List Int,intsOf (l.map V.int)=some l
 | []=>rfl
 | a::l=>by
  show (intsOf (l.map V.int)).map _=_
  rw [sg l]; rfl
theorem HX (S:Int) {b:Nat} (hb:0 < b): ∃s:Nat,S.fmod (b:Int)=(s:Int):=by
 have:0<=S.fmod (b:Int):=by rw [Int.fmod_eq_emod_of_nonneg _ (by exact Int.natCast_nonneg b)]; exact Int.emod_nonneg _ (by exact Int.natCast_ne_zero_iff_pos.mpr hb)
 exact ⟨(S.fmod b).toNat,by exact Int.eq_natCast_toNat.mpr this⟩
theorem all_false {Q:PV} {l:List (Option V)} {H:Hp} {t:Nat} {xs:List V} (h:H t=some (.list xs)) (hx: ∀x∈xs,x= .bool false):b8 .sa (.bool true) (.ref t) Q ⟨l,H⟩=Q (.bool false) ⟨l,H⟩:=by
 have h1: ∀xs:List V,(∀x∈xs,x= .bool false)->mq xs=true/\xs.any (jN (.bool true))=false:=by
  intro xs
  induction xs with
  | nil=>intro _; exact ⟨rfl,rfl⟩
  | cons x r ih=>
   intro hx
   have e:=hx x (.head _)
   have:=ih λ y hy=>hx y (.tail _ hy)
   subst e
   exact ⟨this.1,this.2⟩
 have h1:=h1 xs hx
 rw [in_list h]; show (mq xs=true/\Q (.bool (xs.any (jN (.bool true)))) ⟨l,H⟩)=_
 rw [h1.2]; exact propext ⟨λ x=>x.2,λ x=>⟨h1.1,x⟩⟩
section
variable {n:Nat} {ns:List Int} {H:Hp} {Q:V->Hp->Prop}
theorem ry {g:A} {a k:Nat} {K:PV} {l:List (Option V)} {xs:List V} (h:itemsOf H (.part a k)=some xs) (hl:xs.length<=lim):eU .list [.part a k] K ⟨l,H⟩=alloc (.list xs) K ⟨l,H⟩:=by
 unfold eU; simp [Ck,h,hl]
theorem LR {c:Nat} {H1:Hp} {o0:Option V} (ec:H1 c=some (.list (ns.map V.int))) (hn:ns.length<=63) (k: ∀H',Q (.bool true) H'):Xs (au prog (n+44)) (Ao.drop 1) (d8 Q) ⟨[o0,some (.ref c), .none, .none, .none, .none, .none, .none, .none, .none, .none, .none, .none, .none, .none, .none, .none, .none, .none, .none, .none, .none],H1⟩:=by
 simp only [Ao,List.drop_succ_cons,List.drop_zero]
 obtain ⟨s0,es0⟩:=HX ns.sum (b:=100003) (by decide)
 have aaj: ∀(Q:PV) (l:List (Option V)),eU .sum [.ref c] Q ⟨l,H1⟩=Q (.int ns.sum) ⟨l,H1⟩:=λ Q l=>by unfold eU; simp only [ec,sg]
 have aac: ∀(Q:PV) (σ:St),cw .mod (.int ns.sum) (nV 100003) Q σ=Q (nV s0) σ:=λ Q σ=>by
  show (_/\Q (.int (ns.sum.fmod ((100003:Nat):Int))) σ)=_
  rw [es0]; exact propext ⟨λ h=>h.2,λ h=>⟨by decide,h⟩⟩
 simp only [mach,ops,aaj,aac]
 refine ⟨.inr (by decide),?_⟩
 refine aq λ h H2 fh eh x2=>?_
 have h2:Hand H2 h c ns:=⟨⟨0,0,s0*7,eh,Nat.zero_le _⟩,x2 _ _ ec,Ne.symm (ak ec fh)⟩
 have C5:ns.length < 1000:=by lia
 simp only [mach,ai]
 rw [show n+44=(n+43)+1 from rfl]
 refine kZ h2 (by decide) (by decide) C5 λ m H3 hm x3 h3=>?_
 simp only [mach,ai]
 rw [show (n+43)+1=(n+40)+4 from rfl]
 refine zb h3 C5 (by lia) λ a kn g u H4 x4 h4 fa fk Hl ea ek I=>?_
 have C2:a≠h:=λ e=>by obtain ⟨⟨_,_,_,e3,_⟩,_,_⟩:=h3; rw [e,e3] at fa; cases fa
 have C4:kn≠h:=λ e=>by obtain ⟨⟨_,_,_,e3,_⟩,_,_⟩:=h3; rw [e,e3] at fk; cases fk
 have Ja:c≠a:=ak h3.cells fa
 simp only [mach,List.length_cons,List.length_nil,true_and]
 rw [show (n+40)+4=(n+43)+1 from rfl]
 refine kZ h4 (by decide) (by decide) C5 λ M H5 hM x5 h5=>?_
 have ea5:=x5 _ _ C2 ea
 have ek5:=x5 _ _ C4 ek
 simp only [mach,bO (show M<=lim by unfold lim; lia)]
 rw [aX aJ,List.range_eq_range']
 have hgo:A.obj {g with outs:= []}=g.obj:=by rw [M3]; rw [A.obj,I.outs]
 refine Io (g:=g) (H:=H5) I.wf (by exact Nat.le_of_succ_le hM) C5 Hl C2 C4 Ja I.lits I.pos (λ w=>aJ.trans (by rw [List.range_eq_range'])) M 0 [] H5 _ (by exact Nat.zero_add M) (by rw [hgo]; exact ea5) ek5 h5 (λ w w w w e=>e) rfl (λ w h=>nomatch h) λ outs H6 o6 ea6 h6 x6 hol hou=>?_
 have wG:({g with outs:=outs}:A).WF:=A.zV I.wf hou
 have ZH:({g with outs:=outs}:A).m=m:=I.m
 have Wk:({g with outs:=outs}:A).N < 60:=by have:=I.N; show g.N < 60; lia
 have OX:({g with outs:=outs}:A).outs.length < 1000:=by show outs.length < 1000; lia
 generalize ({g with outs:=outs}:A)=G at*
 clear I hol hou x6 ea5 ek5 hgo h5 x5 ea ek h4 x4
 simp only [mach,ai]
 refine wx (by lia) λ wd H7 x7 fw ew=>?_
 have Zv:=x7 _ _ ea6
 have h7:=h6.ext x7
 have p1:2 ^ m<=2 ^ 4:=Nat.pow_le_pow_right (by decide) (by lia)
 have e1:((2 ^ 2 ^ m:Nat):Int) - ((1:Nat):Int)=((2 ^ 2 ^ m - 1:Nat):Int):=by have:=Nat.two_pow_pos (2 ^ m); exact Eq.symm (Int.ofNat_sub this)
 have ZK:G.aZ.length<=lim:=by rw [bA]; unfold lim; lia
 have hIl:G.iU.length<=lim:=by simp [A.iU,az]; unfold A.N at Wk; unfold lim; lia
 have hOl:(ae G.outs).length<=lim:=by rw [az]; unfold lim; lia
 simp only [mach,qF (show 2 < 2 ^ 64 by decide) (show m<=1000000 by lia),qF (show 2 < 2 ^ 64 by decide) (show 2 ^ m<=1000000 by lia),sub_int,e1,aw Zv 0 (by decide),ry (g:=G) (aT Zv) ZK]
 refine aq λ l0 H8 f8 e8 x8=>?_
 have Zw:=x8 _ _ Zv
 simp only [mach,aw Zw 1 (by decide),ry (g:=G) (hZ Zw) hIl]
 refine aq λ l1 H9 f9 e9 x9=>?_
 have Zx:=x9 _ _ Zw
 simp only [mach,aw Zx 2 (by decide),ry (g:=G) (aQ Zx) hOl]
 refine aq λ l2 H10 f10 e10 Y3=>?_
 simp only [mach,ai]
 refine aq λ hd H11 f11 e11 Y4=>?_
 have Va:=x9.trans (Y3.trans Y4)
 have V2:=Y4 _ _ (Y3 _ _ Zx)
 have e8':=Va _ _ e8
 have e9':=Y4 _ _ (Y3 _ _ e9)
 have V1:=Y4 _ _ e10
 have DN:=h7.ext (x8.trans Va)
 have TF:=(x8.trans Va) _ _ ew
 simp only [mach,ai]
 have Rv:((List.range m).map (KW m)).length=m:=by simp
 have hW: ∀j,j < m->sA (2 ^ m) (((List.range m).map (KW m)).getD j 0) λ r=>r.testBit j:=λ j hj=>by
  have:((List.range m).map (KW m)).getD j 0=KW m j:=by simp [List.getD_eq_getElem?_getD,hj]
  rw [this]; exact Uk m j
 rw [show (n+43)+1=(n+42)+2 from rfl]
 refine oH V2 wG (by lia) TF (by rw [Rv,ZH]) (λ j hj=>hW j (by exact Nat.lt_of_lt_of_eq hj ZH)) λ t vals H12 X4 ft et hV=>?_
 have Oy:=X4 _ _ V2
 simp only [mach,aw Oy 2 (by decide)]
 rw [iO (aQ Oy),show (n+42)+2=(n+43)+1 from rfl]
 refine Mv (n:=n+43) (l:= [o0,some (.ref c),some (.ref h),some (nV m),some (.ref a),some (.ref kn),o6,some (.ref wd),some (nV (2 ^ 2 ^ m - 1)),some (.ref hd),some (.ref t), .none, .none, .none, .none, .none, .none, .none, .none, .none, .none, .none]) (aQ Oy) et hV (λ y hy=>wG.outs y hy) OX (λ w=>rfl) (λ w=>rfl) (λ w=>rfl) ?_
 refine aq λ du H13 fdu edu ND=>?_
 simp only [mach,a8,a9]
 have V3:=ND _ _ Oy
 refine By V3 wG (by lia) OX λ S H14 hS Wn X5=>?_
 have V4:=X5 _ _ V3
 simp only [mach,ai]
 refine qw V4 wG (by lia) OX λ dp H15 Y5 fdp edp=>?_
 have V5:=Y5 _ _ V4
 simp only [mach,ai]
 rw [show (n+43)+1=(n+40)+4 from rfl]
 refine t7 V5 wG (by lia) OX λ s1 g1 H16 Y6 f16 e16 Gn VZ aat=>?_
 have Zt:=Y6 _ _ V5
 have vK:Ext H11 H16:=X4.trans (ND.trans (X5.trans (Y5.trans Y6)))
 have TN:=DN.ext vK
 simp only [mach,ai]
 rw [show (n+40)+4=(n+43)+1 from rfl]
 refine kZ TN (by decide) (by decide) C5 λ wi H17 hwi QL h17=>?_
 have yD: ∀{q:Nat} {Hx:Hp},Hand Hx h c ns->Hx q= .none->q≠h:=λ hh f e=>by
  obtain ⟨⟨_,_,_,e3,_⟩,_,_⟩:=hh
  rw [e,e3] at f; cases f
 have n0:l0≠h:=yD h7 f8
 have n1:l1≠h:=yD (h7.ext x8) f9
 have n2:l2≠h:=yD ((h7.ext x8).ext x9) f10
 have nhd:hd≠h:=yD (((h7.ext x8).ext x9).ext Y3) f11
 have nt:t≠h:=yD DN ft
 have nwd:wd≠h:=yD h6 fw
 have ndu:du≠h:=yD (DN.ext X4) fdu
 have ndp:dp≠h:=yD (((DN.ext X4).ext ND).ext X5) fdp
 have ns1:s1≠h:=yD ((((DN.ext X4).ext ND).ext X5).ext Y5) f16
 have Oz:=QL _ _ C2 Zt
 have e0_17:=QL _ _ n0 (vK _ _ e8')
 have e1_17:=QL _ _ n1 (vK _ _ e9')
 have e2_17:=QL _ _ n2 (vK _ _ V1)
 have Wa:=QL _ _ nhd (vK _ _ e11)
 have Wc:=QL _ _ nwd (vK _ _ TF)
 have V8:=QL _ _ ndu ((X5.trans (Y5.trans Y6)) _ _ edu)
 have V7:=QL _ _ ndp (Y6 _ _ edp)
 have Wb:=QL _ _ ns1 e16
 clear e8' e9' V1 e11 TF edu edp e16 vK
 simp only [mach,ops,de (show 2≠0 by decide) (show 2 < 1073741824 by decide)]
 rw [show (n+43)+1=(n+40)+4 from rfl]
 refine j3 Oz wG (by lia) OX λ s2 g2 H18 x18 f18 e18 XQ Zq=>?_
 have V6:=x18 _ _ Oz
 simp only [mach,ai]
 rw [show (n+40)+4=(n+1)+43 from rfl]
 refine lP V6 wG Wk OX (by lia) (by decide) λ s3 g3 H19 x19 f19 e19 st3=>?_
 have Zu:=x19 _ _ V6
 simp only [mach,ai]
 rw [show (n+1)+43=n+44 from rfl]
 refine vG Zu wG Wk OX (by lia) (by decide) λ s4 g4 H20 x20 f20 e20 XU=>?_
 simp only [mach,ai]
 refine aq λ lst H21 fl el Y7=>?_
 rw [aX (ay el),show n+44=(n+42)+2 from rfl]
 have GF:Ext H17 H21:=x18.trans (x19.trans (x20.trans Y7))
 refine Dp (g:=G) (ws:=(List.range m).map (KW m)) (vals:=vals) (sz:=fP G S G.N) wG ZH Wk OX (qc G S) hV Rv hW [(s1,g1),(s2,g2),(s3,g3),(s4,g4)] H21 _ _ _ _ _ el (GF _ _ Wc) (GF _ _ V8) ?_ λ H22 lO o11 NX Mu Ih x22=>?_
 ·intro p hp
  simp only [List.mem_cons,List.not_mem_nil,or_false] at hp
  rcases hp with rfl | rfl | rfl | rfl
  ·exact ⟨GF _ _ Wb,Gn,VZ S hS Wn⟩
  ·exact ⟨(x19.trans (x20.trans Y7)) _ _ e18,XQ,Zq S hS Wn⟩
  ·exact ⟨(x20.trans Y7) _ _ e19,st3.same,st3.cnt S hS Wn⟩
  ·exact ⟨Y7 _ _ e20,XU.same,XU.cnt S hS Wn⟩
 have SN:=GF.trans x22
 have ZU:g1.N < 10000:=by have:=VZ S hS Wn; have:=qc G S; have:=Gn.m; unfold A.N at Wk ⊢; lia
 have ZV:g1.outs.length < 1000:=by rw [Gn.B9]; exact OX
 have Zy:=SN _ _ Wb
 simp only [mach,ai]
 rw [show (n+42)+2=(n+43)+1 from rfl]
 refine qw Zy Gn.wf ZU ZV λ fd H23 x23 ffd efd=>?_
 have SQ:=SN.trans x23
 have Rc:=SQ _ _ V7
 have hol:(ae (G.outs.map λ o=>G.bH (o / 2))).length=G.outs.length:=by rw [az,List.length_map]
 simp only [mach,len_list Rc,hol,bO (show G.outs.length<=lim by unfold lim; lia)]
 rw [iO aJ]
 obtain ⟨τ,eo,hτ⟩:=aat
 refine jU (l:= [o0,some (.ref c),some (.ref h),some (nV m),some (.ref a),some (.ref kn),o6,some (.ref wd),some (nV (2 ^ 2 ^ m - 1)),some (.ref hd),lO,o11,some (.ref du),some (nV (fP G S G.N)),some (.ref dp),some (.ref s1),some (nV (2+wi / 2)),NX,Mu,Ih,some (.ref fd), .none]) (λ w=> .bool false) aJ (ae (List.range G.outs.length)) [] .none (λ z hz K' hk=>?_) (by rw [az]; simp; unfold lim; lia) ?_
 ·obtain ⟨i,hi,rfl⟩:=List.mem_map.mp hz
  have hi:i < G.outs.length:=List.mem_range.mp hi
  have q1:df (ae (g1.outs.map λ o=>g1.bH (o / 2))) i=some (nV (g1.bH (τ G.outs[i] / 2))):=by
   rw [ae,dM,eo]; simp [hi]
  have q2:df (ae (G.outs.map λ o=>G.bH (o / 2))) i=some (nV (G.bH (G.outs[i] / 2))):=by
   rw [ae,dM]; simp [hi]
  have hle:=hτ _ (List.getElem_mem hi)
  have: ¬G.bH (G.outs[i] / 2) < g1.bH (τ G.outs[i] / 2):=by exact Nat.not_lt.mpr hle
  simp only [mach,a8,a9,aU efd q1,aU Rc q2,DM,this,decide_false]
  exact hk
 rw [List.nil_append]
 refine aq λ bl H24 fbl ebl Y8=>?_
 simp only [mach,a8,a9]
 rw [all_false ebl (λ x hx=>by obtain ⟨_,_,rfl⟩:=List.mem_map.mp hx; rfl)]
 have SR:=SQ.trans Y8
 have Tw:=SR _ _ Oz
 simp only [mach,ops,Bool.false_eq_true,if_false,aw Tw 0 (by decide),aw Tw 1 (by decide),aw Tw 2 (by decide)]
 refine aq λ nw H25 fnw enw x25=>?_
 have CX:=SR.trans x25
 have Tz:=CX _ _ Oz
 simp only [mach,OG (CX _ _ Wa) enw]
 refine .inr ⟨_,_,_,_,_,_,rfl,rfl,G.aZ,G.iU,ae G.outs,ay (CX _ _ e0_17),aT Tz,ay (CX _ _ e1_17),hZ Tz,ay (CX _ _ e2_17),aQ Tz,⟨?_,cf _,cf _⟩,?_⟩
 ·rw [List.all_eq_true]
  intro v hv
  rw [ic] at hv
  obtain ⟨i,_,rfl⟩:=List.mem_map.mp hv
  cases G.pair i <;> rfl
 ·exact k H25
end
end
section
open PySem PySem.W PyProof.Rows
inductive Tg where
 | free | mut | own | tab
 | fz (o:Obj)
 | kp (o:Obj)
 | aig (o:Obj)
 | jM (a k:Nat)
noncomputable def Tg.idx:Tg->Nat
 | .free=>0 | .mut=>1 | .own=>2 | .tab=>3 | .fz _=>4 | .kp _=>5 | .aig _=>6 | .jM _ _=>7
theorem oM {t u:Tg} (h:(t.idx == u.idx)=false):t≠u:=λ e=>by rw [e,beq_self_eq_true] at h; exact Bool.noConfusion h
noncomputable abbrev Gm:=Addr->Tg
theorem busy {g:Gm} {a:Addr} {t:Tg} (e:g a=t) (h:(t.idx == 0)=false):g a≠ .free:=e▸oM h
noncomputable def setG (g:Gm) (a:Addr) (t:Tg):Gm:=λ b=>if b=a then t else g b
theorem aD (g:Gm) (a:Addr) (t:Tg):setG g a t a=t:=if_pos rfl
theorem aG (g:Gm) {a b:Addr} (t:Tg) (h:b≠a):setG g a t b=g b:=if_neg h
theorem bZ {g:Gm} {a b:Addr} {t u:Tg} (e:setG g a t b=u) (n:t≠u):g b=u:=by
 by_cases q:b=a
 ·subst q; exact absurd ((aD g b t).symm.trans e) n
 ·exact (aG g t q).symm.trans e
noncomputable def strOf:Nat->Str
 | 0=>Str.ofString "zero" | 1=>Str.ofString "one" | 2=>Str.ofString "lit" | 3=>Str.ofString "and" | 4=>Str.ofString "or" | _=>Str.ofString "is"
noncomputable def Lv (g:Gm) (a:Addr):Prop:=g a= .mut\/∃o,g a= .aig o
mutual
inductive Val (g:Gm):V->Value->Prop where
 | none:Val g .none .none
 | bool (b:Bool):Val g (.bool b) (.bool b)
 | int (i:Int) (tk:Tok):Val g (.int i) (.int i tk)
 | str (k:Nat) (tk:Tok):k < 6->Val g (.str k) (.str (strOf k) tk)
 | tup {a:Addr} {xs:List V} {its:Array Value} {n:Nat}:g a= .fz {cls:= .type "tuple",data:= .seq its n}->Vals g xs its.toList->its.size<=lim->Val g (.tup xs) (.ref a)
 | range {a:Addr} {lo hi:Int} {d:Bool} {t u v:Tok}:g a= .fz {cls:= .type "range",data:= .fields #[.int lo t, .int hi u, .int (if d then -1 else 1) v]}->
   lo.natAbs<=lim->hi.natAbs<=lim->Val g (.range lo hi d) (.ref a)
 | ref (a:Addr):Lv g a->Val g (.ref a) (.ref a)
 | part {a k:Nat} {b:Addr}:g b= .jM a k->Val g (.part a k) (.ref b)
inductive Vals (g:Gm):List V->List Value->Prop where
 | nil:Vals g [] []
 | cons {x:V} {v:Value} {xs:List V} {vs:List Value}:Val g x v->Vals g xs vs->Vals g (x::xs) (v::vs)
end
structure Le (g g':Gm):Prop where
 fz: ∀a o,g a= .fz o->g' a= .fz o
 jM: ∀b a k,g b= .jM a k->g' b= .jM a k
 mu: ∀a,g a= .mut->g' a= .mut
 aig: ∀a o,g a= .aig o->g' a= .aig o
theorem Le.refl (g:Gm):Le g g:=⟨λ x x e=>e,λ x x x e=>e,λ x e=>e,λ x x e=>e⟩
theorem Le.trans {g g' Rg:Gm} (x:Le g g') (y:Le g' Rg):Le g Rg:=⟨λ a o e=>y.fz a o (x.fz a o e),λ b a k e=>y.jM b a k (x.jM b a k e),λ a e=>y.mu a (x.mu a e),λ a o e=>y.aig a o (x.aig a o e)⟩
theorem Le.lv {g g':Gm} (x:Le g g') {a:Addr} (h:Lv g a):Lv g' a:=h.elim (λ h=> .inl (x.mu a h)) λ ⟨o,h⟩=> .inr ⟨o,x.aig a o h⟩
theorem Val.le {g g':Gm} (l:Le g g') {x:V} {v:Value} (h:Val g x v):Val g' x v:=
 h.rec (motive_1:=λ x v y=>Val g' x v) (motive_2:=λ xs vs y=>Vals g' xs vs) .none .bool .int .str (λ a y e d=> .tup (l.fz _ _ a) d e) (λ a d e=> .range (l.fz _ _ a) d e)
  (λ a h=> .ref a (l.lv h)) (λ a=> .part (l.jM _ _ _ a)) .nil λ y y a b=> .cons a b
noncomputable def VH (g:Gm) (u:Value):V->Prop
 | .none=>u= .none
 | .bool b=>u= .bool b
 | .int i=> ∃t,u= .int i t
 | .str k=> ∃t,u= .str (strOf k) t/\k < 6
 | .tup xs=> ∃a its n,u= .ref a/\g a= .fz {cls:= .type "tuple",data:= .seq its n}/\Vals g xs its.toList/\its.size<=lim
 | .range lo hi d=> ∃a t w v,u= .ref a/\g a= .fz {cls:= .type "range",data:= .fields #[.int lo t, .int hi w, .int (if d then -1 else 1) v]}/\lo.natAbs<=lim/\hi.natAbs<=lim
 | .ref a=>u= .ref a/\Lv g a
 | .part a k=> ∃b,u= .ref b/\g b= .jM a k
theorem Val.inv {g:Gm} {x:V} {u:Value} (h:Val g x u):VH g u x:=
 h.casesOn (motive_1:=λ x u y=>VH g u x) rfl (λ y=>rfl) (λ y t=>⟨t,rfl⟩) (λ y t h=>⟨t,rfl,h⟩) (λ a b c=>⟨_,_,_,rfl,a,b,c⟩) (λ a b c=>⟨_,_,_,_,rfl,a,b,c⟩) (λ y h=>⟨rfl,h⟩) λ h=>⟨_,rfl,h⟩
noncomputable def QR (g:Gm) (vs:List Value):List V->Prop
 | []=>vs= []
 | x::xs=> ∃v r,vs=v::r/\Val g x v/\Vals g xs r
theorem Vals.inv {g:Gm} {xs:List V} {vs:List Value} (h:Vals g xs vs):QR g vs xs:=
 h.casesOn (motive_2:=λ xs vs x=>QR g vs xs) rfl λ a b=>⟨_,_,rfl,a,b⟩
theorem Vals.vm {g:Gm} {x:V} {vs:List Value} (h:Vals g [x] vs): ∃v,vs= [v]/\Val g x v:=by
 obtain ⟨v,r,rfl,a,b⟩:=h.inv
 obtain rfl:=b.inv
 exact ⟨v,rfl,a⟩
theorem Vals.EJ {g:Gm} {x y:V} {vs:List Value} (h:Vals g [x,y] vs): ∃v u,vs= [v,u]/\Val g x v/\Val g y u:=by
 obtain ⟨v,r,rfl,a,b⟩:=h.inv
 obtain ⟨u,rfl,c⟩:=b.vm
 exact ⟨v,u,rfl,a,c⟩
theorem Vals.Nw {g:Gm} {x y z:V} {vs:List Value} (h:Vals g [x,y,z] vs): ∃v u w,vs= [v,u,w]/\Val g x v/\Val g y u/\Val g z w:=by
 obtain ⟨v,r,rfl,a,b⟩:=h.inv
 obtain ⟨u,w,rfl,c⟩:=b.EJ
 exact ⟨v,u,w,rfl,a,c⟩
theorem Vals.le {g g':Gm} (l:Le g g') {xs:List V} {vs:List Value} (h:Vals g xs vs):Vals g' xs vs:=by
 induction xs generalizing vs with
 | nil=>obtain rfl:=h.inv; exact .nil
 | cons x xs ih=>obtain ⟨v,r,rfl,a,b⟩:=h.inv; exact .cons (a.le l) (ih b)
theorem Vals.length {g:Gm} {xs:List V} {vs:List Value} (h:Vals g xs vs):xs.length=vs.length:=by
 induction xs generalizing vs with
 | nil=>obtain rfl:=h.inv; rfl
 | cons x xs ih=>obtain ⟨v,r,rfl,a,b⟩:=h.inv; exact congrArg (· +1) (ih b)
theorem Vals.append {g:Gm} {xs ys:List V} {vs us:List Value} (h:Vals g xs vs) (k:Vals g ys us):Vals g (xs++ys) (vs++us):=by
 induction xs generalizing vs with
 | nil=>obtain rfl:=h.inv; exact k
 | cons x xs ih=>obtain ⟨v,r,rfl,a,b⟩:=h.inv; exact .cons a (ih b)
theorem Vals.one {g:Gm} {x:V} {v:Value} (h:Val g x v):Vals g [x] [v]:= .cons h .nil
theorem Vals.df {g:Gm} {xs:List V} {vs:List Value} {i:Nat} {x:V} (h:Vals g xs vs) (e:df xs i=some x): ∃v,vs[i]?=some v/\Val g x v:=by
 induction xs generalizing vs i with
 | nil=>exact absurd e.symm (Option.some_ne_none _)
 | cons y xs ih=>
  obtain ⟨v,r,rfl,a,b⟩:=h.inv
  cases i with
  | zero=>obtain rfl:=Option.some.inj e; exact ⟨v,rfl,a⟩
  | succ i=>exact (ih b e: ∃v,r[i]?=some v/\Val g x v)
theorem Vals.put {g:Gm} {xs:List V} {vs:List Value} {i:Nat} {x:V} {v:Value} (h:Vals g xs vs) (k:Val g x v):Vals g (put xs i x) (vs.set i v):=by
 induction xs generalizing vs i with
 | nil=>obtain rfl:=h.inv; exact .nil
 | cons y xs ih=>
  obtain ⟨v,r,rfl,a,b⟩:=h.inv
  cases i with
  | zero=>exact .cons k b
  | succ i=>exact .cons a (ih b)
theorem Vals.take {g:Gm} {xs:List V} {vs:List Value} (n:Nat) (h:Vals g xs vs):Vals g (xs.take n) (vs.take n):=by
 induction xs generalizing vs n with
 | nil=>obtain rfl:=h.inv; rw [List.take_nil,List.take_nil]; exact .nil
 | cons y xs ih=>
  obtain ⟨v,r,rfl,a,b⟩:=h.inv
  cases n with
  | zero=>exact .nil
  | succ i=>exact .cons a (ih i b)
theorem Vals.drop {g:Gm} {xs:List V} {vs:List Value} (n:Nat) (h:Vals g xs vs):Vals g (xs.drop n) (vs.drop n):=by
 induction xs generalizing vs n with
 | nil=>obtain rfl:=h.inv; rw [List.drop_nil,List.drop_nil]; exact .nil
 | cons y xs ih=>
  cases n with
  | zero=>exact h
  | succ i=>obtain ⟨v,r,rfl,a,b⟩:=h.inv; exact ih i b
theorem Vals.getLast {g:Gm} {xs:List V} {vs:List Value} {x:V} (h:Vals g xs vs) (e:xs.getLast?=some x): ∃v,vs.getLast?=some v/\Val g x v:=by
 induction xs generalizing vs with
 | nil=>exact absurd e.symm (Option.some_ne_none _)
 | cons y xs ih=>
  cases xs with
  | nil=>obtain ⟨v,rfl,a⟩:=h.vm; obtain rfl:=Option.some.inj e; exact ⟨v,rfl,a⟩
  | cons z xs=>
   obtain ⟨v,r,rfl,a,b⟩:=h.inv
   obtain ⟨u,h1,h2⟩:=ih b (List.getLast?_cons_cons.symm.trans e)
   obtain ⟨v',r',rfl,_,_⟩:=b.inv
   exact ⟨u,List.getLast?_cons_cons.trans h1,h2⟩
theorem Vals.dropLast {g:Gm} {xs:List V} {vs:List Value} (h:Vals g xs vs):Vals g xs.dropLast vs.dropLast:=by
 rw [List.dropLast_eq_take,List.dropLast_eq_take,<- h.length]; exact h.take _
theorem Vals.repl {g:Gm} {x:V} {v:Value} (h:Val g x v) (n:Nat):Vals g (List.replicate n x) (List.replicate n v):=by
 induction n with
 | zero=>exact .nil
 | succ n ih=>exact .cons h ih
inductive mj (g:Gm):List (V×V)->List (Int×Value)->Prop where
 | nil:mj g [] []
 | cons {k:Int} {x:V} {v:Value} {r:List (V×V)} {r':List (Int×Value)}:Val g x v->mj g r r'->mj g ((.int k,x)::r) ((k,v)::r')
inductive ml (g:Gm):List (V×V)->List (List Int×Addr×Value)->Prop where
 | nil:ml g [] []
 | cons {p q:Int} {a:Addr} {o:Obj} {x:V} {v:Value} {r:List (V×V)} {r':List (List Int×Addr×Value)}:g a= .fz o->Val g x v->ml g r r'->ml g ((.tup [.int p, .int q],x)::r) (([p,q],a,v)::r')
theorem mj.le {g g':Gm} (l:Le g g') {es:List (V×V)} {kvs:List (Int×Value)} (h:mj g es kvs):mj g' es kvs:=
 h.rec (motive:=λ es kvs x=>mj g' es kvs) .nil λ a x b=> .cons (a.le l) b
theorem ml.le {g g':Gm} (l:Le g g') {es:List (V×V)} {kvs:List (List Int×Addr×Value)} (h:ml g es kvs):ml g' es kvs:=
 h.rec (motive:=λ es kvs x=>ml g' es kvs) .nil λ a b x c=> .cons (l.fz _ _ a) (b.le l) c
theorem mj.length {g:Gm} {es:List (V×V)} {kvs:List (Int×Value)} (h:mj g es kvs):es.length=kvs.length:=
 h.rec (motive:=λ es kvs x=>es.length=kvs.length) rfl λ x x b=>congrArg (· +1) b
theorem ml.length {g:Gm} {es:List (V×V)} {kvs:List (List Int×Addr×Value)} (h:ml g es kvs):es.length=kvs.length:=
 h.rec (motive:=λ es kvs x=>es.length=kvs.length) rfl λ x x x b=>congrArg (· +1) b
theorem ml.keys {g:Gm} {es:List (V×V)} {kvs:List (List Int×Addr×Value)} (h:ml g es kvs): ∀x∈kvs,∃o,g x.2.1= .fz o:=
 h.rec (motive:=λ y kvs y=> ∀x∈kvs,∃o,g x.2.1= .fz o) (λ y h=>absurd h List.not_mem_nil) λ a y y c x hx=>(List.mem_cons.mp hx).elim (λ e=>by subst e; exact ⟨_,a⟩) (c x)
section
variable (prog:Program) (w:World)
inductive yc (g:Gm) (h:Heap) (a:Addr) (es:List (V×V)):Prop where
 | mk (e:(a == sysModules)=false) (n:es.length<=lim) (kvs:List (Int×Value)) (d:h.DictOf (knd:=intKind prog w) a kvs) (p:mj g es kvs)
inductive sy (g:Gm) (h:Heap) (a:Addr) (es:List (V×V)):Prop where
 | mk (e:(a == sysModules)=false) (n:es.length<=lim) (xs:List (List Int×Addr×Value)) (d:h.DictOfH (tupleKind (intKind prog w)) a xs) (p:ml g es xs)
inductive LstAt (g:Gm) (h:Heap) (a:Addr) (xs:List V):Prop where
 | mk (its:Array Value) (p:h.PlainList a its) (v:Vals g xs its.toList) (n:xs.length<=lim)
variable {prog w}
theorem LstAt.le {g g':Gm} {h:Heap} {a:Addr} {xs:List V} (l:Le g g') (x:LstAt g h a xs):LstAt g' h a xs:=x.rec λ its p v n=>⟨its,p,v.le l,n⟩
theorem LstAt.heap {g:Gm} {h h':Heap} {a:Addr} {xs:List V} (x:LstAt g h a xs) (k: ∀o,h.get? a=some o->h'.get? a=some o):LstAt g h' a xs:=
 x.rec λ its p v n=>⟨its,p.elim λ m p=>⟨m,k _ p⟩,v,n⟩
theorem yc.le {g g':Gm} {h:Heap} {a:Addr} {es:List (V×V)} (l:Le g g') (x:yc prog w g h a es):yc prog w g' h a es:=x.rec λ e n kvs d p=>⟨e,n,kvs,d,p.le l⟩
theorem sy.le {g g':Gm} {h:Heap} {a:Addr} {es:List (V×V)} (l:Le g g') (x:sy prog w g h a es):sy prog w g' h a es:=x.rec λ e n kvs d p=>⟨e,n,kvs,d,p.le l⟩
theorem IsTupleKey.stays {K:Type} [DecidableEq K] {knd:KeyKind prog w K} {h h':Heap} {ks:List K} {a:Addr} (x:IsTupleKey knd h ks a) (k: ∀o,h.get? a=some o->h'.get? a=some o):IsTupleKey knd h' ks a:=by
 obtain ⟨o,items,n,ho,r⟩:=x; exact ⟨o,items,n,k _ ho,r⟩
theorem yc.heap {g:Gm} {h h':Heap} {a:Addr} {es:List (V×V)} (x:yc prog w g h a es) (k: ∀o,h.get? a=some o->h'.get? a=some o):yc prog w g h' a es:=by
 obtain ⟨e,n,kvs,⟨o,es,ep,ho,r⟩,p⟩:=x
 exact ⟨e,n,kvs,⟨o,es,ep,k _ ho,r⟩,p⟩
theorem sy.heap {g:Gm} {h h':Heap} {a:Addr} {es:List (V×V)} (x:sy prog w g h a es) (k: ∀o,h.get? a=some o->h'.get? a=some o)
  (kf: ∀b o ob,g b= .fz o->h.get? b=some ob->h'.get? b=some ob):sy prog w g h' a es:=by
 obtain ⟨e,n,xs,⟨o,es,ep,ho,hc,hd,he,hk,hn⟩,p⟩:=x
 exact ⟨e,n,xs,⟨o,es,ep,k _ ho,hc,hd,he,λ y hy=>(p.keys y hy).elim λ oy hy'=>IsTupleKey.stays (hk y hy) λ ob e=>kf _ _ _ hy' e,hn⟩,p⟩
noncomputable def jP (P:Params) (t0 t1 t2 t3:Tok) (b0 b1 b2 b3:Addr):List DictEntry:=
 [⟨PyData.keyHash P (Str.ofString "nodes"), .str (Str.ofString "nodes") t0, .ref b0⟩,⟨PyData.keyHash P (Str.ofString "inputs"), .str (Str.ofString "inputs") t1, .ref b1⟩,
 ⟨PyData.keyHash P (Str.ofString "outputs"), .str (Str.ofString "outputs") t2, .ref b2⟩,⟨PyData.keyHash P (Str.ofString "table"), .str (Str.ofString "table") t3, .ref b3⟩]
inductive EX (w:World) (C:Addr) (g:Gm) (a b0 b1 b2 b3:Addr):Prop where
 | mk (d:Addr) (t0 t1 t2 t3:Tok) (n:Nat) (p:g a= .aig (instObj C d)) (q:g d= .fz (PySem.W.dictOf (jP w.params t0 t1 t2 t3 b0 b1 b2 b3) n)) (r0:g b0= .jM a 0) (r1:g b1= .jM a 1) (r2:g b2= .jM a 2) (r3:g b3= .jM a 3)
theorem EX.le {C:Addr} {g g':Gm} {a b0 b1 b2 b3:Addr} (l:Le g g') (x:EX w C g a b0 b1 b2 b3):EX w C g' a b0 b1 b2 b3:=
 x.rec λ d t0 t1 t2 t3 n p q r0 r1 r2 r3=>⟨d,t0,t1,t2,t3,n,l.aig _ _ p,l.fz _ _ q,l.jM _ _ _ r0,l.jM _ _ _ r1,l.jM _ _ _ r2,l.jM _ _ _ r3⟩
variable (prog w) in
inductive SV (C:Addr) (g:Gm) (h:Heap) (a:Addr) (N I U:List V) (T:List (V×V)):Prop where
 | mk (b0 b1 b2 b3:Addr) (x:EX w C g a b0 b1 b2 b3) (q0:LstAt g h b0 N) (q1:LstAt g h b1 I) (q2:LstAt g h b2 U) (q3:sy prog w g h b3 T)
variable (prog w) in
noncomputable def en (C:Addr) (g:Gm) (h:Heap) (a:Addr):O->Prop
 | .list xs=>g a= .mut/\LstAt g h a xs
 | .dict es=>g a= .mut/\yc prog w g h a es
 | .aig N I U T=>SV prog w C g h a N I U T
theorem en.le {C:Addr} {g g':Gm} {h:Heap} {a:Addr} {o:O} (l:Le g g') (m:g a= .mut->g' a= .mut) (x:en prog w C g h a o):en prog w C g' h a o:=by
 cases o with
 | list xs=>exact ⟨m x.1,x.2.le l⟩
 | dict es=>exact ⟨m x.1,x.2.le l⟩
 | aig N I U T=>exact SV.rec (λ b0 b1 b2 b3 p q0 q1 q2 q3=>⟨b0,b1,b2,b3,p.le l,q0.le l,q1.le l,q2.le l,q3.le l⟩) x
theorem en.heap {C:Addr} {g:Gm} {h h':Heap} {a:Addr} {o:O} (x:en prog w C g h a o)
  (k: ∀b ob,((b=a/\g b= .mut)\/(∃j,g b= .jM a j)\/∃o',g b= .fz o')->h.get? b=some ob->h'.get? b=some ob):en prog w C g h' a o:=by
 have kf: ∀b o ob,g b= .fz o->h.get? b=some ob->h'.get? b=some ob:=λ b o ob e=>k b ob (.inr (.inr ⟨o,e⟩))
 cases o with
 | list xs=>exact ⟨x.1,x.2.heap λ ob=>k a ob (.inl ⟨rfl,x.1⟩)⟩
 | dict es=>exact ⟨x.1,x.2.heap λ ob=>k a ob (.inl ⟨rfl,x.1⟩)⟩
 | aig N I U T=>
  obtain ⟨b0,b1,b2,b3,p,q0,q1,q2,q3⟩:=x
  obtain ⟨d,t0,t1,t2,t3,n,p1,p2,r0,r1,r2,r3⟩:=id p
  exact ⟨b0,b1,b2,b3,p,q0.heap λ ob=>k _ ob (.inr (.inl ⟨0,r0⟩)),q1.heap λ ob=>k _ ob (.inr (.inl ⟨1,r1⟩)),q2.heap λ ob=>k _ ob (.inr (.inl ⟨2,r2⟩)),
   q3.heap (λ ob=>k _ ob (.inr (.inl ⟨3,r3⟩))) kf⟩
end
structure Pg where
 prog:Program
 w:World
 B:Heap
 P:Addr
 C:Addr
 os:OsState
noncomputable def Bv:Str:=Str.ofString "without_dominated.<locals>.<lambda>"
noncomputable def tW (g:Gm) (ps:Array Value):Prop:=TriplesOk ps.toList/\∀pos cv,codeAmong pos ps.toList=some cv->∃c o vs t,cv= .ref c/\g c= .fz o/\o.data= .fields vs/\vs[1]?=some (.str Bv t)
theorem tW.le {g g':Gm} {ps:Array Value} (l:Le g g') (x:tW g ps):tW g' ps:=⟨x.1,λ pos cv e=>by
 obtain ⟨c,o,vs,t,a,b,d⟩:=x.2 pos cv e; exact ⟨c,o,vs,t,a,l.fz _ _ b,d⟩⟩
structure Wd (G:Pg) (g:Gm) (H:Hp) (s:Shared):Prop where
 live: ∀a,g a≠ .free->∃o,s.heap.get? a=some o
 fz: ∀a o,g a= .fz o->s.heap.get? a=some o
 kp: ∀a o,g a= .kp o->s.heap.get? a=some o
 ag: ∀a o,g a= .aig o->s.heap.get? a=some o
 base: ∀a o,G.B.get? a=some o->g a= .fz o
 objs: ∀a o,H a=some o->en G.prog G.w G.C g s.heap a o
 all: ∀a,Lv g a->∃o,H a=some o
 gN: ∀b a k,g b= .jM a k->∃o,H a=some o
 one: ∀b b' a k,g b= .jM a k->g b'= .jM a k->b=b'
 tab:g G.P= .tab
 tabs: ∃ps,s.heap.get? G.P=some (tabObj ps)/\tW g ps
 gens:s.gens= #[]
 os:s.os=G.os
structure Ex (g g':Gm):Prop where
 ex: ∀a,g a≠ .free->g' a=g a
theorem Ex.refl (g:Gm):Ex g g:=⟨λ x x=>rfl⟩
theorem Ex.trans {g g' Rg:Gm} (x:Ex g g') (y:Ex g' Rg):Ex g Rg:=⟨λ a n=>(y.ex a ((x.ex a n).symm▸n)).trans (x.ex a n)⟩
theorem Ex.to {g g':Gm} {a:Addr} {t:Tg} (x:Ex g g') (e:g a=t) (h:(t.idx == 0)=false):g' a=t:=(x.ex a (busy e h)).trans e
theorem Ex.le {g g':Gm} (x:Ex g g'):Le g g':=⟨λ y y e=>x.to e rfl,λ y y y e=>x.to e rfl,λ y e=>x.to e rfl,λ y y e=>x.to e rfl⟩
theorem Ex.set {g:Gm} {a:Addr} {t:Tg} (h:g a= .free):Ex g (setG g a t):=⟨λ b n=>aG g t λ e=>n (e▸h)⟩
section
variable {G:Pg} {g:Gm} {H:Hp} {s:Shared}
theorem Wd.fresh (W:Wd G g H s) {a:Addr} (h:s.heap.get? a=none):g a= .free:=
 Decidable.byContradiction (dec:=Classical.propDecidable _) λ n=>(W.live a n).elim λ o e=>Option.some_ne_none o (e.symm.trans h)
theorem rP (h:Heap):h.get? h.objs.size=none:=by
 cases e:h.get? h.objs.size with
 | none=>rfl
 | some o=>exact absurd (Heap.lt_size e) (Nat.lt_irrefl _)
theorem Wd.A5 (W:Wd G g H s) {a:Addr} (h:g a= .free):H a=none:=by
 cases e:H a with
 | none=>rfl
 | some o=>
  have:=W.objs a o e
  cases o with
  | list xs=>exact absurd h (busy this.1 rfl)
  | dict xs=>exact absurd h (busy this.1 rfl)
  | aig N I U T=>obtain ⟨_,_,_,_,⟨_,_,_,_,_,_,p⟩⟩:=this; exact absurd h (busy p rfl)
theorem Wd.keep (W:Wd G g H s) {s':Shared} (k: ∀a o,g a≠ .free->s.heap.get? a=some o->s'.heap.get? a=some o) (hg:s'.gens=s.gens) (ho:s'.os=s.os):Wd G g H s' where
 live a n:=(W.live a n).elim λ o e=>⟨o,k a o n e⟩
 fz a o e:=k a o (busy e rfl) (W.fz a o e)
 kp a o e:=k a o (busy e rfl) (W.kp a o e)
 ag a o e:=k a o (busy e rfl) (W.ag a o e)
 base:=W.base
 all:=W.all
 gN:=W.gN
 objs a o e:=(W.objs a o e).heap λ b ob c q=>k b ob (c.elim (λ c=>busy c.2 rfl) λ c=>c.elim (λ ⟨_,c⟩=>busy c rfl) λ ⟨_,c⟩=>busy c rfl) q
 one:=W.one
 tab:=W.tab
 tabs:=W.tabs.elim λ ps r=>⟨ps,k _ _ (busy W.tab rfl) r.1,r.2⟩
 gens:=hg.trans W.gens
 os:=ho.trans W.os
theorem xS {g:Gm} {a:Addr} {t:Tg} {P:Addr->Prop} (hl:P a) (k: ∀b,g b≠ .free->P b) (b:Addr) (n:setG g a t b≠ .free):P b:=by
 by_cases e:b=a
 ·exact e▸hl
 ·rw [aG g t e] at n; exact k b n
theorem Wd.tag (W:Wd G g H s) {a:Addr} {t:Tg} (hf:g a= .free) (hl: ∃o,s.heap.get? a=some o) (h1: ∀o,t= .fz o\/t= .kp o->s.heap.get? a=some o) (h2:(∀b k,t≠ .jM b k)/\t≠ .mut/\∀o,t≠ .aig o):Wd G (setG g a t) H s where
 live:=xS hl W.live
 fz b o e:=by
  by_cases q:b=a
  ·subst q; exact h1 o (.inl ((aD g b t).symm.trans e))
  ·exact W.fz b o ((aG g t q).symm.trans e)
 kp b o e:=by
  by_cases q:b=a
  ·subst q; exact h1 o (.inr ((aD g b t).symm.trans e))
  ·exact W.kp b o ((aG g t q).symm.trans e)
 ag b o e:=W.ag b o (bZ e (h2.2.2 o))
 all b h:=W.all b (h.imp (bZ · h2.2.1) λ h=>h.imp λ o e=>bZ e (h2.2.2 o))
 gN b c k e:=W.gN b c k (bZ e (h2.1 c k))
 base b o e:=(Ex.set hf).to (W.base b o e) rfl
 objs b o e:=(W.objs b o e).le (Ex.set hf).le λ m=>(Ex.set hf).to m rfl
 one b b' c k p q:=W.one b b' c k (bZ p (h2.1 c k)) (bZ q (h2.1 c k))
 tab:=(Ex.set hf).to W.tab rfl
 tabs:=W.tabs.elim λ ps r=>⟨ps,r.1,r.2.le (Ex.set hf).le⟩
 gens:=W.gens
 os:=W.os
theorem j8 {H:Hp} {a b:Nat} {o:O} (h:b≠a->∃o,H b=some o): ∃o',upd H a o b=some o':=by
 by_cases q:b=a
 ·exact ⟨o,if_pos q⟩
 ·exact (h q).imp λ x e=>(if_neg q).trans e
theorem Wd.new (W:Wd G g H s) {a:Addr} {o:O} (hf:g a= .free) (hl: ∃ob,s.heap.get? a=some ob) (ho:en G.prog G.w G.C (setG g a .mut) s.heap a o):Wd G (setG g a .mut) (upd H a o) s where
 live:=xS hl W.live
 fz b o e:=W.fz b o (bZ e (oM rfl))
 kp b o e:=W.kp b o (bZ e (oM rfl))
 ag b o e:=W.ag b o (bZ e (oM rfl))
 base b o e:=(Ex.set hf).to (W.base b o e) rfl
 objs b o' e:=by
  by_cases q:b=a
  ·subst q; obtain rfl:=Option.some.inj ((if_pos rfl).symm.trans e); exact ho
  ·exact (W.objs b o' ((if_neg q).symm.trans e)).le (Ex.set hf).le λ m=>(Ex.set hf).to m rfl
 all b h:=j8 λ q=>W.all b (h.imp ((aG g _ q).symm.trans ·) λ h=>h.imp λ o e=>(aG g _ q).symm.trans e)
 gN b c k e:=j8 λ x=>W.gN b c k (bZ e (oM rfl))
 one b b' c k p q:=W.one b b' c k (bZ p (oM rfl)) (bZ q (oM rfl))
 tab:=(Ex.set hf).to W.tab rfl
 tabs:=W.tabs.elim λ ps r=>⟨ps,r.1,r.2.le (Ex.set hf).le⟩
 gens:=W.gens
 os:=W.os
end
end
section
open PySem PySem.W PyProof.Rows
structure Cx where
 names:List (Str×NameKind)
 vis:List (Option Str)
 mine:List Str
 z:List Nat
 code:Value
 qual:Str
noncomputable abbrev Cx.at (cx:Cx) (i:Nat) (x:Str):Prop:=cx.vis[i]?=some (some x)
structure aP (cx:Cx):Prop where
 one: ∀(i j:Nat) (x:Str),cx.at i x->cx.at j x->i=j
 dbg: ∀(i:Nat) (x:Str),cx.at i x->(x == ("__debug__" :Str))=false/\(x == ("__classdict__" :Str))=false
 z: ∀(i:Nat) (x:Str),cx.at i x->i∉cx.z
noncomputable def Look (g:Gm) (env:Env) (h:Heap) (x:Str) (v:Value):Prop:=
 (env.kindOf x=some .local/\∃m,h.Ns env.locals m/\m x=some v)\/
 ((env.kindOf x=some .cell\/env.kindOf x=some .free)/\∃c,env.cells.lookup x=some c/\(g c= .own\/∃o,g c= .kp o)/\h.IsCell c (some v))
structure Fm (G:Pg) (cx:Cx) (g:Gm) (env:Env) (h:Heap) (l:List (Option V)):Prop where
 kind:env.scope.kind= .function
 names:env.scope.names=cx.names
 globals:env.globals=mainGlobals
 blt:env.builtins=builtinsNs
 code:env.code=cx.code
 qual:env.qual=cx.qual
 above:G.B.objs.size<=env.locals
 loc:g env.locals= .own
 ns: ∃m,h.Ns env.locals m
 look: ∀(i:Nat) (x:Str) (v:V),cx.at i x->df l i=some (some v)->∃val,Look g env h x val/\Val g v val
 mine: ∀x∈cx.mine,env.kindOf x=some .local\/(env.kindOf x=some .cell/\∃c v,env.cells.lookup x=some c/\g c= .own/\h.IsCell c v)
 apart: ∀(x y:Str) (c:Addr),env.cells.lookup x=some c->env.cells.lookup y=some c->x=y
noncomputable def Ag (z:List Nat) (l l':List (Option V)):Prop:=l'.length=l.length/\∀j,j∉z->df l' j=df l j
theorem Ag.refl (z:List Nat) (l:List (Option V)):Ag z l l:=⟨rfl,λ x x=>rfl⟩
theorem Ag.trans {z:List Nat} {l l' l'':List (Option V)} (x:Ag z l l') (y:Ag z l' l''):Ag z l l'':=⟨y.1.trans x.1,λ j h=>(y.2 j h).trans (x.2 j h)⟩
structure At (G:Pg) (cx:Cx) (g:Gm) (env:Env) (σ:St) (s:Shared):Prop where
 wd:Wd G g σ.H s
 fm:Fm G cx g env s.heap σ.loc
structure cJ (A:Around) (n:Nat):Prop where
 h:A.handled=none
 d:A.depth+n < 900
 u:A.units+3*n < 9000
section
variable {G:Pg} {cx:Cx} {g g':Gm} {env:Env} {h h':Heap} {l:List (Option V)} {σ:St} {s s':Shared}
theorem Look.heap {x:Str} {v:Value} (k:Look g env h x v) (hl:g env.locals= .own) (e: ∀a o,(g a= .own\/∃o',g a= .kp o')->h.get? a=some o->h'.get? a=some o):Look g env h' x v:=by
 rcases k with ⟨a,m,⟨o,es,ep,p,r⟩,q⟩ | ⟨a,c,b,d,⟨o,p,q⟩⟩
 ·exact .inl ⟨a,m,⟨o,es,ep,e _ _ (.inl hl) p,r⟩,q⟩
 ·exact .inr ⟨a,c,b,d,⟨o,e _ _ d p,q⟩⟩
theorem Look.ex {x:Str} {v:Value} (k:Look g env h x v) (e:Ex g g'):Look g' env h x v:=
 k.imp id λ ⟨a,c,b,d,q⟩=>⟨a,c,b,d.imp (e.to · rfl) λ d=>d.imp λ y d=>e.to d rfl,q⟩
theorem Fm.heap (F:Fm G cx g env h l) (e: ∀a o,(g a= .own\/∃o',g a= .kp o')->h.get? a=some o->h'.get? a=some o):Fm G cx g env h' l where
 kind:=F.kind
 names:=F.names
 globals:=F.globals
 blt:=F.blt
 code:=F.code
 qual:=F.qual
 above:=F.above
 loc:=F.loc
 ns:=F.ns.imp λ _ ⟨o,es,ep,p,r⟩=>⟨o,es,ep,e _ _ (.inl F.loc) p,r⟩
 look i x v a b:=(F.look i x v a b).imp λ y k=>⟨k.1.heap F.loc e,k.2⟩
 mine x hx:=(F.mine x hx).imp id λ k=>⟨k.1,k.2.imp λ y k=>k.imp λ y k=>⟨k.1,k.2.1,k.2.2.imp λ y r=>⟨e _ _ (.inl k.2.1) r.1,r.2⟩⟩⟩
 apart:=F.apart
theorem Fm.ex (F:Fm G cx g env h l) (e:Ex g g'):Fm G cx g' env h l where
 kind:=F.kind
 names:=F.names
 globals:=F.globals
 blt:=F.blt
 code:=F.code
 qual:=F.qual
 above:=F.above
 loc:=e.to F.loc rfl
 ns:=F.ns
 look i x v a b:=(F.look i x v a b).imp λ y k=>⟨k.1.ex e,k.2.le e.le⟩
 mine x hx:=(F.mine x hx).imp id λ k=>⟨k.1,k.2.imp λ y k=>k.imp λ y k=>⟨k.1,e.to k.2.1 rfl,k.2.2⟩⟩
 apart:=F.apart
theorem Fm.fr (F:Fm G cx g env s.heap l) (W:Wd G g σ.H s): ∃m,Fr G.B env.locals s.heap m:=
 F.ns.imp λ x n=>⟨n,λ b o e=>W.fz b o (W.base b o e),F.above⟩
theorem At.keep (a:At G cx g env σ s) (k: ∀b o,g b≠ .free->s.heap.get? b=some o->s'.heap.get? b=some o) (hg:s'.gens=s.gens) (ho:s'.os=s.os):At G cx g env σ s':=
 ⟨a.wd.keep k hg ho,a.fm.heap λ b o e=>k b o (e.elim (busy · rfl) λ e=>e.elim λ x e=>busy e rfl)⟩
theorem At.toks (a:At G cx g env σ s) (t:Nat):At G cx g env σ {s with toks:=t}:=a.keep (λ x x x e=>e) rfl rfl
theorem At.same (a:At G cx g env σ s) {h':Heap} {t:Nat} (k: ∀b o,g b≠ .free->s.heap.get? b=some o->h'.get? b=some o):At G cx g env σ {s with heap:=h',toks:=t}:=a.keep k rfl rfl
theorem At.ext (a:At G cx g env σ s) {h':Heap} {t:Nat} (k: ∀b o,s.heap.get? b=some o->h'.get? b=some o):At G cx g env σ {s with heap:=h',toks:=t}:=a.keep (λ b o x e=>k b o e) rfl rfl
theorem At.push (a:At G cx g env σ s) (o:Obj):At G cx g env σ {s with heap:=s.heap.push o}:=a.keep (λ b o' x e=>Heap.get?_push_of_some o e) rfl rfl
theorem At.tag (a:At G cx g env σ s) {b:Addr} {t:Tg} (hf:g b= .free) (hl: ∃o,s.heap.get? b=some o) (h1: ∀o,t= .fz o\/t= .kp o->s.heap.get? b=some o) (h2:(∀c k,t≠ .jM c k)/\t≠ .mut/\∀o,t≠ .aig o):At G cx (setG g b t) env σ s:=
 ⟨a.wd.tag hf hl h1 h2,a.fm.ex (Ex.set hf)⟩
theorem At.frz (a:At G cx g env σ s) {b:Addr} {o:Obj} (hf:g b= .free) (hl:s.heap.get? b=some o):At G cx (setG g b (.fz o)) env σ s:=
 a.tag hf ⟨o,hl⟩ (λ o' e=>e.elim (λ e=>Tg.fz.inj e▸hl) λ e=>absurd e (oM rfl)) ⟨λ x x=>oM rfl,oM rfl,λ x=>oM rfl⟩
theorem At.free (a:At G cx g env σ s):g s.heap.objs.size= .free:=a.wd.fresh (rP _)
theorem At.new (a:At G cx g env σ s) {b:Addr} {o:O} (hf:g b= .free) (hl: ∃ob,s.heap.get? b=some ob) (ho:en G.prog G.w G.C (setG g b .mut) s.heap b o):At G cx (setG g b .mut) env ⟨σ.loc,upd σ.H b o⟩ s:=
 ⟨a.wd.new hf hl ho,a.fm.ex (Ex.set hf)⟩
end
inductive aE (G:Pg) (cx:Cx) (g:Gm) (env:Env) (l:List (Option V)) (Q:PV) (v:Value) (s':Shared):Prop where
 | mk (g':Gm) (σ':St) (x:V) (e:Ex g g') (a:At G cx g' env σ' s') (ag:Ag cx.z l σ'.loc) (vl:Val g' x v) (q:Q x σ')
inductive tT (G:Pg) (cx:Cx) (g:Gm) (env:Env) (l:List (Option V)) (Q:List V->St->Prop) (v:List Value) (s':Shared):Prop where
 | mk (g':Gm) (σ':St) (x:List V) (e:Ex g g') (a:At G cx g' env σ' s') (ag:Ag cx.z l σ'.loc) (vl:Vals g' x v) (q:Q x σ')
inductive gH (G:Pg) (cx:Cx) (g:Gm) (env:Env) (l:List (Option V)) (Q:PB) (b:Bool) (s':Shared):Prop where
 | mk (g':Gm) (σ':St) (e:Ex g g') (a:At G cx g' env σ' s') (ag:Ag cx.z l σ'.loc) (q:Q b σ')
inductive N4 (g:Gm):Fl->Flow->Prop where
 | next:N4 g .next .next
 | brk:N4 g .brk .brk
 | cont:N4 g .cont .cont
 | ret {x:V} {v:Value}:Val g x v->N4 g (.ret x) (.ret v)
noncomputable def Zd (g:Gm) (f:Flow):Fl->Prop
 | .next=>f= .next
 | .brk=>f= .brk
 | .cont=>f= .cont
 | .ret x=> ∃v,f= .ret v/\Val g x v
theorem N4.inv {g:Gm} {F:Fl} {f:Flow} (h:N4 g F f):Zd g f F:=h.casesOn rfl rfl rfl λ v=>⟨_,rfl,v⟩
inductive gJ (G:Pg) (cx:Cx) (g:Gm) (env:Env) (Q:PF) (f:Flow) (s':Shared):Prop where
 | mk (g':Gm) (σ':St) (F:Fl) (e:Ex g g') (a:At G cx g' env σ' s') (vl:N4 g' F f) (q:Q F σ')
noncomputable def cn:Value->Shared->Prop:=λ x x=>False
section
variable {G:Pg} {cx:Cx} {g g':Gm} {env:Env} {l l':List (Option V)}
theorem aE.up {Q:PV} {v:Value} {s:Shared} (e:Ex g g') (a:Ag cx.z l l') (p:aE G cx g' env l' Q v s):aE G cx g env l Q v s:=
 p.rec λ g₂ σ x e' A ag r q=>⟨g₂,σ,x,e.trans e',A,a.trans ag,r,q⟩
theorem tT.up {Q:List V->St->Prop} {v:List Value} {s:Shared} (e:Ex g g') (a:Ag cx.z l l') (p:tT G cx g' env l' Q v s):tT G cx g env l Q v s:=
 p.rec λ g₂ σ x e' A ag r q=>⟨g₂,σ,x,e.trans e',A,a.trans ag,r,q⟩
theorem gH.up {Q:PB} {b:Bool} {s:Shared} (e:Ex g g') (a:Ag cx.z l l') (p:gH G cx g' env l' Q b s):gH G cx g env l Q b s:=
 p.rec λ g₂ σ e' A ag r=>⟨g₂,σ,e.trans e',A,a.trans ag,r⟩
theorem gJ.up {Q:PF} {f:Flow} {s:Shared} (e:Ex g g') (p:gJ G cx g' env Q f s):gJ G cx g env Q f s:=
 p.rec λ g₂ σ x e' A r q=>⟨g₂,σ,x,e.trans e',A,r,q⟩
theorem aE.now {Q:PV} {v:Value} {x:V} {σ:St} {s:Shared} (A:At G cx g env σ s) (a:Val g x v) (q:Q x σ):aE G cx g env σ.loc Q v s:=⟨g,σ,x, .refl g,A, .refl _ _,a,q⟩
theorem gJ.now {Q:PF} {f:Flow} {F:Fl} {σ:St} {s:Shared} (A:At G cx g env σ s) (a:N4 g F f) (q:Q F σ):gJ G cx g env Q f s:=⟨g,σ,F, .refl g,A,a,q⟩
theorem bR {M:Model} {A:Around} {m:Sem Value} {Q1:PV} {K:Value->Shared->Prop} {s:Shared}
  (h:wpAny M A m (aE G cx g env l Q1) cn s)
  (k: ∀v s' g' σ' x,Ex g g'->At G cx g' env σ' s'->Ag cx.z l σ'.loc->Val g' x v->Q1 x σ'->K v s'):wpAny M A m K cn s:=
 wpAny_mono h (λ v s' p=>p.rec (k v s')) λ y y e=>e
theorem qN {M:Model} {A:Around} {m:Sem Bool} {Q1:PB} {K:Bool->Shared->Prop} {s:Shared}
  (h:wpAny M A m (gH G cx g env l Q1) cn s)
  (k: ∀v s' g' σ',Ex g g'->At G cx g' env σ' s'->Ag cx.z l σ'.loc->Q1 v σ'->K v s'):wpAny M A m K cn s:=
 wpAny_mono h (λ v s' p=>p.rec (k v s')) λ x x e=>e
theorem sv {M:Model} {A:Around} {m:Sem (List Value)} {Q1:List V->St->Prop} {K:List Value->Shared->Prop} {s:Shared}
  (h:wpAny M A m (tT G cx g env l Q1) cn s)
  (k: ∀v s' g' σ' x,Ex g g'->At G cx g' env σ' s'->Ag cx.z l σ'.loc->Vals g' x v->Q1 x σ'->K v s'):wpAny M A m K cn s:=
 wpAny_mono h (λ v s' p=>p.rec (k v s')) λ y y e=>e
theorem xW {M:Model} {A:Around} {m:Sem Flow} {Q1:PF} {K:Flow->Shared->Prop} {s:Shared}
  (h:wpAny M A m (gJ G cx g env Q1) cn s)
  (k: ∀v s' g' σ' x,Ex g g'->At G cx g' env σ' s'->N4 g' x v->Q1 x σ'->K v s'):wpAny M A m K cn s:=
 wpAny_mono h (λ v s' p=>p.rec (k v s')) λ y y e=>e
theorem up1 {M:Model} {A:Around} {m:Sem Value} {Q:PV} {s:Shared} (e:Ex g g') (a:Ag cx.z l l') (h:wpAny M A m (aE G cx g' env l' Q) cn s):wpAny M A m (aE G cx g env l Q) cn s:=
 wpAny_mono h (λ x x p=>p.up e a) λ x x e=>e
theorem YV {M:Model} {A:Around} {m:Sem Bool} {Q:PB} {s:Shared} (e:Ex g g') (a:Ag cx.z l l') (h:wpAny M A m (gH G cx g' env l' Q) cn s):wpAny M A m (gH G cx g env l Q) cn s:=
 wpAny_mono h (λ x x p=>p.up e a) λ x x e=>e
theorem upL {M:Model} {A:Around} {m:Sem (List Value)} {Q:List V->St->Prop} {s:Shared} (e:Ex g g') (a:Ag cx.z l l') (h:wpAny M A m (tT G cx g' env l' Q) cn s):wpAny M A m (tT G cx g env l Q) cn s:=
 wpAny_mono h (λ x x p=>p.up e a) λ x x e=>e
theorem upS {M:Model} {A:Around} {m:Sem Flow} {Q:PF} {s:Shared} (e:Ex g g') (h:wpAny M A m (gJ G cx g' env Q) cn s):wpAny M A m (gJ G cx g env Q) cn s:=
 wpAny_mono h (λ x x p=>p.up e) λ x x e=>e
end
noncomputable def SE (G:Pg) (n:Nat) (C:CT) (cx:Cx) (e:E) (x:PySem.Expr):Prop:=
 ∀(A:Around) (env:Env) (g:Gm) (σ:St) (s:Shared) (Q:PV),cJ A n->At G cx g env σ s->Mine.W C e Q σ->wpAny (model G.prog G.w) A (eval x env) (aE G cx g env σ.loc Q) cn s
noncomputable def E6 (G:Pg) (n:Nat) (C:CT) (cx:Cx) (es:List E) (xs:List PySem.Expr):Prop:=
 ∀(A:Around) (env:Env) (g:Gm) (σ:St) (s:Shared) (pos:Pos) (Q:List V->St->Prop),cJ A n->At G cx g env σ s->Mine.Ws C es Q σ->wpAny (model G.prog G.w) A (spliced (backTo pos (starEach xs env))) (tT G cx g env σ.loc (λ y σ'=>y.length=xs.length/\Q y σ')) cn s
noncomputable def ST (G:Pg) (n:Nat) (C:CT) (cx:Cx) (b:B) (x:PySem.Expr):Prop:=
 ∀(A:Around) (env:Env) (g:Gm) (σ:St) (s:Shared) (Q:PB),cJ A n->At G cx g env σ s->Mine.T C b Q σ->wpAny (model G.prog G.w) A (isTrue x env (eval x env)) (gH G cx g env σ.loc Q) cn s
noncomputable def SS (G:Pg) (n:Nat) (C:CT) (cx:Cx) (t:S) (x:PySem.Stmt):Prop:=
 ∀(A:Around) (env:Env) (g:Gm) (σ:St) (s:Shared) (Q:PF),cJ A n->At G cx g env σ s->Mine.X C t Q σ->wpAny (model G.prog G.w) A (exec x env) (gJ G cx g env Q) cn s
noncomputable def c6 (G:Pg) (n:Nat) (C:CT) (cx:Cx) (t:List S) (x:List PySem.Stmt):Prop:=
 ∀(A:Around) (env:Env) (g:Gm) (σ:St) (s:Shared) (Q:PF),cJ A n->At G cx g env σ s->Mine.Xs C t Q σ->wpAny (model G.prog G.w) A (execs x env) (gJ G cx g env Q) cn s
end
section
open PySem PySem.W PyProof.Rows
noncomputable def wN:Op->Operator
 | .add=> .Add | .sub=> .Sub | .mul=> .Mult | .fdiv=> .FloorDiv | .mod=> .Mod | .pow=> .Pow | .shl=> .LShift | .shr=> .RShift | .band=> .BitAnd | .bor=> .BitOr | .bxor=> .BitXor
noncomputable def uc:GJ->CmpOp
 | .lt=> .Lt | .le=> .LtE | .gt=> .Gt | .ge=> .GtE | .eq=> .Eq | .ne=> .NotEq | .is=> .Is | .dm=> .IsNot | .sa=> .In | .BV=> .NotIn
theorem mulOk_of {i j:Int} (h:Gb i j):IntMulOk i j:=by
 rcases h with h | h
 ·exact .of_left (intBits_le_64 (by lia) (by lia))
 ·exact .of_right (intBits_le_64 (by lia) (by lia))
section
variable {G:Pg} {cx:Cx} {g:Gm} {env:Env} {σ:St} {s:Shared} {n:Nat} {A:Around} {Q:PV}
theorem Oj {op:Op} {i j:Int} {t u:Tok} (a:At G cx g env σ s) (h:cw op (.int i) (.int j) Q σ):
  wpAny (model G.prog G.w) A (binaryOp (wN op) (.int i t) (.int j u)) (aE G cx g env σ.loc Q) cn s:=by
 cases op with
 | add=>exact add_int (aE.now (a.toks _) (.int _ _) h)
 | sub=>exact PyProof.Rows.sub_int (aE.now (a.toks _) (.int _ _) h)
 | mul=>exact PyProof.Rows.mul_int (aE.now (a.toks _) (.int _ _) h.2) (mulOk_of h.1)
 | fdiv=>exact PyProof.Rows.floordiv_int h.1.1 (aE.now (a.toks _) (.int _ _) h.2) (.inl (PyProof.noPylong_small h.1.2))
 | mod=>exact PyProof.Rows.mod_int h.1 (aE.now (a.toks _) (.int _ _) h.2)
 | pow=>exact PyProof.Rows.pow_int_small h.1.1 h.1.2.1 h.1.2.2 (aE.now (a.toks _) (.int _ _) h.2)
 | shl=>exact PyProof.Rows.lshift_int_small h.1.1 h.1.2.1 h.1.2.2 (aE.now (a.toks _) (.int _ _) h.2)
 | shr=>exact PyProof.Rows.rshift_int (tO h).1 (aE.now (a.toks _) (.int _ _) (tO h).2)
 | band=>exact PyProof.Rows.and_int (aE.now (a.toks _) (.int _ _) (Fi h))
 | bor=>exact PyProof.Rows.or_int (aE.now (a.toks _) (.int _ _) (MA h))
 | bxor=>exact PyProof.Rows.xor_int (aE.now (a.toks _) (.int _ _) (GH h))
theorem Pr {op:Op} {i j:Int} {t u:Tok} (a:At G cx g env σ s) (h:cw op (.int i) (.int j) Q σ):
  wpAny (model G.prog G.w) A (inplaceOp (wN op) (.int i t) (.int j u)) (aE G cx g env σ.loc Q) cn s:=by
 cases op with
 | add=>exact PyProof.Rows.iadd_int (aE.now (a.toks _) (.int _ _) h)
 | sub=>exact PyProof.Rows.isub_int (aE.now (a.toks _) (.int _ _) h)
 | mul=>exact PyProof.Rows.imul_int (aE.now (a.toks _) (.int _ _) h.2) (mulOk_of h.1)
 | fdiv=>exact PyProof.Rows.ifloordiv_int h.1.1 (aE.now (a.toks _) (.int _ _) h.2) (.inl (PyProof.noPylong_small h.1.2))
 | mod=>exact PyProof.Rows.imod_int h.1 (aE.now (a.toks _) (.int _ _) h.2)
 | pow=>exact PyProof.Rows.ipow_int_small h.1.1 h.1.2.1 h.1.2.2 (aE.now (a.toks _) (.int _ _) h.2)
 | shl=>exact PyProof.Rows.ilshift_int_small h.1.1 h.1.2.1 h.1.2.2 (aE.now (a.toks _) (.int _ _) h.2)
 | shr=>exact PyProof.Rows.irshift_int (tO h).1 (aE.now (a.toks _) (.int _ _) (tO h).2)
 | band=>exact PyProof.Rows.iand_int (aE.now (a.toks _) (.int _ _) (Fi h))
 | bor=>exact PyProof.Rows.ior_int (aE.now (a.toks _) (.int _ _) (MA h))
 | bxor=>exact PyProof.Rows.ixor_int (aE.now (a.toks _) (.int _ _) (GH h))
theorem YQ {cx:Cx} (a:At G cx g env σ s):env.scope.kind= .function:=a.fm.kind
inductive Zi (l:Option (Option V)) (Q:PV) (σ:St):Prop where
 | mk (v:V) (e:l=some (some v)) (q:Q v σ)
theorem QI {l:Option (Option V)} (h:I5 l Q σ):Zi l Q σ:=by
 cases l with
 | none=>exact h.elim
 | some o=>
  cases o with
  | none=>exact h.elim
  | some v=>exact ⟨v,rfl,h⟩
theorem F1 {i:Nat} {x:Str} (ok:aP cx) (hx:cx.at i x) (a:At G cx g env σ s) (h:I5 (df σ.loc i) Q σ):
  wpAny (model G.prog G.w) A (loadName env x) (aE G cx g env σ.loc Q) cn s:=by
 obtain ⟨v,e,h⟩:=QI h
 obtain ⟨val,k,vl⟩:=a.fm.look i x v hx e
 rcases k with ⟨k1,m,hm,hv⟩ | ⟨k1,c,hc,_,hv⟩
 ·exact wpAny_loadName_local a.fm.kind k1 hm hv (aE.now a vl h)
 ·rcases k1 with k1 | k1
  ·exact wpAny_loadName_cell a.fm.kind k1 hc hv (aE.now a vl h)
  ·exact wpAny_loadName_free a.fm.kind k1 hc hv (aE.now a vl h) (ok.dbg i x hx).2
theorem PD {i:Nat} {x:Str} {pos:Pos} (ok:aP cx) (hx:cx.at i x) (a:At G cx g env σ s) (h:I5 (df σ.loc i) Q σ):
  wpAny (model G.prog G.w) A (eval (.Name x pos) env) (aE G cx g env σ.loc Q) cn s:=wpAny_Name (F1 ok hx a h) (ok.dbg i x hx).1
end
theorem Ns.det {h:Heap} {a:Addr} {m m':Str->Option Value} (x:h.Ns a m) (y:h.Ns a m') (n:Str):m n=m' n:=by
 obtain ⟨o,es,ep,ho,hd,_,hm⟩:=x
 obtain ⟨o',hY,ep',KD,vL,_,FC⟩:=y
 obtain rfl:=Option.some.inj (ho.symm.trans KD)
 rw [hd] at vL; cases vL
 rw [<- hm,<- FC]
theorem Ns.zA {h:Heap} {a c:Addr} {m:Str->Option Value} {v:Option Value} (x:h.Ns a m) (y:h.IsCell c v):c≠a:=by
 rintro rfl
 obtain ⟨o,es,ep,ho,hd,_⟩:=x
 obtain ⟨o',KD,vL⟩:=y
 obtain rfl:=Option.some.inj (ho.symm.trans KD)
 rw [hd] at vL; cases vL
theorem isEmpty_eq {xs:List V} {its:Array Value} (e:xs.length=its.size):xs.isEmpty=its.isEmpty:=by
 cases xs with
 | nil=>simp only [List.length_nil] at e; simp [Array.isEmpty,<- e]
 | cons y ys=>
  have h:its.size≠0:=by simp only [List.length_cons] at e; lia
  simp [Array.isEmpty,h]
theorem qB {α:Type} {l:List α} {i:Nat} {x y:α} (e:df (put l i x) i=some y):y=x:=by
 induction l generalizing i with
 | nil=>exact absurd e.symm (Option.some_ne_none _)
 | cons a l ih=>
  cases i with
  | zero=>exact (Option.some.inj e).symm
  | succ i=>exact ih e
theorem pH {α:Type} {l:List α} {i j:Nat} {x:α} (h:j≠i):df (put l i x) j=df l j:=by
 induction l generalizing i j with
 | nil=>rfl
 | cons a l ih=>
  cases i with
  | zero=>
   cases j with
   | zero=>exact absurd rfl h
   | succ j=>rfl
  | succ i=>
   cases j with
   | zero=>rfl
   | succ j=>exact ih λ e=>h (congrArg (· +1) e)
theorem cY {g:Gm} {a b:Addr} {t u:Tg} (hb:g b=t) (e:g a=u) (n:(t.idx == u.idx)=false):a≠b:=λ q=>oM n (hb.symm.trans (q▸e))
section
variable {G:Pg} {cx:Cx} {g:Gm} {env:Env} {σ:St} {s:Shared} {n:Nat} {A:Around} {Q:PV}
theorem Wd.SD {H:Hp} (W:Wd G g H s) {h':Heap} {t:Nat} {c:Addr} (hc:g c= .own) (hl: ∃o,h'.get? c=some o) (hs:Heap.SameBut c s.heap h'):Wd G g H {s with heap:=h',toks:=t} where
 live b n:=by
  by_cases q:b=c
  ·exact q▸hl
  ·obtain ⟨o,ho⟩:=W.live b n; exact ⟨o,(hs.2 b q).trans ho⟩
 fz b o e:=(hs.2 b (cY hc e rfl)).trans (W.fz b o e)
 kp b o e:=(hs.2 b (cY hc e rfl)).trans (W.kp b o e)
 ag b o e:=(hs.2 b (cY hc e rfl)).trans (W.ag b o e)
 base:=W.base
 all:=W.all
 gN:=W.gN
 objs b o e:=(W.objs b o e).heap λ d ob q r=>(hs.2 d (q.elim (λ q=>cY hc q.2 rfl) λ q=>q.elim (λ q=>q.elim λ x q=>cY hc q rfl) λ q=>q.elim λ x q=>cY hc q rfl)).trans r
 one:=W.one
 tab:=W.tab
 tabs:=W.tabs.imp λ x r=>⟨(hs.2 _ (cY hc W.tab rfl)).trans r.1,r.2⟩
 gens:=W.gens
 os:=W.os
theorem Fm.st {i:Nat} {x:Str} {v:V} {val:Value} {h h':Heap} {l:List (Option V)} (F:Fm G cx g env h l) (ok:aP cx) (hx:cx.at i x) (vl:Val g v val) (ns: ∃m,h'.Ns env.locals m) (here:Look g env h' x val)
  (other: ∀y w,y≠x->Look g env h y w->Look g env h' y w) (mine: ∀y∈cx.mine,env.kindOf y=some .local\/(env.kindOf y=some .cell/\∃c v,env.cells.lookup y=some c/\g c= .own/\h'.IsCell c v)):Fm G cx g env h' (put l i (some v)):=by
 refine {F with ns:=ns,look:=λ j y u hj e=>?_,mine:=mine}
 by_cases q:j=i
 ·subst q
  obtain rfl:=Option.some.inj (Option.some.inj (hj.symm.trans hx))
  obtain rfl:=Option.some.inj (qB e)
  exact ⟨val,here,vl⟩
 ·exact (F.look j y u hj ((pH q).symm.trans e)).imp λ w k=>⟨other y w (λ z=>q (ok.one j i x (z▸hj) hx)) k.1,k.2⟩
theorem fK {R:Unit->Shared->Prop} {i:Nat} {x:Str} {v:V} {val:Value} (ok:aP cx) (hx:cx.at i x) (hm:x∈cx.mine) (a:At G cx g env σ s) (vl:Val g v val)
  (k: ∀s',At G cx g env ⟨put σ.loc i (some v),σ.H⟩ s'->R () s'):
  wpAny (model G.prog G.w) A (storeName env x val) R cn s:=by
 obtain ⟨m,hn⟩:=a.fm.ns
 rcases a.fm.mine x hm with kl | ⟨kc,c,v₀,hc,hg,hv⟩
 ·refine wpAny_storeName_local kl hn (λ h' C5 hs=>k _ ⟨a.wd.SD a.fm.loc (C5.elim λ o r=>r.elim λ j r=>r.elim λ j r=>⟨o,r.1⟩) hs,?_⟩) (by rw [a.fm.kind]; rfl)
  refine a.fm.st ok hx vl ⟨_,C5⟩ (.inl ⟨kl,_,C5,if_pos rfl⟩) (λ y w hyx lk=>?_) λ y hy=>(a.fm.mine y hy).imp id λ z=>⟨z.1,z.2.imp λ c z=>z.imp λ v z=>⟨z.1,z.2.1,z.2.2.sameBut hs (Ns.zA hn z.2.2)⟩⟩
  rcases lk with ⟨l1,m1,h1,h2⟩ | ⟨l1,c,h1,h2,h3⟩
  ·exact .inl ⟨l1,_,C5,(if_neg hyx).trans ((Ns.det hn h1 y).trans h2)⟩
  ·exact .inr ⟨l1,c,h1,h2,h3.sameBut hs (Ns.zA hn h3)⟩
 ·refine wpAny_storeName_cell a.fm.kind kc hc hv λ h' WR hs=>k _ ⟨a.wd.SD hg (WR.imp λ j r=>r.1) hs,?_⟩
  have eS:env.locals≠c:=Ne.symm (Ns.zA hn hv)
  refine a.fm.st ok hx vl ⟨m,hn.sameBut hs eS⟩ (.inr ⟨.inl kc,c,hc, .inl hg,WR⟩) (λ y w hyx lk=>?_) λ y hy=>(a.fm.mine y hy).imp id λ ⟨z,c',v',h1,h2,h3⟩=>?_
  ·rcases lk with ⟨l1,m1,h1,h2⟩ | ⟨l1,c',h1,h2,h3⟩
   ·exact .inl ⟨l1,m1,h1.sameBut hs eS,h2⟩
   ·exact .inr ⟨l1,c',h1,h2,h3.sameBut hs λ z=>hyx (a.fm.apart y x c' h1 (z▸hc))⟩
  ·by_cases q:c'=c
   ·subst q; exact ⟨z,c',_,h1,h2,WR⟩
   ·exact ⟨z,c',v',h1,h2,h3.sameBut hs q⟩
theorem At.UA (a:At G cx g env σ s) {l':List (Option V)} (h: ∀i x,cx.at i x->df l' i=df σ.loc i):At G cx g env ⟨l',σ.H⟩ s:=
 ⟨a.wd,{a.fm with look:=λ i x v hx e=>a.fm.look i x v hx ((h i x hx).symm.trans e)}⟩
variable {C:CT}
theorem Nh {k:Nat} {pos:Pos}:SE G n C cx .none (.Constant .none k pos):=λ A env g σ s Q R a h=>wpAny_Constant_none (aE.now a .none h)
theorem M6 {b:Bool} {k:Nat} {pos:Pos}:SE G n C cx (.bool b) (.Constant (.bool b) k pos):=λ A env g σ s Q R a h=>wpAny_Constant_bool (aE.now a (.bool b) h)
theorem Qm {i:Nat} {k:Nat} {pos:Pos}:SE G n C cx (.int i) (.Constant (.int i) k pos):=λ A env g σ s Q R a h=>wpAny_Constant_int (aE.now (a.toks _) (.int _ _) h)
theorem Qr {i:Nat} {k:Nat} {pos:Pos} (hi:i < 6):SE G n C cx (.str i) (.Constant (.str (strOf i)) k pos):=λ A env g σ s Q R a h=>wpAny_Constant_str (aE.now (a.toks _) (.str i _ hi) h)
theorem tP {i:Nat} {x:Str} {pos:Pos} (ok:aP cx) (hx:cx.at i x):SE G n C cx (.var i) (.Name x pos):=λ A env g σ s Q R a h=>PD ok hx a h
theorem Qp {e:E} {x:Expr} {pos:Pos} (h:SE G n C cx e x):SE G n C cx (.neg e) (.UnaryOp .USub x pos):=λ A env g σ s Q R a hw=>
 wpAny_UnaryOp <| bR (h A env g σ s _ R a hw) λ v s' g' σ' y e a' ag vl q=>up1 e ag <| by
  cases y with
  | int i=>obtain ⟨t,rfl⟩:=vl.inv; exact PyProof.Rows.neg_int (aE.now (a'.toks _) (.int _ _) q)
  | _=>exact q.elim
theorem Qn {e:E} {x:Expr} {pos:Pos} (h:SE G n C cx e x):SE G n C cx (.inv e) (.UnaryOp .Invert x pos):=λ A env g σ s Q R a hw=>
 wpAny_UnaryOp <| bR (h A env g σ s _ R a hw) λ v s' g' σ' y e a' ag vl q=>up1 e ag <| by
  cases y with
  | int i=>obtain ⟨t,rfl⟩:=vl.inv; exact PyProof.Rows.invert_int (aE.now (a'.toks _) (.int _ _) q)
  | _=>exact q.elim
theorem two {a b:E} {x y:Expr} {K:Value->Value->Shared->Prop} {P:V->V->St->Prop} (ha:SE G n C cx a x) (hb:SE G n C cx b y) (r:cJ A n) (at_:At G cx g env σ s)
  (hw:Mine.W C a (λ u=>Mine.W C b (λ v=>P u v)) σ)
  (k: ∀u' v' s' g' σ' u v,Ex g g'->At G cx g' env σ' s'->Ag cx.z σ.loc σ'.loc->Val g' u u'->Val g' v v'->P u v σ'->K u' v' s'):
  wpAny (model G.prog G.w) A (eval x env) (λ u' s₁=>wpAny (model G.prog G.w) A (eval y env) (λ v' s₂=>K u' v' s₂) cn s₁) cn s:=
 bR (ha A env g σ s _ r at_ hw) λ u' s' g' σ' u e a' ag vl q=>
  bR (hb A env g' σ' s' _ r a' q) λ v' s₂ g₂ σ₂ v e₂ a₂ ag₂ vl₂ q₂=>k u' v' s₂ g₂ σ₂ u v (e.trans e₂) a₂ (ag.trans ag₂) (vl.le e₂.le) vl₂ q₂
noncomputable def Vt (G:Pg) (n:Nat) (cx:Cx) (op:Op):Prop:=
 ∀(A:Around) (env:Env) (g:Gm) (σ:St) (s:Shared) (Q:PV) (x y:V) (u v:Value),cJ A n->At G cx g env σ s->Val g x u->Val g y v->cw op x y Q σ->
  wpAny (model G.prog G.w) A (binaryOp (wN op) u v) (aE G cx g env σ.loc Q) cn s
noncomputable def pP (G:Pg) (n:Nat) (cx:Cx) (op:GJ):Prop:=
 ∀(A:Around) (env:Env) (g:Gm) (σ:St) (s:Shared) (Q:PV) (x y:V) (u v:Value),cJ A n->At G cx g env σ s->Val g x u->Val g y v->b8 op x y Q σ->
  wpAny (model G.prog G.w) A (compareOp (uc op) u v) (aE G cx g env σ.loc Q) cn s
theorem Qi {op:Op} {a b:E} {x y:Expr} {pos:Pos} (B:Vt G n cx op) (ha:SE G n C cx a x) (hb:SE G n C cx b y):SE G n C cx (.bin op a b) (.BinOp x (wN op) y pos):=λ A env g σ s Q R at_ h=>
 wpAny_BinOp (two ha hb R at_ h λ u' v' s' g' σ' u v e a' ag v1 v2 q=>up1 e ag (B A env g' σ' s' Q u v u' v' R a' v1 v2 q))
theorem Gu {op:GJ} {a b:E} {x y:Expr} {pos:Pos} (B:pP G n cx op) (ha:SE G n C cx a x) (hb:SE G n C cx b y) (hm:behindInMarks (uc op) y=false):SE G n C cx (.cmp op a b) (.Compare x [uc op] [y] pos):=λ A env g σ s Q R at_ h=>
 wpAny_Compare1 (two ha hb R at_ h λ u' v' s' g' σ' u v e a' ag v1 v2 q=>up1 e ag (B A env g' σ' s' Q u v u' v' R a' v1 v2 q)) hm
theorem qO {x:V} {v:Value} {Q:PB} (R:cJ A n) (a:At G cx g env σ s) (vl:Val g x v) (h:gG x Q σ):wpAny (model G.prog G.w) A (truthy v) (gH G cx g env σ.loc Q) cn s:=by
 have now: ∀{b:Bool} {s':Shared},At G cx g env σ s'->Q b σ->gH G cx g env σ.loc Q b s':=λ a q=>⟨g,σ, .refl g,a, .refl _ _,q⟩
 have em: ∀{xs:List V} {its:Array Value},Vals g xs its.toList->Q (!xs.isEmpty) σ->Q (!its.isEmpty) σ:=λ vs q=>isEmpty_eq (vs.length.trans Array.length_toList)▸q
 cases x with
 | none=>obtain rfl:=vl.inv; exact PyProof.Rows.truthy_none (now a h)
 | bool b=>obtain rfl:=vl.inv; exact wpAny_truthy_bool (now a h)
 | int i=>obtain ⟨t,rfl⟩:=vl.inv; exact PyProof.Rows.truthy_int (now a (UG h))
 | tup xs=>
  obtain ⟨b,its,k,rfl,f,vs,hl⟩:=vl.inv
  exact PyProof.Rows.truthy_tuple ⟨_,a.wd.fz _ _ f,rfl,_,rfl⟩ (by unfold lim at hl; omega) (now (a.toks _) (em vs h))
 | ref b=>
  obtain ⟨rfl,_⟩:=vl.inv
  have h:match (match σ.H b with | some (.list xs)=>some (!xs.isEmpty) | _=> .none) with | some t=>Q t σ | .none=>False:=h
  cases hb:σ.H b with
  | none=>rw [hb] at h; exact h.elim
  | some o=>
   rw [hb] at h
   cases o with
   | list xs=>
    obtain ⟨_,its,⟨m,hi⟩,vs,hl⟩:=a.wd.objs b _ hb
    exact wpAny_truthy_list ⟨_,hi,rfl,_,rfl⟩ (by have:=vs.length; have e:its.toList.length=its.size:=rfl; unfold lim at hl; omega) (now (a.toks _) (em vs h))
   | _=>exact h.elim
 | _=>exact h.elim
theorem SJ {e:E} {x:Expr} (h:SE G n C cx e x) (he: ∀env whole,isTrue x env whole=(do let v <- whole; standAt x.pos; holding [v] (truthy v))):ST G n C cx (.e e) x:=λ A env g σ s Q R a hw=>
 wpAny_isTrue_value (bR (h A env g σ s _ R a hw) λ v s' g' σ' y e a' ag vl q=>YV e ag (qO R a' vl q)) (he _ _)
theorem Cq {op:GJ} {a b:E} {x y:Expr} {pos:Pos} (B:pP G n cx op) (ha:SE G n C cx a x) (hb:SE G n C cx b y) (hm:behindInMarks (uc op) y=false):ST G n C cx (.e (.cmp op a b)) (.Compare x [uc op] [y] pos):=λ A env g σ s Q R at_ h=>
 wpAny_isTrue_Compare1 (two ha hb R at_ h λ u' v' s' g' σ' u v e a' ag v1 v2 q=>
  bR (B A env g' σ' s' _ u v u' v' R a' v1 v2 q) λ c s₂ g₂ σ₂ z e₂ a₂ ag₂ vl q₂=>YV (e.trans e₂) (ag.trans ag₂) (qO R a₂ vl q₂)) hm
theorem Gx {b:B} {x:Expr} {pos:Pos} (h:ST G n C cx b x):ST G n C cx (.not b) (.UnaryOp .Not x pos):=λ A env g σ s Q R a hw=>
 wpAny_isTrue_Not (qN (h A env g σ s _ R a hw) λ y y g' σ' e a ag q=>⟨g',σ',e,a,ag,q⟩)
theorem snd_and {bs:List B} {xs:List Expr} {pos:Pos} (h: ∀(A:Around) (env:Env) (g:Gm) (σ:St) (s:Shared) (Q:PB),cJ A n->At G cx g env σ s->Mine.TA C bs Q σ->wpAny (model G.prog G.w) A (allTrue .And xs env) (gH G cx g env σ.loc Q) cn s):
  ST G n C cx (.and bs) (.BoolOp .And xs pos):=λ A env g σ s Q R a hw=>wpAny_isTrue_BoolOp (h A env g σ s Q R a hw)
theorem Ni {bs:List B} {xs:List Expr} {pos:Pos} (h: ∀(A:Around) (env:Env) (g:Gm) (σ:St) (s:Shared) (Q:PB),cJ A n->At G cx g env σ s->Mine.TO C bs Q σ->wpAny (model G.prog G.w) A (allTrue .Or xs env) (gH G cx g env σ.loc Q) cn s):
  ST G n C cx (.or bs) (.BoolOp .Or xs pos):=λ A env g σ s Q R a hw=>wpAny_isTrue_BoolOp (h A env g σ s Q R a hw)
noncomputable def SA (G:Pg) (n:Nat) (C:CT) (cx:Cx) (bs:List B) (xs:List Expr):Prop:=
 ∀(A:Around) (env:Env) (g:Gm) (σ:St) (s:Shared) (Q:PB),cJ A n->At G cx g env σ s->Mine.TA C bs Q σ->wpAny (model G.prog G.w) A (allTrue .And xs env) (gH G cx g env σ.loc Q) cn s
noncomputable def SO (G:Pg) (n:Nat) (C:CT) (cx:Cx) (bs:List B) (xs:List Expr):Prop:=
 ∀(A:Around) (env:Env) (g:Gm) (σ:St) (s:Shared) (Q:PB),cJ A n->At G cx g env σ s->Mine.TO C bs Q σ->wpAny (model G.prog G.w) A (allTrue .Or xs env) (gH G cx g env σ.loc Q) cn s
theorem PY {Q:PB} {b:Bool} (a:At G cx g env σ s) (q:Q b σ):gH G cx g env σ.loc Q b s:=⟨g,σ, .refl g,a, .refl _ _,q⟩
theorem sq:SA G n C cx [] []:=λ A env g σ s Q R a h=>wpAny_allTrue_And_nil (PY a h)
theorem vA:SO G n C cx [] []:=λ A env g σ s Q R a h=>wpAny_allTrue_Or_nil (PY a h)
theorem qJ {b:B} {bs:List B} {x:Expr} {xs:List Expr} (h:ST G n C cx b x) (h':SA G n C cx bs xs):SA G n C cx (b::bs) (x::xs):=λ A env g σ s Q R a hw=>
 wpAny_allTrue_And_cons (qN (h A env g σ s _ R a hw) λ t s' g' σ' e a' ag q=>by
  cases t with
  | true=>exact YV e ag (h' A env g' σ' s' Q R a' q)
  | false=>exact gH.up e ag (PY a' q))
theorem sr {b:B} {bs:List B} {x:Expr} {xs:List Expr} (h:ST G n C cx b x) (h':SO G n C cx bs xs):SO G n C cx (b::bs) (x::xs):=λ A env g σ s Q R a hw=>
 wpAny_allTrue_Or_cons (qN (h A env g σ s _ R a hw) λ t s' g' σ' e a' ag q=>by
  cases t with
  | true=>exact gH.up e ag (PY a' q)
  | false=>exact YV e ag (h' A env g' σ' s' Q R a' q))
theorem Qo {c:B} {a b:E} {x y z:Expr} {pos:Pos} (hc:ST G n C cx c x) (ha:SE G n C cx a y) (hb:SE G n C cx b z):SE G n C cx (.ite c a b) (.IfExp x y z pos):=λ A env g σ s Q R at_ h=>
 wpAny_IfExp (qN (hc A env g σ s _ R at_ h) λ t s' g' σ' e a' ag q=>by
  cases t with
  | true=>exact up1 e ag (ha A env g' σ' s' Q R a' q)
  | false=>exact up1 e ag (hb A env g' σ' s' Q R a' q))
theorem M5 {a b:E} {x y:Expr} {pos:Pos} (ha:SE G n C cx a x) (hb:SE G n C cx b y):SE G n C cx (.w4 true a b) (.BoolOp .And [x,y] pos):=λ A env g σ s Q R at_ h=>
 wpAny_And2 (bR (ha A env g σ s _ R at_ h) λ v s' g' σ' z e a' ag vl q=>qN (qO R a' vl q) λ t s₂ g₂ σ₂ e₂ a₂ ag₂ q₂=>by
  cases t with
  | true=>exact up1 (e.trans e₂) (ag.trans ag₂) (hb A env g₂ σ₂ s₂ Q R a₂ q₂)
  | false=>exact aE.up (e.trans e₂) (ag.trans ag₂) (aE.now a₂ (vl.le e₂.le) q₂))
theorem Qk {a b:E} {x y:Expr} {pos:Pos} (ha:SE G n C cx a x) (hb:SE G n C cx b y):SE G n C cx (.w4 false a b) (.BoolOp .Or [x,y] pos):=λ A env g σ s Q R at_ h=>
 wpAny_Or2 (bR (ha A env g σ s _ R at_ h) λ v s' g' σ' z e a' ag vl q=>qN (qO R a' vl q) λ t s₂ g₂ σ₂ e₂ a₂ ag₂ q₂=>by
  cases t with
  | true=>exact aE.up (e.trans e₂) (ag.trans ag₂) (aE.now a₂ (vl.le e₂.le) q₂)
  | false=>exact up1 (e.trans e₂) (ag.trans ag₂) (hb A env g₂ σ₂ s₂ Q R a₂ q₂))
theorem Gw:E6 G n C cx [] []:=λ A env g σ s pos Q R a h=>Calls.spliced_nil ⟨g,σ,[], .refl g,a, .refl _ _, .nil,rfl,h⟩
theorem M8 {e:E} {es:List E} {x:Expr} {xs:List Expr} (h:SE G n C cx e x) (h':E6 G n C cx es xs) (hx: ∀env,starEach (x::xs) env=(false,eval x env)::starEach xs env):E6 G n C cx (e::es) (x::xs):=λ A env g σ s pos Q R a hw=>by
 rw [hx]
 exact Calls.spliced_cons (bR (h A env g σ s _ R a hw) λ v s' g' σ' z e a' ag vl q=>sv (h' A env g' σ' s' pos _ R a' q) λ vs s₂ g₂ σ₂ zs e₂ a₂ ag₂ vls q₂=>
  ⟨g₂,σ₂,_,e.trans e₂,a₂,ag.trans ag₂, .cons (vl.le e₂.le) vls,by simp [q₂.1],q₂.2⟩)
end
end
section
open PySem PySem.W PyProof.Rows PySem.SeqAt
section
variable {G:Pg} {cx:Cx} {g:Gm} {env:Env} {σ:St} {s:Shared} {n:Nat} {A:Around} {Q:PV}
theorem an {a b:Bool} (h:(a && b)=true):a=true/\b=true:=Bool.and_eq_true _ _▸h
theorem bh {α:Type} {a:α} {P:Prop} (h:none=some a):P:=absurd h.symm (Option.some_ne_none _)
theorem hl {H:Hp} {a:Nat} {F:List V->Prop} (h:match H a with | some (.list xs)=>F xs | _=>False): ∃xs,H a=some (.list xs)/\F xs:=by
 cases e:H a with
 | none=>rw [e] at h; exact h.elim
 | some o=>
  rw [e] at h
  cases o with
  | list xs=>exact ⟨xs,rfl,h⟩
  | _=>exact h.elim
theorem Uv {H:Hp} {a:Nat} {xs:List V} (h:dZ H (.ref a)=some xs):H a=some (.list xs):=by
 have h:(match H a with | some (.list xs)=>some xs | _=> .none)=some xs:=h
 cases e:H a with
 | none=>rw [e] at h; exact bh h
 | some o=>
  rw [e] at h
  cases o with
  | list ys=>obtain rfl:=Option.some.inj h; rfl
  | _=>exact bh h
theorem lstP {H:Hp} {a k:Nat} {xs:List V} (h:dZ H (.part a k)=some xs): ∃N I U T,H a=some (.aig N I U T)/\(k=0/\N=xs\/k=1/\I=xs\/k=2/\U=xs):=by
 have h:(match (generalizing:=false) H a with | some (.aig N I U _)=>(match (generalizing:=false) k with | 0=>some N | 1=>some I | 2=>some U | _=> .none) | _=> .none)=some xs:=h
 cases e:H a with
 | none=>rw [e] at h; exact bh h
 | some o=>
  rw [e] at h
  cases o with
  | aig N I U T=>
   refine ⟨N,I,U,T,rfl,?_⟩
   rcases k with _ | _ | _ | k
   ·exact .inl ⟨rfl,Option.some.inj h⟩
   ·exact .inr (.inl ⟨rfl,Option.some.inj h⟩)
   ·exact .inr (.inr ⟨rfl,Option.some.inj h⟩)
   ·exact bh h
  | _=>exact bh h
inductive SY (g:Gm) (h:Heap) (u:Value) (xs:List V):Prop where
 | mk (b:Addr) (its:Array Value) (e:u= .ref b) (p:h.PlainList b its) (v:Vals g xs its.toList) (n:xs.length<=lim)
theorem pD {H:Hp} {v:V} {u:Value} {xs:List V} (W:Wd G g H s) (vl:Val g v u) (h:dZ H v=some xs):SY g s.heap u xs:=by
 cases v with
 | ref a=>
  obtain ⟨rfl,_⟩:=vl.inv
  obtain ⟨_,its,p,q,r⟩:=W.objs a _ (Uv h)
  exact ⟨a,its,rfl,p,q,r⟩
 | part a k=>
  obtain ⟨b,rfl,hb⟩:=vl.inv
  obtain ⟨N,I,U,T,e,c⟩:=lstP h
  obtain ⟨b0,b1,b2,b3,⟨_,_,_,_,_,_,_,_,r0,r1,r2,_⟩,q0,q1,q2,_⟩:=W.objs _ _ e
  have key: ∀{c:Addr} {j:Nat} {ys:List V},g c= .jM a j->LstAt g s.heap c ys->k=j/\ys=xs->SY g s.heap (.ref b) xs:=λ r ⟨its,p,q,n⟩ ⟨e1,e2⟩=>by
   subst e1; subst e2
   obtain rfl:=W.one _ _ _ _ hb r
   exact ⟨_,its,rfl,p,q,n⟩
  exact c.elim (key r0 q0) λ c=>c.elim (key r1 q1) (key r2 q2)
 | _=>exact bh h
theorem PlainList.isList {h:Heap} {b:Addr} {its:Array Value} (x:h.PlainList b its):h.IsList b its:=x.elim λ n e=>⟨_,e,rfl,n,rfl⟩
inductive Zh (g:Gm) (h:Heap) (v:V) (u:Value) (xs:List V):Prop where
 | mk (b:Addr) (its:Array Value) (n:Nat) (e:u= .ref b) (e':v= .tup xs) (p:h.get? b=some {cls:= .type "tuple",data:= .seq its n}) (v:Vals g xs its.toList) (n:xs.length<=lim)
theorem Et {H:Hp} {v:V} {u:Value} {xs:List V} (W:Wd G g H s) (vl:Val g v u) (h:cU H v=some xs):SY g s.heap u xs\/Zh g s.heap v u xs:=by
 cases v with
 | ref a=>exact .inl (pD W vl h)
 | part a k=>exact .inl (pD W vl h)
 | tup ys=>
  obtain rfl:=Option.some.inj h
  obtain ⟨b,its,n,rfl,f,vs,hl⟩:=vl.inv
  exact .inr ⟨_,_,_,rfl,rfl,W.fz _ _ f,vs,by rw [vs.length]; exact hl⟩
 | _=>exact bh h
mutual
noncomputable def toPy:V->PyData
 | .int i=> .int i
 | .str k=> .str (strOf k)
 | .bool b=> .bool b
 | .tup xs=> .tuple (cI xs)
 | _=> .none
noncomputable def cI:List V->List PyData
 | []=> []
 | x::r=>toPy x::cI r
end
theorem vC (k:Nat):PyData.strOk (strOf k)=true:=by
 rcases k with _ | _ | _ | _ | _ | k
 iterate 5 (· decide+kernel)
 exact (show PyData.strOk (strOf 5)=true by decide+kernel)
theorem IX {i j:Nat} (hi:i < 6) (hj:j < 6) (h:strOf i=strOf j):i=j:=by
 have: ∀i:_root_.Fin 6,∀j:_root_.Fin 6,strOf i.1=strOf j.1->i.1=j.1:=by decide+kernel
 exact this ⟨i,hi⟩ ⟨j,hj⟩ h
theorem Er {H:Hp} (W:Wd G g H s) (x:V): ∀{u:Value},Val g x u->flat x=true->∃as,Reads s.heap u (toPy x) as:=by
 refine V.rec (motive_1:=λ x=> ∀{u:Value},Val g x u->flat x=true->∃as,Reads s.heap u (toPy x) as) (motive_2:=λ xs=> ∀{us:List Value},Vals g xs us->iM xs=true->∃as,ReadsAll s.heap us (cI xs) as)
  ?_ (λ y y y h=>Bool.noConfusion h) ?_ ?_ ?_ (λ y y y y y h=>Bool.noConfusion h) (λ y y y h=>Bool.noConfusion h) (λ y y y y h=>Bool.noConfusion h) ?_ ?_ x
 ·intro u v _; obtain rfl:=v.inv; exact ⟨_, .none⟩
 ·intro i u v _; obtain ⟨t,rfl⟩:=v.inv; exact ⟨_, .int i t⟩
 ·intro k u v _; obtain ⟨t,rfl,_⟩:=v.inv; exact ⟨_, .str _ t⟩
 ·intro xs ih u v h; obtain ⟨a,its,n,rfl,f,vs,_⟩:=v.inv; exact (ih vs h).elim λ as r=>⟨as, .tuple (W.fz _ _ f) rfl rfl r⟩
 ·intro u v _; obtain rfl:=v.inv; exact ⟨_, .nil⟩
 ·intro x xs ih ihs us v h
  obtain ⟨v,r,rfl,a,b⟩:=v.inv
  exact (ih a (an h).1).elim λ as ra=>(ihs b (an h).2).elim λ bs rb=>⟨_, .cons ra rb⟩
theorem fV {H:Hp} (W:Wd G g H s) {xs:List V} {us:List Value} (vs:Vals g xs us) (h:iM xs=true): ∃as,ReadsAll s.heap us (cI xs) as:=by
 induction xs generalizing us with
 | nil=>obtain rfl:=vs.inv; exact ⟨_, .nil⟩
 | cons x xs ih=>
  obtain ⟨v,r,rfl,a,b⟩:=vs.inv
  exact (Er W x a (an h).1).elim λ as ra=>(ih b (an h).2).elim λ bs rb=>⟨_, .cons ra rb⟩
theorem Aw (x:V):(toPy x).canLay0=true:=
 V.rec (motive_1:=λ x=>(toPy x).canLay0=true) (motive_2:=λ xs=>PyData.canLayAll0 (cI xs)=true) rfl (λ y=>rfl) (λ y=>rfl) vC (λ y h=>h) (λ y y y=>rfl) (λ y=>rfl) (λ y y=>rfl) rfl
  (λ y y h h'=>Bool.and_eq_true _ _▸⟨h,h'⟩) x
theorem eD (x:List V):PyData.canLayAll0 (cI x)=true:=Aw (.tup x)
theorem wm {x:V} (h:plain x=true):flat x=true:=by cases x <;> first | rfl | exact Bool.noConfusion h
theorem AX {p:V->Bool} (hp: ∀{x},p x=true->flat x=true) {xs:List V} (h:xs.all p=true):iM xs=true:=by
 induction xs with
 | nil=>rfl
 | cons x xs ih=>exact Bool.and_eq_true _ _▸⟨hp (an h).1,ih (an h).2⟩
theorem eI {xs:List V} (h:xs.all plain=true):iM xs=true:=AX wm h
theorem wk {x:V} (h:xg x=true):flat x=true:=by
 cases x <;> first | rfl | exact Bool.noConfusion h | exact eI h
theorem uA {xs:List V} (h:xs.all xg=true):iM xs=true:=AX wk h
theorem fJ {xs:List V} (h:allInts xs=true):xs.all plain=true:=by
 induction xs with
 | nil=>rfl
 | cons x r ih=>cases x <;> first | exact ih h | exact Bool.noConfusion h
theorem dC {xs:List V} (h:allInts xs=true):iM xs=true/\xs.all plain=true:=⟨eI (fJ h),fJ h⟩
theorem yC {p:V->Bool} {n:Nat} (hp: ∀{x},p x=true->(toPy x).depth<=n) {xs:List V} (h:xs.all p=true):PyData.depthAll (cI xs)<=n:=by
 induction xs with
 | nil=>exact Nat.zero_le _
 | cons x xs ih=>exact Nat.max_le.mpr ⟨hp (an h).1,ih (an h).2⟩
theorem jf {x:V} (h:plain x=true):(toPy x).depth<=0:=by cases x <;> first | exact Nat.le_refl _ | exact Bool.noConfusion h
theorem yB {xs:List V} (h:xs.all plain=true):PyData.depthAll (cI xs)=0:=Nat.le_zero.mp (yC jf h)
theorem uh {xs:List V} (h:allInts xs=true):PyData.depthAll (cI xs)<=1:=Nat.le_trans (yC jf (fJ h)) (Nat.zero_le 1)
theorem AB {x:V} (h:xg x=true):(toPy x).depth<=1:=by
 cases x <;> first | exact Nat.le_succ_of_le (jf h) | exact Nat.succ_le_succ (yC jf h)
theorem yA {xs:List V} (h:xs.all xg=true):PyData.depthAll (cI xs)<=1:=yC AB h
theorem AJ (x:V): ∀{y:V} {u v:Value},Val g x u->Val g y v->flat x=true->flat y=true->PyData.eqv (toPy x) (toPy y)=jN x y:=by
 refine V.rec (motive_1:=λ x=> ∀{y:V} {u v:Value},Val g x u->Val g y v->flat x=true->flat y=true->PyData.eqv (toPy x) (toPy y)=jN x y)
  (motive_2:=λ x=> ∀{y:List V} {u v:List Value},Vals g x u->Vals g y v->iM x=true->iM y=true->PyData.eqvAll (cI x) (cI y)=pL x y) ?_ (λ z z z z z z h=>Bool.noConfusion h) ?_ ?_ ?_ (λ z z z z z z z z h=>Bool.noConfusion h) (λ z z z z z z h=>Bool.noConfusion h) (λ z z z z z z z h=>Bool.noConfusion h) ?_ ?_ x
 ·intro y u v _ _ _ hy; cases y <;> first | rfl | exact Bool.noConfusion hy
 ·intro i y u v _ _ _ hy; cases y <;> first | rfl | exact Bool.noConfusion hy
 ·intro k y u v a b _ hy
  cases y with
  | str j=>
   obtain ⟨_,_,hk⟩:=a.inv
   obtain ⟨_,_,hj⟩:=b.inv
   show (strOf k == strOf j)=(k == j)
   by_cases e:k=j
   ·rw [e,beq_self_eq_true,beq_self_eq_true]
   ·exact (beq_eq_false_iff_ne.mpr λ q=>e (IX hk hj q)).trans (beq_eq_false_iff_ne.mpr e).symm
  | _=>first | rfl | exact Bool.noConfusion hy
 ·intro xs ih y u v a b hx hy
  cases y with
  | tup ys=>
   obtain ⟨_,_,_,_,_,va,_⟩:=a.inv
   obtain ⟨_,_,_,_,_,vb,_⟩:=b.inv
   exact ih va vb hx hy
  | _=>first | rfl | exact Bool.noConfusion hy
 ·intro y u v _ _ _ _; cases y <;> rfl
 ·intro x xs ih ihs y u v a b hx hy
  cases y with
  | nil=>rfl
  | cons y ys=>
   obtain ⟨_,_,_,a1,a2⟩:=a.inv
   obtain ⟨_,_,_,b1,b2⟩:=b.inv
   show (PyData.eqv _ _ && PyData.eqvAll _ _)=(jN _ _ && pL _ _)
   rw [ih a1 b1 (an hx).1 (an hy).1,ihs a2 b2 (an hx).2 (an hy).2]
theorem Hc {xs ys:List V} {u v:List Value} (a:Vals g xs u) (b:Vals g ys v) (hx:iM xs=true) (hy:iM ys=true):PyData.eqvAll (cI xs) (cI ys)=pL xs ys:=by
 induction xs generalizing ys u v with
 | nil=>cases ys <;> rfl
 | cons x xs ih=>
  cases ys with
  | nil=>rfl
  | cons y ys=>
   obtain ⟨_,_,_,a1,a2⟩:=a.inv
   obtain ⟨_,_,_,b1,b2⟩:=b.inv
   show (PyData.eqv _ _ && PyData.eqvAll _ _)=(jN _ _ && pL _ _)
   rw [AJ x a1 b1 (an hx).1 (an hy).1,ih a2 b2 (an hx).2 (an hy).2]
noncomputable def z9 (A:Around) (s:Shared) (u v:Value) (b:Bool):Prop:=
 ∀(prog:Program) (w:World) (Q:Value->Shared->Prop),(Q (.bool b) s->wpAny (model prog w) A (compareOp .Eq u v) Q cn s)/\(Q (.bool (!b)) s->wpAny (model prog w) A (compareOp .NotEq u v) Q cn s)
theorem z9.reads {u v:Value} {da db:PyData} {as bs:List Addr} (ra:Reads s.heap u da as) (rb:Reads s.heap v db bs) (ha:da.canLay0=true) (hb:db.canLay0=true) (hu:A.units+min da.depth db.depth < cLine):
  z9 A s u v (PyData.eqv da db):=λ prog w Q=>⟨λ h=>compareEq_reads ra rb ha hb hu h,λ h=>compareNe_reads ra rb ha hb hu h⟩
theorem sL {H:Hp} {a b:Nat} {F:List V->List V->Prop} (h:match H a,H b with | some (.list xs),some (.list ys)=>F xs ys | _,_=>False): ∃xs ys,H a=some (.list xs)/\H b=some (.list ys)/\F xs ys:=by
 cases e:H a with
 | none=>rw [e] at h; exact h.elim
 | some o=>
  rw [e] at h
  cases o with
  | list xs=>
   cases e':H b with
   | none=>rw [e'] at h; exact h.elim
   | some o=>
    rw [e'] at h
    cases o with
    | list ys=>exact ⟨xs,ys,rfl,rfl,h⟩
    | _=>exact h.elim
  | _=>exact h.elim
theorem Fw {h:Heap} {A:Around} {s:Shared} {u v:Value} {xs ys:List V} {as bs:List Addr} {us vs:List Value} (k:List PyData->PyData) (hc: ∀ds,(k ds).canLay0=PyData.canLayAll0 ds) (hd: ∀ds,(k ds).depth=PyData.depthAll ds+1) (he:PyData.eqv (k (cI xs)) (k (cI ys))=PyData.eqvAll (cI xs) (cI ys)) (ra:Reads s.heap u (k (cI xs)) as) (rb:Reads s.heap v (k (cI ys)) bs)
  (a:Vals g xs us) (b:Vals g ys vs) (f1:iM xs=true) (f2:ys.all plain=true) (hu:A.units+3 < cLine):z9 A s u v (pL xs ys):=by
 rw [<- Hc a b f1 (eI f2),<- he]
 refine z9.reads ra rb ((hc _).trans (eD _)) ((hc _).trans (eD _)) (Nat.lt_of_le_of_lt (Nat.add_le_add_left (Nat.le_trans (Nat.min_le_right _ _) ?_) _) hu)
 rw [hd,yB f2]; decide
theorem MP {H:Hp} (W:Wd G g H s) {l:List Value} {x y z:V} {P R S:List V} (vs:Vals g [x,y,z] l) (hx:dZ H x=some P) (hy:dZ H y=some R) (hz:dZ H z=some S) (f:P.all xg=true/\allInts R=true/\allInts S=true):
  ∃as,ReadsAll s.heap l [.list (cI P), .list (cI R), .list (cI S)] as:=by
 have one: ∀{x:V} {u:Value} {P:List V},Val g x u->dZ H x=some P->iM P=true->∃as,Reads s.heap u (.list (cI P)) as:=λ v h k=>(pD W v h).rec λ b its e p w j=>e▸p.elim λ j d=>(fV W w k).elim λ j z=>⟨_, .list d rfl rfl z⟩
 obtain ⟨_,_,_,rfl,a1,a2,a3⟩:=vs.Nw
 exact (one a1 hx (uA f.1)).elim λ j z1=>(one a2 hy (dC f.2.1).1).elim λ j z2=>(one a3 hz (dC f.2.2).1).elim λ j z3=>⟨_, .cons z1 (.cons z2 (.cons z3 .nil))⟩
theorem J1 {H:Hp} (W:Wd G g H s) {b b' m m':Nat} {its fu:Array Value} {xs ys:List V} {t:Prop} (hu:A.units+3 < cLine) (p:s.heap.get? b=some {cls:= .type "list",data:= .seq its m}) (p':s.heap.get? b'=some {cls:= .type "list",data:= .seq fu m'}) (vs:Vals g xs its.toList) (GC:Vals g ys fu.toList) (h:Vx H xs ys t):
  z9 A s (.ref b) (.ref b') true/\t:=by
 obtain ⟨p1,q1,r1,p2,q2,r2,rfl,rfl,P',R',S',e3,e4,e5,e6,e7,e8,f,h4⟩:=h
 refine ⟨?_,h4⟩
 obtain ⟨as,ra⟩:=MP W vs e3 e5 e7 f
 obtain ⟨bs,rb⟩:=MP W GC e4 e6 e8 f
 have cl:PyData.canLay0 (.list [.list (cI P'), .list (cI R'), .list (cI S')])=true:=
  Bool.and_eq_true _ _▸⟨eD _,Bool.and_eq_true _ _▸⟨eD _,Bool.and_eq_true _ _▸⟨eD _,rfl⟩⟩⟩
 have:=z9.reads (A:=A) (.list p rfl rfl ra) (.list p' rfl rfl rb) cl cl
  (Nat.lt_of_le_of_lt (Nat.add_le_add_left (Nat.le_trans (Nat.min_le_left _ _) (Nat.succ_le_succ (Nat.max_le.mpr ⟨Nat.succ_le_succ (yA f.1),Nat.max_le.mpr ⟨Nat.succ_le_succ (uh f.2.1),Nat.max_le.mpr ⟨Nat.succ_le_succ (uh f.2.2),Nat.zero_le 2⟩⟩⟩))) _) hu)
 rwa [show PyData.eqv (.list _) (.list _)=true from eqvAll_refl _ cl] at this
theorem Rd {x y:V} {u v:Value} {P:Bool->Prop} (R:cJ A n) (a:At G cx g env σ s) (vx:Val g x u) (vy:Val g y v) (h:Yi x y P σ): ∃b,z9 A s u v b/\P b:=by
 have hu:A.units+3 < cLine:=by have:=R.u; have wo:(cLine:Nat)=9900:=rfl; omega
 cases x with
 | int i=>
  cases y with
  | int j=>
   obtain ⟨_,rfl⟩:=vx.inv
   obtain ⟨_,rfl⟩:=vy.inv
   exact ⟨_,λ prog w Q=>⟨λ q=>PyProof.Rows.eq_int q,λ q=>PyProof.Rows.ne_int q⟩,KP i j▸(show P (iEq i j) from h)⟩
  | _=>exact h.elim
 | str k=>
  cases y with
  | str j=>
   have e:PyData.eqv (.str (strOf k)) (.str (strOf j))=(k == j):=AJ (.str k) vx vy rfl rfl
   obtain ⟨t,rfl,hk⟩:=vx.inv
   obtain ⟨t',rfl,hj⟩:=vy.inv
   exact ⟨k == j,e▸z9.reads (.str (strOf k) t) (.str (strOf j) t') (vC k) (vC j) (Nat.lt_of_le_of_lt (Nat.le_add_right _ 3) hu),h⟩
  | _=>exact h.elim
 | tup xs=>
  cases y with
  | tup ys=>
   obtain ⟨_,its,m,rfl,f,vs,_⟩:=vx.inv
   obtain ⟨_,fu,m',rfl,f',GC,_⟩:=vy.inv
   obtain ⟨as,ra⟩:=fV a.wd vs h.1
   obtain ⟨bs,rb⟩:=fV a.wd GC (eI h.2.1)
   exact ⟨_,Fw (h:=s.heap) .tuple (λ z=>rfl) (λ z=>rfl) rfl (.tuple (a.wd.fz _ _ f) rfl rfl ra) (.tuple (a.wd.fz _ _ f') rfl rfl rb) vs GC h.1 h.2.1 hu,h.2.2⟩
  | _=>exact h.elim
 | ref b=>
  cases y with
  | ref b'=>
   obtain ⟨rfl,_⟩:=vx.inv
   obtain ⟨rfl,_⟩:=vy.inv
   obtain ⟨xs,ys,e1,e2,h⟩:=sL h
   obtain ⟨_,its,⟨m,p⟩,vs,_⟩:=a.wd.objs b _ e1
   obtain ⟨_,fu,⟨m',p'⟩,GC,_⟩:=a.wd.objs b' _ e2
   rcases h with ⟨h1,h2,h3⟩ | h
   ·obtain ⟨as,ra⟩:=fV a.wd vs (dC h1).1
    obtain ⟨bs,rb⟩:=fV a.wd GC (dC h2).1
    exact ⟨_,Fw (h:=s.heap) .list (λ z=>rfl) (λ z=>rfl) rfl (.list p rfl rfl ra) (.list p' rfl rfl rb) vs GC (dC h1).1 (fJ h2) hu,h3⟩
   ·exact ⟨true,J1 a.wd hu p p' vs GC h⟩
  | _=>exact h.elim
 | _=>exact h.elim
theorem Tf:pP G n cx .eq:=λ A env g σ s Q x y u v R a vx vy h=>by
 obtain ⟨b,e,q⟩:=Rd (P:=λ b=>Q (.bool b) σ) R a vx vy h
 exact (e _ _ _).1 (aE.now a (.bool b) q)
theorem Tq:pP G n cx .ne:=λ A env g σ s Q x y u v R a vx vy h=>by
 obtain ⟨b,e,q⟩:=Rd (P:=λ b=>Q (.bool (!b)) σ) R a vx vy h
 exact (e _ _ _).2 (aE.now a (.bool _) q)
end
end
section
open PySem PySem.W PyProof.Rows PySem.SeqAt
theorem mj.get {g:Gm} {es:List (V×V)} {kvs:List (Int×Value)} (h:mj g es kvs) (k:Int):
  (bU es (.int k)= .none/\valueAt kvs k= .none)\/∃x v,bU es (.int k)=some x/\valueAt kvs k=some v/\Val g x v:=by
 induction h with
 | nil=>exact .inl ⟨rfl,rfl⟩
 | @cons k' x v r r' hv hr ih=>
  by_cases c:k'=k
  ·exact .inr ⟨x,v,if_pos (beq_iff_eq.mpr c),by simp [valueAt,List.find?_cons,c],hv⟩
  ·have e1:bU ((.int k',x)::r) (.int k)=bU r (.int k):=if_neg λ e=>c (beq_iff_eq.mp e)
   have e2:valueAt ((k',v)::r') k=valueAt r' k:=by simp only [valueAt,List.find?_cons,c,decide_false]
   rw [e1,e2]; exact ih
theorem ml.get {g:Gm} {es:List (V×V)} {xs:List (List Int×Addr×Value)} (h:ml g es xs) (p q:Int):
  (bU es (.tup [.int p, .int q])= .none/\atKey xs [p,q]= .none)\/∃x a v,bU es (.tup [.int p, .int q])=some x/\atKey xs [p,q]=some (a,v)/\Val g x v:=by
 induction h with
 | nil=>exact .inl ⟨rfl,rfl⟩
 | @cons p' q' a o x v r r' ha hv hr ih=>
  by_cases c: [p',q']= [p,q]
  ·obtain ⟨rfl,h⟩:=List.cons.inj c
   obtain rfl:=(List.cons.inj h).1
   exact .inr ⟨x,a,v,if_pos (Bool.and_eq_true _ _▸⟨beq_self_eq_true _,Bool.and_eq_true _ _▸⟨beq_self_eq_true _,rfl⟩⟩),by simp only [atKey,List.find?_cons,decide_true,Option.map_some],hv⟩
  ·have e1:bU ((.tup [.int p', .int q'],x)::r) (.tup [.int p, .int q])=bU r (.tup [.int p, .int q]):=if_neg λ e=>c (by rw [beq_iff_eq.mp (an e).1,beq_iff_eq.mp (an (an e).2).1])
   have e2:atKey (([p',q'],a,v)::r') [p,q]=atKey r' [p,q]:=by simp only [atKey,List.find?_cons,c,decide_false]
   rw [e1,e2]; exact ih
theorem ints_of {g:Gm} {xs:List V} {vs:List Value} (v:Vals g xs vs) (h:allInts xs=true): ∃ns,IntsAre vs ns/\xs=ns.map V.int:=by
 induction xs generalizing vs with
 | nil=>obtain rfl:=v.inv; exact ⟨[], .nil,rfl⟩
 | cons x xs ih=>
  obtain ⟨u,r,rfl,a,b⟩:=v.inv
  cases x with
  | int i=>
   obtain ⟨t,rfl⟩:=a.inv
   obtain ⟨ns,h1,rfl⟩:=ih b h
   exact ⟨i::ns, .cons i t h1,rfl⟩
  | _=>exact Bool.noConfusion h
theorem IntsAre.shape {vs:List Value} {ns:List Int} (x:IntsAre vs ns): ∀{y:Value},y∈vs->∃i t,y= .int i t:=by
 induction x with
 | nil=>exact λ h=>absurd h List.not_mem_nil
 | cons i t r ih=>exact λ h=>(List.mem_cons.mp h).elim (λ e=>⟨i,t,e⟩) ih
theorem any_ints (ns:List Int) (k:Int):(ns.map V.int).any (jN (.int k))=ns.any (· == k):=by
 induction ns with
 | nil=>rfl
 | cons a r ih=>
  show ((k == a) || (r.map V.int).any (jN (.int k)))=((a == k) || r.any (· == k))
  rw [ih,BEq.comm]
theorem JJ {g:Gm} {xs:List V} {vs:List Value} (v:Vals g xs vs) (h:mq xs=true): ∃bs:List Bool,vs=bs.map Value.bool/\xs=bs.map V.bool:=by
 induction xs generalizing vs with
 | nil=>obtain rfl:=v.inv; exact ⟨[],rfl,rfl⟩
 | cons x xs ih=>
  obtain ⟨u,r,rfl,a,b⟩:=v.inv
  cases x with
  | bool c=>
   obtain rfl:=a.inv
   obtain ⟨bs,rfl,rfl⟩:=ih b h
   exact ⟨c::bs,rfl,rfl⟩
  | _=>exact Bool.noConfusion h
theorem any_bools (bs:List Bool) (c:Bool):(bs.map V.bool).any (jN (.bool c))=bs.any (· == c):=by
 induction bs with
 | nil=>rfl
 | cons a r ih=>
  show ((c == a) || (r.map V.bool).any (jN (.bool c)))=((a == c) || r.any (· == c))
  rw [ih,BEq.comm]
section
variable {G:Pg} {cx:Cx} {g:Gm} {env:Env} {σ:St} {s:Shared} {n:Nat} {A:Around} {Q:PV}
theorem UT (R:cJ A n):A.units < cLine:=by have:=R.u; have wo:(cLine:Nat)=9900:=rfl; omega
theorem FG (R:cJ A n):A.in1.units < cLine:=by rw [Around.in1_units]; have:=R.u; have wo:(cLine:Nat)=9900:=rfl; omega
theorem LY {prog:Program} {w:World} {E:Value->Shared->Prop} {K:Value->Shared->Prop} {a b:Addr} {p q r v:Int} {t1 t2 t3 t4:Tok} {m m':Nat}
  (ha:s.heap.get? a=some {cls:= .type "tuple",data:= .seq #[.int p t1, .int q t2] m}) (hb:s.heap.get? b=some {cls:= .type "tuple",data:= .seq #[.int r t3, .int v t4] m'})
  (hu:A.units < cLine) (h:K (.bool (gE p q r v)) s):wpAny (model prog w) A (compareOp .LtE (.ref a) (.ref b)) K E s:=by
 show wpAny _ _ (richCompare .LtE (.ref a) (.ref b)) K E s
 have Ta:s.TypeIs (.ref a) "tuple" :=⟨_,ha,rfl⟩
 have Tb:s.TypeIs (.ref b) "tuple" :=⟨_,hb,rfl⟩
 refine wpAny_richCompare_same_room (op:= .LtE) Ta Tb PySem.F.slot_tuple_le (wpAny_call_entry PySem.F.slot_tuple_le Ta PySem.F.entry_tuple_le ?_ (PySem.F.args_tuple_le_2 _ _)) hu
 show wpAny _ _ (isInstance (.ref b) (.type "tuple") >>= _) _ _ s
 refine wpAny_bind (wpAny_isInstance Tb isSubtype_tuple_tuple ?_)
 simp only [Bool.not_true,Bool.false_eq_true,if_false]
 refine wpAny_bind (wpAny_tupleItemsOf ha rfl ?_)
 refine wpAny_bind (wpAny_tupleItemsOf hb rfl ?_)
 have fin: ∀{c:Bool},c=gE p q r v->∃x,Fin.done (Flow.ret (Value.bool c))= .done (.ret x)/\x≠ .notImplemented/\K x s:=λ e=>⟨_,rfl,nofun,e▸h⟩
 simp only [List.zip_cons_cons,List.zip_nil_right,List.forIn_cons,List.forIn_nil]
 refine wpAny_bind (wpAny_bind (wpAny_bind (wpAny_eqBool_int ?_)))
 by_cases e:p=r
 ·subst e
  rw [beq_self_eq_true p]
  simp only [Bool.not_true,Bool.false_eq_true,if_false]
  refine wpAny_pure ?_
  refine wpAny_bind (wpAny_bind (wpAny_eqBool_int ?_))
  by_cases e:q=v
  ·subst e
   rw [beq_self_eq_true q]
   simp only [Bool.not_true,Bool.false_eq_true,if_false]
   refine wpAny_pure (wpAny_pure (wpAny_pure (fin ?_)))
   simp [gE,Builtin.Tuple.tupleCompareSizes]
  ·rw [beq_false_of_ne e]
   simp only [Bool.not_false,if_true]
   refine wpAny_bind (wpAny_rule (wpAny_bind (PyProof.Rows.le_int (wpAny_bind (wpAny_pure (wpAny_pure (wpAny_pure (wpAny_pure (fin ?_)))))))))
   simp [gE]
 ·rw [beq_false_of_ne e]
  simp only [Bool.not_false,if_true]
  refine wpAny_bind (wpAny_rule (wpAny_bind (PyProof.Rows.le_int (wpAny_bind (wpAny_pure (wpAny_pure (wpAny_pure (wpAny_pure (fin ?_)))))))))
  have e2:(p == r)=false:=beq_false_of_ne e
  simp only [gE,e2,Bool.false_and,Bool.or_false,decide_eq_decide]
  lia
inductive VD (g:Gm) (h:Heap) (a b:Int) (u:Value):Prop where
 | mk (c:Addr) (t1 t2:Tok) (m:Nat) (e:u= .ref c) (f:g c= .fz {cls:= .type "tuple",data:= .seq #[.int a t1, .int b t2] m}) (p:h.get? c=some {cls:= .type "tuple",data:= .seq #[.int a t1, .int b t2] m})
theorem nZ {a b:Int} {u:Value} (W:Wd G g σ.H s) (v:Val g (.tup [.int a, .int b]) u):VD g s.heap a b u:=by
 obtain ⟨c,⟨l⟩,m,rfl,f,vs,hl⟩:=v.inv
 obtain ⟨v1,v2,e,a1,a2⟩:=vs.EJ
 obtain ⟨t1,rfl⟩:=a1.inv
 obtain ⟨t2,rfl⟩:=a2.inv
 obtain rfl:l= [.int a t1, .int b t2]:=e
 exact ⟨c,t1,t2,m,rfl,f,W.fz _ _ f⟩
theorem za {h:Heap} {a b:Int} {c:Addr} {t1 t2:Tok} {m:Nat} {prog:Program} {w:World} (e:h.get? c=some {cls:= .type "tuple",data:= .seq #[.int a t1, .int b t2] m}):IsTupleKey (intKind prog w) h [a,b] c:=
 ⟨_,_,_,e,rfl,rfl, .cons (intKind_is prog w a t1) (.cons (intKind_is prog w b t2) .nil)⟩
theorem jj {a k:Nat} {x:V} (h:cH (.part a k) x=true): ∃i j,x= .tup [.int i, .int j]:=by
 cases x with
 | tup xs=>
  cases xs with
  | nil=>exact Bool.noConfusion h
  | cons y r=>
   cases y with
   | int i=>
    cases r with
    | nil=>exact Bool.noConfusion h
    | cons z r=>
     cases z with
     | int j=>
      cases r with
      | nil=>exact ⟨i,j,rfl⟩
      | cons _ _=>exact Bool.noConfusion h
     | _=>exact Bool.noConfusion h
   | _=>exact Bool.noConfusion h
 | _=>exact Bool.noConfusion h
theorem kT {a:Nat} {x:V} (h:cH (.ref a) x=true): ∃i,x= .int i:=by
 cases x with
 | int i=>exact ⟨i,rfl⟩
 | _=>exact Bool.noConfusion h
inductive Zb (prog:Program) (w:World) (g:Gm) (h:Heap) (H:Hp) (v:V) (u:Value) (es:List (V×V)):Prop where
 | int (b:Addr) (e':v= .ref b) (e:u= .ref b) (o:H b=some (.dict es)) (m:g b= .mut) (d:yc prog w g h b es)
 | tup (c b:Addr) (N I U:List V) (e':v= .part c 3) (e:u= .ref b) (o:H c=some (.aig N I U es)) (m:g b= .jM c 3) (d:sy prog w g h b es)
theorem Tv {H:Hp} {a:Nat} {es:List (V×V)} (h:dictOf H (.ref a)=some es):H a=some (.dict es):=by
 have h:(match (generalizing:=false) H a with | some (.dict xs)=>some xs | _=> .none)=some es:=h
 cases e:H a with
 | none=>rw [e] at h; exact bh h
 | some o=>
  rw [e] at h
  cases o with
  | dict ys=>obtain rfl:=Option.some.inj h; rfl
  | _=>exact bh h
theorem dctP {H:Hp} {a k:Nat} {es:List (V×V)} (h:dictOf H (.part a k)=some es):k=3/\∃N I U,H a=some (.aig N I U es):=by
 have h:(if k=3 then (match (generalizing:=false) H a with | some (.aig _ _ _ T)=>some T | _=> .none) else .none)=some es:=h
 by_cases c:k=3
 ·rw [if_pos c] at h
  refine ⟨c,?_⟩
  cases e:H a with
  | none=>rw [e] at h; exact bh h
  | some o=>
   rw [e] at h
   cases o with
   | aig N I U T=>obtain rfl:=Option.some.inj h; exact ⟨N,I,U,rfl⟩
   | _=>exact bh h
 ·rw [if_neg c] at h; exact bh h
theorem ug {v:V} {u:Value} {es:List (V×V)} (a:At G cx g env σ s) (vl:Val g v u) (h:dictOf σ.H v=some es):Zb G.prog G.w g s.heap σ.H v u es:=by
 cases v with
 | ref b=>
  obtain ⟨rfl,_⟩:=vl.inv
  exact .int b rfl rfl (Tv h) (a.wd.objs b _ (Tv h)).1 (a.wd.objs b _ (Tv h)).2
 | part c k=>
  obtain ⟨rfl,N,I,U,e⟩:=dctP h
  obtain ⟨b,rfl,hb⟩:=vl.inv
  obtain ⟨b0,b1,b2,b3,⟨_,_,_,_,_,_,_,_,_,_,_,r3⟩,_,_,_,q3⟩:=a.wd.objs _ _ e
  exact .tup c b N I U rfl rfl e hb (a.wd.one _ _ _ _ hb r3▸q3)
 | _=>exact bh h
theorem yn {op:GJ} (F:Int->Int->Bool) (hi: ∀(x y:V) (Q:PV) (σ:St),b8 op x y Q σ->∃i j,x= .int i/\y= .int j/\Q (.bool (F i j)) σ)
  (hr: ∀{prog:Program} {w:World} {A:Around} {i j:Int} {t u:Tok} {Q E:Value->Shared->Prop} {s:Shared},Q (.bool (F i j)) s->wpAny (model prog w) A (compareOp (uc op) (.int i t) (.int j u)) Q E s):pP G n cx op:=λ A env g σ s Q x y u v R a vx vy h=>by
 obtain ⟨i,j,rfl,rfl,h'⟩:=hi x y Q σ h
 obtain ⟨t,rfl⟩:=vx.inv
 obtain ⟨t',rfl⟩:=vy.inv
 exact hr (aE.now a (.bool _) h')
theorem Tp:pP G n cx .lt:=yn WW (λ x x x x h=>tK h) λ q=>PyProof.Rows.lt_int (uE _ _▸q)
theorem cmp_gt:pP G n cx .gt:=yn (λ i j=>WW j i) (λ x x x x h=>tK h) λ q=>PyProof.Rows.gt_int (uE _ _▸q)
theorem Ti:pP G n cx .ge:=yn (λ i j=>WV j i) (λ x x x x h=>tK h) λ q=>PyProof.Rows.ge_int (DW _ _▸q)
theorem To:pP G n cx .le:=λ A env g σ s Q x y u v R a vx vy h=>by
 cases x with
 | int i=>
  cases y with
  | int j=>
   obtain ⟨t,rfl⟩:=vx.inv
   obtain ⟨t',rfl⟩:=vy.inv
   exact PyProof.Rows.le_int (aE.now a (.bool _) (DW i j▸(show Q (.bool (WV i j)) σ from h)))
  | _=>exact h.elim
 | tup xs=>
  cases y with
  | tup ys=>
   obtain ⟨_,_,_,_,rfl,rfl,h'⟩:=PG (show Us xs ys (λ b=>Q (.bool b) σ) from h)
   obtain ⟨c,t1,t2,m,rfl,_,e1⟩:=nZ a.wd vx
   obtain ⟨c',t3,t4,m',rfl,_,e2⟩:=nZ a.wd vy
   exact LY e1 e2 (UT R) (aE.now a (.bool _) h')
  | _=>exact h.elim
 | _=>exact h.elim
theorem uK {x:V} {u:Value} (vx:Val g x u):plainIs u .none=true/\(u == Value.none)=jh x:=
 vx.casesOn (motive_1:=λ x u y=>plainIs u .none=true/\(u == Value.none)=jh x) ⟨rfl,rfl⟩ (λ y=>⟨rfl,rfl⟩) (λ y y=>⟨rfl,rfl⟩) (λ y y y=>⟨rfl,rfl⟩) (λ y y y=>⟨rfl,rfl⟩) (λ y y y=>⟨rfl,rfl⟩) (λ y y=>⟨rfl,rfl⟩) (λ y=>⟨rfl,rfl⟩)
theorem Tn:pP G n cx .is:=λ A env g σ s Q x y u v R a vx vy h=>by
 cases y with
 | none=>
  obtain rfl:=vy.inv
  obtain ⟨h1,h2⟩:=uK vx
  refine wpAny_is_plain h1 ?_
  rw [h2]; exact aE.now a (.bool _) h
 | _=>exact h.elim
theorem GV:pP G n cx .dm:=λ A env g σ s Q x y u v R a vx vy h=>by
 cases y with
 | none=>
  obtain rfl:=vy.inv
  obtain ⟨h1,h2⟩:=uK vx
  refine wpAny_isNot_plain h1 ?_
  rw [h2]; exact aE.now a (.bool _) h
 | _=>exact h.elim
noncomputable def eqI (i:Int):Value->Bool:=λ y=>match y with | .int j _=>j == i | _=>false
noncomputable def eqB (c:Bool):Value->Bool:=λ y=>match y with | .bool j=>j == c | _=>false
theorem OD {i j:Int} {t:Tok}:eqI i (.int j t)=(j == i):=rfl
theorem Ul {x:V} {u:Value} {xs:List V} {b:Addr} {its:Array Value} (a:At G cx g env σ s) (vx:Val g x u) (hp:s.heap.PlainList b its) (vs:Vals g xs its.toList) (h:Bh x xs (λ b=>Q (.bool b) σ)):
  wpAny (model G.prog G.w) A (compareOp .In u (.ref b)) (aE G cx g env σ.loc Q) cn s:=by
 cases x with
 | int i=>
  obtain ⟨t,rfl⟩:=vx.inv
  obtain ⟨ns,h1,rfl⟩:=ints_of vs h.1
  have h2:=h.2
  rw [any_ints] at h2
  refine in_listAt (eqI i) (PlainList.isList hp) (λ y hy=>?_) ?_
  ·have:y∈its.toList:=Array.mem_toList_iff.mpr hy
   obtain ⟨j,t',rfl⟩:=Mine.IntsAre.shape h1 this
   exact EqAt.int_int j t' i t
  ·refine aE.now a (.bool _) (cast ?_ h2)
   congr 2
   rw [<- Array.any_toList]
   generalize its.toList=l at h1
   clear vs h2 h
   induction h1 with
   | nil=>rfl
   | cons n t r ih=>simp only [List.any_cons,ih,OD]
 | bool c=>
  obtain rfl:=vx.inv
  obtain ⟨bs,h1,rfl⟩:=JJ vs h.1
  have h2:=h.2
  rw [any_bools] at h2
  refine in_listAt (eqB c) (PlainList.isList hp) (λ y hy=>?_) ?_
  ·have hm:y∈its.toList:=Array.mem_toList_iff.mpr hy
   rw [h1] at hm
   obtain ⟨j,_,rfl⟩:=List.mem_map.mp hm
   exact EqAt.bool_bool j c
  ·refine aE.now a (.bool _) (cast ?_ h2)
   congr 2
   rw [<- Array.any_toList,h1,List.any_map]
   rfl
 | _=>exact h.elim
theorem WZ {x y:V} {u v:Value} (R:cJ A n) (a:At G cx g env σ s) (vx:Val g x u) (vy:Val g y v) (hy: ∀ys,y≠ .tup ys)
  (h:match dictOf σ.H y with | some es=>cH y x=true/\Q (.bool (bU es x).isSome) σ | .none=>match cU σ.H y with | some xs=>Bh x xs (λ b=>Q (.bool b) σ) | .none=>False):
  wpAny (model G.prog G.w) A (compareOp .In u v) (aE G cx g env σ.loc Q) cn s:=by
 cases e:dictOf σ.H y with
 | some es=>
  rw [e] at h
  rcases ug a vy e with ⟨b,rfl,rfl,_,_,hs,_,kvs,hd,hp⟩ | ⟨c,b,N,I,U,rfl,rfl,_,_,hs,_,xs,hd,hp⟩
  ·obtain ⟨i,rfl⟩:=kT h.1
   obtain ⟨t,rfl⟩:=vx.inv
   refine wpAny_in_of (intKind_is _ _ i t) hs hd.mapOf (aE.now (a.toks _) (.bool _) (cast ?_ h.2))
   rcases hp.get i with ⟨e1,e2⟩ | ⟨x,v,e1,e2,_⟩ <;> rw [e1,e2] <;> rfl
  ·obtain ⟨i,j,rfl⟩:=jj h.1
   obtain ⟨c',t1,t2,m,rfl,_,e1⟩:=nZ a.wd vx
   refine wpAny_in_heap (knd:=tupleKind (intKind G.prog G.w)) (FG R) (za e1) hs hd (aE.now (a.toks _) (.bool _) (cast ?_ h.2))
   rcases hp.get i j with ⟨e1,e2⟩ | ⟨x,a,v,e1,e2,_⟩ <;> rw [e1,e2] <;> rfl
 | none=>
  rw [e] at h
  cases e2:cU σ.H y with
  | none=>rw [e2] at h; exact h.elim
  | some xs=>
   rw [e2] at h
   rcases Et a.wd vy e2 with ⟨b',its,rfl,hp,vs,_⟩ | ⟨_,_,_,_,e3,_⟩
   ·exact Ul a vx hp vs h
   ·exact absurd e3 (hy _)
theorem Tj:pP G n cx .sa:=λ A env g σ s Q x y u v R a vx vy h=>by
 cases y with
 | tup ys=>
  cases x with
  | int i=>
   obtain ⟨t,rfl⟩:=vx.inv
   obtain ⟨b,its,m,rfl,f,vs,_⟩:=vy.inv
   obtain ⟨ns,h1,rfl⟩:=ints_of vs h.1
   exact in_tuple_ints ⟨_,a.wd.fz _ _ f,rfl,_,rfl⟩ h1 (aE.now a (.bool _) (any_ints ns i▸h.2))
  | _=>exact h.elim
 | ref b=>exact WZ R a vx vy nofun h
 | part b k=>exact WZ R a vx vy nofun h
 | _=>exact h.elim
theorem GW:pP G n cx .BV:=λ A env g σ s Q x y u v R a vx vy h=>by
 cases y with
 | tup ys=>
  cases x with
  | int i=>
   obtain ⟨t,rfl⟩:=vx.inv
   obtain ⟨b,its,m,rfl,f,vs,_⟩:=vy.inv
   obtain ⟨h0,h2⟩:=h
   obtain ⟨ns,h1,rfl⟩:=ints_of vs h0
   rw [any_ints] at h2
   exact notin_tuple_ints ⟨_,a.wd.fz _ _ f,rfl,_,rfl⟩ h1 (aE.now a (.bool _) h2)
  | _=>exact h.elim
 | _=>exact h.elim
theorem tG (op:GJ):pP G n cx op:=by
 cases op
 ·exact Tp
 ·exact To
 ·exact cmp_gt
 ·exact Ti
 ·exact Tf
 ·exact Tq
 ·exact Tn
 ·exact GV
 ·exact Tj
 ·exact GW
end
end
section
open PySem PySem.W PyProof.Rows PySem.SeqAt
theorem jH:lim<=sizeLine:=Nat.le_of_ble_eq_true rfl
section
variable {G:Pg} {cx:Cx} {g:Gm} {env:Env} {σ:St} {s:Shared} {n:Nat} {A:Around} {Q:PV} {C:CT}
theorem aE.list {xs:List V} {its:Array Value} {b:Addr} (a:At G cx g env σ s) (hf:g b= .free) (hp:s.heap.PlainList b its) (vs:Vals g xs its.toList) (hl:xs.length<=lim) (h:alloc (.list xs) Q σ):
  aE G cx g env σ.loc Q (.ref b) s:=
 ⟨setG g b .mut,⟨σ.loc,upd σ.H b (.list xs)⟩, .ref b,Ex.set hf,a.new hf (hp.imp' _ λ x e=>e) ⟨aD ..,its,hp,vs.le (Ex.set hf).le,hl⟩, .refl _ _, .ref b (.inl (aD ..)),h b (a.wd.A5 hf)⟩
theorem aE.newList {xs:List V} {its:Array Value} (a:At G cx g env σ s) (vs:Vals g xs its.toList) (hl:xs.length<=lim) (h:alloc (.list xs) Q σ):
  aE G cx g env σ.loc Q (.ref s.heap.objs.size) {s with heap:=s.heap.push {cls:= .type "list",data:= .seq its}}:=
 aE.list (a.push _) a.free ⟨0,Heap.get?_push_size _ rfl⟩ vs hl h
theorem aE.tuple {xs:List V} {its:Array Value} {b:Addr} {m:Nat} (a:At G cx g env σ s) (hf:g b= .free) (hp:s.heap.get? b=some {cls:= .type "tuple",data:= .seq its m}) (vs:Vals g xs its.toList) (hl:xs.length<=lim) (h:Q (.tup xs) σ):
  aE G cx g env σ.loc Q (.ref b) s:=
 ⟨setG g b _,σ, .tup xs,Ex.set hf,a.frz hf hp, .refl _ _, .tup (aD ..) (vs.le (Ex.set hf).le) ((show xs.length=its.size from vs.length)▸hl),h⟩
theorem aE.newTuple {xs:List V} {its:Array Value} (a:At G cx g env σ s) (vs:Vals g xs its.toList) (hl:xs.length<=lim) (h:Q (.tup xs) σ):
  aE G cx g env σ.loc Q (.ref s.heap.objs.size) {s with heap:=s.heap.push {cls:= .type "tuple",data:= .seq its}}:=
 aE.tuple (a.push _) a.free (Heap.get?_push_size _ rfl) vs hl h
theorem Iv (k:Nat) (x:Value):(List.replicate k [x]).flatten=List.replicate k x:=by
 induction k with
 | zero=>rfl
 | succ k ih=>simp [List.replicate_succ,ih]
theorem Oh {b c:Nat} (a:At G cx g env σ s) (h:cw .add (.ref b) (.ref c) Q σ):wpAny (model G.prog G.w) A (binaryOp .Add (.ref b) (.ref c)) (aE G cx g env σ.loc Q) cn s:=by
 replace h:=sL h
 obtain ⟨xs,ys,e1,e2,h1,h2⟩:=h
 obtain ⟨_,its,⟨m,p⟩,vs,_⟩:=a.wd.objs b _ e1
 obtain ⟨_,fu,⟨m',p'⟩,GC,_⟩:=a.wd.objs c _ e2
 have l1:xs.length=its.size:=vs.length
 have l2:ys.length=fu.size:=GC.length
 have hl:=jH
 exact P.add_list p p' (aE.newList a (by rw [Array.toList_append]; exact vs.append GC) (List.length_append▸h1) h2) (by omega)
theorem Om {b:Nat} {k:Int} {t:Tok} (a:At G cx g env σ s) (h:cw .mul (.ref b) (.int k) Q σ):wpAny (model G.prog G.w) A (binaryOp .Mult (.ref b) (.int k t)) (aE G cx g env σ.loc Q) cn s:=by
 have h:match (generalizing:=false) σ.H b with | some (.list [x])=>(0<=k/\k<=lim)/\alloc (.list (List.replicate k.toNat x)) Q σ | _=>False:=h
 cases e:σ.H b with
 | none=>rw [e] at h; exact h.elim
 | some o=>
  rw [e] at h
  cases o with
  | list xs=>
   cases xs with
   | nil=>exact h.elim
   | cons x r=>
    cases r with
    | nil=>
     obtain ⟨⟨h0,h1⟩,h2⟩:=h
     obtain ⟨_,⟨l⟩,⟨m,p⟩,vs,_⟩:=a.wd.objs b _ e
     obtain ⟨v,e',hv⟩:=vs.vm
     obtain rfl:l= [v]:=e'
     have hl:lim=1000000:=rfl
     have hk:k.toNat<=lim:=by omega
     refine wpAny_binaryOp_repeat_ref (T:= "list") (U:= "int") (by decide) ⟨_,p,rfl⟩ (λ s'=>typeIs_int s' k t) noFill_list_mul PySem.F.fills_int_mul PySem.F.slot_int_rmul repeat_list PySem.F.slot_int_index.lookup
      (call_meets PySem.F.slot_int_rmul (typeIs_int s k t) PySem.F.entry_int_rmul (PySem.F.args_int_rmul_2 _ _) (int___rmul___int_list k t b #[v] m)
       ⟨p,rfl,⟨_,p,rfl⟩,call_meets PySem.F.slot_list_mul ⟨_,p,rfl⟩ PySem.F.entry_list_mul (PySem.F.args_list_mul_2 _ _)
        (AutoListH.list___mul___list_int_3 b #[v] m k t (by simp [Builtin.List.listFitsIndex]; omega) (by simp; omega) (by simp [Builtin.List.listTooLong,sizeLine]; omega)) ⟨p,?_⟩⟩)
     refine aE.newList (xs:=List.replicate k.toNat x) a ?_ (List.length_replicate▸hk) h2
     rw [show (#[v]:Array Value).isEmpty=false from rfl]
     simp only [Bool.false_eq_true,if_false,listMul_foldl]
     simp only [Array.toList,List.nil_append]
     rw [Iv]
     exact Vals.repl hv _
    | cons _ _=>exact h.elim
  | _=>exact h.elim
inductive Vs (op:Op) (x y:V):Prop where
 | int (i j:Int) (e1:x= .int i) (e2:y= .int j)
 | add (b c:Nat) (e:op= .add) (e1:x= .ref b) (e2:y= .ref c)
 | mul (b:Nat) (k:Int) (e:op= .mul) (e1:x= .ref b) (e2:y= .int k)
theorem Ol {op:Op} {x y:V} (h:cw op x y Q σ):Vs op x y:=by
 have k2: ∀{K:Int->Int->Prop},pn x y K->Vs op x y:=λ q=>(tK q).elim λ i q=>q.elim λ j q=> .int i j q.1 q.2.1
 cases op with
 | add=>
  cases x with
  | int i=>
   cases y with
   | int j=>exact .int i j rfl rfl
   | _=>exact h.elim
  | ref b=>
   cases y with
   | ref c=>exact .add b c rfl rfl rfl
   | _=>exact h.elim
  | _=>exact h.elim
 | mul=>
  cases x with
  | int i=>
   cases y with
   | int j=>exact .int i j rfl rfl
   | _=>exact h.elim
  | ref b=>
   cases y with
   | int j=>exact .mul b j rfl rfl rfl
   | _=>exact h.elim
  | _=>exact h.elim
 | _=>exact k2 h
theorem Oi (op:Op):Vt G n cx op:=λ A env g σ s Q x y u v R a vx vy h=>by
 rcases Ol h with ⟨i,j,rfl,rfl⟩ | ⟨b,c,rfl,rfl,rfl⟩ | ⟨b,k,rfl,rfl,rfl⟩
 ·obtain ⟨t,rfl⟩:=vx.inv
  obtain ⟨t',rfl⟩:=vy.inv
  exact Oj a h
 ·obtain ⟨rfl,_⟩:=vx.inv
  obtain ⟨rfl,_⟩:=vy.inv
  exact Oh a h
 ·obtain ⟨rfl,_⟩:=vx.inv
  obtain ⟨t,rfl⟩:=vy.inv
  exact Om a h
theorem xN (items:Array Value) (i:Int) (h:0<=i):slicePick items none (some i) none=(items.toList.take i.toNat).toArray:=by
 by_cases c:i.toNat<=items.size
 ·rw [<- slicePick_upto items i.toNat c]; congr 2; omega
 ·have e:sliceBounds none (some i) none items.size=sliceBounds none (some (items.size:Int)) none items.size:=by
   simp only [sliceBounds,Option.getD_none]
   have h2: ¬(i < 0):=by omega
   have h3: ¬((items.size:Int) < 0):=by omega
   simp only [h2,h3,if_false,show (1:Int) > 0 by decide,if_true]
   congr 2; lia
  have:slicePick items none (some i) none=slicePick items none (some (items.size:Int)) none:=by unfold slicePick; rw [e]
  rw [this,slicePick_upto items items.size (Nat.le_refl _)]
  rw [List.take_of_length_le (by simp),List.take_of_length_le (by simp; omega)]
theorem pick_from (items:Array Value) (i:Int) (h:0<=i):slicePick items (some i) none none=(items.toList.drop i.toNat).toArray:=by
 by_cases c:i.toNat<=items.size
 ·rw [<- slicePick_from items i.toNat c]; congr 2; omega
 ·have e:sliceBounds (some i) none none items.size=sliceBounds (some (items.size:Int)) none none items.size:=by
   simp only [sliceBounds,Option.getD_none]
   have h2: ¬(i < 0):=by omega
   have h3: ¬((items.size:Int) < 0):=by omega
   simp only [h2,h3,if_false,show (1:Int) > 0 by decide,if_true]
   congr 1; lia
  have:slicePick items (some i) none none=slicePick items (some (items.size:Int)) none none:=by unfold slicePick; rw [e]
  rw [this,slicePick_from items items.size (Nat.le_refl _)]
  rw [List.drop_of_length_le (by simp),List.drop_of_length_le (by simp; omega)]
theorem Nj {e i:E} {x y:Expr} {p pos:Pos} (h1:SE G n C cx e x) (h2:SE G n C cx i y):SE G n C cx (.EK e i) (.Subscript x (.Slice none (some y) none p) pos):=λ A env g σ s Q R a hw=>
 Subscript_ <| bR (h1 A env g σ s _ R a hw) λ o s1 g1 σ1 v e1 a1 ou v1 q1=>wpAny_Slice <| wpAny_evalPart_none <| wpAny_evalPart_some <|
  bR (h2 A env g1 σ1 s1 _ R a1 q1) λ iv s2 g2 σ2 w e2 a2 NK v2 q2=>wpAny_evalPart_none <| by
   have v1:=v1.le e2.le
   cases v with
   | ref b=>
    obtain ⟨rfl,_⟩:=v1.inv
    cases w with
    | int i=>
     obtain ⟨t,rfl⟩:=v2.inv
     replace q2:=hl q2
     obtain ⟨xs,e,⟨h0,hi,hx⟩,hq⟩:=q2
     obtain ⟨_,its,hp,vs,_⟩:=a2.wd.objs b _ e
     have hl:xs.length=its.size:=vs.length
     refine tail_any (T:= "list") (ops:= [.ref s2.heap.objs.size, .ref b]) ((PlainList.isList hp).push _).typeIs list_getitem_lookup
      (wpAny_getItem_list_slice ((PlainList.isList hp).push _) (Heap.IsSliceOf.new ..) .none (.int i t) .none (by simp) (aE.up (e1.trans e2) (ou.trans NK) ?_) (by have:=jH; omega)) rfl
     rw [xN _ _ h0]
     exact aE.newList (a2.push _) (vs.take i.toNat) (Nat.le_trans (by simp only [List.length_take]; omega) hx) hq
    | _=>exact q2.elim
   | _=>exact q2.elim
theorem Nf {e i:E} {x y:Expr} {p pos:Pos} (h1:SE G n C cx e x) (h2:SE G n C cx i y):SE G n C cx (.from e i) (.Subscript x (.Slice (some y) none none p) pos):=λ A env g σ s Q R a hw=>
 Subscript_ <| bR (h1 A env g σ s _ R a hw) λ o s1 g1 σ1 v e1 a1 ou v1 q1=>wpAny_Slice <| wpAny_evalPart_some <|
  bR (h2 A env g1 σ1 s1 _ R a1 q1) λ iv s2 g2 σ2 w e2 a2 NK v2 q2=>wpAny_evalPart_none <| wpAny_evalPart_none <| by
   have v1:=v1.le e2.le
   cases v with
   | ref b=>
    obtain ⟨rfl,_⟩:=v1.inv
    cases w with
    | int i=>
     obtain ⟨t,rfl⟩:=v2.inv
     replace q2:=hl q2
     obtain ⟨xs,e,⟨h0,hi,hx⟩,hq⟩:=q2
     obtain ⟨_,its,hp,vs,_⟩:=a2.wd.objs b _ e
     have hl:xs.length=its.size:=vs.length
     refine tail_any (T:= "list") (ops:= [.ref s2.heap.objs.size, .ref b]) ((PlainList.isList hp).push _).typeIs list_getitem_lookup
      (wpAny_getItem_list_slice ((PlainList.isList hp).push _) (Heap.IsSliceOf.new ..) (.int i t) .none .none (by simp) (aE.up (e1.trans e2) (ou.trans NK) ?_) (by have:=jH; omega)) rfl
     rw [pick_from _ _ h0]
     exact aE.newList (a2.push _) (vs.drop i.toNat) (Nat.le_trans (by simp only [List.length_drop]; omega) hx) hq
    | _=>exact q2.elim
   | _=>exact q2.elim
theorem Qt {es:List E} {xs:List Expr} {k:Nat} {pos:Pos} (h:E6 G n C cx es xs) (hl:xs.length<=1000):SE G n C cx (.tup es) (.Tuple xs k pos):=λ A env g σ s Q R a hw=>
 wpAny_Tuple <| sv (h A env g σ s pos _ R a hw) λ vs s1 g1 σ1 ys e1 a1 ou v1 q1=>by
  have l:=v1.length
  have l2:=q1.1
  exact ⟨by rw [<- l,l2]; exact Nat.le_trans hl (by decide),aE.up e1 ou (aE.newTuple a1 v1 (by rw [l2]; exact Nat.le_trans hl (by decide)) q1.2)⟩
theorem Ct {es:List E} {xs:List Expr} {pos:Pos} (h:E6 G n C cx es xs) (hl:xs.length<=1000):SE G n C cx (.list es) (.List xs pos):=λ A env g σ s Q R a hw=>
 wpAny_List <| sv (h A env g σ s pos _ R a hw) λ vs s1 g1 σ1 ys e1 a1 ou v1 q1=>by
  have l:=v1.length
  have l2:=q1.1
  exact ⟨by rw [<- l,l2]; exact Nat.le_trans hl (by decide),aE.up e1 ou (aE.newList a1 v1 (by rw [l2]; exact Nat.le_trans hl (by decide)) q1.2)⟩
theorem At.big (a:At G cx g env σ s):G.B.objs.size<=s.heap.objs.size:=by
 obtain ⟨_,o,_,_,e,_⟩:=a.fm.ns
 exact Nat.le_trans a.fm.above (Nat.le_of_lt (Heap.lt_size e))
theorem JD (hB:sysModules < G.B.objs.size) {b:Addr} (hb:G.B.objs.size<=b):(b == sysModules)=false:=
 beq_false_of_ne λ e=>by subst e; exact absurd hB (Nat.not_lt.mpr hb)
theorem aE.dict {es:List (V×V)} {kvs:List (Int×Value)} {b:Addr} (hB:sysModules < G.B.objs.size) (hs:G.B.objs.size<=b) (a:At G cx g env σ s) (hf:g b= .free) (hp:s.heap.DictOf (knd:=intKind G.prog G.w) b kvs) (vs:mj g es kvs) (hl:es.length<=lim) (h:alloc (.dict es) Q σ):
  aE G cx g env σ.loc Q (.ref b) s:=
 ⟨setG g b .mut,⟨σ.loc,upd σ.H b (.dict es)⟩, .ref b,Ex.set hf,a.new hf (hp.elim λ o r=>r.elim λ x r=>r.elim λ x r=>⟨o,r.1⟩) ⟨aD ..,JD hB hs,hl,kvs,hp,vs.le (Ex.set hf).le⟩, .refl _ _, .ref b (.inl (aD ..)),h b (a.wd.A5 hf)⟩
theorem AG {K:Type} [DecidableEq K] {prog:Program} {w:World} {knd:KeyKind prog w K} (h:Heap):(h.push {cls:= .type "dict",data:= .dict #[]}).DictOf (knd:=knd) h.objs.size []:=
 ⟨_,#[],0,Heap.get?_push_size _ rfl,⟨rfl,rfl,rfl⟩,rfl,λ x he=>by simp at he, .nil,List.nodup_nil⟩
theorem IG {pos:Pos} (hB:sysModules < G.B.objs.size):SE G n C cx .uj (.Dict [] [] pos):=λ A env g σ s Q R a hw=>
 wpAny_Dict_empty (aE.dict hB a.big (a.push _) a.free (AG _) .nil (Nat.zero_le _) hw)
end
end
section
open PySem PySem.W PyProof.Rows PySem.SeqAt
noncomputable def aK:Nat->Str
 | 0=>Str.ofString "nodes" | 1=>Str.ofString "inputs" | 2=>Str.ofString "outputs" | _=>Str.ofString "table"
noncomputable def Ap:Bi->Value
 | .len=> .builtin "len" | .max=> .builtin "max" | .min=> .builtin "min" | .sum=> .builtin "sum" | .sorted=> .builtin "sorted" | .tuple=> .type "tuple" | .list=> .type "list" | .range=> .type "range"
noncomputable def dQ:Bi->Str
 | .len=>Str.ofString "len" | .max=>Str.ofString "max" | .min=>Str.ofString "min" | .sum=>Str.ofString "sum" | .sorted=>Str.ofString "sorted" | .tuple=>Str.ofString "tuple" | .list=>Str.ofString "list" | .range=>Str.ofString "range"
structure GL (G:Pg) (K:Frag) (mg mb:Str->Option Value):Prop where
 zZ:K.In G.B
 g:G.B.Ns mainGlobals mg
 b:G.B.Ns builtinsNs mb
 sys:sysModules < G.B.objs.size
 lim:G.B.NoLimit
 bi: ∀x:Bi,mg (dQ x)=none/\mb (dQ x)=some (Ap x)
 attr: ∀k,k < 4->plainGet K G.C (aK k)=true/\findIn K (.ref G.C) (aK k)=some none
 dict:hasDictIn K G.C=true
section
variable {G:Pg} {cx:Cx} {g:Gm} {env:Env} {σ:St} {s:Shared} {n:Nat} {A:Around} {Q:PV} {C:CT} {K:Frag} {mg mb:Str->Option Value}
theorem At.keeps (a:At G cx g env σ s): ∀b o,G.B.get? b=some o->s.heap.get? b=some o:=λ b o e=>a.wd.fz b o (a.wd.base b o e)
theorem pF {k:Nat} (h:k < 4):k=0\/k=1\/k=2\/k=3:=by lia
theorem Kl {P:Params} {t0 t1 t2 t3:Tok} {b0 b1 b2 b3:Addr}:
  getL (aK 0) (jP P t0 t1 t2 t3 b0 b1 b2 b3)=some (some (.ref b0))/\getL (aK 1) (jP P t0 t1 t2 t3 b0 b1 b2 b3)=some (some (.ref b1))/\
  getL (aK 2) (jP P t0 t1 t2 t3 b0 b1 b2 b3)=some (some (.ref b2))/\getL (aK 3) (jP P t0 t1 t2 t3 b0 b1 b2 b3)=some (some (.ref b3)):=by
 refine ⟨?_,?_,?_,?_⟩ <;> rfl
theorem FL {a b0 b1 b2 b3 d:Addr} {t0 t1 t2 t3:Tok} {m:Nat} (W:Wd G g σ.H s) (h1:g a= .aig (instObj G.C d)) (h2:g d= .fz (PySem.W.dictOf (jP G.w.params t0 t1 t2 t3 b0 b1 b2 b3) m)):
  PySem.W.InstAt s.heap a (instObj G.C d) G.C (some (PySem.W.dictOf (jP G.w.params t0 t1 t2 t3 b0 b1 b2 b3) m)):=⟨W.ag _ _ h1,rfl,rfl,W.fz _ _ h2⟩
theorem JA {b k:Nat} (h:t6 (.ref b) k Q σ): ∃N I U T,σ.H b=some (.aig N I U T)/\k < 4/\Q (.part b k) σ:=by
 replace h:(match (generalizing:=false) σ.H b with | some (.aig ..)=>k < 4/\Q (.part b k) σ | _=>False):=h
 cases e:σ.H b with
 | none=>rw [e] at h; exact h.elim
 | some o=>
  rw [e] at h
  cases o with
  | aig N I U T=>exact ⟨N,I,U,T,rfl,h⟩
  | _=>exact h.elim
theorem Od {k:Nat} {x:V} {u:Value} (O:GL G K mg mb) (a:At G cx g env σ s) (vx:Val g x u) (h:t6 x k Q σ):
  wpAny (model G.prog G.w) A (getAttr u (aK k) true) (aE G cx g env σ.loc Q) cn s:=by
 cases vx with
 | ref b=>
  obtain ⟨N,I,U,T,e,hk,hq⟩:=JA h
  obtain ⟨b0,b1,b2,b3,⟨d,t0,t1,t2,t3,m,p1,p2,r0,r1,r2,r3⟩,_⟩:=a.wd.objs b _ e
  obtain ⟨m₀,F⟩:=a.fm.fr a.wd
  have I:=FL a.wd p1 p2
  have O1:=O.attr k hk
  obtain ⟨l0,l1,l2,l3⟩:=Kl (P:=G.w.params) (t0:=t0) (t1:=t1) (t2:=t2) (t3:=t3) (b0:=b0) (b1:=b1) (b2:=b2) (b3:=b3)
  have fin: ∀c,g c= .jM b k->getL (aK k) (jP G.w.params t0 t1 t2 t3 b0 b1 b2 b3)=some (some (.ref c))->wpAny (model G.prog G.w) A (getAttr (.ref b) (aK k) true) (aE G cx g env σ.loc Q) cn s:=λ c hc hl=>
   get_own F O.zZ I O1.1 O.dict O1.2 rfl hl rfl (aE.now (a.toks _) (.part hc) hq)
  rcases pF hk with rfl | rfl | rfl | rfl
  ·exact fin b0 r0 l0
  ·exact fin b1 r1 l1
  ·exact fin b2 r2 l2
  ·exact fin b3 r3 l3
 | _=>exact h.elim
theorem M4 {e:E} {k:Nat} {x:Str} {xp pos:Pos} (O:GL G K mg mb) (h:SE G n C cx e (.Name x xp)):SE G n C cx (.attr e k) (.Attribute (.Name x xp) (aK k) pos):=λ A env g σ s Q R a hw=>
 Attribute_name (bR (h A env g σ s _ R a hw) λ v s1 g1 σ1 y e1 a1 ou vl q1=>up1 e1 ou (Od O a1 vl q1))
theorem Sp {x:Bi} {pos:Pos} {P:Value->Shared->Prop} (O:GL G K mg mb) (hx:cx.names.lookup (dQ x)=some .globalImplicit) (a:At G cx g env σ s) (h:P (Ap x) s):
  wpAny (model G.prog G.w) A (eval (.Name (dQ x) pos) env) P cn s:=by
 have hk:env.kindOf (dQ x)=some .globalImplicit:=by rw [Env.kindOf,a.fm.names]; exact hx
 refine wpAny_Name ?_ (by cases x <;> decide+kernel)
 rw [loadName_read a.fm.kind hk]
 exact Calls.loadGlobal_builtin (a.fm.globals▸O.g.keeps a.keeps) (O.bi x).1 (a.fm.blt▸O.b.keeps a.keeps) (O.bi x).2 h
theorem UB {i j:Int} {t u:Tok} (R:cJ A n) (a:At G cx g env σ s) (h:Q (.int (if i < j then j else i)) σ):wpAny (model G.prog G.w) A (call (.builtin "max") [.int i t, .int j u]) (aE G cx g env σ.loc Q) cn s:=by
 refine max_two_ints R.h λ h' tk hk=>?_
 by_cases c:j > i
 ·rw [if_pos c]; rw [if_pos c] at h; exact aE.now (a.ext hk) (.int _ _) h
 ·rw [if_neg c]; rw [if_neg c] at h; exact aE.now (a.ext hk) (.int _ _) h
theorem UC {i j:Int} {t u:Tok} (R:cJ A n) (a:At G cx g env σ s) (h:Q (.int (if j < i then j else i)) σ):wpAny (model G.prog G.w) A (call (.builtin "min") [.int i t, .int j u]) (aE G cx g env σ.loc Q) cn s:=by
 refine min_two_ints R.h λ h' tk hk=>?_
 by_cases c:j < i
 ·rw [if_pos c]; rw [if_pos c] at h; exact aE.now (a.ext hk) (.int _ _) h
 ·rw [if_neg c]; rw [if_neg c] at h; exact aE.now (a.ext hk) (.int _ _) h
theorem Bm: ∀{xs:List V} {is:List Int},intsOf xs=some is->allInts xs=true/\xs=is.map V.int
 | [],_,h=>by cases h; exact ⟨rfl,rfl⟩
 | x::r,is,h=>by
  have k: ∃i,x= .int i/\(intsOf r).map (i:: ·)=some is:=by cases x with
   | int i=>exact ⟨i,rfl,h⟩
   | _=>cases h
  obtain ⟨i,rfl,q⟩:=k
  cases e:intsOf r with
  | none=>rw [e] at q; cases q
  | some js=>
   rw [e] at q; cases q
   obtain ⟨a,b⟩:=Bm e
   exact ⟨a,by rw [b]; rfl⟩
theorem U5 {b:Addr} {its:Array Value} {ns:List Int} (R:cJ A n) (a:At G cx g env σ s) (hp:s.heap.PlainList b its) (hi:IntsAre its.toList ns) (h:Q (.int ns.sum) σ):
  wpAny (model G.prog G.w) A (call (.builtin "sum") [.ref b]) (aE G cx g env σ.loc Q) cn s:=by
 obtain ⟨xs,rfl⟩: ∃xs,its=intItems xs:=AllInts.items (by have:=hi.allInts; simpa using this)
 refine sum_intListG R.h (PlainList.isList hp) λ h' tk t' hk=>?_
 rw [preSum_eq,List.take_of_length_le (by simp),<- nums_intItems,hi.numsOf]
 exact aE.now (a.ext hk) (.int _ _) h
theorem Ut {x:V} {u:Value} {xs:List V} (a:At G cx g env σ s) (vx:Val g x u) (e:cU σ.H x=some xs) (h:Q (.int xs.length) σ):wpAny (model G.prog G.w) A (call (.builtin "len") [u]) (aE G cx g env σ.loc Q) cn s:=by
 have bz:lim=1000000:=rfl
 rcases Et a.wd vx e with ⟨b,its,rfl,hp,vs,hl⟩ | ⟨b,its,m,rfl,_,hp,vs,hl⟩
 ·have l:=vs.length
  simp at l
  exact Calls.call_len_list (PlainList.isList hp) (by lia) (aE.now (a.toks _) (by rw [<- l]; exact .int _ _) h)
 ·have l:=vs.length
  simp at l
  exact PyProof.Rows.len_tuple ⟨_,hp,rfl,_,rfl⟩ (by lia) (aE.now (a.toks _) (by rw [<- l]; exact .int _ _) h)
theorem ru {b:Addr} {lo hi:Int} {d:Bool} {t u v:Tok} (a:At G cx g env σ s) (hf:g b= .free) (hp:s.heap.get? b=some {cls:= .type "range",data:= .fields #[.int lo t, .int hi u, .int (if d then -1 else 1) v]})
  (h1:lo.natAbs<=lim) (h2:hi.natAbs<=lim) (h:Q (.range lo hi d) σ):aE G cx g env σ.loc Q (.ref b) s:=
 ⟨_,σ, .range lo hi d,Ex.set hf,a.frz hf hp, .refl _ _, .range (aD ..) h1 h2,h⟩
end
end
section
open PySem PySem.W PyProof.Rows PySem.SeqAt
section
variable {prog:Program} {w:World} {A:Around} {E:Value->Shared->Prop} {s:Shared}
inductive Vw (s:Shared) (ks:List Int) (q:Result) (s':Shared):Prop where
 | mk (h':Heap) (tk:Nat) (GO:Array Value) (c':Nat) (e:q= .ok (.ret (.ref s.heap.objs.size))) (e':s'={s with heap:=h',toks:=tk}) (k: ∀b o,s.heap.get? b=some o->h'.get? b=some o)
  (p:h'.get? s.heap.objs.size=some {cls:= .type "list",dict:=none,data:= .seq GO c',slots:= #[]}) (i:IntsAre GO.toList ks)
theorem yo {d:Addr} {kvs:List (Int×Value)} {ep:Nat} {R:List Value->Shared->Prop} (hh:A.handled=none) (lo:(d == sysModules)=false) (hm:s.heap.DictAt (intKind prog w) d kvs ep) (hn:kvs.length<=sizeLine)
  (h: ∀(h':Heap) (tk:Nat) (vs:List Value),(∀b o,s.heap.get? b=some o->h'.get? b=some o)->IntsAre vs (kvs.map (·.1))->R vs {s with heap:=h',toks:=tk}):
  wpAny (model prog w) A (collect (.ref d)) R E s:=by
 have hd:d < s.heap.objs.size:=hm.lt_size
 have K:=kdl_dict (knd:=intKind prog w) (d:=d) (kvs:=kvs) (ep:=ep) lo
 have toI: ∀(l:List Value) (kv:List (Int×Value)),l.length=kv.length->(∀(j:Nat) (v:Value),l[j]?=some v->∃k x,kv[j]?=some (k,x)/\(intKind prog w).is k v=true)->IntsAre l (kv.map (·.1)):=by
  intro l kv e q
  induction kv generalizing l with
  | nil=>obtain rfl:=List.length_eq_zero_iff.mp e; exact .nil
  | cons p r' ih=>
   cases l with
   | nil=>exact absurd e (Nat.succ_ne_zero _).symm
   | cons v r=>
    obtain ⟨k,x,e1,e2⟩:=q 0 v rfl
    obtain rfl:=Option.some.inj e1
    obtain ⟨t,rfl⟩:=Value.isInt_shape e2
    exact .cons k t (ih r (Nat.succ.inj e) λ j u hj=>q (j+1) u hj)
 unfold collect
 refine wpAny_bind (wpAny_runValue (codeAny_builtin entry_proto_collect' ?_))
 rw [Around.under_plainId PySem.F.plain_proto_collect _]
 show wpAny _ A.in1 (newList [] >>= λ l=>again (.builtin "list.__iadd__" ⟨[l, .ref d],[]⟩)) _ _ s
 refine wpAny_bind (wpAny_newObj_type ?_)
 refine wpAny_pure ⟨plainId_quiet PySem.F.plain_list_iadd _,codeAny_builtin entry_list_iadd' ?_⟩
 rw [Around.under_plainId PySem.F.plain_list_iadd _]
 have hS₁:(s.heap.push {cls:= .type "list",data:= .seq ([]:List Value).toArray}).get? s.heap.objs.size=some {cls:= .type "list",data:= .seq #[]}:=Heap.get?_push_size _ rfl
 show wpAny _ A.in1 (Builtin.List.listExtendWith (.ref s.heap.objs.size) (.ref d) (.ref s.heap.objs.size)) _ _ _
 have key:=kdl_extend (A:=A) (s:={s with heap:=s.heap.push {cls:= .type "list",data:= .seq ([]:List Value).toArray}})
  (R:=Vw s (kvs.map (·.1)))
  K hh (hm.push _) s.heap.objs.size (Nat.ne_of_gt hd) (Nat.ne_of_gt hd) (.ref s.heap.objs.size) 0 hS₁
  (λ h' tk GO c' hk Ri Hk=>⟨h',tk,GO,c',rfl,rfl,λ b o e=>hk b o (Nat.ne_of_lt (Heap.lt_size e)) (Heap.get?_push_of_some _ e),Ri,toI _ _ (by rw [Array.length_toList]; exact Hk.1) λ j v e=>Hk.2 j v (by rw [<- Array.getElem?_toList]; exact e)⟩) hn
 refine wpAny_mono key (λ fin s' x=>?_) λ e s' x=>?_
 ·cases fin with
  | done f=>
   obtain ⟨h',tk,GO,c',e,rfl,hk,Ri,Hk⟩:=x
   cases e
   show wpAny _ A (load s.heap.objs.size >>= _) _ _ _
   refine wpAny_bind (wpAny_load Ri ?_)
   exact wpAny_pure (h h' tk _ hk Hk)
  | again c₁=>
   refine ⟨x.1,codeAny_mono x.2 λ q s₂ y=>?_⟩
   obtain ⟨h',tk,GO,c',rfl,rfl,hk,Ri,Hk⟩:=y
   show wpAny _ A (load s.heap.objs.size >>= _) _ _ _
   refine wpAny_bind (wpAny_load Ri ?_)
   exact wpAny_pure (h h' tk _ hk Hk)
 ·obtain ⟨_,_,_,_,e',_⟩:=x
  cases e'
theorem Cv {d:Addr} {kvs:List (Int×Value)} {Q:Value->Shared->Prop} (hh:A.handled=none) (lo:(d == sysModules)=false) (hd:s.heap.DictOf (knd:=intKind prog w) d kvs) (hn:kvs.length < 64)
  (h: ∀(h':Heap) (tk:Nat) (b:Addr) (out:Array Value) (ns:List Int),s.heap.get? b=none->(∀c o,s.heap.get? c=some o->h'.get? c=some o)->h'.PlainList b out->IntsAre out.toList ns->ns.Perm (kvs.map (·.1))->ns.Pairwise (·<=·)->Q (.ref b) {s with heap:=h',toks:=tk}):
  wpAny (model prog w) A (call (.builtin "sorted") [.ref d]) Q E s:=by
 have KL:sizeLine=16777216:=rfl
 obtain ⟨ep,d9⟩:=hd.dictAt
 refine Calls.call_function_entry kind_sorted plain_sorted entry_sorted (args_sorted1 _) ?_
 unfold Builtin.«sorted»
 refine wpAny_bind (m:=checkCount "sorted" 1 1 _) (wpAny_pure ?_)
 refine wpAny_bind (yo (A:=A.in1) hh lo d9 (by unfold sizeLine; lia) λ h1 tk vs hk hI=>?_)
 refine wpAny_bind (wpAny_newList ?_ (by have:=hI.length; simp at this; lia))
 have NQ:(h1.push (seqObj "list" vs.toArray 0)).get? h1.objs.size=some (seqObj "list" vs.toArray 0):=Heap.get?_push_size _ rfl
 refine wpAny_bind (wpAny_holding (wpAny_call_entry PyProof.Rows.slot_list_sort ⟨_,NQ,rfl⟩ PyProof.Rows.entry_list_sort (list_sort_tree NQ hI (by have:=hI.length; simp at this; lia) λ out ns' a1 a2 a3=>⟨_,rfl,?_⟩) (PyProof.Rows.args_list_sort _)))
 refine wpAny_pure ⟨_,rfl,?_⟩
 obtain ⟨e,he⟩:=sortedHeap_at (out:=out) NQ
 refine h _ tk h1.objs.size out ns' ?_ (λ c o hc=>?_) ⟨e,he⟩ a1 a2 a3
 ·cases q:s.heap.get? h1.objs.size with
  | none=>rfl
  | some o=>exact absurd (Heap.lt_size (hk _ _ q)) (Nat.lt_irrefl _)
 ·have TR:=hk c o hc
  have dz:=Heap.lt_size TR
  rw [sortedHeap_old (Nat.ne_of_lt dz) (by rw [Heap.size_push]; exact Nat.lt_succ_of_lt dz)]
  exact Heap.get?_push_of_some _ TR
end
section
variable {G:Pg} {cx:Cx} {g:Gm} {env:Env} {σ:St} {s:Shared} {n:Nat} {A:Around} {Q:PV} {C:CT} {K:Frag} {mg mb:Str->Option Value}
theorem PC {g:Gm} {es:List (V×V)} {kvs:List (Int×Value)} {is:List Int} (x:mj g es kvs) (h:fS es=some is):is=kvs.map (·.1):=by
 induction x generalizing is with
 | nil=>exact (Option.some.inj h).symm
 | @cons k y v r r' a b ih=>
  obtain ⟨js,e,rfl⟩:=Option.map_eq_some_iff.mp (show (fS r).map (k:: ·)=some is from h)
  exact congrArg (k:: ·) (ih e)
theorem se (x:Int) (l:List Int):(gD x l).Perm (x::l):=by
 induction l with
 | nil=>exact .refl _
 | cons y r ih=>
  by_cases c:x<=y
  ·rw [show gD x (y::r)=x::y::r from if_pos c]
  ·rw [show gD x (y::r)=y::gD x r from if_neg c]; exact (ih.cons y).trans (.swap x y r)
theorem oK (l:List Int):(dD l).Perm l:=by
 induction l with
 | nil=>exact .refl _
 | cons x r ih=>exact (se x _).trans (ih.cons x)
theorem wq (x:Int) (l:List Int) (h:l.Pairwise (·<=·)):(gD x l).Pairwise (·<=·):=by
 induction l with
 | nil=>exact .cons (λ j h=>absurd h List.not_mem_nil) .nil
 | cons y r ih=>
  obtain ⟨h1,h2⟩:=List.pairwise_cons.mp h
  by_cases c:x<=y
  ·rw [show gD x (y::r)=x::y::r from if_pos c]
   exact .cons (λ z hz=>(List.mem_cons.mp hz).elim (λ e=>e▸c) λ hz=>Int.le_trans c (h1 z hz)) h
  ·rw [show gD x (y::r)=y::gD x r from if_neg c]
   exact .cons (λ z hz=>(List.mem_cons.mp ((se x r).mem_iff.mp hz)).elim (λ e=>e▸Int.le_of_lt (Int.not_le.mp c)) (h1 z)) (ih h2)
theorem tA (l:List Int):(dD l).Pairwise (·<=·):=by
 induction l with
 | nil=>exact .nil
 | cons x r ih=>exact wq x _ ih
theorem Cw {a b:List Int} (p:a.Perm b) (ha:a.Pairwise (·<=·)) (hb:b.Pairwise (·<=·)):a=b:=ksm_same p ha hb
theorem I4 {g:Gm} {vs:List Value} {ns:List Int} (h:IntsAre vs ns):Vals g (ns.map V.int) vs:=by
 induction h with
 | nil=>exact .nil
 | cons i t r ih=>exact .cons (.int i t) ih
theorem IQ {b:Addr} {es:List (V×V)} {is:List Int} (R:cJ A n) (a:At G cx g env σ s) (e:σ.H b=some (.dict es)) (hi:fS es=some is) (hn:is.length < 64) (h:alloc (.list ((dD is).map V.int)) Q σ):
  wpAny (model G.prog G.w) A (call (.builtin "sorted") [.ref b]) (aE G cx g env σ.loc Q) cn s:=by
 obtain ⟨_,lo,_,kvs,hd,hp⟩:=a.wd.objs b _ e
 have e1:=PC hp hi
 subst e1
 have hl:lim=1000000:=rfl
 refine Cv R.h lo hd (List.length_map (f:=(·.1)) (as:=kvs)▸hn) λ h' tk c out ns hc hk WL hI hp3 hs=>?_
 have:ns=dD (kvs.map (·.1)):=Cw (hp3.trans (oK _).symm) hs (tA _)
 subst this
 exact aE.list (a.ext hk) (a.wd.fresh hc) WL (I4 hI) (by rw [List.length_map,(oK (kvs.map (·.1))).length_eq]; exact Nat.le_trans (Nat.le_of_lt hn) (by decide)) h
theorem Cu {o:Option (List V)} {F:List V->Prop} (h:match o with | some x=>F x | .none=>False): ∃x,o=some x/\F x:=by
 cases o with
 | none=>exact h.elim
 | some x=>exact ⟨x,rfl,h⟩
theorem SK {o:Option (List Int)} {F:List Int->Prop} (h:match o with | some x=>F x | .none=>False): ∃x,o=some x/\F x:=by
 cases o with
 | none=>exact h.elim
 | some x=>exact ⟨x,rfl,h⟩
theorem XK {vs:List V} {F:V->Prop} (h:match vs with | [v]=>F v | _=>False): ∃v,vs= [v]/\F v:=by
 cases vs with
 | nil=>exact h.elim
 | cons v r=>
  cases r with
  | nil=>exact ⟨v,rfl,h⟩
  | cons _ _=>exact h.elim
theorem UJ {vs:List V} {F:Nat->Prop} (h:match vs with | [.ref a]=>F a | _=>False): ∃a,vs= [.ref a]/\F a:=by
 cases vs with
 | nil=>exact h.elim
 | cons v r=>
  cases v with
  | ref a=>
   cases r with
   | nil=>exact ⟨a,rfl,h⟩
   | cons _ _=>exact h.elim
  | _=>exact h.elim
theorem aaw {vs:List V} {F:Int->Prop} {K:Int->Int->Prop} {L:Int->Int->Int->Prop} (h:match vs with | [.int n]=>F n | [.int a, .int n]=>K a n | [.int a, .int n, .int s]=>L a n s | _=>False):
  (∃n,vs= [.int n]/\F n)\/(∃a n,vs= [.int a, .int n]/\K a n)\/∃a n s,vs= [.int a, .int n, .int s]/\L a n s:=by
 cases vs with
 | nil=>exact h.elim
 | cons v r=>
  cases v with
  | int i=>
   cases r with
   | nil=>exact .inl ⟨i,rfl,h⟩
   | cons v r=>
    cases v with
    | int j=>
     cases r with
     | nil=>exact .inr (.inl ⟨i,j,rfl,h⟩)
     | cons v r=>
      cases v with
      | int k=>
       cases r with
       | nil=>exact .inr (.inr ⟨i,j,k,rfl,h⟩)
       | cons _ _=>exact h.elim
      | _=>exact h.elim
    | _=>exact h.elim
  | _=>exact h.elim
theorem pY {xs:List V} {its:Array Value} (l:xs.length=its.size) (h:xs.length<=lim):its.size<=sizeLine:=Nat.le_trans (l▸h) jH
theorem S9 {x:Bi} {vs:List V} {us:List Value} (R:cJ A n) (a:At G cx g env σ s) (vl:Vals g vs us) (h:eU x vs Q σ):
  wpAny (model G.prog G.w) A (call (Ap x) us) (aE G cx g env σ.loc Q) cn s:=by
 cases x with
 | len=>
  replace h:=XK h
  obtain ⟨v,rfl,h⟩:=h
  obtain ⟨u,rfl,v1⟩:=vl.vm
  replace h:=Cu (o:=cU σ.H v) (F:=λ xs=>Q (.int xs.length) σ) h
  obtain ⟨xs,e,h⟩:=h
  exact Ut a v1 e h
 | max=>
  replace h:=QE h
  obtain ⟨i,j,rfl,h⟩:=h
  obtain ⟨u1,u2,rfl,v1,v2⟩:=vl.EJ
  obtain ⟨t,rfl⟩:=v1.inv
  obtain ⟨t',rfl⟩:=v2.inv
  exact UB R a h
 | min=>
  replace h:=QE h
  obtain ⟨i,j,rfl,h⟩:=h
  obtain ⟨u1,u2,rfl,v1,v2⟩:=vl.EJ
  obtain ⟨t,rfl⟩:=v1.inv
  obtain ⟨t',rfl⟩:=v2.inv
  exact UC R a h
 | sum=>
  replace h:=UJ h
  obtain ⟨b,rfl,h⟩:=h
  obtain ⟨u,rfl,v1⟩:=vl.vm
  obtain ⟨rfl,_⟩:=v1.inv
  replace h:=hl h
  obtain ⟨xs,e,h⟩:=h
  replace h:=SK (o:=intsOf xs) (F:=λ is=>Q (.int is.sum) σ) h
  obtain ⟨is,e2,h'⟩:=h
  obtain ⟨_,its,hp,vs,_⟩:=a.wd.objs _ _ e
  obtain ⟨h1,rfl⟩:=Bm e2
  obtain ⟨ns,h2,h3⟩:=ints_of vs h1
  obtain rfl:=List.map_inj_right (λ y y e=>V.int.inj e) |>.mp h3
  exact U5 R a hp h2 h'
 | sorted=>
  replace h:=UJ h
  obtain ⟨b,rfl,h⟩:=h
  obtain ⟨u,rfl,v1⟩:=vl.vm
  obtain ⟨rfl,_⟩:=v1.inv
  have h:match (generalizing:=false) σ.H b with | some (.dict es)=>(match (generalizing:=false) fS es with | some is=>is.length < 64/\alloc (.list ((dD is).map V.int)) Q σ | .none=>False) | _=>False:=h
  cases e:σ.H b with
  | none=>rw [e] at h; exact h.elim
  | some o=>
   rw [e] at h
   cases o with
   | dict es=>
    replace h:=SK (o:=fS es) (F:=λ is=>is.length < 64/\alloc (.list ((dD is).map V.int)) Q σ) h
    obtain ⟨is,e2,h1,h2⟩:=h
    exact IQ R a e e2 h1 h2
   | _=>exact h.elim
 | tuple=>
  replace h:=UJ h
  obtain ⟨b,rfl,h⟩:=h
  obtain ⟨u,rfl,v1⟩:=vl.vm
  obtain ⟨rfl,_⟩:=v1.inv
  replace h:=hl h
  obtain ⟨xs,e,_,h⟩:=h
  obtain ⟨_,its,hp,vs,hx⟩:=a.wd.objs _ _ e
  exact call_tuple_list (PlainList.isList hp) (λ h' hk=>aE.newTuple (s:={s with heap:=h'}) (a.ext hk) vs hx h) (pY vs.length hx)
 | list=>
  have h:match (generalizing:=false) vs with | [.part a k]=>(match (generalizing:=false) cU σ.H (.part a k) with | some xs=>xs.length<=lim/\alloc (.list xs) Q σ | .none=>False) | _=>False:=h
  have: ∃c k,vs= [.part c k]:=by
   cases vs with
   | nil=>exact h.elim
   | cons v r=>
    cases v with
    | part c k=>
     cases r with
     | nil=>exact ⟨c,k,rfl⟩
     | cons _ _=>exact h.elim
    | _=>exact h.elim
  obtain ⟨c,k,rfl⟩:=this
  obtain ⟨u,rfl,v1⟩:=vl.vm
  replace h:=Cu (o:=cU σ.H (.part c k)) (F:=λ xs=>xs.length<=lim/\alloc (.list xs) Q σ) h
  obtain ⟨xs,e,_,h⟩:=h
  obtain ⟨b',its,rfl,⟨m,hp⟩,vs,hx⟩:=pD a.wd v1 e
  exact call_list_seq _ (.inl rfl) hp rfl rfl (λ h' c hk WL=>aE.list (s:={s with heap:=h'}) (a.ext hk) a.free ⟨c,WL⟩ vs hx h) (pY vs.length hx)
 | range=>
  replace h:=aaw h
  rcases h with ⟨i,rfl,h⟩ | ⟨i,j,rfl,h⟩ | ⟨i,j,k,rfl,h⟩
  ·obtain ⟨u,rfl,v1⟩:=vl.vm
   obtain ⟨t,rfl⟩:=v1.inv
   exact call_range_1 (ru (d:=false) ((a.push _).toks _) a.free (Heap.get?_push_size _ rfl) (Nat.zero_le _) h.1 h.2)
  ·obtain ⟨u1,u2,rfl,v1,v2⟩:=vl.EJ
   obtain ⟨t,rfl⟩:=v1.inv
   obtain ⟨t',rfl⟩:=v2.inv
   exact call_range_2 (ru (d:=false) ((a.push _).toks _) a.free (Heap.get?_push_size _ rfl) h.1.1 h.1.2 h.2)
  ·obtain ⟨u1,u2,u3,rfl,v1,v2,v3⟩:=vl.Nw
   obtain ⟨t,rfl⟩:=v1.inv
   obtain ⟨t',rfl⟩:=v2.inv
   obtain ⟨t'',rfl⟩:=v3.inv
   obtain ⟨⟨rfl,h1,h2⟩,hq⟩:=h
   exact call_range_3 (by decide) (ru (d:=true) ((a.push _).toks _) a.free (Heap.get?_push_size _ rfl) h1 h2 hq) (.inl (PyProof.noPylong_small (by decide)))
end
end
section
open PySem PySem.W PyProof.Rows PySem.SeqAt
section
variable {G:Pg} {cx:Cx} {g:Gm} {env:Env} {σ:St} {s:Shared} {n:Nat} {A:Around} {Q:PV} {C:CT} {K:Frag} {mg mb:Str->Option Value}
theorem xJ {b c:Addr} {u:Tg} (hb:g b= .mut\/∃a k,g b= .jM a k) (e:g c=u) (n1:(1 == u.idx)=false) (n2:(7 == u.idx)=false):c≠b:=
 hb.elim (λ h=>cY h e n1) λ h=>h.elim λ x h=>h.elim λ x h=>cY h e n2
theorem Wd.ch {H H':Hp} (W:Wd G g H s) {h':Heap} {t:Nat} {b:Addr} (hb:g b= .mut\/∃a k,g b= .jM a k) (hl: ∃o,h'.get? b=some o) (hs:Heap.SameBut b s.heap h')
  (ob:(∀a o,H' a=some o->en G.prog G.w G.C g h' a o)/\∀a o,H a=some o->∃o',H' a=some o'):Wd G g H' {s with heap:=h',toks:=t} where
 live c n:=by
  by_cases q:c=b
  ·exact q▸hl
  ·exact (W.live c n).imp λ o ho=>(hs.2 c q).trans ho
 fz c o e:=(hs.2 c (xJ hb e rfl rfl)).trans (W.fz c o e)
 kp c o e:=(hs.2 c (xJ hb e rfl rfl)).trans (W.kp c o e)
 ag c o e:=(hs.2 c (xJ hb e rfl rfl)).trans (W.ag c o e)
 base:=W.base
 objs:=ob.1
 all a h:=(W.all a h).elim (ob.2 a)
 gN b a k h:=(W.gN b a k h).elim (ob.2 a)
 one:=W.one
 tab:=W.tab
 tabs:=W.tabs.imp λ x r=>⟨(hs.2 _ (xJ hb W.tab rfl rfl)).trans r.1,r.2⟩
 gens:=W.gens
 os:=W.os
theorem At.ch {H':Hp} (a:At G cx g env σ s) {h':Heap} {t:Nat} {b:Addr} (hb:g b= .mut\/∃a k,g b= .jM a k) (hl: ∃o,h'.get? b=some o) (hs:Heap.SameBut b s.heap h')
  (ob:(∀a o,H' a=some o->en G.prog G.w G.C g h' a o)/\∀a o,σ.H a=some o->∃o',H' a=some o'):At G cx g env ⟨σ.loc,H'⟩ {s with heap:=h',toks:=t}:=
 ⟨a.wd.ch hb hl hs ob,a.fm.heap λ c o e q=>(hs.2 c (e.elim (xJ hb · rfl rfl) λ e=>e.elim λ x e=>xJ hb e rfl rfl)).trans q⟩
theorem B3 {H:Hp} {h':Heap} {b:Addr} {o:O} (ho:en G.prog G.w G.C g h' b o) (hk: ∀a,a≠b->∀o',H a=some o'->en G.prog G.w G.C g h' a o'):
  (∀a o',upd H b o a=some o'->en G.prog G.w G.C g h' a o')/\∀a o',H a=some o'->∃XI,upd H b o a=some XI:=by
 refine ⟨λ a o' e=>?_,λ a o' e=>j8 λ x=>⟨o',e⟩⟩
 by_cases q:a=b
 ·subst q; obtain rfl:=Option.some.inj ((if_pos rfl).symm.trans e); exact ho
 ·exact hk a q o' ((if_neg q).symm.trans e)
theorem BX {H:Hp} (W:Wd G g H s) {h':Heap} {b:Addr} (hb:g b= .mut) (hs:Heap.SameBut b s.heap h') {o:O} (ho:en G.prog G.w G.C g h' b o):
  (∀a o',upd H b o a=some o'->en G.prog G.w G.C g h' a o')/\∀a o',H a=some o'->∃XI,upd H b o a=some XI:=
 B3 ho λ a q o' e=>(W.objs a o' e).heap λ c oc p r=>(hs.2 c (p.elim (λ p=>p.1▸q) λ p=>p.elim (λ p=>p.elim λ x p=>cY hb p rfl) λ p=>p.elim λ x p=>cY hb p rfl)).trans r
theorem BZ {H:Hp} (W:Wd G g H s) {h':Heap} {b a₀ k:Addr} (hb:g b= .jM a₀ k) (hs:Heap.SameBut b s.heap h') {o:O} (ho:en G.prog G.w G.C g h' a₀ o):
  (∀a o',upd H a₀ o a=some o'->en G.prog G.w G.C g h' a o')/\∀a o',H a=some o'->∃XI,upd H a₀ o a=some XI:=
 B3 ho λ a q o' e=>(W.objs a o' e).heap λ c oc p r=>(hs.2 c (p.elim (λ p=>cY hb p.2 rfl) λ p=>p.elim (λ p=>p.elim λ x p z=>q (Tg.jM.inj ((z▸p).symm.trans hb)).1) λ p=>p.elim λ x p=>cY hb p rfl)).trans r
theorem LstAt.sb {h h':Heap} {b c:Addr} {xs:List V} (x:LstAt g h c xs) (hs:Heap.SameBut b h h') (q:c≠b):LstAt g h' c xs:=x.heap λ o e=>(hs.2 c q).trans e
theorem sy.sb {h h':Heap} {b c:Addr} {xs:List (V×V)} (x:sy G.prog G.w g h c xs) (hs:Heap.SameBut b h h') (q:c≠b) (hb: ∀o,g b≠ .fz o):sy G.prog G.w g h' c xs:=
 x.heap (λ o e=>(hs.2 c q).trans e) λ d o ob e r=>(hs.2 d λ z=>hb o (z▸e)).trans r
theorem gF {b c a k k':Addr} (h1:g b= .jM a k) (h2:g c= .jM a k') (h:k≠k'):b≠c:=λ e=>h (Tg.jM.inj ((e▸h1).symm.trans h2)).2
inductive VF (G:Pg) (cx:Cx) (g:Gm) (env:Env) (σ:St) (s:Shared) (u:Value) (xs ys:List V) (H':Hp):Prop where
 | mk (b:Addr) (its:Array Value) (e:u= .ref b) (p:s.heap.PlainList b its) (v:Vals g xs its.toList) (n:xs.length<=lim)
  (k: ∀h' t fu,h'.PlainList b fu->Heap.SameBut b s.heap h'->Vals g ys fu.toList->ys.length<=lim->At G cx g env ⟨σ.loc,H'⟩ {s with heap:=h',toks:=t})
theorem nA {h:Heap} {b:Addr} {its:Array Value} (p:h.PlainList b its): ∃o,h.get? b=some o:=p.elim λ x e=>⟨_,e⟩
theorem At.IC {v:V} {u:Value} {xs ys:List V} {H':Hp} (a:At G cx g env σ s) (vl:Val g v u) (h:dZ σ.H v=some xs) (hH:lg σ.H v ys=some H'):VF G cx g env σ s u xs ys H':=by
 cases v with
 | ref b=>
  obtain ⟨rfl,_⟩:=vl.inv
  have hH:(match (generalizing:=false) σ.H b with | some (.list _)=>some (upd σ.H b (.list ys)) | _=> .none)=some H':=hH
  rw [Uv h] at hH
  obtain rfl:=Option.some.inj hH
  obtain ⟨hm,its,p,q,r⟩:=a.wd.objs b _ (Uv h)
  exact ⟨b,its,rfl,p,q,r,λ h' t fu hp hs vs hl=>a.ch (.inl hm) (nA hp) hs (BX a.wd hm hs ⟨hm,fu,hp,vs,hl⟩)⟩
 | part c k=>
  obtain ⟨b,rfl,hb⟩:=vl.inv
  obtain ⟨N,I,U,T,e,hk⟩:=lstP h
  have hH:(match (generalizing:=false) σ.H c with
   | some (.aig N I U T)=>(match (generalizing:=false) k with
    | 0=>some (upd σ.H c (.aig ys I U T)) | 1=>some (upd σ.H c (.aig N ys U T)) | 2=>some (upd σ.H c (.aig N I ys T)) | _=> .none)
   | _=> .none)=some H':=hH
  rw [e] at hH
  obtain ⟨b0,b1,b2,b3,AA,q0,q1,q2,q3⟩:=a.wd.objs _ _ e
  obtain ⟨_,_,_,_,_,_,_,_,r0,r1,r2,r3⟩:=id AA
  have fin: ∀{N' I' U':List V},LstAt g s.heap b xs->some (upd σ.H c (.aig N' I' U' T))=some H'->
    (∀h' fu,h'.PlainList b fu->Heap.SameBut b s.heap h'->Vals g ys fu.toList->ys.length<=lim->SV G.prog G.w G.C g h' c N' I' U' T)->VF G cx g env σ s (.ref b) xs ys H':=λ ⟨its,p,q,r⟩ eH k=>by
   obtain rfl:=Option.some.inj eH
   exact ⟨b,its,rfl,p,q,r,λ h' t fu hp hs vs hl=>a.ch (.inr ⟨_,_,hb⟩) (nA hp) hs (BZ a.wd hb hs (k h' fu hp hs vs hl))⟩
  have nf: ∀o,g b≠ .fz o:=λ o e=>oM rfl (hb.symm.trans e)
  rcases hk with ⟨rfl,rfl⟩ | ⟨rfl,rfl⟩ | ⟨rfl,rfl⟩
  ·obtain rfl:=a.wd.one _ _ _ _ hb r0
   exact fin q0 hH λ h' fu hp hs vs hl=>⟨_,_,_,_,AA,⟨fu,hp,vs,hl⟩,q1.sb hs (gF r1 r0 (by decide)),q2.sb hs (gF r2 r0 (by decide)),q3.sb hs (gF r3 r0 (by decide)) nf⟩
  ·obtain rfl:=a.wd.one _ _ _ _ hb r1
   exact fin q1 hH λ h' fu hp hs vs hl=>⟨_,_,_,_,AA,q0.sb hs (gF r0 r1 (by decide)),⟨fu,hp,vs,hl⟩,q2.sb hs (gF r2 r1 (by decide)),q3.sb hs (gF r3 r1 (by decide)) nf⟩
  ·obtain rfl:=a.wd.one _ _ _ _ hb r2
   exact fin q2 hH λ h' fu hp hs vs hl=>⟨_,_,_,_,AA,q0.sb hs (gF r0 r2 (by decide)),q1.sb hs (gF r1 r2 (by decide)),⟨fu,hp,vs,hl⟩,q3.sb hs (gF r3 r2 (by decide)) nf⟩
 | _=>exact bh h
theorem At.aax {b:Addr} {es hY:List (V×V)} (a:At G cx g env σ s) (hm:g b= .mut) {h':Heap} {t:Nat} (hd:yc G.prog G.w g h' b hY) (hs:Heap.SameBut b s.heap h'):
  At G cx g env ⟨σ.loc,upd σ.H b (.dict hY)⟩ {s with heap:=h',toks:=t}:=
 a.ch (.inl hm) (hd.rec λ x x x d x=>d.elim λ o r=>r.elim λ x r=>r.elim λ x r=>⟨o,r.1⟩) hs (BX a.wd hm hs ⟨hm,hd⟩)
theorem At.aay {b c:Addr} {N I U:List V} {es hY:List (V×V)} (a:At G cx g env σ s) (hm:g b= .jM c 3) (e:σ.H c=some (.aig N I U es)) {h':Heap} {t:Nat} (hd:sy G.prog G.w g h' b hY) (hs:Heap.SameBut b s.heap h'):
  At G cx g env ⟨σ.loc,upd σ.H c (.aig N I U hY)⟩ {s with heap:=h',toks:=t}:=by
 obtain ⟨b0,b1,b2,b3,AA,q0,q1,q2,q3⟩:=a.wd.objs _ _ e
 obtain ⟨d,t0,t1,t2,t3,m,p1,p2,r0,r1,r2,r3⟩:=id AA
 obtain rfl:=a.wd.one _ _ _ _ hm r3
 exact a.ch (.inr ⟨_,_,hm⟩) (hd.rec λ x x x d x=>d.elim λ o r=>r.elim λ x r=>r.elim λ x r=>⟨o,r.1⟩) hs (BZ a.wd hm hs
  ⟨_,_,_,_,AA,q0.sb hs (gF r0 hm (by decide)),q1.sb hs (gF r1 hm (by decide)),q2.sb hs (gF r2 hm (by decide)),hd⟩)
theorem Qj {b:Bi} {es:List E} {x:Expr} {xs:List Expr} {p pos:Pos} (O:GL G K mg mb) (hn:cx.names.lookup (dQ b)=some .globalImplicit) (h:E6 G n C cx es (x::xs))
  (hs: ∀env,starEach (x::xs) env=(false,eval x env)::starEach xs env) (hp: ∀env,(backTo pos (starEach xs env)).any (·.1)=false):SE G n C cx (.blt b es) (.Call (.Name (dQ b) p) (x::xs) [] pos):=λ A env g σ s Q R a hw=>
 by
  refine wpAny_Call_NameR (Sp O hn a ?_)
  have k:wpAny (model G.prog G.w) A (spliced (backTo pos (starEach (x::xs) env))) (λ vs s₁=>wpAny (model G.prog G.w) A (call (Ap b) vs) (aE G cx g env σ.loc Q) cn s₁) cn s:=
   sv (h A env g σ s pos _ R a hw) λ vs s1 g1 σ1 ys e1 a1 ou v1 q1=>up1 e1 ou (S9 R a1 v1 q1.2)
  have r1:=hs env
  have r2:=hp env
  clear hs hp hw h O hn
  revert k
  generalize aE G cx g env σ.loc Q=P
  cases b <;> intro k
  ·exact PyProof.Rows.callWith_builtin1 k r1 r2
  ·exact PyProof.Rows.callWith_builtin1 k r1 r2
  ·exact PyProof.Rows.callWith_builtin1 k r1 r2
  ·exact PyProof.Rows.callWith_builtin1 k r1 r2
  ·exact PyProof.Rows.callWith_builtin1 k r1 r2
  ·exact PyProof.Rows.callWith_type1 k r1 r2
  ·exact PyProof.Rows.callWith_type1 k r1 r2
  ·exact PyProof.Rows.callWith_type1 k r1 r2
theorem Ir {i:Int} {m k:Nat} (h:place i m=some k):seqIndex? i m=some k/\k < m/\(0<=i/\k=i.toNat\/i < 0/\0<=i+m/\k=(i+m).toNat):=by
 by_cases c:0<=i
 ·by_cases c2:i < m
  ·obtain rfl:=Option.some.inj ((show place i m=some i.toNat from (if_pos c).trans (if_pos c2)).symm.trans h)
   have h3: ¬i < 0:=Int.not_lt.mpr c
   refine ⟨?_,by omega, .inl ⟨c,rfl⟩⟩
   simp only [seqIndex?,h3,if_false,Bool.and_eq_true,decide_eq_true_eq]
   rw [if_pos ⟨c,c2⟩]
  ·exact bh ((show place i m=none from (if_pos c).trans (if_neg c2)).symm.trans h)
 ·by_cases c2:0<=i+m
  ·obtain rfl:=Option.some.inj ((show place i m=some (i+m).toNat from (if_neg c).trans (if_pos c2)).symm.trans h)
   have h3:i < 0:=Int.not_le.mp c
   refine ⟨?_,by omega, .inr ⟨h3,c2,rfl⟩⟩
   simp only [seqIndex?,h3,if_true,Bool.and_eq_true,decide_eq_true_eq]
   rw [if_pos (by omega)]
  ·exact bh ((show place i m=none from (if_neg c).trans (if_neg c2)).symm.trans h)
theorem qA {α:Type} {l:List α} {i:Nat}:Mine.df l i=l[i]?:=by
 induction l generalizing i with
 | nil=>rfl
 | cons a l ih=>
  cases i with
  | zero=>rfl
  | succ i=>exact ih
inductive Zg (x i:V) (Q:PV) (σ:St):Prop where
 | dct (es:List (V×V)) (v:V) (e:dictOf σ.H x=some es) (k:cH x i=true) (d:bU es i=some v) (q:Q v σ)
 | seq (xs:List V) (j:Int) (k:Nat) (v:V) (e:cU σ.H x=some xs) (ei:i= .int j) (p:place j xs.length=some k) (n:Mine.df xs k=some v) (q:Q v σ)
theorem Nk {o:Option V} {F:V->Prop} (h:match o with | some x=>F x | .none=>False): ∃x,o=some x/\F x:=by
 cases o with
 | none=>exact h.elim
 | some x=>exact ⟨x,rfl,h⟩
theorem Qu {x i:V} (h:b7 x i Q σ):Zg x i Q σ:=by
 unfold b7 at h
 cases e:dictOf σ.H x with
 | some es=>
  rw [e] at h
  obtain ⟨v,e2,q⟩:=Nk (o:=bU es i) (F:=λ v=>Q v σ) h.2
  exact .dct es v e h.1 e2 q
 | none=>
  rw [e] at h
  cases e2:cU σ.H x with
  | none=>rw [e2] at h; exact h.elim
  | some xs=>
   rw [e2] at h
   cases i with
   | int j=>
    have h:match (generalizing:=false) place j xs.length with | some k=>(match (generalizing:=false) Mine.df xs k with | some v=>Q v σ | .none=>False) | .none=>False:=h
    cases e3:place j xs.length with
    | none=>rw [e3] at h; exact h.elim
    | some k=>
     rw [e3] at h
     obtain ⟨v,e4,q⟩:=Nk (o:=Mine.df xs k) (F:=λ v=>Q v σ) h
     exact .seq xs j k v e2 rfl e3 e4 q
   | _=>exact h.elim
inductive Zf (G:Pg) (cx:Cx) (g:Gm) (env:Env) (σ:St) (s:Shared) (A:Around) (Q:PV) (u v:Value):Prop where
 | mk (k:wpAny (model G.prog G.w) A (getItem u v) (aE G cx g env σ.loc Q) cn s) (T:String) (id:String) (t:s.TypeIs u T) (l:typeLookup (.type T) "__getitem__" =pure (some (.builtin id)))
theorem Gy {x i:V} {u v:Value} (R:cJ A n) (a:At G cx g env σ s) (vx:Val g x u) (vi:Val g i v) (h:b7 x i Q σ):Zf G cx g env σ s A Q u v:=by
 have hl:lim=1000000:=rfl
 rcases Qu h with ⟨es,w,e,hk,hd,q⟩ | ⟨xs,j,k,w,e,rfl,hp,hn,q⟩
 ·rcases ug a vx e with ⟨b,rfl,rfl,_,_,hs,_,kvs,vL,hp⟩ | ⟨c,b,N,I,U,rfl,rfl,_,_,hs,_,xs,vL,hp⟩
  ·obtain ⟨j,rfl⟩:=kT hk
   obtain ⟨t,rfl⟩:=vi.inv
   rcases hp.get j with ⟨e1,e2⟩ | ⟨y,w',e1,e2,vw⟩
   ·exact bh (e1.symm.trans hd)
   ·obtain rfl:=Option.some.inj (e1.symm.trans hd)
    exact ⟨wpAny_getItem_of (intKind_is _ _ j _) vL.mapOf e2 (aE.now (a.toks _) vw q),_,_,vL.typeIs,F.slot_dict_getitem.lookup⟩
  ·obtain ⟨p,r,rfl⟩:=jj hk
   obtain ⟨c',t1,t2,m,rfl,_,e1⟩:=nZ a.wd vi
   rcases hp.get p r with ⟨e3,e2⟩ | ⟨y,a',w',e3,e2,vw⟩
   ·exact bh (e3.symm.trans hd)
   ·obtain rfl:=Option.some.inj (e3.symm.trans hd)
    exact ⟨wpAny_getItem_heap (knd:=tupleKind (intKind G.prog G.w)) (FG R) (za e1) vL e2 (aE.now (a.toks _) vw q),_,_,vL.typeIs,F.slot_dict_getitem.lookup⟩
 ·obtain ⟨t,rfl⟩:=vi.inv
  obtain ⟨p1,p2,p3⟩:=Ir hp
  rcases Et a.wd vx e with ⟨b,its,rfl,jL,vs,sL⟩ | ⟨b,its,m,rfl,_,jL,vs,sL⟩
  ·have l:xs.length=its.size:=vs.length
   obtain ⟨u,e1,e2⟩:=vs.df hn
   have e1:its[k]?=some u:=Array.getElem?_toList.symm.trans e1
   refine ⟨?_,_,_,(PlainList.isList jL).typeIs,list_getitem_lookup⟩
   rcases p3 with ⟨c,rfl⟩ | ⟨c,c2,rfl⟩
   ·exact wpAny_getItem_list (PlainList.isList jL) c (by omega) e1 (aE.now (cx:=cx) a e2 q)
   ·rw [l] at c2 e1
    exact wpAny_getItem_list_neg (PlainList.isList jL) c (by omega) (by omega) e1 (aE.now (cx:=cx) a e2 q)
  ·have l:xs.length=its.size:=vs.length
   obtain ⟨u,e1,e2⟩:=vs.df hn
   exact ⟨PyProof.Rows.getItem_tuple ⟨_,jL,rfl,_,rfl⟩ (by omega) (by omega) (l▸p1) (Array.getElem?_toList.symm.trans e1) (aE.now a e2 q),_,_,⟨_,jL,rfl⟩,F.slot_tuple_getitem.lookup⟩
theorem Qs {e i:E} {x y:Expr} {pos:Pos} (h1:SE G n C cx e x) (h2:SE G n C cx i y) (hs: ∀o v:Value,subscripted y false o v=operate [o,v] (getItem o v)):SE G n C cx (.sub e i) (.Subscript x y pos):=λ A env g σ s Q R a hw=>
 Subscript_ (two h1 h2 R a hw λ u' v' s' g' σ' u v e a' ag v1 v2 q=>up1 e ag <| by
  obtain ⟨k,T,id,hT,hl⟩:=Gy R a' v1 v2 q
  exact tail_any hT hl k (hs u' v'))
end
end
section
open PySem PySem.W PyProof.Rows PySem.SeqAt
noncomputable def zj:Lm->Str
 | .append=>Str.ofString "append" | .pop=>Str.ofString "pop" | .nB=>Str.ofString "pop" | .insert=>Str.ofString "insert" | .get=>Str.ofString "get"
section
variable {G:Pg} {cx:Cx} {g:Gm} {env:Env} {σ:St} {s:Shared} {n:Nat} {A:Around} {Q:PV} {C:CT} {K:Frag} {mg mb:Str->Option Value}
theorem j1 {h:Heap} {b:Addr} {its:Array Value} (hp:h.PlainList b its) (f:Array Value->Array Value):(h.update b (Obj.mapSeq f)).PlainList b (f its)/\Heap.SameBut b h (h.update b (Obj.mapSeq f)):=by
 exact ⟨hp.elim λ m e=>⟨_,get?_update_seq e f⟩,Heap.SameBut.update ..⟩
theorem last_eq {its:Array Value} {v:Value} (h:its.toList.getLast?=some v):its[its.size - 1]?=some v:=by
 rw [List.getLast?_eq_getElem?] at h
 simpa using h
set_option tactic.hygienic true in
theorem Dz (its:Array Value):(its.eraseIdxIfInBounds (its.size - 1)).toList=its.toList.dropLast:=by
 simp only [Array.eraseIdxIfInBounds]
 split
 ·rw [Array.toList_eraseIdx,List.dropLast_eq_take,List.eraseIdx_eq_take_drop_succ]
  simp
  lia
 ·rename_i h
  have:its= #[]:=by apply Array.eq_empty_of_size_eq_zero; lia
  subst this; rfl
theorem AK {v:Value} {r:List Value} (its:Array Value) (h:its.toList=v::r):(its.eraseIdxIfInBounds 0).toList=r:=by
 have hs:0 < its.size:=by rw [<- Array.length_toList,h]; exact Nat.succ_pos _
 simp only [Array.eraseIdxIfInBounds,hs,dif_pos,Array.toList_eraseIdx]
 rw [h]; rfl
theorem Bk (its:Array Value) (k:Nat) (v:Value) (h:k<=its.size):((its.extract 0 k).push v++its.extract k).toList=its.toList.take k++v::its.toList.drop k:=by
 simp [Array.toList_append,Array.toList_extract,List.extract,List.take_of_length_le]
noncomputable def aaE (G:Pg) (A:Around) (nm:Str) (u:Value) (us:List Value) (P:Value->Shared->Prop) (s:Shared):Prop:=
 ∃T id,PlainAttrs T/\Slot T nm id/\typeOf (.builtin id)=pure (.type "method_descriptor")/\s.TypeIs u T/\(∀a,u= .ref a->∃ob,s.heap.get? a=some ob/\ob.dict=none)/\wpAny (model G.prog G.w) A (call (.builtin id) (u::us)) P cn s
noncomputable def lmT (m:Lm):String:=match m with | .get=> "dict" | _=> "list"
noncomputable def Uu (m:Lm):String:=match m with | .append=> "list.append" | .pop=> "list.pop" | .nB=> "list.pop" | .insert=> "list.insert" | .get=> "dict.get"
theorem L5 (m:Lm):PlainAttrs (lmT m)/\Slot (lmT m) (zj m) (Uu m)/\typeOf (.builtin (Uu m))=pure (.type "method_descriptor"):=by
 cases m with
 | append=>exact ⟨F.plainAttrs_list,F.slot_list_append,F.type_list_append⟩
 | pop=>exact ⟨F.plainAttrs_list,F.slot_list_pop,F.type_list_pop⟩
 | nB=>exact ⟨F.plainAttrs_list,F.slot_list_pop,F.type_list_pop⟩
 | insert=>exact ⟨F.plainAttrs_list,F.slot_list_insert,F.type_list_insert⟩
 | get=>exact ⟨F.plainAttrs_dict,F.slot_dict_get,F.type_dict_get⟩
theorem Cm {H H':Hp} {o:V} {xs ys:List V} (h:cU H o=some xs) (h2:lg H o ys=some H'):dZ H o=some xs:=by
 cases o <;> first | exact h | exact bh h2
theorem qy {H:Hp} {b:Nat} {xs:List V} (e:H b=some (.list xs)):dZ H (.ref b)=some xs:=by
 show (match H b with | some (.list xs)=>some xs | _=> .none)=_; rw [e]
theorem qI {H:Hp} {b:Nat} {xs ys:List V} (e:H b=some (.list xs)):lg H (.ref b) ys=some (upd H b (.list ys)):=by
 show (match H b with | some (.list _)=>some (upd H b (.list ys)) | _=> .none)=_; rw [e]
theorem XS {o:Option Hp} {F:Hp->Prop} (h:match o with | some x=>F x | .none=>False): ∃x,o=some x/\F x:=by
 cases o with
 | none=>exact h.elim
 | some x=>exact ⟨x,rfl,h⟩
theorem UQ {o:V} {F:Nat->List V->Prop} {H:Hp} (h:match o with | .ref a=>(match H a with | some (.list xs)=>F a xs | _=>False) | _=>False): ∃a xs,o= .ref a/\H a=some (.list xs)/\F a xs:=by
 cases o with
 | ref a=>exact (hl h).elim λ xs q=>⟨a,xs,rfl,q⟩
 | _=>exact h.elim
theorem aav {vs:List V} {P:Prop} (h:match vs with | [.int 0]=>P | _=>False):vs= [.int 0]/\P:=by
 cases vs with
 | nil=>exact h.elim
 | cons v r=>
  cases v with
  | int i=>
   rcases i with (_ | i) | i
   ·cases r with
    | nil=>exact ⟨rfl,h⟩
    | cons _ _=>exact h.elim
   ·exact h.elim
   ·exact h.elim
  | _=>exact h.elim
theorem aaz {vs:List V} {F:V->V->Prop} (h:match vs with | [x,y]=>F x y | _=>False): ∃x y,vs= [x,y]/\F x y:=by
 cases vs with
 | nil=>exact h.elim
 | cons x r=>
  cases r with
  | nil=>exact h.elim
  | cons y r=>
   cases r with
   | nil=>exact ⟨x,y,rfl,h⟩
   | cons _ _=>exact h.elim
theorem Xx {m:Lm} {o:V} {u:Value} {vs:List V} {us:List Value} (R:cJ A n) (a:At G cx g env σ s) (vo:Val g o u) (vl:Vals g vs us) (h:xH m o vs Q σ):
  wpAny (model G.prog G.w) A (call (.builtin (Uu m)) (u::us)) (aE G cx g env σ.loc Q) cn s:=by
 cases m with
 | append=>
  replace h:=XK h
  obtain ⟨v,rfl,h⟩:=h
  obtain ⟨w,rfl,v1⟩:=vl.vm
  replace h:=Cu (o:=cU σ.H o) (F:=λ xs=>xs.length < lim/\(match lg σ.H o (xs++ [v]) with | some H'=>Q .none ⟨σ.loc,H'⟩ | .none=>False)) h
  obtain ⟨xs,e,hn,h⟩:=h
  replace h:=XS (o:=lg σ.H o (xs++ [v])) (F:=λ H'=>Q .none ⟨σ.loc,H'⟩) h
  obtain ⟨H',e2,h⟩:=h
  obtain ⟨b,its,rfl,hp,vs,hx,k⟩:=a.IC vo (Cm e e2) e2
  exact wpAny_list_append_plain hp (λ h' jL hs=>⟨g,⟨σ.loc,H'⟩, .none, .refl g,k h' s.toks _ jL hs (by rw [Array.toList_push]; exact vs.append (Vals.one v1)) (by rw [List.length_append]; exact hn), .refl _ _, .none,h⟩) (pY vs.length hx)
 | pop=>
  cases vs with
  | cons _ _=>exact h.elim
  | nil=>
   obtain rfl:=vl.inv
   replace h:=UQ h
   obtain ⟨b,xs,rfl,e,h⟩:=h
   replace h:=Nk (o:=xs.getLast?) (F:=λ v=>Q v ⟨σ.loc,upd σ.H b (.list xs.dropLast)⟩) h
   obtain ⟨y,hy,h⟩:=h
   obtain ⟨b',its,rfl,hp,vs,Ph,k⟩:=a.IC vo (qy e) (qI (ys:=xs.dropLast) e)
   obtain ⟨w,w1,w2⟩:=vs.getLast hy
   obtain ⟨m,hm⟩:=id hp
   obtain ⟨p1,p2⟩:=j1 hp (λ xs=>xs.eraseIdxIfInBounds (its.size - 1))
   exact call_meets F.slot_list_pop ⟨_,hm,rfl⟩ F.entry_list_pop (F.args_list_pop_1 _) (PySem.MeetsSeq.list_pop_last b' its m w (last_eq w1) (pY vs.length Ph))
    ⟨hm,⟨g,⟨σ.loc,_⟩,y, .refl g,k _ s.toks _ p1 p2 (by rw [Dz]; exact vs.dropLast) (Nat.le_trans (by rw [List.length_dropLast]; exact Nat.sub_le _ _) Ph), .refl _ _,w2,h⟩⟩
 | nB=>
  replace h:=aav h
  obtain ⟨rfl,h⟩:=h
  obtain ⟨w₀,rfl,v1⟩:=vl.vm
  obtain ⟨t,rfl⟩:=v1.inv
  cases o with
  | ref b=>
   replace h:match (generalizing:=false) σ.H b with | some (.list (v::r))=>r.length<=lim/\Q v ⟨σ.loc,upd σ.H b (.list r)⟩ | _=>False:=h
   cases e:σ.H b with
   | none=>rw [e] at h; exact h.elim
   | some o=>
    rw [e] at h
    cases o with
    | list xs=>
     cases xs with
     | nil=>exact h.elim
     | cons y r=>
      obtain ⟨hr,h⟩:=h
      obtain ⟨b',its,rfl,hp,vs,Ph,k⟩:=a.IC vo (qy e) (qI (ys:=r) e)
      obtain ⟨m,hm⟩:=id hp
      obtain ⟨p1,p2⟩:=j1 hp (λ xs=>xs.eraseIdxIfInBounds 0)
      obtain ⟨w',r',ht,v0,vr⟩:=vs.inv
      have hs:its.size=r'.length+1:=congrArg List.length ht
      have hx:its[0]?=some w':=Array.getElem?_toList.symm.trans (by rw [ht]; rfl)
      exact call_meets F.slot_list_pop ⟨_,hm,rfl⟩ F.entry_list_pop (F.args_list_pop_2 _ _)
       (PySem.MeetsSeq.list_pop_at b' its m 0 _ 0 w' (by decide) (by rw [hs]; simp [seqIndex?]) hx (pY vs.length Ph))
       ⟨hm,⟨g,⟨σ.loc,_⟩,y, .refl g,k _ s.toks _ p1 p2 (by rw [AK its ht]; exact vr) hr, .refl _ _,v0,h⟩⟩
    | _=>exact h.elim
  | _=>exact h.elim
 | insert=>
  replace h:match (generalizing:=false) vs with
   | [.int i,v]=>(match (generalizing:=false) o with | .ref a=>(match (generalizing:=false) σ.H a with | some (.list xs)=>(0<=i/\i<=xs.length/\xs.length < lim)/\Q .none ⟨σ.loc,upd σ.H a (.list (sd xs i.toNat v))⟩ | _=>False) | _=>False)
   | _=>False:=h
  have: ∃i x,vs= [.int i,x]:=by
   cases vs with
   | nil=>exact h.elim
   | cons v r=>
    cases v with
    | int i=>
     cases r with
     | nil=>exact h.elim
     | cons x r=>
      cases r with
      | nil=>exact ⟨i,x,rfl⟩
      | cons _ _=>exact h.elim
    | _=>exact h.elim
  obtain ⟨i,x,rfl⟩:=this
  obtain ⟨w₀,w,rfl,v1,v2⟩:=vl.EJ
  obtain ⟨tk,rfl⟩:=v1.inv
  replace h:=UQ (F:=λ b xs=>(0<=i/\i<=xs.length/\xs.length < lim)/\Q .none ⟨σ.loc,upd σ.H b (.list (sd xs i.toNat x))⟩) (H:=σ.H) (o:=o) h
  obtain ⟨b,xs,rfl,e,⟨h0,h1,h2⟩,h⟩:=h
  obtain ⟨b',its,rfl,hp,vs,Ph,k⟩:=a.IC vo (qy e) (qI (ys:=sd xs i.toNat x) e)
  have l:xs.length=its.size:=vs.length
  have hl:lim=1000000:=rfl
  obtain ⟨m,hm⟩:=id hp
  obtain ⟨p1,p2⟩:=j1 hp (λ xs=>have k:=if i < 0 then (i+(xs.size:Int)).toNat else min i.toNat xs.size; (xs.extract 0 k).push w++xs.extract k)
  refine call_meets F.slot_list_insert ⟨_,hm,rfl⟩ F.entry_list_insert (F.args_list_insert_3 _ _ _) (PySem.AutoSeq1.list_insert_list_int_val_1 b' its m i tk w ?_ (Nat.le_trans (Nat.le_of_lt (l▸h2)) jH))
   ⟨hm,⟨g,⟨σ.loc,_⟩, .none, .refl g,k _ _ _ p1 p2 ?_ ?_, .refl _ _, .none,h⟩⟩
  ·simp [Builtin.List.listFitsIndex]; omega
  ·have hm2:(if i < 0 then (i+(its.size:Int)).toNat else min i.toNat its.size)=i.toNat:=by
    rw [if_neg (by omega)]; omega
   show Vals g _ (((its.extract 0 (if i < 0 then (i+(its.size:Int)).toNat else min i.toNat its.size)).push w++its.extract (if i < 0 then (i+(its.size:Int)).toNat else min i.toNat its.size)).toList)
   rw [hm2,Bk _ _ _ (by omega)]
   exact (vs.take _).append (.cons v2 (vs.drop _))
  ·rw [sd,List.length_append,List.length_cons,List.length_take,List.length_drop]; omega
 | get=>
  replace h:=aaz h
  obtain ⟨k,d,rfl,h⟩:=h
  obtain ⟨w1,w2,rfl,v1,v2⟩:=vl.EJ
  replace h:match (generalizing:=false) dictOf σ.H o with | some es=>cH o k=true/\Q ((bU es k).getD d) σ | .none=>False:=h
  cases e:dictOf σ.H o with
  | none=>rw [e] at h; exact h.elim
  | some es=>
   rw [e] at h
   obtain ⟨hk,h⟩:=h
   rcases ug a vo e with ⟨b,rfl,rfl,_,_,hs,_,kvs,hd,hp⟩ | ⟨c,b,N,I,U,rfl,rfl,_,_,hs,_,xs,hd,hp⟩
   ·obtain ⟨j,rfl⟩:=kT hk
    obtain ⟨t,rfl⟩:=v1.inv
    refine call_meetsIn PySem.F.slot_dict_get hd.typeIs PySem.F.entry_dict_get (PySem.F.args_dict_get_3 _ _ _) (meets_dict_get_default (intKind G.prog G.w) b (intKind_is _ _ j _) hs _) ⟨_,hd.mapOf,?_⟩
    rcases hp.get j with ⟨e1,e2⟩ | ⟨y,w,e1,e2,vw⟩
    ·rw [e1] at h; rw [e2]; exact aE.now (a.toks _) v2 h
    ·rw [e1] at h; rw [e2]; exact aE.now (a.toks _) vw h
   ·obtain ⟨p,q,rfl⟩:=jj hk
    obtain ⟨c',t1,t2,m,rfl,_,e1⟩:=nZ a.wd v1
    refine call_meetsIn PySem.F.slot_dict_get hd.typeIs PySem.F.entry_dict_get (PySem.F.args_dict_get_3 _ _ _) (meetsH_dict_get_default (tupleKind (intKind G.prog G.w)) b _ hs _) ⟨FG R,_,xs,za e1,hd,?_⟩
    rcases hp.get p q with ⟨e3,e2⟩ | ⟨y,a',w,e3,e2,vw⟩
    ·rw [e3] at h; rw [e2]; exact aE.now (a.toks _) v2 h
    ·rw [e3] at h; rw [e2]; exact aE.now (a.toks _) vw h
end
end
section
open PySem PySem.W PyProof.Rows PySem.SeqAt
section
variable {G:Pg} {cx:Cx} {g:Gm} {env:Env} {σ:St} {s:Shared} {n:Nat} {A:Around} {Q:PV} {C:CT} {K:Frag} {mg mb:Str->Option Value}
theorem UO {m:Lm} {o:V} {u:Value} (a:At G cx g env σ s) (vo:Val g o u) (h:lV m σ.H o):
  s.TypeIs u (lmT m)/\(∀b,u= .ref b->∃ob,s.heap.get? b=some ob/\ob.dict=none):=by
 have hl: ∀{t:String},t= "list" ->(∃xs,dZ σ.H o=some xs)->s.TypeIs u t/\(∀b,u= .ref b->∃ob,s.heap.get? b=some ob/\ob.dict=none):=by
  rintro _ rfl ⟨ys,hy⟩
  obtain ⟨b,its,rfl,⟨j,hp⟩,_⟩:=pD a.wd vo hy
  exact ⟨⟨_,hp,rfl⟩,λ c e=>by obtain rfl:=Value.ref.inj e; exact ⟨_,hp,rfl⟩⟩
 match m,h with
 | .append,h=>exact hl rfl h
 | .pop,h=>exact hl rfl h
 | .nB,h=>exact hl rfl h
 | .insert,h=>exact hl rfl h
 | .get,⟨es,he⟩=>
  rcases ug a vo he with ⟨b,_,rfl,_,_,_,_,kvs,hd,_⟩ | ⟨c,b,N,I,U,_,rfl,_,_,_,_,xs,hd,_⟩
  ·obtain ⟨o,_,_,p,q,_⟩:=id hd; exact ⟨hd.typeIs,λ c e=>by obtain rfl:=Value.ref.inj e; exact ⟨o,p,q.2.1⟩⟩
  ·obtain ⟨o,_,_,p,q,_⟩:=id hd; exact ⟨hd.typeIs,λ c e=>by obtain rfl:=Value.ref.inj e; exact ⟨o,p,q.2.1⟩⟩
theorem callWith_meth {pos:Pos} {id:String} {u:Value} {xs:List Expr} {P E:Value->Shared->Prop} {M:Model}
  (hp:(backTo pos (starEach xs env)).any (·.1)=false)
  (h:wpAny M A (spliced (backTo pos (starEach xs env))) (λ vs s₁=>wpAny M A (call (.builtin id) (u::vs)) P E s₁) E s):
  wpAny M A (callWith pos (.builtin id) [u] (backTo pos (starEach xs env)) []) P E s:=by
 refine Calls.callWith_builtin hp ?_
 cases e:backTo pos (starEach xs env) with
 | nil=>
  rw [e] at h
  unfold evalArgs
  show wpAny M A (spliced [] >>= _) _ E s
  refine wpAny_bind (wpAny_mono h (λ vs s' h'=>?_) λ y y x=>x)
  refine wpAny_holding ?_
  exact wpAny_bind (wpAny_pure (wpAny_bind (wpAny_pure (wpAny_pure h'))))
 | cons p r=>
  obtain ⟨b,t⟩:=p
  have:b=false:=by rw [e] at hp; simp at hp; exact hp.1
  subst this
  rw [e] at h
  exact Calls.evalArgs_plain h
structure rW (o:Expr) (name:Str) (apos pos:Pos) (args:List Expr):Prop where
 base: ∀env,attributeBase o name env (eval o env)=eval o env
 few: ∀env,((backTo pos (starEach args env)).all (λ x=>!x.1) && (backToKw pos (keywordEach [] env)).all (λ x=>x.1.isSome)
   && decide (args.length+([]:List Keyword).length+(if ([]:List Keyword).isEmpty then 0 else 1) < 30))=true
 line:(apos.endLine == pos.line)=true
theorem Oa {l:List (Bool×Sem Value)} (h:l.all (λ x=>!x.1)=true):l.any (·.1)=false:=by
 induction l with
 | nil=>rfl
 | cons a r ih=>
  simp only [List.all_cons,Bool.and_eq_true,Bool.not_eq_true'] at h
  simp only [List.any_cons,h.1,ih h.2,Bool.or_false]
theorem rW.plain {o:Expr} {name:Str} {apos pos:Pos} {args:List Expr} (F:rW o name apos pos args) (env:Env):(backTo pos (starEach args env)).any (·.1)=false:=by
 have:=F.few env
 simp only [Bool.and_eq_true] at this
 exact Oa this.1.1
theorem U3 {m:Lm} {o:E} {es:List E} {x:Expr} {xs:List Expr} {ap pos:Pos} (F:rW x (zj m) ap pos xs) (h1:SE G n C cx o x) (h2:E6 G n C cx es xs):SE G n C cx (.lm m o es) (.Call (.Attribute x (zj m) ap) xs [] pos):=λ A env g σ s Q R a hw=>
 wpAny_Call_method_late (F.base env) (F.few env) F.line rfl <| bR (h1 A env g σ s _ R a hw) λ ov s1 g1 σ1 y e1 a1 ou v1 q1=>by
  obtain ⟨hT,hd⟩:=UO a1 v1 q1.1
  obtain ⟨f1,f2,f3⟩:=L5 m
  exact ⟨_,_,f1,f2,f3,hT,hd,callWith_meth (F.plain env) (sv (h2 A env g1 σ1 s1 pos _ R a1 q1.2) λ vs s2 g2 σ2 ys e2 a2 NK v2 q2=>up1 (e1.trans e2) (ou.trans NK) (Xx R a2 (v1.le e2.le) v2 q2.2))⟩
end
end
section
open PySem PySem.W PyProof.Rows PySem.SeqAt
section
variable {G:Pg} {cx:Cx} {g:Gm} {env:Env} {σ:St} {s:Shared} {n:Nat} {A:Around} {Q:PV} {QF:PF} {C:CT} {K:Frag} {mg mb:Str->Option Value}
theorem IV {k' k:Int} (c:k'≠k) (w v:Value) (r:List (Int×Value)):stored ((k',w)::r) k v=(k',w)::stored r k v:=by
 unfold stored
 simp only [List.any_cons,c,decide_false,Bool.false_or,List.map_cons,if_false]
 split <;> rfl
theorem IU {k:Int} (w v:Value) {r:List (Int×Value)} (h:k∉r.map (·.1)):stored ((k,w)::r) k v=(k,v)::r:=by
 unfold stored
 simp only [List.any_cons,decide_true,Bool.true_or,if_true,List.map_cons]
 exact congrArg _ ((List.map_congr_left λ x hx=>if_neg λ e=>h (List.mem_map.mpr ⟨x,hx,e⟩)).trans (List.map_id _))
theorem mj.set {es:List (V×V)} {kvs:List (Int×Value)} (h:mj g es kvs) (nd:(kvs.map (·.1)).Nodup) (k:Int) {x:V} {v:Value} (hv:Val g x v):mj g (cR es (.int k) x) (stored kvs k v):=by
 induction h with
 | nil=>exact .cons hv .nil
 | @cons k' y w r r' hw hr ih=>
  obtain ⟨n1,n2⟩:=List.nodup_cons.mp nd
  by_cases c:k'=k
  ·subst c
   rw [IU w v n1,show cR ((.int k',y)::r) (.int k') x=(.int k',x)::r from if_pos (beq_self_eq_true _)]
   exact .cons hv hr
  ·rw [IV c,show cR ((.int k',y)::r) (.int k) x=(.int k',y)::cR r (.int k) x from if_neg λ e=>c (beq_iff_eq.mp e)]
   exact .cons hw (ih n2)
theorem Ox (es:List (V×V)) (k v:V):(cR es k v).length<=es.length+1:=by
 induction es with
 | nil=>exact Nat.le_refl _
 | cons e r ih=>
  obtain ⟨a,b⟩:=e
  show (if jN a k then _ else _:List (V×V)).length<=_
  by_cases c:jN a k=true
  ·rw [if_pos c]; exact Nat.le_succ _
  ·rw [if_neg c]; exact Nat.succ_le_succ ih
theorem EF {k' k:List Int} (c:k'≠k) (a' a:Addr) (w v:Value) (r:List (List Int×Addr×Value)):storedH ((k',a',w)::r) k a v=(k',a',w)::storedH r k a v:=by
 unfold storedH
 rw [show atKey ((k',a',w)::r) k=atKey r k from by simp only [atKey,List.find?_cons,c,decide_false]]
 split
 ·simp only [List.map_cons,putAt,c,if_false]
 ·rfl
theorem ED {k:List Int} (a' a:Addr) (w v:Value) {r:List (List Int×Addr×Value)} (h:k∉r.map (·.1)):storedH ((k,a',w)::r) k a v=(k,a',v)::r:=by
 unfold storedH
 rw [if_pos (by simp only [atKey,List.find?_cons,decide_true,Option.map_some,Option.isSome_some])]
 simp only [List.map_cons,putAt,if_true]
 exact congrArg _ ((List.map_congr_left λ x hx=>if_neg λ e=>h (List.mem_map.mpr ⟨x,hx,e⟩)).trans (List.map_id _))
theorem ml.set {es:List (V×V)} {xs:List (List Int×Addr×Value)} (h:ml g es xs) (nd:(xs.map (·.1)).Nodup) (p q:Int) {a:Addr} {o:Obj} (ha:g a= .fz o) {x:V} {v:Value} (hv:Val g x v):
  ml g (cR es (.tup [.int p, .int q]) x) (storedH xs [p,q] a v):=by
 induction h with
 | nil=>exact .cons ha hv .nil
 | @cons p' q' a' o' y w r r' OZ hw hr ih=>
  obtain ⟨n1,n2⟩:=List.nodup_cons.mp nd
  by_cases c: [p',q']= [p,q]
  ·obtain ⟨rfl,c'⟩:=List.cons.inj c
   obtain rfl:=(List.cons.inj c').1
   rw [ED a' a w v n1,show cR ((.tup [.int p', .int q'],y)::r) (.tup [.int p', .int q']) x=(.tup [.int p', .int q'],x)::r from
    if_pos (Bool.and_eq_true _ _▸⟨beq_self_eq_true _,Bool.and_eq_true _ _▸⟨beq_self_eq_true _,rfl⟩⟩)]
   exact .cons OZ hv hr
  ·rw [EF c,show cR ((.tup [.int p', .int q'],y)::r) (.tup [.int p, .int q]) x=(.tup [.int p', .int q'],y)::cR r (.tup [.int p, .int q]) x from
    if_neg λ e=>c (by rw [beq_iff_eq.mp (an e).1,beq_iff_eq.mp (an (an e).2).1])]
   exact .cons OZ hw (ih n2)
theorem Qb {α:Type} (l:List α) (i:Nat) (x:α):put l i x=l.set i x:=by
 induction l generalizing i with
 | nil=>rfl
 | cons a l ih=>
  cases i with
  | zero=>rfl
  | succ i=>exact congrArg _ (ih i)
theorem MZ {H:Hp} {b:Nat} {es hY:List (V×V)} (e:H b=some (.dict es)):k9 H (.ref b) hY=some (upd H b (.dict hY)):=by
 show (match H b with | some (.dict _)=>some (upd H b (.dict hY)) | _=> .none)=_; rw [e]
theorem IA {H:Hp} {b:Nat} {N I U:List V} {es hY:List (V×V)} (e:H b=some (.aig N I U es)):k9 H (.part b 3) hY=some (upd H b (.aig N I U hY)):=by
 show (match H b with | some (.aig N I U _)=>some (upd H b (.aig N I U hY)) | _=> .none)=_; rw [e]
theorem M0 {o i v:V} {uo ui uv:Value} (R:cJ A n) (a:At G cx g env σ s) (vo:Val g o uo) (vi:Val g i ui) (vv:Val g v uv) (h:bC o i v QF σ):
  wpAny (model G.prog G.w) A (setItem uo ui uv) (λ x s'=>gJ G cx g env QF .next s') cn s:=by
 unfold bC at h
 cases e:dictOf σ.H o with
 | some es=>
  rw [e] at h
  obtain ⟨⟨hk,hlen,_⟩,h⟩:=h
  have dl: ∀k,(cR es k v).length<=lim:=λ k=>Nat.le_trans (Ox es k v) hlen
  rcases ug a vo e with ⟨b,rfl,rfl,e1,hm,hs,_,kvs,hd,hp⟩ | ⟨c,b,N,I,U,rfl,rfl,e1,hm,hs,_,xs,hd,hp⟩
  ·obtain ⟨j,rfl⟩:=kT hk
   obtain ⟨t,rfl⟩:=vi.inv
   rw [MZ e1] at h
   refine wpAny_setItem_pairs (intKind_is _ _ j _) hd (λ h' vL Pb=>?_) (Nat.le_of_lt (Nat.lt_of_lt_of_le (hp.length▸hlen) jH))
   obtain ⟨_,_,_,_,_,_,_,_,nd⟩:=id hd
   exact ⟨g,⟨σ.loc,_⟩, .next, .refl g,a.aax (es:=es) hm ⟨hs,dl _,_,vL,hp.set nd j vv⟩ Pb, .next,h⟩
  ·obtain ⟨p,q,rfl⟩:=jj hk
   obtain ⟨c',t1,t2,m,rfl,hf,e2⟩:=nZ a.wd vi
   rw [IA e1] at h
   refine wpAny_setItem_heap (knd:=tupleKind (intKind G.prog G.w)) (FG R) (za e2) hd (λ h' vL Pb=>?_) (Nat.le_of_lt (Nat.lt_of_lt_of_le (hp.length▸hlen) jH))
   obtain ⟨_,_,_,_,_,_,_,_,nd⟩:=id hd
   exact ⟨g,⟨σ.loc,_⟩, .next, .refl g,a.aay hm e1 ⟨hs,dl _,_,vL,hp.set nd p q hf vv⟩ Pb, .next,h⟩
 | none=>
  rw [e] at h
  cases o with
  | ref b=>
   cases i with
   | int j=>
    obtain ⟨xs,e,⟨h0,h1⟩,h⟩:=hl h
    obtain ⟨t,rfl⟩:=vi.inv
    obtain ⟨b',its,rfl,hp,vs,Ph,k⟩:=a.IC vo (qy e) (qI (ys:=put xs j.toNat v) e)
    have l:xs.length=its.size:=vs.length
    obtain ⟨m,hm⟩:=id hp
    obtain ⟨p1,p2⟩:=j1 hp (λ xs=>xs.setIfInBounds j.toNat uv)
    refine ki_setAt hm h0 (by unfold lim at Ph; omega) (l▸h1) ⟨g,⟨σ.loc,_⟩, .next, .refl g,k _ s.toks _ p1 p2 ?_ (by rw [Qb,List.length_set]; exact Ph), .next,h⟩
    rw [Array.toList_setIfInBounds]
    exact vs.put vv
   | _=>exact h.elim
  | _=>exact h.elim
theorem Ey {o i e:E} {x y z:Expr} {p pos:Pos} (h1:SE G n C cx o x) (h2:SE G n C cx i y) (h3:SE G n C cx e z) (hs: ∀env,swapsWith z (some (.Subscript x y p)) pos.line env=pure false):SS G n C cx (.bB o i e) (.Assign [.Subscript x y p] z pos):=λ A env g σ s Q R a hw=>by
 refine wpAny_Assign_Subscript (bR (h3 A env g σ s _ R a hw) λ v s1 g1 σ1 u e1 a1 ou v1 q1=>?_) (hs env)
 exact two h1 h2 R a1 q1 λ ov iv s2 g2 σ2 u2 u3 e2 a2 NK v2 v3 q2=>
  wpAny_mono (M0 R a2 v2 v3 (v1.le e2.le) q2) (λ j j p=>p.up (e1.trans e2)) λ j j e=>e
theorem zB:fillsInplaceSlot (.type "list") "add" (Operator.Add == .Add)=pure false:=by
 unfold fillsInplaceSlot
 show (typeLookup (.type "list") (dunderI "add") >>= λ fi=>pure (fi.isSome && !isSeqSlot fi))=pure false
 rw [F.slot_list_iadd.lookup]
 have:isSeqSlot (some (.builtin "list.__iadd__"))=true:=by decide+kernel
 show pure (true && !isSeqSlot (some (.builtin "list.__iadd__")))=(pure false:Sem Bool)
 rw [this]; rfl
theorem wO:seqSlot? (.type "list") (dunderI "add")=pure (some (.builtin "list.__iadd__")):=PyProof.Rows.seqSlot_of F.slot_list_iadd.lookup (by decide+kernel)
theorem D0 {M:Model} {E:Value->Shared->Prop} {b c:Addr} {P:Value->Shared->Prop} (hb:s.TypeIs (.ref b) "list") (hc:s.TypeIs (.ref c) "list")
  (h:wpAny M A (call (.builtin "list.__iadd__") [.ref b, .ref c]) P E s):wpAny M A (inplaceOp .Add (.ref b) (.ref c)) P E s:=by
 unfold inplaceOp
 refine wpAny_holding ?_
 refine wpAny_bind (wpAny_typeOf hb (wpAny_bind (wpAny_of_eq zB ?_)))
 show wpAny M A (if false=true then _ else _) P E s
 rw [if_neg Bool.false_ne_true]
 refine wpAny_bind (PyProof.Rows.binaryOp1_none (nm:= "add") hb hc noFill_list_add ?_)
 refine wpAny_bind (wpAny_of_eq wO ?_)
 exact wpAny_bind (wpAny_rule h)
inductive Za (op:Op) (x y:V) (Q:PV) (σ:St):Prop where
 | int (i j:Int) (e1:x= .int i) (e2:y= .int j) (q:cw op (.int i) (.int j) Q σ)
 | add (e:op= .add) (b c:Nat) (e1:x= .ref b) (e2:y= .ref c) (xs ys:List V) (e3:σ.H b=some (.list xs)) (e4:σ.H c=some (.list ys)) (l:xs.length+ys.length<=lim/\b≠c) (q:Q (.ref b) ⟨σ.loc,upd σ.H b (.list (xs++ys))⟩)
theorem Oe {op:Op} {x y:V} (h:jR op x y Q σ):Za op x y Q σ:=by
 cases x with
 | int i=>
  cases y with
  | int j=>exact .int i j rfl rfl h
  | _=>exact h.elim
 | ref b=>
  cases y with
  | ref c=>
   cases op with
   | add=>obtain ⟨xs,ys,e1,e2,h⟩:=sL h; exact .add rfl b c rfl rfl xs ys e1 e2 h.1 h.2
   | _=>exact h.elim
  | _=>exact h.elim
 | _=>exact h.elim
theorem JB {op:Op} {x y:V} {u v:Value} (R:cJ A n) (a:At G cx g env σ s) (vx:Val g x u) (vy:Val g y v) (h:jR op x y Q σ):
  wpAny (model G.prog G.w) A (inplaceOp (wN op) u v) (aE G cx g env σ.loc Q) cn s:=by
 replace h:=Oe h
 rcases h with ⟨i,j,rfl,rfl,h⟩ | ⟨rfl,b,c,rfl,rfl,xs,ys,e1,e2,⟨hlen,eS⟩,h⟩
 ·obtain ⟨t,rfl⟩:=vx.inv
  obtain ⟨t',rfl⟩:=vy.inv
  exact Pr a h
 ·obtain ⟨_,fu,jL,GC,_⟩:=a.wd.objs c _ e2
  obtain ⟨rfl,_⟩:=vy.inv
  obtain ⟨b',its,rfl,hp,vs,Ph,k⟩:=a.IC vx (qy e1) (qI (ys:=xs++ys) e1)
  have l:xs.length=its.size:=vs.length
  have l':ys.length=fu.size:=GC.length
  obtain ⟨m,hm⟩:=id hp
  obtain ⟨m',FC⟩:=id jL
  obtain ⟨p1,p2⟩:=j1 hp (λ x=>x++fu)
  have hs:its.size+fu.size<=sizeLine:=by rw [<- l,<- l']; exact Nat.le_trans hlen jH
  exact D0 ⟨_,hm,rfl⟩ ⟨_,FC,rfl⟩ (call_meets F.slot_list_iadd ⟨_,hm,rfl⟩ F.entry_list_iadd (F.args_list_iadd_2 _ _)
   (PySem.AutoSeq1.list___iadd___list_list_0 b' its m c fu m' (extend_door (by omega)) (by omega) (by omega))
   ⟨hm,FC,⟨g,⟨σ.loc,_⟩, .ref b, .refl g,k _ s.toks _ p1 p2 (by rw [Array.toList_append]; exact vs.append GC) (List.length_append▸hlen), .refl _ _,vx,h⟩⟩)
end
end
section
open PySem PySem.W PyProof.Rows PySem.SeqAt
section
variable {G:Pg} {cx:Cx} {g:Gm} {env:Env} {σ:St} {s:Shared} {n:Nat} {A:Around} {Q:PV} {QF:PF} {C:CT} {K:Frag} {mg mb:Str->Option Value}
theorem pJ {i:Nat} {e:E} {x:Str} {z:Expr} {p pos:Pos} (ok:aP cx) (hx:cx.at i x) (hm:x∈cx.mine) (h:SE G n C cx e z) (hs: ∀env,swapsWith z (some (.Name x p)) pos.line env=pure false):SS G n C cx (.assign i e) (.Assign [.Name x p] z pos):=λ A env g σ s Q R a hw=>
 wpAny_Assign_Name (bR (h A env g σ s _ R a hw) λ v s1 g1 σ1 u e1 a1 ou v1 q1=>
  fK ok hx hm a1 v1 λ s' a'=>⟨g1,_, .next,e1,a', .next,q1⟩) (hs env)
theorem Ew {i:Nat} {op:Op} {e:E} {x:Str} {z:Expr} {p pos:Pos} (ok:aP cx) (hx:cx.at i x) (hm:x∈cx.mine) (h:SE G n C cx e z):SS G n C cx (.cq i op e) (.AugAssign (.Name x p) (wN op) z pos):=λ A env g σ s Q R a hw=>
 wpAny_AugAssign_Name (bR (F1 ok hx a hw) λ u s1 g1 σ1 old e1 a1 ou v1 q1=>
  bR (h A env g1 σ1 s1 _ R a1 q1) λ v s2 g2 σ2 y e2 a2 NK v2 q2=>
   bR (JB R a2 (v1.le e2.le) v2 q2) λ w s3 g3 σ3 new e3 a3 ag3 v3 q3=>
    fK ok hx hm a3 v3 λ s' a'=>⟨g3,_, .next,e1.trans (e2.trans e3),a', .next,q3⟩)
theorem Eu {o i e:E} {op:Op} {x y z:Expr} {p pos:Pos} (h1:SE G n C cx o x) (h2:SE G n C cx i y) (h3:SE G n C cx e z)
  (hi: ∀ov iv new,augStore y ov iv new=(do holding [new,ov,iv] (setItem ov iv new); release [new,ov,iv] []; pure .next)):SS G n C cx (.oR o i op e) (.AugAssign (.Subscript x y p) (wN op) z pos):=λ A env g σ s Q R a hw=>
 wpAny_AugAssign_SubscriptAny (two h1 h2 R a hw λ ov iv s2 g2 σ2 u2 u3 e2 a2 NK v2 v3 q2=>
  bR (Gy R a2 v2 v3 q2).1 λ old s3 g3 σ3 uo e3 a3 ag3 vo q3=>
   bR (h3 A env g3 σ3 s3 _ R a3 q3) λ v s4 g4 σ4 u e4 a4 Zk v4 q4=>
    bR (JB R a4 (vo.le e4.le) v4 q4) λ w s5 g5 σ5 new e5 a5 ag5 v5 q5=>
     wpAny_mono (M0 R a5 (v2.le (e3.trans (e4.trans e5)).le) (v3.le (e3.trans (e4.trans e5)).le) v5 q5) (λ j j p=>p.up (e2.trans (e3.trans (e4.trans e5)))) λ j j e=>e) hi
theorem Nb {e:E} {z:Expr} {pos:Pos} (h:SE G n C cx e z) (hi: ∀env:Env,env.scope.kind= .function->interactive env=false) (hs: ∀env,swapsWith z none pos.line env=pure false):SS G n C cx (.expr e) (.Expr z pos):=λ A env g σ s Q R a hw=>
 wpAny_Expr_any (bR (h A env g σ s _ R a hw) λ v s1 g1 σ1 u e1 a1 ou v1 q1=>⟨g1,σ1, .next,e1,a1, .next,q1⟩) (hi env a.fm.kind) (hs env)
theorem Gv {b:B} {t f:List S} {x:Expr} {ys zs:List Stmt} {pos:Pos} (h1:ST G n C cx b x) (h2:c6 G n C cx t ys) (h3:c6 G n C cx f zs):SS G n C cx (.iff b t f) (.If x ys zs pos):=λ A env g σ s Q R a hw=>
 wpAny_If (qN (h1 A env g σ s _ R a hw) λ v s1 g1 σ1 e1 a1 ou q1=>by
  cases v with
  | true=>exact upS e1 (h2 A env g1 σ1 s1 Q R a1 q1)
  | false=>exact upS e1 (h3 A env g1 σ1 s1 Q R a1 q1))
theorem Ql {pos:Pos}:SS G n C cx .brk (.Break pos):=λ A env g σ s Q R a hw=>wpAny_Break (gJ.now a .brk hw)
theorem M9 {pos:Pos}:SS G n C cx .cont (.Continue pos):=λ A env g σ s Q R a hw=>wpAny_Continue (gJ.now a .cont hw)
theorem Qq {e:E} {z:Expr} {pos:Pos} (h:SE G n C cx e z):SS G n C cx (.ret e) (.Return (some z) pos):=λ A env g σ s Q R a hw=>
 wpAny_Return_some (bR (h A env g σ s _ R a hw) λ v s1 g1 σ1 u e1 a1 ou v1 q1=>⟨g1,σ1, .ret u,e1,a1, .ret v1,q1⟩)
theorem IJ {x:Stmt}:SS G n C cx .raise x:=λ A env g σ s Q R a hw=>hw.elim
theorem vB:c6 G n C cx [] []:=λ A env g σ s Q R a hw=>wpAny_execs_nil (gJ.now a .next hw)
theorem j6 {t:S} {ts:List S} {x:Stmt} {xs:List Stmt} (h1:SS G n C cx t x) (h2:c6 G n C cx ts xs):c6 G n C cx (t::ts) (x::xs):=λ A env g σ s Q R a hw=>
 wpAny_execs_cons (xW (h1 A env g σ s _ R a hw) λ v s1 g1 σ1 fl e1 a1 r1 q1=>by
  cases fl with
  | next=>obtain rfl:=r1.inv; exact upS e1 (h2 A env g1 σ1 s1 Q R a1 q1)
  | brk=>obtain rfl:=r1.inv; exact ⟨g1,σ1,_,e1,a1, .brk,q1⟩
  | cont=>obtain rfl:=r1.inv; exact ⟨g1,σ1,_,e1,a1, .cont,q1⟩
  | ret v=>obtain ⟨w,rfl,v⟩:=r1.inv; exact ⟨g1,σ1,_,e1,a1, .ret v,q1⟩)
inductive tX (cx:Cx):List Nat->List Expr->Prop where
 | nil:tX cx [] []
 | cons {i:Nat} {x:Str} {p:Pos} {is:List Nat} {xs:List Expr}:cx.at i x->x∈cx.mine->tX cx is xs->tX cx (i::is) (.Name x p::xs)
theorem tX.each {is:List Nat} {xs:List Expr} (h:tX cx is xs) (env:Env):(assignEach xs env).length=is.length/\(assignEach xs env).findIdx? (·.1)=none:=by
 induction h with
 | nil=>exact ⟨rfl,rfl⟩
 | @cons i x p is xs a b c ih=>
  refine ⟨congrArg (· +1) ih.1,?_⟩
  rw [show assignEach (.Name x p::xs) env=(false,assign (.Name x p) env)::assignEach xs env from rfl,List.findIdx?_cons,ih.2]; rfl
theorem KX {P:Unit->Shared->Prop} (ok:aP cx) {is:List Nat} {xs:List Expr} (T:tX cx is xs) {vs:List V} {us:List Value} (a:At G cx g env σ s) (vl:Vals g vs us) (hl:vs.length=is.length)
  (k: ∀s',At G cx g env ⟨putAll σ.loc is vs,σ.H⟩ s'->P () s'):wpAny (model G.prog G.w) A (assignInOrder ((assignEach xs env).map (·.2)) us) P cn s:=by
 induction T generalizing vs us σ s with
 | nil=>
  obtain rfl:=List.length_eq_zero_iff.mp hl
  exact PyProof.Rows.assignInOrder_nil (k s a)
 | cons hx hm r ih=>
  cases vs with
  | nil=>exact Nat.noConfusion hl
  | cons v vs=>
   obtain ⟨u,YW,rfl,v1,vr⟩:=vl.inv
   exact PyProof.Rows.assignInOrder_cons (wpAny_assign_Name (fK ok hx hm a v1 λ s' a'=>ih a' vr (Nat.succ.inj hl) k))
theorem Jz (a:At G cx g env σ s) {h':Heap} {t:Nat} (he:Heap.ExtBut s.heap.objs.size s.heap h'):At G cx g env σ {s with heap:=h',toks:=t}:=
 a.ext λ b o e=>he b o (Nat.ne_of_lt (Heap.lt_size e)) e
theorem t5 {is:List Nat} {xs:List Expr} {k:Nat} {pos:Pos} {vs:List V} {u:Value} {P:Unit->Shared->Prop} (ok:aP cx) (T:tX cx is xs) (R:cJ A n) (a:At G cx g env σ s) (vl:Val g (.tup vs) u) (hl:vs.length=is.length)
  (k': ∀s',At G cx g env ⟨putAll σ.loc is vs,σ.H⟩ s'->P () s'):wpAny (model G.prog G.w) A (assign (.Tuple xs k pos) env u) P cn s:=by
 obtain ⟨_,its,_,rfl,f,vv,_⟩:=vl.inv
 obtain ⟨t1,t2⟩:=T.each env
 exact wpAny_assign_Tuple R.h ⟨_,a.wd.fz _ _ f,rfl,_,rfl⟩ (t1.trans (hl.symm.trans vv.length)) t2 λ h' he=>KX ok T (Jz a he) vv hl k'
theorem GB {v:V} {n:Nat} {F:List V->Prop} (h:match (generalizing:=false) v with | .tup vs=>vs.length=n/\F vs | _=>False): ∃vs,v= .tup vs/\vs.length=n/\F vs:=by
 cases v with
 | tup vs=>exact ⟨vs,rfl,h⟩
 | _=>exact h.elim
theorem Ez {is:List Nat} {e:E} {xs:List Expr} {k:Nat} {tp pos:Pos} {z:Expr} (ok:aP cx) (T:tX cx is xs) (h:SE G n C cx e z) (hs: ∀env,swapsWithSole [.Tuple xs k tp] z pos.line env=pure false)
  (hw': ∀env,swappedStores [.Tuple xs k tp] z env=pure none):SS G n C cx (.unpack is e) (.Assign [.Tuple xs k tp] z pos):=λ A env g σ s Q R a hw=>
 Assign_Tuple (bR (h A env g σ s _ R a hw) λ v s1 g1 σ1 u e1 a1 ou v1 q1=>by
  replace q1:=GB q1
  obtain ⟨vs,rfl,h1,h2⟩:=q1
  exact t5 ok T R a1 v1 h1 λ s' a'=>⟨g1,_, .next,e1,a', .next,h2⟩) (hs env) (hw' env)
end
end
section
open PySem PySem.W PyProof.Rows PySem.SeqAt
section
variable {G:Pg} {cx:Cx} {g:Gm} {env:Env} {σ:St} {s:Shared} {n:Nat} {A:Around} {Q:PV} {QF:PF} {C:CT} {K:Frag} {mg mb:Str->Option Value}
noncomputable def pS (o:Obj):Prop:= ∀v,o.data≠ .cell v
theorem oa {it a:Addr} {o:Obj} {t t':Tg} (hk:g it= .kp o) (e:g a=t') (h:(t'.idx == 5)=false):setG g it t a=t':=
 (aG g t λ q=>oM h (e.symm.trans (q▸hk))).trans e
theorem Le.kp {it:Addr} {o:Obj} {t:Tg} (hk:g it= .kp o):Le g (setG g it t):=
 ⟨λ x x e=>oa hk e rfl,λ x x x e=>oa hk e rfl,λ x e=>oa hk e rfl,λ x x e=>oa hk e rfl⟩
theorem Ex.kp {g₀:Gm} {it:Addr} {t:Tg} (e:Ex g₀ g) (h:g₀ it= .free):Ex g₀ (setG g it t):=⟨λ a n=>(aG g t λ q=>n ((congrArg g₀ q).trans h)).trans (e.ex a n)⟩
theorem k8 {P:Obj->Prop} {it b:Addr} {t t':Tg} (ht:t= .free\/∃o',t= .kp o'/\P o') (e:setG g it t b=t') (h0:(0 == t'.idx)=false) (h5:(5 == t'.idx)=false):b≠it/\g b=t':=by
 by_cases q:b=it
 ·subst q
  have e:=(aD g b t).symm.trans e
  exact ht.elim (λ h=>absurd (h.symm.trans e) (oM h0)) λ h=>h.elim λ x h=>absurd (h.1.symm.trans e) (oM h5)
 ·exact ⟨q,(aG g t q).symm.trans e⟩
theorem Wd.re {H:Hp} (W:Wd G g H s) {it:Addr} {o:Obj} (hk:g it= .kp o) {h':Heap} {tk:Nat} (hs:Heap.ExtBut it s.heap h') {t:Tg} (ht:t= .free\/∃o',t= .kp o'/\h'.get? it=some o'):
  Wd G (setG g it t) H {s with heap:=h',toks:=tk} where
 live b n:=by
  by_cases q:b=it
  ·subst q
   rw [aD] at n
   exact ht.elim (absurd · n) λ h=>h.imp λ x h=>h.2
  ·rw [aG g t q] at n
   exact (W.live b n).imp λ o' e=>hs b o' q e
 fz b o' e:=have r:=k8 ht e rfl rfl; hs b o' r.1 (W.fz b o' r.2)
 kp b o' e:=by
  by_cases q:b=it
  ·subst q
   have e:=(aD g b t).symm.trans e
   exact ht.elim (λ h=>absurd (h.symm.trans e) (oM rfl)) λ h=>h.elim λ x h=>Tg.kp.inj (h.1.symm.trans e)▸h.2
  ·exact hs b o' q (W.kp b o' ((aG g t q).symm.trans e))
 ag b o' e:=have r:=k8 ht e rfl rfl; hs b o' r.1 (W.ag b o' r.2)
 base b o' e:=oa hk (W.base b o' e) rfl
 objs b o' e:=((W.objs b o' e).heap (h':=h') λ c ob p r=>hs c ob (p.elim (λ p=>cY hk p.2 rfl) λ p=>p.elim (λ p=>p.elim λ x p=>cY hk p rfl) λ p=>p.elim λ x p=>cY hk p rfl) r).le (Le.kp hk) λ m=>(Le.kp hk).mu b m
 all b h:=W.all b (h.imp (λ h=>(k8 ht h rfl rfl).2) λ h=>h.imp λ x h=>(k8 ht h rfl rfl).2)
 gN b a k h:=W.gN b a k (k8 ht h rfl rfl).2
 one b b' a k p q:=W.one b b' a k (k8 ht p rfl rfl).2 (k8 ht q rfl rfl).2
 tab:=oa hk W.tab rfl
 tabs:=W.tabs.imp λ x r=>⟨hs _ _ (cY hk W.tab rfl) r.1,r.2.le (Le.kp hk)⟩
 gens:=W.gens
 os:=W.os
theorem At.re (a:At G cx g env σ s) {it:Addr} {o:Obj} (hk:g it= .kp o) (hc:pS o) {h':Heap} {tk:Nat} (hs:Heap.ExtBut it s.heap h') {t:Tg} (ht:t= .free\/∃o',t= .kp o'/\h'.get? it=some o'):
  At G cx (setG g it t) env σ {s with heap:=h',toks:=tk}:=by
 have eS:env.locals≠it:=cY hk a.fm.loc rfl
 have uC: ∀{c:Addr} {v:Option Value},s.heap.IsCell c v->c≠it:=λ {c v} k q=>k.elim λ o' k=>hc v (Option.some.inj ((a.wd.kp _ _ hk).symm.trans (q▸k.1))▸k.2)
 have cell: ∀{c:Addr} {v:Option Value},s.heap.IsCell c v->h'.IsCell c v:=λ {c v} k=>k.imp λ o' e=>⟨hs _ _ (uC k) e.1,e.2⟩
 have ns: ∀{m:Str->Option Value},s.heap.Ns env.locals m->h'.Ns env.locals m:=λ k=>k.imp λ y k=>k.imp λ y k=>k.imp λ y k=>⟨hs _ _ eS k.1,k.2⟩
 refine ⟨a.wd.re hk hs ht,{a.fm with loc:=(aG g t eS).trans a.fm.loc,ns:=a.fm.ns.imp λ y=>ns,look:=λ i x v hx e=>(a.fm.look i x v hx e).imp λ val k=>⟨?_,k.2.le (Le.kp hk)⟩,mine:=λ x hx=>(a.fm.mine x hx).imp id λ ⟨k1,c,v,k2,k3,k4⟩=>⟨k1,c,v,k2,(aG g t (uC k4)).trans k3,cell k4⟩}⟩
 exact k.1.imp (λ ⟨k1,m,k2,hv⟩=>⟨k1,m,ns k2,hv⟩) λ ⟨k1,c,k2,k3,k4⟩=>⟨k1,c,k2,by rw [aG g t (uC k4)]; exact k3,cell k4⟩
noncomputable def Xy:V->Bool | .ref _=>true | .part ..=>true | _=>false
inductive C1 (g:Gm) (v:V) (i:Nat) (o:Obj):Prop where
 | list (b:Addr) (vl:Val g v (.ref b)) (l:Xy v=true) (c:o.cls= .type "list_iterator") (d:o.data= .fields #[.ref b, .int i 0])
 | tup (xs:List V) (b:Addr) (e:v= .tup xs) (vl:Val g (.tup xs) (.ref b)) (c:o.cls= .type "tuple_iterator") (d:o.data= .fields #[.ref b, .int i 0])
 | range (lo hi:Int) (r:Bool) (e:v= .range lo hi r) (d:o={cls:= .type "range_iterator",data:= .fields #[rawInt (lo+(i:Int)*(if r then -1 else 1)),rawInt (Builtin.Range.rangeSize lo hi (if r then -1 else 1) - (i:Int)),rawInt (if r then -1 else 1)]})
theorem C1.nc {v:V} {i:Nat} {o:Obj} (h:C1 g v i o):pS o:=λ w=>by
 rcases h with ⟨_,_,_,_,d⟩ | ⟨_,_,_,_,_,d⟩ | ⟨_,_,_,_,d⟩
 ·rw [d]; exact Data.noConfusion
 ·rw [d]; exact Data.noConfusion
 ·rw [d]; exact Data.noConfusion
theorem C1.le {g':Gm} (l:Le g g') {v:V} {i:Nat} {o:Obj} (h:C1 g v i o):C1 g' v i o:=
 h.rec (λ b a c d e=> .list b (a.le l) c d e) (λ xs b e a c d=> .tup xs b e (a.le l) c d) (λ lo hi r e d=> .range lo hi r e d)
theorem zS (lo hi:Int):Builtin.Range.rangeSize lo hi 1=((hi - lo).toNat:Int):=by
 unfold Builtin.Range.rangeSize
 rw [if_pos (by decide)]
 split
 ·rw [Int.ediv_one]; lia
 ·lia
theorem rangeSize_down (lo hi:Int):Builtin.Range.rangeSize lo hi (-1)=((lo - hi).toNat:Int):=by
 unfold Builtin.Range.rangeSize
 rw [if_neg (by decide)]
 split
 ·rw [show (-(-1):Int)=1 from rfl,Int.ediv_one]; lia
 ·lia
theorem qs (lo hi:Int) (d:Bool):Builtin.Range.rangeSize lo hi (if d then -1 else 1)=((cG lo hi d).length:Int):=by
 cases d
 ·simp [cG,zS]
 ·simp [cG,rangeSize_down]
theorem Bl (lo hi:Int) (d:Bool) (i:Nat) (y:V) (h:(cG lo hi d)[i]?=some y):y= .int (lo+(i:Int)*(if d then -1 else 1)):=by
 cases d
 ·simp only [cG,List.getElem?_map,Option.map_eq_some_iff] at h
  obtain ⟨j,h1,rfl⟩:=h
  have:j=i:=by
   have:=List.getElem?_eq_some_iff.mp h1
   obtain ⟨_,h2⟩:=this
   simpa using h2.symm
  subst this; simp
 ·simp only [cG,List.getElem?_map,Option.map_eq_some_iff] at h
  obtain ⟨j,h1,rfl⟩:=h
  have:j=i:=by
   have:=List.getElem?_eq_some_iff.mp h1
   obtain ⟨_,h2⟩:=this
   simpa using h2.symm
  subst this; simp; lia
theorem Ff {x:Int} (h:x.natAbs<=lim): -1000000<=x/\x<=1000000:=by unfold lim at h; omega
theorem Cg (lo hi:Int) (d:Bool) (h1:lo.natAbs<=lim) (h2:hi.natAbs<=lim):Builtin.Range.small lo hi (if d then -1 else 1)=true:=by
 replace h1:=Ff h1
 replace h2:=Ff h2
 unfold Builtin.Range.small
 rw [qs]
 have:(cG lo hi d).length<=2000000:=by cases d <;> simp [cG] <;> omega
 cases d <;> simp [Builtin.Range.rangeFitsLong] <;> omega
theorem Lc {v:V} {u:Value} {all:List V} {P:Value->Shared->Prop} (a:At G cx g env σ s) (vl:Val g v u) (h:itemsOf σ.H v=some all)
  (k: ∀(it:Addr) (o:Obj) (s':Shared),g it= .free->C1 g v 0 o->At G cx (setG g it (.kp o)) env σ s'->P (.ref it) s'):wpAny (model G.prog G.w) A (pyIter u) P cn s:=by
 have fin: ∀o:Obj,o.isFreed=false->C1 g v 0 o->P (.ref s.heap.objs.size) {s with heap:=s.heap.push o}:=λ o hf i=>
  k _ o _ a.free i ((a.push o).tag a.free ⟨o,Heap.get?_push_size _ hf⟩ (λ o' e=>e.elim (λ e=>absurd e (oM rfl)) λ e=>Tg.kp.inj e▸Heap.get?_push_size _ hf) ⟨λ x x=>oM rfl,oM rfl,λ x=>oM rfl⟩)
 have lst: ∀{xs:List V},Xy v=true->dZ σ.H v=some xs->wpAny (model G.prog G.w) A (pyIter u) P cn s:=λ e h=>by
  obtain ⟨b',its,rfl,hp,_⟩:=pD a.wd vl h
  exact wpAny_pyIter_list (PlainList.isList hp) (fin _ rfl (.list b' vl e rfl rfl))
 cases v with
 | tup xs=>
  obtain ⟨b,its,n,rfl,f,_⟩:=vl.inv
  exact iter_tuple ⟨_,a.wd.fz _ _ f,rfl,_,rfl⟩ (fin _ rfl (.tup xs b rfl vl rfl rfl))
 | range lo hi d=>
  obtain ⟨b,_,_,_,rfl,f,h1,h2⟩:=vl.inv
  refine wpAny_pyIter_range (a.wd.fz _ _ f) (Cg _ _ _ h1 h2) (fin _ rfl (.range lo hi d rfl ?_))
  rw [show ((0:Nat):Int)=0 from rfl,Int.zero_mul,Int.add_zero,Int.sub_zero]
 | ref b=>exact lst rfl h
 | part b k=>exact lst rfl h
 | _=>exact bh h
theorem FR {v:V} {all:List V} {i:Nat} {it:Addr} {o:Obj} {P:Option Value->Shared->Prop} (R:cJ A n) (a:At G cx g env σ s) (hk:g it= .kp o) (hi:C1 g v i o) (h:itemsOf σ.H v=some all)
  (k1: ∀(y:V) (w:Value) (o':Obj) (s':Shared),all[i]?=some y->Val g y w->C1 g v (i+1) o'->At G cx (setG g it (.kp o')) env σ s'->P (some w) s')
  (k2: ∀s',all.length<=i->At G cx (setG g it .free) env σ s'->P none s'):wpAny (model G.prog G.w) A (pyNext (.ref it)) P cn s:=by
 have m9:=a.wd.kp _ _ hk
 have nc:=hi.nc
 have sb: ∀{h':Heap},Heap.SameBut it s.heap h'->Heap.ExtBut it s.heap h':=λ hs b ob q e=>(hs.2 b q).trans e
 have nx: ∀{vs:List Value},Vals g all vs->(c:i < all.length)->∃w,vs[i]?=some w/\Val g all[i] w:=λ vs c=>vs.df (by rw [qA]; exact List.getElem?_eq_getElem c)
 rcases hi with ⟨b,vb,le,hc,hd⟩ | ⟨xs,b,rfl,vb,hc,hd⟩ | ⟨lo,hi,d,rfl,rfl⟩
 ·have hl:dZ σ.H v=some all:=by cases v <;> first | exact h | exact Bool.noConfusion le
  obtain ⟨b',its,e,hp,vs,_⟩:=pD a.wd vb hl
  obtain rfl:=Value.ref.inj e
  have l:all.length=its.size:=vs.length
  by_cases c:i < all.length
  ·obtain ⟨w,e1,e2⟩:=nx vs c
   exact wpAny_pyNext_list_item ⟨o,m9,hc,hd⟩ (PlainList.isList hp) (x:=w) (Array.getElem?_toList.symm.trans e1) λ h' ⟨o',q1,q2,q3⟩ hs=>
    k1 _ w o' _ (List.getElem?_eq_getElem c) e2 (.list b vb le q2 q3) (a.re (tk:=s.toks) hk nc (sb hs) (.inr ⟨o',rfl,q1⟩))
  ·exact wpAny_pyNext_list_end R.h ⟨o,m9,hc,hd⟩ (PlainList.isList hp) (Array.getElem?_eq_none (by omega)) λ h' hs=>k2 _ (Nat.le_of_not_lt c) (a.re (tk:=s.toks) hk nc hs (.inl rfl))
 ·obtain rfl:=Option.some.inj h
  obtain ⟨_,its,m,e,f,vs,hl⟩:=vb.inv
  obtain rfl:=Value.ref.inj e
  have ht:IsTup s.heap b its:=⟨_,a.wd.fz _ _ f,rfl,_,rfl⟩
  have l:xs.length=its.size:=vs.length
  by_cases c:i < xs.length
  ·obtain ⟨w,e1,e2⟩:=nx vs c
   exact next_tuple_item ⟨o,m9,hc,hd⟩ ht (x:=w) (Array.getElem?_toList.symm.trans e1) λ h' ⟨o',q1,q2,q3⟩ hs=>
    k1 _ w o' _ (List.getElem?_eq_getElem c) e2 (.tup xs b rfl vb q2 q3) (a.re (tk:=s.toks) hk nc (sb hs) (.inr ⟨o',rfl,q1⟩))
  ·exact next_tuple_end R.h ⟨o,m9,hc,hd⟩ ht (Array.getElem?_eq_none (by omega)) λ h' hs=>k2 _ (Nat.le_of_not_lt c) (a.re (tk:=s.toks) hk nc hs (.inl rfl))
 ·obtain rfl:=Option.some.inj h
  have hlen:=qs lo hi d
  by_cases c:i < (cG lo hi d).length
  ·refine wpAny_pyNext_range_item m9 (by omega) λ h' q1 hs=>?_
   have e1:=List.getElem?_eq_getElem c
   refine k1 _ _ _ _ e1 (by rw [Bl lo hi d i _ e1]; exact .int _ _) (.range lo hi d rfl rfl) (a.re hk nc (sb hs) (.inr ⟨_,rfl,?_⟩))
   rw [show lo+((i+1:Nat):Int)*(if d then -1 else 1)=lo+(i:Int)*(if d then -1 else 1)+(if d then -1 else 1) from by push_cast; rw [Int.add_mul,Int.one_mul,Int.add_assoc],
    show Builtin.Range.rangeSize lo hi (if d then -1 else 1) - ((i+1:Nat):Int)=Builtin.Range.rangeSize lo hi (if d then -1 else 1) - (i:Int) - 1 from by push_cast; omega]
   exact q1
  ·exact wpAny_pyNext_range_end R.h m9 (by omega) λ h' hs=>k2 _ (Nat.le_of_not_lt c) (a.re (tk:=s.toks) hk nc hs (.inl rfl))
end
end
section
open PySem PySem.W PyProof.Rows PySem.SeqAt
section
variable {G:Pg} {cx:Cx} {g:Gm} {env:Env} {σ:St} {s:Shared} {n:Nat} {A:Around} {Q:PV} {QF:PF} {C:CT} {K:Frag} {mg mb:Str->Option Value}
theorem Ic {α:Type} {M:Model} {t:Sem α} {P:α->Shared->Prop} {E:Value->Shared->Prop} (h:wpAny M A t P cn s):wpAny M A t P E s:=wpAny_mono h (λ x x q=>q) λ x x e=>e.elim
inductive WhI (G:Pg) (cx:Cx) (g:Gm) (env:Env) (I:Nat->St->Prop) (k:Nat) (s:Shared):Prop where
 | mk (g':Gm) (σ:St) (e:Ex g g') (a:At G cx g' env σ s) (i:I k σ)
theorem IL {b:B} {body:List S} {x:Expr} {ys:List Stmt} {pos:Pos} (h1:ST G n C cx b x) (h2:c6 G n C cx body ys):SS G n C cx (.while b body) (.While x ys [] pos):=λ A env g σ s Q R a hw=>by
 obtain ⟨I,⟨m,hm⟩,step⟩:=hw
 refine wpAny_While (codeAny_whileLoop (WhI G cx g env I) (λ k s1 ⟨g1,σ1,e1,a1,hI⟩=>Ic (qN (h1 A env g1 σ1 s1 _ R a1 (step k σ1 hI)) λ v s2 g2 σ2 e2 a2 y q2=>?_)) m ⟨g,σ, .refl g,a,hm⟩)
 cases v with
 | true=>
  refine Ic (xW (h2 A env g2 σ2 s2 _ R a2 q2) λ f s3 g3 σ3 fl e3 a3 r3 q3=>?_)
  have ex:=e1.trans (e2.trans e3)
  cases fl with
  | next=>obtain rfl:=r3.inv; exact q3.imp λ m q=>⟨q.1,g3,σ3,ex,a3,q.2⟩
  | cont=>obtain rfl:=r3.inv; exact q3.imp λ m q=>⟨q.1,g3,σ3,ex,a3,q.2⟩
  | brk=>obtain rfl:=r3.inv; exact ⟨g3,σ3, .next,ex,a3, .next,q3⟩
  | ret v=>obtain ⟨_,rfl,v⟩:=r3.inv; exact ⟨g3,σ3,_,ex,a3, .ret v,q3⟩
 | false=>exact wpAny_execs_nil ⟨g2,σ2, .next,e1.trans e2,a2, .next,q2⟩
noncomputable def Jj (G:Pg) (n:Nat) (cx:Cx) (bind:V->St->Option St) (target:Expr):Prop:=
 ∀(A:Around) (env:Env) (g:Gm) (σ σ':St) (s:Shared) (y:V) (w:Value) (it:Addr) (o:Obj) (v:V) (i:Nat) (P:Unit->Shared->Prop),cJ A n->At G cx g env σ s->Val g y w->g it= .kp o->C1 g v i o->bind y σ=some σ'->
  (∀s',At G cx g env σ' s'->P () s')->wpAny (model G.prog G.w) A (letOwnedTupleGo target (.ref it) w) (λ x s₁=>wpAny (model G.prog G.w) A (assign target env w) P cn s₁) cn s
theorem QC {i:Nat} {x:Str} {p:Pos} (ok:aP cx) (hx:cx.at i x) (hm:x∈cx.mine):Jj G n cx (bind1 i) (.Name x p):=λ A env g σ σ' s y w it o v j P R a vl hk hi hb k=>by
 cases hb
 exact wpAny_pure (wpAny_assign_Name (fK ok hx hm a vl k))
theorem HJ {target:Expr} {v:V} {i:Nat} {it:Addr} {o:Obj} {w:Value} {P:Unit->Shared->Prop} (a:At G cx g env σ s) (hk:g it= .kp o) (hi:C1 g v i o) (h:P () s):wpAny (model G.prog G.w) A (letOwnedTupleGo target (.ref it) w) P cn s:=by
 have m9:=a.wd.kp _ _ hk
 rcases hi with ⟨_,_,_,hc,hd⟩ | ⟨_,_,_,_,hc,hd⟩ | ⟨_,_,_,_,rfl⟩
 ·exact letGo_listiter ⟨o,m9,hc,hd⟩ h
 ·exact letGo_tupleiter ⟨o,m9,hc,hd⟩ h
 ·unfold letOwnedTupleGo
  cases target <;> first
   | exact wpAny_pure h
   | (cases w <;> first
     | exact wpAny_pure h
     | exact wpAny_bind (wpAny_load m9 (wpAny_pure h)))
theorem GQ {is:List Nat} {y:V} {σ σ':St} (h:wV is y σ=some σ'): ∃vs,y= .tup vs/\vs.length=is.length/\⟨putAll σ.loc is vs,σ.H⟩=σ':=by
 cases y with
 | tup vs=>
  replace h:(if vs.length=is.length then some (⟨putAll σ.loc is vs,σ.H⟩:St) else none)=some σ':=h
  by_cases c:vs.length=is.length
  ·rw [if_pos c] at h; exact ⟨vs,rfl,c,Option.some.inj h⟩
  ·rw [if_neg c] at h; exact bh h
 | _=>exact bh h
theorem Nv {is:List Nat} {xs:List Expr} {k:Nat} {p:Pos} (ok:aP cx) (T:tX cx is xs):Jj G n cx (wV is) (.Tuple xs k p):=λ A env g σ σ' s y w it o v j P R a vl hk hi hb k=>by
 obtain ⟨vs,rfl,hl,rfl⟩:=GQ hb
 exact HJ a hk hi (t5 ok T R a vl hl k)
theorem drop_cons {all:List V} {i:Nat} {y:V} (h:all[i]?=some y):all.drop i=y::all.drop (i+1):=by
 obtain ⟨h1,h2⟩:=List.getElem?_eq_some_iff.mp h
 rw [<- h2]; exact List.drop_eq_getElem_cons h1
theorem og {k i l:Nat} (h:k+i=l) (c:i < l):k - 1 < k/\(k - 1)+(i+1)=l:=by omega
theorem OU {bind:V->St->Option St} {body:PF->St->Prop} {v y:V} {all ys zs:List V} (hz:zs=y::ys) (h:sJ bind body v all QF zs σ): ∃σ₁,bind y σ=some σ₁/\body (λ f σ₂=>match f with
   | .next=>itemsOf σ₂.H v=some all/\sJ bind body v all QF ys σ₂
   | .cont=>itemsOf σ₂.H v=some all/\sJ bind body v all QF ys σ₂
   | .brk=>QF .next σ₂
   | .ret w=>QF (.ret w) σ₂) σ₁:=by
 subst hz
 replace h:(match bind y σ with | some σ₁=>_ | .none=>False):=h
 cases e:bind y σ with
 | none=>rw [e] at h; exact h.elim
 | some σ₁=>rw [e] at h; exact ⟨σ₁,rfl,h⟩
inductive Vy (G:Pg) (cx:Cx) (env:Env) (g:Gm) (ia:Addr) (v:V) (all:List V) (F:List V->St->Prop) (k:Nat) (s:Shared):Prop where
 | mk (g':Gm) (σ:St) (i:Nat) (o:Obj) (e:Ex g g') (a:At G cx g' env σ s) (hk:g' ia= .kp o) (hi:C1 g' v i o) (h:itemsOf σ.H v=some all) (l:k+i=all.length) (q:F (all.drop i) σ)
theorem Kg {bind:V->St->Option St} {body:List S} {target x:Expr} {it:E} {ys:List Stmt} {pos:Pos} (T:Jj G n cx bind target) (h1:SE G n C cx it x) (h2:c6 G n C cx body ys) (hf: ∀env v,foldedSetIterable x env v=pure v)
  (R:cJ A n) (a:At G cx g env σ s) (hw:Mine.W C it (λ v σ=>match itemsOf σ.H v with | some xs=>sJ bind (Mine.Xs C body) v xs QF xs σ | .none=>False) σ):
  wpAny (model G.prog G.w) A (exec (.For target x ys [] pos) env) (gJ G cx g env QF) cn s:=
 wpAny_For (bR (h1 A env g σ s _ R a hw) λ u s1 g1 σ1 v e1 a1 z vl q1=>by
  replace q1:=Cu (o:=itemsOf σ1.H v) (F:=λ xs=>sJ bind (Mine.Xs C body) v xs QF xs σ1) q1
  obtain ⟨all,A2,q1⟩:=q1
  refine Lc a1 vl A2 λ ia o s2 jV hi a2=>codeAny_forLoop_any (Vy G cx env g1 ia v all (sJ bind (Mine.Xs C body) v all QF)) (λ k s3 ⟨g3,σ3,i,o3,e3,a3,Jb,ZZ,Kq,Jc,q3⟩=>?_) all.length
   ⟨_,σ1,0,o, .set jV,a2,aD ..,hi.le (Ex.set jV).le,A2,rfl,q1⟩
  refine Ic (FR R a3 Jb ZZ Kq (λ y w o4 s4 hy vy Vi a4=>?_) λ s4 hlen a4=>?_)
  ·have LW:Le g3 (setG g3 ia (.kp o4)):=Le.kp Jb
   obtain ⟨σ4,hb,q4⟩:=OU (drop_cons hy) q3
   refine Ic (wpAny_mono (T A env _ σ3 σ4 s4 y w ia o4 v (i+1) (λ z s5=>At G cx (setG g3 ia (.kp o4)) env σ4 s5) R a4 (vy.le LW) (aD ..) (Vi.le LW) hb λ s' h=>h) (λ z s5 h5=>?_) λ z z e=>e)
   refine Ic (wpAny_mono h5 (λ z s6 a6=>Ic (xW (h2 A env _ σ4 s6 _ R a6 q4) λ f s7 g7 σ7 fl e7 a7 r7 q7=>?_)) λ z z e=>e)
   have ex:Ex g1 g7:=(e3.kp jV).trans e7
   have go:itemsOf σ7.H v=some all/\sJ bind (Mine.Xs C body) v all QF (all.drop (i+1)) σ7->∃m,m < k/\Vy G cx env g1 ia v all (sJ bind (Mine.Xs C body) v all QF) m s7:=λ q=>
    have dz:i < all.length:=(List.getElem?_eq_some_iff.mp hy).1
    ⟨k - 1,(og Jc dz).1,g7,σ7,i+1,o4,ex,a7,e7.to (aD ..) rfl,(Vi.le LW).le e7.le,q.1,(og Jc dz).2,q.2⟩
   cases fl with
   | next=>obtain rfl:=r7.inv; exact go q7
   | cont=>obtain rfl:=r7.inv; exact go q7
   | brk=>obtain rfl:=r7.inv; exact ⟨g7,σ7, .next,e1.trans ex,a7, .next,q7⟩
   | ret v=>obtain ⟨_,rfl,v⟩:=r7.inv; exact ⟨g7,σ7,_,e1.trans ex,a7, .ret v,q7⟩
  ·rw [List.drop_of_length_le hlen] at q3
   exact wpAny_execs_nil ⟨_,σ3, .next,e1.trans (e3.kp jV),a4, .next,q3⟩) (hf env)
theorem Cr {i:Nat} {e:E} {body:List S} {y:Str} {x:Expr} {ys:List Stmt} {p pos:Pos} (ok:aP cx) (hx:cx.at i y) (hm:y∈cx.mine) (h1:SE G n C cx e x) (h2:c6 G n C cx body ys) (hf: ∀env v,foldedSetIterable x env v=pure v):
  SS G n C cx (.bL i e body) (.For (.Name y p) x ys [] pos):=λ A env g σ s Q R a hw=>Kg (QC ok hx hm) h1 h2 hf R a hw
theorem Nc {is:List Nat} {e:E} {body:List S} {xs:List Expr} {k:Nat} {x:Expr} {ys:List Stmt} {p pos:Pos} (ok:aP cx) (T:tX cx is xs) (h1:SE G n C cx e x) (h2:c6 G n C cx body ys) (hf: ∀env v,foldedSetIterable x env v=pure v):
  SS G n C cx (.AY is e body) (.For (.Tuple xs k p) x ys [] pos):=λ A env g σ s Q R a hw=>Kg (Nv ok T) h1 h2 hf R a hw
end
end
section
open PySem PySem.W PyProof.Rows PySem.SeqAt
section
variable {G:Pg} {cx:Cx} {g:Gm} {env:Env} {σ:St} {s:Shared} {n:Nat} {A:Around} {Q:PV} {QF:PF} {C:CT} {K:Frag} {mg mb:Str->Option Value}
theorem IH {i j k k':Nat} {p p' pos:Pos} (hB:sysModules < G.B.objs.size):SE G n C cx (.AF (.int i) (.int j)) (.Dict [some (.Constant (.int i) k p)] [.Constant (.int j) k' p'] pos):=λ A env g σ s Q R a hw=>by
 have hw:alloc (.dict [(.int i, .int j)]) Q σ:=hw.2
 refine wpAny_Dict_pairs (knd:=intKind G.prog G.w) (pairs:= [(eval (.Constant (.int i) k p) env,do let x <- eval (.Constant (.int j) k' p') env; standAt pos; pure x)]) rfl (by simp) (by simp) ?_
 refine evalPairs_cons (wpAny_Constant_int (wpAny_bind (wpAny_Constant_int (wpAny_bind (wpAny_standAt (wpAny_pure (evalPairs_nil ?_)))))))
 refine ⟨[((i:Int),_)],⟨intKind_is _ _ _ _,rfl,trivial⟩,AG _,λ h' hd hs=>?_⟩
 have hd:h'.DictOf (knd:=intKind G.prog G.w) s.heap.objs.size [((i:Int),Value.int j (s.toks+1))]:=hd
 have a':At G cx g env σ {s with heap:=h',toks:=s.toks+1+1+ [(Value.int i s.toks,Value.int j (s.toks+1))].length}:=
  a.ext λ b o e=>(hs.2 b (Nat.ne_of_lt (Heap.lt_size e))).trans (Heap.get?_push_of_some _ e)
 exact aE.dict hB a.big a' a.free hd (.cons (.int _ _) .nil) (Nat.le_of_ble_eq_true rfl) hw
theorem Vals.two {g:Gm} {xs:List V} {us:List Value} (h:Vals g xs us) (hl:xs.length=2): ∃v w v' w',xs= [v,w]/\us= [v',w']/\Val g v v'/\Val g w w':=by
 cases h with
 | nil=>cases hl
 | cons a r=>cases r with
  | nil=>cases hl
  | cons b r=>cases r with
   | nil=>exact ⟨_,_,_,_,rfl,rfl,a,b⟩
   | cons _ _=>exact absurd hl (by simp)
theorem Cd {α:Type}: ∀(l:List α) (i j:Nat) (a b:α),i≠j->put (put l i a) j b=put (put l j b) i a
 | [],_,_,_,_,_=>rfl
 | _::_,0,0,_,_,h=>absurd rfl h
 | _::_,0,_+1,_,_,_=>rfl
 | _::_,_+1,0,_,_,_=>rfl
 | c::l,i+1,j+1,a,b,h=>congrArg (c:: ·) (Cd l i j a b λ e=>h (by rw [e]))
set_option tactic.hygienic true in
theorem snd_swap {i j:Nat} {e:E} {x y:Str} {k:Nat} {p1 p2 tp pos:Pos} {z:Expr} (ok:aP cx) (hx:cx.at i x) (hm:x∈cx.mine) (hy:cx.at j y) (FC:y∈cx.mine) (hij:i≠j) (h:SE G n C cx e z)
  (hs: ∀env,swapsWithSole [.Tuple [.Name x p1, .Name y p2] k tp] z pos.line env=pure false)
  (hw': ∀env:Env,env.scope.kind= .function->env.scope.names=cx.names->swappedStores [.Tuple [.Name x p1, .Name y p2] k tp] z env=pure (some [x,y])):SS G n C cx (.unpack [i,j] e) (.Assign [.Tuple [.Name x p1, .Name y p2] k tp] z pos):=λ A env g σ s Q R a hw=>
 Assign_Tuple_swapped (bR (h A env g σ s _ R a hw) λ v s1 g1 σ1 u e1 a1 ou v1 q1=>by
  obtain ⟨vs,rfl,hl,q1⟩:=GB q1
  cases v1 with
  | tup f vv hv=>
   rename_i b its m
   have l:=vv.length
   simp at l hl
   have C6:its.size=2:=by lia
   have ht:IsTup s1.heap b its:=⟨_,a1.wd.fz _ _ f,rfl,_,rfl⟩
   rw [show ([x,y]:List Str).length=its.size from C6.symm]
   refine PyProof.Rows.unpackItems_tuple R.h ht λ h' he=>?_
   have a2:=Jz (t:=s1.toks) a1 he
   generalize its.toList=us at vv
   obtain ⟨v,w,v',w',rfl,rfl,hv1,hw1⟩:=vv.two hl
   show wpAny _ A (assignInOrder [λ v=>bindName env y v,λ v=>bindName env x v] [w',v']) _ cn _
   refine PyProof.Rows.assignInOrder_cons (bindName_ (fK ok hy FC a2 hw1 λ s3 a3=>?_))
   refine PyProof.Rows.assignInOrder_cons (bindName_ (fK ok hx hm a3 hv1 λ s4 a4=>PyProof.Rows.assignInOrder_nil ?_))
   refine ⟨g1,⟨putAll σ1.loc [i,j] [v,w],σ1.H⟩, .next,e1,?_, .next,q1⟩
   have:putAll σ1.loc [i,j] [v,w]=put (put σ1.loc j (some w)) i (some v):=Cd _ _ _ _ _ hij
   rw [this]; exact a4) (hs env) (hw' env a.fm.kind a.fm.names)
end
end
section
open PySem PySem.W PyProof.Rows PySem.SeqAt
noncomputable def Vu (B:Heap) (fd:FuncData) (cx:Cx) (ps:List Str):Prop:=
 ((∀x∈cx.names,x.2≠ .cell)/\∀(s:Shared) (us:List Value),(∀b o,B.get? b=some o->s.heap.get? b=some o)->us.length=ps.length->BindsTo s fd ⟨us,[]⟩ (ps.zip us))\/
  ∀us:List Value,us.length=ps.length->bindArgs fd ⟨us,[]⟩=pure (ps.zip us)
inductive FnX (B:Heap) (addr:Addr) (n:Nat) (cx:Cx) (body:List Stmt) (P:FuncData->List Str->Prop):Prop where
 | mk (o:Obj) (fd:FuncData) (ps:List Str) (h1:B.get? addr=some o) (h2:o.data= .func fd) (h3:B.CodeRec fd.code fd.qualname) (h4:fd.body= .stmts body) (h5:fd.closure= []) (h6:fd.globals=mainGlobals) (h7:fd.builtins=builtinsNs) (hc:fd.code=cx.code/\fd.qualname++ ".<locals>." =cx.qual)
  (h8:fd.scope.names=cx.names) (h9:fd.scope.kind= .function) (OW:fd.scope.isCoroutine=false) (DN:fd.scope.isGenerator=false) (TK:ps.length=n) (TL:ps.Nodup) (h14:P fd ps)
  (NM: ∀(i:Nat) (x:Str),ps[i]?=some x->cx.at i x/\x∈cx.mine) (TN: ∀(i:Nat) (x:Str),i < ps.length->cx.at i x->ps[i]?=some x)
structure GK (B:Heap) (addr:Addr) (fn:Fn) (cx:Cx) (body:List Stmt):Prop where
 ex:FnX B addr fn.params cx body λ fd ps=>Vu B fd cx ps
 mine: ∀x∈cx.mine,cx.names.lookup x=some .local\/(cx.names.lookup x=some .cell/\∀k,((cellsFrom k cx.names []).lookup x).isSome=true)
structure Entry (cx:Cx) (ps:List Str) (us:List Value) (s:Shared) (env:Env) (s₁:Shared):Prop where
 names:env.scope.names=cx.names
 kind:env.scope.kind= .function
 globals:env.globals=mainGlobals
 blt:env.builtins=builtinsNs
 code:env.code=cx.code
 qual:env.qual=cx.qual
 same: ∃h tk,s₁={s with heap:=h,toks:=tk}
 keep: ∀b o,s.heap.get? b=some o->s₁.heap.get? b=some o
 fresh:s.heap.objs.size<=env.locals
 ns: ∃m,s₁.heap.Ns env.locals m/\∀x v,(x,v)∈ps.zip us->cx.names.lookup x=some .local->m x=some v
 cells: ∀x c,(x,c)∈env.cells->env.locals < c
 cell: ∀x c,env.cells.lookup x=some c->∃v,s₁.heap.IsCell c v
 VS: ∀x v,(x,v)∈ps.zip us->cx.names.lookup x=some .cell->∃c,env.cells.lookup x=some c/\s₁.heap.IsCell c (some v)
 apart:env.cells.Pairwise λ x y=>x.2≠y.2
 mine: ∀x∈cx.mine,cx.names.lookup x=some .local\/(cx.names.lookup x=some .cell/\(env.cells.lookup x).isSome=true)
theorem mem_lookup {α:Type} {l:List (Str×α)} (nd:(l.map (·.1)).Nodup) {x:Str} {v:α} (h:(x,v)∈l):l.lookup x=some v:=by
 induction l with
 | nil=>exact absurd h List.not_mem_nil
 | cons p r ih=>
  have n:=List.nodup_cons.mp nd
  rw [show (p::r).lookup x=(match x == p.1 with | true=>some p.2 | false=>r.lookup x) from rfl]
  refine (List.mem_cons.mp h).elim (λ e=>?_) λ h=>?_
  ·subst e; rw [beq_self_eq_true]
  ·rw [show (x == p.1)=false from beq_false_of_ne λ e=>n.1 (List.mem_map.mpr ⟨(x,v),h,e⟩)]; exact ih n.2 h
theorem C0 {ps:List Str} {us:List Value} (nd:ps.Nodup):((ps.zip us).map (·.1)).Nodup:=by
 induction ps generalizing us with
 | nil=>exact .nil
 | cons p ps ih=>
  cases us with
  | nil=>exact .nil
  | cons u us=>
   have n:=List.nodup_cons.mp nd
   exact List.nodup_cons.mpr ⟨λ h=>(List.mem_map.mp h).elim λ q hq=>n.1 ((show q.1=p from hq.2)▸(List.of_mem_zip (show (q.1,q.2)∈ps.zip us from hq.1)).1),ih n.2⟩
theorem As {k:Str->Option NameKind} {l:List (Str×Value)} {m:Str->Option Value} {x:Str} (h:x∉l.map (·.1)):bindL k l m x=m x:=by
 induction l generalizing m with
 | nil=>rfl
 | cons p r ih=>
  refine (ih (m:=if k p.1=some .local then λ y=>if y=p.1 then some p.2 else m y else m) λ q=>h (.tail _ q)).trans ?_
  by_cases c:k p.1=some .local
  ·rw [if_pos c]; exact if_neg λ (e:x=p.1)=>h (List.mem_cons.mpr (.inl e))
  ·rw [if_neg c]
theorem Ar {k:Str->Option NameKind} {l:List (Str×Value)} {m:Str->Option Value} {x:Str} (h:x∉l.map (·.1)):bindC k l m x=m x:=by
 induction l generalizing m with
 | nil=>rfl
 | cons p r ih=>
  refine (ih (m:=if k p.1=some .local then m else λ y=>if y=p.1 then some p.2 else m y) λ q=>h (.tail _ q)).trans ?_
  by_cases c:k p.1=some .local
  ·rw [if_pos c]
  ·rw [if_neg c]; exact if_neg λ (e:x=p.1)=>h (List.mem_cons.mpr (.inl e))
theorem JH {k:Str->Option NameKind} {l:List (Str×Value)} {m:Str->Option Value} {x:Str} {v:Value} (nd:(l.map (·.1)).Nodup) (h:(x,v)∈l) (hk:k x=some .local):bindL k l m x=some v:=by
 induction l generalizing m with
 | nil=>exact absurd h List.not_mem_nil
 | cons p r ih=>
  have n:=List.nodup_cons.mp nd
  refine (List.mem_cons.mp h).elim (λ e=>?_) λ h=>ih n.2 h
  subst e
  exact (As n.1).trans (by rw [if_pos hk]; exact if_pos rfl)
theorem JG {k:Str->Option NameKind} {l:List (Str×Value)} {m:Str->Option Value} {x:Str} {v:Value} (nd:(l.map (·.1)).Nodup) (h:(x,v)∈l) (hk:k x≠some .local):bindC k l m x=some v:=by
 induction l generalizing m with
 | nil=>exact absurd h List.not_mem_nil
 | cons p r ih=>
  have n:=List.nodup_cons.mp nd
  refine (List.mem_cons.mp h).elim (λ e=>?_) λ h=>ih n.2 h
  subst e
  exact (Ar n.1).trans (by rw [if_neg hk]; exact if_pos rfl)
section
variable {prog:Program} {w:World} {A:Around} {s:Shared}
theorem JZ {B:Heap} {addr:Addr} {cx:Cx} {body:List Stmt} {us YW:List Value} {R:Result->Shared->Prop} {o:Obj} {fd:FuncData} {ps:List Str} (hm: ∀x∈cx.mine,cx.names.lookup x=some .local\/(cx.names.lookup x=some .cell/\∀k,((cellsFrom k cx.names []).lookup x).isSome=true)) (hB: ∀b o,B.get? b=some o->s.heap.get? b=some o) (bz:B.NoLimit)
  (r6:A.depth < recursionLimit) (h1:B.get? addr=some o) (h2:o.data= .func fd) (h3:B.CodeRec fd.code fd.qualname) (h4:fd.body= .stmts body) (h5:fd.closure= []) (h6:fd.globals=mainGlobals) (h7:fd.builtins=builtinsNs) (hc:fd.code=cx.code/\fd.qualname++ ".<locals>." =cx.qual)
  (h8:fd.scope.names=cx.names) (h9:fd.scope.kind= .function) (OW:fd.scope.isCoroutine=false) (DN:fd.scope.isGenerator=false) (TL:ps.Nodup) (nc: ∀x∈cx.names,x.2≠ .cell) (hb:BindsTo s fd ⟨us,[]⟩ (ps.zip YW)) (NM: ∀(i:Nat) (x:Str),ps[i]?=some x->cx.at i x/\x∈cx.mine)
  (k: ∀gg s₁,Entry cx ps YW s gg s₁->wpAny (model prog w) (A.deeper gg) (execs body gg) (λ f s'=>R (.ok (.ret (match f with | .ret v=>v | _=> .none))) s') cn s₁):codeAny (model prog w) A (.call (.ref addr) ⟨us,[]⟩) R s:=by
 have VQ: ∀{x v},(x,v)∈ps.zip YW->x∈cx.mine:=λ hx=>(List.mem_iff_getElem?.mp (List.of_mem_zip hx).1).elim λ i hi=>(NM i _ hi).2
 have loc: ∀{x},x∈cx.mine->cx.names.lookup x=some .local:=λ hx=>(hm _ hx).elim id λ q=>absurd rfl (nc _ (mem_of_lookup q.1))
 refine codeAny_call_def r6 (hB _ _ h1) h2 (bz.keeps hB) (h3.keeps hB) h4 hb (h8▸nc) (λ x hx=>h8▸loc (VQ hx)) (λ h₀ xl hk=>?_) OW DN h9
 have cells:(callEnv fd s.heap.objs.size addr).cells= []:=h5
 refine Ic (k _ _ ⟨h8,h9,h6,h7,hc.1,hc.2,⟨h₀,_,rfl⟩,hk,Nat.le_refl _,⟨_,xl,λ x v hx y=>mem_lookup ?_ (List.mem_reverse.mpr hx)⟩,λ x c hx=>?_,λ x c hx=>?_,λ x v y hx=>absurd rfl (nc _ (mem_of_lookup hx)),?_,λ x hx=> .inl (loc hx)⟩)
 ·rw [List.map_reverse]; exact List.pairwise_reverse.mpr ((C0 TL).imp Ne.symm)
 ·rw [cells] at hx; exact absurd hx List.not_mem_nil
 ·rw [cells] at hx; exact absurd hx.symm (Option.some_ne_none _)
 ·rw [cells]; exact .nil
theorem enter {B:Heap} {addr:Addr} {fn:Fn} {cx:Cx} {body:List Stmt} {us:List Value} {R:Result->Shared->Prop} (F:GK B addr fn cx body) (hB: ∀b o,B.get? b=some o->s.heap.get? b=some o) (bz:B.NoLimit)
  (r6:A.depth < recursionLimit) (hn:us.length=fn.params)
  (k: ∀gg s₁ ps,ps.length=fn.params->(∀(i:Nat) (x:Str),ps[i]?=some x->cx.at i x/\x∈cx.mine)->(∀(i:Nat) (x:Str),i < ps.length->cx.at i x->ps[i]?=some x)->Entry cx ps us s gg s₁->
   wpAny (model prog w) (A.deeper gg) (execs body gg) (λ f s'=>R (.ok (.ret (match f with | .ret v=>v | _=> .none))) s') cn s₁):codeAny (model prog w) A (.call (.ref addr) ⟨us,[]⟩) R s:=by
 obtain ⟨o,fd,ps,h1,h2,h3,h4,h5,h6,h7,hc,h8,h9,OW,DN,TK,TL,h14,NM,TN⟩:=F.ex
 have nd:((ps.zip us).map (·.1)).Nodup:=C0 TL
 have hl:=hn.trans TK.symm
 have VQ: ∀{x v},(x,v)∈ps.zip us->x∈cx.mine:=λ hx=>(List.mem_iff_getElem?.mp (List.of_mem_zip hx).1).elim λ i hi=>(NM i _ hi).2
 refine h14.elim (λ hb=>JZ F.mine hB bz r6 h1 h2 h3 h4 h5 h6 h7 hc h8 h9 OW DN TL hb.1 (hb.2 s us hB hl) NM λ gg s₁=>k gg s₁ ps TK NM TN) λ hb=>?_
 ·have gC: ∀{x},cx.names.lookup x=some .cell->x∈cx.mine->((cellsFrom (s.heap.objs.size+1) fd.scope.names []).lookup x).isSome=true:=λ hx hm=>
   (F.mine _ hm).elim (λ q=>NameKind.noConfusion (Option.some.inj (hx.symm.trans q))) λ q=>h8▸q.2 _
  refine codeAny_call_cells r6 (hB _ _ h1) h2 (bz.keeps hB) (h3.keeps hB) h4 (hb us hl) h5 (λ x hx=>(F.mine _ (VQ hx)).imp (λ q=>h8▸q) λ q=>⟨h8▸q.1,gC q.1 (VQ hx)⟩) (λ s₁ I=>?_) OW DN h9
  refine Ic (k _ s₁ ps TK NM TN ⟨h8,h9,h6,h7,hc.1,hc.2,I.toInCall.same,I.toInCall.keep,I.toInCall.fresh,⟨_,I.toInCall.ns,λ x v hx hl=>JH nd hx (show fd.scope.names.lookup x=_ from h8▸hl)⟩,I.above,λ x c hx=>⟨_,I.cell x c hx⟩,λ x v hx hl=>?_,I.apart,λ x hx=>(F.mine _ hx).imp id λ q=>⟨q.1,gC q.1 hx⟩⟩)
  refine (Option.isSome_iff_exists.mp (gC hl (VQ hx))).imp λ c hc=>⟨hc,?_⟩
  have:=I.cell x c hc
  rw [JG nd hx (show fd.scope.names.lookup x≠_ from λ e=>NameKind.noConfusion (Option.some.inj ((h8▸hl).symm.trans e)))] at this
  exact this
end
end
section
open PySem PySem.W PyProof.Rows PySem.SeqAt
section
variable {G:Pg} {cx:Cx} {g:Gm} {env:Env} {σ:St} {s:Shared} {n:Nat} {A:Around} {Q:PV} {QF:PF} {C:CT} {K:Frag} {mg mb:Str->Option Value}
open Classical in
noncomputable def rK (g:Gm) (P:Addr->Prop):Gm:=λ a=>if P a then .own else g a
theorem hA {P:Addr->Prop} {a:Addr} (h: ¬P a):rK g P a=g a:=by simp [rK,h]
theorem nY {P:Addr->Prop} {a:Addr} (h:P a):rK g P a= .own:=by simp [rK,h]
theorem Ex.own {P:Addr->Prop} (h: ∀a,P a->g a= .free):Ex g (rK g P):=⟨λ a n=>hA λ p=>n (h a p)⟩
theorem fT {P:Addr->Prop} {a:Addr} {t:Tg} (e:rK g P a=t) (h:t≠ .own): ¬P a/\g a=t:=by
 by_cases p:P a
 ·rw [nY p] at e; exact absurd e.symm h
 ·rw [hA p] at e; exact ⟨p,e⟩
theorem Wd.XM {H:Hp} (W:Wd G g H s) {P:Addr->Prop} (h: ∀a,P a->g a= .free/\∃o,s.heap.get? a=some o):Wd G (rK g P) H s where
 live a n:=by
  by_cases p:P a
  ·exact (h a p).2
  ·rw [hA p] at n; exact W.live a n
 fz a o e:=W.fz a o (fT e Tg.noConfusion).2
 kp a o e:=W.kp a o (fT e Tg.noConfusion).2
 ag a o e:=W.ag a o (fT e Tg.noConfusion).2
 base a o e:=by
  rw [hA λ p=>by have:=(h a p).1; rw [W.base a o e] at this; cases this]
  exact W.base a o e
 objs a o e:=(W.objs a o e).le (Ex.own λ a p=>(h a p).1).le λ m=>by
  rw [hA λ p=>by have:=(h a p).1; rw [m] at this; cases this]; exact m
 all a k:=W.all a (by
  rcases k with k | ⟨o,k⟩
  ·exact .inl (fT k Tg.noConfusion).2
  ·exact .inr ⟨o,(fT k Tg.noConfusion).2⟩)
 gN b a k e:=W.gN b a k (fT e Tg.noConfusion).2
 one b b' a k p q:=W.one b b' a k (fT p Tg.noConfusion).2 (fT q Tg.noConfusion).2
 tab:=by
  rw [hA λ p=>by have:=(h _ p).1; rw [W.tab] at this; cases this]
  exact W.tab
 tabs:=let ⟨ps,e,r⟩:=W.tabs; ⟨ps,e,r.le (Ex.own λ a p=>(h a p).1).le⟩
 gens:=W.gens
 os:=W.os
open Classical in
noncomputable def dY (g:Gm) (h:Heap):Gm:=λ a=>if g a= .own then (match h.get? a with | some o=> .kp o | none=> .free) else g a
open Classical in
noncomputable def i9 (g g':Gm):Gm:=λ a=>if g a= .own then .own else g' a
theorem bY {h:Heap} {a:Addr} (e:g a≠ .own):dY g h a=g a:=by simp [dY,e]
theorem jX {h:Heap} {a:Addr} {o:Obj} (e:g a= .own) (k:h.get? a=some o):dY g h a= .kp o:=by simp [dY,e,k]
theorem fy {h:Heap} {a:Addr} {t:Tg} (e:dY g h a=t) (h1: ∀o,t≠ .kp o) (h2:t≠ .free):g a=t:=by
 by_cases c:g a= .own
 ·exfalso
  unfold dY at e
  rw [if_pos c] at e
  split at e
  ·exact h1 _ e.symm
  ·exact h2 e.symm
 ·rw [bY c] at e; exact e
theorem Le.keep (g:Gm) (h:Heap):Le g (dY g h):=
 ⟨λ a o e=>by rw [bY]; exact e; rw [e]; exact Tg.noConfusion,λ b a k e=>by rw [bY]; exact e; rw [e]; exact Tg.noConfusion,
 λ a e=>by rw [bY]; exact e; rw [e]; exact Tg.noConfusion,λ a o e=>by rw [bY]; exact e; rw [e]; exact Tg.noConfusion⟩
theorem Wd.nU {H:Hp} (W:Wd G g H s):Wd G (dY g s.heap) H s where
 live a n:=by
  by_cases c:g a= .own
  ·exact W.live a (by rw [c]; exact Tg.noConfusion)
  ·rw [bY c] at n; exact W.live a n
 fz a o e:=W.fz a o (fy e (λ x=>Tg.noConfusion) Tg.noConfusion)
 kp a o e:=by
  by_cases c:g a= .own
  ·obtain ⟨o',h'⟩:=W.live a (by rw [c]; exact Tg.noConfusion)
   rw [jX c h'] at e; cases e; exact h'
  ·rw [bY c] at e; exact W.kp a o e
 ag a o e:=W.ag a o (fy e (λ x=>Tg.noConfusion) Tg.noConfusion)
 base a o e:=by
  rw [bY (by rw [W.base a o e]; exact Tg.noConfusion)]; exact W.base a o e
 objs a o e:=(W.objs a o e).le (Le.keep g s.heap) λ m=>(Le.keep g s.heap).mu a m
 all a k:=W.all a (by
  rcases k with k | ⟨o,k⟩
  ·exact .inl (fy k (λ x=>Tg.noConfusion) Tg.noConfusion)
  ·exact .inr ⟨o,fy k (λ x=>Tg.noConfusion) Tg.noConfusion⟩)
 gN b a k e:=W.gN b a k (fy e (λ x=>Tg.noConfusion) Tg.noConfusion)
 one b b' a k p q:=W.one b b' a k (fy p (λ x=>Tg.noConfusion) Tg.noConfusion) (fy q (λ x=>Tg.noConfusion) Tg.noConfusion)
 tab:=by rw [bY (by rw [W.tab]; exact Tg.noConfusion)]; exact W.tab
 tabs:=let ⟨ps,e,r⟩:=W.tabs; ⟨ps,e,r.le (Le.keep g s.heap)⟩
 gens:=W.gens
 os:=W.os
structure Kept (g:Gm) (h:Heap) (g':Gm):Prop where
 own: ∀a o,g a= .own->h.get? a=some o->g' a= .kp o
 ex: ∀a,g a≠ .free->g a≠ .own->g' a=g a
theorem Kept.of {g':Gm} (W:Wd G g σ.H s) (e:Ex (dY g s.heap) g'):Kept g s.heap g':=
 ⟨λ a o c h=>(e.ex a (by rw [jX c h]; exact Tg.noConfusion)).trans (jX c h),λ a n c=>(e.ex a (by rw [bY c]; exact n)).trans (bY c)⟩
theorem Ex.back {g':Gm} {h:Heap} (k:Kept g h g'):Ex g (i9 g g'):=⟨λ a n=>by
 by_cases c:g a= .own
 ·simp [i9,c]
 ·simp only [i9,c,if_false]; exact k.ex a n c⟩
theorem mv {g':Gm} {a:Addr} (c:g a≠ .own):i9 g g' a=g' a:=by simp [i9,c]
theorem dT {g':Gm} {a:Addr} {t:Tg} (e:i9 g g' a=t) (h:t≠ .own):g a≠ .own/\g' a=t:=by
 by_cases c:g a= .own
 ·simp only [i9,c,if_true] at e; exact absurd e.symm h
 ·rw [mv c] at e; exact ⟨c,e⟩
theorem Le.back {g':Gm} {h:Heap} (k:Kept g h g') (lv: ∀a,g a= .own->∃o,h.get? a=some o):Le g' (i9 g g'):=by
 have key: ∀{a:Addr} {t:Tg},g' a=t->(∀o,t≠ .kp o)->i9 g g' a=t:=λ {a t} e n=>by
  rw [mv]
  ·exact e
  ·intro c
   obtain ⟨o,ho⟩:=lv a c
   exact n o (e▸k.own a o c ho)
 exact ⟨λ a o e=>key e λ x=>Tg.noConfusion,λ b a k e=>key e λ x=>Tg.noConfusion,λ a e=>key e λ x=>Tg.noConfusion,λ a o e=>key e λ x=>Tg.noConfusion⟩
theorem Wd.backTo {H':Hp} {g':Gm} {s':Shared} (W:Wd G g σ.H s) (k:Kept g s.heap g') (W':Wd G g' H' s'):Wd G (i9 g g') H' s':=by
 have lv: ∀a,g a= .own->∃o,s.heap.get? a=some o:=λ a c=>W.live a (by rw [c]; exact Tg.noConfusion)
 have le:=Le.back k lv
 exact {
  live:=λ a n=>by
   by_cases c:g a= .own
   ·obtain ⟨o,ho⟩:=lv a c
    exact ⟨o,W'.kp a o (k.own a o c ho)⟩
   ·rw [mv c] at n; exact W'.live a n
  fz:=λ a o e=>W'.fz a o (dT e Tg.noConfusion).2
  kp:=λ a o e=>W'.kp a o (dT e Tg.noConfusion).2
  ag:=λ a o e=>W'.ag a o (dT e Tg.noConfusion).2
  base:=λ a o e=>le.fz a o (W'.base a o e)
  objs:=λ a o e=>(W'.objs a o e).le le λ m=>le.mu a m
  all:=λ a h=>W'.all a (by
   rcases h with h | ⟨o,h⟩
   ·exact .inl (dT h Tg.noConfusion).2
   ·exact .inr ⟨o,(dT h Tg.noConfusion).2⟩)
  gN:=λ b a j e=>W'.gN b a j (dT e Tg.noConfusion).2
  one:=λ b b' a j p q=>W'.one b b' a j (dT p Tg.noConfusion).2 (dT q Tg.noConfusion).2
  tab:=by
   rw [mv (λ c=>by have:=W.tab; rw [c] at this; cases this)]; exact W'.tab
  tabs:=let ⟨ps,e,r⟩:=W'.tabs; ⟨ps,e,r.le le⟩
  gens:=W'.gens
  os:=W'.os}
theorem At.backTo {H':Hp} {g':Gm} {s':Shared} (a:At G cx g env σ s) (k:Kept g s.heap g') (W':Wd G g' H' s'):At G cx (i9 g g') env ⟨σ.loc,H'⟩ s':=by
 refine ⟨a.wd.backTo k W',?_⟩
 have e: ∀b o,(g b= .own\/∃o',g b= .kp o')->s.heap.get? b=some o->s'.heap.get? b=some o:=λ b o c h=>by
  rcases c with c | ⟨o',c⟩
  ·exact W'.kp b o (k.own b o c h)
  ·have:=W'.kp b o' ((k.ex b (by rw [c]; exact Tg.noConfusion) (by rw [c]; exact Tg.noConfusion)).trans c)
   rw [a.wd.kp b o' c] at h; cases h; exact this
 exact (a.fm.heap e).ex (Ex.back k)
end
end
section
open PySem PySem.W PyProof.Rows PySem.SeqAt
section
variable {G:Pg} {cx:Cx} {g:Gm} {env:Env} {σ:St} {s:Shared} {n:Nat} {A:Around} {Q:PV} {QF:PF} {C:CT} {K:Frag} {mg mb:Str->Option Value}
noncomputable def z8 (G:Pg) (F:Nat->Option Fn) (addr:Nat->Addr) (n:Nat) (C:CT):Prop:=
 ∀(i:Nat) (vs:List V) (us:List Value) (Q:V->Hp->Prop) (H:Hp) (A:Around) (g:Gm) (s:Shared),cJ A n->Wd G g H s->Vals g vs us->(∀fn,F i=some fn->us.length=fn.params)->C i vs Q H->
  codeAny (model G.prog G.w) A (.call (.ref (addr i)) ⟨us,[]⟩) (λ r s'=> ∃v,r= .ok (.ret v)/\∃g' H' x,Ex g g'/\Wd G g' H' s'/\Val g' x v/\Q x H') s
theorem Ig {vs:List V} {k:Nat} {i:Nat} {v:V} (h:df (vs.map some++List.replicate k .none) i=some (some v)):vs[i]?=some v:=by
 rw [qA] at h
 by_cases c:i < vs.length
 ·rw [List.getElem?_append_left (by simpa using c),List.getElem?_map] at h
  cases e:vs[i]? with
  | none=>rw [e] at h; cases h
  | some y=>rw [e] at h; simpa using h
 ·rw [List.getElem?_append_right (by simpa using Nat.le_of_not_lt c),List.getElem?_replicate] at h
  split at h <;> simp at h
theorem Vals.get {vs:List V} {us:List Value} (h:Vals g vs us) {i:Nat} {v:V} (e:vs[i]?=some v): ∃u,us[i]?=some u/\Val g v u:=h.df (by rw [qA]; exact e)
theorem w7 {ps:List Str} {us:List Value} {l:List (Option V)} {s₁:Shared} {H:Hp} (W:Wd G g H s) (ha:G.B.objs.size<=s.heap.objs.size) (E:Entry cx ps us s env s₁) (hv: ∀(i:Nat) (v:V),df l i=some (some v)->∃u,us[i]?=some u/\Val g v u) (hl:us.length=ps.length)
  (h1: ∀(i:Nat) (x:Str),ps[i]?=some x->cx.at i x/\x∈cx.mine) (h2: ∀(i:Nat) (x:Str),i < ps.length->cx.at i x->ps[i]?=some x):
  ∃g',Ex g g'/\At G cx g' env ⟨l,H⟩ s₁:=by
 obtain ⟨hp,tk,rfl⟩:=E.same
 have keep:=E.keep
 obtain ⟨m,xl,hm⟩:=E.ns
 let P:Addr->Prop:=λ a=>a=env.locals\/∃x,env.cells.lookup x=some a
 have jV: ∀b,s.heap.objs.size<=b->g b= .free:=λ b hb=>W.fresh (by
  cases e:s.heap.get? b with
  | none=>rfl
  | some o=>exact absurd (Heap.lt_size e) (Nat.not_lt.mpr hb))
 have hP: ∀a,P a->g a= .free/\∃o,hp.get? a=some o:=λ a p=>by
  rcases p with rfl | ⟨x,hx⟩
  ·exact ⟨jV _ E.fresh,let ⟨o,_,_,e,_⟩:=xl; ⟨o,e⟩⟩
  ·have:=E.cells x a (PySem.mem_of_lookup hx)
   exact ⟨jV _ (Nat.le_trans E.fresh (Nat.le_of_lt this)),let ⟨_,o,e,_⟩:=E.cell x a hx; ⟨o,e⟩⟩
 have W1:Wd G g H {s with heap:=hp,toks:=tk}:=W.keep (λ a o z e=>keep a o e) rfl rfl
 have hex:Ex g (rK g P):=Ex.own λ a p=>(hP a p).1
 have kindOf: ∀x,env.kindOf x=cx.names.lookup x:=λ x=>by rw [Env.kindOf,E.names]
 refine ⟨rK g P,hex,W1.XM hP,⟨E.kind,E.names,E.globals,E.blt,E.code,E.qual,Nat.le_trans ha E.fresh,nY (.inl rfl),⟨m,xl⟩,λ i x v hx e=>?_,λ x hx=>?_,λ x y c hx hy=>?_⟩⟩
 ·obtain ⟨u,hu,vu⟩:=hv i v e
  have hi:i < ps.length:=by rw [<- hl]; exact (List.getElem?_eq_some_iff.mp hu).1
  have Vj:=h2 i x hi hx
  have hz:(x,u)∈ps.zip us:=by
   refine List.mem_iff_getElem?.mpr ⟨i,?_⟩
   rw [List.getElem?_zip_eq_some]; exact ⟨Vj,hu⟩
  refine ⟨u,?_,vu.le hex.le⟩
  rcases E.mine x (h1 i x Vj).2 with q | ⟨q,_⟩
  ·exact .inl ⟨(kindOf x).trans q,m,xl,hm x u hz q⟩
  ·obtain ⟨c,hc,hcv⟩:=E.VS x u hz q
   exact .inr ⟨.inl ((kindOf x).trans q),c,hc, .inl (nY (.inr ⟨x,hc⟩)),hcv⟩
 ·rcases E.mine x hx with q | ⟨q,hs⟩
  ·exact .inl ((kindOf x).trans q)
  ·obtain ⟨c,hc⟩:=Option.isSome_iff_exists.mp hs
   obtain ⟨v,hv⟩:=E.cell x c hc
   exact .inr ⟨(kindOf x).trans q,c,v,hc,nY (.inr ⟨x,hc⟩),hv⟩
 ·exact PySem.name_of_addr E.apart (PySem.mem_of_lookup hx) (PySem.mem_of_lookup hy)
theorem entry_at {ps:List Str} {us:List Value} {vs:List V} {s₁:Shared} {H:Hp} {k:Nat} (W:Wd G g H s) (ha:G.B.objs.size<=s.heap.objs.size) (E:Entry cx ps us s env s₁) (vl:Vals g vs us) (hl:us.length=ps.length)
  (h1: ∀(i:Nat) (x:Str),ps[i]?=some x->cx.at i x/\x∈cx.mine) (h2: ∀(i:Nat) (x:Str),i < ps.length->cx.at i x->ps[i]?=some x):
  ∃g',Ex g g'/\At G cx g' env ⟨vs.map some++List.replicate k .none,H⟩ s₁:=
 w7 W ha E (λ y y e=>vl.get (Ig e)) hl h1 h2
theorem Wd.size (W:Wd G g σ.H s) (top: ∃o,G.B.get? (G.B.objs.size - 1)=some o):G.B.objs.size<=s.heap.objs.size:=by
 obtain ⟨o,h⟩:=top
 have:=Heap.lt_size (W.fz _ _ (W.base _ _ h))
 have h2:G.B.objs.size - 1 < s.heap.objs.size:=this
 lia
theorem Dn {F:Nat->Option Fn} {addr:Nat->Addr} (bz:G.B.NoLimit) (top: ∃o,G.B.get? (G.B.objs.size - 1)=some o) (D: ∀i fn,F i=some fn->∃cx body,GK G.B (addr i) fn cx body/\c6 G n (au F n) cx fn.body body):z8 G F addr (n+1) (au F (n+1)):=by
 intro i vs us Q H A g s R W vl hlen hc
 have hrl:recursionLimit=1000:=rfl
 have hd:=R.d
 have hu:=R.u
 refine ub hc λ fn l hf sL hc=>?_
 have hl:=hlen fn hf
 obtain ⟨cx,body,FO,SB⟩:=D i fn hf
 have hvl:vs.length=fn.params:=by rw [vl.length]; exact hl
 have:l=vs.map some++List.replicate (fn.names - fn.params) .none:=by
  unfold fW at sL
  split at sL
  ·cases sL
   have:fn.dflt.length+vs.length - fn.params=fn.dflt.length:=by lia
   rw [this,List.drop_length,List.append_nil]
  ·cases sL
 subst this
 refine enter FO (λ b o e=>W.fz b o (W.base b o e)) bz (by lia) hl λ gg s₁ ps FD h1 h2 E=>?_
 obtain ⟨g',ex,a⟩:=entry_at (k:=fn.names - fn.params) W (Wd.size (σ:=⟨[],H⟩) W top) E vl (by lia) h1 h2
 have R':cJ (A.deeper gg) n:=⟨R.h,by show A.depth+1+n < 900; lia,by show A.units+3+3*n < 9000; lia⟩
 refine xW (SB (A.deeper gg) gg g' _ s₁ _ R' a hc) λ f s' g2 σ2 fl e2 a2 r2 q2=>?_
 have ee:=ex.trans e2
 cases r2 with
 | next=>exact ⟨_,rfl,g2,σ2.H, .none,ee,a2.wd, .none,q2⟩
 | ret v=>exact ⟨_,rfl,g2,σ2.H,_,ee,a2.wd,v,q2⟩
 | brk=>exact q2.elim
 | cont=>exact q2.elim
theorem Fp {F:Nat->Option Fn} {addr:Nat->Addr} {i:Nat} {vs:List V} {us:List Value} (CS:z8 G F addr n C) (R:cJ A n) (a:At G cx g env σ s) (vl:Vals g vs us) (hl: ∀fn,F i=some fn->us.length=fn.params)
  (hc:C i vs (λ v H=>Q v ⟨σ.loc,H⟩) σ.H):wpAny (model G.prog G.w) A (call (.ref (addr i)) us) (aE G cx g env σ.loc Q) cn s:=by
 refine wpAny_call (codeAny_mono (CS i vs us _ σ.H A (dY g s.heap) s R a.wd.nU (vl.le (Le.keep g s.heap)) hl hc) λ r s' h=>?_)
 obtain ⟨v,rfl,g',H',x,e,W',vx,q⟩:=h
 have k:=Kept.of a.wd e
 exact ⟨i9 g g',⟨σ.loc,H'⟩,x,Ex.back k,a.backTo k W', .refl _ _,vx.le (Le.back k λ b c=>a.wd.live b (by rw [c]; exact Tg.noConfusion)),q⟩
theorem LV {x:Str} {f:Addr} {pos:Pos} {P:Value->Shared->Prop} (hg:G.B.Ns mainGlobals mg) (hm:mg x=some (.ref f)) (hd:(x == ("__debug__" :Str))=false) (hx:cx.names.lookup x=some .globalImplicit) (a:At G cx g env σ s) (h:P (.ref f) s):
  wpAny (model G.prog G.w) A (eval (.Name x pos) env) P cn s:=by
 have hk:env.kindOf x=some .globalImplicit:=by rw [Env.kindOf,a.fm.names]; exact hx
 refine wpAny_Name ?_ hd
 rw [loadName_read a.fm.kind hk]
 exact Calls.loadGlobal_global (a.fm.globals▸hg.keeps a.keeps) hm h
end
end
section
open PySem PySem.W PyProof.Rows PySem.SeqAt
section
variable {G:Pg} {cx:Cx} {g:Gm} {env:Env} {σ:St} {s:Shared} {n:Nat} {A:Around} {Q:PV} {QF:PF} {C:CT} {K:Frag} {mg mb:Str->Option Value} {F:Nat->Option Fn} {addr:Nat->Addr}
theorem yf {M:Model} {E:Value->Shared->Prop} {pos:Pos} {f:Value} {xs:List Expr} {P:Args->Shared->Prop} (hp:(backTo pos (starEach xs env)).any (·.1)=false)
  (h:wpAny M A (spliced (backTo pos (starEach xs env))) (λ vs s₁=>P ⟨vs,[]⟩ s₁) E s):wpAny M A (evalArgs f true (backTo pos (starEach xs env)) []) P E s:=by
 cases e:backTo pos (starEach xs env) with
 | nil=>
  rw [e] at h
  unfold evalArgs
  show wpAny M A (spliced [] >>= _) _ E s
  refine wpAny_bind (wpAny_mono h (λ vs s' h'=>?_) λ y y x=>x)
  refine wpAny_holding ?_
  exact wpAny_bind (wpAny_pure (wpAny_bind (wpAny_pure (wpAny_pure h'))))
 | cons p r=>
  obtain ⟨b,t⟩:=p
  have:b=false:=by rw [e] at hp; simp at hp; exact hp.1
  subst this
  rw [e] at h
  exact Calls.evalArgs_plain h
theorem M7 {i:Nat} {es:List E} {x:Str} {xs:List Expr} {p pos:Pos} (O:GL G K mg mb) (CS:z8 G F addr n C) (hm:mg x=some (.ref (addr i))) (hf: ∃o fd,G.B.get? (addr i)=some o/\o.data= .func fd)
  (hd:(x == ("__debug__" :Str))=false) (hx:cx.names.lookup x=some .globalImplicit) (h:E6 G n C cx es xs) (hl: ∀fn,F i=some fn->xs.length=fn.params) (hp: ∀env,(backTo pos (starEach xs env)).any (·.1)=false):
  SE G n C cx (.call i es) (.Call (.Name x p) xs [] pos):=λ A env g σ s Q R a hw=>by
 obtain ⟨o,fd,h1,h2⟩:=hf
 refine wpAny_Call_NameR (LV O.g hm hd hx a (Calls.callWith_function (o:=o) (fd:=fd) (yf (hp env) ?_)))
 refine sv (h A env g σ s pos _ R a hw) λ us s1 g1 σ1 vs e1 a1 ou v1 q1=>⟨⟨a1.keeps _ _ h1,h2⟩,?_⟩
 exact up1 e1 ou (Fp (us:=us) CS R a1 v1 (λ fn TY=>by rw [<- v1.length,q1.1]; exact hl fn TY) q1.2)
theorem vM {M:Model} {E:Value->Shared->Prop} {o:Expr} {name:Str} {apos pos:Pos} {args:List Expr} {P:Value->Shared->Prop} (MF:rW o name apos pos args)
  (h:wpAny M A (eval o env) (λ ov s₁=> ∀pl,wpAny M A (getMethod ov name pl) (λ fx s₂=>wpAny M A (callWith pos fx.1 fx.2 (backTo pos (starEach args env)) []) P E s₂) E s₁) E s):
  wpAny M A (eval (.Call (.Attribute o name apos) args [] pos) env) P E s:=by
 rw [arm_eval_Call,MF.base env]
 refine wpAny_bind (wpAny_mono h (λ ov s₁ h₁=>?_) λ x x e=>e)
 refine wpAny_bind (wpAny_standAt ?_)
 have Wv:methodCallForm (args.length+([]:List Keyword).length) (backTo pos (starEach args env)) (backToKw pos (keywordEach [] env))=true:=MF.few env
 have WM:methodCallPos true o env apos pos=pure pos:=by unfold methodCallPos; simp [MF.line]
 unfold methodCall
 rw [Wv]
 refine wpAny_bind (wpAny_holding (wpAny_mono (h₁ _) (λ fx s₂ h₂=>?_) λ x x e=>e))
 exact wpAny_bind (wpAny_of_eq WM h₂)
theorem Ng {i:Nat} {o:E} {es:List E} {x:Expr} {name:Str} {xs:List Expr} {ap pos:Pos} (O:GL G K mg mb) (CS:z8 G F addr n C) (MF:rW x name ap pos xs)
  (hg:plainGet K G.C name=true) (hfi:findIn K (.ref G.C) name=some (some (.ref (addr i)))) (TY:isFn K (.ref (addr i))=true) (hn: ∀(P:Params) (t0 t1 t2 t3:Tok) (b0 b1 b2 b3:Addr),getL name (jP P t0 t1 t2 t3 b0 b1 b2 b3)=some none)
  (hf: ∃o fd,G.B.get? (addr i)=some o/\o.data= .func fd) (h0:SE G n C cx o x) (h:E6 G n C cx es xs) (hl: ∀fn,F i=some fn->xs.length+1=fn.params):
  SE G n C cx (.gZ i o es) (.Call (.Attribute x name ap) xs [] pos):=λ A env g σ s Q R a hw=>by
 refine vM MF (bR (h0 A env g σ s _ R a hw) λ u s1 g1 σ1 v e1 a1 ou v1 q1 pl=>?_)
 obtain ⟨⟨b,N,I,U,T,rfl,eb⟩,q1⟩:=q1
 cases v1 with
 | ref b lv=>
  obtain ⟨b0,b1,b2,b3,⟨d,t0,t1,t2,t3,m,p1,p2,r0,r1,r2,r3⟩,_⟩:=a1.wd.objs b _ eb
  obtain ⟨m₀,Fr₀⟩:=a1.fm.fr a1.wd
  have II:=FL a1.wd p1 p2
  obtain ⟨fo,fd,h1,h2⟩:=hf
  refine method_inst Fr₀ O.zZ II hg hfi TY (hn ..) ?_
  refine Calls.callWith_function (o:=fo) (fd:=fd) (yf (MF.plain env) ?_)
  refine sv (h A env g1 σ1 s1 pos _ R a1 q1) λ us s2 g2 σ2 vs e2 a2 NK v2 q2=>⟨⟨a2.keeps _ _ h1,h2⟩,?_⟩
  exact up1 (e1.trans e2) (ou.trans NK) (Fp (us:= .ref b::us) CS R a2 (.cons (.ref b (e2.le.lv lv)) v2) (λ fn TY=>by
   have:=v2.length; rw [q2.1] at this
   simp only [List.length_cons,<- this]; exact hl fn TY) q2.2)
end
end
section
open PySem PySem.W PyProof.Rows PySem.SeqAt
noncomputable def eO:Str:=Str.ofString "self"
noncomputable def tR (body:List Stmt):Prop:= ∃(p1 p2 p3 p4 p5 p6 p7 p8 p9 q1 q2 q3 q4 q5 q6 q7 q8:Pos) (k:Nat),
 body= [.Assign [.Attribute (.Name eO p1) (aK 0) p2] (.List [.Constant .none k p3] p4) p5, .Assign [.Attribute (.Name eO p6) (aK 1) p7] (.List [] p8) p9,
  .Assign [.Attribute (.Name eO q1) (aK 2) q2] (.List [] q3) q4, .Assign [.Attribute (.Name eO q5) (aK 3) q6] (.Dict [] [] q7) q8]
noncomputable def JS (c:Value) (q:Str):Cx:=⟨[(eO, .local)],[some eO],[eO],[],c,q⟩
noncomputable def Ke:Fn:=⟨1,[],1,[]⟩
structure Dd (G:Pg) (K:Frag) (fI:Addr):Prop where
 makes:makesIn K G.C=true
 init:findIn K (.ref G.C) "__init__" =some (some (.ref fI))
 aar:isFn K (.ref fI)=true
 keep:keepIn K (.ref G.C)=true
 set:findIn K (.ref G.C) "__setattr__" =some (some (.builtin "object.__setattr__"))
 over:plainOver K G.C=true
 tak: ∀k,k < 4->takerIn K G.C (aK k)=some none
 fn: ∃body c q,GK G.B fI Ke (JS c q) body/\tR body
section
variable {G:Pg} {cx:Cx} {g:Gm} {env:Env} {σ:St} {s:Shared} {n:Nat} {A:Around} {Q:PV} {QF:PF} {C:CT} {K:Frag} {mg mb:Str->Option Value} {F:Nat->Option Fn} {addr:Nat->Addr}
noncomputable def Fg (B h:Heap) (L d:Addr):List (Addr×Obj):=(List.range h.objs.size).filterMap λ a=>match h.get? a with
 | some o=>if a=L\/a=d\/(B.get? a).isSome then none else some (a,o)
 | none=>none
theorem mr {B h:Heap} {L d a:Addr} {o:Obj}:(a,o)∈Fg B h L d↔h.get? a=some o/\a≠L/\a≠d/\B.get? a=none:=by
 refine List.mem_filterMap.trans ⟨λ ⟨b,_,e⟩=>?_,λ ⟨h1,h2,h3,h4⟩=>⟨a,List.mem_range.mpr (Heap.lt_size h1),?_⟩⟩
 ·cases ho:h.get? b with
  | none=>rw [ho] at e; exact bh e
  | some o'=>
   rw [ho] at e
   by_cases c:b=L\/b=d\/(B.get? b).isSome=true
   ·exact bh ((if_pos c).symm.trans e)
   ·obtain ⟨rfl,rfl⟩:=Prod.mk.inj (Option.some.inj ((if_neg c).symm.trans e))
    exact ⟨ho,λ q=>c (.inl q),λ q=>c (.inr (.inl q)),Option.not_isSome_iff_eq_none.mp λ q=>c (.inr (.inr q))⟩
 ·rw [h1]; exact if_neg λ q=>q.elim h2 λ q=>q.elim h3 λ q=>Bool.noConfusion ((congrArg Option.isSome h4).symm.trans q)
theorem UZ {h:Heap} {L x d:Addr} {m:Str->Option Value} {es hY:List DictEntry} {k nn:Nat} {v:Value} {P:Unit->Shared->Prop} (zZ:K.In G.B) (dict:hasDictIn K G.C=true) {fI:Addr} (M:Dd G K fI) (Fx:Fr G.B L s.heap m)
  (hx:s.heap.get? x=some (instObj G.C d)) (hd:s.heap.get? d=some (PySem.W.dictOf es nn)) (dL:d≠L) (dB:G.B.get? d=none) (hk:k < 4) (hl:(getL (aK k) es).isSome=true)
  (e:putL (aK k) (PyData.keyHash G.w.params (aK k)) (.str (aK k) (s.toks+1)) v es=hY) (hz:hY.length<=1000)
  (K': ∀h' XH,(∀b o,b≠d->b≠L->s.heap.get? b=some o->h'.get? b=some o)->Fr G.B L h' m->h'.get? d=some (PySem.W.dictOf hY XH)->P () {s with heap:=h',toks:=s.toks+2}):
  wpAny (model G.prog G.w) A (setAttr (.ref x) (aK k) v) P cn s:=by
 have N:News G.B L s.heap ((d,PySem.W.dictOf es nn)::Fg G.B s.heap L d):=λ p hp=>by
  rcases List.mem_cons.mp hp with rfl | hp
  ·exact ⟨hd,dL,dB⟩
  ·obtain ⟨a,o⟩:=p
   obtain ⟨h1,h2,h3,h4⟩:=mr.mp hp
   exact ⟨h1,h2,h4⟩
 refine set_dict (x:=x) (dx:=d) Fx zZ N ⟨hx,rfl,rfl,hd⟩ rfl M.set M.over (M.tak k hk) dict hl (by rw [e]) (.head λ p hp=>?_) hz λ h' F' N'=>?_
 ·obtain ⟨a,o⟩:=p
  exact (mr.mp hp).2.2.1
 ·refine K' h' _ (λ b o b1 b2 eb=>?_) F' (N' _ (List.mem_cons_self ..)).1
  cases q:G.B.get? b with
  | some ob=>
   have h1:=Fx.keep b ob q
   rw [eb] at h1; cases h1
   exact F'.keep b _ q
  | none=>exact (N' (b,o) (List.mem_cons_of_mem _ (mr.mpr ⟨eb,b2,b1,q⟩))).1
noncomputable def Jx (g:Gm) (x d b0 b1 b2 b3:Addr) (ox od:Obj):Gm:=setG (setG (setG (setG (setG (setG g b3 (.jM x 3)) b2 (.jM x 2)) b1 (.jM x 1)) b0 (.jM x 0)) d (.fz od)) x (.aig ox)
noncomputable def VC (h:Heap) (x:Addr) (bs:List Addr) (a:Addr):Tg->Prop
 | .fz o=>h.get? a=some o
 | .aig o=>h.get? a=some o/\a=x
 | .jM y k=>y=x/\bs[k]?=some a/\∃o,h.get? a=some o
 | _=>False
theorem j4 {g0 g:Gm} {b:Addr} {t:Tg} {P:Addr->Tg->Prop} (h:P b t) (k: ∀a u,g a=u->P a u\/g0 a=u) (a:Addr) (u:Tg) (e:setG g b t a=u):P a u\/g0 a=u:=by
 by_cases q:a=b
 ·subst q; exact .inl (((aD g a t).symm.trans e)▸h)
 ·exact k a u ((aG g t q).symm.trans e)
theorem Ha {K:Type} [DecidableEq K] {prog:Program} {w:World} {knd:HeapKind prog w K} {h:Heap} {a:Addr} {n:Nat} (e:h.get? a=some {cls:= .type "dict",data:= .dict #[] n}):h.DictOfH knd a []:=
 ⟨_,#[],_,e,⟨rfl,rfl,rfl⟩,rfl,rfl,λ x he=>by simp at he,List.nodup_nil⟩
structure mh (G:Pg) (g:Gm) (h:Heap) (x d b0 b1 b2 b3:Addr) (od:Obj):Prop where
 fx:g x= .free
 fd:g d= .free
 f0:g b0= .free
 f1:g b1= .free
 f2:g b2= .free
 f3:g b3= .free
 ne:d≠x/\b0≠x/\b1≠x/\b2≠x/\b3≠x/\b0≠d/\b1≠d/\b2≠d/\b3≠d/\b1≠b0/\b2≠b0/\b3≠b0/\b2≠b1/\b3≠b1/\b3≠b2
 ax:h.get? x=some (instObj G.C d)
 ad:h.get? d=some od
 es: ∃t0 t1 t2 t3 n,od=PySem.W.dictOf (jP G.w.params t0 t1 t2 t3 b0 b1 b2 b3) n
 a0:h.PlainList b0 #[.none]
 a1:h.PlainList b1 #[]
 a2:h.PlainList b2 #[]
 a3: ∃n,h.get? b3=some {cls:= .type "dict",data:= .dict #[] n}
 sys:(b3 == sysModules)=false
theorem mh.old {h:Heap} {x d b0 b1 b2 b3:Addr} {od:Obj} (N:mh G g h x d b0 b1 b2 b3 od):Ex g (Jx g x d b0 b1 b2 b3 (instObj G.C d) od):=((((((Ex.refl g).kp N.f3).kp N.f2).kp N.f1).kp N.f0).kp N.fd).kp N.fx
theorem mh.rel {h:Heap} {x d b0 b1 b2 b3:Addr} {od:Obj} (N:mh G g h x d b0 b1 b2 b3 od): ∀a u,Jx g x d b0 b1 b2 b3 (instObj G.C d) od a=u->VC h x [b0,b1,b2,b3] a u\/g a=u:=
 j4 (P:=VC h x [b0,b1,b2,b3]) ⟨N.ax,rfl⟩ <| j4 N.ad <| j4 ⟨rfl,rfl,nA N.a0⟩ <| j4 ⟨rfl,rfl,nA N.a1⟩ <| j4 ⟨rfl,rfl,nA N.a2⟩ <| j4 ⟨rfl,rfl,N.a3.elim λ y e=>⟨_,e⟩⟩ λ y y=> .inr
theorem mh.obj {h:Heap} {x d b0 b1 b2 b3:Addr} {od:Obj} (N:mh G g h x d b0 b1 b2 b3 od):en G.prog G.w G.C (Jx g x d b0 b1 b2 b3 (instObj G.C d) od) h x (.aig [.none] [] [] []):=by
 obtain ⟨t0,t1,t2,t3,nn,e⟩:=N.es
 obtain ⟨n1,n2,n3,n4,n5,n6,n7,n8,n9,n10,n11,n12,n13,n14,n15⟩:=N.ne
 exact ⟨b0,b1,b2,b3,⟨d,t0,t1,t2,t3,nn,aD ..,(aG _ _ n1).trans (e▸aD ..),(aG _ _ n2).trans ((aG _ _ n6).trans (aD ..)),(aG _ _ n3).trans ((aG _ _ n7).trans ((aG _ _ n10).trans (aD ..))),
  (aG _ _ n4).trans ((aG _ _ n8).trans ((aG _ _ n11).trans ((aG _ _ n13).trans (aD ..)))),(aG _ _ n5).trans ((aG _ _ n9).trans ((aG _ _ n12).trans ((aG _ _ n14).trans ((aG _ _ n15).trans (aD ..)))))⟩,
  ⟨_,N.a0, .cons .none .nil,Nat.le_of_ble_eq_true rfl⟩,⟨_,N.a1, .nil,Nat.zero_le _⟩,⟨_,N.a2, .nil,Nat.zero_le _⟩,N.sys,Nat.zero_le _,[],N.a3.elim λ y e=>Ha e, .nil⟩
theorem Wd.XF {H:Hp} (W:Wd G g H s) {x d b0 b1 b2 b3:Addr} {od:Obj} (N:mh G g s.heap x d b0 b1 b2 b3 od):Wd G (Jx g x d b0 b1 b2 b3 (instObj G.C d) od) (upd H x (.aig [.none] [] [] [])) s where
 live a n:=by
  refine (N.rel a _ rfl).elim (λ r=>?_) λ q=>W.live a λ e=>n (q.symm.trans e)
  revert r
  cases Jx g x d b0 b1 b2 b3 (instObj G.C d) od a with
  | fz o=>exact λ r=>⟨o,r⟩
  | aig o=>exact λ r=>⟨o,r.1⟩
  | jM y k=>exact λ r=>r.2.2
  | _=>exact False.elim
 fz a o e:=(N.rel a _ e).elim id (W.fz a o)
 kp a o e:=(N.rel a _ e).elim False.elim (W.kp a o)
 ag a o e:=(N.rel a _ e).elim (·.1) (W.ag a o)
 base a o e:=N.old.to (W.base a o e) rfl
 objs a o e:=by
  by_cases q:a=x
  ·subst q; obtain rfl:=Option.some.inj ((if_pos rfl).symm.trans e); exact N.obj
  ·exact (W.objs a o ((if_neg q).symm.trans e)).le N.old.le λ m=>N.old.to m rfl
 all a h:=j8 λ q=>W.all a (h.imp (λ h=>(N.rel a _ h).elim False.elim id) λ h=>h.imp λ o h=>(N.rel a (.aig o) h).elim (λ r=>absurd r.2 q) id)
 gN b a k e:=(N.rel b _ e).elim (λ r=>j8 λ q=>absurd r.1 q) λ z=>j8 λ j=>W.gN b a k z
 one b b' a k p q:=
  have hx: ∀{c k},g c≠ .jM x k:=λ {c k} e=>(W.gN c x k e).elim λ o' h=>Option.some_ne_none _ (h.symm.trans (W.A5 N.fx))
  (N.rel b _ p).elim (λ r=>(N.rel b' _ q).elim (λ r'=>Option.some.inj (r.2.1.symm.trans r'.2.1)) λ z=>absurd (r.1▸z) hx) λ z=>(N.rel b' _ q).elim (λ r'=>absurd (r'.1▸z) hx) (W.one b b' a k z)
 tab:=N.old.to W.tab rfl
 tabs:=W.tabs.imp λ j r=>⟨r.1,r.2.le N.old.le⟩
 gens:=W.gens
 os:=W.os
end
end
section
open PySem PySem.W PyProof.Rows PySem.SeqAt
theorem iD {n:Str} {kind:NameKind} {r:List (Str×NameKind)} {k:Nat} {acc:List (Str×Addr)}:cellsFrom k ((n,kind)::r) acc=if (kind == .cell)=true then cellsFrom (k+1) r ((n,k)::acc) else cellsFrom k r acc:=rfl
theorem oC (names:List (Str×NameKind)) (k:Nat) (acc:List (Str×Addr)):cellsFrom k names acc=cellsFrom k names []++acc:=by
 induction names generalizing k acc with
 | nil=>rfl
 | cons p r ih=>
  rw [iD,iD]
  by_cases c:(p.2 == .cell)=true
  ·rw [if_pos c,if_pos c,ih (k+1) ((p.1,k)::acc),ih (k+1) [(p.1,k)],List.append_assoc]; rfl
  ·rw [if_neg c,if_neg c]; exact ih k acc
theorem wz {names:List (Str×NameKind)} {k:Nat} {x:Str} {c:Addr} (h:(x,c)∈cellsFrom k names []):(x,NameKind.cell)∈names:=by
 induction names generalizing k with
 | nil=>exact absurd h List.not_mem_nil
 | cons p r ih=>
  rw [iD] at h
  by_cases q:(p.2 == .cell)=true
  ·rw [if_pos q,oC] at h
   refine (List.mem_append.mp h).elim (λ h=> .tail _ (ih h)) λ h=>?_
   rw [(Prod.mk.inj (List.mem_singleton.mp h)).1,<- eq_of_beq q]; exact .head _
  ·rw [if_neg q] at h; exact .tail _ (ih h)
inductive ClI (env:Env) (names:List (Str×NameKind)) (acc cl:List (Str×Addr)):Prop where
 | mk (h1: ∀y c,(y,c)∈cl->env.cells.lookup y=some c) (h2: ∀y,(y,NameKind.free)∈names->∃c,(y,c)∈cl) (h3: ∀p,p∈acc->p∈cl) (h4: ∀y c,(y,c)∈cl->(y,NameKind.free)∈names\/(y,c)∈acc)
theorem ym {env:Env} (f:Str×NameKind->List (Str×Addr)->Sem (ForInStep (List (Str×Addr))))
  (hf: ∀name kind cs,f (name,kind) cs=if kind == .free then (do let a <- cellOf env name; pure (.yield ((name,a)::cs))) else pure (.yield cs))
  (names:List (Str×NameKind)) (acc:List (Str×Addr)) (hn: ∀y∈names,y.2= .free->∃c,env.cells.lookup y.1=some c) (ha: ∀y c,(y,c)∈acc->env.cells.lookup y=some c): ∃cl,forIn names acc f=pure cl/\ClI env names acc cl:=by
 induction names generalizing acc with
 | nil=>exact ⟨acc,by rw [List.forIn_nil],ha,λ x h=>absurd h List.not_mem_nil,λ x h=>h,λ x x h=> .inr h⟩
 | cons p r ih=>
  rw [List.forIn_cons,show f p acc=_ from hf p.1 p.2 acc]
  by_cases hk:(p.2 == .free)=true
  ·have Wy:=eq_of_beq hk
   obtain ⟨c,hc⟩:=hn p (.head _) Wy
   have e1: ∀{y c'},(y,c')=(p.1,c)->env.cells.lookup y=some c'/\y=p.1:=λ e=>by obtain ⟨rfl,rfl⟩:=Prod.mk.inj e; exact ⟨hc,rfl⟩
   obtain ⟨cl,e,h1,h2,h3,h4⟩:=ih ((p.1,c)::acc) (λ y hy=>hn y (.tail _ hy)) λ y c' hy=>(List.mem_cons.mp hy).elim (λ q=>(e1 q).1) (ha y c')
   refine ⟨cl,?_,h1,λ y hy=>(List.mem_cons.mp hy).elim (λ q=>⟨c,by rw [show y=p.1 from congrArg Prod.fst q]; exact h3 _ (.head _)⟩) (h2 y),λ p hp=>h3 p (.tail _ hp),λ y c' hy=>(h4 y c' hy).elim (λ q=> .inl (.tail _ q)) λ q=>(List.mem_cons.mp q).elim (λ q=> .inl (by rw [(e1 q).2,<- Wy]; exact .head _)) .inr⟩
   rw [if_pos hk,show cellOf env p.1=pure c by unfold cellOf; rw [hc]]
   exact e
  ·obtain ⟨cl,e,h1,h2,h3,h4⟩:=ih acc (λ y hy=>hn y (.tail _ hy)) ha
   refine ⟨cl,?_,h1,λ y hy=>(List.mem_cons.mp hy).elim (λ q=>absurd (by rw [<- show NameKind.free=p.2 from congrArg Prod.snd q]; rfl) hk) (h2 y),h3,λ y c' hy=>(h4 y c' hy).imp (.tail _) id⟩
   rw [if_neg hk]; exact e
theorem vS {scope:Scope} {env:Env} (h: ∀y∈scope.names,y.2= .free->∃c,env.cells.lookup y.1=some c):
  ∃cl,closureFor scope env=pure cl/\(∀y c,(y,c)∈cl->env.cells.lookup y=some c)/\(∀y,(y,NameKind.free)∈scope.names->∃c,(y,c)∈cl)/\∀y c,(y,c)∈cl->(y,NameKind.free)∈scope.names:=by
 obtain ⟨cl,e,h1,h2,_,h4⟩:=ym (env:=env) (λ (x:Str×NameKind) cs=>if x.2 == .free then (do let a <- cellOf env x.1; pure (.yield ((x.1,a)::cs))) else pure (.yield cs)) (λ z z z=>rfl) scope.names [] h λ z z h=>(nomatch h)
 refine ⟨cl,?_,h1,h2,λ y c h=>(h4 y c h).elim id λ h=>(nomatch h)⟩
 simp only [closureFor]
 exact congrArg (λ m:Sem (List (Str×Addr))=>m >>= λ s=>(pure s:Sem (List (Str×Addr)))) e
section
variable {M:Model} {A:Around} {E:Value->Shared->Prop} {s:Shared}
theorem BQ {scope:Scope} {globals:Addr} {cl:List (Str×Addr)} {qual:Str} {outer:Env} {Q:Env->Shared->Prop}
  (hQ: ∀h',h'.Ns s.heap.objs.size (λ x=>none)->(∀b o,s.heap.get? b=some o->h'.get? b=some o)->CellsOk h' (s.heap.objs.size+1) (cellsFrom (s.heap.objs.size+1) scope.names [])->
   Q (newEnv scope s.heap.objs.size globals (cellsFrom (s.heap.objs.size+1) scope.names cl) qual none .none (some outer) builtinsNs) {s with heap:=h'}):
  wpAny M A (newFunctionEnv scope globals cl [] qual none .none (some outer)) Q E s:=by
 simp only [newFunctionEnv,Option.isSome_some,if_true]
 refine wpAny_bind (wpAny_alloc ?_)
 refine wpAny_bind (wpAny_layCells _ (λ name kind cells=>by cases Z5:kind == NameKind.cell <;> simp [Z5]) _ _ _ _ ?_)
 have ok:=cellsFrom_ok scope.names (s.heap.push {cls:= .type "dict",data:= .dict #[]}) (s.heap.objs.size+1) [] ⟨λ x x hm=>(nomatch hm),List.Pairwise.nil⟩ (by rw [Heap.size_push]; exact Nat.le_refl _)
 rw [Heap.size_push] at ok
 rw [show ({s with heap:=s.heap.push {cls:= .type "dict",data:= .dict #[]}}:Shared).heap.objs.size=s.heap.objs.size+1 from Heap.size_push ..]
 exact wpAny_pure (hQ _ ((Heap.Ns.new s.heap (.type "dict")).keeps (pushCells_keeps _ _)) (λ b o e=>pushCells_keeps _ _ b o (Heap.get?_push_of_some _ e)) ok)
end
end
section
open PySem PySem.W PyProof.Rows PySem.SeqAt
theorem Gk {α:Type}: ∀(l:List α) (i:Nat) (x:α),(put l i x).length=l.length
 | [],_,_=>rfl
 | _::_,0,_=>rfl
 | _::l,i+1,x=>congrArg (· +1) (Gk l i x)
theorem put2 {α:Type}: ∀(l:List α) (i:Nat) (a b:α),put (put l i a) i b=put l i b
 | [],_,_,_=>rfl
 | _::_,0,_,_=>rfl
 | a::l,i+1,x,y=>congrArg (a:: ·) (put2 l i x y)
theorem Ag.put {z:List Nat} {l l':List (Option V)} {k:Nat} {o:Option V} (h:Ag z l l') (hk:k∈z):Ag z l (put l' k o):=
 ⟨(Gk _ _ _).trans h.1,λ j hj=>(pH (λ e=>hj (by rw [e]; exact hk))).trans (h.2 j hj)⟩
theorem Ag.up {z z':List Nat} {l l':List (Option V)} (h:Ag z' l l') (hz: ∀j∈z',j∈z):Ag z l l':=⟨h.1,λ j hj=>h.2 j λ q=>hj (hz j q)⟩
theorem G0 (x:Nat) (test:PB->St->Prop) (elt:PV->St->Prop) (it:V) (all:List V) (Q:PV) (ys acc:List V) (l:List (Option V)) (H:Hp) (o:Option V):
  oD x test elt it all Q ys acc ⟨put l x o,H⟩=oD x test elt it all Q ys acc ⟨l,H⟩:=by
 cases ys with
 | nil=>exact congrArg (λ z=>alloc (.list acc) Q ⟨z,H⟩) (put2 l x o .none)
 | cons y ys=>exact congrArg (λ z=>test _ ⟨z,H⟩) (put2 l x o (some y))
structure jl (cx dh:Cx) (scope:Scope) (k:Nat) (x:Str):Prop where
 kind:scope.kind= .function
 loc: ∀y∈scope.names,y.2= .local->scope.names.lookup y.1=some .local
 xk:scope.names.lookup x=some .local\/(scope.names.lookup x=some .cell/\∀j,((cellsFrom j scope.names []).lookup x).isSome=true)
 free: ∀y∈scope.names,y.2= .free->y.1∈cx.mine/\cx.names.lookup y.1=some .cell
 names:dh.names=scope.names.map λ p=>if (p.2 == NameKind.free && cx.names.lookup p.1 == some NameKind.cell)=true then (p.1,NameKind.cell) else (p.1,p.2)
 atx:dh.at k x
 other: ∀(i:Nat) (y:Str),dh.at i y->i≠k->cx.at i y/\(y,NameKind.free)∈scope.names/\dh.names.lookup y=some .cell/\∀j,(cellsFrom j scope.names []).lookup y=none
 mine:dh.mine= [x]
 code:dh.code=cx.code/\dh.qual=cx.qual
 xn:dh.names.lookup x=scope.names.lookup x
 z:k∈cx.z/\∀j∈dh.z,j∈cx.z
 ok:aP dh
 out:aP cx
noncomputable def Oo (scope:Scope) (env:Env) (L:Addr) (cells:List (Str×Addr)):Env:={newEnv scope L env.globals cells env.qual none .none (some env) builtinsNs with scope:=relabel scope env}
theorem xR {g:Gm} {a:Addr} {t:Tg} (h:g a= .free):setG (setG g a t) a .free=g:=by
 funext b
 by_cases q:b=a
 ·rw [q,aD,h]
 ·rw [aG _ _ q,aG _ _ q]
section
variable {g g':Gm} {h:Heap}
theorem Kept.le (k:Kept g h g'):Le g g':=
 ⟨λ a o e=>(k.ex a (by rw [e]; exact Tg.noConfusion) (by rw [e]; exact Tg.noConfusion)).trans e,λ b a j e=>(k.ex b (by rw [e]; exact Tg.noConfusion) (by rw [e]; exact Tg.noConfusion)).trans e,
 λ a e=>(k.ex a (by rw [e]; exact Tg.noConfusion) (by rw [e]; exact Tg.noConfusion)).trans e,λ a o e=>(k.ex a (by rw [e]; exact Tg.noConfusion) (by rw [e]; exact Tg.noConfusion)).trans e⟩
theorem Kept.kp (k:Kept g h g') {a:Addr} {t:Tg} (f:g a= .free):Kept g h (setG g' a t):=
 ⟨λ b o e ho=>by rw [aG _ _ (λ q=>by rw [q,f] at e; cases e)]; exact k.own b o e ho,λ b n c=>by rw [aG _ _ (λ q=>n (by rw [q]; exact f))]; exact k.ex b n c⟩
theorem Kept.exx {Rg:Gm} (k:Kept g h g') (lv: ∀a,g a= .own->∃o,h.get? a=some o) (e:Ex g' Rg):Kept g h Rg:=
 ⟨λ b o c ho=>by have:=k.own b o c ho; exact (e.ex b (by rw [this]; exact Tg.noConfusion)).trans this,λ b n c=>by have:=k.ex b n c; exact (e.ex b (by rw [this]; exact n)).trans this⟩
theorem Kept.nU {h':Heap} (k:Kept g h g'):Kept g h (dY g' h'):=
 ⟨λ b o c ho=>by have:=k.own b o c ho; exact (bY (by rw [this]; exact Tg.noConfusion)).trans this,λ b n c=>by have:=k.ex b n c; exact (bY (by rw [this]; exact c)).trans this⟩
end
section
variable {G:Pg} {cx dh:Cx} {g:Gm} {env:Env} {σ:St} {s:Shared} {n:Nat} {A:Around} {Q:PV} {QF:PF} {C:CT} {K:Frag} {mg mb:Str->Option Value}
theorem Pt {v:V} {i:Nat} {it:Addr} {o:Obj} {P:Value->Shared->Prop} (a:At G cx g env σ s) (hk:g it= .kp o) (hi:C1 g v i o) (h:P (.ref it) s):wpAny (model G.prog G.w) A (pyIter (.ref it)) P cn s:=by
 have m9:=a.wd.kp _ _ hk
 rcases hi with ⟨_,_,_,hc,hd⟩ | ⟨_,_,_,_,hc,hd⟩ | ⟨_,_,_,_,rfl⟩
 ·exact wpAny_pyIter_listiter ⟨o,m9,hc,hd⟩ h
 ·have ht:s.TypeIs (.ref it) "tuple_iterator" :=⟨_,m9,hc⟩
  exact wpAny_pyIter_slot ht F.slot_tuple_iterator_iter (wpAny_call_entry F.slot_tuple_iterator_iter ht F.entry_tuple_iterator_iter (wpAny_pure ⟨_,rfl,"tuple_iterator",_,ht,F.slot_tuple_iterator_next.lookup,h⟩) (F.args_tuple_iterator_iter_1 _))
 ·have ht:s.TypeIs (.ref it) "range_iterator" :=⟨_,m9,rfl⟩
  exact wpAny_pyIter_slot ht F.slot_range_iterator_iter (wpAny_call_entry F.slot_range_iterator_iter ht F.entry_range_iterator_iter (wpAny_pure ⟨_,rfl,"range_iterator",_,ht,F.slot_range_iterator_next.lookup,h⟩) (F.args_range_iterator_iter_1 _))
end
end
section
open PySem PySem.W PyProof.Rows PySem.SeqAt
theorem lN {α:Type}: ∀{l:List (Str×α)} {x:Str} {v:α},(x,v)∈l->∃w,l.lookup x=some w
 | (y,u)::r,x,v,h=>by
  rw [List.lookup_cons]
  cases hb:x == y with
  | true=>exact ⟨u,rfl⟩
  | false=>
   rcases List.mem_cons.mp h with q | q
   ·cases q; simp at hb
   ·exact lN q
section
variable {G:Pg} {cx dh:Cx} {g:Gm} {env:Env} {σ:St} {s:Shared} {n:Nat} {A:Around} {Q:PV} {QF:PF} {C:CT} {K:Frag} {mg mb:Str->Option Value}
theorem Dr {scope:Scope} {k:Nat} {x:Str} {gA gI:Gm} {cl:List (Str×Addr)} {L:Addr} (S:jl cx dh scope k x) (aI:At G cx gA env σ s)
  (c1: ∀y c,(y,c)∈cl->env.cells.lookup y=some c) (c2: ∀y,(y,NameKind.free)∈scope.names->∃c,(y,c)∈cl) (c3: ∀y c,(y,c)∈cl->(y,NameKind.free)∈scope.names)
  (kp:Kept gA s.heap gI) (W:Wd G gI σ.H s) (hL:gI L= .own) (hLs:G.B.objs.size<=L) (xl:s.heap.Ns L λ j=>none) (ok:CellsOk s.heap (L+1) (cellsFrom (L+1) scope.names []))
  (uC: ∀y c,(y,c)∈cellsFrom (L+1) scope.names []->gI c= .own/\gA c= .free):
  At G dh gI (Oo scope env L (cellsFrom (L+1) scope.names cl)) ⟨put σ.loc k .none,σ.H⟩ s:=by
 have hkf:env.scope.kind= .function:=aI.fm.kind
 have kindOf: ∀y,env.kindOf y=cx.names.lookup y:=λ y=>by rw [Env.kindOf,aI.fm.names]
 have Kz:(relabel scope env).names=dh.names:=by
  rw [S.names]
  show scope.names.map _=_
  congr 1
  funext p
  obtain ⟨y,kd⟩:=p
  show (if (kd == NameKind.free && env.scope.kind == .function && env.kindOf y == some .cell)=true then (y,NameKind.cell) else (y,kd))=_
  rw [hkf,kindOf]
  simp
 have ck: ∀y,Env.kindOf (Oo scope env L (cellsFrom (L+1) scope.names cl)) y=dh.names.lookup y:=λ y=>by
  rw [Env.kindOf]
  show (relabel scope env).names.lookup y=_
  rw [Kz]
 have gC:(Oo scope env L (cellsFrom (L+1) scope.names cl)).cells=cellsFrom (L+1) scope.names []++cl:=oC _ _ _
 have live: ∀y c,(y,c)∈cl->gA c≠ .free:=λ y c h=>by
  have hy:=S.free _ (c3 y c h) rfl
  rcases aI.fm.mine y hy.1 with q | ⟨_,c',v,q1,q2,_⟩
  ·rw [kindOf,hy.2] at q; cases q
  ·have:=c1 y c h
   rw [q1] at this; cases this
   rw [q2]; exact Tg.noConfusion
 refine ⟨W,⟨?_,Kz,?_,?_,?_,?_,hLs,hL,⟨_,xl⟩,λ i y v hy e=>?_,λ y hy=>?_,λ y z c hy hz=>?_⟩⟩
 ·show (relabel scope env).kind=_
  exact S.kind
 ·exact aI.fm.globals
 ·exact aI.fm.blt
 ·exact aI.fm.code.trans S.code.1.symm
 ·exact aI.fm.qual.trans S.code.2.symm
 ·by_cases q:i=k
  ·subst q
   have:=qB e; cases this
  ·have e:df (put σ.loc k .none) i=some (some v):=e
   rw [pH q] at e
   obtain ⟨o1,o2,o3,o4⟩:=S.other i y hy q
   have hy2:=S.free _ o2 rfl
   obtain ⟨val,lk,vl⟩:=aI.fm.look i y v o1 e
   refine ⟨val,?_,vl.le kp.le⟩
   rcases lk with ⟨q1,_⟩ | ⟨_,c,q2,q3,q4⟩
   ·rw [kindOf,hy2.2] at q1; cases q1
   ·refine .inr ⟨.inl ((ck y).trans o3),c,?_,?_,q4⟩
    ·rw [gC,List.lookup_append,o4]
     obtain ⟨c',TQ⟩:=c2 y o2
     obtain ⟨w,hw⟩:=lN TQ
     have:=c1 y w (PySem.mem_of_lookup hw)
     rw [q2] at this; cases this
     simpa using hw
    ·rcases q3 with q3 | ⟨o,q3⟩
     ·obtain ⟨o,ho,_⟩:=q4
      exact .inr ⟨o,kp.own c o q3 ho⟩
     ·exact .inr ⟨o,(kp.ex c (by rw [q3]; exact Tg.noConfusion) (by rw [q3]; exact Tg.noConfusion)).trans q3⟩
 ·rw [S.mine] at hy
  cases List.mem_singleton.mp hy
  rcases S.xk with q | ⟨q,q'⟩
  ·exact .inl ((ck _).trans (S.xn.trans q))
  ·obtain ⟨c,hc⟩:=Option.isSome_iff_exists.mp (q' (L+1))
   refine .inr ⟨(ck _).trans (S.xn.trans q),c,none,?_,(uC _ _ (PySem.mem_of_lookup hc)).1,(ok.empty _ _ (PySem.mem_of_lookup hc)).1⟩
   rw [gC,List.lookup_append,hc]; rfl
 ·rw [gC] at hy hz
  have hy:=PySem.mem_of_lookup hy
  have hz:=PySem.mem_of_lookup hz
  rcases List.mem_append.mp hy with hy | hy <;> rcases List.mem_append.mp hz with hz | hz
  ·exact PySem.name_of_addr ok.apart hy hz
  ·exact absurd (uC _ _ hy).2 (live _ _ hz)
  ·exact absurd (uC _ _ hz).2 (live _ _ hy)
  ·exact aI.fm.apart y z c (c1 _ _ hy) (c1 _ _ hz)
end
end
section
open PySem PySem.W PyProof.Rows PySem.SeqAt
theorem Ex.free {g g':Gm} (e:Ex g g') {a:Addr} (h:g' a= .free):g a= .free:=Decidable.byContradiction (dec:=Classical.propDecidable _) λ n=>n ((e.ex a n).symm.trans h)
noncomputable abbrev fB (its:Array Value) (m:Nat):Obj:={cls:= .type "list",data:= .seq its m}
section
variable {G:Pg} {cx dh:Cx} {g:Gm} {env:Env} {σ:St} {s:Shared} {n:Nat} {A:Around} {Q:PV} {QF:PF} {C:CT} {K:Frag} {mg mb:Str->Option Value}
noncomputable def QD (C:CT) (c:Option B):PB->St->Prop:=match c with | some c=>Mine.T C c | .none=>λ Q=>Q true
theorem N6 {k:Nat} {it e:E} {c:Option B}:Mine.W C (.comp k it c e) Q σ=Mine.W C it (λ v σ=>match itemsOf σ.H v with | some xs=>oD k (QD C c) (Mine.W C e) v xs Q xs [] σ | .none=>False) σ:=by
 cases c <;> rfl
structure ig (G:Pg) (cx:Cx) (g:Gm) (env:Env) (σ:St) (Q:PV) (D L:Addr) (gz:Gm) (σz:St) (s:Shared):Prop where
 ex:Ex g gz
 at_:At G cx gz env σz s
 ag:Ag cx.z σ.loc σz.loc
 fD:g D= .free
 fL:g L= .free
 ne:D≠L
 tL: ∃o,gz L= .kp o/\pS o
 ns: ∃m,s.heap.Ns L m
 tD: ∃its m acc,gz D= .kp (fB its m)/\Vals gz acc its.toList/\acc.length<=lim/\alloc (.list acc) Q σz
structure qR (G:Pg) (cx dh:Cx) (gA gI:Gm) (env cE:Env) (σ:St) (k:Nat) (s:Shared) (ia D L:Addr) (o:Obj):Prop where
 kp:Kept gA s.heap gI
 a0:At G dh gI cE ⟨put σ.loc k .none,σ.H⟩ s
 aI:At G cx gA env σ s
 XY:gI ia= .kp o
 tD:gI D= .kp (fB #[] 0)
 fia:gA ia= .free
 fD:gA D= .free
 fL:gA L= .free
 Vb:D≠ia
 DL:D≠L
theorem qR.lv {gA gI:Gm} {cE:Env} {k:Nat} {ia D L:Addr} {o:Obj} (O:qR G cx dh gA gI env cE σ k s ia D L o): ∀b,gA b= .own->∃o,s.heap.get? b=some o:=λ b e=>O.aI.wd.live b (busy e rfl)
theorem uT {h:Heap} {a:Addr} {t:Tg} (e:g a=t) (h2:(t.idx == 2)=false):dY g h a=t:=(bY (e▸oM h2)).trans e
theorem Mi {its:Array Value} {m:Nat}:pS (fB its m):=λ x=>Data.noConfusion
theorem G5 {scope:Scope} {k:Nat} {x:Str} {ia D:Addr} {o:Obj} {cl:List (Str×Addr)} {H2 h3:Heap} (S:jl cx dh scope k x) (c1: ∀y c,(y,c)∈cl->env.cells.lookup y=some c) (c2: ∀y,(y,NameKind.free)∈scope.names->∃c,(y,c)∈cl) (c3: ∀y c,(y,c)∈cl->(y,NameKind.free)∈scope.names)
  (jV:g ia= .free) (nc:pS o) (a:At G cx (setG g ia (.kp o)) env σ s) (hD0:s.heap.get? D=none) (hD:H2.get? D=some (fB #[] 0)) (up: ∀b o,s.heap.get? b=some o->H2.get? b=some o)
  (xl:h3.Ns H2.objs.size λ z=>none) (Kx: ∀b o,H2.get? b=some o->h3.get? b=some o) (gC:CellsOk h3 (H2.objs.size+1) (cellsFrom (H2.objs.size+1) scope.names [])):
  ∃gI,qR G cx dh g gI env (Oo scope env H2.objs.size (cellsFrom (H2.objs.size+1) scope.names cl)) σ k {s with heap:=h3} ia D H2.objs.size o:=by
 have Yo:=a.wd.fresh hD0
 have Yc:At G cx (setG (setG g ia (.kp o)) D (.kp (fB #[] 0))) env σ {s with heap:=H2}:=
  (a.ext (t:=s.toks) up).tag Yo ⟨_,hD⟩ (λ o' e=>e.elim (λ e=>absurd e (oM rfl)) λ e=>Tg.kp.inj e▸hD) ⟨λ z z=>oM rfl,oM rfl,λ z=>oM rfl⟩
 have fD:=bZ Yo (oM rfl)
 have DU: ∀b,H2.objs.size<=b->setG (setG g ia (.kp o)) D (.kp (fB #[] 0)) b= .free:=λ b hb=>Yc.wd.fresh (by
  cases e:H2.get? b with
  | none=>rfl
  | some o=>exact absurd (Heap.lt_size e) (Nat.not_lt.mpr hb))
 have Yj:Ex g (setG (setG g ia (.kp o)) D (.kp (fB #[] 0))):=((Ex.refl g).kp jV).kp fD
 have aB:At G cx (setG (setG g ia (.kp o)) D (.kp (fB #[] 0))) env σ {s with heap:=h3}:=Yc.ext (t:=s.toks) Kx
 have Vb:D≠ia:=λ q=>oM rfl ((aD g ia (.kp o)).symm.trans (q▸Yo))
 have aI:At G cx g env σ {s with heap:=h3}:=by
  have z1:=aB.re (tk:=s.toks) (aD ..) Mi (λ b ob q e=>e) (.inl rfl)
  rw [xR Yo] at z1
  have z2:=z1.re (tk:=s.toks) (aD ..) nc (λ b ob q e=>e) (.inl rfl)
  rw [xR jV] at z2
  exact z2
 have fl: ∀b,H2.objs.size<=b->g b= .free:=λ b hb=>bZ (bZ (DU b hb) (oM rfl)) (oM rfl)
 have above:G.B.objs.size<=H2.objs.size:=by
  obtain ⟨_,o',_,_,e,_⟩:=Yc.fm.ns
  exact Nat.le_trans Yc.fm.above (Nat.le_of_lt (Heap.lt_size e))
 have XY:setG (setG g ia (.kp o)) D (.kp (fB #[] 0)) ia= .kp o:=(aG _ _ (Ne.symm Vb)).trans (aD ..)
 have tD:setG (setG g ia (.kp o)) D (.kp (fB #[] 0)) D= .kp (fB #[] 0):=aD ..
 generalize setG (setG g ia (.kp o)) D (.kp (fB #[] 0))=gB at DU Yj aB XY tD
 obtain ⟨P,ZL⟩: ∃P:Addr->Prop,P=λ b=>b=H2.objs.size\/∃y,(y,b)∈cellsFrom (H2.objs.size+1) scope.names []:=⟨_,rfl⟩
 have hL:P H2.objs.size:=ZL▸ .inl rfl
 have hc: ∀y c,(y,c)∈cellsFrom (H2.objs.size+1) scope.names []->P c:=λ y c h=>ZL▸ .inr ⟨y,h⟩
 have hP: ∀b,P b->H2.objs.size<=b/\∃o,h3.get? b=some o:=λ b p=>by
  rw [ZL] at p
  exact p.elim (λ e=>⟨Nat.le_of_eq e.symm,xl.elim λ o r=>r.elim λ z r=>r.elim λ z r=>⟨o,e▸r.1⟩⟩) λ p=>p.elim λ y hy=>have c:=gC.empty y b hy; ⟨Nat.le_of_succ_le c.2,c.1.elim λ o r=>⟨o,r.1⟩⟩
 have np: ∀{b t},gB b=t->(t.idx == 0)=false->¬P b:=λ e h p=>absurd (DU _ (hP _ p).1) (busy e h)
 have to: ∀{b t},gB b=t->(t.idx == 0)=false->(t.idx == 2)=false->rK (dY gB h3) P b=t:=λ e h0 h2=>(hA (np e h0)).trans (uT e h2)
 have W:Wd G (rK (dY gB h3) P) σ.H {s with heap:=h3}:=aB.wd.nU.XM λ b p=>⟨uT (DU b (hP b p).1) rfl,(hP b p).2⟩
 have kp:Kept g h3 (rK (dY gB h3) P):=⟨λ b ob e ho=>(hA (np (Yj.to e rfl) rfl)).trans (jX (Yj.to e rfl) ho),λ b n1 n2=>have e:=Yj.ex b n1; (hA λ p=>n1 (fl b (hP b p).1)).trans ((bY (e▸n2)).trans e)⟩
 have hLo:rK (dY gB h3) P H2.objs.size= .own:=nY hL
 exact ⟨_,kp,Dr S aI c1 c2 c3 kp W hLo above xl gC λ y c hy=>⟨nY (hc y c hy),fl c (hP c (hc y c hy)).1⟩,aI,to XY rfl rfl,to tD rfl rfl,jV,fD,fl _ (Nat.le_refl _),Vb,λ q=>oM rfl ((to tD rfl rfl).symm.trans ((congrArg _ q).trans hLo))⟩
inductive CompI (G:Pg) (cx dh:Cx) (gA:Gm) (cE:Env) (l:List (Option V)) (h:Heap) (ia D:Addr) (v:V) (all:List V) (F:List V->List V->St->Prop) (k:Nat) (s:Shared):Prop where
 | mk (g:Gm) (σ:St) (i:Nat) (o:Obj) (its:Array Value) (m:Nat) (acc:List V) (kp:Kept gA h g) (a:At G dh g cE σ s) (hk:g ia= .kp o) (hi:C1 g v i o) (hD:g D= .kp (fB its m)) (vs:Vals g acc its.toList) (hl:acc.length<=lim) (A2:itemsOf σ.H v=some all) (n:k+i=all.length)
  (ag:Ag cx.z l σ.loc) (q:F (all.drop i) acc σ)
theorem Ay {EE:Value->Shared->Prop} {F:List V->List V->St->Prop} {scope:Scope} {x:Str} {elt:Expr} {e:E} {k kk i m:Nat} {gA gI g5:Gm} {cE:Env} {ia D L:Addr} {o o4:Obj} {σ5:St} {s5:Shared} {its:Array Value} {acc all:List V} {v:V} {l:List (Option V)} (S:jl cx dh scope k x) (O:qR G cx dh gA gI env cE σ k s ia D L o) (h2:SE G n C dh e elt) (R:cJ A n)
  (k5:Kept gA s.heap g5) (a5:At G dh g5 cE σ5 s5) (hia:g5 ia= .kp o4) (hi:C1 g5 v (i+1) o4) (hD:g5 D= .kp (fB its m)) (hv:Vals g5 acc its.toList) (ZO:acc.length<=lim) (Jc:kk+i=all.length) (dz:i < all.length) (ag:Ag cx.z l σ5.loc)
  (q:Mine.W C e (λ v₁ σ₂=>(itemsOf σ₂.H v=some all/\acc.length < lim)/\F (all.drop (i+1)) (acc++ [v₁]) σ₂) σ5):
  wpAny (model G.prog G.w) A (eval elt cE) (λ x s₄=>wpAny (model G.prog G.w) A (call (.builtin "list.append") [.ref D,x]) (λ y s₅=> ∃m,m < kk/\CompI G cx dh gA cE l s.heap ia D v all F m s₅) EE s₄) EE s5:=
 Ic (bR (h2 A cE g5 σ5 s5 _ R a5 q) λ w6 s6 g6 σ6 y6 e6 a6 Vc v6 q6=>by
  have ZD:=e6.to hD rfl
  have C6:its.size<=lim:=Nat.le_trans (Nat.le_of_eq hv.length.symm) ZO
  refine wpAny_list_append_plain ⟨m,a6.wd.kp _ _ ZD⟩ (λ h7 hm hs7=>?_) (Nat.le_trans C6 jH)
  obtain ⟨m7,hm7⟩:=hm
  have le7:Le g6 (setG g6 D (.kp (fB (its.push w6) m7))):=Le.kp ZD
  exact ⟨kk - 1,(og Jc dz).1,_,σ6,i+1,o4,its.push w6,m7,acc++ [y6],(k5.exx O.lv e6).kp O.fD,a6.re (tk:=s6.toks) ZD Mi (λ b ob q e=>(hs7.2 b q).trans e) (.inr ⟨_,rfl,hm7⟩),(aG _ _ (Ne.symm O.Vb)).trans (e6.to hia rfl),(hi.le e6.le).le le7,aD ..,
   by rw [Array.toList_push]; exact ((hv.le e6.le).append (Vals.one v6)).le le7,by rw [List.length_append]; exact q6.1.2,q6.1.1,(og Jc dz).2,ag.trans (Vc.up S.z.2),q6.2⟩)
theorem JM {scope:Scope} {x:Str} {k m:Nat} {gA gI g3:Gm} {cE:Env} {ia D L:Addr} {o o3:Obj} {σ3:St} {s4:Shared} {its:Array Value} {acc:List V} (S:jl cx dh scope k x) (O:qR G cx dh gA gI env cE σ k s ia D L o) (hL:cE.locals=L)
  (k3:Kept gA s.heap g3) (Jb:g3 ia= .kp o3) (a4:At G dh (setG g3 ia .free) cE σ3 s4) (hD:g3 D= .kp (fB its m)) (hv:Vals g3 acc its.toList) (ZO:acc.length<=lim) (ag:Ag cx.z σ.loc σ3.loc) (q:alloc (.list acc) Q ⟨put σ3.loc k .none,σ3.H⟩):
  ∃gz,ig G cx gA env σ Q D L gz ⟨put σ3.loc k .none,σ3.H⟩ s4:=by
 have k5:Kept gA s.heap (dY (setG g3 ia .free) s4.heap):=(k3.kp O.fia).nU
 have tL:setG g3 ia .free L= .own:=hL▸a4.fm.loc
 have ns: ∃m,s4.heap.Ns L m:=hL▸a4.fm.ns
 have tD:setG g3 ia .free D= .kp (fB its m):=(aG _ _ O.Vb).trans hD
 obtain ⟨mL,oL,esL,epL,NQ,hdL,_⟩:=id ns
 have bk: ∀{b t},gA b= .free->dY (setG g3 ia .free) s4.heap b=t->i9 gA (dY (setG g3 ia .free) s4.heap) b=t:=λ e h=>(mv (e▸oM rfl)).trans h
 exact ⟨_,Ex.back k5,(O.aI.backTo (σ:=σ) k5 a4.wd.nU).UA λ j y hy=>(((Ag.refl cx.z σ3.loc).put S.z.1).2 j (S.out.z j y hy)).trans (ag.2 j (S.out.z j y hy)),ag.put S.z.1,O.fD,O.fL,O.DL,⟨oL,bk O.fL (jX tL NQ),λ w=>hdL▸Data.noConfusion⟩,ns,its,m,acc,bk O.fD (uT tD rfl),
  ((hv.le (Le.kp Jb)).le (Le.keep _ s4.heap)).le (Le.back k5 O.lv),ZO,q⟩
theorem G4 {elt iter:Expr} {x:Str} {px:Pos} {ifs:List Expr} {scope:Scope} {pos:Pos} {k:Nat} {e:E} {c:Option B} {RR:Result->Shared->Prop} {gA gI:Gm} {cE:Env} {ia D L:Addr} {o:Obj} {v:V} {all:List V} (S:jl cx dh scope k x) (O:qR G cx dh gA gI env cE σ k s ia D L o) (hL:cE.locals=L)
  (h2:SE G n C dh e elt) (h3:match c with | none=>ifs= [] | some c=> ∃ct,ifs= [ct]/\ST G n C dh c ct) (R:cJ A n) (hi:C1 gI v 0 o) (A2:itemsOf σ.H v=some all) (q1:oD k (QD C c) (Mine.W C e) v all Q all [] σ)
  (fin: ∀gz σz s',ig G cx gA env σ Q D L gz σz s'->RR (.ok .next) s'):codeAny (model G.prog G.w) A (.compLoop (.ListComp elt [⟨.Name x px,iter,ifs,0⟩] scope pos) 0 (.ref ia) (.ref D) cE) RR s:=by
 refine codeAny_compLoop_tests (CompI G cx dh gA cE σ.loc s.heap ia D v all (oD k (QD C c) (Mine.W C e) v all Q)) (λ kk s3 ⟨g3,σ3,i,o3,its,m,acc,k3,a3,Jb,ZZ,hD3,YK,O4,Kq,Jc,Wr,q3⟩=>?_) all.length
  ⟨gI,_,0,o,#[],0,[],O.kp,O.a0,O.XY,hi,O.tD, .nil,Nat.zero_le _,A2,rfl,(Ag.refl _ _).put S.z.1,by rw [G0]; exact q1⟩
 refine Ic (FR R a3 Jb ZZ Kq (λ y w o4 s4 hy vy Vi a4=>?_) λ s4 hlen a4=>?_)
 ·have LW:Le g3 (setG g3 ia (.kp o4)):=Le.kp Jb
  rw [drop_cons hy] at q3
  have dz:i < all.length:=(List.getElem?_eq_some_iff.mp hy).1
  refine Ic (wpAny_assign_Name (fK S.ok S.atx (by rw [S.mine]; exact .head _) a4 (vy.le LW) λ s5 a5=>?_))
  have k4:Kept gA s.heap (setG g3 ia (.kp o4)):=k3.kp O.fia
  have Wg:setG g3 ia (.kp o4) D= .kp (fB its m):=(aG _ _ O.Vb).trans hD3
  have Zk:=Wr.trans ((Ag.refl cx.z σ3.loc).put (o:=some y) S.z.1)
  cases c with
  | none=>
   obtain rfl:ifs= []:=h3
   show wpAny _ A (pure true) _ _ s5
   refine wpAny_pure ?_
   rw [if_pos rfl]
   exact Ay S O h2 R k4 a5 (aD ..) (Vi.le LW) Wg (YK.le LW) O4 Jc dz Zk q3
  | some c=>
   obtain ⟨ct,rfl,Kt⟩:=h3
   refine wpAny_tests_one (Ic (qN (Kt A cE _ _ s5 _ R a5 q3) λ b s6 g6 σ6 e6 a6 Vc q6=>?_))
   have k6:=k4.exx O.lv e6
   have Vc:=Zk.trans (Vc.up S.z.2)
   cases b with
   | true=>
    rw [if_pos rfl]
    exact Ay S O h2 R k6 a6 (e6.to (aD ..) rfl) ((Vi.le LW).le e6.le) (e6.to Wg rfl) ((YK.le LW).le e6.le) O4 Jc dz Vc q6
   | false=>
    rw [if_neg Bool.false_ne_true]
    exact ⟨kk - 1,(og Jc dz).1,g6,σ6,i+1,o4,its,m,acc,k6,a6,e6.to (aD ..) rfl,(Vi.le LW).le e6.le,e6.to Wg rfl,(YK.le LW).le e6.le,O4,q6.1,(og Jc dz).2,Vc,q6.2⟩
 ·rw [List.drop_of_length_le hlen] at q3
  exact (JM S O hL k3 Jb a4 hD3 YK O4 Wr q3).elim λ gz E=>fin gz _ _ E
theorem w5 {elt iter:Expr} {x:Str} {px:Pos} {ifs:List Expr} {scope:Scope} {pos pos':Pos} {k:Nat} {it e:E} {c:Option B} {use:Option (Value->Sem Unit)} {QQ:Value->Shared->Prop}
  (S:jl cx dh scope k x) (h1:SE G n C cx it iter) (h2:SE G n C dh e elt) (h3:match c with | none=>ifs= [] | some c=> ∃ct,ifs= [ct]/\ST G n C dh c ct)
  (hf: ∀env v,foldedSetIterable iter env v=pure v) (R:cJ A n) (a:At G cx g env σ s) (hw:Mine.W C (.comp k it c e) Q σ)
  (fin: ∀D L gz σz s',ig G cx g env σ Q D L gz σz s'->compPost (model G.prog G.w) A cn use QQ (.ref D) L (.ok .next) s'):
  wpAny (model G.prog G.w) A (comprehension (.ListComp elt [⟨.Name x px,iter,ifs,0⟩] scope pos) scope env pos' (newList []) false (eval iter env) use) QQ cn s:=by
 obtain ⟨cl,wo,c1,c2,c3⟩:=vS (scope:=scope) (env:=env) λ y hy T3=>by
  have h:=S.free y hy T3
  refine (a.fm.mine _ h.1).elim (λ q=>?_) λ q=>q.2.imp λ c r=>r.elim λ z r=>r.1
  rw [Env.kindOf,a.fm.names,h.2] at q; exact NameKind.noConfusion (Option.some.inj q)
 rw [N6] at hw
 refine wpAny_comprehension_free (use:=use) rfl (hf env) wo S.kind S.loc (bR (h1 A env g σ s _ R a hw) λ u s1 gA σ1 v e1 a1 ou vl q1=>?_)
 replace q1:=Cu (o:=itemsOf σ1.H v) (F:=λ xs=>oD k (QD C c) (Mine.W C e) v xs Q xs [] σ1) q1
 obtain ⟨all,A2,q1⟩:=q1
 refine Lc a1 vl A2 λ ia o s2 jV hi a2=>wpAny_newObj_type (BQ λ h3' xl Kx gC=>?_)
 obtain ⟨gI,O⟩:=G5 S c1 c2 c3 jV hi.nc a2 (rP _) (Heap.get?_push_size _ rfl) (λ b o e=>Heap.get?_push_of_some _ e) xl Kx gC
 have loop:=G4 (elt:=elt) (iter:=iter) (x:=x) (px:=px) (ifs:=ifs) (pos:=pos) S O rfl h2 h3 R (hi.le O.kp.le) A2 q1 λ gz σz s' E=>fin _ _ gz σz s' ⟨e1.trans E.ex,E.at_,ou.trans E.ag,e1.free E.fD,e1.free E.fL,E.ne,E.tL,E.ns,E.tD⟩
 exact codeAny_compStart_list loop (Ic (Pt O.a0 O.XY (hi.le O.kp.le) loop))
end
end
section
open PySem PySem.W PyProof.Rows PySem.SeqAt
section
variable {G:Pg} {cx dh:Cx} {g:Gm} {env:Env} {σ:St} {s:Shared} {n:Nat} {A:Around} {Q:PV} {QF:PF} {C:CT} {K:Frag} {mg mb:Str->Option Value}
theorem ig.done {D L:Addr} {gz:Gm} {σz:St} {Q:PV} (F:ig G cx g env σ Q D L gz σz s):
  ∃its m acc,gz D= .kp (fB its m)/\s.heap.get? D=some (fB its m)/\Vals gz acc its.toList/\acc.length<=lim/\alloc (.list acc) Q σz/\At G cx (setG gz D .free) env σz s/\Ex g (setG gz D .free)/\setG gz D .free D= .free/\Le gz (setG gz D .free):=by
 obtain ⟨its,m,acc,t,vs,hl,al⟩:=F.tD
 refine ⟨its,m,acc,t,F.at_.wd.kp _ _ t,vs,hl,al,?_,F.ex.kp F.fD,aD ..,Le.kp t⟩
 exact F.at_.re (tk:=s.toks) t (λ w=>by show Data.seq _ _≠_; nofun) (λ b ob q e=>e) (.inl rfl)
theorem ig.post {D L:Addr} {gz:Gm} {σz:St} {Q:PV} (F:ig G cx g env σ Q D L gz σz s) {h':Heap} (hs:Heap.SameBut L s.heap h'):aE G cx g env σ.loc Q (.ref D) {s with heap:=h'}:=by
 obtain ⟨oL,tL,nc⟩:=F.tL
 have a1:=F.at_.re (tk:=s.toks) tL nc (λ b ob q e=>(hs.2 b q).trans e) (.inl rfl)
 obtain ⟨its,m,acc,t,vs,hl,al⟩:=F.tD
 have t1:setG gz L .free D= .kp (fB its m):=(aG _ _ F.ne).trans t
 have a2:=a1.re (tk:=s.toks) t1 (λ w=>by show Data.seq _ _≠_; nofun) (λ b ob q e=>e) (.inl rfl)
 have e2:Ex g (setG (setG gz L .free) D .free):=(F.ex.kp F.fL).kp F.fD
 refine aE.up e2 F.ag (aE.list (its:=its) a2 (aD ..) ⟨m,a1.wd.kp _ _ t1⟩ (((vs.le (Le.kp tL)).le (Le.kp t1))) hl al)
theorem vt {elt iter:Expr} {x:Str} {px:Pos} {ifs:List Expr} {scope:Scope} {pos:Pos} {k:Nat} {it e:E} {c:Option B}
  (S:jl cx dh scope k x) (h1:SE G n C cx it iter) (h2:SE G n C dh e elt) (h3:match c with | none=>ifs= [] | some c=> ∃ct,ifs= [ct]/\ST G n C dh c ct)
  (hf: ∀env v,foldedSetIterable iter env v=pure v):SE G n C cx (.comp k it c e) (.ListComp elt [⟨.Name x px,iter,ifs,0⟩] scope pos):=λ A env g σ s Q R a hw=>by
 rw [eval_ListComp]
 refine w5 (use:=none) S h1 h2 h3 hf R a hw λ D L gz σz s' F=>?_
 obtain ⟨m,hm⟩:=F.ns
 exact ⟨m,hm,λ h' hs=>F.post hs⟩
theorem tu {elt iter:Expr} {x y:Str} {px py:Pos} {ifs:List Expr} {scope:Scope} {pos XT:Pos} {k i:Nat} {it e:E} {c:Option B}
  (S:jl cx dh scope k x) (h1:SE G n C cx it iter) (h2:SE G n C dh e elt) (h3:match c with | none=>ifs= [] | some c=> ∃ct,ifs= [ct]/\ST G n C dh c ct)
  (hf: ∀env v,foldedSetIterable iter env v=pure v) (hy:cx.at i y) (hm:y∈cx.mine)
  (hsw: ∀env:Env,env.scope.kind= .function->env.scope.names=cx.names->swapsWith (.ListComp elt [⟨.Name x px,iter,ifs,0⟩] scope pos) (some (.Name y py)) XT.line env=pure true):
  SS G n C cx (.assign i (.comp k it c e)) (.Assign [.Name y py] (.ListComp elt [⟨.Name x px,iter,ifs,0⟩] scope pos) XT):=λ A env g σ s Q R a hw=>by
 rw [exec_Assign_Name_used _ _ _ _ (hsw env a.fm.kind a.fm.names)]
 refine wpAny_bind (wpAny_standAt (wpAny_bind ?_))
 show wpAny _ A (do let _ <- comprehension (.ListComp elt [⟨.Name x px,iter,ifs,0⟩] scope pos) scope env _ (newList []) false (eval iter env) (some (assign (.Name y py) env))) _ _ s
 refine wpAny_bind (wpAny_mono (w5 (use:=some (assign (.Name y py) env)) (QQ:=λ z s'=>gJ G cx g env Q .next s') S h1 h2 h3 hf R a hw λ D L gz σz s' F=>?_) (λ z s' hq=>wpAny_pure (wpAny_pure hq)) λ z z e=>e)
 show wpAny _ A (assign (.Name y py) env (.ref D)) _ _ _
 obtain ⟨its,m,acc,t,ho,vs,hl,al,a1,ex1,fD,Xw⟩:=F.done
 have hn:=al D (a1.wd.A5 fD)
 have a2:=a1.new (o:= .list acc) fD ⟨_,ho⟩ ⟨aD ..,its,⟨m,ho⟩,(vs.le Xw).le (Ex.set fD).le,hl⟩
 obtain ⟨oL,tL,nc⟩:=F.tL
 obtain ⟨mL,hmL⟩:=F.ns
 have tL2:setG (setG gz D .free) D .mut L= .kp oL:=by rw [aG _ _ (Ne.symm F.ne),aG _ _ (Ne.symm F.ne)]; exact tL
 refine wpAny_assign_Name (fK S.out hy hm a2 (.ref D (.inl (aD ..))) λ s3 a3=>?_)
 have NQ:=a3.wd.kp _ _ tL2
 have ho0:=F.at_.wd.kp _ _ tL
 obtain ⟨o',es,ep,q1,q2⟩:=hmL
 rw [ho0] at q1; cases q1
 refine ⟨mL,⟨oL,es,ep,NQ,q2⟩,λ h' hs=>?_⟩
 have a4:=a3.re (tk:=s3.toks) tL2 nc (λ b ob q e=>(hs.2 b q).trans e) (.inl rfl)
 refine ⟨_,_, .next,?_,a4, .next,hn⟩
 have e3:Ex g (setG (setG gz D .free) D .mut):=ex1.kp F.fD
 exact e3.kp F.fL
end
end
section
open PySem PySem.W PyProof.Rows PySem.SeqAt
section
variable {G:Pg} {cx dh:Cx} {g:Gm} {env:Env} {σ:St} {s:Shared} {n:Nat} {A:Around} {Q:PV} {QF:PF} {C:CT} {K:Frag} {mg mb:Str->Option Value}
theorem Ht {P:Flow->Shared->Prop} {fI x d L:Addr} {m:Str->Option Value} {es hY:List DictEntry} {k nn:Nat} {z:PySem.Expr} {ob:Obj} {p1 p2 pos:Pos} (zZ:K.In G.B) (dict:hasDictIn K G.C=true) (M:Dd G K fI)
  (Rn:env.scope.kind= .function) (Hm:env.kindOf eO=some .local) (hL:env.locals=L) (Fx:Fr G.B L s.heap m) (hm:m eO=some (.ref x))
  (hx:s.heap.get? x=some (instObj G.C d)) (hd:s.heap.get? d=some (PySem.W.dictOf es nn)) (dL:d≠L) (dB:G.B.get? d=none) (hk:k < 4) (hl:(getL (aK k) es).isSome=true)
  (hz: ∀Q:Value->Shared->Prop,Q (.ref s.heap.objs.size) {s with heap:=s.heap.push ob}->wpAny (model G.prog G.w) A (eval z env) Q cn s) (hs:swapsWith z (some (.Attribute (.Name eO p1) (aK k) p2)) pos.line env=pure false)
  (e:putL (aK k) (PyData.keyHash G.w.params (aK k)) (.str (aK k) (s.toks+1)) (.ref s.heap.objs.size) es=hY) (C6:hY.length<=1000)
  (cont: ∀h' XH,(∀b o,b≠d->b≠L->(s.heap.push ob).get? b=some o->h'.get? b=some o)->Fr G.B L h' m->h'.get? d=some (PySem.W.dictOf hY XH)->P .next {s with heap:=h',toks:=s.toks+2}):
  wpAny (model G.prog G.w) A (exec (.Assign [.Attribute (.Name eO p1) (aK k) p2] z pos) env) P cn s:=by
 refine plainObj_wpAny_Assign_Attribute (hz _ ?_) hs
 have up: ∀b o,s.heap.get? b=some o->(s.heap.push ob).get? b=some o:=λ b o e=>Heap.get?_push_of_some _ e
 have F2:Fr G.B L (s.heap.push ob) m:=⟨Fx.ns.keeps up,λ b o e=>up b o (Fx.keep b o e),Fx.above⟩
 refine wpAny_Name (wpAny_loadName_local Rn Hm (hL▸F2.ns) hm ?_) (by decide)
 exact UZ (h:=s.heap) (s:={s with heap:=s.heap.push ob}) zZ dict M F2 (up _ _ hx) (up _ _ hd) dL dB hk hl e C6 cont
structure N5 (G:Pg) (L d:Addr) (H0 h:Heap) (m:Str->Option Value) (es:List DictEntry) (bs:List (Addr×Obj)):Prop where
 F:Fr G.B L h m
 hd: ∃nn,h.get? d=some (PySem.W.dictOf es nn)
 keep: ∀b o,b≠d->b≠L->H0.get? b=some o->h.get? b=some o
 bs: ∀p∈bs,L < p.1/\h.get? p.1=some p.2
 sz:L < h.objs.size
 lt:d < L
theorem tN {P:Flow->Shared->Prop} {fI x d L:Addr} {m:Str->Option Value} {H0:Heap} {es hY:List DictEntry} {bs:List (Addr×Obj)} {k:Nat} {z:PySem.Expr} {ob:Obj} {p1 p2 pos:Pos} (zZ:K.In G.B) (dict:hasDictIn K G.C=true) (M:Dd G K fI)
  (Rn:env.scope.kind= .function) (Hm:env.kindOf eO=some .local) (hL:env.locals=L) (hm:m eO=some (.ref x)) (hx:H0.get? x=some (instObj G.C d)) (xd:x≠d) (xL:x≠L) (dB:G.B.get? d=none) (S:N5 G L d H0 s.heap m es bs) (hk:k < 4) (hl:(getL (aK k) es).isSome=true)
  (hf:ob.isFreed=false) (hz: ∀Q:Value->Shared->Prop,Q (.ref s.heap.objs.size) {s with heap:=s.heap.push ob}->wpAny (model G.prog G.w) A (eval z env) Q cn s) (hs:swapsWith z (some (.Attribute (.Name eO p1) (aK k) p2)) pos.line env=pure false)
  (e:putL (aK k) (PyData.keyHash G.w.params (aK k)) (.str (aK k) (s.toks+1)) (.ref s.heap.objs.size) es=hY) (C6:hY.length<=1000)
  (cont: ∀h',N5 G L d H0 h' m hY ((s.heap.objs.size,ob)::bs)->s.heap.objs.size < h'.objs.size->P .next {s with heap:=h',toks:=s.toks+2}):
  wpAny (model G.prog G.w) A (exec (.Assign [.Attribute (.Name eO p1) (aK k) p2] z pos) env) P cn s:=by
 obtain ⟨nn,hd⟩:=S.hd
 refine Ht zZ dict M Rn Hm hL S.F hm (S.keep _ _ xd xL hx) hd (Nat.ne_of_lt S.lt) dB hk hl hz hs e C6 λ h' XH k' F' vL=>?_
 have k2: ∀b o,L < b->(s.heap.push ob).get? b=some o->h'.get? b=some o:=λ b o hb=>k' b o (Nat.ne_of_gt (Nat.lt_trans S.lt hb)) (Nat.ne_of_gt hb)
 have nw:h'.get? s.heap.objs.size=some ob:=k2 _ _ S.sz (Heap.get?_push_size _ hf)
 have lt:s.heap.objs.size < h'.objs.size:=Heap.lt_size nw
 refine cont h' ⟨F',⟨XH,vL⟩,λ b o h1 h2 e=>k' b o h1 h2 (Heap.get?_push_of_some _ (S.keep b o h1 h2 e)),λ p hp=>?_,Nat.lt_trans S.sz lt,S.lt⟩ lt
 exact (List.mem_cons.mp hp).elim (λ e=>e▸⟨S.sz,nw⟩) λ hp=>⟨(S.bs p hp).1,k2 _ _ (S.bs p hp).1 (Heap.get?_push_of_some _ (S.bs p hp).2)⟩
theorem aau {d b0 b1 b2 b3:Nat} (z1:d+1 < b0) (z2:b0 < b1) (z3:b1 < b2) (z4:b2 < b3):d≠d+1/\b0≠d+1/\b1≠d+1/\b2≠d+1/\b3≠d+1/\b0≠d/\b1≠d/\b2≠d/\b3≠d/\b1≠b0/\b2≠b0/\b3≠b0/\b2≠b1/\b3≠b1/\b3≠b2:=
 have y1:=Nat.lt_trans z1 z2
 have y2:=Nat.lt_trans y1 z3
 have y3:=Nat.lt_trans y2 z4
 have x2:=Nat.lt_trans z2 z3
 ⟨Nat.ne_of_lt (Nat.lt_succ_self d),Nat.ne_of_gt z1,Nat.ne_of_gt y1,Nat.ne_of_gt y2,Nat.ne_of_gt y3,Nat.ne_of_gt (Nat.lt_of_succ_lt z1),Nat.ne_of_gt (Nat.lt_of_succ_lt y1),Nat.ne_of_gt (Nat.lt_of_succ_lt y2),Nat.ne_of_gt (Nat.lt_of_succ_lt y3),
  Nat.ne_of_gt z2,Nat.ne_of_gt x2,Nat.ne_of_gt (Nat.lt_trans x2 z4),Nat.ne_of_gt z3,Nat.ne_of_gt (Nat.lt_trans z3 z4),Nat.ne_of_gt z4⟩
noncomputable abbrev V0:Obj:={cls:= .type "dict",data:= .dict #[]}
noncomputable abbrev QN (G:Pg) (L d:Addr) (H0 h:Heap) (m:Str->Option Value) (t0 t1 t2 t3:Tok) (b0 b1 b2 b3:Addr):Prop:=
 N5 G L d H0 h m (jP G.w.params t0 t1 t2 t3 b0 b1 b2 b3) [(b3,V0),(b2,fB #[] 0),(b1,fB #[] 0),(b0,fB #[.none] 0)]
theorem Hu {P:Flow->Shared->Prop} {fI x d:Addr} {m:Str->Option Value} {H0:Heap} {body:List Stmt} (I:tR body) (zZ:K.In G.B) (dict:hasDictIn K G.C=true) (M:Dd G K fI)
  (Rn:env.scope.kind= .function) (Hm:env.kindOf eO=some .local) (hm:m eO=some (.ref x)) (hx:H0.get? x=some (instObj G.C d)) (xd:x≠d) (xL:x≠env.locals) (dB:G.B.get? d=none) (S:N5 G env.locals d H0 s.heap m [] [])
  (cont: ∀h' t t0 t1 t2 t3 b0 b1 b2 b3,QN G env.locals d H0 h' m t0 t1 t2 t3 b0 b1 b2 b3->b0 < b1->b1 < b2->b2 < b3->P .next {s with heap:=h',toks:=t}):wpAny (model G.prog G.w) A (execs body env) P cn s:=by
 obtain ⟨p1,p2,p3,p4,p5,p6,p7,p8,p9,q1,q2,q3,q4,q5,q6,q7,q8,k0,rfl⟩:=I
 refine wpAny_execs_cons (tN (ob:=fB #[.none] 0) zZ dict M Rn Hm rfl hm hx xd xL dB S (k:=0) (by decide) rfl rfl
  (λ Q h=>wpAny_List (Calls.spliced_cons (wpAny_Constant_none (k:=k0) (pos:=p3) (Calls.spliced_nil ⟨by decide,h⟩)))) rfl rfl (show _<=1000 from Nat.le_of_ble_eq_true rfl) λ H2 S2 z2=>?_)
 refine wpAny_execs_cons (tN (ob:=fB #[] 0) zZ dict M Rn Hm rfl hm hx xd xL dB S2 (k:=1) (by decide) rfl rfl (λ Q h=>wpAny_List (Calls.spliced_nil ⟨by decide,h⟩)) rfl rfl (show _<=1000 from Nat.le_of_ble_eq_true rfl) λ H3 S3 z3=>?_)
 refine wpAny_execs_cons (tN (ob:=fB #[] 0) zZ dict M Rn Hm rfl hm hx xd xL dB S3 (k:=2) (by decide) rfl rfl (λ Q h=>wpAny_List (Calls.spliced_nil ⟨by decide,h⟩)) rfl rfl (show _<=1000 from Nat.le_of_ble_eq_true rfl) λ H4 S4 z4=>?_)
 refine wpAny_execs_cons (tN (ob:=V0) zZ dict M Rn Hm rfl hm hx xd xL dB S4 (k:=3) (by decide) rfl rfl (λ Q h=>wpAny_Dict_empty h) rfl rfl (show _<=1000 from Nat.le_of_ble_eq_true rfl) λ H5 S5 z5=>?_)
 exact wpAny_execs_nil (cont _ _ _ _ _ _ _ _ _ _ S5 z2 z3 z4)
theorem PX {H0 h:Heap} {L:Addr} {m:Str->Option Value} {t0 t1 t2 t3:Tok} {b0 b1 b2 b3:Addr} (O:GL G K mg mb) (a:At G cx g env σ s) (hx:H0.get? (s.heap.objs.size+1)=some (instObj G.C s.heap.objs.size)) (hL:s.heap.objs.size+1 < L) (S:QN G L s.heap.objs.size H0 h m t0 t1 t2 t3 b0 b1 b2 b3) (z2:b0 < b1) (z3:b1 < b2) (z4:b2 < b3):
  ∃n,mh G g h (s.heap.objs.size+1) s.heap.objs.size b0 b1 b2 b3 (PySem.W.dictOf (jP G.w.params t0 t1 t2 t3 b0 b1 b2 b3) n):=by
 have fr: ∀b,s.heap.objs.size<=b->g b= .free:=λ b hb=>a.wd.fresh (by
  cases q:s.heap.get? b with
  | none=>rfl
  | some o=>exact absurd (Heap.lt_size q) (Nat.not_lt.mpr hb))
 have le: ∀{b},L < b->s.heap.objs.size<=b:=λ h=>Nat.le_of_lt (Nat.lt_trans (Nat.lt_of_succ_lt hL) h)
 have r3:=S.bs _ (.head _)
 have r2:=S.bs _ (.tail _ (.head _))
 have r1:=S.bs _ (.tail _ (.tail _ (.head _)))
 have r0:=S.bs _ (.tail _ (.tail _ (.tail _ (.head _))))
 obtain ⟨n5,hd5⟩:=S.hd
 exact ⟨n5,{fx:=fr _ (Nat.le_succ _),fd:=fr _ (Nat.le_refl _),f0:=fr _ (le r0.1),f1:=fr _ (le r1.1),f2:=fr _ (le r2.1),f3:=fr _ (le r3.1),ne:=aau (Nat.lt_trans hL r0.1) z2 z3 z4,ax:=S.keep _ _ (Nat.succ_ne_self _) (Nat.ne_of_lt hL) hx,ad:=hd5,es:=⟨_,_,_,_,n5,rfl⟩,a0:=⟨0,r0.2⟩,a1:=⟨0,r1.2⟩,a2:=⟨0,r2.2⟩,a3:=⟨_,r3.2⟩,sys:=beq_false_of_ne λ q=>absurd (Nat.lt_of_lt_of_le O.sys (Nat.le_trans a.big (le r3.1))) (q▸Nat.lt_irrefl _)}⟩
theorem snd_mk {fI:Addr} {x:Str} {p pos:Pos} (O:GL G K mg mb) (M:Dd G K fI) (hm:mg x=some (.ref G.C)) (hd:(x == ("__debug__" :Str))=false) (hx:cx.names.lookup x=some .globalImplicit):
  SE G n C cx .mk (.Call (.Name x p) [] [] pos):=λ A env g σ s Q R a hw=>by
 refine wpAny_Call_NameR (LV O.g hm hd hx a (callWith_K0 (O.zZ.keeps a.keeps) M.keep ?_))
 refine wpAny_call (make_core (makes_of (O.zZ.keeps a.keeps) M.makes) (looks_findIn (O.zZ.keeps a.keeps) M.init) (λ self=>bind_fn (O.zZ.keeps a.keeps) self (beq_iff_eq.mp M.aar)) (.inl rfl) ?_)
 obtain ⟨body,ci,qi,FO,IB⟩:=M.fn
 have up0: ∀b o,s.heap.get? b=some o->((s.heap.push emptyDict).push (instObj G.C s.heap.objs.size)).get? b=some o:=λ b o e=>Heap.get?_push_of_some _ (Heap.get?_push_of_some _ e)
 have hx0:((s.heap.push emptyDict).push (instObj G.C s.heap.objs.size)).get? (s.heap.objs.size+1)=some (instObj G.C s.heap.objs.size):=by
  have:=Heap.get?_push_size (s.heap.push emptyDict) (o:=instObj G.C s.heap.objs.size) rfl
  rwa [Heap.size_push] at this
 have hd0:((s.heap.push emptyDict).push (instObj G.C s.heap.objs.size)).get? s.heap.objs.size=some (PySem.W.dictOf [] 0):=Heap.get?_push_of_some _ (Heap.get?_push_size _ rfl)
 have aak:((s.heap.push emptyDict).push (instObj G.C s.heap.objs.size)).objs.size=s.heap.objs.size+2:=by rw [Heap.size_push,Heap.size_push]
 generalize ((s.heap.push emptyDict).push (instObj G.C s.heap.objs.size))=H0 at*
 have hR:A.depth+1 < 1000:=Nat.lt_of_lt_of_le (Nat.succ_lt_succ (Nat.lt_of_le_of_lt (Nat.le_add_right _ n) R.d)) (by decide)
 refine enter FO (λ b o e=>up0 _ _ (a.keeps b o e)) O.lim hR rfl λ gg s1 ps FD h1 h2 E=>?_
 have FD:ps= [eO]:=by
  cases ps with
  | nil=>exact absurd FD.symm (Nat.succ_ne_zero _)
  | cons y r=>
   cases r with
   | nil=>rw [<- Option.some.inj (Option.some.inj (h1 0 y rfl).1)]
   | cons z r=>exact absurd (Nat.succ.inj FD) (Nat.succ_ne_zero _)
 subst FD
 obtain ⟨H1,t1,e1⟩:=E.same
 obtain ⟨m,xl,hmv⟩:=E.ns
 have T3:s.heap.objs.size+1 < gg.locals:=Nat.lt_of_lt_of_le (aak▸Nat.lt_succ_self _) E.fresh
 refine Hu IB O.zZ O.dict M E.kind (by rw [Env.kindOf,E.names]; rfl) (hmv eO (.ref (s.heap.objs.size+1)) (.head _) rfl) hx0 (Nat.succ_ne_self _) (Nat.ne_of_lt T3) ?_
  ⟨⟨xl,λ b o e=>E.keep _ _ (up0 _ _ (a.keeps b o e)),Nat.le_trans a.big (Nat.le_of_lt (Nat.lt_of_succ_lt T3))⟩,⟨0,E.keep _ _ hd0⟩,λ b o j j e=>E.keep b o e,λ j h=>absurd h List.not_mem_nil,xl.elim λ j r=>r.elim λ j r=>r.elim λ j r=>Heap.lt_size r.1,Nat.lt_of_succ_lt T3⟩
  λ H5 t t0 t1 t2 t3 b0 b1 b2 b3 S5 z2 z3 z4=>⟨rfl,?_⟩
 ·cases q:G.B.get? s.heap.objs.size with
  | none=>rfl
  | some o=>exact absurd (Heap.lt_size (a.keeps _ _ q)) (Nat.lt_irrefl _)
 ·obtain ⟨n5,N⟩:=PX O a hx0 T3 S5 z2 z3 z4
  have a5:At G cx g env σ {s1 with heap:=H5,toks:=t}:=a.keep (λ b o j e=>have hb:=Heap.lt_size e; S5.keep b o (Nat.ne_of_lt hb) (Nat.ne_of_lt (Nat.lt_trans hb (Nat.lt_of_succ_lt T3))) (up0 _ _ e)) (e1▸rfl) (e1▸rfl)
  exact ⟨_,⟨σ.loc,upd σ.H (s.heap.objs.size+1) (.aig [.none] [] [] [])⟩, .ref (s.heap.objs.size+1),N.old,⟨a5.wd.XF N,a5.fm.ex N.old⟩, .refl _ _, .ref _ (.inr ⟨_,aD ..⟩),hw _ (a5.wd.A5 N.fx)⟩
end
end
section
open PySem PySem.W PyProof.Rows PySem.SeqAt
noncomputable def ie {α:Type} (n:Nat) (P:α->Prop):KasT α->Prop
 | .ret a=>P a
 | .ask i j k=>i < n/\j < n/\∀b,ie n P (k b)
theorem ie.bind {α β:Type} {n:Nat} {P:α->Prop} {P':β->Prop} {f:α->KasT β} (h: ∀a,P a->ie n P' (f a)): ∀{t:KasT α},ie n P t->ie n P' (t.bind f)
 | .ret a,x=>h a x
 | .ask i j k,x=>⟨x.1,x.2.1,λ b=>ie.bind h (x.2.2 b)⟩
theorem ie.wp {α:Type} {n:Nat} {P:α->Prop} {I:Shared->Prop} {cmp:Nat->Nat->(Bool->Shared->Prop)->Shared->Prop} {Q:α->Shared->Prop}
  (hc: ∀i j C s,i < n->j < n->I s->(∀b s',I s'->C b s')->cmp i j C s) (hq: ∀a s,P a->I s->Q a s): ∀{t:KasT α} {s:Shared},ie n P t->I s->t.kasWp cmp Q s
 | .ret a,s,x,hi=>hq a s x hi
 | .ask i j k,s,x,hi=>hc i j _ s x.1 x.2.1 hi λ b s' Yx=>ie.wp hc hq (x.2.2 b) Yx
noncomputable def cB (n:Nat) (p:Array Nat):Prop:=p.toList.Perm (List.range n)
theorem cB.of {n:Nat} {p q:Array Nat} (h:cB n p) (e:q.Perm p):cB n q:=(Array.perm_iff_toList_perm.mp e).trans h
theorem cB.lt {n:Nat} {p:Array Nat} (h:cB n p) (hn:0 < n) (k:Nat):p.getD k 0 < n:=by
 by_cases hk:k < p.size
 ·have:p.getD k 0=p.toList[k]'(by simpa using hk):=by simp [Array.getD,hk]
  rw [this]
  exact List.mem_range.mp (h.mem_iff.mp (List.getElem_mem _))
 ·have:p.getD k 0=0:=by simp [Array.getD,hk]
  rw [this]; exact hn
theorem cB.rev {n:Nat} {p:Array Nat} (h:cB n p) (i j:Nat):cB n (kas_rev p i j):=h.of (mirror_perm _ _ _ _)
section
variable {n:Nat} (hn:0 < n)
include hn
theorem yg {p:Array Nat} (h:cB n p): ∀f m,ie n (λ x=>True) (kas_asc p f m)
 | 0,_=>trivial
 | f+1,m=>⟨h.lt hn _,h.lt hn _,λ b=>by cases b <;> first | exact trivial | exact yg h f (m+1)⟩
theorem qf: ∀(f:Nat) {p:Array Nat} (m q:Nat),cB n p->ie n (λ r=>cB n r.1) (kas_desc f p m q)
 | 0,p,m,q,h=>h
 | f+1,p,m,q,h=>by
  refine ⟨h.lt hn _,h.lt hn _,λ b=>?_⟩
  cases b with
  | true=>
   simp only [if_true]
   split
   ·exact qf f _ _ (h.rev _ _)
   ·exact qf f _ _ h
  | false=>
   simp only [Bool.false_eq_true,if_false]
   refine ⟨h.lt hn _,h.lt hn _,λ b=>?_⟩
   cases b with
   | true=>exact h
   | false=>exact qf f _ _ h
theorem xV {p:Array Nat} (h:cB n p) (k r:Nat):ie n (λ r=>cB n r.2) (kas_tail3 k r p):=ie.bind (P:=λ x=>True) (P':=λ r:Nat×Array Nat=>cB n r.2) (λ a x=>by show cB n (kas_rev p 0 k); exact h.rev 0 k) (yg hn (h.rev 0 k) _ _)
theorem qe {p:Array Nat} (h:cB n p) (k r:Nat):ie n (λ r=>cB n r.2) (kas_descPart k r p):=ie.bind (λ a ha=>by
 split
 ·exact xV hn (ha.rev _ _) _ _
 ·exact xV hn ha _ _) (qf hn _ _ _ h)
theorem G7 {p:Array Nat} (h:cB n p) (r:Nat):ie n (λ r=>cB n r.2) (kas_count r p):=ie.bind (λ a x=>by
 split
 ·exact h
 ·split
  ·refine ⟨h.lt hn _,h.lt hn _,λ b=>?_⟩
   cases b with
   | true=>exact h
   | false=>exact qe hn (h.rev _ _) _ _
  ·exact qe hn h _ _) (yg hn h _ _)
theorem rL {p:Array Nat} (h:cB n p) (k:Nat): ∀f l r,ie n (λ x=>True) (kas_place p k f l r)
 | 0,_,_=>trivial
 | f+1,l,r=>by
  unfold kas_place
  split
  ·exact trivial
  ·refine ⟨h.lt hn _,h.lt hn _,λ b=>?_⟩
   cases b with
   | true=>exact rL h k f _ _
   | false=>exact rL h k f _ _
theorem Aq: ∀(f:Nat) {p:Array Nat} (k:Nat),cB n p->ie n (cB n) (kas_bin f p k)
 | 0,p,k,h=>h
 | f+1,p,k,h=>ie.bind (λ l x=>Aq f (k+1) (h.of (bubble_perm _ _ _))) (rL hn h k _ _ _)
theorem Nm:ie n (cB n) (kas_sort n):=ie.bind (λ r hr=>by
 split
 ·exact Aq hn _ _ hr
 ·exact hr) (G7 hn (show cB n (List.toArray (List.range n)) from List.Perm.refl _) n)
end
theorem Ip {vs:List Value} {p:Array Nat} (h:cB vs.length p):(p.toList.map λ i=>vs.getD i Value.none).Perm vs:=by
 refine (h.map _).trans (List.Perm.of_eq ?_)
 refine List.ext_getElem (by simp) λ i h1 h2=>?_
 simp [h2]
structure lX (s s':Shared):Prop where
 k: ∀b o,s.heap.get? b=some o->s'.heap.get? b=some o
 g:s'.gens=s.gens
 o:s'.os=s.os
theorem lX.refl (s:Shared):lX s s:=⟨λ x x e=>e,rfl,rfl⟩
theorem lX.trans {a b c:Shared} (x:lX a b) (y:lX b c):lX a c:=⟨λ d o e=>y.k d o (x.k d o e),y.g.trans x.g,y.o.trans x.o⟩
theorem lX.push {s s':Shared} (x:lX s s') (o:Obj):lX s {s' with heap:=s'.heap.push o}:=⟨λ d o' e=>Heap.get?_push_of_some _ (x.k d o' e),x.g,x.o⟩
theorem lX.upd {s s':Shared} (x:lX s s') {a:Addr} (ha:s.heap.get? a=none) (f:Obj->Obj):lX s {s' with heap:=s'.heap.update a f}:=
 ⟨λ d o' e=>((Heap.SameBut.update s'.heap a f).2 d (λ q=>by rw [q,ha] at e; cases e)).trans (x.k d o' e),x.g,x.o⟩
noncomputable def iT (h:Heap) (v k:Value):Prop:= ∃t i tk m,k= .ref t/\h.get? t=some {cls:= .type "tuple",data:= .seq #[.int i tk,v] m}
theorem iT.kp {h h':Heap} {v k:Value} (x:iT h v k) (e: ∀b o,h.get? b=some o->h'.get? b=some o):iT h' v k:=let ⟨t,i,tk,m,a,b⟩:=x; ⟨t,i,tk,m,a,e _ _ b⟩
theorem iT.upd {h:Heap} {v k:Value} {a:Addr} {xs:Array Value} {n:Nat} (x:iT h v k) (ha:h.get? a=some (seqObj "list" xs n)) (f:Obj->Obj):iT (h.update a f) v k:=by
 obtain ⟨t,i,tk,m,e,b⟩:=x
 refine ⟨t,i,tk,m,e,((Heap.SameBut.update h a f).2 t (λ q=>?_)).trans b⟩
 rw [q,ha] at b; simp at b
inductive lZ (h:Heap):List Value->List Value->Prop where
 | nil:lZ h [] []
 | cons {v k:Value} {vs ks:List Value}:iT h v k->lZ h vs ks->lZ h (v::vs) (k::ks)
theorem lZ.snoc {h:Heap}: ∀{vs ks:List Value} {v k:Value},lZ h vs ks->iT h v k->lZ h (vs++ [v]) (ks++ [k])
 | _,_,_,_, .nil,x=> .cons x .nil
 | _,_,_,_, .cons a r,x=> .cons a (r.snoc x)
theorem lZ.map {h h':Heap} (f: ∀v k,iT h v k->iT h' v k): ∀{vs ks:List Value},lZ h vs ks->lZ h' vs ks
 | _,_, .nil=> .nil
 | _,_, .cons a r=> .cons (f _ _ a) (r.map f)
theorem lZ.length {h:Heap}: ∀{vs ks:List Value},lZ h vs ks->ks.length=vs.length
 | _,_, .nil=>rfl
 | _,_, .cons _ r=>by simp [r.length]
theorem lZ.get {h:Heap}: ∀{vs ks:List Value} {i:Nat},lZ h vs ks->i < vs.length->∃v,v∈vs/\iT h v (ks.getD i .none)
 | _::_,_::_,0, .cons a _,_=>⟨_, .head _,a⟩
 | _::_,_::_,i+1, .cons _ r,hi=>let ⟨v,h1,h2⟩:=r.get (i:=i) (by simpa using hi); ⟨v, .tail _ h1,by simpa using h2⟩
theorem lZ.XZ {h:Heap}: ∀{vs ks:List Value},lZ h vs ks->∃fs:List Value,KatTups h ks fs/\fs.length=ks.length/\∀v∈fs,∃i t,v= .int i t
 | _,_, .nil=>⟨[],KatTups.nil,rfl,λ x h=>(nomatch h)⟩
 | _,_, .cons a r=>by
  obtain ⟨t,i,tk,m,rfl,b⟩:=a
  obtain ⟨fs,h1,h2,h3⟩:=r.XZ
  refine ⟨.int i tk::fs,KatTups.cons b rfl rfl rfl h1,by simp [h2],λ v hv=>?_⟩
  rcases List.mem_cons.mp hv with rfl | hv
  ·exact ⟨_,_,rfl⟩
  ·exact h3 v hv
end
section
open PySem PySem.W PyProof.Rows PySem.SeqAt
section
variable {prog:Program} {w:World} {A:Around} {E:Value->Shared->Prop} {s s1:Shared} {D kS:Addr} {f:Value} {vs ks:List Value} {n e e1:Nat} {P:PySem.Fin->Shared->Prop}
theorem Gs {st:SortSt} {out:List Value} (aaf:(arrOf st).map (·.2)=List.toArray out) (hf:failedOf st=none) (hz:out.length < 64) (hkz:ks.length < 64) (K:lX s s1) (hD:s.heap.get? D=none) (T6:s.heap.get? kS=none) (ne:D≠kS)
  (hk:s1.heap.get? kS=some (seqObj "list" ks.toArray e)) (ho:s1.heap.get? D=some (seqObj "list" #[] e1)) (fin: ∀m s',lX s s'->s'.heap.get? D=some (seqObj "list" out.toArray m)->P (.done (.ret .none)) s'):
  wpAny (model prog w) A (ksk_tail D false e1 (.ref kS) st) P E s1:=by
 unfold ksk_tail
 dsimp only
 rw [aaf]
 refine wpAny_bind (listUpdate_at hk rfl ?_ (by rw [List.size_toArray,sizeLine_eq]; lia) (Nat.zero_le _))
 refine wpAny_bind (wpAny_letGo ?_)
 have WH:(s1.heap.update kS (Obj.mapSeq λ x=>(#[]:Array Value))).get? D=some (seqObj "list" #[] e1):=((Heap.SameBut.update _ _ _).2 D ne).trans ho
 refine wpAny_bind (seqEpoch_at WH rfl ?_)
 simp only [Bool.false_eq_true,if_false]
 refine wpAny_bind (listUpdate_at WH rfl ?_ (Nat.zero_le _) (by rw [List.size_toArray,sizeLine_eq]; lia))
 rw [hf]
 simp only [bne_self_eq_false,Bool.false_eq_true,if_false]
 exact wpAny_pure (fin _ _ ((K.upd T6 _).upd hD _) (get?_update_seq WH λ x=>out.toArray))
theorem U2 (K:lX s s1) (hD:s.heap.get? D=none) (T6:s.heap.get? kS=none) (ne:D≠kS) (Ve:vs.length < 64) (hk:s1.heap.get? kS=some (seqObj "list" ks.toArray e)) (ho:s1.heap.get? D=some (seqObj "list" #[] e1)) (keys:lZ s1.heap vs ks)
  (cmp: ∀(v₁ v₂ k₁ k₂:Value) (s':Shared) (C:Bool->Shared->Prop),v₁∈vs->v₂∈vs->lX s s'->iT s'.heap v₁ k₁->iT s'.heap v₂ k₂->(∀b xQ,lX s' xQ->C b xQ)->wpAny (model prog w) A (keyLt' (tuples' true) k₁ k₂) C (λ y y=>False) s')
  (fin: ∀(m:Nat) (out:List Value) (s':Shared),out.Perm vs->lX s s'->s'.heap.get? D=some (seqObj "list" out.toArray m)->P (.done (.ret .none)) s'):
  wpAny (model prog w) A (ksk_end D false vs.toArray e1 (.ref kS) ks.toArray) P E s1:=by
 have hl:=keys.length
 unfold ksk_end
 dsimp only
 simp only [Bool.false_eq_true,if_false]
 by_cases h2:vs.toArray.size < 2
 ·rw [if_pos h2,if_pos h2]
  refine wpAny_bind (wpAny_pure ?_)
  rw [StateT.run_pure]
  refine wpAny_bind (wpAny_pure ?_)
  dsimp only
  refine Gs (out:=vs) ?_ rfl Ve (by lia) K hD T6 ne hk ho λ m s' K' h'=>fin m vs s' (.refl _) K' h'
  apply Array.toList_inj.mp
  show ((ks.toArray.zip vs.toArray).map (·.2)).toList=vs.toArray.toList
  rw [Array.toList_map,ksk_zip]
  simp [List.map_snd_zip,hl]
 ·rw [if_neg h2,if_neg h2]
  rw [List.size_toArray] at h2
  obtain ⟨fs,t1,t2,t3⟩:=keys.XZ
  refine wpAny_bind (kat_kind (T:= .type "int") t1 (by lia) (λ v hv=>by obtain ⟨i,t,rfl⟩:=t3 v hv; exact Looks.of_pure rfl) (by decide) ?_)
  have run:=kat_run (prog:=prog) (w:=w) (A:=A) (E:=E) (s:=s1) (κ:=tuples' true) (Q:=λ SM s'=> ∃p:Array Nat,p.size=vs.length/\arrOf SM=p.map (kas_item (ks.toArray.zip vs.toArray))/\failedOf SM=none/\cB vs.length p/\lX s1 s')
   (G:=λ p s'=>cB vs.length p/\lX s1 s') hl (by lia) Ve (λ p SM s' a1 a2 a3 a4=>⟨p,a1,a2,a3,a4.1,a4.2⟩)
   (ie.wp (I:=λ s'=>lX s1 s') (λ i j C s' hi hj hI hC=>?_) (λ p s' hp hI=>⟨hp,hI⟩) (Nm (n:=vs.length) (by lia)) (.refl s1))
  ·refine wpAny_bind (wpAny_mono run ?_ λ y y x=>x)
   rintro ⟨⟨⟩,SM⟩ s' ⟨p,hp,pM,hf,KG,hI⟩
   dsimp only
   have O9:=Ip (vs:=vs) KG
   exact Gs (kat_snds hl pM) hf (by have:=O9.length_eq; lia) (by lia) (K.trans hI) hD T6 ne (hI.k _ _ hk) (hI.k _ _ ho) λ m s' K' h'=>fin m _ s' O9 K' h'
  ·obtain ⟨v₁,m1,k1⟩:=keys.get hi
   obtain ⟨v₂,m2,k2⟩:=keys.get hj
   exact cmp v₁ v₂ _ _ s' C m1 m2 (K.trans hI) (k1.kp hI.k) (k2.kp hI.k) λ b xQ h''=>hC b xQ (hI.trans h'')
theorem Qg (K:lX s s1) (hD:s.heap.get? D=none) (Ve:vs.length < 64) (ho:s1.heap.get? D=some (seqObj "list" vs.toArray n))
  (key: ∀v,v∈vs->∀s',lX s s'->wpAny (model prog w) A (call f [v]) (λ k xQ=>lX s' xQ/\iT xQ.heap v k) (λ y y=>False) s')
  (cmp: ∀(v₁ v₂ k₁ k₂:Value) (s':Shared) (C:Bool->Shared->Prop),v₁∈vs->v₂∈vs->lX s s'->iT s'.heap v₁ k₁->iT s'.heap v₂ k₂->(∀b xQ,lX s' xQ->C b xQ)->wpAny (model prog w) A (keyLt' (tuples' true) k₁ k₂) C (λ y y=>False) s')
  (fin: ∀(m:Nat) (out:List Value) (s':Shared),out.Perm vs->lX s s'->s'.heap.get? D=some (seqObj "list" out.toArray m)->P (.done (.ret .none)) s'):
  wpAny (model prog w) A (ksk_tree D f false) P E s1:=by
 have K1:=K.upd (s':=s1) hD (Obj.mapSeq λ y=>(#[]:Array Value))
 obtain ⟨e1,ho1⟩: ∃e1,(s1.heap.update D (Obj.mapSeq λ y=>(#[]:Array Value))).get? D=some (seqObj "list" #[] e1):=⟨_,get?_update_seq ho λ y=> #[]⟩
 unfold ksk_tree
 refine wpAny_bind (listItems_at ho rfl ?_)
 refine wpAny_bind (listUpdate_at ho rfl ?_ (by rw [List.size_toArray,sizeLine_eq]; lia) (Nat.zero_le _))
 refine wpAny_bind (seqEpoch_at ho1 rfl ?_)
 refine wpAny_bind (wpAny_newTuple ?_ (by show vs.length<=_; rw [sizeLine_eq]; lia))
 refine wpAny_bind (wpAny_newList ?_ (Nat.zero_le _))
 refine wpAny_holding ?_
 have K2:=(K1.push (seqObj "tuple" vs.toArray 0)).push (seqObj "list" #[] 0)
 have WH:(((s1.heap.update D (Obj.mapSeq λ y=>(#[]:Array Value))).push (seqObj "tuple" vs.toArray 0)).push (seqObj "list" #[] 0)).get? D=some (seqObj "list" #[] e1):=Heap.get?_push_of_some _ (Heap.get?_push_of_some _ ho1)
 have uD:(((s1.heap.update D (Obj.mapSeq λ y=>(#[]:Array Value))).push (seqObj "tuple" vs.toArray 0)).push (seqObj "list" #[] 0)).get? ((s1.heap.update D (Obj.mapSeq λ y=>(#[]:Array Value))).push (seqObj "tuple" vs.toArray 0)).objs.size=some (seqObj "list" #[] 0):=Heap.get?_push_size _ rfl
 have hDl:D < ((s1.heap.update D (Obj.mapSeq λ y=>(#[]:Array Value))).push (seqObj "tuple" vs.toArray 0)).objs.size:=Heap.lt_size (Heap.get?_push_of_some _ ho1)
 have hSn:s.heap.get? ((s1.heap.update D (Obj.mapSeq λ y=>(#[]:Array Value))).push (seqObj "tuple" vs.toArray 0)).objs.size=none:=by
  cases q:s.heap.get? ((s1.heap.update D (Obj.mapSeq λ y=>(#[]:Array Value))).push (seqObj "tuple" vs.toArray 0)).objs.size with
  | none=>rfl
  | some o=>exact absurd (Heap.lt_size ((K1.push (seqObj "tuple" vs.toArray 0)).k _ _ q)) (Nat.lt_irrefl _)
 show wpAny _ _ (ksk_rest D f false vs.toArray e1 (.ref ((s1.heap.update D (Obj.mapSeq λ y=>(#[]:Array Value))).push (seqObj "tuple" vs.toArray 0)).objs.size)) P E {s1 with heap:=((s1.heap.update D (Obj.mapSeq λ y=>(#[]:Array Value))).push (seqObj "tuple" vs.toArray 0)).push (seqObj "list" #[] 0)}
 generalize ((s1.heap.update D (Obj.mapSeq λ y=>(#[]:Array Value))).push (seqObj "tuple" vs.toArray 0)).objs.size=kS at*
 generalize ((s1.heap.update D (Obj.mapSeq λ y=>(#[]:Array Value))).push (seqObj "tuple" vs.toArray 0)).push (seqObj "list" #[] 0)=H2 at*
 have ne:D≠kS:=Nat.ne_of_lt hDl
 unfold ksk_rest
 refine wpAny_bind (wpAny_rule ?_)
 rw [List.forIn_toArray]
 refine wpAny_bind (ksk_fold (λ i s'=>lX s s'/\s'.heap.get? D=some (seqObj "list" #[] e1)/\∃ks e,s'.heap.get? kS=some (seqObj "list" (List.toArray ks) e)/\lZ s'.heap (vs.take i) ks) vs 0 _ ⟨K2,WH,[],0,uD, .nil⟩ (λ j x s' hx hI=>?_) λ s' hI=>?_)
 ·obtain ⟨KI,ZE,ks,e,Yz,Vm⟩:=hI
  have hj:j < vs.length:=(List.getElem?_eq_some_iff.mp hx).1
  have hm:x∈vs:=List.mem_of_getElem? hx
  rw [Nat.zero_add] at Vm
  have hlk:=Vm.length
  rw [List.length_take] at hlk
  refine wpAny_bind (wpAny_attempt (wpAny_mono (key x hm s' KI) (λ k xQ hk=>?_) λ y y hF=>hF.elim))
  obtain ⟨Kk,kt⟩:=hk
  have T5:=Kk.k _ _ Yz
  have ea:(List.toArray ks).push k=List.toArray (ks++ [k]):=by simp
  dsimp only
  refine wpAny_bind (listUpdate_at T5 rfl ?_ (by rw [List.size_toArray,sizeLine_eq]; lia) (Nat.le_trans (Nat.le_of_eq (Array.size_push ..)) (by rw [List.size_toArray,sizeLine_eq]; lia)))
  refine wpAny_pure ⟨rfl,(KI.trans Kk).upd hSn _,((Heap.SameBut.update _ _ _).2 D ne).trans (Kk.k _ _ ZE),ks++ [k],_,by rw [<- ea]; exact get?_update_seq T5 (·.push k),?_⟩
  rw [Nat.zero_add,List.take_succ,hx]
  exact ((Vm.map λ v k h=>h.kp Kk.k).snoc kt).map λ v k h=>h.upd T5 _
 ·obtain ⟨KI,ZE,ks,e,Yz,Vm⟩:=hI
  rw [Nat.zero_add,List.take_length] at Vm
  (try dsimp only)
  refine wpAny_bind (listItems_at Yz rfl ?_)
  exact U2 KI hD hSn ne Ve Yz ZE Vm cmp fin
theorem EB {l:Addr} {kw:List (Str×Value)} {Q:Value->Shared->Prop} (hl:s.heap.IsList l vs.toArray) (Ve:vs.length < 64)
  (Wo:argsOk "sorted" ⟨[.ref l],kw⟩) (ZN: ∀x,argsOk "list.sort" ⟨[.ref x],kw⟩) (ht: ∀x,Builtin.«list.sort» ⟨[.ref x],kw⟩=ksk_tree x f false)
  (key: ∀v,v∈vs->∀s',lX s s'->wpAny (model prog w) A.in1.in1 (call f [v]) (λ k xQ=>lX s' xQ/\iT xQ.heap v k) (λ y y=>False) s')
  (cmp: ∀(v₁ v₂ k₁ k₂:Value) (s':Shared) (C:Bool->Shared->Prop),v₁∈vs->v₂∈vs->lX s s'->iT s'.heap v₁ k₁->iT s'.heap v₂ k₂->(∀b xQ,lX s' xQ->C b xQ)->wpAny (model prog w) A.in1.in1 (keyLt' (tuples' true) k₁ k₂) C (λ y y=>False) s')
  (fin: ∀(D:Addr) (m:Nat) (out:List Value) (s':Shared),out.Perm vs->lX s s'->s.heap.get? D=none->s'.heap.get? D=some (seqObj "list" out.toArray m)->Q (.ref D) s'):
  wpAny (model prog w) A (call (.builtin "sorted") [.ref l] kw) Q E s:=by
 refine call_function_entry_kw kind_sorted plain_sorted entry_sorted Wo ?_
 unfold Builtin.«sorted»
 refine wpAny_bind (m:=checkCount "sorted" 1 1 _) (wpAny_pure ?_)
 refine wpAny_bind (collect_list hl ?_ (by rw [sizeLine_eq]; lia))
 refine wpAny_bind (wpAny_newList ?_ (by rw [sizeLine_eq]; lia))
 have hsn:s.heap.get? s.heap.objs.size=none:=rP _
 have C6:((s.heap.push (seqObj "list" #[] 0)).update s.heap.objs.size (Obj.mapSeq (· ++vs.toArray))).objs.size=s.heap.objs.size+1:=by
  rw [Heap.size_update,Heap.size_push]
 have K0:lX s {s with heap:=((s.heap.push (seqObj "list" #[] 0)).update s.heap.objs.size (Obj.mapSeq (· ++vs.toArray))).push (seqObj "list" vs.toArray 0)}:=
  ((((lX.refl s).push (seqObj "list" #[] 0)).upd hsn (Obj.mapSeq (· ++vs.toArray))).push (seqObj "list" vs.toArray 0))
 have NQ:(((s.heap.push (seqObj "list" #[] 0)).update s.heap.objs.size (Obj.mapSeq (· ++vs.toArray))).push (seqObj "list" vs.toArray 0)).get? (s.heap.objs.size+1)=some (seqObj "list" vs.toArray 0):=by
  rw [<- C6]; exact Heap.get?_push_size _ rfl
 have Yp:s.heap.get? (s.heap.objs.size+1)=none:=by
  cases q:s.heap.get? (s.heap.objs.size+1) with
  | none=>rfl
  | some o=>exact absurd (Heap.lt_size q) (Nat.not_lt.mpr (Nat.le_succ _))
 show wpAny _ _ _ _ _ {s with heap:=((s.heap.push (seqObj "list" #[] 0)).update s.heap.objs.size (Obj.mapSeq (· ++vs.toArray))).push (seqObj "list" vs.toArray 0)}
 rw [C6]
 refine wpAny_bind (wpAny_holding (wpAny_call_entry_kw slot_list_sort ⟨_,NQ,rfl⟩ entry_list_sort ?_ (ZN _)))
 have Ru:=ht (s.heap.objs.size+1)
 show wpAny (model prog w) A.in1.in1 (Builtin.«list.sort» ⟨[.ref (s.heap.objs.size+1)],kw⟩) _ _ _
 rw [Ru]
 exact Qg K0 Yp Ve NQ key cmp λ m out s' hp K' h'=>⟨_,rfl,wpAny_pure ⟨_,rfl,fin _ m out s' hp K' Yp h'⟩⟩
end
end
section
open PySem PySem.W PyProof.Rows PySem.SeqAt
section
variable {prog:Program} {w:World} {A:Around} {E:Value->Shared->Prop} {s:Shared}
noncomputable def Ab (l:List (Value×Value)):Prop:= ∀p∈l,∃i t j u,p=(Value.int i t,Value.int j u)
theorem F4 {R:Option PySem.Fin×Unit->Shared->Prop} (h0:R (none,()) s) (h1: ∀c,R (some (.done (.ret (.bool c))),()) s): ∀(l:List (Value×Value)),Ab l->
  wpAny (model prog w) A (forIn l (none,()) λ (x:Value×Value) (__s:Option PySem.Fin×Unit)=>do
      let jO <- eqBool x.fst x.snd
      if (!jO)=true then do
        rule "tuple.compare.by-the-first-pair-that-differs"
        let jO <- richCompare CmpOp.Lt x.fst x.snd
        let jO <- ret jO
        pure (ForInStep.done (some jO,()))
       else pure (ForInStep.yield (none,()))) R E s
 | [],_=>by rw [List.forIn_nil]; exact wpAny_pure h0
 | p::l,hp=>by
  obtain ⟨i,t,j,u,rfl⟩:=hp p (.head _)
  rw [List.forIn_cons]
  refine wpAny_bind (wpAny_bind (wpAny_eqBool_int ?_))
  by_cases e:i=j
  ·subst e
   rw [beq_self_eq_true i]
   simp only [Bool.not_true,Bool.false_eq_true,if_false]
   refine wpAny_pure ?_
   exact F4 h0 h1 l λ q hq=>hp q (.tail _ hq)
  ·rw [beq_false_of_ne e]
   simp only [Bool.not_false,if_true]
   refine wpAny_bind (wpAny_rule (wpAny_bind (PyProof.Rows.lt_int (wpAny_bind (wpAny_pure (wpAny_pure (wpAny_pure (h1 _))))))))
theorem CZ: ∀{xs ys:List Value} {m n:List Int},IntsAre xs m->IntsAre ys n->Ab (xs.zip ys)
 | _,_,_,_, .nil,_=>λ x h=>by simp at h
 | _,_,_,_, .cons .., .nil=>λ x h=>by simp at h
 | _,_,_,_, .cons a t r, .cons b u r'=>λ p hp=>by
  rcases List.mem_cons.mp hp with rfl | hp
  ·exact ⟨_,_,_,_,rfl⟩
  ·exact CZ r r' p hp
theorem PQ {K:Value->Shared->Prop} {a b:Addr} {xs ys:Array Value} {m m':Nat} {ns ns':List Int}
  (ha:s.heap.get? a=some {cls:= .type "tuple",data:= .seq xs m}) (hb:s.heap.get? b=some {cls:= .type "tuple",data:= .seq ys m'}) (hx:IntsAre xs.toList ns) (hy:IntsAre ys.toList ns')
  (hu:A.units < cLine) (h: ∀c,K (.bool c) s):wpAny (model prog w) A (compareOp .Lt (.ref a) (.ref b)) K E s:=by
 show wpAny _ _ (richCompare .Lt (.ref a) (.ref b)) K E s
 have Ta:s.TypeIs (.ref a) "tuple" :=⟨_,ha,rfl⟩
 have Tb:s.TypeIs (.ref b) "tuple" :=⟨_,hb,rfl⟩
 refine wpAny_richCompare_same_room (op:= .Lt) Ta Tb PySem.F.slot_tuple_lt (wpAny_call_entry PySem.F.slot_tuple_lt Ta PySem.F.entry_tuple_lt ?_ (PySem.F.args_tuple_lt_2 _ _)) hu
 show wpAny _ _ (isInstance (.ref b) (.type "tuple") >>= _) _ _ s
 refine wpAny_bind (wpAny_isInstance Tb isSubtype_tuple_tuple ?_)
 simp only [Bool.not_true,Bool.false_eq_true,if_false]
 refine wpAny_bind (wpAny_tupleItemsOf ha rfl ?_)
 refine wpAny_bind (wpAny_tupleItemsOf hb rfl ?_)
 refine wpAny_bind (F4 ?_ (λ c=>?_) _ (CZ hx hy))
 ·exact wpAny_pure ⟨_,rfl,nofun,h _⟩
 ·exact wpAny_pure ⟨_,rfl,nofun,h c⟩
theorem pq: ∀{vs:List Value} {ns:List Int},IntsAre vs ns->ItemsAre (intKind prog w) ns vs
 | _,_, .nil=> .nil
 | _,_, .cons a t r=> .cons (intKind_is prog w a t) (pq r)
noncomputable def Ac (h:Heap) (v:Value):Prop:= ∃a xs m ns,v= .ref a/\h.get? a=some {cls:= .type "tuple",data:= .seq xs m}/\IntsAre xs.toList ns/\xs.size<=lim
theorem Ac.kp {h h':Heap} {v:Value} (x:Ac h v) (e: ∀b o,h.get? b=some o->h'.get? b=some o):Ac h' v:=let ⟨a,xs,m,ns,p,q,r⟩:=x; ⟨a,xs,m,ns,p,e _ _ q,r⟩
theorem U0 {v₁ v₂ k₁ k₂:Value} {C:Bool->Shared->Prop} (hu:A.units < cLine) (t1:Ac s.heap v₁) (t2:Ac s.heap v₂) (x1:iT s.heap v₁ k₁) (x2:iT s.heap v₂ k₂) (hC: ∀b,C b s):
  wpAny (model prog w) A (keyLt' (tuples' true) k₁ k₂) C E s:=by
 obtain ⟨a1,i1,tk1,m1,rfl,e1⟩:=x1
 obtain ⟨a2,i2,tk2,m2,rfl,e2⟩:=x2
 obtain ⟨b1,xs1,n1,ns1,rfl,f1,q1,_⟩:=t1
 obtain ⟨b2,xs2,n2,ns2,rfl,f2,q2,_⟩:=t2
 refine kat_lt e1 rfl e2 rfl ?_
 refine kat_cons (wpAny_eqBool_int (kat_go (λ x=>kat_yes (kat_cons (wpAny_eqBool_tuple (knd:=intKind prog w) hu ⟨_,_,_,f1,rfl,rfl,pq q1⟩ ⟨_,_,_,f2,rfl,rfl,pq q2⟩ (kat_go (λ x=>kat_yes (kat_nil (hC _))) λ x=>kat_no ?_)))) λ x=>kat_no ?_))
 ·exact kat_one _ _ (PQ f1 f2 q1 q2 hu λ c=>hC c)
 ·exact oneLt_int (hC _)
end
end
section
open PySem PySem.W PyProof.Rows PySem.SeqAt
noncomputable def MT:Str:=Str.ofString "row"
noncomputable def Qd:Str:=Str.ofString "len"
noncomputable def pA (p:Pos):Arguments:={posonlyargs:= [],args:= [{arg:=MT,annotation:=none,pos:=p}],vararg:=none,kwonlyargs:= [],kw_defaults:= [],kwarg:=none,defaults:= []}
noncomputable def qu:Scope:={kind:= .function,names:= [(MT, .local),(Qd, .globalImplicit)],isGenerator:=false,isCoroutine:=false}
noncomputable def D8 (p1 p2 p3 p4 p5:Pos) (k:Nat):PySem.Expr:= .Tuple [.Call (.Name Qd p1) [.Name MT p2] [] p3, .Name MT p4] k p5
section
variable {prog:Program} {w:World} {A:Around} {E:Value->Shared->Prop} {s:Shared}
theorem LM {q c':Addr} {name:Str} {p1 p2 p3 p4 p5 p6:Pos} {k:Nat} {pm Ow v:Value} {mg mb:Str->Option Value} (hq:s.heap.get? q=some (kla_obj name Bv (pA p6) (D8 p1 p2 p3 p4 p5 k) qu [] pm c' Ow)) (Ks:s.heap.CodeRec (.ref c') Bv)
  (hg:s.heap.Ns mainGlobals mg) (hm:mg Qd=none) (hb:s.heap.Ns builtinsNs mb) (FC:mb Qd=some (.builtin "len")) (bz:s.heap.NoLimit) (r6:A.depth < recursionLimit) (tv:Ac s.heap v):
  wpAny (model prog w) A (call (.ref q) [v]) (λ k xQ=>lX s xQ/\iT xQ.heap v k) E s:=by
 refine wpAny_call (kla_callFunE r6 hq rfl rfl rfl rfl Ks ?_)
 have ZP:bindArgs (kla_fn name Bv (pA p6) (D8 p1 p2 p3 p4 p5 k) qu [] pm (.ref c') Ow) ⟨[v],[]⟩=pure [(MT,v)]:=by with_unfolding_all rfl
 rw [ZP]
 refine wpAny_pure (wpAny_newFunctionEnv (show ∀x∈qu.names,x.2≠ .cell by decide) (λ y hy=>by cases List.mem_singleton.mp hy; rfl) (λ h₁ xl Pb=>⟨bz.fresh _ Pb,?_⟩) rfl)
 have hk₁: ∀b o,s.heap.get? b=some o->h₁.get? b=some o:=λ b o e=>Pb.extBut b o (Nat.ne_of_lt (Heap.lt_size e)) (Heap.get?_push_of_some _ e)
 obtain ⟨a,xs,m,ns,rfl,ha,hi,hl⟩:=tv
 have KL:sizeLine=16777216:=rfl
 have Z9:lim=1000000:=rfl
 refine kla_codeExpr (wpAny_Tuple ?_)
 refine Calls.spliced_cons (wpAny_Call_NameR (wpAny_Name ?_ (by decide)))
 rw [loadName_read rfl rfl]
 refine Calls.loadGlobal_builtin (hg.keeps hk₁) hm (hb.keeps hk₁) FC ?_
 refine PyProof.Rows.callWith_builtin1 (Calls.spliced_cons (wpAny_Name (wpAny_loadName_local rfl rfl xl rfl ?_) (by decide))) rfl rfl
 refine Calls.spliced_nil ?_
 refine PyProof.Rows.len_tuple ⟨_,hk₁ _ _ ha,rfl,_,rfl⟩ (by lia) ?_
 refine Calls.spliced_cons (wpAny_Name (wpAny_loadName_local rfl rfl xl rfl ?_) (by decide))
 refine Calls.spliced_nil ⟨by show 2<=sizeLine; lia,?_⟩
 refine ⟨⟨λ b o e=>Heap.get?_push_of_some _ (hk₁ b o e),rfl,rfl⟩,_,_,_,_,rfl,Heap.get?_push_size _ rfl⟩
end
set_option tactic.hygienic true in
theorem Dh {pos:Pos} {a b:Int} {t u:Tok} {c cv:Value} (l:List Value) (h:TriplesOk l) (e:codeAmong pos (l++ [.int a t, .int b u,c])=some cv):codeAmong pos l=some cv\/cv=c:=by
 fun_induction TriplesOk l with
 | case1=>
  simp only [List.nil_append,codeAmong] at e
  split at e
  ·cases e; exact .inr rfl
  ·cases e
 | case2 a' t' b' u' x rest ih=>
  simp only [List.cons_append,codeAmong] at e ⊢
  split at e
  ·rename_i hc; rw [if_pos hc]; exact .inl e
  ·rename_i hc; rw [if_neg hc]; exact ih h e
 | case3 l h1 h2=>exact h.elim
structure E5 (G:Pg) (mg:Str->Option Value) (cx:Cx):Prop where
 bat: ∀h:Heap,(∀b o,G.B.get? b=some o->h.get? b=some o)->h.BuiltinsAt mg G.P
 hd: ∃c,cx.code= .ref c/\CodeHd G.B c G.P
 q:cx.qual++ "<lambda>" =Bv
 ne:mainGlobals≠G.P
section
variable {G:Pg} {cx dh:Cx} {g:Gm} {env:Env} {σ:St} {s:Shared} {n:Nat} {A:Around} {Q:PV} {QF:PF} {C:CT} {K:Frag} {mg mb:Str->Option Value}
theorem Wd.EH {H:Hp} (W:Wd G g H s) {h':Heap} {tk:Nat} {c':Addr} {oc:Obj} {NZ:Array Value} (hx:Heap.ExtBut G.P s.heap h') (hf:g c'= .free) (hc:h'.get? c'=some oc) (hP:h'.get? G.P=some (tabObj NZ)) (ht:tW (setG g c' (.fz oc)) NZ):
  Wd G (setG g c' (.fz oc)) H {s with heap:=h',toks:=tk}:=by
 have back: ∀{b:Addr} {t':Tg},setG g c' (.fz oc) b=t'->(∀o',t'≠ .fz o')->g b=t':=λ {b t'} e h1=>by
  by_cases q:b=c'
  ·subst q; rw [aD] at e; exact absurd e.symm (h1 oc)
  ·rw [aG g _ q] at e; exact e
 have nP: ∀{b:Addr} {t':Tg},g b=t'->t'≠ .tab->b≠G.P:=λ e h q=>h (by rw [<- e,q]; exact W.tab)
 have e1:Ex g (setG g c' (.fz oc)):=Ex.set hf
 exact {
  live:=λ b n=>by
   by_cases q:b=c'
   ·subst q; exact ⟨_,hc⟩
   ·rw [aG g _ q] at n
    by_cases p:b=G.P
    ·subst p; exact ⟨_,hP⟩
    ·obtain ⟨o,e⟩:=W.live b n; exact ⟨o,hx b o p e⟩
  fz:=λ b o e=>by
   by_cases q:b=c'
   ·subst q; rw [aD] at e; cases e; exact hc
   ·rw [aG g _ q] at e; exact hx b o (nP e Tg.noConfusion) (W.fz b o e)
  kp:=λ b o e=>let e:=back e (λ x=>Tg.noConfusion); hx b o (nP e Tg.noConfusion) (W.kp b o e)
  ag:=λ b o e=>let e:=back e (λ x=>Tg.noConfusion); hx b o (nP e Tg.noConfusion) (W.ag b o e)
  base:=λ b o e=>by
   have:=W.base b o e
   rw [e1.ex b (by rw [this]; exact Tg.noConfusion)]; exact this
  objs:=λ b o e=>((W.objs b o e).heap (h':=h') λ d ob p r=>hx d ob (by
   rcases p with ⟨_,p⟩ | ⟨_,p⟩ | ⟨_,p⟩ <;> exact nP p Tg.noConfusion) r).le e1.le λ m=>(e1.ex b (by rw [m]; exact Tg.noConfusion)).trans m
  all:=λ b h=>W.all b (by
   rcases h with h | ⟨o,h⟩
   ·exact .inl (back h λ x=>Tg.noConfusion)
   ·exact .inr ⟨o,back h λ x=>Tg.noConfusion⟩)
  gN:=λ b a k e=>W.gN b a k (back e λ x=>Tg.noConfusion)
  one:=λ b b' a k p q=>W.one b b' a k (back p λ x=>Tg.noConfusion) (back q λ x=>Tg.noConfusion)
  tab:=(e1.ex _ (by rw [W.tab]; exact Tg.noConfusion)).trans W.tab
  tabs:=⟨NZ,hP,ht⟩
  gens:=W.gens
  os:=W.os}
theorem At.EH (a:At G cx g env σ s) {h':Heap} {tk:Nat} {c':Addr} {oc:Obj} {NZ:Array Value} (hx:Heap.ExtBut G.P s.heap h') (hf:g c'= .free) (hc:h'.get? c'=some oc) (hP:h'.get? G.P=some (tabObj NZ)) (ht:tW (setG g c' (.fz oc)) NZ):
  At G cx (setG g c' (.fz oc)) env σ {s with heap:=h',toks:=tk}:=
 ⟨a.wd.EH hx hf hc hP ht,(a.fm.heap λ b o e h=>hx b o (λ q=>by
  have t:=a.wd.tab
  rw [<- q] at t
  rcases e with e | ⟨_,e⟩ <;> rw [t] at e <;> cases e) h).ex (Ex.set hf)⟩
theorem LN {p1 p2 p3 p4 p5 p6 pos:Pos} {k:Nat} {P:Value->Shared->Prop} (O:GL G K mg mb) (L:E5 G mg cx) (a:At G cx g env σ s)
  (h: ∀(q c':Addr) (Ow:Value) (g':Gm) (s':Shared),Ex g g'->At G cx g' env σ s'->s'.heap.get? q=some (kla_obj "<lambda>" Bv (pA p6) (D8 p1 p2 p3 p4 p5 k) qu [] ((mg "__name__").getD .none) c' Ow)->s'.heap.CodeRec (.ref c') Bv->P (.ref q) s'):
  wpAny (model G.prog G.w) A (eval (.Lambda (pA p6) (D8 p1 p2 p3 p4 p5 k) qu pos) env) P cn s:=by
 refine kla_eval rfl ?_
 rw [show env.qual++ "<lambda>" =Bv by rw [a.fm.qual]; exact L.q]
 obtain ⟨c,hc,hC⟩:=L.hd
 obtain ⟨ps,FD,ht⟩:=a.wd.tabs
 have wo:closureFor qu env=pure []:=closureFor_none (by decide)
 cases Ja:codeAmong pos ps.toList with
 | none=>
  refine kla_makeFunction wo a.fm.globals (O.g.keeps a.keeps) (a.fm.code.trans hc) (hC.keeps a.keeps) FD ht.1 Ja L.ne (L.bat _ a.keeps) λ c' Ow h' tk hx h1 h2 Pa htb=>?_
  obtain ⟨c₂,oc,vs,t,e2,hoc,hd,hv⟩:=id Pa
  cases e2
  have hf:g c'= .free:=a.wd.fresh (by
   cases q:s.heap.get? c' with
   | none=>rfl
   | some o=>exact absurd (Heap.lt_size q) (Nat.not_lt.mpr h1))
  have hT:tW (setG g c' (.fz oc)) (ps++ #[rawInt pos.line,rawInt pos.col, .ref c']):=by
   have e:(ps++ #[rawInt pos.line,rawInt pos.col, .ref c']).toList=ps.toList++ [rawInt pos.line,rawInt pos.col, .ref c']:=by simp
   refine ⟨by rw [e]; exact TriplesOk_snoc _ _ _ _ ht.1,λ pos' cv h=>?_⟩
   rw [e] at h
   rcases Dh _ ht.1 h with h | rfl
   ·exact (ht.le (Ex.set hf).le).2 pos' cv h
   ·exact ⟨c',oc,vs,t,rfl,aD ..,hd,hv⟩
  have a1:=a.EH (tk:=tk) hx hf hoc htb hT
  exact h _ c' Ow _ _ (Ex.set hf) (a1.push _) (Heap.get?_push_size _ rfl) (Pa.keeps λ b o e=>Heap.get?_push_of_some _ e)
 | some cv=>
  obtain ⟨c',oc,vs,t,rfl,hg,hd,hv⟩:=ht.2 pos cv Ja
  refine kla_makeFunctionHit wo a.fm.globals (O.g.keeps a.keeps) (a.fm.code.trans hc) (hC.keeps a.keeps) FD ht.1 Ja (L.bat _ a.keeps) λ Ow h' tk hk C6=>?_
  have a1:At G cx g env σ {s with heap:=h',toks:=tk}:=a.ext hk
  exact h _ c' Ow g _ (.refl g) (a1.push _) (Heap.get?_push_size _ rfl) ⟨c',oc,vs,t,rfl,Heap.get?_push_of_some _ (hk _ _ (a.wd.fz _ _ hg)),hd,hv⟩
theorem Vals.perm: ∀{vs us:List Value},vs.Perm us->∀{xs:List V},Vals g xs us->∃zs,zs.Perm xs/\Vals g zs vs:=by
 intro vs us p
 induction p with
 | nil=>intro xs h; cases h; exact ⟨[], .refl _, .nil⟩
 | cons x _ ih=>
  intro xs h
  cases h with
  | cons a r=>
   obtain ⟨zs,h1,h2⟩:=ih r
   exact ⟨_,h1.cons _, .cons a h2⟩
 | swap x y l=>
  intro xs h
  cases h with
  | cons a r=>
   cases r with
   | cons b r=>exact ⟨_,List.Perm.swap _ _ _, .cons b (.cons a r)⟩
 | trans _ _ ih1 ih2=>
  intro xs h
  obtain ⟨zs,h1,h2⟩:=ih2 h
  obtain ⟨ws,h3,h4⟩:=ih1 h2
  exact ⟨ws,h3.trans h1,h4⟩
end
end
section
open PySem PySem.W PyProof.Rows PySem.SeqAt
section
variable {G:Pg} {cx dh:Cx} {g:Gm} {env:Env} {σ:St} {s:Shared} {n:Nat} {A:Around} {Q:PV} {QF:PF} {C:CT} {K:Frag} {mg mb:Str->Option Value}
noncomputable def UY:Str:=Str.ofString "key"
theorem S1 {h h':Heap} (x:h.NoLimit) (k: ∀b o,h.get? b=some o->h'.get? b=some o):h'.NoLimit:=x.keeps k
set_option tactic.hygienic true in
theorem IK {e:E} {x:PySem.Expr} {p p1 p2 p3 p4 p5 p6 pl pk pos:Pos} {k:Nat} (O:GL G K mg mb) (L:E5 G mg cx) (hn:cx.names.lookup (dQ .sorted)=some .globalImplicit) (h:SE G n C cx e x)
  (hx: ∀env,starEach [x] env= [(false,eval x env)]):
  SE G n C cx (.Cz e) (.Call (.Name (dQ .sorted) p) [x] [⟨some UY, .Lambda (pA p6) (D8 p1 p2 p3 p4 p5 k) qu pl,pk⟩] pos):=λ A env g σ s Q R a hw=>by
 show wpAny _ A (do callWith pos (<- eval (.Name (dQ .sorted) p) env) [] (backTo pos (starEach [x] env)) (backToKw pos (keywordEach [⟨some UY, .Lambda (pA p6) (D8 p1 p2 p3 p4 p5 k) qu pl,pk⟩] env))) _ cn s
 refine wpAny_bind (Sp O hn a ?_)
 have e1:backTo pos (starEach [x] env)=(false,eval x env)::backTo pos (starEach [] env):=by rw [hx]; rfl
 refine PyProof.Rows.callWith_kw ?_ e1 (by rw [e1]; rfl) rfl rfl
 rw [e1]
 refine Calls.spliced_cons (bR (h A env g σ s _ R a hw) λ u s1 g1 σ1 v e1 a1 ou vl q1=>?_)
 refine Calls.spliced_nil ?_
 show wpAny _ A (evalAll [do let v <- eval (.Lambda (pA p6) (D8 p1 p2 p3 p4 p5 k) qu pl) env; standAt pos; pure v]) _ cn s1
 unfold evalAll
 refine wpAny_bind (wpAny_bind (LN O L a1 λ q c' Ow g2 s2 ex2 a2 hq Pa=>wpAny_bind (wpAny_standAt (wpAny_pure ?_))))
 refine wpAny_bind (wpAny_holding (wpAny_pure ?_))
 refine wpAny_pure ?_
 show wpAny _ A (call (.builtin "sorted") [u] [(UY, .ref q)]) _ cn s2
 obtain ⟨b,xs,rfl,hb,q1⟩:=UQ q1
 obtain ⟨⟨hlen,Pj⟩,hz⟩:=q1
 cases vl with
 | ref b lv=>
 have ob:=a2.wd.objs b _ hb
 obtain ⟨_,its,⟨mm,hp⟩,vs,YC⟩:=ob
 have sL:its.toList.length < 64:=by rw [<- vs.length]; exact hlen
 have hits:its=its.toList.toArray:=by simp
 have hIs:s2.heap.IsList b its.toList.toArray:=⟨_,hits▸hp,rfl,mm,by simp⟩
 have ti: ∀v,v∈its.toList->Ac s2.heap v:=by
  have key: ∀{ys:List V} {us:List Value},Vals g2 ys us->(∀x∈ys,∃zs,x=V.tup zs/\allInts zs=true/\zs.length<=lim)->∀v,v∈us->Ac s2.heap v:=by
   intro ys
   induction ys with
   | nil=>intro us hv _ v hm; cases hv; cases hm
   | cons y ys ih=>
    intro us hv hy v hm
    cases hv with
    | cons va hr=>
    rcases List.mem_cons.mp hm with rfl | hm
    ·obtain ⟨zs,rfl,h1,h2⟩:=hy _ (.head _)
     cases va with
     | tup f vz hlz=>
      obtain ⟨ns,hi,_⟩:=ints_of vz h1
      exact ⟨_,_,_,ns,rfl,a2.wd.fz _ _ f,hi,hlz⟩
    ·exact ih hr (λ x hx=>hy x (.tail _ hx)) v hm
  exact key vs Pj
 have hrl:recursionLimit=1000:=rfl
 have wo:(cLine:Nat)=9900:=rfl
 have hRd:=R.d
 have hRu:=R.u
 have Kr:=a2.keeps
 refine EB (f:= .ref q) (vs:=its.toList) hIs sL (ksk_s1 _ _) (λ x=>ksk_l1 _ _) (λ x=>ksk_t1 _ _) (λ v hv s' K'=>?_) (λ v₁ v₂ k₁ k₂ s' C' m1 m2 K' t1 t2 hC=>?_) λ D m out s' KG K' Yp hD=>?_
 ·refine LM (K'.k _ _ hq) (Pa.keeps K'.k) (O.g.keeps λ b o e=>K'.k _ _ (Kr b o e)) (O.bi .len).1 (O.b.keeps λ b o e=>K'.k _ _ (Kr b o e)) (O.bi .len).2 (O.lim.keeps λ b o e=>K'.k _ _ (Kr b o e)) ?_ ((ti v hv).kp K'.k)
  show A.depth < 1000
  lia
 ·refine U0 ?_ ((ti _ m1).kp K'.k) ((ti _ m2).kp K'.k) t1 t2 λ b=>hC b s' (.refl s')
  show A.units+1+1 < 9900
  lia
 ·have a3:At G cx g2 env σ1 s':=a2.keep (λ b o z e=>K'.k b o e) K'.g K'.o
  have hf:g2 D= .free:=a2.wd.fresh Yp
  obtain ⟨zs,hzp,hzv⟩:=Vals.perm KG vs
  exact aE.up (e1.trans ex2) ou (aE.list (its:=out.toArray) a3 hf ⟨m,hD⟩ (by simpa using hzv) (by rw [hzp.length_eq]; exact YC) (hz zs hzp))
end
end
section
open PySem PySem.W PyProof.Rows PySem.SeqAt
structure Ze (B:Heap) (addr:Addr) (fn:Fn) (cx:Cx) (body:List Stmt) (dv:Value):Prop where
 ex:FnX B addr fn.params cx body λ fd ps=>(∀x∈cx.names,x.2≠ .cell)/\∀(s:Shared) (us:List Value),(∀b o,B.get? b=some o->s.heap.get? b=some o)->us.length+1=ps.length->BindsTo s fd ⟨us,[]⟩ (ps.zip (us++ [dv]))
 mine: ∀x∈cx.mine,cx.names.lookup x=some .local\/(cx.names.lookup x=some .cell/\∀k,((cellsFrom k cx.names []).lookup x).isSome=true)
section
variable {prog:Program} {w:World} {A:Around} {s:Shared}
theorem TB {B:Heap} {addr:Addr} {fn:Fn} {cx:Cx} {body:List Stmt} {dv:Value} {us:List Value} {R:Result->Shared->Prop} (F:Ze B addr fn cx body dv) (hB: ∀b o,B.get? b=some o->s.heap.get? b=some o) (bz:B.NoLimit)
  (r6:A.depth < recursionLimit) (hn:us.length+1=fn.params)
  (k: ∀gg s₁ ps,ps.length=fn.params->(∀(i:Nat) (x:Str),ps[i]?=some x->cx.at i x/\x∈cx.mine)->(∀(i:Nat) (x:Str),i < ps.length->cx.at i x->ps[i]?=some x)->Entry cx ps (us++ [dv]) s gg s₁->
   wpAny (model prog w) (A.deeper gg) (execs body gg) (λ f s'=>R (.ok (.ret (match f with | .ret v=>v | _=> .none))) s') cn s₁):codeAny (model prog w) A (.call (.ref addr) ⟨us,[]⟩) R s:=by
 obtain ⟨o,fd,ps,h1,h2,h3,h4,h5,h6,h7,hc,h8,h9,OW,DN,TK,TL,hb,NM,TN⟩:=F.ex
 exact JZ F.mine hB bz r6 h1 h2 h3 h4 h5 h6 h7 hc h8 h9 OW DN TL hb.1 (hb.2 s us hB (hn.trans TK.symm)) NM λ gg s₁=>k gg s₁ ps TK NM TN
end
section
variable {G:Pg} {cx:Cx} {g:Gm} {env:Env} {σ:St} {s:Shared} {n:Nat} {A:Around} {Q:PV} {QF:PF} {C:CT} {K:Frag} {mg mb:Str->Option Value} {F:Nat->Option Fn} {addr:Nat->Addr}
noncomputable def EZ (G:Pg) (F:Nat->Option Fn) (addr:Nat->Addr) (n:Nat) (C:CT) (i:Nat):Prop:=
 ∀(vs:List V) (us:List Value) (Q:V->Hp->Prop) (H:Hp) (A:Around) (g:Gm) (s:Shared),cJ A n->Wd G g H s->Vals g vs us->(∀fn,F i=some fn->us.length+1=fn.params)->C i vs Q H->
  codeAny (model G.prog G.w) A (.call (.ref (addr i)) ⟨us,[]⟩) (λ r s'=> ∃v,r= .ok (.ret v)/\∃g' H' x,Ex g g'/\Wd G g' H' s'/\Val g' x v/\Q x H') s
theorem Dm {i:Nat}:EZ G F addr 0 (au F 0) i:=λ x x x x x x x x x x x h=>h.elim
theorem Dl {i:Nat} (bz:G.B.NoLimit) (top: ∃o,G.B.get? (G.B.objs.size - 1)=some o)
  (D: ∀fn,F i=some fn->∃cx body x dv,fn.dflt= [x]/\(∀g,Val g x dv)/\Ze G.B (addr i) fn cx body dv/\c6 G n (au F n) cx fn.body body):EZ G F addr (n+1) (au F (n+1)) i:=by
 intro vs us Q H A g s R W vl hlen hc
 have hrl:recursionLimit=1000:=rfl
 have hd:=R.d
 have hu:=R.u
 refine ub hc λ fn l hf sL hc=>?_
 have hl:=hlen fn hf
 obtain ⟨cx,body,x,dv,hdf,hdv,FO,SB⟩:=D fn hf
 have hvl:vs.length=us.length:=vl.length
 have:l=(vs++ [x]).map some++List.replicate (fn.names - fn.params) .none:=by
  unfold fW at sL
  split at sL
  ·cases sL
   have:fn.dflt.length+vs.length - fn.params=0:=by rw [hdf]; simp; lia
   rw [this,hdf,List.drop_zero]
  ·cases sL
 subst this
 refine TB FO (λ b o e=>W.fz b o (W.base b o e)) bz (by lia) hl λ gg s₁ ps FD h1 h2 E=>?_
 obtain ⟨g',ex,a⟩:=entry_at (k:=fn.names - fn.params) W (Wd.size (σ:=⟨[],H⟩) W top) E (vl.append (Vals.one (hdv g))) (by simp; lia) h1 h2
 have R':cJ (A.deeper gg) n:=⟨R.h,by show A.depth+1+n < 900; lia,by show A.units+3+3*n < 9000; lia⟩
 refine xW (SB (A.deeper gg) gg g' _ s₁ _ R' a hc) λ f s' g2 σ2 fl e2 a2 r2 q2=>?_
 have ee:=ex.trans e2
 cases r2 with
 | next=>exact ⟨_,rfl,g2,σ2.H, .none,ee,a2.wd, .none,q2⟩
 | ret v=>exact ⟨_,rfl,g2,σ2.H,_,ee,a2.wd,v,q2⟩
 | brk=>exact q2.elim
 | cont=>exact q2.elim
theorem IE {i:Nat} {es:List E} {x:Str} {xs:List Expr} {p pos:Pos} (O:GL G K mg mb) (CS:EZ G F addr n C i) (hm:mg x=some (.ref (addr i))) (hf: ∃o fd,G.B.get? (addr i)=some o/\o.data= .func fd)
  (hd:(x == ("__debug__" :Str))=false) (hx:cx.names.lookup x=some .globalImplicit) (h:E6 G n C cx es xs) (hl: ∀fn,F i=some fn->xs.length+1=fn.params) (hp: ∀env,(backTo pos (starEach xs env)).any (·.1)=false):
  SE G n C cx (.call i es) (.Call (.Name x p) xs [] pos):=λ A env g σ s Q R a hw=>by
 obtain ⟨o,fd,h1,h2⟩:=hf
 refine wpAny_Call_NameR (LV O.g hm hd hx a (Calls.callWith_function (o:=o) (fd:=fd) (yf (hp env) ?_)))
 refine sv (h A env g σ s pos _ R a hw) λ us s1 g1 σ1 vs e1 a1 ou v1 q1=>⟨⟨a1.keeps _ _ h1,h2⟩,?_⟩
 refine up1 e1 ou ?_
 refine wpAny_call (codeAny_mono (CS vs us _ σ1.H A (dY g1 s1.heap) s1 R a1.wd.nU (v1.le (Le.keep g1 s1.heap)) (λ fn TY=>by rw [<- v1.length,q1.1]; exact hl fn TY) q1.2) λ r s' h=>?_)
 obtain ⟨v,rfl,g',H',x,e,W',vx,q⟩:=h
 have k:=Kept.of a1.wd e
 exact ⟨i9 g1 g',⟨σ1.loc,H'⟩,x,Ex.back k,a1.backTo k W', .refl _ _,vx.le (Le.back k λ b c=>a1.wd.live b (by rw [c]; exact Tg.noConfusion)),q⟩
end
end
section
open PySem PySem.W PyProof.Rows PySem.SeqAt
noncomputable def vJ:List (Option Str)->Bool
 | []=>true
 | none::r=>vJ r
 | some x::r=>!r.contains (some x) && vJ r
theorem rT: ∀{vis:List (Option Str)},vJ vis=true->∀(i j:Nat) (x:Str),vis[i]?=some (some x)->vis[j]?=some (some x)->i=j
 | [],_,i,j,x,h,_=>by simp at h
 | none::r,hv,0,j,x,h,_=>by simp at h
 | none::r,hv,i+1,0,x,_,h=>by simp at h
 | none::r,hv,i+1,j+1,x,h,h'=>by rw [rT (vis:=r) hv i j x (by simpa using h) (by simpa using h')]
 | some y::r,hv,0,0,x,h,h'=>rfl
 | some y::r,hv,0,j+1,x,h,h'=>by
  replace hv:(!r.contains (some y) && vJ r)=true:=hv
  simp only [Bool.and_eq_true,Bool.not_eq_true'] at hv
  have e:y=x:=by simpa using h
  have:some x∈r:=List.mem_of_getElem? (i:=j) (by simpa using h')
  have:=hv.1; simp_all
 | some y::r,hv,i+1,0,x,h,h'=>by
  replace hv:(!r.contains (some y) && vJ r)=true:=hv
  simp only [Bool.and_eq_true,Bool.not_eq_true'] at hv
  have e:y=x:=by simpa using h'
  have:some x∈r:=List.mem_of_getElem? (i:=i) (by simpa using h)
  have:=hv.1; simp_all
 | some y::r,hv,i+1,j+1,x,h,h'=>by
  replace hv:(!r.contains (some y) && vJ r)=true:=hv
  simp only [Bool.and_eq_true] at hv
  rw [rT hv.2 i j x (by simpa using h) (by simpa using h')]
noncomputable def JR (cx:Cx):Bool:=vJ cx.vis && cx.vis.all (λ o=>match o with | some x=>!(x == ("__debug__" :Str)) && !(x == ("__classdict__" :Str)) | none=>true) && cx.z.all λ j=>(cx.vis[j]?).join.isNone
theorem bE {cx:Cx} (h:JR cx=true):aP cx:=by
 simp only [JR,Bool.and_eq_true] at h
 obtain ⟨⟨h1,h2⟩,h3⟩:=h
 refine ⟨rT h1,λ i x hx=>?_,λ i x hx hz=>?_⟩
 ·have:=List.all_eq_true.mp h2 _ (List.mem_of_getElem? hx)
  simpa using this
 ·have:=List.all_eq_true.mp h3 i hz
  rw [show cx.vis[i]?=some (some x) from hx] at this
  simp at this
noncomputable def uU:List (Str×NameKind)->Bool
 | []=>true
 | p::r=>!(r.any λ q=>q.1 == p.1) && uU r
theorem Sq: ∀{l:List (Str×NameKind)},uU l=true->∀(j:Nat) {x:Str} {k:NameKind},l[j]?=some (x,k)->l.lookup x=some k
 | [],_,j,x,k,h=>by simp at h
 | p::r,hn,0,x,k,h=>by
  have e:p=(x,k):=by simpa using h
  subst e; simp
 | p::r,hn,j+1,x,k,h=>by
  replace hn:(!(r.any λ q=>q.1 == p.1) && uU r)=true:=hn
  simp only [Bool.and_eq_true,Bool.not_eq_true'] at hn
  have hm:(x,k)∈r:=List.mem_of_getElem? (i:=j) (by simpa using h)
  have:(x == p.1)=false:=by
   cases q:x == p.1 with
   | false=>rfl
   | true=>
    have e:x=p.1:=by simpa using q
    have:(r.any λ q=>q.1 == p.1)=true:=List.any_eq_true.mpr ⟨(x,k),hm,by simp [e]⟩
    rw [hn.1] at this; cases this
  obtain ⟨y,ky⟩:=p
  rw [List.lookup_cons,this]
  exact Sq hn.2 j (by simpa using h)
theorem lk {cx:Cx} (hn:uU cx.names=true) (j:Nat) {x:Str} {k:NameKind} (h:cx.names[j]?=some (x,k)):cx.names.lookup x=some k:=Sq hn j h
theorem mm {cx:Cx} (j:Nat) {x:Str} (h:cx.mine[j]?=some x):x∈cx.mine:=List.mem_of_getElem? h
noncomputable def F9 (cx:Cx):Bool:=cx.mine.all λ x=>cx.names.lookup x == some .local || cx.names.lookup x == some .cell
theorem Ga {cx:Cx} (h:F9 cx=true): ∀x∈cx.mine,cx.names.lookup x=some .local\/(cx.names.lookup x=some .cell/\∀k,((cellsFrom k cx.names []).lookup x).isSome=true):=λ x hx=>by
 have:=List.all_eq_true.mp h x hx
 simp only [Bool.or_eq_true,beq_iff_eq] at this
 rcases this with e | e
 ·exact .inl e
 ·exact .inr ⟨e,λ k=>cellsFrom_some _ k [] (.inl e)⟩
noncomputable def Ra (cx dh:Cx) (names:List (Str×NameKind)) (k i:Nat):Bool:=match dh.vis[i]? with
  | some (some y)=>i == k || (cx.vis[i]? == some (some y) && names.contains (y, .free) && dh.names.lookup y == some .cell && !names.contains (y, .cell))
  | _=>true
noncomputable def yq (cx dh:Cx) (names:List (Str×NameKind)) (k:Nat) (x:Str):Bool:=
 names.all (λ y=>if y.2 == .local then names.lookup y.1 == some .local else true) && (names.lookup x == some .local || names.lookup x == some .cell) &&
 names.all (λ y=>if y.2 == .free then cx.mine.contains y.1 && cx.names.lookup y.1 == some .cell else true) &&
 (List.range dh.vis.length).all (Ra cx dh names k) && (dh.names.lookup x == names.lookup x) && cx.z.contains k && dh.z.all λ j=>cx.z.contains j
theorem G3 {cx dh:Cx} {scope:Scope} {k:Nat} {x:Str} (h:yq cx dh scope.names k x=true) (h1:scope.kind= .function)
  (h2:dh.names=scope.names.map λ p=>if (p.2 == NameKind.free && cx.names.lookup p.1 == some NameKind.cell)=true then (p.1,NameKind.cell) else (p.1,p.2)) (h3:dh.at k x) (h4:dh.mine= [x]) (h5:dh.code=cx.code/\dh.qual=cx.qual) (ok:aP dh) (out:aP cx):jl cx dh scope k x:=by
 simp only [yq,Bool.and_eq_true] at h
 obtain ⟨⟨⟨⟨⟨⟨a1,a2⟩,a3⟩,a4⟩,a5⟩,a6⟩,a7⟩:=h
 refine ⟨h1,λ y hy e=>?_,?_,λ y hy e=>?_,h2,h3,λ i y hy hi=>?_,h4,h5,by simpa using a5,⟨by simpa using a6,λ j hj=>by simpa using List.all_eq_true.mp a7 j hj⟩,ok,out⟩
 ·have:=List.all_eq_true.mp a1 y hy
  rw [e] at this; simpa using this
 ·simp only [Bool.or_eq_true,beq_iff_eq] at a2
  exact a2.imp id λ e=>⟨e,λ j=>cellsFrom_some _ j [] (.inl e)⟩
 ·have:=List.all_eq_true.mp a3 y hy
  rw [e] at this; simpa using this
 ·have hl:i < dh.vis.length:=(List.getElem?_eq_some_iff.mp hy).1
  have:=List.all_eq_true.mp a4 i (List.mem_range.mpr hl)
  unfold Ra at this
  rw [show dh.vis[i]?=some (some y) from hy] at this
  simp only [Bool.or_eq_true,beq_iff_eq,Bool.and_eq_true,Bool.not_eq_true'] at this
  rcases this with e | ⟨⟨⟨b1,b2⟩,b3⟩,b4⟩
  ·exact absurd e hi
  ·refine ⟨b1,by simpa using b2,b3,λ j=>?_⟩
   cases q:(cellsFrom j scope.names []).lookup y with
   | none=>rfl
   | some c=>
    have:=wz (PySem.mem_of_lookup q)
    simp_all
end
section
open PySem PySem.W PyProof.Rows
noncomputable def aA (n:Nat):Option Stmt:=df Challenge.pw_nn0329_01.main.body n
noncomputable def jK (n:Nat):Option Stmt:=df (clsOf (aA 2)) n
noncomputable def SG:Option Stmt->List (Str×NameKind)
 | some (.FunctionDef _ _ _ _ _ _ s _ _ _)=>s.names
 | _=> []
noncomputable def eR (st:Option Stmt) (z:List Nat) (c:Addr) (q:Str):Cx:=
 let l:=(SG st).filterMap λ p=>if p.2 == .local || p.2 == .cell then some p.1 else none
 ⟨SG st,z.foldl (λ v j=>v.take j++none::v.drop j) (l.map some),l,z, .ref c,q++ ".<locals>."⟩
noncomputable def ki:Cx:=eR (jK 1) [] 41 (Str.ofString "Aig.add_input")
theorem zH:aP ki:=bE (by decide+kernel)
noncomputable def mw:List Stmt:=bodyOf (jK 1)
noncomputable def jt:Cx:=eR (jK 2) [] 48 (Str.ofString "Aig.add_output")
theorem wA:aP jt:=bE (by decide+kernel)
noncomputable def lz:List Stmt:=bodyOf (jK 2)
noncomputable def yy:Cx:=eR (jK 4) [] 62 (Str.ofString "Aig.land")
theorem qD:aP yy:=bE (by decide+kernel)
noncomputable def wZ:List Stmt:=bodyOf (jK 4)
noncomputable def Dv:Cx:=eR (jK 5) [] 69 (Str.ofString "Aig.lor")
theorem UI:aP Dv:=bE (by decide+kernel)
noncomputable def Av:List Stmt:=bodyOf (jK 5)
noncomputable def yz:Cx:=eR (jK 7) [] 83 (Str.ofString "Aig.lmux")
theorem P6:aP yz:=bE (by decide+kernel)
noncomputable def w0:List Stmt:=bodyOf (jK 7)
noncomputable def jD:Cx:=eR (aA 4) [] 133 (Str.ofString "used_nodes")
theorem wM:aP jD:=bE (by decide+kernel)
noncomputable def lJ:List Stmt:=bodyOf (aA 4)
noncomputable def uf:Cx:=eR (aA 5) [] 140 (Str.ofString "swept")
theorem My:aP uf:=bE (by decide+kernel)
noncomputable def ua:List Stmt:=bodyOf (aA 5)
noncomputable def jx:Cx:=eR (aA 10) [] 180 (Str.ofString "full_table")
theorem wF:aP jx:=bE (by decide+kernel)
noncomputable def lD:List Stmt:=bodyOf (aA 10)
noncomputable def kC:Cx:=eR (aA 11) [] 187 (Str.ofString "var_table")
theorem zQ:aP kC:=bE (by decide+kernel)
noncomputable def mI:List Stmt:=bodyOf (aA 11)
noncomputable def mM:Cx:=eR (aA 12) [] 194 (Str.ofString "cofactor")
theorem B4:aP mM:=bE (by decide+kernel)
noncomputable def ow:List Stmt:=bodyOf (aA 12)
noncomputable def oV:Cx:=eR (aA 13) [] 201 (Str.ofString "depends")
theorem Ej:aP oV:=bE (by decide+kernel)
noncomputable def p0:List Stmt:=bodyOf (aA 13)
noncomputable def jw:Cx:=eR (aA 14) [] 208 (Str.ofString "cube_table")
theorem wD:aP jw:=bE (by decide+kernel)
noncomputable def lC:List Stmt:=bodyOf (aA 14)
noncomputable def iG:Cx:=eR (aA 15) [] 215 (Str.ofString "cover_table")
theorem vk:aP iG:=bE (by decide+kernel)
noncomputable def jS:List Stmt:=bodyOf (aA 15)
noncomputable def yx:Cx:=eR (aA 16) [] 222 (Str.ofString "isop")
theorem P5:aP yx:=bE (by decide+kernel)
noncomputable def wY:List Stmt:=bodyOf (aA 16)
noncomputable def jA:Cx:=eR (aA 18) [] 229 (Str.ofString "merge_cuts")
theorem wJ:aP jA:=bE (by decide+kernel)
noncomputable def lG:List Stmt:=bodyOf (aA 18)
noncomputable def qZ:Cx:=eR (aA 19) [] 236 (Str.ofString "within")
theorem Il:aP qZ:=bE (by decide+kernel)
noncomputable def r5:List Stmt:=bodyOf (aA 19)
noncomputable def bw:Cx:=eR (aA 20) [] 243 (Str.ofString "without_dominated")
theorem bN:aP bw:=bE (by decide+kernel)
theorem nr:uU bw.names=true:=by decide+kernel
noncomputable def eC:List Stmt:=bodyOf (aA 20)
noncomputable def kA:Cx:=eR (aA 21) [] 250 (Str.ofString "node_cuts")
theorem zN:aP kA:=bE (by decide+kernel)
noncomputable def mG:List Stmt:=bodyOf (aA 21)
noncomputable def mN:Cx:=eR (aA 22) [] 257 (Str.ofString "cut_sets")
theorem B5:aP mN:=bE (by decide+kernel)
noncomputable def oz:List Stmt:=bodyOf (aA 22)
noncomputable def yw:Cx:=eR (aA 23) [] 264 (Str.ofString "cone")
theorem P4:aP yw:=bE (by decide+kernel)
noncomputable def wX:List Stmt:=bodyOf (aA 23)
noncomputable def eX:Cx:=eR (aA 24) [] 271 (Str.ofString "literal_table")
theorem rF:aP eX:=bE (by decide+kernel)
noncomputable def iw:List Stmt:=bodyOf (aA 24)
noncomputable def ko:Cx:=eR (aA 25) [] 278 (Str.ofString "cut_table")
theorem zK:aP ko:=bE (by decide+kernel)
noncomputable def mC:List Stmt:=bodyOf (aA 25)
noncomputable def jC:Cx:=eR (aA 27) [] 285 (Str.ofString "use_counts")
theorem wL:aP jC:=bE (by decide+kernel)
noncomputable def lI:List Stmt:=bodyOf (aA 27)
noncomputable def kj:Cx:=eR (aA 28) [] 292 (Str.ofString "and_count")
theorem zI:aP kj:=bE (by decide+kernel)
noncomputable def mz:List Stmt:=bodyOf (aA 28)
noncomputable def oX:Cx:=eR (aA 29) [] 299 (Str.ofString "started")
theorem Em:aP oX:=bE (by decide+kernel)
noncomputable def qb:List Stmt:=bodyOf (aA 29)
noncomputable def ue:Cx:=eR (aA 30) [] 306 (Str.ofString "moved")
theorem Mx:aP ue:=bE (by decide+kernel)
noncomputable def t9:List Stmt:=bodyOf (aA 30)
noncomputable def qW:Cx:=eR (aA 31) [] 313 (Str.ofString "finish")
theorem Ij:aP qW:=bE (by decide+kernel)
noncomputable def rZ:List Stmt:=bodyOf (aA 31)
noncomputable def eF:Cx:=eR (aA 32) [] 320 (Str.ofString "absorbed_nodes")
theorem qC:aP eF:=bE (by decide+kernel)
noncomputable def gK:List Stmt:=bodyOf (aA 32)
noncomputable def ju:Cx:=eR (aA 33) [] 327 (Str.ofString "and_leaves")
theorem wB:aP ju:=bE (by decide+kernel)
noncomputable def lA:List Stmt:=bodyOf (aA 33)
noncomputable def eG:Cx:=eR (aA 34) [] 334 (Str.ofString "place_by_level")
theorem qE:aP eG:=bE (by decide+kernel)
noncomputable def gL:List Stmt:=bodyOf (aA 34)
noncomputable def eV:Cx:=eR (aA 35) [] 341 (Str.ofString "join_balanced")
theorem rD:aP eV:=bE (by decide+kernel)
noncomputable def il:List Stmt:=bodyOf (aA 35)
noncomputable def oU:Cx:=eR (aA 36) [] 348 (Str.ofString "balance")
theorem Ei:aP oU:=bE (by decide+kernel)
noncomputable def pZ:List Stmt:=bodyOf (aA 36)
noncomputable def oW:Cx:=eR (aA 37) [] 355 (Str.ofString "opposed")
theorem El:aP oW:=bE (by decide+kernel)
noncomputable def qa:List Stmt:=bodyOf (aA 37)
noncomputable def jB:Cx:=eR (aA 38) [] 362 (Str.ofString "other_side")
theorem wK:aP jB:=bE (by decide+kernel)
noncomputable def lH:List Stmt:=bodyOf (aA 38)
noncomputable def fe:Cx:=eR (aA 39) [] 369 (Str.ofString "rule_positive")
theorem rI:aP fe:=bE (by decide+kernel)
noncomputable def iB:List Stmt:=bodyOf (aA 39)
noncomputable def eZ:Cx:=eR (aA 40) [] 376 (Str.ofString "rule_negative")
theorem rH:aP eZ:=bE (by decide+kernel)
noncomputable def iA:List Stmt:=bodyOf (aA 40)
noncomputable def cO:Cx:=eR (aA 41) [] 384 (Str.ofString "smart_and")
theorem zO:aP cO:=bE (by decide+kernel)
noncomputable def iC:List Stmt:=bodyOf (aA 41)
noncomputable def eY:Cx:=eR (aA 42) [] 391 (Str.ofString "rewrite_local")
theorem rG:aP eY:=bE (by decide+kernel)
noncomputable def iz:List Stmt:=bodyOf (aA 42)
noncomputable def eW:Cx:=eR (aA 43) [] 398 (Str.ofString "literal_chain")
theorem rE:aP eW:=bE (by decide+kernel)
noncomputable def iu:List Stmt:=bodyOf (aA 43)
noncomputable def c9:Cx:=eR (aA 44) [] 405 (Str.ofString "commonest_literal")
theorem ny:aP c9:=bE (by decide+kernel)
noncomputable def eB:List Stmt:=bodyOf (aA 44)
noncomputable def qV:Cx:=eR (aA 45) [] 412 (Str.ofString "factor")
theorem Ii:aP qV:=bE (by decide+kernel)
noncomputable def rY:List Stmt:=bodyOf (aA 45)
noncomputable def kB:Cx:=eR (aA 46) [] 419 (Str.ofString "tree_size")
theorem zP:aP kB:=bE (by decide+kernel)
noncomputable def mH:List Stmt:=bodyOf (aA 46)
noncomputable def jv:Cx:=eR (aA 47) [] 426 (Str.ofString "build_tree")
theorem wC:aP jv:=bE (by decide+kernel)
noncomputable def lB:List Stmt:=bodyOf (aA 47)
noncomputable def km:Cx:=eR (aA 48) [] 433 (Str.ofString "best_tree")
theorem zJ:aP km:=bE (by decide+kernel)
noncomputable def mA:List Stmt:=bodyOf (aA 48)
noncomputable def gd:Cx:=eR (aA 49) [] 440 (Str.ofString "private_size")
theorem s9:aP gd:=bE (by decide+kernel)
noncomputable def jc:List Stmt:=bodyOf (aA 49)
noncomputable def f5:Cx:=eR (aA 50) [] 447 (Str.ofString "choose_cones")
theorem sZ:aP f5:=bE (by decide+kernel)
noncomputable def ja:List Stmt:=bodyOf (aA 50)
noncomputable def f7:Cx:=eR (aA 51) [] 454 (Str.ofString "needed_nodes")
theorem s8:aP f7:=bE (by decide+kernel)
noncomputable def jb:List Stmt:=bodyOf (aA 51)
noncomputable def gf:Cx:=eR (aA 52) [] 462 (Str.ofString "rewrite_cuts")
theorem tj:aP gf:=bE (by decide+kernel)
noncomputable def jd:List Stmt:=bodyOf (aA 52)
noncomputable def cN:Cx:=eR (aA 53) [] 470 (Str.ofString "rewrite_until_still")
theorem kW:aP cN:=bE (by decide+kernel)
noncomputable def dA:List Stmt:=bodyOf (aA 53)
noncomputable def mP:Cx:=eR (aA 55) [] 477 (Str.ofString "_law_pick")
theorem B6:aP mP:=bE (by decide+kernel)
noncomputable def oA:List Stmt:=bodyOf (aA 55)
noncomputable def qY:Cx:=eR (aA 56) [] 484 (Str.ofString "_law_of")
theorem Ik:aP qY:=bE (by decide+kernel)
noncomputable def r4:List Stmt:=bodyOf (aA 56)
noncomputable def jz:Cx:=eR (aA 57) [] 491 (Str.ofString "_law_values")
theorem wI:aP jz:=bE (by decide+kernel)
noncomputable def lF:List Stmt:=bodyOf (aA 57)
noncomputable def kz:Cx:=eR (aA 58) [7] 496 (Str.ofString "_law_graph")
theorem zM:aP kz:=bE (by decide+kernel)
noncomputable def mF:List Stmt:=bodyOf (aA 58)
noncomputable def jy:Cx:=eR (aA 59) [1,2] 501 (Str.ofString "_law_inputs")
theorem wH:aP jy:=bE (by decide+kernel)
noncomputable def lE:List Stmt:=bodyOf (aA 59)
noncomputable def ku:Cx:=eR (aA 60) [3] 506 (Str.ofString "_law_depth")
theorem zL:aP ku:=bE (by decide+kernel)
noncomputable def mD:List Stmt:=bodyOf (aA 60)
noncomputable def mQ:Cx:=eR (aA 61) [1,4,5] 511 (Str.ofString "_law_used")
theorem B7:aP mQ:=bE (by decide+kernel)
noncomputable def oB:List Stmt:=bodyOf (aA 61)
noncomputable def qX:Cx:=eR (aA 62) [11,18,19,21] 516 (Str.ofString "law")
theorem Ek:aP qX:=bE (by decide+kernel)
noncomputable def iq:List Stmt:=bodyOf (aA 62)
noncomputable def VN:List Nat:= [42,49,63,70,84,134,141,181,188,195,202,209,216,223,230,237,244,251,258,265,272,279,286,293,300,307,314,321,328,335,342,349,356,363,370,377,385,392,399,406,413,420,427,434,441,448,455,463,471,478,485,492,497,502,507,512,517]
noncomputable def addrs (i:Nat):Addr:=(df VN i).getD 0
noncomputable def Rf:List (Nat×Str):= [(5,Str.ofString "used_nodes"),(6,Str.ofString "swept"),(7,Str.ofString "full_table"),(8,Str.ofString "var_table"),(9,Str.ofString "cofactor"),(10,Str.ofString "depends"),(11,Str.ofString "cube_table"),(12,Str.ofString "cover_table"),(13,Str.ofString "isop"),(14,Str.ofString "merge_cuts"),(15,Str.ofString "within"),(16,Str.ofString "without_dominated"),(17,Str.ofString "node_cuts"),(18,Str.ofString "cut_sets"),(19,Str.ofString "cone"),(20,Str.ofString "literal_table"),(21,Str.ofString "cut_table"),(22,Str.ofString "use_counts"),(23,Str.ofString "and_count"),(24,Str.ofString "started"),(25,Str.ofString "moved"),(26,Str.ofString "finish"),(27,Str.ofString "absorbed_nodes"),(28,Str.ofString "and_leaves"),(29,Str.ofString "place_by_level"),(30,Str.ofString "join_balanced"),(31,Str.ofString "balance"),(32,Str.ofString "opposed"),(33,Str.ofString "other_side"),(34,Str.ofString "rule_positive"),(35,Str.ofString "rule_negative"),(36,Str.ofString "smart_and"),(37,Str.ofString "rewrite_local"),(38,Str.ofString "literal_chain"),(39,Str.ofString "commonest_literal"),(40,Str.ofString "factor"),(41,Str.ofString "tree_size"),(42,Str.ofString "build_tree"),(43,Str.ofString "best_tree"),(44,Str.ofString "private_size"),(45,Str.ofString "choose_cones"),(46,Str.ofString "needed_nodes"),(47,Str.ofString "rewrite_cuts"),(48,Str.ofString "rewrite_until_still"),(49,Str.ofString "_law_pick"),(50,Str.ofString "_law_of"),(51,Str.ofString "_law_values"),(52,Str.ofString "_law_graph"),(53,Str.ofString "_law_inputs"),(54,Str.ofString "_law_depth"),(55,Str.ofString "_law_used"),(56,Str.ofString "law")]
noncomputable def yP (i:Nat):Option Str:=(Rf.find? λ p=>p.1 == i).map (·.2)
noncomputable def HS:Nat->Option Str
 | 0=>some (Str.ofString "add_input")
 | 1=>some (Str.ofString "add_output")
 | 2=>some (Str.ofString "land")
 | 3=>some (Str.ofString "lor")
 | 4=>some (Str.ofString "lmux")
 | _=>none
end
section
open PySem PySem.W PyProof.Rows PySem.SeqAt
structure dg (G:Pg) (K:Frag) (mg mb:Str->Option Value) (n:Nat) (C:CT):Prop where
 O:GL G K mg mb
 CS:z8 G Mine.prog addrs n C
 CD:EZ G Mine.prog addrs n C 36
 M: ∃fI,Dd G K fI
 aig:mg (Str.ofString "Aig")=some (.ref G.C)
 fn: ∀i nm,yP i=some nm->mg nm=some (.ref (addrs i))
 fo: ∀i,i < 57->∃o fd,G.B.get? (addrs i)=some o/\o.data= .func fd
 me: ∀i nm,HS i=some nm->plainGet K G.C nm=true/\findIn K (.ref G.C) nm=some (some (.ref (addrs i)))/\isFn K (.ref (addrs i))=true
 L:E5 G mg bw
theorem tH: ∀i nm,yP i=some nm->(nm == ("__debug__" :Str))=false/\i < 57:=λ i nm h=>by
 obtain ⟨p,hp,rfl⟩:=Option.map_eq_some_iff.mp h
 have hi:=List.find?_some hp
 have:=List.all_eq_true.mp (show (Rf.all λ p=>!(p.2 == ("__debug__" :Str)) && decide (p.1 < 57))=true by decide+kernel) p (List.mem_of_find?_eq_some hp)
 rw [Bool.and_eq_true,Bool.not_eq_true',decide_eq_true_eq] at this
 exact ⟨this.1,beq_iff_eq.mp hi▸this.2⟩
theorem F7: ∀i nm,HS i=some nm->(∀(P:Params) (t0 t1 t2 t3:Tok) (b0 b1 b2 b3:Addr),getL nm (jP P t0 t1 t2 t3 b0 b1 b2 b3)=some none)/\i < 57:=by
 intro i nm h
 rcases i with _ | _ | _ | _ | _ | i
 iterate 5
  ·obtain rfl:=Option.some.inj h; exact ⟨λ x x x x x x x x x=>rfl,by decide⟩
 exact (Option.some_ne_none _ h.symm).elim
theorem hi0: ∀env:Env,env.scope.kind= .function->interactive env=false:=λ env h=>by unfold interactive; rw [h]; rfl
theorem mf {o:Expr} {name:Str} {apos pos:Pos} {args:List Expr} (h1: ∀env,attributeBase o name env (eval o env)=eval o env:=by intro _; rfl)
  (h2: ∀env,((backTo pos (starEach args env)).all (λ x=>!x.1) && (backToKw pos (keywordEach [] env)).all (λ x=>x.1.isSome)
   && decide (args.length+([]:List Keyword).length+(if ([]:List Keyword).isEmpty then 0 else 1) < 30))=true:=by intro _; rfl)
  (h3:(apos.endLine == pos.line)=true:=by rfl):rW o name apos pos args:=⟨h1,h2,h3⟩
section
variable {G:Pg} {cx dh:Cx} {g:Gm} {env:Env} {σ:St} {s:Shared} {n:Nat} {A:Around} {Q:PV} {QF:PF} {C:CT} {K:Frag} {mg mb:Str->Option Value}
theorem U8 {i:Nat} {fn:Fn} {es:List E} {x:Str} {xs:List Expr} {p pos:Pos} (U:dg G K mg mb n C) (hx:cx.names.lookup x=some .globalImplicit) (hn:yP i=some x) (hf:Mine.prog i=some fn) (h:E6 G n C cx es xs)
  (hl:xs.length=fn.params) (hp: ∀env,(backTo pos (starEach xs env)).any (·.1)=false):SE G n C cx (.call i es) (.Call (.Name x p) xs [] pos):=
 M7 U.O U.CS (U.fn i x hn) (U.fo i (tH i x hn).2) (tH i x hn).1 hx h (λ fn' e=>by rw [hf] at e; cases e; exact hl) hp
theorem QG {es:List E} {x:Str} {xs:List Expr} {p pos:Pos} (U:dg G K mg mb n C) (hx:cx.names.lookup x=some .globalImplicit) (h:E6 G n C cx es xs) (hp: ∀env,(backTo pos (starEach xs env)).any (·.1)=false) (hn:yP 36=some x:=by rfl) (hl:xs.length=3:=by rfl):
  SE G n C cx (.call 36 es) (.Call (.Name x p) xs [] pos):=
 IE U.O U.CD (U.fn 36 x hn) (U.fo 36 (by decide)) (tH 36 x hn).1 hx h (λ fn' e=>by cases e; rw [hl]; rfl) hp
theorem U9 {i:Nat} {fn:Fn} {o:E} {es:List E} {x:Expr} {name:Str} {xs:List Expr} {ap pos:Pos} (U:dg G K mg mb n C) (hn:HS i=some name) (hf:Mine.prog i=some fn) (MF:rW x name ap pos xs) (h0:SE G n C cx o x) (h:E6 G n C cx es xs)
  (hl:xs.length+1=fn.params):SE G n C cx (.gZ i o es) (.Call (.Attribute x name ap) xs [] pos):=
 Ng U.O U.CS MF (U.me i name hn).1 (U.me i name hn).2.1 (U.me i name hn).2.2 (F7 i name hn).1 (U.fo i (F7 i name hn).2) h0 h λ fn' e=>by rw [hf] at e; cases e; exact hl
theorem aaA {p pos:Pos} (U:dg G K mg mb n C) (hx:cx.names.lookup (Str.ofString "Aig")=some .globalImplicit):SE G n C cx .mk (.Call (.Name (Str.ofString "Aig") p) [] [] pos):=
 let ⟨_,M⟩:=U.M; snd_mk U.O M U.aig (by decide) hx
theorem tq {i:Nat} {e:E} {x:Str} {z:Expr} {p pos:Pos} (ok:aP cx) (hx:cx.at i x) (hm:x∈cx.mine) (h:SE G n C cx e z) (hs: ∀env:Env,env.scope.kind= .function->env.scope.names=cx.names->swapsWith z (some (.Name x p)) pos.line env=pure false):SS G n C cx (.assign i e) (.Assign [.Name x p] z pos):=λ A env g σ s Q R a hw=>
 wpAny_Assign_Name (bR (h A env g σ s _ R a hw) λ v s1 g1 σ1 u e1 a1 ou v1 q1=>
  fK ok hx hm a1 v1 λ s' a'=>⟨g1,_, .next,e1,a', .next,q1⟩) (hs env a.fm.kind a.fm.names)
theorem Qw {elt:Expr} {gens:List Comprehension} {scope:Scope} {x:Str} {p pos:Pos} {l:Nat} (h:cx.names.lookup x=some .cell): ∀env:Env,env.scope.kind= .function->env.scope.names=cx.names->swapsWith (.ListComp elt gens scope pos) (some (.Name x p)) l env=pure false:=λ env h1 h2=>by
 have hk:env.kindOf x=some .cell:=by rw [Env.kindOf,h2]; exact h
 unfold swapsWith
 simp only [hk]
 have e:(some NameKind.cell == some NameKind.local)=false:=by decide
 show pure (_ && (some NameKind.cell == some NameKind.local) && _ && _)=_
 rw [e,Bool.and_false,Bool.false_and,Bool.false_and]
theorem Qx {elt:Expr} {gens:List Comprehension} {scope:Scope} {x:Str} {p pos:Pos} {l:Nat} (h:cx.names.lookup x=some .local) (h3:(p.line == pos.line)=true) (h4:(scope.names.any λ (n,k)=>n == x && (k == .local || k == .cell))=false):
  ∀env:Env,env.scope.kind= .function->env.scope.names=cx.names->swapsWith (.ListComp elt gens scope pos) (some (.Name x p)) l env=pure true:=λ env h1 h2=>by
 have hk:env.kindOf x=some .local:=by rw [Env.kindOf,h2]; exact h
 have hb:env.blockKind= .function:=by simp [Env.blockKind,h1,ScopeKind.isAnnotationScope]
 unfold swapsWith
 simp only [hk,hb]
 show pure (_ && _ && (p.line == pos.line) && !(scope.names.any _))=_
 rw [h3,h4]; rfl
end
end
section
open PySem PySem.W PyProof.Rows PySem.SeqAt
structure Fld where
 bF:List Expr
 k:Nat
 n:Nat
 nm:Str
 sc:Scope
noncomputable def fld:Expr->Fld
 | .BinOp a _ b _=>⟨[a,b],0,0,default,default⟩
 | .UnaryOp _ a _=>⟨[a],6,0,default,default⟩
 | .Compare a _ bs _=>⟨a::bs,6,0,default,default⟩
 | .IfExp c a b _=>⟨[c,a,b],6,0,default,default⟩
 | .BoolOp _ xs _=>⟨xs,6,0,default,default⟩
 | .Attribute a _ _=>⟨[a],0,0,default,default⟩
 | .Subscript a i _=>⟨[a,i],0,0,default,default⟩
 | .Slice lo hi _ _=>⟨lo.toList++hi.toList,1,0,default,default⟩
 | .Tuple xs n _=>⟨xs,8,n,default,default⟩
 | .List xs _=>⟨xs,0,0,default,default⟩
 | .Dict ks vs _=>⟨ks.filterMap id++vs,0,0,default,default⟩
 | .Call f xs _ _=>⟨f::xs,7,0,default,default⟩
 | .ListComp e gs s _=>⟨e::gs.flatMap λ c=>c.target::c.iter::c.ifs,3,0,default,s⟩
 | .Constant _ n _=>⟨[],0,n,default,default⟩
 | .Name s _=>⟨[],0,0,s,default⟩
 | _=>⟨[],1,0,default,default⟩
noncomputable def bF (x:Expr):List Expr:=(fld x).bF
noncomputable def bP (x:Expr) (i:Nat):Expr:=(df (bF x) i).getD x
noncomputable def NW (x:Expr):Nat:=(fld x).n
noncomputable def Ib (x:Expr):Str:=(fld x).nm
noncomputable def Iz (x:Expr):Scope:=(fld x).sc
noncomputable def sl (j:Nat) (x:Expr):Bool:=!((fld x).k == 1) && !((fld x).k == j)
theorem Pz {x:Expr} (h:sl 1 x=true): ∀xs env,starEach (x::xs) env=(false,eval x env)::starEach xs env:=by
 cases x <;> first | exact λ y y=>rfl | exact Bool.noConfusion h
theorem k_sub {x:Expr} (h:sl 1 x=true): ∀o v:Value,subscripted x false o v=operate [o,v] (getItem o v):=by
 cases x <;> first | exact λ y y=>rfl | exact Bool.noConfusion h
theorem Xq {x:Expr} (h:sl 1 x=true): ∀ov iv new,augStore x ov iv new=(do holding [new,ov,iv] (setItem ov iv new); release [new,ov,iv] []; pure .next):=by
 cases x <;> first | exact λ y y y=>rfl | exact Bool.noConfusion h
theorem PA {x:Expr} (h:sl 3 x=true): ∀t l env,swapsWith x t l env=pure false:=by
 cases x <;> first | exact λ y y y=>rfl | exact Bool.noConfusion h
theorem k_fold {x:Expr} (h:sl 1 x=true): ∀env v,foldedSetIterable x env v=pure v:=by
 cases x <;> first | exact λ y y=>rfl | exact Bool.noConfusion h
theorem D5 {x:Expr} (h:sl 1 x=true): ∀op,behindInMarks op x=false:=by
 cases x <;> first | exact λ y=>rfl | exact Bool.noConfusion h
theorem aas {x:Expr} (h:sl 6 x=true): ∀env whole,isTrue x env whole=(do let v <- whole; standAt x.pos; holding [v] (truthy v)):=by
 cases x <;> first | exact λ y y=>rfl | exact Bool.noConfusion h
theorem Up {x:Expr} (h:sl 7 x=true): ∀nm env w,attributeBase x nm env w=w:=by
 cases x <;> first | exact λ y y y=>rfl | exact Bool.noConfusion h
theorem Xr {x:Expr} (h:sl 8 x=true): ∀xs k tp env,swappedStores [.Tuple xs k tp] x env=pure none:=by
 cases x <;> first | exact λ y y y y=>rfl | exact Bool.noConfusion h
noncomputable def UE (xs:List Expr):Bool:=xs.all (sl 1)
theorem zE {xs:List Expr} {pos:Pos} {env:Env} (h:UE xs=true):(backTo pos (starEach xs env)).any (·.1)=false:=by
 induction xs with
 | nil=>rfl
 | cons x xs ih=>
  obtain ⟨h1,h2⟩:=an h
  rw [Pz h1]; exact ih h2
theorem PZ {xs:List Expr} {pos:Pos} {env:Env} (h:UE xs=true):(backTo pos (starEach xs env)).all (λ x=>!x.1)=true:=by
 induction xs with
 | nil=>rfl
 | cons x xs ih=>
  obtain ⟨h1,h2⟩:=an h
  rw [Pz h1]; exact ih h2
theorem Sv {o:Expr} {nm:Str} {ap pos:Pos} {xs:List Expr} (h1:sl 7 o=true) (h2:UE xs=true) (h3:decide (xs.length < 30)=true) (h4:(ap.endLine == pos.line)=true):rW o nm ap pos xs:=
 ⟨λ env=>Up h1 nm env _,λ env=>by rw [PZ h2]; exact h3,h4⟩
noncomputable def vN (cx:Cx) (i:Nat):Str:=((df cx.vis i).join).getD (default)
noncomputable def X2 (cx:Cx) (i:Nat):Bool:=((df cx.vis i).join).isSome
theorem QH {cx:Cx} {i:Nat} (h:X2 cx i=true):cx.at i (vN cx i):=by
 show cx.vis[i]?=some (some (((df cx.vis i).join).getD _))
 unfold X2 at h
 rw [<- qA]
 cases e:df cx.vis i with
 | none=>rw [e] at h; exact Bool.noConfusion h
 | some o=>
  cases o with
  | none=>rw [e] at h; exact Bool.noConfusion h
  | some y=>rfl
theorem get_some {α:Type} {o:Option α} (d:α) (h:o.isSome=true):o=some (o.getD d):=by
 cases o with
 | none=>exact Bool.noConfusion h
 | some y=>rfl
noncomputable def gi (cx:Cx) (x:Str):Bool:=cx.names.lookup x == some .globalImplicit
noncomputable def qK (cx:Cx) (ns:List (Str×NameKind)) (k:Nat) (x:Str):Cx where
 names:=ns.map λ p=>if (p.2 == NameKind.free && cx.names.lookup p.1 == some NameKind.cell)=true then (p.1,NameKind.cell) else (p.1,p.2)
 vis:=(List.range cx.vis.length).map λ i=>if i == k then some x else (df cx.vis i).join.bind λ y=>if ns.contains (y, .free) then some y else .none
 mine:= [x]
 z:=cx.z.filter λ j=>!(j == k)
 code:=cx.code
 qual:=cx.qual
noncomputable def Yl (i:Nat):Option Nat:=(Mine.prog i).map (·.params)
noncomputable def eK:E->Nat×Nat
 | .cmp ..=>(1,0) | .var _=>(2,0) | .int i=>(3,i) | .comp ..=>(4,0) | _=>(0,0)
noncomputable def tOk (e:E) (y:Expr):Bool:=(eK e).1 == 1 || sl 6 y
noncomputable def Zj (e:E) (cx:Cx) (y:Expr) (x:Str) (p:Pos):Bool:=sl 3 y ||
 (((eK e).1 == 4) && (cx.names.lookup x == some .cell || (cx.names.lookup x == some .local && (p.line == y.pos.line) && !((Iz y).names.any λ (n,k)=>n == x && (k == .local || k == .cell)))))
mutual
noncomputable def mE:E->Cx->Expr->Bool×Expr
 | .none,_,x=>(true, .Constant .none (NW x) x.pos)
 | .bool b,_,x=>(true, .Constant (.bool b) (NW x) x.pos)
 | .int i,_,x=>(true, .Constant (.int i) (NW x) x.pos)
 | .str k,_,x=>(decide (k < 6), .Constant (.str (strOf k)) (NW x) x.pos)
 | .var i,cx,x=>(X2 cx i, .Name (vN cx i) x.pos)
 | .bin op a b,cx,x=>((mE a cx (bP x 0)).1 && (mE b cx (bP x 1)).1, .BinOp (mE a cx (bP x 0)).2 (wN op) (mE b cx (bP x 1)).2 x.pos)
 | .neg a,cx,x=>((mE a cx (bP x 0)).1, .UnaryOp .USub (mE a cx (bP x 0)).2 x.pos)
 | .inv a,cx,x=>((mE a cx (bP x 0)).1, .UnaryOp .Invert (mE a cx (bP x 0)).2 x.pos)
 | .cmp op a b,cx,x=>((mE a cx (bP x 0)).1 && ((mE b cx (bP x 1)).1 && sl 1 (mE b cx (bP x 1)).2), .Compare (mE a cx (bP x 0)).2 [uc op] [(mE b cx (bP x 1)).2] x.pos)
 | .ite c a b,cx,x=>((mB c cx (bP x 0)).1 && ((mE a cx (bP x 1)).1 && (mE b cx (bP x 2)).1), .IfExp (mB c cx (bP x 0)).2 (mE a cx (bP x 1)).2 (mE b cx (bP x 2)).2 x.pos)
 | .w4 t a b,cx,x=>((mE a cx (bP x 0)).1 && (mE b cx (bP x 1)).1, .BoolOp (match t with | true=> .And | false=> .Or) [(mE a cx (bP x 0)).2,(mE b cx (bP x 1)).2] x.pos)
 | .attr a k,cx,x=>((mE a cx (bP x 0)).1 && ((eK a).1 == 2), .Attribute (mE a cx (bP x 0)).2 (aK k) x.pos)
 | .sub a i,cx,x=>((mE a cx (bP x 0)).1 && ((mE i cx (bP x 1)).1 && sl 1 (mE i cx (bP x 1)).2), .Subscript (mE a cx (bP x 0)).2 (mE i cx (bP x 1)).2 x.pos)
 | .EK a i,cx,x=>((mE a cx (bP x 0)).1 && (mE i cx (bP (bP x 1) 0)).1, .Subscript (mE a cx (bP x 0)).2 (.Slice .none (some (mE i cx (bP (bP x 1) 0)).2) .none (bP x 1).pos) x.pos)
 | .from a i,cx,x=>((mE a cx (bP x 0)).1 && (mE i cx (bP (bP x 1) 0)).1, .Subscript (mE a cx (bP x 0)).2 (.Slice (some (mE i cx (bP (bP x 1) 0)).2) .none .none (bP x 1).pos) x.pos)
 | .tup es,cx,x=>((pO es cx (bF x)).1 && (pO es cx (bF x)).2.length.ble 1000, .Tuple (pO es cx (bF x)).2 (NW x) x.pos)
 | .list es,cx,x=>((pO es cx (bF x)).1 && (pO es cx (bF x)).2.length.ble 1000, .List (pO es cx (bF x)).2 x.pos)
 | .uj,_,x=>(true, .Dict [] [] x.pos)
 | .AF k v,cx,x=>(((eK k).1 == 3) && ((eK v).1 == 3), .Dict [some (.Constant (.int ((eK k).2)) (NW (bP x 0)) (bP x 0).pos)] [.Constant (.int ((eK v).2)) (NW (bP x 1)) (bP x 1).pos] x.pos)
 | .call f es,cx,x=>((pO es cx (bF x).tail).1 && ((yP f).isSome && (gi cx ((yP f).getD (default)) && (UE (pO es cx (bF x).tail).2 && ((Yl f).any (λ n=>(pO es cx (bF x).tail).2.length == n) || (f == 36 && (pO es cx (bF x).tail).2.length == 3))))),
   .Call (.Name ((yP f).getD (default)) (bP x 0).pos) (pO es cx (bF x).tail).2 [] x.pos)
 | .gZ f o es,cx,x=>((mE o cx (bP (bP x 0) 0)).1 && ((pO es cx (bF x).tail).1 && ((HS f).isSome && (sl 7 (mE o cx (bP (bP x 0) 0)).2 && (UE (pO es cx (bF x).tail).2 && (decide ((pO es cx (bF x).tail).2.length < 30) && (((bP x 0).pos.endLine == x.pos.line) && (Yl f).any (λ n=>(pO es cx (bF x).tail).2.length+1 == n))))))),
   .Call (.Attribute (mE o cx (bP (bP x 0) 0)).2 ((HS f).getD (default)) (bP x 0).pos) (pO es cx (bF x).tail).2 [] x.pos)
 | .mk,cx,x=>(gi cx (Str.ofString "Aig"), .Call (.Name (Str.ofString "Aig") (bP x 0).pos) [] [] x.pos)
 | .blt b es,cx,x=>((pO es cx (bF x).tail).1 && (gi cx (dQ b) && (UE (pO es cx (bF x).tail).2 && !(pO es cx (bF x).tail).2.isEmpty)), .Call (.Name (dQ b) (bP x 0).pos) (pO es cx (bF x).tail).2 [] x.pos)
 | .lm m o es,cx,x=>((mE o cx (bP (bP x 0) 0)).1 && ((pO es cx (bF x).tail).1 && (sl 7 (mE o cx (bP (bP x 0) 0)).2 && (UE (pO es cx (bF x).tail).2 && (decide ((pO es cx (bF x).tail).2.length < 30) && ((bP x 0).pos.endLine == x.pos.line))))),
   .Call (.Attribute (mE o cx (bP (bP x 0) 0)).2 (zj m) (bP x 0).pos) (pO es cx (bF x).tail).2 [] x.pos)
 | .Cz _,_,x=>(false,x)
 | .comp k it c e,cx,x=>(yq cx (qK cx (Iz x).names k (Ib (bP x 1))) (Iz x).names k (Ib (bP x 1)) && (JR (qK cx (Iz x).names k (Ib (bP x 1))) && (X2 (qK cx (Iz x).names k (Ib (bP x 1))) k && (vN (qK cx (Iz x).names k (Ib (bP x 1))) k == Ib (bP x 1) &&
   ((mE it cx (bP x 2)).1 && ((mE e (qK cx (Iz x).names k (Ib (bP x 1))) (bP x 0)).1 && ((mO c (qK cx (Iz x).names k (Ib (bP x 1))) (bP x 3)).1 && sl 1 (mE it cx (bP x 2)).2)))))),
   .ListComp (mE e (qK cx (Iz x).names k (Ib (bP x 1))) (bP x 0)).2 [⟨.Name (Ib (bP x 1)) (bP x 1).pos,(mE it cx (bP x 2)).2,(mO c (qK cx (Iz x).names k (Ib (bP x 1))) (bP x 3)).2,0⟩] {Iz x with kind:= .function} x.pos)
noncomputable def mB:B->Cx->Expr->Bool×Expr
 | .e e,cx,x=>((mE e cx x).1 && tOk e (mE e cx x).2,(mE e cx x).2)
 | .not b,cx,x=>((mB b cx (bP x 0)).1, .UnaryOp .Not (mB b cx (bP x 0)).2 x.pos)
 | .and bs,cx,x=>((PR bs cx (bF x)).1, .BoolOp .And (PR bs cx (bF x)).2 x.pos)
 | .or bs,cx,x=>((PR bs cx (bF x)).1, .BoolOp .Or (PR bs cx (bF x)).2 x.pos)
noncomputable def pO:List E->Cx->List Expr->Bool×List Expr
 | [],_,_=>(true,[])
 | e::es,cx,xs=>((mE e cx xs.head!).1 && ((pO es cx xs.tail).1 && sl 1 (mE e cx xs.head!).2),(mE e cx xs.head!).2::(pO es cx xs.tail).2)
noncomputable def PR:List B->Cx->List Expr->Bool×List Expr
 | [],_,_=>(true,[])
 | b::bs,cx,xs=>((mB b cx xs.head!).1 && (PR bs cx xs.tail).1,(mB b cx xs.head!).2::(PR bs cx xs.tail).2)
noncomputable def mO:Option B->Cx->Expr->Bool×List Expr
 | .none,_,_=>(true,[])
 | some b,cx,x=>((mB b cx x).1,[(mB b cx x).2])
end
noncomputable def sF:Stmt->List Expr×List Stmt×List Stmt
 | .Assign ts z _=>(ts++ [z],[],[])
 | .AugAssign t _ z _=>([t,z],[],[])
 | .For t it b _ _=>([t,it],b,[])
 | .While c b _ _=>([c],b,[])
 | .If c b r _=>([c],b,r)
 | .Return v _=>(v.toList,[],[])
 | .Expr z _=>([z],[],[])
 | _=>([],[],[])
noncomputable def sB (x:Stmt):List Stmt:=(sF x).2.1
noncomputable def sO (x:Stmt):List Stmt:=(sF x).2.2
noncomputable def sx (x:Stmt) (i:Nat):Expr:=(df (sF x).1 i).getD default
noncomputable def XB (cx:Cx) (i:Nat):Bool:=X2 cx i && cx.mine.contains (vN cx i)
noncomputable def mT (cx:Cx):List Nat->List Expr->Bool×List Expr
 | [],_=>(true,[])
 | i::is,xs=>(XB cx i && (mT cx is xs.tail).1, .Name (vN cx i) xs.head!.pos::(mT cx is xs.tail).2)
mutual
noncomputable def mS:S->Cx->Stmt->Bool×Stmt
 | .assign i e,cx,x=>(XB cx i && ((mE e cx (sx x 1)).1 && Zj e cx (mE e cx (sx x 1)).2 (vN cx i) (sx x 0).pos), .Assign [.Name (vN cx i) (sx x 0).pos] (mE e cx (sx x 1)).2 x.pos)
 | .unpack is e,cx,x=>((mT cx is (bF (sx x 0))).1 && ((mE e cx (sx x 1)).1 && (sl 3 (mE e cx (sx x 1)).2 && sl 8 (mE e cx (sx x 1)).2)), .Assign [.Tuple (mT cx is (bF (sx x 0))).2 (NW (sx x 0)) (sx x 0).pos] (mE e cx (sx x 1)).2 x.pos)
 | .bB o i e,cx,x=>((mE o cx (bP (sx x 0) 0)).1 && ((mE i cx (bP (sx x 0) 1)).1 && ((mE e cx (sx x 1)).1 && sl 3 (mE e cx (sx x 1)).2)), .Assign [.Subscript (mE o cx (bP (sx x 0) 0)).2 (mE i cx (bP (sx x 0) 1)).2 (sx x 0).pos] (mE e cx (sx x 1)).2 x.pos)
 | .cq i op e,cx,x=>(XB cx i && (mE e cx (sx x 1)).1, .AugAssign (.Name (vN cx i) (sx x 0).pos) (wN op) (mE e cx (sx x 1)).2 x.pos)
 | .oR o i op e,cx,x=>((mE o cx (bP (sx x 0) 0)).1 && ((mE i cx (bP (sx x 0) 1)).1 && ((mE e cx (sx x 1)).1 && sl 1 (mE i cx (bP (sx x 0) 1)).2)), .AugAssign (.Subscript (mE o cx (bP (sx x 0) 0)).2 (mE i cx (bP (sx x 0) 1)).2 (sx x 0).pos) (wN op) (mE e cx (sx x 1)).2 x.pos)
 | .expr e,cx,x=>((mE e cx (sx x 0)).1 && sl 3 (mE e cx (sx x 0)).2, .Expr (mE e cx (sx x 0)).2 x.pos)
 | .iff c t f,cx,x=>((mB c cx (sx x 0)).1 && ((C8 t cx (sB x)).1 && (C8 f cx (sO x)).1), .If (mB c cx (sx x 0)).2 (C8 t cx (sB x)).2 (C8 f cx (sO x)).2 x.pos)
 | .while c b,cx,x=>((mB c cx (sx x 0)).1 && (C8 b cx (sB x)).1, .While (mB c cx (sx x 0)).2 (C8 b cx (sB x)).2 [] x.pos)
 | .bL i it b,cx,x=>(XB cx i && ((mE it cx (sx x 1)).1 && ((C8 b cx (sB x)).1 && sl 1 (mE it cx (sx x 1)).2)), .For (.Name (vN cx i) (sx x 0).pos) (mE it cx (sx x 1)).2 (C8 b cx (sB x)).2 [] x.pos)
 | .AY is it b,cx,x=>((mT cx is (bF (sx x 0))).1 && ((mE it cx (sx x 1)).1 && ((C8 b cx (sB x)).1 && sl 1 (mE it cx (sx x 1)).2)), .For (.Tuple (mT cx is (bF (sx x 0))).2 (NW (sx x 0)) (sx x 0).pos) (mE it cx (sx x 1)).2 (C8 b cx (sB x)).2 [] x.pos)
 | .brk,_,x=>(true, .Break x.pos)
 | .cont,_,x=>(true, .Continue x.pos)
 | .ret e,cx,x=>((mE e cx (sx x 0)).1, .Return (some (mE e cx (sx x 0)).2) x.pos)
 | .raise,_,x=>(true,x)
noncomputable def C8:List S->Cx->List Stmt->Bool×List Stmt
 | [],_,_=>(true,[])
 | t::ts,cx,xs=>((mS t cx xs.head!).1 && (C8 ts cx xs.tail).1,(mS t cx xs.head!).2::(C8 ts cx xs.tail).2)
end
section
variable {G:Pg} {n:Nat} {C:CT} {K:Frag} {mg mb:Str->Option Value}
structure PE (G:Pg) (n:Nat) (C:CT) (cx:Cx) (e:E) (y:Expr):Prop where
 s:SE G n C cx e y
 t:tOk e y=true->ST G n C cx (.e e) y
 a: ∀i x p pos,cx.at i x->x∈cx.mine->Zj e cx y x p=true->SS G n C cx (.assign i e) (.Assign [.Name x p] y pos)
theorem PE.of {cx:Cx} {e:E} {y:Expr} (ok:aP cx) (h1:((eK e).1 == 1)=false) (h2:((eK e).1 == 4)=false) (h:SE G n C cx e y):PE G n C cx e y where
 s:=h
 t ht:=SJ h (aas (by unfold tOk at ht; rwa [h1,Bool.false_or] at ht))
 a i x p pos hx hm ha:=pJ ok hx hm h λ env=>PA (by unfold Zj at ha; rwa [h2,Bool.false_and,Bool.or_false] at ha) _ _ env
noncomputable def ME (G:Pg) (n:Nat) (C:CT) (e:E):Prop:= ∀cx x,aP cx->(mE e cx x).1=true->PE G n C cx e (mE e cx x).2
noncomputable def MB (G:Pg) (n:Nat) (C:CT) (b:B):Prop:= ∀cx x,aP cx->(mB b cx x).1=true->ST G n C cx b (mB b cx x).2
noncomputable def MEs (G:Pg) (n:Nat) (C:CT) (es:List E):Prop:= ∀cx xs,aP cx->(pO es cx xs).1=true->E6 G n C cx es (pO es cx xs).2
noncomputable def MBs (G:Pg) (n:Nat) (C:CT) (bs:List B):Prop:= ∀cx xs,aP cx->(PR bs cx xs).1=true->SA G n C cx bs (PR bs cx xs).2/\SO G n C cx bs (PR bs cx xs).2
noncomputable def MO (G:Pg) (n:Nat) (C:CT) (c:Option B):Prop:= ∀cx x,aP cx->(mO c cx x).1=true->match c with | .none=>(mO c cx x).2= [] | some c'=> ∃ct,(mO c cx x).2= [ct]/\ST G n C cx c' ct
theorem ceq {a b:Str} (h:(a == b)=true):a=b:=beq_iff_eq.mp h
theorem Fz {cx:Cx} {x:Str} (h:gi cx x=true):cx.names.lookup x=some .globalImplicit:=beq_iff_eq.mp h
theorem Kf {f k:Nat} (h:(Yl f).any (λ n=>k == n)=true): ∃fn,Mine.prog f=some fn/\k=fn.params:=by
 unfold Yl at h
 cases e:Mine.prog f with
 | none=>rw [e] at h; exact Bool.noConfusion h
 | some fn=>rw [e] at h; exact ⟨fn,rfl,beq_iff_eq.mp h⟩
theorem JY {e:E}:(((eK e).1 == 2)=true->∃i,e= .var i)/\(((eK e).1 == 3)=true->e= .int (eK e).2):=by
 cases e <;> first | exact ⟨Bool.noConfusion,Bool.noConfusion⟩ | exact ⟨λ x=>⟨_,rfl⟩,Bool.noConfusion⟩ | exact ⟨Bool.noConfusion,λ x=>rfl⟩
theorem Sr {cx:Cx} {is:List Nat} {xs:List Expr} (h:(mT cx is xs).1=true):tX cx is (mT cx is xs).2:=by
 induction is generalizing xs with
 | nil=>exact .nil
 | cons i is ih=>
  obtain ⟨h1,h2⟩:=an h
  obtain ⟨h0,h1⟩:=an h1
  exact .cons (QH h0) (List.contains_iff_mem.mp h1) (ih h2)
theorem oT (U:dg G K mg mb n C) (e:E):ME G n C e:=by
 refine E.rec (motive_1:=ME G n C) (motive_2:=MB G n C) (motive_3:=MEs G n C) (motive_4:=MO G n C) (motive_5:=MBs G n C) ?_ ?_ ?_ ?_ ?_ ?_ ?_ ?_ ?_ ?_ ?_ ?_ ?_ ?_ ?_ ?_ ?_ ?_ ?_ ?_ ?_ ?_ ?_ ?_ ?_ ?_ ?_ ?_ ?_ ?_ ?_ ?_ ?_ ?_ ?_ ?_ e
 ·exact λ cx x ok h=> .of ok rfl rfl Nh
 ·exact λ b cx x ok h=> .of ok rfl rfl M6
 ·exact λ i cx x ok h=> .of ok rfl rfl Qm
 ·exact λ k cx x ok h=> .of ok rfl rfl (Qr (of_decide_eq_true h))
 ·exact λ i cx x ok h=> .of ok rfl rfl (tP ok (QH h))
 ·exact λ op a b ha hb cx x ok h=> .of ok rfl rfl (Qi (Oi _) (ha _ _ ok (an h).1).s (hb _ _ ok (an h).2).s)
 ·exact λ a ha cx x ok h=> .of ok rfl rfl (Qp (ha _ _ ok h).s)
 ·exact λ a ha cx x ok h=> .of ok rfl rfl (Qn (ha _ _ ok h).s)
 ·intro op a b ha hb cx x ok h
  obtain ⟨h1,h2⟩:=an h
  obtain ⟨h2,h3⟩:=an h2
  exact ⟨Gu (tG _) (ha _ _ ok h1).s (hb _ _ ok h2).s (D5 h3 _),λ z=>Cq (tG _) (ha _ _ ok h1).s (hb _ _ ok h2).s (D5 h3 _),λ i x p pos hx hm z=>pJ ok hx hm (Gu (tG _) (ha _ _ ok h1).s (hb _ _ ok h2).s (D5 h3 _)) λ z=>rfl⟩
 ·exact λ c a b hc ha hb cx x ok h=> .of ok rfl rfl (Qo (hc _ _ ok (an h).1) (ha _ _ ok (an (an h).2).1).s (hb _ _ ok (an (an h).2).2).s)
 ·intro t a b ha hb cx x ok h
  cases t with
  | true=>exact .of ok rfl rfl (M5 (ha _ _ ok (an h).1).s (hb _ _ ok (an h).2).s)
  | false=>exact .of ok rfl rfl (Qk (ha _ _ ok (an h).1).s (hb _ _ ok (an h).2).s)
 ·intro a k ha cx x ok h
  obtain ⟨h1,h2⟩:=an h
  obtain ⟨i,rfl⟩:=JY.1 h2
  exact .of ok rfl rfl (M4 U.O (ha _ _ ok h1).s)
 ·intro a i ha hi cx x ok h
  obtain ⟨h1,h2⟩:=an h
  obtain ⟨h2,h3⟩:=an h2
  exact .of ok rfl rfl (Qs (ha _ _ ok h1).s (hi _ _ ok h2).s (k_sub h3))
 ·exact λ a i ha hi cx x ok h=> .of ok rfl rfl (Nj (ha _ _ ok (an h).1).s (hi _ _ ok (an h).2).s)
 ·exact λ a i ha hi cx x ok h=> .of ok rfl rfl (Nf (ha _ _ ok (an h).1).s (hi _ _ ok (an h).2).s)
 ·exact λ es hs cx x ok h=> .of ok rfl rfl (Qt (hs _ _ ok (an h).1) (Nat.le_of_ble_eq_true (an h).2))
 ·exact λ es hs cx x ok h=> .of ok rfl rfl (Ct (hs _ _ ok (an h).1) (Nat.le_of_ble_eq_true (an h).2))
 ·exact λ cx x ok h=> .of ok rfl rfl (IG U.O.sys)
 ·intro k v _ _ cx x ok h
  obtain ⟨h1,h2⟩:=an h
  rw [JY.2 h1,JY.2 h2]
  exact .of ok rfl rfl (IH U.O.sys)
 ·intro f es hs cx x ok h
  obtain ⟨h1,h2⟩:=an h
  obtain ⟨h2,h3⟩:=an h2
  obtain ⟨h3,h4⟩:=an h3
  obtain ⟨h4',h5⟩:=an h4
  refine .of ok rfl rfl ?_
  rcases (Bool.or_eq_true _ _▸h5:_\/_) with h5 | h5
  ·obtain ⟨fn,e,hl⟩:=Kf h5
   exact U8 U (Fz h3) (get_some _ h2) e (hs _ _ ok h1) hl λ z=>zE h4'
  ·obtain ⟨h5,h6⟩:=an h5
   obtain rfl:=beq_iff_eq.mp h5
   exact QG U (Fz h3) (hs _ _ ok h1) (λ z=>zE h4') (get_some _ h2) (beq_iff_eq.mp h6)
 ·intro f o es ho hs cx x ok h
  obtain ⟨h1,h2⟩:=an h
  obtain ⟨h2,h3⟩:=an h2
  obtain ⟨h3,h4⟩:=an h3
  obtain ⟨h4,h5⟩:=an h4
  obtain ⟨h5,h6⟩:=an h5
  obtain ⟨h6,h7⟩:=an h6
  obtain ⟨h7,h8⟩:=an h7
  obtain ⟨fn,e,hl⟩:=Kf h8
  exact .of ok rfl rfl (U9 U (get_some _ h3) e (Sv h4 h5 h6 h7) (ho _ _ ok h1).s (hs _ _ ok h2) hl)
 ·exact λ cx x ok h=> .of ok rfl rfl (aaA U (Fz h))
 ·intro b es hs cx x ok h
  obtain ⟨h1,h2⟩:=an h
  obtain ⟨h2,h3⟩:=an h2
  obtain ⟨h3,h4⟩:=an h3
  have hs:=hs _ _ ok h1
  refine .of ok rfl rfl (show SE G n C cx (.blt b es) (.Call _ (pO es cx (bF x).tail).2 [] _) from ?_)
  generalize (pO es cx (bF x).tail).2=ys at hs h3 h4
  cases ys with
  | nil=>exact Bool.noConfusion h4
  | cons y ys=>
   obtain ⟨h3,h5⟩:=an h3
   exact Qj U.O (Fz h2) hs (Pz h3 ys) λ z=>zE h5
 ·intro m o es ho hs cx x ok h
  obtain ⟨h1,h2⟩:=an h
  obtain ⟨h2,h4⟩:=an h2
  obtain ⟨h4,h5⟩:=an h4
  obtain ⟨h5,h6⟩:=an h5
  obtain ⟨h6,h7⟩:=an h6
  exact .of ok rfl rfl (U3 (Sv h4 h5 h6 h7) (ho _ _ ok h1).s (hs _ _ ok h2))
 ·exact λ e z cx x ok h=>Bool.noConfusion h
 ·intro k it c e hi hc he cx x ok h
  obtain ⟨h1,h2⟩:=an h
  obtain ⟨h2,h3⟩:=an h2
  obtain ⟨h3,h4⟩:=an h3
  obtain ⟨h4,h5⟩:=an h4
  obtain ⟨h5,h6⟩:=an h5
  obtain ⟨h6,h7⟩:=an h6
  obtain ⟨h7,h8⟩:=an h7
  have ok':=bE h2
  have S:jl cx (qK cx (Iz x).names k (Ib (bP x 1))) {Iz x with kind:= .function} k (Ib (bP x 1)):=G3 h1 rfl rfl (by have:=QH h3; rwa [ceq h4] at this) rfl ⟨rfl,rfl⟩ ok' ok
  have i:=(hi _ _ ok h5).s
  have e':=(he _ _ ok' h6).s
  have c':=hc _ _ ok' h7
  refine ⟨vt S i e' c' (k_fold h8),λ z=>SJ (vt S i e' c' (k_fold h8)) λ z z=>rfl,λ j y p pos hy hm ha=>?_⟩
  rcases (Bool.or_eq_true _ _▸ha:_\/_) with ha | ha
  ·exact Bool.noConfusion ha
  rcases (Bool.or_eq_true _ _▸(an ha).2:_\/_) with ha | ha
  ·exact tq ok hy hm (vt S i e' c' (k_fold h8)) (Qw (beq_iff_eq.mp ha))
  ·obtain ⟨h9,OW⟩:=an ha
   obtain ⟨h9,DN⟩:=an h9
   exact tu S i e' c' (k_fold h8) hy hm (Qx (beq_iff_eq.mp h9) DN (Bool.not_eq_true' _▸OW))
 ·exact λ e he cx x ok h=>(he _ _ ok (an h).1).t (an h).2
 ·exact λ b hb cx x ok h=>Gx (hb _ _ ok h)
 ·exact λ bs hb cx x ok h=>snd_and (hb _ _ ok h).1
 ·exact λ bs hb cx x ok h=>Ni (hb _ _ ok h).2
 ·exact λ cx x ok h=>Gw
 ·exact λ e es he hs cx x ok h=>M8 (he _ _ ok (an h).1).s (hs _ _ ok (an (an h).2).1) (Pz (an (an h).2).2 _)
 ·exact λ cx x ok h=>rfl
 ·exact λ b hb cx x ok h=>⟨_,rfl,hb _ _ ok h⟩
 ·exact λ cx x ok h=>⟨sq,vA⟩
 ·exact λ b bs hb hs cx x ok h=>⟨qJ (hb _ _ ok (an h).1) (hs _ _ ok (an h).2).1,sr (hb _ _ ok (an h).1) (hs _ _ ok (an h).2).2⟩
theorem VW (U:dg G K mg mb n C) (b:B):MB G n C b:=
 B.rec (motive_1:=λ y=>True) (motive_2:=MB G n C) (motive_3:=λ y=>True) (motive_4:=λ y=>True) (motive_5:=MBs G n C) trivial (λ y=>trivial) (λ y=>trivial) (λ y=>trivial) (λ y=>trivial) (λ y y y y y=>trivial) (λ y y=>trivial) (λ y y=>trivial) (λ y y y y y=>trivial) (λ y y y y y y=>trivial) (λ y y y y y=>trivial)
  (λ y y y=>trivial) (λ y y y y=>trivial) (λ y y y y=>trivial) (λ y y y y=>trivial) (λ y y=>trivial) (λ y y=>trivial) trivial (λ y y y y=>trivial) (λ y y y=>trivial) (λ y y y y y=>trivial) trivial (λ y y y=>trivial) (λ y y y y y=>trivial) (λ y y=>trivial) (λ y y y y y y y=>trivial)
  (λ e y cx x ok h=>(oT U e _ _ ok (an h).1).t (an h).2) (λ b hb cx x ok h=>Gx (hb _ _ ok h)) (λ bs hb cx x ok h=>snd_and (hb _ _ ok h).1) (λ bs hb cx x ok h=>Ni (hb _ _ ok h).2) trivial (λ y y y y=>trivial) trivial (λ y y=>trivial)
  (λ cx x ok h=>⟨sq,vA⟩) (λ b bs hb hs cx x ok h=>⟨qJ (hb _ _ ok (an h).1) (hs _ _ ok (an h).2).1,sr (hb _ _ ok (an h).1) (hs _ _ ok (an h).2).2⟩) b
noncomputable def MS (G:Pg) (n:Nat) (C:CT) (t:S):Prop:= ∀cx x,aP cx->(mS t cx x).1=true->SS G n C cx t (mS t cx x).2
noncomputable def MSs (G:Pg) (n:Nat) (C:CT) (ts:List S):Prop:= ∀cx xs,aP cx->(C8 ts cx xs).1=true->c6 G n C cx ts (C8 ts cx xs).2
theorem HP {cx:Cx} {i:Nat} (h:XB cx i=true):cx.at i (vN cx i)/\vN cx i∈cx.mine:=⟨QH (an h).1,List.contains_iff_mem.mp (an h).2⟩
theorem VX (U:dg G K mg mb n C) (ts:List S):MSs G n C ts:=by
 refine S.rec_1 (motive_1:=MS G n C) (motive_2:=MSs G n C) ?_ ?_ ?_ ?_ ?_ ?_ ?_ ?_ ?_ ?_ ?_ ?_ ?_ ?_ ?_ ?_ ts
 ·exact λ i e cx x ok h=>(oT U e _ _ ok (an (an h).2).1).a _ _ _ _ (HP (an h).1).1 (HP (an h).1).2 (an (an h).2).2
 ·exact λ is e cx x ok h=>Ez ok (Sr (an h).1) (oT U e _ _ ok (an (an h).2).1).s (λ env=>PA (an (an (an h).2).2).1 (some (.Tuple (mT cx is (bF (sx x 0))).2 (NW (sx x 0)) (sx x 0).pos)) x.pos.line env) λ env=>Xr (an (an (an h).2).2).2 _ _ _ env
 ·exact λ o i e cx x ok h=>Ey (oT U o _ _ ok (an h).1).s (oT U i _ _ ok (an (an h).2).1).s (oT U e _ _ ok (an (an (an h).2).2).1).s λ env=>PA (an (an (an h).2).2).2 _ _ env
 ·exact λ i op e cx x ok h=>Ew ok (HP (an h).1).1 (HP (an h).1).2 (oT U e _ _ ok (an h).2).s
 ·exact λ o i op e cx x ok h=>Eu (oT U o _ _ ok (an h).1).s (oT U i _ _ ok (an (an h).2).1).s (oT U e _ _ ok (an (an (an h).2).2).1).s (Xq (an (an (an h).2).2).2)
 ·exact λ e cx x ok h=>Nb (oT U e _ _ ok (an h).1).s hi0 λ env=>PA (an h).2 _ _ env
 ·exact λ c t f ht hf cx x ok h=>Gv (VW U c _ _ ok (an h).1) (ht _ _ ok (an (an h).2).1) (hf _ _ ok (an (an h).2).2)
 ·exact λ c b hb cx x ok h=>IL (VW U c _ _ ok (an h).1) (hb _ _ ok (an h).2)
 ·exact λ i it b hb cx x ok h=>Cr ok (HP (an h).1).1 (HP (an h).1).2 (oT U it _ _ ok (an (an h).2).1).s (hb _ _ ok (an (an (an h).2).2).1) (k_fold (an (an (an h).2).2).2)
 ·exact λ is it b hb cx x ok h=>Nc ok (Sr (an h).1) (oT U it _ _ ok (an (an h).2).1).s (hb _ _ ok (an (an (an h).2).2).1) (k_fold (an (an (an h).2).2).2)
 ·exact λ cx x ok h=>Ql
 ·exact λ cx x ok h=>M9
 ·exact λ e cx x ok h=>Qq (oT U e _ _ ok h).s
 ·exact λ cx x ok h=>IJ
 ·exact λ cx x ok h=>vB
 ·exact λ t ts ht hs cx x ok h=>j6 (ht _ _ ok (an h).1) (hs _ _ ok (an h).2)
theorem eE (U:dg G K mg mb n C) {cx:Cx} {ts:List S} {xs:List Stmt} (ok:aP cx) (h:(C8 ts cx xs).1=true) (e:(C8 ts cx xs).2=xs):c6 G n C cx ts xs:=e▸VX U ts cx xs ok h
theorem VY (U:dg G K mg mb n C) {cx:Cx} {t:E} {x:Expr} (ok:aP cx) (h:(mE t cx x).1=true) (e:(mE t cx x).2=x):SE G n C cx t x:=e▸(oT U t cx x ok h).s
end
end
section
open PySem PySem.W PyProof.Rows
section
variable {G:Pg} {n:Nat} {C:CT} {K:Frag} {mg mb:Str->Option Value}
theorem BE (U:dg G K mg mb n C):c6 G n C ki iV mw:=eE U zH (by decide+kernel) rfl
theorem zm (U:dg G K mg mb n C):c6 G n C jt gP lz:=eE U wA (by decide+kernel) rfl
theorem Uy (U:dg G K mg mb n C):c6 G n C yy ke wZ:=
 j6 (Gv (Cq (tG _) (tP qD rfl) (tP qD rfl) rfl) (j6 (snd_swap qD rfl (mm 1 rfl) rfl (mm 2 rfl) (by decide) (VY U qD (by decide+kernel) rfl) (λ x=>rfl)
  (λ env h1 h2=>by obtain ⟨⟨kd,XG,a,b,c⟩,d,e,f,g,h,i,j,k⟩:=env; cases h1; cases h2; rfl)) vB) vB) (eE U qD (by decide+kernel) rfl)
theorem XD (U:dg G K mg mb n C):c6 G n C Dv Fo Av:=eE U UI (by decide+kernel) rfl
theorem Uz (U:dg G K mg mb n C):c6 G n C yz yi w0:=eE U P6 (by decide+kernel) rfl
theorem zz (U:dg G K mg mb n C):c6 G n C jD gX lJ:=eE U wM (by decide+kernel) rfl
theorem PT (U:dg G K mg mb n C):c6 G n C uf tF ua:=eE U My (by decide+kernel) rfl
theorem zr (U:dg G K mg mb n C):c6 G n C jx gS lD:=eE U wF (by decide+kernel) rfl
theorem BO (U:dg G K mg mb n C):c6 G n C kC i7 mI:=eE U zQ (by decide+kernel) rfl
theorem Ec (U:dg G K mg mb n C):c6 G n C mM ka ow:=eE U B4 (by decide+kernel) rfl
theorem HN (U:dg G K mg mb n C):c6 G n C oV nJ p0:=eE U Ej (by decide+kernel) rfl
theorem zq (U:dg G K mg mb n C):c6 G n C jw gR lC:=eE U wD (by decide+kernel) rfl
theorem wy (U:dg G K mg mb n C):c6 G n C iG fG jS:=eE U vk (by decide+kernel) rfl
theorem Ux (U:dg G K mg mb n C):c6 G n C yx jq wY:=eE U P5 (by decide+kernel) rfl
theorem zv (U:dg G K mg mb n C):c6 G n C jA cM lG:=eE U wJ (by decide+kernel) rfl
theorem Mf (U:dg G K mg mb n C):c6 G n C qZ pW r5:=eE U Il (by decide+kernel) rfl
theorem oq (U:dg G K mg mb n C):c6 G n C bw cz eC:=
 j6 (pJ bN rfl (mm 1 rfl) (Ct Gw (Nat.le_of_ble_eq_true rfl)) (λ x=>rfl)) (j6 (Cr bN rfl (mm 2 rfl) (IK U.O U.L (lk nr 5 rfl) (tP bN rfl) (λ x=>rfl))
  (eE U bN (by decide+kernel) rfl) (λ x x=>rfl)) (eE U bN (by decide+kernel) rfl))
theorem BL (U:dg G K mg mb n C):c6 G n C kA i5 mG:=eE U zN (by decide+kernel) rfl
theorem Ed (U:dg G K mg mb n C):c6 G n C mN kb oz:=eE U B5 (by decide+kernel) rfl
theorem Uw (U:dg G K mg mb n C):c6 G n C yw yh wX:=eE U P4 (by decide+kernel) rfl
theorem sU (U:dg G K mg mb n C):c6 G n C eX dH iw:=eE U rF (by decide+kernel) rfl
theorem BH (U:dg G K mg mb n C):c6 G n C ko iY mC:=eE U zK (by decide+kernel) rfl
theorem zy (U:dg G K mg mb n C):c6 G n C jC gW lI:=eE U wL (by decide+kernel) rfl
theorem BF (U:dg G K mg mb n C):c6 G n C kj iW mz:=eE U zI (by decide+kernel) rfl
theorem HR (U:dg G K mg mb n C):c6 G n C oX nL qb:=eE U Em (by decide+kernel) rfl
theorem PS (U:dg G K mg mb n C):c6 G n C ue tE t9:=eE U Mx (by decide+kernel) rfl
theorem Mb (U:dg G K mg mb n C):c6 G n C qW pU rZ:=eE U Ij (by decide+kernel) rfl
theorem rA (U:dg G K mg mb n C):c6 G n C eF di gK:=eE U qC (by decide+kernel) rfl
theorem zo (U:dg G K mg mb n C):c6 G n C ju gQ lA:=eE U wB (by decide+kernel) rfl
theorem rB (U:dg G K mg mb n C):c6 G n C eG dj gL:=eE U qE (by decide+kernel) rfl
theorem sS (U:dg G K mg mb n C):c6 G n C eV dF il:=eE U rD (by decide+kernel) rfl
theorem HM (U:dg G K mg mb n C):c6 G n C oU nI pZ:=eE U Ei (by decide+kernel) rfl
theorem HQ (U:dg G K mg mb n C):c6 G n C oW nK qa:=eE U El (by decide+kernel) rfl
theorem zx (U:dg G K mg mb n C):c6 G n C jB gV lH:=eE U wK (by decide+kernel) rfl
theorem sX (U:dg G K mg mb n C):c6 G n C fe dK iB:=eE U rI (by decide+kernel) rfl
theorem sW (U:dg G K mg mb n C):c6 G n C eZ dJ iA:=eE U rH (by decide+kernel) rfl
theorem sk (U:dg G K mg mb n C):c6 G n C cO i6 iC:=eE U zO (by decide+kernel) rfl
theorem sV (U:dg G K mg mb n C):c6 G n C eY dI iz:=eE U rG (by decide+kernel) rfl
theorem sT (U:dg G K mg mb n C):c6 G n C eW dG iu:=eE U rE (by decide+kernel) rfl
theorem oo (U:dg G K mg mb n C):c6 G n C c9 cy eB:=eE U ny (by decide+kernel) rfl
theorem Ma (U:dg G K mg mb n C):c6 G n C qV fO rY:=eE U Ii (by decide+kernel) rfl
theorem BM (U:dg G K mg mb n C):c6 G n C kB cK mH:=eE U zP (by decide+kernel) rfl
theorem zp (U:dg G K mg mb n C):c6 G n C jv bq lB:=eE U wC (by decide+kernel) rfl
theorem BG (U:dg G K mg mb n C):c6 G n C km iX mA:=eE U zJ (by decide+kernel) rfl
theorem u9 (U:dg G K mg mb n C):c6 G n C gd ey jc:=eE U s9 (by decide+kernel) rfl
theorem u5 (U:dg G K mg mb n C):c6 G n C f5 er ja:=eE U sZ (by decide+kernel) rfl
theorem u6 (U:dg G K mg mb n C):c6 G n C f7 eu jb:=eE U s8 (by decide+kernel) rfl
theorem vd (U:dg G K mg mb n C):c6 G n C gf eA jd:=eE U tj (by decide+kernel) rfl
theorem lW (U:dg G K mg mb n C):c6 G n C cN b6 dA:=eE U kW (by decide+kernel) rfl
theorem Ee (U:dg G K mg mb n C):c6 G n C mP dP oA:=eE U B6 (by decide+kernel) rfl
theorem Md (U:dg G K mg mb n C):c6 G n C qY pV r4:=eE U Ik (by decide+kernel) rfl
theorem zu (U:dg G K mg mb n C):c6 G n C jz gU lF:=eE U wI (by decide+kernel) rfl
theorem BJ (U:dg G K mg mb n C):c6 G n C kz i3 mF:=eE U zM (by decide+kernel) rfl
theorem zt (U:dg G K mg mb n C):c6 G n C jy gT lE:=eE U wH (by decide+kernel) rfl
theorem BI (U:dg G K mg mb n C):c6 G n C ku iZ mD:=eE U zL (by decide+kernel) rfl
theorem Eg (U:dg G K mg mb n C):c6 G n C mQ kg oB:=eE U B7 (by decide+kernel) rfl
theorem Ef (U:dg G K mg mb n C):c6 G n C qX (Ao.drop 1) (iq.drop 1):=eE U Ek (by decide+kernel) rfl
theorem XC (U:dg G K mg mb n C):c6 G n C qX Ao iq:=eE U Ek (by decide+kernel) rfl
end
end
section
open PySem PySem.W PyProof.Rows PySem.SeqAt
noncomputable abbrev pw:Program:=PySem.Challenge.pw_nn0329_01
noncomputable def z6:Nat->(List Value->Prop)->Prop
 | 0,P=>P []
 | n+1,P=> ∀a,z6 n λ l=>P (a::l)
theorem Fh: ∀{n:Nat} {P:List Value->Prop},z6 n P->∀us:List Value,us.length=n->P us
 | 0,_,h,[],_=>h
 | n+1,P,h,a::us,e=>Fh (n:=n) (P:=λ l=>P (a::l)) (h a) us (by simpa using e)
 | 0,_,_,_::_,e=>by simp at e
 | _+1,_,_,[],e=>by simp at e
noncomputable def nC (cx:Cx) (n:Nat):List Str:=(cx.vis.take n).filterMap id
noncomputable def Ge:List Str->Bool
 | []=>true
 | x::r=>!r.contains x && Ge r
theorem BP: ∀{l:List Str},Ge l=true->l.Nodup
 | [],_=> .nil
 | x::r,h=>by
  replace h:(!r.contains x && Ge r)=true:=h
  simp only [Bool.and_eq_true,Bool.not_eq_true'] at h
  exact List.nodup_cons.mpr ⟨by simpa using h.1,BP h.2⟩
noncomputable def MH (cx:Cx) (n:Nat):Bool:=(cx.vis.take n == (nC cx n).map some) && (nC cx n).length == n && Ge (nC cx n) && (nC cx n).all λ x=>cx.mine.contains x
theorem Cb {cx:Cx} {n:Nat} (h:MH cx n=true):(nC cx n).length=n/\(nC cx n).Nodup/\(∀(i:Nat) (x:Str),(nC cx n)[i]?=some x->cx.at i x/\x∈cx.mine)/\(∀(i:Nat) (x:Str),i < (nC cx n).length->cx.at i x->(nC cx n)[i]?=some x):=by
 simp only [MH,Bool.and_eq_true,beq_iff_eq] at h
 obtain ⟨⟨⟨h1,h2⟩,h3⟩,h4⟩:=h
 have key: ∀i,i < n->cx.vis[i]?=((nC cx n)[i]?).map some:=λ i hi=>by
  have:(cx.vis.take n)[i]?=((nC cx n).map some)[i]?:=by rw [h1]
  rwa [List.getElem?_take_of_lt hi,List.getElem?_map] at this
 refine ⟨h2,BP h3,λ i x e=>?_,λ i x hi e=>?_⟩
 ·have hi:i < n:=by rw [<- h2]; exact (List.getElem?_eq_some_iff.mp e).1
  refine ⟨?_,?_⟩
  ·show cx.vis[i]?=_
   rw [key i hi,e]; rfl
  ·have:=List.all_eq_true.mp h4 x (List.mem_of_getElem? e)
   simpa using this
 ·have:=key i (by lia)
  rw [show cx.vis[i]?=some (some x) from e] at this
  cases q:(nC cx n)[i]? with
  | none=>rw [q] at this; cases this
  | some y=>rw [q] at this; simp at this; rw [this]
noncomputable def BA (fd:FuncData) (fn:Fn) (cx:Cx):Prop:= ∀m,z6 fn.params λ us=>bindArgs {fd with pyModule:=m} ⟨us,[]⟩=pure ((nC cx fn.params).zip us)
noncomputable def BK (fd:FuncData) (fn:Fn) (cx:Cx):Prop:=(cx.names.all λ x=>x.2 != .cell)=true/\∀(P:Params) m,z6 fn.params λ us=> ∀S,peek (kF pw P) S (bindArgs {fd with pyModule:=m} ⟨us,[]⟩)=some ((nC cx fn.params).zip us)
inductive FI (fo:Option FuncData) (fn:Fn) (cx:Cx) (body:List Stmt):Prop where
 | mk (fd:FuncData) (e:fo=some fd) (g1:fd.body= .stmts body) (g2:fd.closure= []) (g3:fd.globals=mainGlobals) (g4:fd.builtins=builtinsNs) (g5:fd.code=cx.code/\fd.qualname++ ".<locals>." =cx.qual)
  (g6:fd.scope.names=cx.names) (g7:fd.scope.kind= .function) (g8:fd.scope.isCoroutine=false) (g9:fd.scope.isGenerator=false) (Ym:MH cx fn.params=true) (Yn:F9 cx=true)
  (ZA:BA fd fn cx\/BK fd fn cx)
theorem Gp {h:Heap} {a:Addr} {fd:FuncData} (e:kP h a=some fd): ∃o m,h.get? a=some o/\o.data= .func {fd with pyModule:=m}:=by
 obtain ⟨o,ho,e⟩:=Option.bind_eq_some_iff.mp e
 cases hd:o.data with
 | func fd'=>rw [hd] at e; obtain rfl:=Option.some.inj e; exact ⟨o,fd'.pyModule,ho,hd⟩
 | _=>rw [hd] at e; exact bh e
structure oQ (w:World) (h:Heap):Prop where
 k:(kF pw w.params).In h
 f: ∀x∈fns pw,∀fd,x.2=some fd->kP h x.1=some fd
 c: ∀x∈GX,h.CodeRec (.ref x.1) x.2
 hd:CodeHd h 243 239
theorem yQ {w:World} {B:Heap} {a c:Addr} {q:Str} {fo:Option FuncData} {fn:Fn} {cx:Cx} {body:List Stmt} (hk:(kF pw w.params).In B) (hf: ∀fd,fo=some fd->kP B a=some fd) (hc:B.CodeRec (.ref c) q)
  (F:FI fo fn cx body) (h1:cx.code= .ref c) (h2:fo.map (·.qualname)=some q):GK B a fn cx body:=by
 obtain ⟨fd,e,g1,g2,g3,g4,g5,g6,g7,g8,g9,Ym,Yn,ZA⟩:=F
 obtain ⟨o,m,ho,hd⟩:=Gp (hf fd e)
 obtain ⟨p1,p2,p3,p4⟩:=Cb Ym
 refine ⟨⟨o,{fd with pyModule:=m},nC cx fn.params,ho,hd,?_,g1,g2,g3,g4,g5,g6,g7,g8,g9,p1,p2,?_,p3,p4⟩,Ga Yn⟩
 ·show B.CodeRec fd.code fd.qualname
  rw [e] at h2; rw [g5.1,h1,show fd.qualname=q from Option.some.inj h2]; exact hc
 ·rcases ZA with g | ⟨gc,g⟩
  ·exact .inr λ us hu=>Fh (g m) us (by lia)
  ·refine .inl ⟨λ x hx e=>?_,λ s us hs hu=>?_⟩
   ·have:=List.all_eq_true.mp gc x hx
    rw [e] at this; exact absurd this (by decide)
   ·exact kp_binds (hk.keeps hs) λ S=>Fh (g w.params m) us (by lia) S
theorem yG:FI (xa (jJ pw 1) (Str.ofString "Aig.add_input") 41 .none) mR ki mw:=⟨(xa (jJ pw 1) (Str.ofString "Aig.add_input") 41 .none).get rfl,rfl,rfl,rfl,rfl,rfl,⟨rfl,rfl⟩,rfl,rfl,rfl,rfl,by decide+kernel,by decide+kernel, .inl (λ x=>λ x=>rfl)⟩
theorem vW:FI (xa (jJ pw 2) (Str.ofString "Aig.add_output") 48 .none) kD jt lz:=⟨(xa (jJ pw 2) (Str.ofString "Aig.add_output") 48 .none).get rfl,rfl,rfl,rfl,rfl,rfl,⟨rfl,rfl⟩,rfl,rfl,rfl,rfl,by decide+kernel,by decide+kernel, .inl (λ x=>λ x x=>rfl)⟩
theorem OQ:FI (xa (jJ pw 4) (Str.ofString "Aig.land") 62 .none) DE yy wZ:=⟨(xa (jJ pw 4) (Str.ofString "Aig.land") 62 .none).get rfl,rfl,rfl,rfl,rfl,rfl,⟨rfl,rfl⟩,rfl,rfl,rfl,rfl,by decide+kernel,by decide+kernel, .inl (λ x=>λ x x x=>rfl)⟩
theorem TH:FI (xa (jJ pw 5) (Str.ofString "Aig.lor") 69 .none) J5 Dv Av:=⟨(xa (jJ pw 5) (Str.ofString "Aig.lor") 69 .none).get rfl,rfl,rfl,rfl,rfl,rfl,⟨rfl,rfl⟩,rfl,rfl,rfl,rfl,by decide+kernel,by decide+kernel, .inl (λ x=>λ x x x=>rfl)⟩
theorem OS:FI (xa (jJ pw 7) (Str.ofString "Aig.lmux") 83 .none) DF yz w0:=⟨(xa (jJ pw 7) (Str.ofString "Aig.lmux") 83 .none).get rfl,rfl,rfl,rfl,rfl,rfl,⟨rfl,rfl⟩,rfl,rfl,rfl,rfl,by decide+kernel,by decide+kernel, .inl (λ x=>λ x x x x=>rfl)⟩
theorem wj:FI (aY (av pw 4) 133 .none) kN jD lJ:=⟨(aY (av pw 4) 133 .none).get rfl,rfl,rfl,rfl,rfl,rfl,⟨rfl,rfl⟩,rfl,rfl,rfl,rfl,by decide+kernel,by decide+kernel, .inl (λ x=>λ x=>rfl)⟩
theorem Kb:FI (aY (av pw 5) 140 .none) yF uf ua:=⟨(aY (av pw 5) 140 .none).get rfl,rfl,rfl,rfl,rfl,rfl,⟨rfl,rfl⟩,rfl,rfl,rfl,rfl,by decide+kernel,by decide+kernel, .inl (λ x=>λ x=>rfl)⟩
theorem v7:FI (aY (av pw 10) 180 .none) kH jx lD:=⟨(aY (av pw 10) 180 .none).get rfl,rfl,rfl,rfl,rfl,rfl,⟨rfl,rfl⟩,rfl,rfl,rfl,rfl,by decide+kernel,by decide+kernel, .inl (λ x=>λ x=>rfl)⟩
theorem yO:FI (aY (av pw 11) 187 .none) m3 kC mI:=⟨(aY (av pw 11) 187 .none).get rfl,rfl,rfl,rfl,rfl,rfl,⟨rfl,rfl⟩,rfl,rfl,rfl,rfl,by decide+kernel,by decide+kernel, .inl (λ x=>λ x x=>rfl)⟩
theorem AO:FI (aY (av pw 12) 194 .none) pd mM ow:=⟨(aY (av pw 12) 194 .none).get rfl,rfl,rfl,rfl,rfl,rfl,⟨rfl,rfl⟩,rfl,rfl,rfl,rfl,by decide+kernel,by decide+kernel, .inl (λ x=>λ x x x x=>rfl)⟩
theorem DH:FI (aY (av pw 13) 201 .none) rh oV p0:=⟨(aY (av pw 13) 201 .none).get rfl,rfl,rfl,rfl,rfl,rfl,⟨rfl,rfl⟩,rfl,rfl,rfl,rfl,by decide+kernel,by decide+kernel, .inl (λ x=>λ x x x=>rfl)⟩
theorem vZ:FI (aY (av pw 14) 208 .none) kG jw lC:=⟨(aY (av pw 14) 208 .none).get rfl,rfl,rfl,rfl,rfl,rfl,⟨rfl,rfl⟩,rfl,rfl,rfl,rfl,by decide+kernel,by decide+kernel, .inl (λ x=>λ x x=>rfl)⟩
theorem uz:FI (aY (av pw 15) 215 .none) jF iG jS:=⟨(aY (av pw 15) 215 .none).get rfl,rfl,rfl,rfl,rfl,rfl,⟨rfl,rfl⟩,rfl,rfl,rfl,rfl,by decide+kernel,by decide+kernel, .inl (λ x=>λ x x=>rfl)⟩
theorem OO:FI (aY (av pw 16) 222 .none) DC yx wY:=⟨(aY (av pw 16) 222 .none).get rfl,rfl,rfl,rfl,rfl,rfl,⟨rfl,rfl⟩,rfl,rfl,rfl,rfl,by decide+kernel,by decide+kernel, .inl (λ x=>λ x x x=>rfl)⟩
theorem wc:FI (aY (av pw 18) 229 .none) kK jA lG:=⟨(aY (av pw 18) 229 .none).get rfl,rfl,rfl,rfl,rfl,rfl,⟨rfl,rfl⟩,rfl,rfl,rfl,rfl,by decide+kernel,by decide+kernel, .inl (λ x=>λ x x x=>rfl)⟩
theorem Hi:FI (aY (av pw 19) 236 .none) uy qZ r5:=⟨(aY (av pw 19) 236 .none).get rfl,rfl,rfl,rfl,rfl,rfl,⟨rfl,rfl⟩,rfl,rfl,rfl,rfl,by decide+kernel,by decide+kernel, .inl (λ x=>λ x x=>rfl)⟩
theorem m5:FI (aY (av pw 20) 243 .none) dy bw eC:=⟨(aY (av pw 20) 243 .none).get rfl,rfl,rfl,rfl,rfl,rfl,⟨rfl,rfl⟩,rfl,rfl,rfl,rfl,by decide+kernel,by decide+kernel, .inl (λ x=>λ x=>rfl)⟩
theorem yM:FI (aY (av pw 21) 250 .none) mZ kA mG:=⟨(aY (av pw 21) 250 .none).get rfl,rfl,rfl,rfl,rfl,rfl,⟨rfl,rfl⟩,rfl,rfl,rfl,rfl,by decide+kernel,by decide+kernel, .inl (λ x=>λ x x x x x=>rfl)⟩
theorem AP:FI (aY (av pw 22) 257 .none) pe mN oz:=⟨(aY (av pw 22) 257 .none).get rfl,rfl,rfl,rfl,rfl,rfl,⟨rfl,rfl⟩,rfl,rfl,rfl,rfl,by decide+kernel,by decide+kernel, .inl (λ x=>λ x x x=>rfl)⟩
theorem OJ:FI (aY (av pw 23) 264 .none) DB yw wX:=⟨(aY (av pw 23) 264 .none).get rfl,rfl,rfl,rfl,rfl,rfl,⟨rfl,rfl⟩,rfl,rfl,rfl,rfl,by decide+kernel,by decide+kernel, .inl (λ x=>λ x x x=>rfl)⟩
theorem rn:FI (aY (av pw 24) 271 .none) gn eX iw:=⟨(aY (av pw 24) 271 .none).get rfl,rfl,rfl,rfl,rfl,rfl,⟨rfl,rfl⟩,rfl,rfl,rfl,rfl,by decide+kernel,by decide+kernel, .inl (λ x=>λ x x x=>rfl)⟩
theorem yJ:FI (aY (av pw 25) 278 .none) mW ko mC:=⟨(aY (av pw 25) 278 .none).get rfl,rfl,rfl,rfl,rfl,rfl,⟨rfl,rfl⟩,rfl,rfl,rfl,rfl,by decide+kernel,by decide+kernel, .inl (λ x=>λ x x x=>rfl)⟩
theorem wh:FI (aY (av pw 27) 285 .none) kM jC lI:=⟨(aY (av pw 27) 285 .none).get rfl,rfl,rfl,rfl,rfl,rfl,⟨rfl,rfl⟩,rfl,rfl,rfl,rfl,by decide+kernel,by decide+kernel, .inl (λ x=>λ x=>rfl)⟩
theorem yH:FI (aY (av pw 28) 292 .none) mU kj mz:=⟨(aY (av pw 28) 292 .none).get rfl,rfl,rfl,rfl,rfl,rfl,⟨rfl,rfl⟩,rfl,rfl,rfl,rfl,by decide+kernel,by decide+kernel, .inl (λ x=>λ x=>rfl)⟩
theorem DJ:FI (aY (av pw 29) 299 .none) rj oX qb:=⟨(aY (av pw 29) 299 .none).get rfl,rfl,rfl,rfl,rfl,rfl,⟨rfl,rfl⟩,rfl,rfl,rfl,rfl,by decide+kernel,by decide+kernel, .inl (λ x=>λ x=>rfl)⟩
theorem Ka:FI (aY (av pw 30) 306 .none) yE ue t9:=⟨(aY (av pw 30) 306 .none).get rfl,rfl,rfl,rfl,rfl,rfl,⟨rfl,rfl⟩,rfl,rfl,rfl,rfl,by decide+kernel,by decide+kernel, .inl (λ x=>λ x x=>rfl)⟩
theorem Hg:FI (aY (av pw 31) 313 .none) uw qW rZ:=⟨(aY (av pw 31) 313 .none).get rfl,rfl,rfl,rfl,rfl,rfl,⟨rfl,rfl⟩,rfl,rfl,rfl,rfl,by decide+kernel,by decide+kernel, .inl (λ x=>λ x x x=>rfl)⟩
theorem qk:FI (aY (av pw 32) 320 .none) fg eF gK:=⟨(aY (av pw 32) 320 .none).get rfl,rfl,rfl,rfl,rfl,rfl,⟨rfl,rfl⟩,rfl,rfl,rfl,rfl,by decide+kernel,by decide+kernel, .inl (λ x=>λ x x=>rfl)⟩
theorem vX:FI (aY (av pw 33) 327 .none) kE ju lA:=⟨(aY (av pw 33) 327 .none).get rfl,rfl,rfl,rfl,rfl,rfl,⟨rfl,rfl⟩,rfl,rfl,rfl,rfl,by decide+kernel,by decide+kernel, .inl (λ x=>λ x x x=>rfl)⟩
theorem ql:FI (aY (av pw 34) 334 .none) fj eG gL:=⟨(aY (av pw 34) 334 .none).get rfl,rfl,rfl,rfl,rfl,rfl,⟨rfl,rfl⟩,rfl,rfl,rfl,rfl,by decide+kernel,by decide+kernel, .inl (λ x=>λ x x=>rfl)⟩
theorem rk:FI (aY (av pw 35) 341 .none) gj eV il:=⟨(aY (av pw 35) 341 .none).get rfl,rfl,rfl,rfl,rfl,rfl,⟨rfl,rfl⟩,rfl,rfl,rfl,rfl,by decide+kernel,by decide+kernel, .inl (λ x=>λ x x x=>rfl)⟩
theorem DG:FI (aY (av pw 36) 348 .none) rg oU pZ:=⟨(aY (av pw 36) 348 .none).get rfl,rfl,rfl,rfl,rfl,rfl,⟨rfl,rfl⟩,rfl,rfl,rfl,rfl,by decide+kernel,by decide+kernel, .inl (λ x=>λ x=>rfl)⟩
theorem DI:FI (aY (av pw 37) 355 .none) ri oW qa:=⟨(aY (av pw 37) 355 .none).get rfl,rfl,rfl,rfl,rfl,rfl,⟨rfl,rfl⟩,rfl,rfl,rfl,rfl,by decide+kernel,by decide+kernel, .inl (λ x=>λ x x x=>rfl)⟩
theorem wg:FI (aY (av pw 38) 362 .none) kL jB lH:=⟨(aY (av pw 38) 362 .none).get rfl,rfl,rfl,rfl,rfl,rfl,⟨rfl,rfl⟩,rfl,rfl,rfl,rfl,by decide+kernel,by decide+kernel, .inl (λ x=>λ x x=>rfl)⟩
theorem rt:FI (aY (av pw 39) 369 .none) gw fe iB:=⟨(aY (av pw 39) 369 .none).get rfl,rfl,rfl,rfl,rfl,rfl,⟨rfl,rfl⟩,rfl,rfl,rfl,rfl,by decide+kernel,by decide+kernel, .inl (λ x=>λ x x x=>rfl)⟩
theorem rq:FI (aY (av pw 40) 376 .none) gu eZ iA:=⟨(aY (av pw 40) 376 .none).get rfl,rfl,rfl,rfl,rfl,rfl,⟨rfl,rfl⟩,rfl,rfl,rfl,rfl,by decide+kernel,by decide+kernel, .inl (λ x=>λ x x x=>rfl)⟩
theorem qm:FI (aY (av pw 41) 384 (.ref 378)) dW cO iC:=⟨(aY (av pw 41) 384 (.ref 378)).get rfl,rfl,rfl,rfl,rfl,rfl,⟨rfl,rfl⟩,rfl,rfl,rfl,rfl,by decide+kernel,by decide+kernel, .inr ⟨by decide+kernel,λ P x=>λ x x x x=>λ x=>rfl⟩⟩
theorem ro:FI (aY (av pw 42) 391 .none) gp eY iz:=⟨(aY (av pw 42) 391 .none).get rfl,rfl,rfl,rfl,rfl,rfl,⟨rfl,rfl⟩,rfl,rfl,rfl,rfl,by decide+kernel,by decide+kernel, .inl (λ x=>λ x=>rfl)⟩
theorem rm:FI (aY (av pw 43) 398 .none) gk eW iu:=⟨(aY (av pw 43) 398 .none).get rfl,rfl,rfl,rfl,rfl,rfl,⟨rfl,rfl⟩,rfl,rfl,rfl,rfl,by decide+kernel,by decide+kernel, .inl (λ x=>λ x=>rfl)⟩
theorem m4:FI (aY (av pw 44) 405 .none) dw c9 eB:=⟨(aY (av pw 44) 405 .none).get rfl,rfl,rfl,rfl,rfl,rfl,⟨rfl,rfl⟩,rfl,rfl,rfl,rfl,by decide+kernel,by decide+kernel, .inl (λ x=>λ x x=>rfl)⟩
theorem Hf:FI (aY (av pw 45) 412 .none) ur qV rY:=⟨(aY (av pw 45) 412 .none).get rfl,rfl,rfl,rfl,rfl,rfl,⟨rfl,rfl⟩,rfl,rfl,rfl,rfl,by decide+kernel,by decide+kernel, .inl (λ x=>λ x x=>rfl)⟩
theorem yN:FI (aY (av pw 46) 419 .none) fR kB mH:=⟨(aY (av pw 46) 419 .none).get rfl,rfl,rfl,rfl,rfl,rfl,⟨rfl,rfl⟩,rfl,rfl,rfl,rfl,by decide+kernel,by decide+kernel, .inl (λ x=>λ x=>rfl)⟩
theorem vY:FI (aY (av pw 47) 426 .none) cP jv lB:=⟨(aY (av pw 47) 426 .none).get rfl,rfl,rfl,rfl,rfl,rfl,⟨rfl,rfl⟩,rfl,rfl,rfl,rfl,by decide+kernel,by decide+kernel, .inl (λ x=>λ x x x=>rfl)⟩
theorem yI:FI (aY (av pw 48) 433 .none) mV km mA:=⟨(aY (av pw 48) 433 .none).get rfl,rfl,rfl,rfl,rfl,rfl,⟨rfl,rfl⟩,rfl,rfl,rfl,rfl,by decide+kernel,by decide+kernel, .inl (λ x=>λ x x=>rfl)⟩
theorem sG:FI (aY (av pw 49) 440 .none) iK gd jc:=⟨(aY (av pw 49) 440 .none).get rfl,rfl,rfl,rfl,rfl,rfl,⟨rfl,rfl⟩,rfl,rfl,rfl,rfl,by decide+kernel,by decide+kernel, .inl (λ x=>λ x x x x=>rfl)⟩
theorem sD:FI (aY (av pw 50) 447 .none) iI f5 ja:=⟨(aY (av pw 50) 447 .none).get rfl,rfl,rfl,rfl,rfl,rfl,⟨rfl,rfl⟩,rfl,rfl,rfl,rfl,by decide+kernel,by decide+kernel, .inl (λ x=>λ x x x=>rfl)⟩
theorem sE:FI (aY (av pw 51) 454 .none) iJ f7 jb:=⟨(aY (av pw 51) 454 .none).get rfl,rfl,rfl,rfl,rfl,rfl,⟨rfl,rfl⟩,rfl,rfl,rfl,rfl,by decide+kernel,by decide+kernel, .inl (λ x=>λ x x=>rfl)⟩
theorem sH:FI (aY (av pw 52) 462 (.ref 456)) iL gf jd:=⟨(aY (av pw 52) 462 (.ref 456)).get rfl,rfl,rfl,rfl,rfl,rfl,⟨rfl,rfl⟩,rfl,rfl,rfl,rfl,by decide+kernel,by decide+kernel, .inr ⟨by decide+kernel,λ P x=>λ x x x=>λ x=>rfl⟩⟩
theorem kO:FI (aY (av pw 53) 470 (.ref 464)) cV cN dA:=⟨(aY (av pw 53) 470 (.ref 464)).get rfl,rfl,rfl,rfl,rfl,rfl,⟨rfl,rfl⟩,rfl,rfl,rfl,rfl,by decide+kernel,by decide+kernel, .inr ⟨by decide+kernel,λ P x=>λ x x x x=>λ x=>rfl⟩⟩
theorem AQ:FI (aY (av pw 55) 477 .none) pf mP oA:=⟨(aY (av pw 55) 477 .none).get rfl,rfl,rfl,rfl,rfl,rfl,⟨rfl,rfl⟩,rfl,rfl,rfl,rfl,by decide+kernel,by decide+kernel, .inl (λ x=>λ x x=>rfl)⟩
theorem Hh:FI (aY (av pw 56) 484 .none) ux qY r4:=⟨(aY (av pw 56) 484 .none).get rfl,rfl,rfl,rfl,rfl,rfl,⟨rfl,rfl⟩,rfl,rfl,rfl,rfl,by decide+kernel,by decide+kernel, .inl (λ x=>λ x x x=>rfl)⟩
theorem wa:FI (aY (av pw 57) 491 .none) kJ jz lF:=⟨(aY (av pw 57) 491 .none).get rfl,rfl,rfl,rfl,rfl,rfl,⟨rfl,rfl⟩,rfl,rfl,rfl,rfl,by decide+kernel,by decide+kernel, .inl (λ x=>λ x x x=>rfl)⟩
theorem yL:FI (aY (av pw 58) 496 .none) mY kz mF:=⟨(aY (av pw 58) 496 .none).get rfl,rfl,rfl,rfl,rfl,rfl,⟨rfl,rfl⟩,rfl,rfl,rfl,rfl,by decide+kernel,by decide+kernel, .inl (λ x=>λ x x x=>rfl)⟩
theorem v8:FI (aY (av pw 59) 501 .none) kI jy lE:=⟨(aY (av pw 59) 501 .none).get rfl,rfl,rfl,rfl,rfl,rfl,⟨rfl,rfl⟩,rfl,rfl,rfl,rfl,by decide+kernel,by decide+kernel, .inl (λ x=>λ x=>rfl)⟩
theorem yK:FI (aY (av pw 60) 506 .none) mX ku mD:=⟨(aY (av pw 60) 506 .none).get rfl,rfl,rfl,rfl,rfl,rfl,⟨rfl,rfl⟩,rfl,rfl,rfl,rfl,by decide+kernel,by decide+kernel, .inl (λ x=>λ x=>rfl)⟩
theorem AU:FI (aY (av pw 61) 511 .none) pg mQ oB:=⟨(aY (av pw 61) 511 .none).get rfl,rfl,rfl,rfl,rfl,rfl,⟨rfl,rfl⟩,rfl,rfl,rfl,rfl,by decide+kernel,by decide+kernel, .inl (λ x=>λ x=>rfl)⟩
theorem J9:FI (aY (av pw 62) 516 .none) J4 qX iq:=⟨(aY (av pw 62) 516 .none).get rfl,rfl,rfl,rfl,rfl,rfl,⟨rfl,rfl⟩,rfl,rfl,rfl,rfl,by decide+kernel,by decide+kernel, .inl (λ x=>λ x=>rfl)⟩
end
section
open PySem PySem.W PyProof.Rows PySem.SeqAt
theorem Zr {h:Heap} (hl: ∃o,h.get? 517=some o): ∃B:Heap,(∀b o,B.get? b=some o↔(h.get? b=some o/\b≠239))/\(∃o,B.get? (B.objs.size - 1)=some o)/\sysModules < B.objs.size:=by
 have hg: ∀b o,(hideAll h [239]).get? b=some o↔(h.get? b=some o/\b≠239):=λ b o=>
  ⟨λ e=>⟨of_hideAll _ e,λ q=>by subst q; rw [hideAll_none [239] (List.mem_singleton.mpr rfl)] at e; cases e⟩,λ e=>hideAll_get _ e.1 (by simpa using e.2)⟩
 generalize hideAll h [239]=gh at hg
 obtain ⟨o5,ho5⟩:=hl
 have h5:=(hg 517 o5).mpr ⟨ho5,by decide⟩
 have key: ∀n:Nat,(∀b:Nat,n<=b->gh.get? b=none)->∃N:Nat,517<=N/\(∃o,gh.get? N=some o)/\∀b:Nat,N < b->gh.get? b=none:=by
  intro n
  induction n with
  | zero=>intro q; rw [q 517 (Nat.zero_le _)] at h5; cases h5
  | succ n ih=>
   intro q
   cases e:gh.get? n with
   | some o=>exact ⟨n,Nat.le_of_not_lt (λ hn=>by rw [q 517 hn] at h5; cases h5),⟨o,e⟩,λ b hb=>q b hb⟩
   | none=>exact ih λ b hb=>(Nat.lt_or_eq_of_le hb).elim (λ c=>q b c) λ c=>c▸e
 obtain ⟨N,hN,⟨oN,eN⟩,hb⟩:=key gh.objs.size λ b hb=>by
  cases e:gh.get? b with
  | none=>rfl
  | some o=>exact absurd (Heap.lt_size e) (Nat.not_lt.mpr hb)
 have hs: @LT.lt Nat _ N gh.objs.size:=Heap.lt_size eN
 have C6:(gh.objs.extract 0 (N+1)).size=N+1:=by simp; lia
 have m9: ∀b:Nat,b<=N->(⟨gh.objs.extract 0 (N+1),gh.life⟩:Heap).get? b=gh.get? b:=λ b hb=>by
  unfold Heap.get?
  rw [show (gh.objs.extract 0 (N+1))[b]?=gh.objs[b]? from by rw [Array.getElem?_extract]; simp; lia]
 refine ⟨⟨gh.objs.extract 0 (N+1),gh.life⟩,λ b o=>?_,?_,?_⟩
 ·rw [<- hg]
  by_cases c: @LE.le Nat _ b N
  ·rw [m9 b c]
  ·have e1:=hb b (Nat.lt_of_not_le c)
   rw [e1]
   refine ⟨λ e=>?_,λ e=>(nomatch e)⟩
   have: @LT.lt Nat _ b (gh.objs.extract 0 (N+1)).size:=Heap.lt_size e
   rw [C6] at this
   exact absurd (Nat.le_of_lt_succ this) c
 ·show ∃o,(⟨gh.objs.extract 0 (N+1),gh.life⟩:Heap).get? ((gh.objs.extract 0 (N+1)).size - 1)=some o
  rw [C6]
  exact ⟨oN,(m9 N (Nat.le_refl _)).trans eN⟩
 ·show @LT.lt Nat _ 1 (gh.objs.extract 0 (N+1)).size
  lia
section
variable {h B:Heap} {w:World}
theorem zD (k: ∀b o,B.get? b=some o↔(h.get? b=some o/\b≠239)) {a:Addr} {m:Str->Option Value} (x:h.Ns a m) (n:a≠239):B.Ns a m:=let ⟨o,es,ep,e,r⟩:=x; ⟨o,es,ep,(k _ _).mpr ⟨e,n⟩,r⟩
theorem Gq {a:Addr} (k: ∀o,h.get? a=some o->B.get? a=some o) {fd:FuncData} (e:kP h a=some fd):kP B a=some fd:=by
 obtain ⟨o,ho,e⟩:=Option.bind_eq_some_iff.mp e
 exact Option.bind_eq_some_iff.mpr ⟨o,k o ho,e⟩
theorem MV (k: ∀b o,B.get? b=some o↔(h.get? b=some o/\b≠239)) {a:Addr} {fd:FuncData} (n:a≠239) (e:kP h a=some fd):kP B a=some fd:=Gq (λ o ho=>(k _ _).mpr ⟨ho,n⟩) e
theorem oQ.cut (k: ∀b o,B.get? b=some o↔(h.get? b=some o/\b≠239)) (S:oQ w h):oQ w B where
 k a o e:=(k _ _).mpr ⟨S.k a o e,λ q=>by subst q; rw [show (kF pw w.params).lookup 239=none from rfl] at e; cases e⟩
 f x hx fd e:=MV k (λ q=>absurd (List.all_eq_true.mp (show ((fns pw).all λ x=>x.1 != 239)=true by decide+kernel) x hx) (by simp [q])) (S.f x hx fd e)
 c x hx:=by
  obtain ⟨c,o,vs,t,e,g,r⟩:=S.c x hx
  cases e
  exact ⟨_,o,vs,t,rfl,(k _ _).mpr ⟨g,λ q=>absurd (List.all_eq_true.mp (show (GX.all λ x=>x.1 != 239)=true by decide+kernel) x hx) (by simp [q])⟩,r⟩
 hd:=by
  obtain ⟨o,vs,file,tf,flags,tg,inF,text,tt,e,r⟩:=S.hd
  exact ⟨o,vs,file,tf,flags,tg,inF,text,tt,(k _ _).mpr ⟨e,by decide⟩,r⟩
theorem oQ.fA (S:oQ w B) (k:Nat) {a:Addr} {fo:Option FuncData} (e:(fns pw)[k]?=some (a,fo)): ∀fd,fo=some fd->kP B a=some fd:=λ fd q=>S.f _ (List.mem_of_getElem? e) fd q
theorem oQ.cA (S:oQ w B) (k:Nat) {c:Addr} {q:Str} (e:GX[k]?=some (c,q)):B.CodeRec (.ref c) q:=S.c _ (List.mem_of_getElem? e)
end
noncomputable def Vq (P:Nat->Fn->Prop):Nat->List Fn->Prop
 | _,[]=>True
 | k,f::r=>P k f/\Vq P (k+1) r
theorem allI {P:Nat->Fn->Prop}: ∀{l:List Fn} {k:Nat},Vq P k l->∀(i:Nat) (fn:Fn),df l i=some fn->P (k+i) fn
 | f::r,k,h,0,fn,e=>by cases e; exact h.1
 | f::r,k,h,i+1,fn,e=>by
  have:=allI h.2 i fn e
  rwa [Nat.add_assoc,Nat.add_comm 1 i] at this
 | [],_,_,_,_,e=>by cases e
section
variable {G:Pg} {mg mb:Str->Option Value}
inductive Jf (G:Pg) (mg mb:Str->Option Value) (i:Nat) (fn:Fn):Prop where
 | mk (cx:Cx) (body:List Stmt) (F:GK G.B (addrs i) fn cx body) (m: ∀n,dg G (kF pw G.w.params) mg mb n (au Mine.prog n)->c6 G n (au Mine.prog n) cx fn.body body)
theorem bG (S:oQ G.w G.B) {i:Nat} (k:Nat) {c:Addr} {q:Str} {fo:Option FuncData} {fn:Fn} {cx:Cx} {body:List Stmt} (F:FI fo fn cx body) (m: ∀n,dg G (kF pw G.w.params) mg mb n (au Mine.prog n)->c6 G n (au Mine.prog n) cx fn.body body)
  (e1:(fns pw)[k]?=some (addrs i,fo)) (e2:GX[k]?=some (c,q)) (h1:cx.code= .ref c) (h2:fo.map (·.qualname)=some q):Jf G mg mb i fn:=
 ⟨cx,body,yQ S.k (S.fA k e1) (S.cA k e2) F h1 h2,m⟩
theorem Ob (S:oQ G.w G.B): ∀(i:Nat) (fn:Fn),Mine.prog i=some fn->Jf G mg mb i fn:=λ i fn h=>by
 have:=allI (k:=0) (P:=Jf G mg mb) (l:=SF) ⟨
  bG S 1 yG (λ x U=>BE U) rfl rfl rfl rfl,
  bG S 2 vW (λ x U=>zm U) rfl rfl rfl rfl,
  bG S 3 OQ (λ x U=>Uy U) rfl rfl rfl rfl,
  bG S 4 TH (λ x U=>XD U) rfl rfl rfl rfl,
  bG S 5 OS (λ x U=>Uz U) rfl rfl rfl rfl,
  bG S 6 wj (λ x U=>zz U) rfl rfl rfl rfl,
  bG S 7 Kb (λ x U=>PT U) rfl rfl rfl rfl,
  bG S 8 v7 (λ x U=>zr U) rfl rfl rfl rfl,
  bG S 9 yO (λ x U=>BO U) rfl rfl rfl rfl,
  bG S 10 AO (λ x U=>Ec U) rfl rfl rfl rfl,
  bG S 11 DH (λ x U=>HN U) rfl rfl rfl rfl,
  bG S 12 vZ (λ x U=>zq U) rfl rfl rfl rfl,
  bG S 13 uz (λ x U=>wy U) rfl rfl rfl rfl,
  bG S 14 OO (λ x U=>Ux U) rfl rfl rfl rfl,
  bG S 15 wc (λ x U=>zv U) rfl rfl rfl rfl,
  bG S 16 Hi (λ x U=>Mf U) rfl rfl rfl rfl,
  bG S 17 m5 (λ x U=>oq U) rfl rfl rfl rfl,
  bG S 18 yM (λ x U=>BL U) rfl rfl rfl rfl,
  bG S 19 AP (λ x U=>Ed U) rfl rfl rfl rfl,
  bG S 20 OJ (λ x U=>Uw U) rfl rfl rfl rfl,
  bG S 21 rn (λ x U=>sU U) rfl rfl rfl rfl,
  bG S 22 yJ (λ x U=>BH U) rfl rfl rfl rfl,
  bG S 23 wh (λ x U=>zy U) rfl rfl rfl rfl,
  bG S 24 yH (λ x U=>BF U) rfl rfl rfl rfl,
  bG S 25 DJ (λ x U=>HR U) rfl rfl rfl rfl,
  bG S 26 Ka (λ x U=>PS U) rfl rfl rfl rfl,
  bG S 27 Hg (λ x U=>Mb U) rfl rfl rfl rfl,
  bG S 28 qk (λ x U=>rA U) rfl rfl rfl rfl,
  bG S 29 vX (λ x U=>zo U) rfl rfl rfl rfl,
  bG S 30 ql (λ x U=>rB U) rfl rfl rfl rfl,
  bG S 31 rk (λ x U=>sS U) rfl rfl rfl rfl,
  bG S 32 DG (λ x U=>HM U) rfl rfl rfl rfl,
  bG S 33 DI (λ x U=>HQ U) rfl rfl rfl rfl,
  bG S 34 wg (λ x U=>zx U) rfl rfl rfl rfl,
  bG S 35 rt (λ x U=>sX U) rfl rfl rfl rfl,
  bG S 36 rq (λ x U=>sW U) rfl rfl rfl rfl,
  bG S 37 qm (λ x U=>sk U) rfl rfl rfl rfl,
  bG S 38 ro (λ x U=>sV U) rfl rfl rfl rfl,
  bG S 39 rm (λ x U=>sT U) rfl rfl rfl rfl,
  bG S 40 m4 (λ x U=>oo U) rfl rfl rfl rfl,
  bG S 41 Hf (λ x U=>Ma U) rfl rfl rfl rfl,
  bG S 42 yN (λ x U=>BM U) rfl rfl rfl rfl,
  bG S 43 vY (λ x U=>zp U) rfl rfl rfl rfl,
  bG S 44 yI (λ x U=>BG U) rfl rfl rfl rfl,
  bG S 45 sG (λ x U=>u9 U) rfl rfl rfl rfl,
  bG S 46 sD (λ x U=>u5 U) rfl rfl rfl rfl,
  bG S 47 sE (λ x U=>u6 U) rfl rfl rfl rfl,
  bG S 48 sH (λ x U=>vd U) rfl rfl rfl rfl,
  bG S 49 kO (λ x U=>lW U) rfl rfl rfl rfl,
  bG S 50 AQ (λ x U=>Ee U) rfl rfl rfl rfl,
  bG S 51 Hh (λ x U=>Md U) rfl rfl rfl rfl,
  bG S 52 wa (λ x U=>zu U) rfl rfl rfl rfl,
  bG S 53 yL (λ x U=>BJ U) rfl rfl rfl rfl,
  bG S 54 v8 (λ x U=>zt U) rfl rfl rfl rfl,
  bG S 55 yK (λ x U=>BI U) rfl rfl rfl rfl,
  bG S 56 AU (λ x U=>Eg U) rfl rfl rfl rfl,
  bG S 57 J9 (λ x U=>XC U) rfl rfl rfl rfl,trivial⟩ i fn h
 rwa [Nat.zero_add] at this
theorem OL:FI (xa (jJ pw 0) (Str.ofString "Aig.__init__") 34 .none) Ke (JS (.ref 34) (Str.ofString "Aig.__init__.<locals>.")) (bodyOf (jJ pw 0)):=⟨(xa (jJ pw 0) (Str.ofString "Aig.__init__") 34 .none).get rfl,rfl,rfl,rfl,rfl,rfl,⟨rfl,rfl⟩,rfl,rfl,rfl,rfl,by decide+kernel,by decide+kernel, .inl λ x x=>rfl⟩
theorem Hs:tR (bodyOf (jJ pw 0)):=⟨_,_,_,_,_,_,_,_,_,_,_,_,_,_,_,_,_,_,rfl⟩
theorem PW (hC:G.C=116) (S:oQ G.w G.B):Dd G (kF pw G.w.params) 35:=by
 obtain ⟨p,w,B,P,C,os⟩:=G
 cases hC
 exact ⟨rfl,rfl,rfl,rfl,rfl,rfl,λ k hk=>by rcases pF hk with rfl | rfl | rfl | rfl <;> rfl,_,_,_,yQ S.k (S.fA 0 rfl) (S.cA 0 rfl) OL rfl rfl,Hs⟩
theorem Cp (P:Params) (m:Value) (fd:FuncData) (e:aY (av pw 41) 384 (.ref 378)=some fd):z6 3 λ us=> ∀S',peek (kF pw P) S' (bindArgs {fd with pyModule:=m} ⟨us,[]⟩)=some ((nC cO dW.params).zip (us++ [.int 32 755])):=by
 cases e; exact λ x x x x=>rfl
theorem Qh (S:oQ G.w G.B):Ze G.B 385 dW cO iC (.int 32 755):=by
 obtain ⟨fd,e,g1,g2,g3,g4,g5,g6,g7,g8,g9,Ym,Yn,ZA⟩:=qm
 obtain ⟨o,m,ho,hd⟩:=Gp (S.fA 37 rfl fd e)
 obtain ⟨p1,p2,p3,p4⟩:=Cb Ym
 refine ⟨⟨o,{fd with pyModule:=m},nC cO dW.params,ho,hd,?_,g1,g2,g3,g4,g5,g6,g7,g8,g9,p1,p2,⟨λ x hx e=>?_,λ s us hs hu=>?_⟩,p3,p4⟩,Ga Yn⟩
 ·show G.B.CodeRec fd.code fd.qualname
  cases e
  exact S.cA 37 rfl
 ·have:=List.all_eq_true.mp (show (cO.names.all λ x=>x.2 != .cell)=true by decide+kernel) x hx
  rw [e] at this; exact absurd this (by decide)
 ·exact kp_binds (S.k.keeps hs) (Fh (Cp G.w.params m fd e) us (Nat.succ.inj (hu.trans p1)))
structure S7 (w:World) (h:Heap) (mg mb:Str->Option Value):Prop where
 g:h.Ns mainGlobals mg
 b:h.Ns builtinsNs mb
 lim:h.NoLimit
 bi: ∀x:Str,x≠ "__name__" ->mb x=bootBuiltins x
 bm: ∃bm ob,mg "__builtins__" =some (.ref bm)/\bm≠builtinsNs/\h.get? bm=some ob/\ob.cls= .type "module" /\ob.dict=some builtinsNs/\ob.data= .plain
 nm: ∀x∈XG pw,mg x.1=some (.ref x.2)
 no: ∀x∈Yd,mg x=none
theorem yl: ∀x:Bi,dQ x≠ "__name__" /\bootBuiltins (dQ x)=some (Ap x)/\dQ x∈Yd:=by
 intro x
 cases x
 ·exact ⟨by decide+kernel,(by boot_by_name:bootBuiltins (Str.ofString "len")=some (.builtin "len")),List.mem_of_getElem? (i:=0) rfl⟩
 ·exact ⟨by decide+kernel,(by boot_by_name:bootBuiltins (Str.ofString "max")=some (.builtin "max")),List.mem_of_getElem? (i:=1) rfl⟩
 ·exact ⟨by decide+kernel,(by boot_by_name:bootBuiltins (Str.ofString "min")=some (.builtin "min")),List.mem_of_getElem? (i:=2) rfl⟩
 ·exact ⟨by decide+kernel,(by boot_by_name:bootBuiltins (Str.ofString "sum")=some (.builtin "sum")),List.mem_of_getElem? (i:=3) rfl⟩
 ·exact ⟨by decide+kernel,(by boot_by_name:bootBuiltins (Str.ofString "sorted")=some (.builtin "sorted")),List.mem_of_getElem? (i:=4) rfl⟩
 ·exact ⟨by decide+kernel,(by boot_by_name:bootBuiltins (Str.ofString "tuple")=some (.type "tuple")),List.mem_of_getElem? (i:=5) rfl⟩
 ·exact ⟨by decide+kernel,(by boot_by_name:bootBuiltins (Str.ofString "list")=some (.type "list")),List.mem_of_getElem? (i:=6) rfl⟩
 ·exact ⟨by decide+kernel,(by boot_by_name:bootBuiltins (Str.ofString "range")=some (.type "range")),List.mem_of_getElem? (i:=7) rfl⟩
theorem UD:((List.range 57).all λ i=>match yP i with | none=>true | some nm=>(XG pw).any λ x=>x.1 == nm && x.2 == addrs i)=true:=by decide+kernel
theorem Sw {w:World} {h:Heap} (T:S7 w h mg mb): ∀i nm,yP i=some nm->mg nm=some (.ref (addrs i)):=λ i nm e=>by
 have:=List.all_eq_true.mp UD i (List.mem_range.mpr (tH i nm e).2)
 rw [e] at this
 obtain ⟨x,hx,q⟩:=List.any_eq_true.mp this
 simp only [Bool.and_eq_true,beq_iff_eq] at q
 rw [<- q.1,<- q.2]; exact T.nm x hx
theorem Ss (P:Params): ∀i nm,HS i=some nm->plainGet (kF pw P) 116 nm=true/\findIn (kF pw P) (.ref 116) nm=some (some (.ref (addrs i)))/\isFn (kF pw P) (.ref (addrs i))=true
 | 0,_,e=>by cases e; exact ⟨rfl,rfl,rfl⟩
 | 1,_,e=>by cases e; exact ⟨rfl,rfl,rfl⟩
 | 2,_,e=>by cases e; exact ⟨rfl,rfl,rfl⟩
 | 3,_,e=>by cases e; exact ⟨rfl,rfl,rfl⟩
 | 4,_,e=>by cases e; exact ⟨rfl,rfl,rfl⟩
 | n+5,_,e=>by cases e
theorem P8: ∀i,i < 57->(Mine.prog i).isSome=true:=by decide+kernel
theorem uni {h:Heap} {w:World} {B:Heap} {os:OsState} (k: ∀b o,B.get? b=some o↔(h.get? b=some o/\b≠239)) (top: ∃o,B.get? (B.objs.size - 1)=some o) (sz:sysModules < B.objs.size) (S0:oQ w h) (t:h.get? 239=some (tabObj #[])) (T:S7 w h mg mb):
  ∀n,dg ⟨pw,w,B,239,116,os⟩ (kF pw w.params) mg mb n (au Mine.prog n):=by
 have S:oQ w B:=S0.cut k
 have lim:B.NoLimit:=let ⟨mc,a,r⟩:=T.lim; ⟨mc,zD k a (by decide),r⟩
 have O:GL ⟨pw,w,B,239,116,os⟩ (kF pw w.params) mg mb:=
  ⟨S.k,zD k T.g (by decide),zD k T.b (by decide),sz,lim,λ x=>⟨T.no _ (yl x).2.2,(T.bi _ (yl x).1).trans (yl x).2.1⟩,
   λ j hj=>by rcases pF hj with rfl | rfl | rfl | rfl <;> exact ⟨rfl,rfl⟩,rfl⟩
 have L:E5 ⟨pw,w,B,239,116,os⟩ mg bw:=⟨(λ h' hk=>by
  obtain ⟨bm,ob,e1,e2,e3,e4,e5,e6⟩:=T.bm
  refine ⟨bm,ob,e1,e2,λ q=>?_,λ q=>?_,hk _ _ ((k _ _).mpr ⟨e3,λ q=>?_⟩),e4,e5,e6⟩
  ·obtain ⟨o,es,ep,f1,f2,_⟩:=T.g
   rw [q,f1] at e3; cases e3; rw [e6] at f2; cases f2
  ·have q:bm=239:=q
   rw [q,t] at e3; cases e3; cases e6
  ·rw [q,t] at e3; cases e3; cases e6),⟨243,rfl,S.hd⟩,by decide+kernel,λ q=>absurd q (by decide: ¬mainGlobals=239)⟩
 have A:=Ob (G:=⟨pw,w,B,239,116,os⟩) (mg:=mg) (mb:=mb) S
 have fo: ∀i,i < 57->∃o fd,B.get? (addrs i)=some o/\o.data= .func fd:=λ i hi=>by
  obtain ⟨fn,e⟩:=Option.isSome_iff_exists.mp (P8 i hi)
  obtain ⟨_,_,F,_⟩:=A i fn e
  obtain ⟨o,fd,_,q1,q2,_⟩:=F.ex
  exact ⟨o,fd,q1,q2⟩
 have M:=PW (G:=⟨pw,w,B,239,116,os⟩) rfl S
 have aig:mg (Str.ofString "Aig")=some (.ref 116):=T.nm (Str.ofString "Aig",116) (List.mem_of_getElem? (i:=0) rfl)
 intro n
 induction n with
 | zero=>exact ⟨O,λ y y y y y y y y y y y y q=>q.elim,Dm,⟨35,M⟩,aig,Sw T,fo,Ss _,L⟩
 | succ n U=>
  exact ⟨O,Dn lim top λ i fn e=>let ⟨cx,body,F,s⟩:=A i fn e; ⟨cx,body,F,s n U⟩,
   Dl lim top λ fn e=>by cases e; exact ⟨_,_, .int 32, .int 32 755,rfl,λ y=> .int 32 755,Qh S,sk U⟩,
   ⟨35,M⟩,aig,Sw T,fo,Ss _,L⟩
end
end
section
open PySem PySem.W PyProof.Rows PySem.SeqAt
theorem CP {g:Gm}: ∀{vs:List Value} {ns:List Int},IntsAre vs ns->Vals g (ns.map V.int) vs
 | _,_, .nil=> .nil
 | _,_, .cons n t r=> .cons (.int n t) (CP r)
theorem FN: ∀{vs:List Value} {ns:List Int},IntsAre vs ns->vs.length=ns.length
 | _,_, .nil=>rfl
 | _,_, .cons n t r=>by simp [FN r]
theorem Mt {k i:Nat} {v:V}:df (List.replicate k (none:Option V)) i≠some (some v):=by
 rw [qA,List.getElem?_replicate]
 split <;> simp
theorem Au: ∃(p1 p2 p3 p4 p5 p6:Pos) (k:Nat),iq= .Assign [.Name (Str.ofString "cells") p1] (.Subscript (.Name (Str.ofString "script") p2) (.Slice none (some (.Constant (.int 63) k p3)) none p4) p5) p6::iq.drop 1:=⟨_,_,_,_,_,_,_,rfl⟩
noncomputable def g0 (h:Heap):Gm:=λ a=>if a=239 then .tab else match h.get? a with | some o=> .fz o | none=> .free
theorem Kh {h:Heap} {a:Addr} {o:Obj} (n:a≠239) (e:h.get? a=some o):g0 h a= .fz o:=by
 unfold g0; rw [if_neg n,e]
theorem iN (h:Heap) (a:Addr):(a=239/\g0 h a= .tab)\/(∃o,a≠239/\h.get? a=some o/\g0 h a= .fz o)\/g0 h a= .free:=by
 unfold g0
 by_cases c:a=239
 ·exact .inl ⟨c,if_pos c⟩
 ·rw [if_neg c]
  cases e:h.get? a with
  | none=>exact .inr (.inr rfl)
  | some o=>exact .inr (.inl ⟨o,c,rfl,rfl⟩)
theorem wd0 {w:World} {B:Heap} {s:Shared} (k: ∀b o,B.get? b=some o↔(s.heap.get? b=some o/\b≠239)) (t:s.heap.get? 239=some (tabObj #[])) (hg:s.gens= #[]):Wd ⟨pw,w,B,239,116,s.os⟩ (g0 s.heap) (λ x=>none) s where
 live a n:=by
  rcases iN s.heap a with ⟨rfl,_⟩ | ⟨o,_,e,_⟩ | e
  ·exact ⟨_,t⟩
  ·exact ⟨o,e⟩
  ·exact absurd e n
 fz a o e:=by
  rcases iN s.heap a with ⟨_,q⟩ | ⟨o',_,q1,q⟩ | q <;> rw [q] at e <;> cases e
  exact q1
 kp a o e:=by rcases iN s.heap a with ⟨_,q⟩ | ⟨o',_,q1,q⟩ | q <;> rw [q] at e <;> cases e
 ag a o e:=by rcases iN s.heap a with ⟨_,q⟩ | ⟨o',_,q1,q⟩ | q <;> rw [q] at e <;> cases e
 base a o e:=let ⟨e1,n⟩:=(k a o).mp e; Kh n e1
 objs a o e:=nomatch e
 all a h:=by rcases iN s.heap a with ⟨_,q⟩ | ⟨o',_,q1,q⟩ | q <;> rcases h with h | ⟨o,h⟩ <;> rw [q] at h <;> cases h
 gN b a j e:=by rcases iN s.heap b with ⟨_,q⟩ | ⟨o',_,q1,q⟩ | q <;> rw [q] at e <;> cases e
 one b b' a j e:=by rcases iN s.heap b with ⟨_,q⟩ | ⟨o',_,q1,q⟩ | q <;> rw [q] at e <;> cases e
 tab:=if_pos rfl
 tabs:=⟨#[],t,trivial,λ pos cv e=>by cases e⟩
 gens:=hg
 os:=rfl
noncomputable def Jg (s:Shared) (r:Result) (s':Shared):Prop:=r= .ok (.ret (.bool true))/\(∀b o,b≠239->s.heap.get? b=some o->s'.heap.get? b=some o)/\(∃ps,s'.heap.get? 239=some (tabObj ps))/\s'.os=s.os/\s'.gens= #[]
theorem LS {w:World} {s:Shared} {mg mb:Str->Option Value} {A:Around} {sc:Addr} {vs:List Value} {ns:List Int} (S0:oQ w s.heap) (t:s.heap.get? 239=some (tabObj #[])) (T:S7 w s.heap mg mb) (hg:s.gens= #[]) (ZC: ∃o,s.heap.get? 517=some o)
  (R0:cJ A 45) (hL:s.heap.IsList sc vs.toArray) (hI:IntsAre vs ns) (hn:ns.length<=63):
  codeAny (model pw w) A (.call (.ref 517) ⟨[.ref sc],[]⟩) (Jg s) s:=by
 obtain ⟨B,k,top,sz⟩:=Zr ZC
 have U:=uni (os:=s.os) k top sz S0 t T 44
 have S:=S0.cut k
 have W0:=wd0 (w:=w) k t hg
 have F:GK B 517 J4 qX iq:=yQ S.k (S.fA 57 rfl) (S.cA 57 rfl) J9 rfl rfl
 have nol:B.NoLimit:=let ⟨mc,a,r⟩:=T.lim; ⟨mc,zD k a (by decide),r⟩
 have hB: ∀b o,B.get? b=some o->s.heap.get? b=some o:=λ b o e=>((k b o).mp e).1
 have hd:=R0.d
 have hu:=R0.u
 have hrl:recursionLimit=1000:=rfl
 refine enter F hB nol (by lia) rfl λ env s1 ps FD h1 h2 E=>?_
 obtain ⟨y,rfl⟩: ∃y,ps= [y]:=List.length_eq_one_iff.mp FD
 have hy:y=Str.ofString "script" :=by
  have:=(h1 0 y rfl).1
  have:some (some (Str.ofString "script"))=some (some y):=this
  simpa using this.symm
 subst hy
 obtain ⟨g',ex,a⟩:=w7 (l:=List.replicate 22 none) W0 (Wd.size (σ:=⟨[],λ z=>none⟩) W0 top) E (λ i v e=>absurd e Mt) rfl h1 h2
 obtain ⟨p1,p2,p3,p4,p5,p6,kk,eb⟩:=Au
 rw [eb]
 obtain ⟨m,xl,hmv⟩:=E.ns
 have hsc:=hmv (Str.ofString "script") (.ref sc) (by simp) rfl
 have Hm:env.kindOf (Str.ofString "script")=some .local:=by rw [Env.kindOf,E.names]; rfl
 have Kn:s1.heap.IsList sc vs.toArray:=let ⟨o,e,r⟩:=hL; ⟨o,E.keep _ _ e,r⟩
 have hl:=FN hI
 have bz:=jH
 have Z9:lim=1000000:=rfl
 have fin: ∀v s2,aE ⟨pw,w,B,239,116,s.os⟩ qX g' env (List.replicate 22 none) (λ v σ=> ∃c,v= .ref c/\σ.loc=List.replicate 22 none/\σ.H c=some (.list (ns.map V.int))) v s2->
   wpAny (model pw w) (A.deeper env) (storeName env (Str.ofString "cells") v) (λ z s'=>wpAny (model pw w) (A.deeper env) (execs (iq.drop 1) env) (λ f s'=>Jg s (.ok (.ret (match f with | .ret v=>v | _=> .none))) s') cn s') cn s2:=by
  intro v s2 P
  obtain ⟨g2,σ2,x,e2,a2,_,vx,c,rfl,el,ec⟩:=P
  obtain ⟨l2,H2⟩:=σ2
  dsimp only at el ec
  subst el
  refine fK (i:=1) (v:= .ref c) Ek rfl (mm 1 rfl) a2 vx λ s3 a3=>?_
  have R':cJ (A.deeper env) 44:=⟨R0.h,by show A.depth+1+44 < 900; lia,by show A.units+3+3*44 < 9000; lia⟩
  refine xW (Ef U (A.deeper env) env g2 _ s3 (d8 λ v z=>v= .bool true) R' a3 (LR (n:=0) (ns:=ns) ec hn λ z=>rfl)) λ f s' g3 σ3 fl e3 Yb r3 q3=>?_
  have ee:=ex.trans (e2.trans e3)
  have fin:(∀b o,b≠239->s.heap.get? b=some o->s'.heap.get? b=some o)/\(∃ps,s'.heap.get? 239=some (tabObj ps))/\s'.os=s.os/\s'.gens= #[]:=
   ⟨λ b o n e=>Yb.wd.fz b o ((ee.ex b (by rw [Kh n e]; nofun)).trans (Kh n e)),let ⟨ps,e,_⟩:=Yb.wd.tabs; ⟨ps,e⟩,Yb.wd.os,Yb.wd.gens⟩
  cases r3 with
  | next=>have q3:V.none= .bool true:=q3; cases q3
  | ret v=>
   have q3:_=V.bool true:=q3
   subst q3
   cases v
   exact ⟨rfl,fin⟩
  | brk=>exact q3.elim
  | cont=>exact q3.elim
 refine wpAny_execs_cons (wpAny_Assign_Name (Subscript_ (wpAny_Name (wpAny_loadName_local E.kind Hm xl hsc (wpAny_Slice (wpAny_evalPart_none (wpAny_evalPart_some (wpAny_Constant_int (wpAny_evalPart_none ?_)))))) (by decide))))
 refine tail_any (T:= "list") (ops:= [.ref s1.heap.objs.size, .ref sc]) (Kn.push _).typeIs list_getitem_lookup
  (wpAny_getItem_list_slice (Kn.push _) (Heap.IsSliceOf.new ..) .none (.int _ _) .none (by simp) ?_ (by simp; lia)) rfl
 rw [xN _ _ (by decide)]
 exact fin _ _ (aE.newList (xs:=ns.map V.int) (its:=((vs.toArray.toList.take (63:Int).toNat).toArray)) ((a.toks _).push _)
  (by rw [show (vs.toArray.toList.take (63:Int).toNat).toArray.toList=vs from List.take_of_length_le (by show vs.length<=63; lia)]; exact CP hI) (by simp; lia) (λ c hc=>⟨c,rfl,rfl,by simp [upd]⟩))
end
section
open PySem PySem.W PyProof.Rows PySem.SeqAt
noncomputable def X9 (w:World) (h:Heap):Prop:=oQ w h/\h.get? 239=some (tabObj #[])
noncomputable def XPl (mg:Str->Option Value) (h:Heap):Prop:=XL (YR pw) [] mg h/\(∀x∈XG pw,mg x.1=some (.ref x.2))/\∀x∈Yd,mg x=none
theorem tC {α:Type} {o:Option α} {p:α->Bool} (h:o.any p=true): ∃x,o=some x/\p x=true:=by
 cases o with
 | none=>exact Bool.noConfusion h
 | some x=>exact ⟨x,rfl,h⟩
theorem Kd {d:Data} {vs:Array Value} (e:TJ d=some vs):d= .fields vs:=by
 cases d with
 | fields us=>obtain rfl:=Option.some.inj e; rfl
 | _=>exact bh e
theorem Nn {v:Value} {n:Str} (e:U4 v=some n): ∃t,v= .str n t:=by
 cases v with
 | str m t=>obtain rfl:=Option.some.inj e; exact ⟨t,rfl⟩
 | _=>exact bh e
theorem MQ {v:Value} {a:Addr} (e:isRef a v=true):v= .ref a:=by
 cases v with
 | ref b=>rw [eq_of_beq e]
 | _=>exact Bool.noConfusion e
theorem K3 {v:Value} (e:isInt v=true): ∃i t,v= .int i t:=by
 cases v with
 | int i t=>exact ⟨i,t,rfl⟩
 | _=>exact Bool.noConfusion e
theorem Tc {v:Value} (e:Rw v=true): ∃b,v= .bool b:=by
 cases v with
 | bool b=>exact ⟨b,rfl⟩
 | _=>exact Bool.noConfusion e
theorem Te {v:Value} {s:String} (e:Rx s v=true):v= .type s:=by
 cases v with
 | type n=>rw [eq_of_beq e]
 | _=>exact Bool.noConfusion e
theorem Wt {h:Heap} (e:Ku h=true):CodeHd h 243 239:=by
 obtain ⟨o,ho,e⟩:=tC e
 obtain ⟨a0,e⟩:=an e
 obtain ⟨vs,hv,e⟩:=tC e
 obtain ⟨a1,e⟩:=an e
 obtain ⟨a2,e⟩:=an e
 obtain ⟨a3,e⟩:=an e
 obtain ⟨a4,a5⟩:=an e
 obtain ⟨v,b1,a1⟩:=tC a1
 obtain rfl:=MQ a1
 obtain ⟨f,a2⟩:=Option.isSome_iff_exists.mp a2
 obtain ⟨ft,b2⟩:=Nn a2
 obtain ⟨fl,flt,b3⟩:=K3 a3
 obtain ⟨fb,b4⟩:=Tc a4
 obtain ⟨fx,fxt,b5⟩:=K3 a5
 exact ⟨o,vs,f,ft,fl,flt,fb,fx,fxt,ho,Te a0,Kd hv,b1,by rw [Array.getD_eq_getD_getElem?,b1]; rfl,b2,b3,b4,b5,by decide⟩
theorem Ts {h:Heap} {c:Addr} {q:Str} (e:Fq h c=some q):h.CodeRec (.ref c) q:=by
 obtain ⟨o,ho,e⟩:=Option.bind_eq_some_iff.mp e
 obtain ⟨vs,hv,e⟩:=Option.bind_eq_some_iff.mp e
 obtain ⟨v,h1,e⟩:=Option.bind_eq_some_iff.mp e
 obtain ⟨t,rfl⟩:=Nn e
 exact ⟨c,o,vs,t,rfl,ho,Kd hv,h1⟩
theorem X7 (w:World) (s:Shared) (e:obs pw s=val pw w):X9 w s.heap:=by
 obtain ⟨e1,e⟩:=Prod.mk.inj e
 obtain ⟨e2,e⟩:=Prod.mk.inj e
 obtain ⟨e3,e⟩:=Prod.mk.inj e
 obtain ⟨e4,e5⟩:=Prod.mk.inj e
 exact ⟨⟨Frag.in_of rfl e1,λ x hx fd q=>(List.map_inj_left.mp e2 x hx).trans q,λ x hx=>Ts (List.map_inj_left.mp e3 x hx),Wt e5⟩,e4⟩
theorem NH (w:World) (h h':Heap) (x:X9 w h) (k: ∀b o,h.get? b=some o->h'.get? b=some o):X9 w h':=
 ⟨⟨x.1.k.keeps k,λ y hy fd e=>Gq (k _) (x.1.f y hy fd e),λ y hy=>(x.1.c y hy).keeps k,x.1.hd.keeps k⟩,k _ _ x.2⟩
theorem X6 (s:Shared) (e:xt Heap.nsMap [] pw s=true):XPl (s.heap.nsMap mainGlobals) s.heap:=by
 obtain ⟨e1,e2⟩:=an e
 obtain ⟨e2,e3⟩:=an e2
 exact ⟨xl_of s (an e1).1,λ x hx=>(tC (List.all_eq_true.mp e2 x hx)).elim λ v r=>r.1.trans (congrArg some (MQ r.2)),λ x hx=>Option.isNone_iff_eq_none.mp (List.all_eq_true.mp e3 x hx)⟩
theorem XO (s:Shared) (e:xt Heap.nsMap [] pw s=true):RecFacts [] s.heap:=recFacts_of (Bool.and_eq_true_iff.mp (Bool.and_eq_true_iff.mp e).1).2
end
end Mine
open PySem PySem.W PyProof.Rows
set_option maxHeartbeats 8000000 in
set_option tactic.hygienic true in
theorem PySem.Challenge.cw_nn0329_01_holds : PySem.Challenge.rw_nn0329_01.Holds := by
  w_on
  refine holds_law (by kernel_rfl) λ said => ?_
  refine holds_open (q := Mine.YR Challenge.pw_nn0329_01) (loose := Mine.loo Challenge.pw_nn0329_01) (Xt := λ s => Mine.xt Heap.nsMap [] Challenge.pw_nn0329_01 s) (XP := Mine.XPl) (Yf := Mine.obs Challenge.pw_nn0329_01) (Ya := Mine.val Challenge.pw_nn0329_01) (YP := Mine.X9) (N := 6000)
    Mine.PK Mine.X7 Mine.NH Mine.X6 (λ mg h h' x k => ⟨XL.keeps mg h h' x.1 k, x.2⟩) (by rfl) (by rfl) (by rfl) Mine.XO (by rfl) (by first | assumption | decide +kernel) (by decide +kernel) ⟨rfl, rfl, rfl, rfl, rfl, by decide +kernel⟩ ?hw ?hc
  case hw => w_witness2
  case hc =>
    intro w s₀ s₁ mg mb G Y fa o pm cd doc dV kV ho hd Ks hD hmg hg args vals as aag hlay NS hwl hlo
    have T := G.T
    have X := G.X
    wrow_args aag hlay NS hwl hlo
    all_goals (first | refine callC_kw (enter_call ?_) | refine enter_call ?_)
    have hfa : fa = 517 := by
      have q := hmg.symm.trans (X.2.1 (Mine.bK (Mine.av Challenge.pw_nn0329_01 62), 517) (List.mem_of_getElem? (i := 52) rfl))
      cases q; rfl
    subst hfa
    rename_i ns _ _ _ _ _ _ _ sc vs _ hL _ _ _ hI _ hn _
    refine kn_post (tabs := [(243, 239)]) (λ q hq => by rw [List.mem_singleton.mp hq]; exact ⟨Y.1.hd, Y.2⟩) (λ y y => rfl)
      (codeAny_mono (Mine.LS (ns := ns) Y.1 Y.2 ⟨T.g, T.b, T.nolimit, T.builtins, T.bmain, X.2.1, X.2.2⟩ hg ⟨o, ho⟩ ⟨rfl, by decide, by decide⟩ hL hI (by omega)) λ r s' q => ?_)
    obtain ⟨rfl, keep, ⟨ps, hP⟩, hos, Ww⟩ := q
    refine ⟨⟨.inl ⟨_, _, [], rfl, λ y => rfl, ReadsW.bool true, postW_of (by wrow_shape) (by wtm_val) (by w_fin), λ y => ⟨.nil, λ y h => nomatch h⟩⟩, λ b o e => keep b o (λ q => ?_) (of_hideAll _ e), hos, Ww⟩, ⟨ps, hP⟩, trivial⟩
    subst q
    rw [show (ghostOf s₁.heap [(243, 239)]).get? 239 = none from hideAll_none _ (List.mem_singleton.mpr rfl)] at e
    cases e
