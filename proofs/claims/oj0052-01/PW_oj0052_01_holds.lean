import PyProof.Rows.All
import Wide.All
import OpenK.AllK
import Wide.FinOn
import Lean
import PySem.Challenge.RW_oj0052_01
set_option Elab.async false
set_option maxRecDepth 100000
set_option linter.all false
set_option tactic.hygienic false
set_option genSizeOfSpec false
set_option genSizeOf false
set_option genInjectivity false
set_option genCtorIdx false
set_option bootstrap.genMatcherCode false
section
local macro_rules | `(tactic| omega) => `(tactic| first | lia | omega +splitDisjunctions)
section
namespace Mine
open PySem
noncomputable abbrev Ch:=List Char
set_option genInjectivity true in
set_option genCtorIdx true in
inductive V where
 |none
 |bool (b:Bool)
 |int (i:Int)
 |str (s:Ch)
 |tup (vs:List V)
 |ref (i:Nat)
 |exc (m:Ch)
 deriving Inhabited
inductive O where
 |list (vs:List V)
 |dict (es:List (Ch×V))
 deriving Inhabited
set_option genCtorIdx true in
inductive Fn where
 |digit|hexSign|octalSign|backslash|isGap|skipGaps|commentBehind|skipToCommand|readName|variable|brackets|braces
 |partsUntil|bareStops|isExpanded|word|commandAt|commandsOf|plainOf
 |lPieces|lScripts|lFaulty|lChanged|lScript|lOpen|lAdd|lBent|lName|lCloseWord|lCloseCommand|lInScript|lInBraces
 |lInName|lDollar|lInParts|lEnd|lRead|lAll|lOneByOne|lPlain|lRight
 deriving DecidableEq
set_option genCtorIdx true in
inductive m7 where|add|sub|mod|fdiv
set_option genCtorIdx true in
inductive zJ where|eq|ne|lt|le|gt|ge|inn|nin|is|isn
set_option genCtorIdx true in
inductive JG where|code|value|errorcode
mutual
inductive E where
 |none
 |bool (b:Bool)
 |int (i:Int)
 |negc (i:Int)
 |str (l:Ch)
 |loc (i:Nat)
 |bin (op:m7) (a b:E)
 |not (a:E)
 |cmp (op:zJ) (a b:E)
 |cmp2 (o1 o2:zJ) (a b c:E)
 |and (es:Es)
 |or (es:Es)
 |ite (c a b:E)
 |idx (a b:E)
 |slc (a lo hi:E)
 |slf (a lo:E)
 |slt (a hi:E)
 |tup (es:Es)
 |lst (es:Es)
 |dct (ks:List Ch) (es:Es)
 |call (f:Fn) (es:Es)
 |len (a:E)
 |ord (a:E)
 |chr (a:E)
 |tuple (a:E)
 |find1 (a b:E)
 |find2 (a b c:E)
 |join (sep a:E)
 |append (a b:E)
 |pop (a:E)
 |comp (elt:E) (it:E) (frees:List Nat)
inductive Es where
 |nil
 |cons (e:E) (es:Es)
end
inductive T where
 |loc (i:Nat)
 |sub (a b:E)
mutual
inductive S where
 |asg (i:Nat) (e:E)
 |asgT (ts:List T) (e:E)
 |asgS (a b e:E)
 |aug (i:Nat) (op:m7) (e:E)
 |augS (a b:E) (op:m7) (e:E)
 |ife (c:E) (s t:Ss)
 |whl (c:E) (s:Ss)
 |for1 (i:Nat) (it:E) (s:Ss)
 |forT (is:List Nat) (it:E) (s:Ss)
 |ret (e:E)
 |raise (m:Ch)
 |expr (e:E)
 |brk
 |tryR (s:Ss) (i:Nat) (x:E)
inductive Ss where
 |nil
 |cons (s:S) (ss:Ss)
end
structure St where
 loc:List (Option V)
 hp:List O
set_option genCtorIdx true in
inductive Fl where
 |next|brk|ret (v:V)
noncomputable abbrev R (α:Type):=Option (Except Ch α×St)
@[reducible] def okR {α:Type} (a:α) (σ:St):R α:=some (.ok a,σ)
noncomputable def cW {α β:Type} (m:R α) (f:α→St→R β):R β:=
 match m with
 |Option.none=>Option.none
 |some (.ok a,σ)=>f a σ
 |some (.error e,σ)=>some (.error e,σ)
noncomputable def qc {α:Type} (o:Option α) (σ:St):R α:=o.map fun a=>(.ok a,σ)
noncomputable def nu:Nat:=2^24
noncomputable def cN (k:Int) (n:Nat):Option Nat:=
 if 0≤k then(if k<n then some k.toNat else Option.none)else if 0≤k+n then some (k+n).toNat else Option.none
noncomputable def iW (k:Int) (n:Nat):Nat:=if k<0 then(if k+n<0 then 0 else(k+n).toNat)else(if(n:Int)<k then n else k.toNat)
noncomputable def cut {α:Type} (l:List α) (lo hi:Int):List α:=(l.drop (iW lo l.length)).take (iW hi l.length-iW lo l.length)
noncomputable def jz (c:Char) (l:Ch) (k:Nat):Int:=match(l.drop k).findIdx? (· ==c)with
 |some j=>(k+j:Nat)
 |Option.none=> -1
noncomputable def d4 (k:Int):Bool:=decide (-(2^63:Int)≤k)&&decide (k<2^63)
noncomputable def listOf? (H:List O) (i:Nat):Option (List V):=match H[i]? with|some (.list vs)=>some vs|_=>Option.none
noncomputable def dictOf? (H:List O) (i:Nat):Option (List (Ch×V)):=match H[i]? with|some (.dict es)=>some es|_=>Option.none
noncomputable def sx (l:Ch):Str:=⟨(l.map Char.toNat).toArray⟩
noncomputable def bi {α β:Type} (f:α→Option β):List α→Option (List β)
 |[]=>some []
 |x::xs=>match f x,bi f xs with
  |some a,some b=>some (a::b)
  |_,_=>Option.none
noncomputable def pd (H:List O):Nat→V→Option PyData
 |0,_=>Option.none
 |n+1,v=>match v with
  | .none=>some .none
  | .bool b=>some (.bool b)
  | .int i=>some (.int i)
  | .str l=>some (.str (sx l))
  | .tup vs=>(bi (pd H n) vs).map .tuple
  | .ref i=>match listOf? H i with
   |some vs=>(bi (pd H n) vs).map .list
   |Option.none=>Option.none
  | .exc _=>Option.none
noncomputable def ji:Nat:=1000
noncomputable def C2 (H:List O) (a b:V):Option Bool:=match pd H ji a,pd H ji b with
 |some x,some y=>some (PyData.eqv x y)
 |_,_=>Option.none
noncomputable def dW:List V→Option (List Ch)
 |[]=>some []
 | .str l::vs=>(dW vs).map (l:: ·)
 |_::_=>Option.none
noncomputable def BD:V→Bool
 | .none| .bool _| .int _| .str _=>true
 |_=>false
noncomputable def dX (H:List O) (op:zJ) (a b:V):Option Bool:=match op with
 | .eq=>C2 H a b
 | .ne=>(C2 H a b).map (!·)
 | .lt=>match a,b with| .int x,.int y=>some (decide (x<y))|_,_=>Option.none
 | .le=>match a,b with| .int x,.int y=>some (decide (x≤y))|_,_=>Option.none
 | .gt=>match a,b with| .int x,.int y=>some (decide (x>y))|_,_=>Option.none
 | .ge=>match a,b with| .int x,.int y=>some (decide (x≥y))|_,_=>Option.none
 | .inn=>inV H a b
 | .nin=>(inV H a b).map (!·)
 | .is=>match b with| .none=>some (match a with| .none=>true|_=>false)|_=>Option.none
 | .isn=>match b with| .none=>some (match a with| .none=>false|_=>true)|_=>Option.none
where inV (H:List O) (a b:V):Option Bool:=match a,b with
 | .str [c],.str t=>some (t.contains c)
 | .str x,.tup vs=>(dW vs).map (·.contains x)
 | .str x,.ref i=>(dictOf? H i).map fun es=>es.any fun e=>e.1==x
 |_,_=>Option.none
noncomputable def hK (op:m7) (a b:V):Option V:=match op,a,b with
 | .add,.int x,.int y=>some (.int (x+y))
 | .sub,.int x,.int y=>some (.int (x-y))
 | .mod,.int x,.int y=>if 0<y∧y<2^16 then some (.int (x.fmod y))else Option.none
 | .fdiv,.int x,.int y=>if 0<y∧y<2^16 then some (.int (x.fdiv y))else Option.none
 | .add,.str x,.str y=>if x.length+y.length≤nu then some (.str (x++y))else Option.none
 |_,_,_=>Option.none
noncomputable def qj (es:List (Ch×V)) (k:Ch) (v:V):List (Ch×V):=if es.any (·.1==k)then es.map fun e=>if e.1==k then(k,v)else e else es++[(k,v)]
noncomputable def iG (H:List O) (a b:V):Option V:=match a,b with
 | .str l,.int k=>if d4 k then(cN k l.length).bind fun i=>l[i]?.map fun c=>.str [c]else Option.none
 | .tup vs,.int k=>if d4 k then(cN k vs.length).bind fun i=>vs[i]? else Option.none
 | .ref j,.int k=>if d4 k then(listOf? H j).bind fun vs=>(cN k vs.length).bind fun i=>vs[i]? else Option.none
 | .ref j,.str k=>(dictOf? H j).bind fun es=>es.lookup k
 |_,_=>Option.none
noncomputable def mE (H:List O) (a b v:V):Option (List O):=match a,b with
 | .ref j,.int k=>if d4 k then(listOf? H j).bind fun vs=>(cN k vs.length).map fun i=>H.set j (.list (vs.set i v))else Option.none
 | .ref j,.str k=>(dictOf? H j).bind fun es=>if es.length<1000 then some (H.set j (.dict (qj es k v)))else Option.none
 |_,_=>Option.none
noncomputable def yQ:List Ch→List V→List (Ch×V)
 |k::ks,v::vs=>(k,v)::yQ ks vs
 |_,_=>[]
noncomputable def bW (H:List O):V→Option (List V)
 | .tup vs=>some vs
 | .ref i=>listOf? H i
 |_=>Option.none
noncomputable abbrev ci:=Fn→List V→List O→Option (Except Ch V×List O)
open Classical in
noncomputable def jD (D:Nat) (src:V) (items:List V) (f:V→List O→R V):List V→List V→List O→Option (List O)
 |[],_,H=>some H
 |v::vs,acc,H=>match f v H with
  |some (.ok r,σ)=>if bW σ.hp src=some items∧listOf? σ.hp D=some acc then jD D src items f vs (acc++[r]) (σ.hp.set D (.list (acc++[r])))else Option.none
  |_=>Option.none
noncomputable def zv (i j:Nat) (σ:St):R V:=match listOf? σ.hp i,listOf? σ.hp j with
 |some xs,some ys=>if xs.length+ys.length<10000 then okR (.ref σ.hp.length) {σ with hp:=σ.hp++[.list (xs++ys)]} else Option.none
 |_,_=>Option.none
noncomputable def qg (op:m7) (x y:V) (σ:St):R V:=match op,x,y with
 | .add,.ref i,.ref j=>zv i j σ
 |op,x,y=>qc (hK op x y) σ
open Classical in
mutual
noncomputable def eE (Φ:ci):E→St→R V
 | .none,σ=>okR .none σ
 | .bool b,σ=>okR (.bool b) σ
 | .int i,σ=>okR (.int i) σ
 | .negc i,σ=>okR (.int (-i)) σ
 | .str l,σ=>okR (.str l) σ
 | .loc i,σ=>match σ.loc[i]? with
  |some (some v)=>okR v σ
  |_=>Option.none
 | .bin op a b,σ=>cW (eE Φ a σ) fun x σ=>cW (eE Φ b σ) fun y σ=>qg op x y σ
 | .not a,σ=>cW (eE Φ a σ) fun x σ=>match x with
  | .bool b=>okR (.bool !b) σ
  |_=>Option.none
 | .cmp op a b,σ=>cW (eE Φ a σ) fun x σ=>cW (eE Φ b σ) fun y σ=>qc ((dX σ.hp op x y).map V.bool) σ
 | .cmp2 o1 o2 a b c,σ=>cW (eE Φ a σ) fun x σ=>cW (eE Φ b σ) fun y σ=>match dX σ.hp o1 x y with
  |some true=>cW (eE Φ c σ) fun z σ=>qc ((dX σ.hp o2 y z).map V.bool) σ
  |some false=>okR (.bool false) σ
  |Option.none=>Option.none
 | .and es,σ=>Gs Φ es σ
 | .or es,σ=>Iz Φ es σ
 | .ite c a b,σ=>cW (eE Φ c σ) fun x σ=>match x with
  | .bool true=>eE Φ a σ
  | .bool false=>eE Φ b σ
  |_=>Option.none
 | .idx a b,σ=>cW (eE Φ a σ) fun x σ=>cW (eE Φ b σ) fun y σ=>qc (iG σ.hp x y) σ
 | .slc a lo hi,σ=>cW (eE Φ a σ) fun x σ=>cW (eE Φ lo σ) fun l σ=>cW (eE Φ hi σ) fun h σ=>match x,l,h with
  | .str t,.int p,.int q=>if t.length≤nu then okR (.str (cut t p q)) σ else Option.none
  |_,_,_=>Option.none
 | .slf a lo,σ=>cW (eE Φ a σ) fun x σ=>cW (eE Φ lo σ) fun l σ=>match x,l with
  | .str t,.int p=>if t.length≤nu then okR (.str (cut t p t.length)) σ else Option.none
  |_,_=>Option.none
 | .slt a hi,σ=>cW (eE Φ a σ) fun x σ=>cW (eE Φ hi σ) fun h σ=>match x,h with
  | .str t,.int q=>if t.length≤nu then okR (.str (cut t 0 q)) σ else Option.none
  | .ref i,.int q=>match listOf? σ.hp i with
   |some vs=>if vs.length<10000∧0≤q then okR (.ref σ.hp.length) {σ with hp:=σ.hp++[.list (vs.take q.toNat)]} else Option.none
   |Option.none=>Option.none
  |_,_=>Option.none
 | .tup es,σ=>cW (B0 Φ es σ) fun vs σ=>okR (.tup vs) σ
 | .lst es,σ=>cW (B0 Φ es σ) fun vs σ=>okR (.ref σ.hp.length) {σ with hp:=σ.hp++[.list vs]}
 | .dct ks es,σ=>cW (B0 Φ es {σ with hp:=σ.hp++[.dict []]}) fun vs σ'=>match dictOf? σ'.hp σ.hp.length with
  |some []=>okR (.ref σ.hp.length) {σ' with hp:=σ'.hp.set σ.hp.length (.dict (yQ ks vs))}
  |_=>Option.none
 | .call f es,σ=>cW (B0 Φ es σ) fun vs σ=>match Φ f vs σ.hp with
  |some (.ok v,H)=>some (.ok v,{σ with hp:=H})
  |some (.error m,H)=>some (.error m,{σ with hp:=H})
  |Option.none=>Option.none
 | .len a,σ=>cW (eE Φ a σ) fun x σ=>match x with
  | .str l=>if l.length≤nu then okR (.int l.length) σ else Option.none
  | .tup vs=>if vs.length≤nu then okR (.int vs.length) σ else Option.none
  | .ref i=>match listOf? σ.hp i with
   |some vs=>if vs.length≤nu then okR (.int vs.length) σ else Option.none
   |Option.none=>Option.none
  |_=>Option.none
 | .ord a,σ=>cW (eE Φ a σ) fun x σ=>match x with
  | .str [c]=>okR (.int c.toNat) σ
  |_=>Option.none
 | .chr a,σ=>cW (eE Φ a σ) fun x σ=>match x with
  | .int k=>if 0≤k∧k<128 then okR (.str [Char.ofNat k.toNat]) σ else Option.none
  |_=>Option.none
 | .tuple a,σ=>cW (eE Φ a σ) fun x σ=>match x with
  | .ref i=>match listOf? σ.hp i with
   |some vs=>if vs.length<10000 then okR (.tup vs) σ else Option.none
   |Option.none=>Option.none
  |_=>Option.none
 | .find1 a b,σ=>cW (eE Φ a σ) fun x σ=>match x with
  | .str t=>cW (eE Φ b σ) fun y σ=>match y with
   | .str [c]=>okR (.int (jz c t 0)) σ
   |_=>Option.none
  |_=>Option.none
 | .find2 a b c,σ=>cW (eE Φ a σ) fun x σ=>match x with
  | .str t=>cW (eE Φ b σ) fun y σ=>cW (eE Φ c σ) fun z σ=>match y,z with
   | .str [d],.int k=>if 0≤k∧k≤t.length then okR (.int (jz d t k.toNat)) σ else Option.none
   |_,_=>Option.none
  |_=>Option.none
 | .join sep a,σ=>cW (eE Φ sep σ) fun x σ=>match x with
  | .str []=>cW (eE Φ a σ) fun y σ=>match y with
   | .ref i=>match(listOf? σ.hp i).bind dW with
    |some ls=>if ls.length<10000∧ls.flatten.length≤100000 then okR (.str ls.flatten) σ else Option.none
    |Option.none=>Option.none
   |_=>Option.none
  |_=>Option.none
 | .append a b,σ=>cW (eE Φ a σ) fun x σ=>match x with
  | .ref i=>match listOf? σ.hp i with
   |some _=>cW (eE Φ b σ) fun y σ=>match listOf? σ.hp i with
    |some vs=>if vs.length<10000 then okR .none {σ with hp:=σ.hp.set i (.list (vs++[y]))} else Option.none
    |Option.none=>Option.none
   |Option.none=>Option.none
  |_=>Option.none
 | .pop a,σ=>cW (eE Φ a σ) fun x σ=>match x with
  | .ref i=>match listOf? σ.hp i with
   |some vs=>match vs.getLast? with
    |some v=>if vs.length<10000 then okR v {σ with hp:=σ.hp.set i (.list vs.dropLast)} else Option.none
    |Option.none=>Option.none
   |Option.none=>Option.none
  |_=>Option.none
 | .comp elt it frees,σ=>if frees.all (fun i=>((σ.loc[i]?).join).isSome)then cW (eE Φ it σ) fun src ah=>match bW ah.hp src with
  |some items=>if items.length<10000 then match jD ah.hp.length src items (fun v H=>eE Φ elt ⟨Option.none::some v::frees.map (fun i=>(σ.loc[i]?).join),H⟩) items [] (ah.hp++[.list []])with
    |some H=>okR (.ref ah.hp.length) {ah with hp:=H}
    |Option.none=>Option.none
   else Option.none
  |Option.none=>Option.none
  else Option.none
noncomputable def B0 (Φ:ci):Es→St→R (List V)
 | .nil,σ=>okR [] σ
 | .cons e es,σ=>cW (eE Φ e σ) fun v σ=>cW (B0 Φ es σ) fun vs σ=>okR (v::vs) σ
noncomputable def Gs (Φ:ci):Es→St→R V
 | .nil,_=>Option.none
 | .cons e .nil,σ=>cW (eE Φ e σ) fun x σ=>match x with
  | .bool b=>okR (.bool b) σ
  |_=>Option.none
 | .cons e (.cons e' es),σ=>cW (eE Φ e σ) fun x σ=>match x with
  | .bool false=>okR (.bool false) σ
  | .bool true=>Gs Φ (.cons e' es) σ
  |_=>Option.none
noncomputable def Iz (Φ:ci):Es→St→R V
 | .nil,_=>Option.none
 | .cons e .nil,σ=>cW (eE Φ e σ) fun x σ=>match x with
  | .bool b=>okR (.bool b) σ
  |_=>Option.none
 | .cons e (.cons e' es),σ=>cW (eE Φ e σ) fun x σ=>match x with
  | .bool true=>okR (.bool true) σ
  | .bool false=>Iz Φ (.cons e' es) σ
  |_=>Option.none
end
noncomputable def tE (Φ:ci) (c:E) (σ:St):R Bool:=cW (eE Φ c σ) fun x σ=>match x with
 | .bool b=>okR b σ
 |_=>Option.none
noncomputable def setL (l:List (Option V)) (i:Nat) (v:V):List (Option V):=l.set i (some v)
noncomputable def GQ (Φ:ci):T→V→St→R Unit
 | .loc i,v,σ=>if i<σ.loc.length then okR () {σ with loc:=setL σ.loc i v} else Option.none
 | .sub a b,v,σ=>cW (eE Φ a σ) fun x σ=>cW (eE Φ b σ) fun y σ=>match mE σ.hp x y v with
  |some H=>okR () {σ with hp:=H}
  |Option.none=>Option.none
noncomputable def dP (Φ:ci):List T→List V→St→R Unit
 |[],[],σ=>okR () σ
 |t::ts,v::vs,σ=>cW (GQ Φ t v σ) fun _ σ=>dP Φ ts vs σ
 |_,_,_=>Option.none
noncomputable def iter (t:St→R Bool) (b:St→R Fl):Nat→St→R Fl
 |0,_=>Option.none
 |W+1,σ=>cW (t σ) fun c σ=>if c then cW (b σ) fun f σ=>(match f with
   | .next=>iter t b W σ
   | .brk=>okR .next σ
   | .ret v=>okR (.ret v) σ)else okR .next σ
open Classical in
noncomputable def hZ (src:V) (items:List V) (f:V→St→R Fl):List V→St→R Fl
 |[],σ=>okR .next σ
 |v::vs,σ=>match f v σ with
  |some (.ok fl,σ')=>(match fl with
   | .next=>if bW σ'.hp src=some items then hZ src items f vs σ' else Option.none
   | .brk=>okR .next σ'
   | .ret v=>okR (.ret v) σ')
  |_=>Option.none
mutual
noncomputable def eS (Φ:ci) (W:Nat):S→St→R Fl
 | .asg i e,σ=>cW (eE Φ e σ) fun v σ=>if i<σ.loc.length then okR .next {σ with loc:=setL σ.loc i v} else Option.none
 | .asgT ts e,σ=>cW (eE Φ e σ) fun v σ=>match v with
  | .tup vs=>if vs.length=ts.length then cW (dP Φ ts vs σ) fun _ σ=>okR .next σ else Option.none
  |_=>Option.none
 | .asgS a b e,σ=>cW (eE Φ e σ) fun v σ=>cW (GQ Φ (.sub a b) v σ) fun _ σ=>okR .next σ
 | .aug i op e,σ=>match σ.loc[i]? with
  |some (some old)=>cW (eE Φ e σ) fun v σ=>match hK op old v with
   |some r=>if i<σ.loc.length then okR .next {σ with loc:=setL σ.loc i r} else Option.none
   |Option.none=>Option.none
  |_=>Option.none
 | .augS a b op e,σ=>cW (eE Φ a σ) fun x σ=>cW (eE Φ b σ) fun y σ=>match iG σ.hp x y with
  |some old=>cW (eE Φ e σ) fun v σ=>match hK op old v with
   |some r=>match mE σ.hp x y r with
    |some H=>okR .next {σ with hp:=H}
    |Option.none=>Option.none
   |Option.none=>Option.none
  |Option.none=>Option.none
 | .ife c s t,σ=>cW (tE Φ c σ) fun b σ=>if b then bF Φ W s σ else bF Φ W t σ
 | .whl c s,σ=>iter (tE Φ c) (bF Φ W s) W σ
 | .for1 i it s,σ=>cW (eE Φ it σ) fun src σ=>match bW σ.hp src with
  |some items=>if items.length<10000 then hZ src items (fun v σ=>if i<σ.loc.length then bF Φ W s {σ with loc:=setL σ.loc i v} else Option.none) items σ else Option.none
  |Option.none=>Option.none
 | .forT is it s,σ=>cW (eE Φ it σ) fun src σ=>match bW σ.hp src with
  |some items=>if items.length<10000 then hZ src items (fun v σ=>match v with
    | .tup vs=>if vs.length=is.length then cW (dP Φ (is.map T.loc) vs σ) fun _ σ=>bF Φ W s σ else Option.none
    |_=>Option.none) items σ else Option.none
  |Option.none=>Option.none
 | .ret e,σ=>cW (eE Φ e σ) fun v σ=>okR (.ret v) σ
 | .raise m,σ=>some (.error m,σ)
 | .expr e,σ=>cW (eE Φ e σ) fun _ σ=>okR .next σ
 | .brk,σ=>okR .brk σ
 | .tryR s i x,σ=>match bF Φ W s σ with
  |some (.error m,σ')=>match σ'.loc[i]? with
   |some Option.none=>cW (eE Φ x σ') fun v σ''=>okR (.ret (.tup [v,.tup [.int 1,.str m,.tup [.str "NONE".toList]]])) σ''
   |_=>Option.none
  |r=>r
noncomputable def bF (Φ:ci) (W:Nat):Ss→St→R Fl
 | .nil,σ=>okR .next σ
 | .cons s ss,σ=>cW (eS Φ W s σ) fun f σ=>match f with
  | .next=>bF Φ W ss σ
  |f=>okR f σ
end
structure eK where
 params:Nat
 slots:Nat
 body:Ss
 pure:Bool
 dflt:List V:=[]
noncomputable def eK.full (F:eK) (args:List V):List V:=args++F.dflt.drop (F.dflt.length+args.length-F.params)
mutual
noncomputable def ii (k:Nat):V→Bool
 | .tup vs=>iD k vs
 | .ref i=>decide (i<k)
 |_=>true
noncomputable def iD (k:Nat):List V→Bool
 |[]=>true
 |v::vs=>ii k v&&iD k vs
end
open Classical in
noncomputable def vq (F:eK) (H:List O) (r:R Fl):Option (Except Ch V×List O):=match r with
 |some (.ok f,σ)=>
  let v:=match f with| .ret v=>v|_=>V.none
  if F.pure then(if σ.hp.take H.length=H∧ii H.length v=true then some (.ok v,H)else Option.none)else some (.ok v,σ.hp)
 |some (.error m,σ)=>if F.pure then(if σ.hp.take H.length=H then some (.error m,H)else Option.none)else some (.error m,σ.hp)
 |Option.none=>Option.none
noncomputable def aT (F:eK) (Φ:ci) (W:Nat) (args:List V) (H:List O):Option (Except Ch V×List O):=
 if(F.full args).length=F.params then vq F H (bF Φ W F.body ⟨(F.full args).map some++List.replicate (F.slots-F.params) Option.none,H⟩)else Option.none
theorem mv {a b:Bool} (h:a=true) (k:b=true):(a&&b)=true:=by rw[h];exact k
theorem aF {α:Type} {P:Prop} {r:α} (e:none=some r):P:=by cases e
theorem j5 {α:Type} {P:α→Prop} {c:Prop} [Decidable c] {a r:α} (e:(if c then some a else none)=some r) (f:c→P a):P r:=by
 by_cases h:c
 ·rw[if_pos h]at e;exact Option.some.inj e▸f h
 ·rw[if_neg h]at e;exact aF e
theorem cD {α:Type} {P:α→Prop} {a r:α} (e:some a=some r) (f:P a):P r:=Option.some.inj e▸f
theorem bind_some {α β:Type} {P:Prop} {o:Option α} {f:α→Option β} {r:β} (e:o.bind f=some r) (k:∀a,o=some a→f a=some r→P):P:=by
 cases o with
 |none=>exact aF e
 |some a=>exact k a rfl e
theorem map_some {α β:Type} {P:β→Prop} {o:Option α} {f:α→β} {r:β} (e:o.map f=some r) (k:∀a,o=some a→P (f a)):P r:=by
 cases o with
 |none=>exact aF e
 |some a=>exact cD e (k a rfl)
theorem lK {P:m7→V→V→V→Prop} {op:m7} {a b r:V} (e:hK op a b=some r) (h1:∀x y,P .add (.int x) (.int y) (.int (x+y))) (h2:∀x y,P .sub (.int x) (.int y) (.int (x-y)))
  (h3:∀x y,0<y∧y<2^16→P .mod (.int x) (.int y) (.int (x.fmod y))) (h4:∀x y,0<y∧y<2^16→P .fdiv (.int x) (.int y) (.int (x.fdiv y)))
  (h5:∀x y,x.length+y.length≤nu→P .add (.str x) (.str y) (.str (x++y))):P op a b r:=by
 cases op with
 |add=>cases a with
  |int x=>cases b with
   |int y=>exact cD e (h1 x y)
   |_=>exact aF e
  |str x=>cases b with
   |str y=>exact j5 e (h5 x y)
   |_=>exact aF e
  |_=>exact aF e
 |sub=>cases a with
  |int x=>cases b with
   |int y=>exact cD e (h2 x y)
   |_=>exact aF e
  |_=>exact aF e
 |mod=>cases a with
  |int x=>cases b with
   |int y=>exact j5 e (h3 x y)
   |_=>exact aF e
  |_=>exact aF e
 |fdiv=>cases a with
  |int x=>cases b with
   |int y=>exact j5 e (h4 x y)
   |_=>exact aF e
  |_=>exact aF e
theorem y4 {y:Int} (h:0<y∧y<2^16):y.natAbs<2^30:=by omega
theorem gp {H:List O} {i:Nat} {vs:List V} (e:listOf? H i=some vs):H[i]? =some (.list vs):=by
 unfold listOf? at e
 generalize H[i]? =o at e⊢
 cases o with
 |none=>exact aF e
 |some o=>cases o with
  |list us=>exact cD (P:=fun vs=>some (O.list us)=some (.list vs)) e rfl
  |_=>exact aF e
theorem tS {H:List O} {i:Nat} {vs:List (Ch×V)} (e:dictOf? H i=some vs):H[i]? =some (.dict vs):=by
 unfold dictOf? at e
 generalize H[i]? =o at e⊢
 cases o with
 |none=>exact aF e
 |some o=>cases o with
  |dict us=>exact cD (P:=fun vs=>some (O.dict us)=some (.dict vs)) e rfl
  |_=>exact aF e
theorem gY {H:List O} {i:Nat} {vs:List V} (e:H[i]? =some (.list vs)):listOf? H i=some vs:=by unfold listOf?;rw[e]
theorem tx {H:List O} {i:Nat} {vs:List (Ch×V)} (e:H[i]? =some (.dict vs)):dictOf? H i=some vs:=by unfold dictOf?;rw[e]
theorem xZ {α β:Type} {f:α→Option β} {P:List β→Prop} {x:α} {xs:List α} {r:List β} (e:bi f (x::xs)=some r) (k:∀a b,f x=some a→bi f xs=some b→P (a::b)):P r:=by
 have e:(match f x,bi f xs with|some a,some b=>some (a::b)|_,_=>Option.none)=some r:=e
 generalize f x=o at*
 cases o with
 |none=>exact aF e
 |some a=>
  generalize bi f xs=o at*
  cases o with
  |none=>exact aF e
  |some b=>exact cD e (k a b rfl rfl)
theorem A6 {H:List O} {P:Bool→Prop} {a b:V} {r:Bool} (e:C2 H a b=some r) (k:∀x y,pd H ji a=some x→pd H ji b=some y→P (PyData.eqv x y)):P r:=by
 unfold C2 at e
 generalize pd H ji a=o at*
 cases o with
 |none=>exact aF e
 |some x=>
  generalize pd H ji b=o at*
  cases o with
  |none=>exact aF e
  |some y=>exact cD e (k x y rfl rfl)
theorem Av {H:List O} {n:Nat} {P:V→PyData→Prop} {v:V} {d:PyData} (e:pd H (n+1) v=some d) (h0:P .none .none) (h1:∀b,P (.bool b) (.bool b)) (h2:∀i,P (.int i) (.int i)) (h3:∀l,P (.str l) (.str (sx l)))
  (h4:∀vs ds,bi (pd H n) vs=some ds→P (.tup vs) (.tuple ds)) (h5:∀i vs ds,listOf? H i=some vs→bi (pd H n) vs=some ds→P (.ref i) (.list ds)):P v d:=by
 cases v with
 |none=>exact cD e h0
 |bool b=>exact cD e (h1 b)
 |int i=>exact cD e (h2 i)
 |str l=>exact cD e (h3 l)
 |tup vs=>exact map_some e fun ds q=>h4 vs ds q
 |ref i=>
  have e:(match listOf? H i with|some vs=>(bi (pd H n) vs).map .list|Option.none=>Option.none)=some d:=e
  generalize hl:listOf? H i=o at e
  cases o with
  |none=>exact aF e
  |some vs=>exact map_some e fun ds q=>h5 i vs ds hl q
 |exc m=>exact aF e
theorem u8 {P:V→List Ch→Prop} {v:V} {vs:List V} {r:List Ch} (e:dW (v::vs)=some r) (k:∀l ls,dW vs=some ls→P (.str l) (l::ls)):P v r:=by
 cases v with
 |str l=>exact map_some e fun ls q=>k l ls q
 |_=>exact aF e
theorem CN {H:List O} {P:V→V→Bool→Prop} {a b:V} {r:Bool} (e:dX.inV H a b=some r) (h1:∀c t,P (.str [c]) (.str t) (t.contains c)) (h2:∀x vs ls,dW vs=some ls→P (.str x) (.tup vs) (ls.contains x))
  (h3:∀x i es,dictOf? H i=some es→P (.str x) (.ref i) (es.any fun e=>e.1==x)):P a b r:=by
 cases a with
 |str x=>cases b with
  |str t=>cases x with
   |nil=>exact aF e
   |cons c x=>cases x with
    |nil=>exact cD e (h1 c t)
    |cons d x=>exact aF e
  |tup vs=>cases x with
   |nil=>exact map_some e (h2 [] vs)
   |cons c x=>cases x with
    |nil=>exact map_some e (h2 _ vs)
    |cons d x=>exact map_some e (h2 _ vs)
  |ref i=>cases x with
   |nil=>exact map_some e (h3 [] i)
   |cons c x=>cases x with
    |nil=>exact map_some e (h3 _ i)
    |cons d x=>exact map_some e (h3 _ i)
  |_=>cases x with
   |nil=>exact aF e
   |cons c x=>cases x with
    |nil=>exact aF e
    |cons d x=>exact aF e
 |_=>exact aF e
theorem BY {f:Int→Int→Bool} {P:V→V→Bool→Prop} {a b:V} {r:Bool} (e:(match a,b with| .int x,.int y=>some (f x y)|_,_=>Option.none)=some r) (k:∀x y,P (.int x) (.int y) (f x y)):P a b r:=by
 cases a with
 |int x=>cases b with
  |int y=>exact cD e (k x y)
  |_=>exact aF e
 |_=>exact aF e
theorem uW {o:Option Bool} {P:V→Prop} {b:V} {r:Bool} (e:(match b with| .none=>o|_=>Option.none)=some r) (k:o=some r→P .none):P b:=by
 cases b with
 |none=>exact k e
 |_=>exact aF e
theorem mH {α:Type} {P:Prop} {c:Prop} [Decidable c] {o:Option α} {r:α} (e:(if c then o else none)=some r) (k:c→o=some r→P):P:=by
 by_cases h:c
 ·rw[if_pos h]at e;exact k h e
 ·rw[if_neg h]at e;exact aF e
theorem BA {P:Nat→Prop} {k:Int} {n j:Nat} (e:cN k n=some j) (h1:0≤k→k<n→P k.toNat) (h2:¬ 0≤k→0≤k+n→P (k+n).toNat):P j:=by
 by_cases h:0≤k
 ·exact j5 (c:=k<n) ((if_pos h).symm.trans e) (h1 h)
 ·exact j5 (c:=0≤k+n) ((if_neg h).symm.trans e) (h2 h)
theorem G9 {k:Int} {n j:Nat} (e:cN k n=some j):j<n:=BA (P:=fun j=>j<n) e (fun _ _=>by omega) fun _ _=>by omega
theorem tI {H:List O} {P:V→V→V→Prop} {a b r:V} (e:iG H a b=some r) (h1:∀l k i c,d4 k=true→cN k l.length=some i→l[i]? =some c→P (.str l) (.int k) (.str [c]))
  (h2:∀vs k i v,d4 k=true→cN k vs.length=some i→vs[i]? =some v→P (.tup vs) (.int k) v) (h3:∀j k vs i v,d4 k=true→listOf? H j=some vs→cN k vs.length=some i→vs[i]? =some v→P (.ref j) (.int k) v)
  (h4:∀j k es v,dictOf? H j=some es→es.lookup k=some v→P (.ref j) (.str k) v):P a b r:=by
 cases a with
 |str l=>cases b with
  |int k=>exact mH e fun h0 e=>bind_some e fun i h1' e=>map_some e fun c h2'=>h1 l k i c h0 h1' h2'
  |_=>exact aF e
 |tup vs=>cases b with
  |int k=>exact mH e fun h0 e=>bind_some e fun i h1' e=>h2 vs k i r h0 h1' e
  |_=>exact aF e
 |ref j=>cases b with
  |int k=>exact mH e fun h0 e=>bind_some e fun vs h1' e=>bind_some e fun i h2' e=>h3 j k vs i r h0 h1' h2' e
  |str k=>exact bind_some e fun es h1' e=>h4 j k es r h1' e
  |_=>exact aF e
 |_=>exact aF e
theorem tK {H:List O} {P:V→V→List O→Prop} {a b v:V} {r:List O} (e:mE H a b v=some r) (h1:∀j k vs i,d4 k=true→listOf? H j=some vs→cN k vs.length=some i→P (.ref j) (.int k) (H.set j (.list (vs.set i v))))
  (h2:∀j k es,dictOf? H j=some es→es.length<1000→P (.ref j) (.str k) (H.set j (.dict (qj es k v)))):P a b r:=by
 cases a with
 |ref j=>cases b with
  |int k=>exact mH e fun h0 e=>bind_some e fun vs h1' e=>map_some e fun i h2'=>h1 j k vs i h0 h1' h2'
  |str k=>exact bind_some e fun es h1' e=>j5 e (h2 j k es h1')
  |_=>exact aF e
 |_=>exact aF e
theorem fo {n:Nat} (h:n<10000):n≤sizeLine:=by rw[sizeLine_eq];omega
theorem wz {n:Nat} (h:n<1000):n<10000:=Nat.lt_trans h (by decide)
open Classical in
theorem qz {D:Nat} {src:V} {items:List V} {f:V→List O→R V} {v:V} {vs acc:List V} {H Hf:List O} {G:Prop} (e:jD D src items f (v::vs) acc H=some Hf)
  (k:∀r σ,f v H=some (.ok r,σ)→bW σ.hp src=some items→listOf? σ.hp D=some acc→jD D src items f vs (acc++[r]) (σ.hp.set D (.list (acc++[r])))=some Hf→G):G:=by
 rw[jD]at e
 cases h:f v H with
 |none=>rw[h]at e;exact aF e
 |some r=>
  obtain⟨r,σ⟩:=r
  cases r with
  |error m=>rw[h]at e;exact aF e
  |ok r=>rw[h]at e;exact mH e fun c e=>k r σ h c.1 c.2 e
theorem me {H:List O} {src:V} {items:List V} {P:V→Prop} (e:bW H src=some items) (h1:P (.tup items)) (h2:∀i,listOf? H i=some items→P (.ref i)):P src:=by
 cases src with
 |tup vs=>exact cD (P:=fun items=>P (.tup items)→P (.tup vs)) e id h1
 |ref i=>exact h2 i e
 |_=>exact aF e
theorem xK {σ:St} {P:m7→V→V→Prop} {op:m7} {v u:V} (h1:∀i j,qg .add (.ref i) (.ref j) σ=zv i j σ→P .add (.ref i) (.ref j)) (h2:∀op v u,qg op v u σ=qc (hK op v u) σ→P op v u):P op v u:=by
 cases op with
 |add=>cases v with
  |ref i=>cases u with
   |ref j=>exact h1 i j rfl
   |_=>exact h2 _ _ _ rfl
  |_=>exact h2 _ _ _ rfl
 |_=>exact h2 _ _ _ rfl
theorem DC {σ:St} {op:m7} {x y v:V} (h:hK op x y=some v):qg op x y σ=some (.ok v,σ):=by
 have e:qg op x y σ=qc (hK op x y) σ:=lK (P:=fun op x y _=>qg op x y σ=qc (hK op x y) σ) h (fun _ _=>rfl) (fun _ _=>rfl) (fun _ _ _=>rfl) (fun _ _ _=>rfl) (fun _ _ _=>rfl)
 rw[e,h];rfl
theorem CZ {σ:St} {i j:Nat} {xs ys:List V} (h1:listOf? σ.hp i=some xs) (h2:listOf? σ.hp j=some ys) (hl:xs.length+ys.length<10000):zv i j σ=some (.ok (.ref σ.hp.length),{σ with hp:=σ.hp++[.list (xs++ys)]}):=by
 unfold zv;rw[h1,h2];exact if_pos hl
theorem uq {σ:St} {i j:Nat} {P:R V→Prop} (h0:P none) (h:∀xs ys,listOf? σ.hp i=some xs→listOf? σ.hp j=some ys→xs.length+ys.length<10000→P (some (.ok (.ref σ.hp.length),{σ with hp:=σ.hp++[.list (xs++ys)]}))):P (zv i j σ):=by
 unfold zv
 generalize listOf? σ.hp i=o1 at*
 generalize listOf? σ.hp j=o2 at*
 cases o1 with
 |none=>exact h0
 |some xs=>cases o2 with
  |none=>exact h0
  |some ys=>
   show P (if xs.length+ys.length<10000 then _ else _)
   by_cases hl:xs.length+ys.length<10000
   ·rw[if_pos hl];exact h xs ys rfl rfl hl
   ·rw[if_neg hl];exact h0
section
variable {H:List O} {i j:Nat} {k:Int} {key:Ch} {vs:List V} {es:List (Ch×V)} {v:V}
theorem iU {x y:Ch} (h:x.length+y.length≤nu):hK .add (.str x) (.str y)=some (.str (x++y)):=if_pos h
theorem yD {x y:Int} (h:0<y∧y<2^16):hK .mod (.int x) (.int y)=some (.int (x.fmod y)):=if_pos h
theorem Cf {x y:Int} (h:0<y∧y<2^16):hK .fdiv (.int x) (.int y)=some (.int (x.fdiv y)):=if_pos h
theorem BJ {x:Ch} (h:dictOf? H i=some es):dX H .inn (.str x) (.ref i)=some (es.any fun e=>e.1==x):=by
 cases x with
 |nil=>exact(congrArg (Option.map fun es:List (Ch×V)=>es.any fun e=>e.1==[]) h)
 |cons c x=>cases x with
  |nil=>exact(congrArg (Option.map fun es:List (Ch×V)=>es.any fun e=>e.1==[c]) h)
  |cons d x=>exact(congrArg (Option.map fun es:List (Ch×V)=>es.any fun e=>e.1==c::d::x) h)
theorem Bh {x:Ch} {ls:List Ch} (h:dW vs=some ls):dX H .inn (.str x) (.tup vs)=some (ls.contains x):=by
 cases x with
 |nil=>exact(congrArg (Option.map fun ls:List Ch=>ls.contains []) h)
 |cons c x=>cases x with
  |nil=>exact(congrArg (Option.map fun ls:List Ch=>ls.contains [c]) h)
  |cons d x=>exact(congrArg (Option.map fun ls:List Ch=>ls.contains (c::d::x)) h)
theorem nU (hd:dictOf? H j=some es) (hk:es.lookup key=some v):iG H (.ref j) (.str key)=some v:=by
 show(dictOf? H j).bind _=_
 rw[hd];exact hk
theorem w7 (h0:d4 k=true) (hl:listOf? H j=some vs) (hi:cN k vs.length=some i):iG H (.ref j) (.int k)=vs[i]? :=by
 show(if d4 k=true then(listOf? H j).bind fun vs=>(cN k vs.length).bind fun i=>vs[i]? else Option.none)=_
 rw[if_pos h0,hl]
 show(cN k vs.length).bind _=_
 rw[hi];rfl
theorem ry (h0:d4 k=true) (hi:cN k vs.length=some i):iG H (.tup vs) (.int k)=vs[i]? :=by
 show(if d4 k=true then(cN k vs.length).bind fun i=>vs[i]? else Option.none)=_
 rw[if_pos h0,hi];rfl
theorem CQ (hd:dictOf? H j=some es) (hl:es.length<1000):mE H (.ref j) (.str key) v=some (H.set j (.dict (qj es key v))):=by
 show(dictOf? H j).bind _=_
 rw[hd];exact if_pos hl
theorem DO (h0:d4 k=true) (hl:listOf? H j=some vs) (hi:cN k vs.length=some i):mE H (.ref j) (.int k) v=some (H.set j (.list (vs.set i v))):=by
 show(if d4 k=true then(listOf? H j).bind fun vs=>(cN k vs.length).map fun i=>H.set j (.list (vs.set i v))else Option.none)=_
 rw[if_pos h0,hl]
 show(cN k vs.length).map _=_
 rw[hi];rfl
theorem A8 {n:Nat} (h:i<n):cN (i:Int) n=some i:=(if_pos (Int.natCast_nonneg i)).trans ((if_pos (Int.ofNat_lt.mpr h)).trans (congrArg some (Int.toNat_natCast i)))
end
end Mine
end
section
namespace Mine
noncomputable def yx:Ss:=
 (.cons (.ife (.cmp .ne (.len (.loc 0)) (.int 1))
 (.cons (.ret (.negc 1))
 .nil)
 .nil)
 (.cons (.asg 1 (.ord (.loc 0)))
 (.cons (.ife (.cmp2 .le .le (.int 48) (.loc 1) (.int 57))
 (.cons (.ret (.bin .sub (.loc 1) (.int 48)))
 .nil)
 .nil)
 (.cons (.ife (.cmp2 .le .le (.int 97) (.loc 1) (.int 122))
 (.cons (.ret (.bin .sub (.loc 1) (.int 87)))
 .nil)
 .nil)
 (.cons (.ife (.cmp2 .le .le (.int 65) (.loc 1) (.int 90))
 (.cons (.ret (.bin .sub (.loc 1) (.int 55)))
 .nil)
 .nil)
 (.cons (.ret (.negc 1))
 .nil))))))
noncomputable def xG:eK:={params:=1,slots:=2,body:=yx,pure:=true}
noncomputable def uD:Ss:=
 (.cons (.asg 2 (.slc (.loc 0) (.bin .add (.loc 1) (.int 1)) (.bin .add (.loc 1) (.int 2))))
 (.cons (.ife (.cmp .eq (.loc 2) (.str []))
 (.cons (.ret (.tup (.cons (.str ['\\']) (.cons (.bin .add (.loc 1) (.int 1)) .nil))))
 .nil)
 .nil)
 (.cons (.asg 3 (.find1 (.str ['a','b','f','n','r','t','v']) (.loc 2)))
 (.cons (.ife (.cmp .ge (.loc 3) (.int 0))
 (.cons (.ret (.tup (.cons (.idx (.str ['\x07','\x08','\x0c','\n','\r','\t','\x0b']) (.loc 3)) (.cons (.bin .add (.loc 1) (.int 2)) .nil))))
 .nil)
 .nil)
 (.cons (.ife (.cmp .eq (.loc 2) (.str ['\n']))
 (.cons (.asg 4 (.bin .add (.loc 1) (.int 2)))
 (.cons (.whl (.cmp .inn (.slc (.loc 0) (.loc 4) (.bin .add (.loc 4) (.int 1))) (.tup (.cons (.str [' ']) (.cons (.str ['\t']) .nil))))
 (.cons (.aug 4 .add (.int 1))
 .nil))
 (.cons (.ret (.tup (.cons (.str [' ']) (.cons (.loc 4) .nil))))
 .nil)))
 .nil)
 (.cons (.ife (.cmp .inn (.loc 2) (.tup (.cons (.str ['x']) (.cons (.str ['u']) (.cons (.str ['U']) .nil)))))
 (.cons (.ret (.call .hexSign (.cons (.loc 0) (.cons (.bin .add (.loc 1) (.int 1)) .nil))))
 .nil)
 .nil)
 (.cons (.ife (.cmp .inn (.loc 2) (.tup (.cons (.str ['0']) (.cons (.str ['1']) (.cons (.str ['2']) (.cons (.str ['3']) (.cons (.str ['4']) (.cons (.str ['5']) (.cons (.str ['6']) (.cons (.str ['7']) .nil))))))))))
 (.cons (.ret (.call .octalSign (.cons (.loc 0) (.cons (.bin .add (.loc 1) (.int 1)) .nil))))
 .nil)
 .nil)
 (.cons (.ret (.tup (.cons (.loc 2) (.cons (.bin .add (.loc 1) (.int 2)) .nil))))
 .nil))))))))
noncomputable def fH:eK:={params:=2,slots:=5,body:=uD,pure:=true}
noncomputable def De:Ss:=
 (.cons (.ret (.cmp .inn (.loc 0) (.tup (.cons (.str [' ']) (.cons (.str ['\t']) (.cons (.str ['\x0b']) (.cons (.str ['\x0c']) (.cons (.str ['\r']) .nil))))))))
 .nil)
noncomputable def yl:eK:={params:=1,slots:=1,body:=De,pure:=true}
noncomputable def vV:Ss:=
 (.cons (.whl (.cmp .lt (.loc 1) (.len (.loc 0)))
 (.cons (.ife (.call .isGap (.cons (.idx (.loc 0) (.loc 1)) .nil))
 (.cons (.aug 1 .add (.int 1))
 .nil)
 (.cons (.ife (.cmp .eq (.slc (.loc 0) (.loc 1) (.bin .add (.loc 1) (.int 2))) (.str ['\\','\n']))
 (.cons (.aug 1 .add (.int 2))
 .nil)
 (.cons (.ret (.loc 1))
 .nil))
 .nil))
 .nil))
 (.cons (.ret (.loc 1))
 .nil))
noncomputable def kU:eK:={params:=2,slots:=2,body:=vV,pure:=true}
noncomputable def no:Ss:=
 (.cons (.asg 2 (.len (.loc 0)))
 (.cons (.whl (.cmp .lt (.loc 1) (.loc 2))
 (.cons (.ife (.cmp .eq (.idx (.loc 0) (.loc 1)) (.str ['\\']))
 (.cons (.aug 1 .add (.int 2))
 .nil)
 (.cons (.ife (.cmp .eq (.idx (.loc 0) (.loc 1)) (.str ['\n']))
 (.cons (.ret (.bin .add (.loc 1) (.int 1)))
 .nil)
 (.cons (.aug 1 .add (.int 1))
 .nil))
 .nil))
 .nil))
 (.cons (.ret (.loc 2))
 .nil)))
noncomputable def fW:eK:={params:=2,slots:=3,body:=no,pure:=true}
noncomputable def nz:Ss:=
 (.cons (.asg 1 (.call .skipGaps (.cons (.loc 0) (.cons (.loc 1) .nil))))
 (.cons (.whl (.cmp .inn (.slc (.loc 0) (.loc 1) (.bin .add (.loc 1) (.int 1))) (.tup (.cons (.str ['\n']) (.cons (.str [';']) (.cons (.str ['#']) .nil)))))
 (.cons (.ife (.cmp .eq (.idx (.loc 0) (.loc 1)) (.str ['#']))
 (.cons (.asg 1 (.call .commentBehind (.cons (.loc 0) (.cons (.loc 1) .nil))))
 .nil)
 (.cons (.aug 1 .add (.int 1))
 .nil))
 (.cons (.asg 1 (.call .skipGaps (.cons (.loc 0) (.cons (.loc 1) .nil))))
 .nil)))
 (.cons (.ret (.loc 1))
 .nil)))
noncomputable def ja:eK:={params:=2,slots:=2,body:=nz,pure:=true}
noncomputable def wL:Ss:=
 (.cons (.whl (.cmp .lt (.loc 1) (.len (.loc 0)))
 (.cons (.ife (.or (.cons (.cmp .eq (.idx (.loc 0) (.loc 1)) (.str ['_'])) (.cons (.cmp .ge (.call .digit (.cons (.idx (.loc 0) (.loc 1)) .nil)) (.int 0)) .nil)))
 (.cons (.aug 1 .add (.int 1))
 .nil)
 (.cons (.ife (.cmp .eq (.slc (.loc 0) (.loc 1) (.bin .add (.loc 1) (.int 2))) (.str [':',':']))
 (.cons (.aug 1 .add (.int 2))
 (.cons (.whl (.cmp .eq (.slc (.loc 0) (.loc 1) (.bin .add (.loc 1) (.int 1))) (.str [':']))
 (.cons (.aug 1 .add (.int 1))
 .nil))
 .nil))
 (.cons (.ret (.loc 1))
 .nil))
 .nil))
 .nil))
 (.cons (.ret (.loc 1))
 .nil))
noncomputable def kG:eK:={params:=2,slots:=2,body:=wL,pure:=true}
noncomputable def wb:Ss:=
 (.cons (.asg 2 (.bin .add (.loc 1) (.int 1)))
 (.cons (.ife (.cmp .eq (.slc (.loc 0) (.loc 2) (.bin .add (.loc 2) (.int 1))) (.str ['{']))
 (.cons (.asg 3 (.find2 (.loc 0) (.str ['}']) (.loc 2)))
 (.cons (.ife (.cmp .lt (.loc 3) (.int 0))
 (.cons (.raise ['m','i','s','s','i','n','g',' ','c','l','o','s','e','-','b','r','a','c','e',' ','f','o','r',' ','v','a','r','i','a','b','l','e',' ','n','a','m','e'])
 .nil)
 .nil)
 (.cons (.ret (.tup (.cons (.tup (.cons (.str ['v','a','r']) (.cons (.slc (.loc 0) (.bin .add (.loc 2) (.int 1)) (.loc 3)) (.cons .none .nil)))) (.cons (.bin .add (.loc 3) (.int 1)) .nil))))
 .nil)))
 .nil)
 (.cons (.asg 4 (.call .readName (.cons (.loc 0) (.cons (.loc 2) .nil))))
 (.cons (.ife (.cmp .eq (.slc (.loc 0) (.loc 4) (.bin .add (.loc 4) (.int 1))) (.str ['(']))
 (.cons (.asgT [.loc 5,.loc 3] (.call .partsUntil (.cons (.loc 0) (.cons (.bin .add (.loc 4) (.int 1)) (.cons (.tup (.cons (.str [')']) .nil)) .nil)))))
 (.cons (.ife (.cmp .ge (.loc 3) (.len (.loc 0)))
 (.cons (.raise ['m','i','s','s','i','n','g',' ',')'])
 .nil)
 .nil)
 (.cons (.ret (.tup (.cons (.tup (.cons (.str ['v','a','r']) (.cons (.slc (.loc 0) (.loc 2) (.loc 4)) (.cons (.loc 5) .nil)))) (.cons (.bin .add (.loc 3) (.int 1)) .nil))))
 .nil)))
 .nil)
 (.cons (.ife (.cmp .eq (.loc 4) (.loc 2))
 (.cons (.ret (.tup (.cons (.tup (.cons (.str ['t','e','x','t']) (.cons (.str ['$']) .nil))) (.cons (.loc 2) .nil))))
 .nil)
 .nil)
 (.cons (.ret (.tup (.cons (.tup (.cons (.str ['v','a','r']) (.cons (.slc (.loc 0) (.loc 2) (.loc 4)) (.cons .none .nil)))) (.cons (.loc 4) .nil))))
 .nil))))))
noncomputable def dQ:eK:={params:=2,slots:=6,body:=wb,pure:=true}
noncomputable def vR:Ss:=
 (.cons (.asg 2 (.bin .add (.loc 1) (.int 1)))
 (.cons (.asg 3 (.call .skipToCommand (.cons (.loc 0) (.cons (.loc 2) .nil))))
 (.cons (.whl (.and (.cons (.cmp .lt (.loc 3) (.len (.loc 0))) (.cons (.cmp .ne (.idx (.loc 0) (.loc 3)) (.str [']'])) .nil)))
 (.cons (.asg 4 (.call .commandAt (.cons (.loc 0) (.cons (.loc 3) (.cons (.bool true) .nil)))))
 (.cons (.asg 3 (.call .skipToCommand (.cons (.loc 0) (.cons (.idx (.loc 4) (.int 3)) .nil))))
 .nil)))
 (.cons (.ife (.cmp .ge (.loc 3) (.len (.loc 0)))
 (.cons (.raise ['m','i','s','s','i','n','g',' ','c','l','o','s','e','-','b','r','a','c','k','e','t'])
 .nil)
 .nil)
 (.cons (.ret (.tup (.cons (.slc (.loc 0) (.loc 2) (.loc 3)) (.cons (.bin .add (.loc 3) (.int 1)) .nil))))
 .nil)))))
noncomputable def iO:eK:={params:=2,slots:=5,body:=vR,pure:=true}
noncomputable def tR:Ss:=
 (.cons (.asg 2 (.len (.loc 0)))
 (.cons (.asg 3 (.bin .add (.loc 1) (.int 1)))
 (.cons (.asg 4 (.loc 3))
 (.cons (.asg 5 (.str []))
 (.cons (.asg 6 (.int 1))
 (.cons (.whl (.cmp .lt (.loc 4) (.loc 2))
 (.cons (.ife (.cmp .eq (.idx (.loc 0) (.loc 4)) (.str ['{']))
 (.cons (.aug 6 .add (.int 1))
 (.cons (.aug 4 .add (.int 1))
 .nil))
 (.cons (.ife (.cmp .eq (.idx (.loc 0) (.loc 4)) (.str ['}']))
 (.cons (.aug 6 .sub (.int 1))
 (.cons (.aug 4 .add (.int 1))
 (.cons (.ife (.cmp .eq (.loc 6) (.int 0))
 (.cons (.ret (.tup (.cons (.bin .add (.loc 5) (.slc (.loc 0) (.loc 3) (.bin .sub (.loc 4) (.int 1)))) (.cons (.loc 4) .nil))))
 .nil)
 .nil)
 .nil)))
 (.cons (.ife (.cmp .eq (.slc (.loc 0) (.loc 4) (.bin .add (.loc 4) (.int 2))) (.str ['\\','\n']))
 (.cons (.asgT [.loc 7,.loc 8] (.call .backslash (.cons (.loc 0) (.cons (.loc 4) .nil))))
 (.cons (.aug 5 .add (.bin .add (.slc (.loc 0) (.loc 3) (.loc 4)) (.loc 7)))
 (.cons (.asg 4 (.loc 8))
 (.cons (.asg 3 (.loc 8))
 .nil))))
 (.cons (.ife (.cmp .eq (.idx (.loc 0) (.loc 4)) (.str ['\\']))
 (.cons (.aug 4 .add (.int 2))
 .nil)
 (.cons (.whl (.and (.cons (.cmp .lt (.loc 4) (.loc 2)) (.cons (.cmp .nin (.idx (.loc 0) (.loc 4)) (.str ['{','}','\\'])) .nil)))
 (.cons (.aug 4 .add (.int 1))
 .nil))
 .nil))
 .nil))
 .nil))
 .nil))
 .nil))
 (.cons (.raise ['m','i','s','s','i','n','g',' ','c','l','o','s','e','-','b','r','a','c','e'])
 .nil)))))))
noncomputable def oO:eK:={params:=2,slots:=9,body:=tR,pure:=true}
noncomputable def lB:Ss:=
 (.cons (.asg 3 (.lst .nil))
 (.cons (.asg 4 (.str []))
 (.cons (.asg 5 (.len (.loc 0)))
 (.cons (.whl (.and (.cons (.cmp .lt (.loc 1) (.loc 5)) (.cons (.cmp .nin (.idx (.loc 0) (.loc 1)) (.loc 2)) .nil)))
 (.cons (.ife (.cmp .eq (.idx (.loc 0) (.loc 1)) (.str ['$']))
 (.cons (.asgT [.loc 6,.loc 1] (.call .variable (.cons (.loc 0) (.cons (.loc 1) .nil))))
 .nil)
 (.cons (.ife (.cmp .eq (.idx (.loc 0) (.loc 1)) (.str ['[']))
 (.cons (.asgT [.loc 7,.loc 1] (.call .brackets (.cons (.loc 0) (.cons (.loc 1) .nil))))
 (.cons (.asg 6 (.tup (.cons (.str ['c','m','d']) (.cons (.loc 7) .nil))))
 .nil))
 (.cons (.ife (.cmp .eq (.idx (.loc 0) (.loc 1)) (.str ['\\']))
 (.cons (.ife (.and (.cons (.cmp .inn (.str [' ']) (.loc 2)) (.cons (.cmp .eq (.slc (.loc 0) (.bin .add (.loc 1) (.int 1)) (.bin .add (.loc 1) (.int 2))) (.str ['\n'])) .nil)))
 (.cons .brk
 .nil)
 .nil)
 (.cons (.asgT [.loc 8,.loc 1] (.call .backslash (.cons (.loc 0) (.cons (.loc 1) .nil))))
 (.cons (.asg 6 (.tup (.cons (.str ['t','e','x','t']) (.cons (.loc 8) .nil))))
 .nil)))
 (.cons (.asg 9 (.loc 1))
 (.cons (.whl (.and (.cons (.cmp .lt (.loc 1) (.loc 5)) (.cons (.cmp .nin (.idx (.loc 0) (.loc 1)) (.str ['$','[','\\'])) (.cons (.cmp .nin (.idx (.loc 0) (.loc 1)) (.loc 2)) .nil))))
 (.cons (.aug 1 .add (.int 1))
 .nil))
 (.cons (.asg 6 (.tup (.cons (.str ['t','e','x','t']) (.cons (.slc (.loc 0) (.loc 9) (.loc 1)) .nil))))
 .nil))))
 .nil))
 .nil))
 (.cons (.ife (.cmp .eq (.idx (.loc 6) (.int 0)) (.str ['t','e','x','t']))
 (.cons (.aug 4 .add (.idx (.loc 6) (.int 1)))
 .nil)
 (.cons (.ife (.cmp .ne (.loc 4) (.str []))
 (.cons (.expr (.append (.loc 3) (.tup (.cons (.str ['t','e','x','t']) (.cons (.loc 4) .nil)))))
 (.cons (.asg 4 (.str []))
 .nil))
 .nil)
 (.cons (.expr (.append (.loc 3) (.loc 6)))
 .nil)))
 .nil)))
 (.cons (.ife (.cmp .ne (.loc 4) (.str []))
 (.cons (.expr (.append (.loc 3) (.tup (.cons (.str ['t','e','x','t']) (.cons (.loc 4) .nil)))))
 .nil)
 .nil)
 (.cons (.ret (.tup (.cons (.tuple (.loc 3)) (.cons (.loc 1) .nil))))
 .nil))))))
noncomputable def iQ:eK:={params:=3,slots:=10,body:=lB,pure:=true}
noncomputable def tG:Ss:=
 (.cons (.ife (.loc 0)
 (.cons (.ret (.tup (.cons (.str [' ']) (.cons (.str ['\t']) (.cons (.str ['\x0b']) (.cons (.str ['\x0c']) (.cons (.str ['\r']) (.cons (.str ['\n']) (.cons (.str [';']) (.cons (.str [']']) .nil))))))))))
 .nil)
 .nil)
 (.cons (.ret (.tup (.cons (.str [' ']) (.cons (.str ['\t']) (.cons (.str ['\x0b']) (.cons (.str ['\x0c']) (.cons (.str ['\r']) (.cons (.str ['\n']) (.cons (.str [';']) .nil)))))))))
 .nil))
noncomputable def jF:eK:={params:=1,slots:=1,body:=tG,pure:=true}
noncomputable def s9:Ss:=
 (.cons (.ife (.cmp .ne (.slc (.loc 0) (.loc 1) (.bin .add (.loc 1) (.int 3))) (.str ['{','*','}']))
 (.cons (.ret (.bool false))
 .nil)
 .nil)
 (.cons (.asg 2 (.bin .add (.loc 1) (.int 3)))
 (.cons (.ife (.cmp .inn (.slc (.loc 0) (.loc 2) (.bin .add (.loc 2) (.int 1))) (.tup (.cons (.str []) (.cons (.str ['\n']) (.cons (.str [';']) .nil)))))
 (.cons (.ret (.bool false))
 .nil)
 .nil)
 (.cons (.ret (.cmp .eq (.call .skipGaps (.cons (.loc 0) (.cons (.loc 2) .nil))) (.loc 2)))
 .nil))))
noncomputable def eD:eK:={params:=2,slots:=3,body:=s9,pure:=true}
noncomputable def FY:Ss:=
 (.cons (.asg 3 (.call .isExpanded (.cons (.loc 0) (.cons (.loc 1) .nil))))
 (.cons (.ife (.loc 3)
 (.cons (.aug 1 .add (.int 3))
 .nil)
 .nil)
 (.cons (.asg 4 (.slc (.loc 0) (.loc 1) (.bin .add (.loc 1) (.int 1))))
 (.cons (.ife (.cmp .eq (.loc 4) (.str ['{']))
 (.cons (.asgT [.loc 5,.loc 6] (.call .braces (.cons (.loc 0) (.cons (.loc 1) .nil))))
 (.cons (.ife (.cmp .eq (.loc 5) (.str []))
 (.cons (.ret (.tup (.cons (.tup (.cons (.loc 3) (.cons (.tup .nil) .nil))) (.cons (.loc 6) .nil))))
 .nil)
 .nil)
 (.cons (.ret (.tup (.cons (.tup (.cons (.loc 3) (.cons (.tup (.cons (.tup (.cons (.str ['t','e','x','t']) (.cons (.loc 5) .nil))) .nil)) .nil))) (.cons (.loc 6) .nil))))
 .nil)))
 .nil)
 (.cons (.ife (.cmp .eq (.loc 4) (.str ['"']))
 (.cons (.asgT [.loc 7,.loc 8] (.call .partsUntil (.cons (.loc 0) (.cons (.bin .add (.loc 1) (.int 1)) (.cons (.tup (.cons (.str ['"']) .nil)) .nil)))))
 (.cons (.ife (.cmp .ge (.loc 8) (.len (.loc 0)))
 (.cons (.raise ['m','i','s','s','i','n','g',' ','"'])
 .nil)
 .nil)
 (.cons (.ret (.tup (.cons (.tup (.cons (.loc 3) (.cons (.loc 7) .nil))) (.cons (.bin .add (.loc 8) (.int 1)) .nil))))
 .nil)))
 .nil)
 (.cons (.asgT [.loc 7,.loc 6] (.call .partsUntil (.cons (.loc 0) (.cons (.loc 1) (.cons (.call .bareStops (.cons (.loc 2) .nil)) .nil)))))
 (.cons (.ret (.tup (.cons (.tup (.cons (.loc 3) (.cons (.loc 7) .nil))) (.cons (.loc 6) .nil))))
 .nil)))))))
noncomputable def iL:eK:={params:=3,slots:=9,body:=FY,pure:=true}
noncomputable def mZ:Ss:=
 (.cons (.asg 3 (.call .skipToCommand (.cons (.loc 0) (.cons (.loc 1) .nil))))
 (.cons (.asg 4 (.len (.loc 0)))
 (.cons (.ife (.or (.cons (.cmp .ge (.loc 3) (.loc 4)) (.cons (.and (.cons (.loc 2) (.cons (.cmp .eq (.idx (.loc 0) (.loc 3)) (.str [']'])) .nil))) .nil)))
 (.cons (.ret .none)
 .nil)
 .nil)
 (.cons (.asg 5 (.lst .nil))
 (.cons (.asg 6 (.loc 3))
 (.cons (.whl (.bool true)
 (.cons (.asgT [.loc 7,.loc 8] (.call .word (.cons (.loc 0) (.cons (.loc 6) (.cons (.loc 2) .nil)))))
 (.cons (.expr (.append (.loc 5) (.loc 7)))
 (.cons (.asg 6 (.call .skipGaps (.cons (.loc 0) (.cons (.loc 8) .nil))))
 (.cons (.ife (.cmp .ge (.loc 6) (.loc 4))
 (.cons (.ret (.tup (.cons (.tuple (.loc 5)) (.cons (.loc 3) (.cons (.loc 8) (.cons (.loc 4) .nil))))))
 .nil)
 .nil)
 (.cons (.ife (.cmp .inn (.idx (.loc 0) (.loc 6)) (.tup (.cons (.str ['\n']) (.cons (.str [';']) .nil))))
 (.cons (.ret (.tup (.cons (.tuple (.loc 5)) (.cons (.loc 3) (.cons (.loc 8) (.cons (.bin .add (.loc 6) (.int 1)) .nil))))))
 .nil)
 .nil)
 (.cons (.ife (.and (.cons (.loc 2) (.cons (.cmp .eq (.idx (.loc 0) (.loc 6)) (.str [']'])) .nil)))
 (.cons (.ret (.tup (.cons (.tuple (.loc 5)) (.cons (.loc 3) (.cons (.loc 8) (.cons (.loc 6) .nil))))))
 .nil)
 .nil)
 (.cons (.ife (.cmp .eq (.loc 6) (.loc 8))
 (.cons (.ife (.cmp .eq (.idx (.loc 0) (.bin .sub (.loc 8) (.int 1))) (.str ['"']))
 (.cons (.raise ['e','x','t','r','a',' ','c','h','a','r','a','c','t','e','r','s',' ','a','f','t','e','r',' ','c','l','o','s','e','-','q','u','o','t','e'])
 .nil)
 .nil)
 (.cons (.raise ['e','x','t','r','a',' ','c','h','a','r','a','c','t','e','r','s',' ','a','f','t','e','r',' ','c','l','o','s','e','-','b','r','a','c','e'])
 .nil))
 .nil)
 .nil))))))))
 .nil))))))
noncomputable def gN:eK:={params:=3,slots:=9,body:=mZ,pure:=true,dflt:=[.bool false]}
noncomputable def sL:Ss:=
 (.cons (.asg 1 (.lst .nil))
 (.cons (.asg 2 (.call .commandAt (.cons (.loc 0) (.cons (.int 0) .nil))))
 (.cons (.whl (.cmp .isn (.loc 2) .none)
 (.cons (.expr (.append (.loc 1) (.loc 2)))
 (.cons (.asg 2 (.call .commandAt (.cons (.loc 0) (.cons (.idx (.loc 2) (.int 3)) .nil))))
 .nil)))
 (.cons (.ret (.loc 1))
 .nil))))
noncomputable def gf:eK:={params:=1,slots:=3,body:=sL,pure:=false}
noncomputable def zk:Ss:=
 (.cons (.asgT [.loc 1,.loc 2] (.loc 0))
 (.cons (.ife (.or (.cons (.loc 1) (.cons (.cmp .gt (.len (.loc 2)) (.int 1)) .nil)))
 (.cons (.ret .none)
 .nil)
 .nil)
 (.cons (.ife (.cmp .eq (.len (.loc 2)) (.int 0))
 (.cons (.ret (.str []))
 .nil)
 .nil)
 (.cons (.ife (.cmp .eq (.idx (.idx (.loc 2) (.int 0)) (.int 0)) (.str ['t','e','x','t']))
 (.cons (.ret (.idx (.idx (.loc 2) (.int 0)) (.int 1)))
 .nil)
 .nil)
 (.cons (.ret .none)
 .nil)))))
noncomputable def ib:eK:={params:=1,slots:=3,body:=zk,pure:=true}
noncomputable def qJ:Ss:=
 (.cons (.ret (.lst (.cons (.str []) (.cons (.str ['{']) (.cons (.str ['}']) (.cons (.str ['[']) (.cons (.str [']']) (.cons (.str ['"']) (.cons (.str ['$']) (.cons (.str [';']) (.cons (.str ['\\']) (.cons (.str ['#']) (.cons (.str ['(']) (.cons (.str [')']) (.cons (.str [' ']) (.cons (.str ['\n']) (.cons (.str ['a']) (.cons (.str [':']) (.cons (.str ['*']) (.cons (.str ['\t']) (.cons (.str ['9']) (.cons (.str ['_']) (.cons (.str ['\xe9']) (.cons (.str ['{','*','}']) (.cons (.str ['$','{']) (.cons (.str ['$','a']) (.cons (.str ['$','a','(']) (.cons (.str ['\\','\n']) (.cons (.str [':',':']) (.cons (.str ['}',' ']) (.cons (.str ['"',' ']) (.cons (.str ['a',' ']) (.cons (.str ['\x0c']) (.cons (.str ['Z']) (.cons (.str ['[','a']) (.cons (.str ['{','a','}']) (.cons (.str [';',' ']) (.cons (.str ['\\','}']) (.cons (.str ['$','(']) (.cons (.str ['\r']) (.cons (.str ['\x0b']) (.cons (.str ['#','a']) .nil))))))))))))))))))))))))))))))))))))))))))
 .nil)
noncomputable def qG:eK:={params:=0,slots:=0,body:=qJ,pure:=false}
noncomputable def oH:Ss:=
 (.cons (.ret (.lst (.cons (.str ['a',' ','{','b','\\','\n','\t',' ','c','{','\\','}','d','}','}',' ','"','e',';','f',' ',']','\\','n','"',' ',';','\n','#',' ','g',' ',']',' ','\\','\n',' ','{',' ','h','\n','i','\\','\t','j',' ','#','k','\\','\n',' ','l','}','"','m','\n',';','{','}',' ','"','"']) (.cons (.str ['$','a',':',':',':','b',':','$',':',':','c','(','d',' ','"','{','$','e','}',')','$','$','{','f',' ','g','(','}','$','(','\\','\n',' ','h',')','$',':','i','\\','$','j','[','k',']','$','9','\xe9',' ','"','$','l','(','$','m','[','n',' ','(',']',')','o','"','\n','$','Z','{',' ','$','A','@',' ','a','$','p','/',';','#',' ','[','\\']) (.cons (.str ['{','*','}','{','a',' ','b','}','\t','{','*','}','$','c',' ','{','*','}','[','d',' ','{','e',']','}',' ','"',']','f','\\',']','"',' ',';','#',' ',']',' ','\n',']',' ','{','*','}','"','g',' ','h','"',' ','{','*','}',' ','{','*','}',';','j','[','[','k',']',' ','l',']','m','{','n','}','"','[',']','{','*','}','o',';','\n',' ','q',' ','{','*','}',']',' ','p','{']) .nil)))))
 .nil)
noncomputable def oi:eK:={params:=0,slots:=0,body:=oH,pure:=false}
noncomputable def qA:Ss:=
 (.cons (.ret (.lst (.cons (.str ['a',';','{','b']) (.cons (.str ['a',';','"','b']) (.cons (.str ['a','\n','[','b',' ',';']) (.cons (.str ['a',';','$','b','(']) (.cons (.str ['a',';','$','{']) (.cons (.str ['a',';','{','b','}','c']) (.cons (.str ['a',';','"','b','"','[']) (.cons (.str ['a',';','{','*','}','{','*','}','b']) .nil))))))))))
 .nil)
noncomputable def qo:eK:={params:=0,slots:=0,body:=qA,pure:=false}
noncomputable def wK:Ss:=
 (.cons (.asg 3 (.bin .mod (.loc 2) (.bin .add (.len (.loc 0)) (.int 1))))
 (.cons (.ret (.bin .add (.bin .add (.slt (.loc 0) (.loc 3)) (.loc 1)) (.slf (.loc 0) (.bin .add (.loc 3) (.ite (.cmp .eq (.loc 1) (.str [])) (.int 1) (.int 0))))))
 .nil))
noncomputable def pO:eK:={params:=3,slots:=4,body:=wK,pure:=true}
noncomputable def zz:Ss:=
 (.cons (.ret (.dct [['k','i','n','d'],['s','t','a','r','t'],['s','t','a','t','e'],['w','o','r','d','s'],['b','e','g','i','n'],['l','a','s','t'],['m','o','r','e']] (.cons (.str ['s','c','r','i','p','t']) (.cons (.loc 0) (.cons (.str ['a','h','e','a','d']) (.cons (.lst .nil) (.cons (.int 0) (.cons (.int 0) (.cons (.bool false) .nil)))))))))
 .nil)
noncomputable def qK:eK:={params:=1,slots:=1,body:=zz,pure:=false}
noncomputable def Er:Ss:=
 (.cons (.expr (.append (.idx (.loc 0) (.str ['s','t','a','c','k'])) (.dct [['k','i','n','d'],['s','t','a','r','t'],['p','a','r','t','s'],['n','a','m','e'],['d','e','p','t','h']] (.cons (.loc 1) (.cons (.loc 2) (.cons (.lst .nil) (.cons (.loc 3) (.cons (.int 1) .nil))))))))
 .nil)
noncomputable def yk:eK:={params:=4,slots:=4,body:=Er,pure:=false}
noncomputable def FZ:Ss:=
 (.cons (.asg 2 (.idx (.loc 0) (.str ['p','a','r','t','s'])))
 (.cons (.ife (.and (.cons (.cmp .gt (.len (.loc 2)) (.int 0)) (.cons (.cmp .eq (.idx (.idx (.loc 2) (.negc 1)) (.int 0)) (.str ['t','e','x','t'])) .nil)))
 (.cons (.asgS (.loc 2) (.negc 1) (.tup (.cons (.str ['t','e','x','t']) (.cons (.bin .add (.idx (.idx (.loc 2) (.negc 1)) (.int 1)) (.loc 1)) .nil))))
 .nil)
 (.cons (.expr (.append (.loc 2) (.tup (.cons (.str ['t','e','x','t']) (.cons (.loc 1) .nil)))))
 .nil))
 .nil))
noncomputable def sD:eK:={params:=2,slots:=3,body:=FZ,pure:=false}
noncomputable def Ez:Ss:=
 (.cons (.asg 2 (.slc (.loc 0) (.bin .add (.loc 1) (.int 1)) (.bin .add (.loc 1) (.int 2))))
 (.cons (.ife (.cmp .eq (.loc 2) (.str []))
 (.cons (.ret (.tup (.cons (.str ['\\']) (.cons (.bin .add (.loc 1) (.int 1)) .nil))))
 .nil)
 .nil)
 (.cons (.asg 3 (.bin .add (.loc 1) (.int 2)))
 (.cons (.ife (.cmp .eq (.loc 2) (.str ['\n']))
 (.cons (.whl (.and (.cons (.cmp .lt (.loc 3) (.len (.loc 0))) (.cons (.cmp .inn (.idx (.loc 0) (.loc 3)) (.str [' ','\t'])) .nil)))
 (.cons (.aug 3 .add (.int 1))
 .nil))
 (.cons (.ret (.tup (.cons (.str [' ']) (.cons (.loc 3) .nil))))
 .nil))
 .nil)
 (.cons (.asg 4 (.dct [['a'],['b'],['t'],['n'],['v'],['f'],['r']] (.cons (.int 7) (.cons (.int 8) (.cons (.int 9) (.cons (.int 10) (.cons (.int 11) (.cons (.int 12) (.cons (.int 13) .nil)))))))))
 (.cons (.ret (.tup (.cons (.ite (.cmp .inn (.loc 2) (.loc 4)) (.chr (.idx (.loc 4) (.loc 2))) (.loc 2)) (.cons (.loc 3) .nil))))
 .nil))))))
noncomputable def nH:eK:={params:=2,slots:=5,body:=Ez,pure:=true}
noncomputable def D0:Ss:=
 (.cons (.asg 2 (.str ['a','b','c','d','e','f','g','h','i','j','k','l','m','n','o','p','q','r','s','t','u','v','w','x','y','z','A','B','C','D','E','F','G','H','I','J','K','L','M','N','O','P','Q','R','S','T','U','V','W','X','Y','Z','0','1','2','3','4','5','6','7','8','9','_']))
 (.cons (.whl (.cmp .lt (.loc 1) (.len (.loc 0)))
 (.cons (.asg 3 (.int 0))
 (.cons (.whl (.cmp .eq (.slc (.loc 0) (.bin .add (.loc 1) (.loc 3)) (.bin .add (.bin .add (.loc 1) (.loc 3)) (.int 1))) (.str [':']))
 (.cons (.aug 3 .add (.int 1))
 .nil))
 (.cons (.ife (.cmp .ge (.loc 3) (.int 2))
 (.cons (.aug 1 .add (.loc 3))
 .nil)
 (.cons (.ife (.and (.cons (.cmp .eq (.loc 3) (.int 0)) (.cons (.cmp .inn (.idx (.loc 0) (.loc 1)) (.loc 2)) .nil)))
 (.cons (.aug 1 .add (.int 1))
 .nil)
 (.cons (.ret (.loc 1))
 .nil))
 .nil))
 .nil))))
 (.cons (.ret (.loc 1))
 .nil)))
noncomputable def rM:eK:={params:=2,slots:=4,body:=D0,pure:=true}
noncomputable def te:Ss:=
 (.cons (.asg 3 (.pop (.idx (.loc 0) (.str ['s','t','a','c','k']))))
 (.cons (.asg 4 (.idx (.idx (.loc 0) (.str ['s','t','a','c','k'])) (.negc 1)))
 (.cons (.expr (.append (.idx (.loc 4) (.str ['w','o','r','d','s'])) (.tup (.cons (.idx (.loc 4) (.str ['m','o','r','e'])) (.cons (.tuple (.idx (.loc 3) (.str ['p','a','r','t','s']))) .nil)))))
 (.cons (.asgT [.sub (.loc 4) (.str ['m','o','r','e']),.sub (.loc 4) (.str ['l','a','s','t']),.sub (.loc 4) (.str ['s','t','a','t','e'])] (.tup (.cons (.bool false) (.cons (.loc 1) (.cons (.loc 2) .nil)))))
 .nil))))
noncomputable def lv:eK:={params:=3,slots:=5,body:=te,pure:=false}
noncomputable def nv:Ss:=
 (.cons (.asg 2 (.idx (.idx (.loc 0) (.str ['s','t','a','c','k'])) (.negc 1)))
 (.cons (.ife (.and (.cons (.cmp .gt (.len (.idx (.loc 2) (.str ['w','o','r','d','s']))) (.int 0)) (.cons (.cmp .eq (.len (.idx (.loc 0) (.str ['s','t','a','c','k']))) (.int 1)) .nil)))
 (.cons (.expr (.append (.idx (.loc 0) (.str ['d','o','n','e'])) (.tup (.cons (.tuple (.idx (.loc 2) (.str ['w','o','r','d','s']))) (.cons (.idx (.loc 2) (.str ['b','e','g','i','n'])) (.cons (.idx (.loc 2) (.str ['l','a','s','t'])) (.cons (.loc 1) .nil)))))))
 .nil)
 .nil)
 (.cons (.asgT [.sub (.loc 2) (.str ['w','o','r','d','s']),.sub (.loc 2) (.str ['s','t','a','t','e'])] (.tup (.cons (.lst .nil) (.cons (.str ['a','h','e','a','d']) .nil))))
 .nil)))
noncomputable def i9:eK:={params:=2,slots:=3,body:=nv,pure:=false}
noncomputable def cJ:Ss:=
 (.cons (.asgT [.loc 2,.loc 3] (.tup (.cons (.idx (.loc 0) (.str ['t','e','x','t'])) (.cons (.idx (.idx (.loc 0) (.str ['s','t','a','c','k'])) (.negc 1)) .nil))))
 (.cons (.asgT [.loc 4,.loc 5] (.tup (.cons (.idx (.loc 2) (.loc 1)) (.cons (.idx (.loc 3) (.str ['s','t','a','t','e'])) .nil))))
 (.cons (.ife (.cmp .eq (.loc 5) (.str ['c','o','m','m','e','n','t']))
 (.cons (.ife (.cmp .eq (.loc 4) (.str ['\n']))
 (.cons (.asgS (.loc 3) (.str ['s','t','a','t','e']) (.str ['a','h','e','a','d']))
 .nil)
 .nil)
 (.cons (.ret (.ite (.cmp .eq (.loc 4) (.str ['\\'])) (.bin .add (.loc 1) (.int 2)) (.bin .add (.loc 1) (.int 1))))
 .nil))
 .nil)
 (.cons (.ife (.or (.cons (.cmp .inn (.loc 4) (.str [' ','\t','\x0b','\x0c','\r'])) (.cons (.cmp .eq (.slc (.loc 2) (.loc 1) (.bin .add (.loc 1) (.int 2))) (.str ['\\','\n'])) .nil)))
 (.cons (.ife (.cmp .ne (.loc 5) (.str ['a','h','e','a','d']))
 (.cons (.asgS (.loc 3) (.str ['s','t','a','t','e']) (.str ['g','a','p']))
 .nil)
 .nil)
 (.cons (.ret (.ite (.cmp .eq (.loc 4) (.str ['\\'])) (.bin .add (.loc 1) (.int 2)) (.bin .add (.loc 1) (.int 1))))
 .nil))
 .nil)
 (.cons (.ife (.cmp .inn (.loc 4) (.str ['\n',';']))
 (.cons (.expr (.call .lCloseCommand (.cons (.loc 0) (.cons (.bin .add (.loc 1) (.int 1)) .nil))))
 (.cons (.ret (.bin .add (.loc 1) (.int 1)))
 .nil))
 .nil)
 (.cons (.asg 6 (.and (.cons (.cmp .eq (.loc 5) (.str ['b','e','h','i','n','d'])) (.cons (.cmp .eq (.idx (.idx (.loc 3) (.str ['w','o','r','d','s'])) (.negc 1)) (.tup (.cons (.bool false) (.cons (.tup (.cons (.tup (.cons (.str ['t','e','x','t']) (.cons (.str ['*']) .nil))) .nil)) .nil)))) (.cons (.cmp .eq (.idx (.loc 2) (.bin .sub (.loc 1) (.int 1))) (.str ['}'])) .nil)))))
 (.cons (.ife (.and (.cons (.cmp .eq (.loc 4) (.str [']'])) (.cons (.or (.cons (.idx (.loc 0) (.str ['i','s','_','n','e','s','t','e','d'])) (.cons (.cmp .gt (.len (.idx (.loc 0) (.str ['s','t','a','c','k']))) (.int 1)) .nil))) .nil)))
 (.cons (.ife (.loc 6)
 (.cons (.asgS (.idx (.loc 3) (.str ['w','o','r','d','s'])) (.negc 1) (.tup (.cons (.bool true) (.cons (.tup .nil) .nil))))
 .nil)
 .nil)
 (.cons (.expr (.call .lCloseCommand (.cons (.loc 0) (.cons (.loc 1) .nil))))
 (.cons (.expr (.pop (.idx (.loc 0) (.str ['s','t','a','c','k']))))
 (.cons (.ife (.cmp .gt (.len (.idx (.loc 0) (.str ['s','t','a','c','k']))) (.int 0))
 (.cons (.expr (.append (.idx (.idx (.idx (.loc 0) (.str ['s','t','a','c','k'])) (.negc 1)) (.str ['p','a','r','t','s'])) (.tup (.cons (.str ['c','m','d']) (.cons (.slc (.loc 2) (.idx (.loc 3) (.str ['s','t','a','r','t'])) (.loc 1)) .nil)))))
 .nil)
 .nil)
 (.cons (.ret (.bin .add (.loc 1) (.int 1)))
 .nil)))))
 .nil)
 (.cons (.ife (.cmp .eq (.loc 5) (.str ['a','h','e','a','d']))
 (.cons (.ife (.cmp .eq (.loc 4) (.str ['#']))
 (.cons (.asgS (.loc 3) (.str ['s','t','a','t','e']) (.str ['c','o','m','m','e','n','t']))
 (.cons (.ret (.bin .add (.loc 1) (.int 1)))
 .nil))
 .nil)
 (.cons (.asgS (.loc 3) (.str ['b','e','g','i','n']) (.loc 1))
 .nil))
 .nil)
 (.cons (.ife (.loc 6)
 (.cons (.expr (.pop (.idx (.loc 3) (.str ['w','o','r','d','s']))))
 (.cons (.asgS (.loc 3) (.str ['m','o','r','e']) (.bool true))
 .nil))
 (.cons (.ife (.cmp .eq (.loc 5) (.str ['b','e','h','i','n','d']))
 (.cons (.asgS (.loc 0) (.str ['f','a','u','l','t']) (.bin .add (.str ['e','x','t','r','a',' ','c','h','a','r','a','c','t','e','r','s',' ','a','f','t','e','r',' ','c','l','o','s','e','-']) (.ite (.cmp .eq (.idx (.loc 2) (.bin .sub (.loc 1) (.int 1))) (.str ['"'])) (.str ['q','u','o','t','e']) (.str ['b','r','a','c','e']))))
 (.cons (.ret (.loc 1))
 .nil))
 .nil)
 .nil))
 (.cons (.ife (.or (.cons (.cmp .eq (.loc 4) (.str ['"'])) (.cons (.cmp .eq (.loc 4) (.str ['{'])) .nil)))
 (.cons (.expr (.call .lOpen (.cons (.loc 0) (.cons (.ite (.cmp .eq (.loc 4) (.str ['"'])) (.str ['q','u','o','t','e']) (.str ['b','r','a','c','e'])) (.cons (.bin .add (.loc 1) (.int 1)) (.cons (.str []) .nil))))))
 (.cons (.ret (.bin .add (.loc 1) (.int 1)))
 .nil))
 .nil)
 (.cons (.expr (.call .lOpen (.cons (.loc 0) (.cons (.str ['b','a','r','e']) (.cons (.loc 1) (.cons (.str []) .nil))))))
 (.cons (.ret (.loc 1))
 .nil))))))))))))
noncomputable def bQ:eK:={params:=2,slots:=7,body:=cJ,pure:=false}
noncomputable def jn:Ss:=
 (.cons (.asgT [.loc 2,.loc 3] (.tup (.cons (.idx (.loc 0) (.str ['t','e','x','t'])) (.cons (.idx (.idx (.loc 0) (.str ['s','t','a','c','k'])) (.negc 1)) .nil))))
 (.cons (.asg 4 (.idx (.loc 2) (.loc 1)))
 (.cons (.ife (.cmp .eq (.loc 4) (.str ['\\']))
 (.cons (.ife (.cmp .eq (.slc (.loc 2) (.bin .add (.loc 1) (.int 1)) (.bin .add (.loc 1) (.int 2))) (.str ['\n']))
 (.cons (.asgT [.loc 5,.loc 6] (.call .lBent (.cons (.loc 2) (.cons (.loc 1) .nil))))
 (.cons (.expr (.call .lAdd (.cons (.loc 3) (.cons (.loc 5) .nil))))
 (.cons (.ret (.loc 6))
 .nil)))
 .nil)
 (.cons (.expr (.call .lAdd (.cons (.loc 3) (.cons (.slc (.loc 2) (.loc 1) (.bin .add (.loc 1) (.int 2))) .nil))))
 (.cons (.ret (.bin .add (.loc 1) (.int 2)))
 .nil)))
 .nil)
 (.cons (.ife (.cmp .eq (.loc 4) (.str ['{']))
 (.cons (.augS (.loc 3) (.str ['d','e','p','t','h']) .add (.int 1))
 .nil)
 (.cons (.ife (.cmp .eq (.loc 4) (.str ['}']))
 (.cons (.augS (.loc 3) (.str ['d','e','p','t','h']) .sub (.int 1))
 (.cons (.ife (.cmp .eq (.idx (.loc 3) (.str ['d','e','p','t','h'])) (.int 0))
 (.cons (.expr (.call .lCloseWord (.cons (.loc 0) (.cons (.bin .add (.loc 1) (.int 1)) (.cons (.str ['b','e','h','i','n','d']) .nil)))))
 (.cons (.ret (.bin .add (.loc 1) (.int 1)))
 .nil))
 .nil)
 .nil))
 .nil)
 .nil))
 (.cons (.expr (.call .lAdd (.cons (.loc 3) (.cons (.loc 4) .nil))))
 (.cons (.ret (.bin .add (.loc 1) (.int 1)))
 .nil))))))
noncomputable def c7:eK:={params:=2,slots:=7,body:=jn,pure:=false}
noncomputable def zD:Ss:=
 (.cons (.ife (.cmp .eq (.idx (.idx (.loc 0) (.str ['t','e','x','t'])) (.loc 1)) (.str ['}']))
 (.cons (.asg 2 (.pop (.idx (.loc 0) (.str ['s','t','a','c','k']))))
 (.cons (.expr (.append (.idx (.idx (.idx (.loc 0) (.str ['s','t','a','c','k'])) (.negc 1)) (.str ['p','a','r','t','s'])) (.tup (.cons (.str ['v','a','r']) (.cons (.slc (.idx (.loc 0) (.str ['t','e','x','t'])) (.idx (.loc 2) (.str ['s','t','a','r','t'])) (.loc 1)) (.cons .none .nil))))))
 .nil))
 .nil)
 (.cons (.ret (.bin .add (.loc 1) (.int 1)))
 .nil))
noncomputable def mT:eK:={params:=2,slots:=3,body:=zD,pure:=false}
noncomputable def my:Ss:=
 (.cons (.asg 2 (.idx (.loc 0) (.str ['t','e','x','t'])))
 (.cons (.ife (.cmp .eq (.slc (.loc 2) (.bin .add (.loc 1) (.int 1)) (.bin .add (.loc 1) (.int 2))) (.str ['{']))
 (.cons (.expr (.call .lOpen (.cons (.loc 0) (.cons (.str ['n','a','m','e']) (.cons (.bin .add (.loc 1) (.int 2)) (.cons (.str []) .nil))))))
 (.cons (.ret (.bin .add (.loc 1) (.int 2)))
 .nil))
 .nil)
 (.cons (.asg 3 (.call .lName (.cons (.loc 2) (.cons (.bin .add (.loc 1) (.int 1)) .nil))))
 (.cons (.asg 4 (.slc (.loc 2) (.bin .add (.loc 1) (.int 1)) (.loc 3)))
 (.cons (.ife (.cmp .eq (.slc (.loc 2) (.loc 3) (.bin .add (.loc 3) (.int 1))) (.str ['(']))
 (.cons (.expr (.call .lOpen (.cons (.loc 0) (.cons (.str ['i','n','d','e','x']) (.cons (.bin .add (.loc 3) (.int 1)) (.cons (.loc 4) .nil))))))
 (.cons (.ret (.bin .add (.loc 3) (.int 1)))
 .nil))
 .nil)
 (.cons (.ife (.cmp .eq (.loc 4) (.str []))
 (.cons (.expr (.call .lAdd (.cons (.idx (.idx (.loc 0) (.str ['s','t','a','c','k'])) (.negc 1)) (.cons (.str ['$']) .nil))))
 .nil)
 (.cons (.expr (.append (.idx (.idx (.idx (.loc 0) (.str ['s','t','a','c','k'])) (.negc 1)) (.str ['p','a','r','t','s'])) (.tup (.cons (.str ['v','a','r']) (.cons (.loc 4) (.cons .none .nil))))))
 .nil))
 (.cons (.ret (.loc 3))
 .nil)))))))
noncomputable def iq:eK:={params:=2,slots:=5,body:=my,pure:=false}
noncomputable def gy:Ss:=
 (.cons (.asgT [.loc 2,.loc 3] (.tup (.cons (.idx (.loc 0) (.str ['t','e','x','t'])) (.cons (.idx (.idx (.loc 0) (.str ['s','t','a','c','k'])) (.negc 1)) .nil))))
 (.cons (.asgT [.loc 4,.loc 5] (.tup (.cons (.idx (.loc 2) (.loc 1)) (.cons (.idx (.loc 3) (.str ['k','i','n','d'])) .nil))))
 (.cons (.ife (.cmp .eq (.loc 5) (.str ['b','a','r','e']))
 (.cons (.asg 6 (.or (.cons (.idx (.loc 0) (.str ['i','s','_','n','e','s','t','e','d'])) (.cons (.cmp .gt (.len (.idx (.loc 0) (.str ['s','t','a','c','k']))) (.int 2)) .nil))))
 (.cons (.ife (.or (.cons (.cmp .inn (.loc 4) (.str [' ','\t','\x0b','\x0c','\r','\n',';'])) (.cons (.cmp .eq (.slc (.loc 2) (.loc 1) (.bin .add (.loc 1) (.int 2))) (.str ['\\','\n'])) (.cons (.and (.cons (.cmp .eq (.loc 4) (.str [']'])) (.cons (.loc 6) .nil))) .nil))))
 (.cons (.expr (.call .lCloseWord (.cons (.loc 0) (.cons (.loc 1) (.cons (.str ['g','a','p']) .nil)))))
 (.cons (.ret (.loc 1))
 .nil))
 .nil)
 .nil))
 .nil)
 (.cons (.ife (.and (.cons (.cmp .eq (.loc 5) (.str ['q','u','o','t','e'])) (.cons (.cmp .eq (.loc 4) (.str ['"'])) .nil)))
 (.cons (.expr (.call .lCloseWord (.cons (.loc 0) (.cons (.bin .add (.loc 1) (.int 1)) (.cons (.str ['b','e','h','i','n','d']) .nil)))))
 (.cons (.ret (.bin .add (.loc 1) (.int 1)))
 .nil))
 .nil)
 (.cons (.ife (.and (.cons (.cmp .eq (.loc 5) (.str ['i','n','d','e','x'])) (.cons (.cmp .eq (.loc 4) (.str [')'])) .nil)))
 (.cons (.expr (.pop (.idx (.loc 0) (.str ['s','t','a','c','k']))))
 (.cons (.expr (.append (.idx (.idx (.idx (.loc 0) (.str ['s','t','a','c','k'])) (.negc 1)) (.str ['p','a','r','t','s'])) (.tup (.cons (.str ['v','a','r']) (.cons (.idx (.loc 3) (.str ['n','a','m','e'])) (.cons (.tuple (.idx (.loc 3) (.str ['p','a','r','t','s']))) .nil))))))
 (.cons (.ret (.bin .add (.loc 1) (.int 1)))
 .nil)))
 .nil)
 (.cons (.ife (.cmp .eq (.loc 4) (.str ['$']))
 (.cons (.ret (.call .lDollar (.cons (.loc 0) (.cons (.loc 1) .nil))))
 .nil)
 .nil)
 (.cons (.ife (.cmp .eq (.loc 4) (.str ['[']))
 (.cons (.expr (.append (.idx (.loc 0) (.str ['s','t','a','c','k'])) (.call .lScript (.cons (.bin .add (.loc 1) (.int 1)) .nil))))
 (.cons (.ret (.bin .add (.loc 1) (.int 1)))
 .nil))
 .nil)
 (.cons (.ife (.cmp .eq (.loc 4) (.str ['\\']))
 (.cons (.asgT [.loc 7,.loc 8] (.call .lBent (.cons (.loc 2) (.cons (.loc 1) .nil))))
 (.cons (.expr (.call .lAdd (.cons (.loc 3) (.cons (.loc 7) .nil))))
 (.cons (.ret (.loc 8))
 .nil)))
 .nil)
 (.cons (.expr (.call .lAdd (.cons (.loc 3) (.cons (.loc 4) .nil))))
 (.cons (.ret (.bin .add (.loc 1) (.int 1)))
 .nil))))))))))
noncomputable def dN:eK:={params:=2,slots:=9,body:=gy,pure:=false}
noncomputable def vh:Ss:=
 (.cons (.asgT [.loc 1,.loc 2,.loc 3] (.tup (.cons (.len (.idx (.loc 0) (.str ['t','e','x','t']))) (.cons (.idx (.idx (.idx (.loc 0) (.str ['s','t','a','c','k'])) (.negc 1)) (.str ['k','i','n','d'])) (.cons (.len (.idx (.loc 0) (.str ['s','t','a','c','k']))) .nil)))))
 (.cons (.asg 4 (.dct [['b','r','a','c','e'],['q','u','o','t','e'],['i','n','d','e','x'],['n','a','m','e']] (.cons (.str ['m','i','s','s','i','n','g',' ','c','l','o','s','e','-','b','r','a','c','e']) (.cons (.str ['m','i','s','s','i','n','g',' ','"']) (.cons (.str ['m','i','s','s','i','n','g',' ',')']) (.cons (.str ['m','i','s','s','i','n','g',' ','c','l','o','s','e','-','b','r','a','c','e',' ','f','o','r',' ','v','a','r','i','a','b','l','e',' ','n','a','m','e']) .nil))))))
 (.cons (.ife (.cmp .inn (.loc 2) (.loc 4))
 (.cons (.asgS (.loc 0) (.str ['f','a','u','l','t']) (.idx (.loc 4) (.loc 2)))
 .nil)
 (.cons (.ife (.cmp .gt (.loc 3) (.ite (.cmp .eq (.loc 2) (.str ['b','a','r','e'])) (.int 2) (.int 1)))
 (.cons (.asgS (.loc 0) (.str ['f','a','u','l','t']) (.str ['m','i','s','s','i','n','g',' ','c','l','o','s','e','-','b','r','a','c','k','e','t']))
 .nil)
 (.cons (.ife (.cmp .eq (.loc 2) (.str ['b','a','r','e']))
 (.cons (.expr (.call .lCloseWord (.cons (.loc 0) (.cons (.loc 1) (.cons (.str ['g','a','p']) .nil)))))
 .nil)
 .nil)
 (.cons (.expr (.call .lCloseCommand (.cons (.loc 0) (.cons (.loc 1) .nil))))
 .nil)))
 .nil))
 .nil)))
noncomputable def oA:eK:={params:=1,slots:=5,body:=vh,pure:=false}
noncomputable def nT:Ss:=
 (.cons (.asg 2 (.dct [['t','e','x','t'],['i','s','_','n','e','s','t','e','d'],['s','t','a','c','k'],['d','o','n','e'],['f','a','u','l','t']] (.cons (.loc 0) (.cons (.loc 1) (.cons (.lst (.cons (.call .lScript (.cons (.int 0) .nil)) .nil)) (.cons (.lst .nil) (.cons (.str []) .nil)))))))
 (.cons (.asg 3 (.int 0))
 (.cons (.whl (.and (.cons (.cmp .lt (.loc 3) (.len (.loc 0))) (.cons (.cmp .eq (.idx (.loc 2) (.str ['f','a','u','l','t'])) (.str [])) (.cons (.cmp .gt (.len (.idx (.loc 2) (.str ['s','t','a','c','k']))) (.int 0)) .nil))))
 (.cons (.asg 4 (.idx (.idx (.idx (.loc 2) (.str ['s','t','a','c','k'])) (.negc 1)) (.str ['k','i','n','d'])))
 (.cons (.ife (.cmp .eq (.loc 4) (.str ['s','c','r','i','p','t']))
 (.cons (.asg 3 (.call .lInScript (.cons (.loc 2) (.cons (.loc 3) .nil))))
 .nil)
 (.cons (.ife (.cmp .eq (.loc 4) (.str ['b','r','a','c','e']))
 (.cons (.asg 3 (.call .lInBraces (.cons (.loc 2) (.cons (.loc 3) .nil))))
 .nil)
 (.cons (.ife (.cmp .eq (.loc 4) (.str ['n','a','m','e']))
 (.cons (.asg 3 (.call .lInName (.cons (.loc 2) (.cons (.loc 3) .nil))))
 .nil)
 (.cons (.asg 3 (.call .lInParts (.cons (.loc 2) (.cons (.loc 3) .nil))))
 .nil))
 .nil))
 .nil))
 .nil)))
 (.cons (.ife (.and (.cons (.cmp .eq (.idx (.loc 2) (.str ['f','a','u','l','t'])) (.str [])) (.cons (.cmp .gt (.len (.idx (.loc 2) (.str ['s','t','a','c','k']))) (.int 0)) .nil)))
 (.cons (.expr (.call .lEnd (.cons (.loc 2) .nil)))
 .nil)
 .nil)
 (.cons (.ret (.tup (.cons (.idx (.loc 2) (.str ['d','o','n','e'])) (.cons (.ite (.cmp .ne (.idx (.loc 2) (.str ['f','a','u','l','t'])) (.str [])) (.tup (.cons (.int 1) (.cons (.idx (.loc 2) (.str ['f','a','u','l','t'])) (.cons (.tup (.cons (.str ['N','O','N','E']) .nil)) .nil)))) .none) .nil))))
 .nil)))))
noncomputable def yh:eK:={params:=2,slots:=5,body:=nT,pure:=false}
noncomputable def Fd:Ss:=
 (.cons (.tryR (.cons (.ret (.tup (.cons (.call .commandsOf (.cons (.loc 0) .nil)) (.cons .none .nil))))
 .nil) 1 (.lst .nil))
 .nil)
noncomputable def v9:eK:={params:=1,slots:=2,body:=Fd,pure:=false}
noncomputable def uC:Ss:=
 (.cons (.asg 2 (.lst .nil))
 (.cons (.tryR (.cons (.asg 3 (.call .commandAt (.cons (.loc 0) (.cons (.int 0) (.cons (.loc 1) .nil)))))
 (.cons (.whl (.and (.cons (.cmp .isn (.loc 3) .none) (.cons (.cmp .le (.len (.loc 2)) (.len (.loc 0))) .nil)))
 (.cons (.expr (.append (.loc 2) (.loc 3)))
 (.cons (.asg 3 (.call .commandAt (.cons (.loc 0) (.cons (.idx (.loc 3) (.int 3)) (.cons (.loc 1) .nil)))))
 .nil)))
 .nil)) 4 (.loc 2))
 (.cons (.ret (.tup (.cons (.loc 2) (.cons .none .nil))))
 .nil)))
noncomputable def gQ:eK:={params:=2,slots:=5,body:=uC,pure:=false}
noncomputable def Cv:Ss:=
 (.cons (.for1 1 (.idx (.loc 0) (.int 1))
 (.cons (.ife (.cmp .ne (.idx (.loc 1) (.int 0)) (.str ['t','e','x','t']))
 (.cons (.ret .none)
 .nil)
 .nil)
 .nil))
 (.cons (.ret (.ite (.idx (.loc 0) (.int 0)) .none (.join (.str []) (.comp (.idx (.loc 1) (.int 1)) (.idx (.loc 0) (.int 1)) []))))
 .nil))
noncomputable def oW:eK:={params:=1,slots:=2,body:=Cv,pure:=true}
noncomputable def Bf:Ss:=
 (.cons (.asgT [.loc 2,.loc 3] (.call .lRead (.cons (.loc 0) (.cons (.loc 1) .nil))))
 (.cons (.ife (.loc 1)
 (.cons (.ret (.cmp .eq (.call .lOneByOne (.cons (.loc 0) (.cons (.bool true) .nil))) (.tup (.cons (.loc 2) (.cons (.loc 3) .nil)))))
 .nil)
 .nil)
 (.cons (.ife (.cmp .ne (.call .lAll (.cons (.loc 0) .nil)) (.ite (.cmp .is (.loc 3) .none) (.tup (.cons (.loc 2) (.cons .none .nil))) (.tup (.cons (.lst .nil) (.cons (.loc 3) .nil)))))
 (.cons (.ret (.bool false))
 .nil)
 .nil)
 (.cons (.ife (.and (.cons (.cmp .isn (.loc 3) .none) (.cons (.cmp .ne (.call .lOneByOne (.cons (.loc 0) (.cons (.bool false) .nil))) (.tup (.cons (.loc 2) (.cons (.loc 3) .nil)))) .nil)))
 (.cons (.ret (.bool false))
 .nil)
 .nil)
 (.cons (.for1 4 (.loc 2)
 (.cons (.ife (.cmp .ne (.comp (.call .plainOf (.cons (.loc 1) .nil)) (.idx (.loc 4) (.int 0)) []) (.comp (.call .lPlain (.cons (.loc 1) .nil)) (.idx (.loc 4) (.int 0)) []))
 (.cons (.ret (.bool false))
 .nil)
 .nil)
 .nil))
 (.cons (.ret (.bool true))
 .nil))))))
noncomputable def lE:eK:={params:=2,slots:=5,body:=Bf,pure:=false}
noncomputable def pz:Ss:=
 (.cons (.for1 3 (.slt (.loc 0) (.int 6))
 (.cons (.asg 4 (.bin .mod (.bin .fdiv (.loc 3) (.int 40)) (.int 3)))
 (.cons (.asgS (.loc 2) (.loc 4) (.call .lChanged (.cons (.idx (.loc 2) (.loc 4)) (.cons (.idx (.loc 1) (.bin .mod (.loc 3) (.int 40))) (.cons (.bin .fdiv (.loc 3) (.int 120)) .nil)))))
 .nil)))
 (.cons (.asg 5 (.join (.str []) (.comp (.idx (.loc 2) (.bin .mod (.loc 1) (.int 40))) (.slt (.loc 0) (.int 14)) [1])))
 (.cons (.asg 7 (.bin .add (.comp (.tup (.cons (.loc 1) (.cons (.bool false) .nil))) (.bin .add (.bin .add (.loc 2) (.call .lFaulty .nil)) (.lst (.cons (.loc 5) .nil))) []) (.lst (.cons (.tup (.cons (.idx (.loc 2) (.int 2)) (.cons (.bool true) .nil))) (.cons (.tup (.cons (.loc 5) (.cons (.bool true) .nil))) .nil)))))
 (.cons (.forT [6,8] (.loc 7)
 (.cons (.ife (.not (.call .lRight (.cons (.loc 6) (.cons (.loc 8) .nil))))
 (.cons (.ret (.bool false))
 .nil)
 .nil)
 .nil))
 (.cons (.ret (.bool true))
 .nil)))))
noncomputable def fn:Fn→Option eK
 | .digit=>some xG
 | .hexSign=>none
 | .octalSign=>none
 | .backslash=>some fH
 | .isGap=>some yl
 | .skipGaps=>some kU
 | .commentBehind=>some fW
 | .skipToCommand=>some ja
 | .readName=>some kG
 | .variable=>some dQ
 | .brackets=>some iO
 | .braces=>some oO
 | .partsUntil=>some iQ
 | .bareStops=>some jF
 | .isExpanded=>some eD
 | .word=>some iL
 | .commandAt=>some gN
 | .commandsOf=>some gf
 | .plainOf=>some ib
 | .lPieces=>some qG
 | .lScripts=>some oi
 | .lFaulty=>some qo
 | .lChanged=>some pO
 | .lScript=>some qK
 | .lOpen=>some yk
 | .lAdd=>some sD
 | .lBent=>some nH
 | .lName=>some rM
 | .lCloseWord=>some lv
 | .lCloseCommand=>some i9
 | .lInScript=>some bQ
 | .lInBraces=>some c7
 | .lInName=>some mT
 | .lDollar=>some iq
 | .lInParts=>some dN
 | .lEnd=>some oA
 | .lRead=>some yh
 | .lAll=>some v9
 | .lOneByOne=>some gQ
 | .lPlain=>some oW
 | .lRight=>some lE
noncomputable def ay (W:Nat):Nat→ci
 |0,_,_,_=>none
 |n+1,f,args,H=>match fn f with
  |some F=>aT F (ay W n) W args H
  |none=>none
end Mine
end
section
namespace Mine
open PySem
noncomputable abbrev kW (items:Array Value) (n:Nat):Obj:={cls:=.type "tuple",data:=.seq items n}
noncomputable abbrev Du (items:Array Value) (n:Nat):Obj:={cls:=.type "list",data:=.seq items n}
mutual
inductive bL (h:Heap) (ids:List Addr):Value→V→Prop
 |none:bL h ids .none .none
 |bool (b:Bool):bL h ids (.bool b) (.bool b)
 |int (i:Int) (t:Tok):bL h ids (.int i t) (.int i)
 |str (l:Ch) (t:Tok):bL h ids (.str (sx l) t) (.str l)
 |tup {a:Addr} {items:Array Value} {n:Nat} {vs:List V}:h.get? a=some (kW items n)→bo h ids items.toList vs→bL h ids (.ref a) (.tup vs)
 |ref {a:Addr} {i:Nat}:ids[i]? =some a→bL h ids (.ref a) (.ref i)
inductive bo (h:Heap) (ids:List Addr):List Value→List V→Prop
 |nil:bo h ids [] []
 |cons {x:Value} {xs:List Value} {v:V} {vs:List V}:bL h ids x v→bo h ids xs vs→bo h ids (x::xs) (v::vs)
end
section
variable {h:Heap} {ids:List Addr} {x:Value} {xs:List Value} {P:Value→Prop}
@[elab_as_elim] theorem repN (r:bL h ids x .none) (f:P .none):P x:=by cases r;exact f
@[elab_as_elim] theorem repB {b:Bool} (r:bL h ids x (.bool b)) (f:P (.bool b)):P x:=by cases r;exact f
@[elab_as_elim] theorem repI {i:Int} (r:bL h ids x (.int i)) (f:∀t,P (.int i t)):P x:=by cases r;exact f _
@[elab_as_elim] theorem repS {l:Ch} (r:bL h ids x (.str l)) (f:∀t,P (.str (sx l) t)):P x:=by cases r;exact f _
@[elab_as_elim] theorem repR {i:Nat} (r:bL h ids x (.ref i)) (f:∀a,ids[i]? =some a→P (.ref a)):P x:=by cases r;exact f _ (by assumption)
@[elab_as_elim] theorem repT {vs:List V} (r:bL h ids x (.tup vs)) (f:∀a items n,h.get? a=some (kW items n)→bo h ids items.toList vs→P (.ref a)):P x:=by cases r;exact f _ _ _ (by assumption) (by assumption)
@[elab_as_elim] theorem repNil {P:List Value→Prop} (r:bo h ids xs []) (f:P []):P xs:=by cases r;exact f
@[elab_as_elim] theorem repCons {v:V} {vs:List V} {P:List Value→Prop} (r:bo h ids xs (v::vs)) (f:∀y ys,bL h ids y v→bo h ids ys vs→P (y::ys)):P xs:=by cases r;exact f _ _ (by assumption) (by assumption)
end
noncomputable def Hw (o:Obj):Prop:=(∀vs,o.data≠ .fields vs)∨o.cls=.type "list_iterator"∨o.cls=.type "tuple_iterator"
structure gh (F M:List Addr) (h h':Heap):Prop where
 dom:∀a o,h.get? a=some o→∃o',h'.get? a=some o'
 exact:∀a o,a∉M→a∉F→h.get? a=some o→Hw o→h'.get? a=some o
 slots:∀a o,a∉M→h.get? a=some o→Hw o→∃sl,h'.get? a=some {o with slots:=sl}
theorem gh.refl (F M:List Addr) (h:Heap):gh F M h h:=⟨fun _ _ e=>⟨_,e⟩,fun _ _ _ _ e _=>e,fun _ o _ e _=>⟨o.slots,e⟩⟩
theorem gh.of_keeps {F M:List Addr} {h h':Heap} (k:∀b o,h.get? b=some o→h'.get? b=some o):gh F M h h':=
 ⟨fun a o e=>⟨o,k a o e⟩,fun a o _ _ e _=>k a o e,fun a o _ e _=>⟨o.slots,k a o e⟩⟩
theorem gh.push (F M:List Addr) (h:Heap) (o:Obj):gh F M h (h.push o):=.of_keeps fun _ _ e=>Heap.get?_push_of_some _ e
theorem gh.sameBut {F M:List Addr} {h h':Heap} {a:Addr} (ha:a∈M) (k:Heap.SameBut a h h') (hx:∃o,h'.get? a=some o):gh F M h h':=
 ⟨fun b o e=>by
  by_cases q:b=a
  ·exact q▸hx
  ·exact⟨o,(k.2 b q).trans e⟩,fun b _ hb _ e _=>(k.2 b fun q=>hb (q▸ha)).trans e,fun b o hb e _=>⟨o.slots,(k.2 b fun q=>hb (q▸ha)).trans e⟩⟩
theorem gh.mono {F M N:List Addr} {h h':Heap} (x:gh F M h h') (s:∀a∈M,a∈N):gh F N h h':=
 ⟨x.dom,fun a o ha=>x.exact a o fun q=>ha (s a q),fun a o ha=>x.slots a o fun q=>ha (s a q)⟩
theorem gh.trans {F M G N:List Addr} {au aW cY:Heap} (x:gh F M au aW) (y:gh G N aW cY) (hg:∀a∈G,a∈F∨au.get? a=none) (hn:∀a∈N,a∈M∨au.get? a=none):gh F M au cY:=by
 have low:∀{P Q:List Addr} {a:Addr} {o:Obj},(∀a∈Q,a∈P∨au.get? a=none)→a∉P→au.get? a=some o→a∉Q:=fun hq ha e q=>(hq _ q).elim ha fun z=>by rw[z]at e;cases e
 refine⟨fun a o e=>(let ⟨p,q⟩:=x.dom a o e;y.dom a p q),fun a o ha hf e h1=>y.exact a o (low hn ha e) (low hg hf e) (x.exact a o ha hf e h1) h1,fun a o ha e h1=>?_⟩
 obtain⟨sl,e1⟩:=x.slots a o ha e h1
 obtain⟨sl',e2⟩:=y.slots a _ (low hn ha e) e1 h1
 exact⟨sl',e2⟩
structure bx (F ids:List Addr) (h:Heap) (ids':List Addr) (h':Heap):Prop where
 pre:∃t,ids'=ids++t∧∀a∈t,h.get? a=none
 keep:gh F ids h h'
theorem bx.refl (F ids:List Addr) (h:Heap):bx F ids h ids h:=⟨⟨[],by simp,by simp⟩,gh.refl _ _ _⟩
theorem bx.mem {F ids ids':List Addr} {h h':Heap} (x:bx F ids h ids' h') {a:Addr} (ha:a∈ids'):a∈ids∨h.get? a=none:=by
 obtain⟨t,rfl,ht⟩:=x.pre
 rcases List.mem_append.mp ha with q|q
 ·exact .inl q
 ·exact .inr (ht a q)
theorem bx.trans {F Af AB AI:List Addr} {au aW cY:Heap} (x:bx F Af au AB aW) (y:bx F AB aW AI cY):bx F Af au AI cY:=by
 refine⟨?_,x.keep.trans y.keep (fun a ha=>.inl ha) fun a ha=>x.mem ha⟩
 obtain⟨t,rfl,ht⟩:=x.pre
 obtain⟨u,rfl,hu⟩:=y.pre
 refine⟨t++u,by simp,fun a ha=>?_⟩
 rcases List.mem_append.mp ha with q|q
 ·exact ht a q
 ·cases z:au.get? a with
  |none=>rfl
  |some o=>
   obtain⟨o',e⟩:=x.keep.dom a o z
   rw[hu a q]at e;cases e
theorem bx.get {F ids ids':List Addr} {h h':Heap} (x:bx F ids h ids' h') {i:Nat} {a:Addr} (e:ids[i]? =some a):ids'[i]? =some a:=by
 obtain⟨t,rfl,_⟩:=x.pre
 rw[List.getElem?_append_left (List.getElem?_eq_some_iff.mp e).1];exact e
theorem bx.out {F ids ids':List Addr} {h h':Heap} (x:bx F ids h ids' h') {a:Addr} (ha:a∉ids) (hl:∃o,h.get? a=some o):a∉ids':=fun q=>(x.mem q).elim ha fun z=>by obtain⟨o,e⟩:=hl;rw[z]at e;cases e
theorem bx.keeps {F ids:List Addr} {h h':Heap} (k:∀b o,h.get? b=some o→h'.get? b=some o):bx F ids h ids h':=⟨⟨[],by simp,by simp⟩,.of_keeps k⟩
noncomputable def km (F ids:List Addr) (h:Heap):Prop:=∀a,a∈ids∨a∈F→∀items n,h.get? a≠some (kW items n)
section
variable {h h':Heap} {ids ids':List Addr} (f:∀a items n,h.get? a=some (kW items n)→h'.get? a=some (kW items n)) (g:∀(i:Nat) (a:Addr),ids[i]? =some a→ids'[i]? =some a)
include f g
theorem bL.map {a:Value} {v:V} (r:bL h ids a v):bL h' ids' a v:=
 r.rec (motive_1:=fun a v _=>bL h' ids' a v) (motive_2:=fun as vs _=>bo h' ids' as vs) .none .bool .int .str (fun e _ r=>.tup (f _ _ _ e) r) (fun e=>.ref (g _ _ e)) .nil fun _ _ r rs=>.cons r rs
theorem bo.map {as:List Value} {vs:List V} (r:bo h ids as vs):bo h' ids' as vs:=
 r.rec (motive_1:=fun a v _=>bL h' ids' a v) (motive_2:=fun as vs _=>bo h' ids' as vs) .none .bool .int .str (fun e _ r=>.tup (f _ _ _ e) r) (fun e=>.ref (g _ _ e)) .nil fun _ _ r rs=>.cons r rs
end
section
variable {F ids ids':List Addr} {h h':Heap} (x:bx F ids h ids' h') (nt:km F ids h)
include x nt
theorem bx.tup {a:Addr} {items:Array Value} {n:Nat} (e:h.get? a=some (kW items n)):h'.get? a=some (kW items n):=x.keep.exact _ _ (fun q=>nt _ (.inl q) _ _ e) (fun q=>nt _ (.inr q) _ _ e) e (.inl fun _ q=>by cases q)
theorem bL.step {a:Value} {v:V} (r:bL h ids a v):bL h' ids' a v:=r.map (fun _ _ _=>x.tup nt) fun _ _=>x.get
theorem bo.step {as:List Value} {vs:List V} (r:bo h ids as vs):bo h' ids' as vs:=r.map (fun _ _ _=>x.tup nt) fun _ _=>x.get
end
theorem bo.length {h:Heap} {ids:List Addr}:∀{vs:List V} {as:List Value},bo h ids as vs→as.length=vs.length
 |[],_,r=>repNil r rfl
 |_::vs,_,r=>repCons r fun _ _ _ r=>congrArg (· +1) (bo.length (vs:=vs) r)
theorem bo.get {h:Heap} {ids:List Addr}:∀{vs:List V} {as:List Value} {i:Nat} {v:V},bo h ids as vs→vs[i]? =some v→∃a,as[i]? =some a∧bL h ids a v
 |[],_,_,_,_,e=>nomatch e
 |_::vs,_,0,v,r,e=>repCons (P:=fun as=>∃a,as[0]? =some a∧bL h ids a v) r fun y _ r _=>⟨y,rfl,Option.some.inj e▸r⟩
 |_::vs,_,i+1,v,r,e=>repCons (P:=fun as=>∃a,as[i+1]? =some a∧bL h ids a v) r fun _ _ _ r=>bo.get (vs:=vs) (i:=i) r e
theorem bo.append {h:Heap} {ids:List Addr} {bs:List Value} {ws:List V} (y:bo h ids bs ws):∀{vs:List V} {as:List Value},bo h ids as vs→bo h ids (as++bs) (vs++ws)
 |[],_,r=>repNil r y
 |_::vs,_,r=>repCons r fun _ _ r rs=>.cons r (bo.append y (vs:=vs) rs)
theorem bo.set {h:Heap} {ids:List Addr} {b:Value} {w:V} (y:bL h ids b w):∀{vs:List V} {as:List Value} (i:Nat),bo h ids as vs→bo h ids (as.set i b) (vs.set i w)
 |[],_,_,r=>repNil r .nil
 |_::vs,_,0,r=>repCons r fun _ _ _ rs=>.cons y rs
 |_::vs,_,i+1,r=>repCons r fun _ _ r rs=>.cons r (bo.set y (vs:=vs) i rs)
theorem bo.drop {h:Heap} {ids:List Addr}:∀{vs:List V} {as:List Value} (i:Nat),bo h ids as vs→bo h ids (as.drop i) (vs.drop i)
 |[],_,_,r=>repNil r (by rw[List.drop_nil,List.drop_nil];exact .nil)
 |_::vs,_,0,r=>r
 |_::vs,_,i+1,r=>repCons r fun _ _ _ rs=>bo.drop (vs:=vs) i rs
theorem bo.take {h:Heap} {ids:List Addr}:∀{vs:List V} {as:List Value} (i:Nat),bo h ids as vs→bo h ids (as.take i) (vs.take i)
 |[],_,_,r=>repNil r (by rw[List.take_nil,List.take_nil];exact .nil)
 |_::vs,_,0,r=>.nil
 |_::vs,_,i+1,r=>repCons r fun _ _ r rs=>.cons r (bo.take (vs:=vs) i rs)
inductive fR (h:Heap) (ids:List Addr):List (Str×Value)→List (Ch×V)→Prop
 |nil:fR h ids [] []
 |cons {k:Ch} {x:Value} {v:V} {xs:List (Str×Value)} {vs:List (Ch×V)}:bL h ids x v→fR h ids xs vs→fR h ids ((sx k,x)::xs) ((k,v)::vs)
theorem fR.step {F ids ids':List Addr} {h h':Heap} (x:bx F ids h ids' h') (nt:km F ids h) {as:List (Str×Value)} {vs:List (Ch×V)} (r:fR h ids as vs):fR h' ids' as vs:=by
 induction r with
 |nil=>exact .nil
 |cons r _ ih=>exact .cons (r.step x nt) ih
theorem As {a b:Ch} (e:sx a=sx b):a=b:=by
 have h:a.map Char.toNat=b.map Char.toNat:=by simpa [sx] using e
 refine(List.map_inj_right ?_).mp h
 intro x y e
 exact Char.toNat_inj.mp e
theorem w0 {a b:Ch}:(sx a=sx b)=(a=b):=propext ⟨As,fun e=>e▸rfl⟩
theorem cy (a:Ch):(sx a).length=a.length:=by simp[sx,Str.length]
section
variable (ae:Program) (w:World)
noncomputable def t7 (h:Heap) (ids:List Addr) (a:Addr):O→Prop
 | .list vs=>∃items n,h.get? a=some (Du items n)∧bo h ids items.toList vs
 | .dict es=>∃kvs,h.DictOf (strKind ae w) a kvs∧fR h ids kvs es
structure cQ (ac:Heap) (ids:List Addr) (H:List O) (h:Heap):Prop where
 len:ids.length=H.length
 nodup:ids.Nodup
 obj:∀(i:Nat) (a:Addr) (o:O),ids[i]? =some a→H[i]? =some o→t7 ae w h ids a o
 above:∀a∈ids,ac.get? a=none
 base:ac.StaysIn h
 sys:∃o,ac.get? sysModules=some o
noncomputable def frs (l:List Env):List Addr:=l.filterMap (·.frame)
inductive Ji (ac:Heap) (ids:List Addr) (h:Heap) (e:Env):Prop
 |mk (kk:e.scope.kind≠ .module) (L:Addr) (o:Obj) (es:Array DictEntry) (n:Nat):e.frame=some L→ac.get? L=none→L∉ids→h.get? L=some o→o.data=.dict es n→Ji ac ids h e
noncomputable def j9 (ac:Heap) (ids:List Addr) (h:Heap) (l:List Env):Prop:=∀e∈l,Ji ac ids h e
structure kM (env:Env) (ids:List Addr) (loc:List (Option V)) (h:Heap):Prop where
 out:env.locals∉ids
 ns:∃m,h.Ns env.locals m∧∀(i:Nat) (id:Str) (v:V),env.scope.names[i]? =some (id,.local)→loc[i]? =some (some v)→∃val,m id=some val∧bL h ids val v
 cells:∀(i:Nat) (id:Str) (k:NameKind) (v:V),env.scope.names[i]? =some (id,k)→k=.cell∨k=.free→loc[i]? =some (some v)→
  ∃c val,env.cells.lookup id=some c∧h.IsCell c (some val)∧bL h ids val v
structure c6 (ac:Heap) (env:Env) (l:List Env) (ids:List Addr) (σ:St) (h:Heap):Prop where
 hp:cQ ae w ac ids σ.hp h
 fr:j9 ac ids h l
 lo:kM env ids σ.loc h
end
end Mine
end
section
namespace Mine
open PySem
section
variable {ae:Program} {w:World} {ac:Heap} {env:Env} {l:List Env} {ids:List Addr} {σ:St} {h h':Heap}
theorem uT {a:Addr} {kvs:List (Str×Value)} (x:h.DictOf (strKind ae w) a kvs):∃o es n,h.get? a=some o∧o.data=.dict es n:=by
 obtain⟨o,es,ep,e,_,d,_⟩:=x
 exact⟨o,es,ep,e,d⟩
theorem cQ.data {H:List O} (x:cQ ae w ac ids H h) {a:Addr} (ha:a∈ids):(∃items n,h.get? a=some (Du items n))∨∃o es n,h.get? a=some o∧o.data=.dict es n:=by
 obtain⟨i,hi,e⟩:=List.getElem_of_mem ha
 have hi':i<H.length:=x.len▸hi
 have r:=x.obj i a H[i] (by rw[List.getElem?_eq_getElem hi,e]) (List.getElem?_eq_getElem hi')
 cases ho:H[i]with
 |list vs=>
  rw[ho]at r
  obtain⟨items,n,q,_⟩:=r
  exact .inl ⟨items,n,q⟩
 |dict es=>
  rw[ho]at r
  obtain⟨kvs,q,_⟩:=r
  exact .inr (uT q)
theorem j9.mem (f:j9 ac ids h l) {a:Addr} (ha:a∈frs l):ac.get? a=none∧a∉ids∧∃o es n,h.get? a=some o∧o.data=.dict es n:=by
 obtain⟨e,he,hf⟩:=List.mem_filterMap.mp ha
 obtain⟨_,L,o,es,n,h1,h2,h3,h4,h5⟩:=f e he
 obtain rfl:L=a:=Option.some.inj (h1.symm.trans hf)
 exact⟨h2,h3,o,es,n,h4,h5⟩
theorem noTup {H:List O} (x:cQ ae w ac ids H h) (f:j9 ac ids h l):km (frs l) ids h:=by
 intro a ha items n e
 rcases ha with ha|ha
 ·rcases x.data ha with⟨i,m,q⟩|⟨o,es,m,q,d⟩
  ·rw[e]at q;simp[kW,Du]at q
  ·rw[e]at q;cases q;cases d
 ·obtain⟨_,_,o,es,m,q,d⟩:=f.mem ha
  rw[e]at q;cases q;cases d
theorem c6.noTup (S:c6 ae w ac env l ids σ h):km (frs l) ids h:=Mine.noTup S.hp S.fr
theorem j9.step {F ids':List Addr} (f:j9 ac ids h l) (x:bx F ids h ids' h'):j9 ac ids' h' l:=fun e he=>by
 obtain⟨k,L,o,es,n,h1,h2,h3,h4,h5⟩:=f e he
 obtain⟨sl,q⟩:=x.keep.slots L o h3 h4 (.inl fun _ z=>by rw[h5]at z;cases z)
 exact⟨k,L,_,es,n,h1,h2,x.out h3 ⟨_,h4⟩,q,h5⟩
theorem j9.fun (f:j9 ac ids h l):h.FunFrames ac l:=by
 induction l with
 |nil=>trivial
 |cons e r ih=>
  obtain⟨k,L,o,es,n,h1,h2,h3,h4,h5⟩:=f e (.head _)
  exact⟨k,⟨L,o,h1,h2,h4,fun _ z=>by rw[h5]at z;cases z⟩,ih fun x hx=>f x (.tail _ hx)⟩
theorem AP {F M:List Addr} {L:Addr} {m:Str→Option Value} (x:gh F M h h') (hL:L∉M) (hn:h.Ns L m):h'.Ns L m:=by
 obtain⟨o,es,ep,e,d,r⟩:=hn
 obtain⟨sl,q⟩:=x.slots L o hL e (.inl fun _ z=>by rw[d]at z;cases z)
 exact⟨_,es,ep,q,d,r⟩
theorem kI {F M:List Addr} {c:Addr} {v:Option Value} (x:gh F M h h') (hL:c∉M) (hn:h.IsCell c v):h'.IsCell c v:=by
 obtain⟨o,e,d⟩:=hn
 obtain⟨sl,q⟩:=x.slots c o hL e (.inl fun _ z=>by rw[d]at z;cases z)
 exact⟨_,q,d⟩
theorem cQ.noCell {H:List O} (x:cQ ae w ac ids H h) {c:Addr} {v:Option Value} (hc:h.IsCell c v):c∉ids:=fun ha=>by
 obtain⟨o,e,d⟩:=hc
 rcases x.data ha with⟨i,m,q⟩|⟨o',es,m,q,d'⟩
 ·rw[e]at q;cases q;cases d
 ·rw[e]at q;cases q;rw[d]at d';cases d'
theorem kM.step {F ids':List Addr} {loc:List (Option V)} {H:List O} (r:kM env ids loc h) (hp:cQ ae w ac ids H h) (nt:km F ids h) (x:bx F ids h ids' h'):kM env ids' loc h':=by
 obtain⟨m,hn,hm⟩:=r.ns
 refine⟨x.out r.out (let ⟨o,_,_,e,_⟩:=hn;⟨o,e⟩),⟨m,AP x.keep r.out hn,fun i id v e1 e2=>?_⟩,fun i id k v e1 e2 e3=>?_⟩
 ·obtain⟨val,h1,h2⟩:=hm i id v e1 e2
  exact⟨val,h1,h2.step x nt⟩
 ·obtain⟨c,val,h1,h2,h3⟩:=r.cells i id k v e1 e2 e3
  exact⟨c,val,h1,kI x.keep (hp.noCell h2) h2,h3.step x nt⟩
structure cg (h h':Heap):Prop where
 keep:∀b o,h.get? b=some o→h'.get? b=some o
theorem cg.refl (h:Heap):cg h h:=⟨fun _ _ e=>e⟩
theorem cg.push (h:Heap) (o:Obj):cg h (h.push o):=⟨fun _ _ e=>Heap.get?_push_of_some _ e⟩
theorem cg.trans {au aW cY:Heap} (x:cg au aW) (y:cg aW cY):cg au cY:=⟨fun b o e=>y.keep b o (x.keep b o e)⟩
theorem cg.step {F ids:List Addr} (g:cg h h'):bx F ids h ids h':=.keeps g.keep
theorem t7.step {F ids':List Addr} {a:Addr} {o:O} (nt:km F ids h) (x:bx F ids h ids' h') (ke:∀o,h.get? a=some o→h'.get? a=some o) (r:t7 ae w h ids a o):t7 ae w h' ids' a o:=by
 cases o with
 |list vs=>
  obtain⟨items,n,e,q⟩:=r
  exact⟨items,n,ke _ e,q.step x nt⟩
 |dict es=>
  obtain⟨kvs,⟨o,ents,ep,e,r⟩,q⟩:=r
  exact⟨kvs,⟨o,ents,ep,ke _ e,r⟩,q.step x nt⟩
theorem cQ.grow {H:List O} (x:cQ ae w ac ids H h) (f:j9 ac ids h l) (g:cg h h'):cQ ae w ac ids H h':=
 ⟨x.len,x.nodup,fun i a o e1 e2=>(x.obj i a o e1 e2).step (Mine.noTup x f) (g.step (F:=frs l)) fun _ e=>g.keep _ _ e,x.above,fun b o e=>g.keep b o (x.base b o e),x.sys⟩
theorem c6.grow (S:c6 ae w ac env l ids σ h) (g:cg h h'):c6 ae w ac env l ids σ h':=
 ⟨S.hp.grow S.fr g,S.fr.step (g.step (F:=frs l)),S.lo.step S.hp S.noTup g.step⟩
theorem gq {F:List Addr} {a:Addr} (g:cg h h') (ha:h.get? a=none):bx F ids h (ids++[a]) h':=⟨⟨[a],rfl,by simpa using ha⟩,.of_keeps g.keep⟩
theorem c6.new {a:Addr} {o:O} (S:c6 ae w ac env l ids σ h) (g:cg h h') (ha:h.get? a=none) (r:t7 ae w h' (ids++[a]) a o):
  c6 ae w ac env l (ids++[a]) {σ with hp:=σ.hp++[o]} h':=by
 have x:bx (frs l) ids h (ids++[a]) h':=gq g ha
 have old:∀b∈ids,b≠a:=fun b hb q=>by
  rcases S.hp.data hb with⟨_,_,e⟩|⟨_,_,_,e,_⟩<;>(rw[q,ha]at e;cases e)
 refine⟨⟨by simp[S.hp.len],List.nodup_append.mpr ⟨S.hp.nodup,by simp,fun b hb c hc q=>?_⟩,fun i b p e1 e2=>?_,fun b hb=>?_,fun b p e=>g.keep b p (S.hp.base b p e),S.hp.sys⟩,S.fr.step x,S.lo.step S.hp S.noTup x⟩
 ·rw[List.mem_singleton.mp hc]at q
  exact old b hb q
 ·by_cases hi:i<ids.length
  ·rw[List.getElem?_append_left hi]at e1
   rw[List.getElem?_append_left (S.hp.len▸hi)]at e2
   exact(S.hp.obj i b p e1 e2).step S.noTup x fun _ e=>g.keep _ _ e
  ·have hi':i=ids.length:=by
    have:=(List.getElem?_eq_some_iff.mp e1).1
    simp at this;omega
   subst hi'
   rw[List.getElem?_append_right (Nat.le_refl _)]at e1
   rw[S.hp.len,List.getElem?_append_right (Nat.le_refl _)]at e2
   simp at e1 e2
   subst e1;subst e2;exact r
 ·rcases List.mem_append.mp hb with q|q
  ·exact S.hp.above b q
  ·rw[List.mem_singleton.mp q]
   cases z:ac.get? a with
   |none=>rfl
   |some o=>have:=S.hp.base a o z;rw[ha]at this;cases this
theorem t7.some {a:Addr} {o:O} (r:t7 ae w h ids a o):∃p,h.get? a=some p:=by
 cases o with
 |list vs=>obtain⟨items,n,e,_⟩:=r;exact⟨_,e⟩
 |dict es=>obtain⟨kvs,⟨p,_,_,e,_⟩,_⟩:=r;exact⟨_,e⟩
theorem Fm {L:Addr} {a:Addr} (f:j9 ac ids h l) (hL:L∈frs l) (ha:a∈ids):a≠L:=fun q=>(f.mem hL).2.1 (q▸ha)
theorem gn {F:List Addr} {a:Addr} (ha:a∈ids) (k:Heap.SameBut a h h') (hx:∃o,h'.get? a=some o):bx F ids h ids h':=⟨⟨[],by simp,by simp⟩,.sameBut ha k hx⟩
theorem c6.upd {i:Nat} {a:Addr} {o:O} (S:c6 ae w ac env l ids σ h) (hi:ids[i]? =some a) (k:Heap.SameBut a h h') (r:t7 ae w h' ids a o):
  c6 ae w ac env l ids {σ with hp:=σ.hp.set i o} h':=by
 have ha:a∈ids:=List.mem_of_getElem? hi
 have x:bx (frs l) ids h ids h':=gn ha k r.some
 refine⟨⟨by simp[S.hp.len],S.hp.nodup,fun j b p e1 e2=>?_,S.hp.above,fun b p e=>?_,S.hp.sys⟩,S.fr.step x,S.lo.step S.hp S.noTup x⟩
 ·by_cases hj:i=j
  ·subst hj
   have e3:b=a:=Option.some.inj (e1.symm.trans hi)
   have hlt:i<σ.hp.length:=by have:=(List.getElem?_eq_some_iff.mp e2).1;simpa using this
   rw[List.getElem?_set_self hlt]at e2
   cases e2;subst e3;exact r
  ·rw[List.getElem?_set_ne hj]at e2
   have hb:b≠a:=fun q=>by
    subst q
    exact hj ((List.getElem?_inj (List.getElem?_eq_some_iff.mp hi).1 S.hp.nodup).mp (hi.trans e1.symm))
   exact(S.hp.obj j b p e1 e2).step S.noTup x fun _ e=>(k.2 b hb).trans e
 ·have hb:b≠a:=fun q=>by rw[q,S.hp.above a ha]at e;cases e
  exact(k.2 b hb).trans (S.hp.base b p e)
end
theorem dg {names:List (Str×NameKind)} (nd:(names.map (·.1)).Nodup):∀{i:Nat} {id:Str} {k:NameKind},names[i]? =some (id,k)→names.lookup id=some k:=by
 induction names with
 |nil=>intro i id k e;simp at e
 |cons x r ih=>
  intro i id k e
  obtain⟨y,ky⟩:=x
  simp only[List.map_cons,List.nodup_cons]at nd
  cases i with
  |zero=>simp at e;obtain⟨rfl,rfl⟩:=e;simp
  |succ i=>
   simp at e
   have hne:id≠y:=fun q=>nd.1 (by subst q;exact List.mem_map.mpr ⟨_,List.mem_of_getElem? e,rfl⟩)
   rw[List.lookup_cons,beq_eq_false_iff_ne.mpr hne]
   exact ih nd.2 e
theorem qR {names:List (Str×NameKind)} (nd:(names.map (·.1)).Nodup) {i j:Nat} {id:Str} {k k':NameKind} (e1:names[i]? =some (id,k)) (e2:names[j]? =some (id,k')):i=j:=by
 have h1:(names.map (·.1))[i]? =some id:=by simp[e1]
 have h2:(names.map (·.1))[j]? =some id:=by simp[e2]
 exact(List.getElem?_inj (List.getElem?_eq_some_iff.mp h1).1 nd).mp (h1.trans h2.symm)
section
variable {ae:Program} {w:World} {ac:Heap} {env:Env} {l:List Env} {ids:List Addr} {σ:St} {h h':Heap}
theorem c6.store {i:Nat} {id:Str} {v:V} {val:Value} {m:Str→Option Value} (S:c6 ae w ac env l ids σ h) (nd:(env.scope.names.map (·.1)).Nodup) (hlow:ac.get? env.locals=none)
  (hi:env.scope.names[i]? =some (id,.local)) (hn:h.Ns env.locals m) (hn':h'.Ns env.locals (fun y=>if y=id then some val else m y)) (k:Heap.SameBut env.locals h h') (r:bL h ids val v):
  c6 ae w ac env l ids {σ with loc:=setL σ.loc i v} h':=by
 have out:=S.lo.out
 have keepO:∀a∈ids,h'.get? a=h.get? a:=fun a ha=>k.2 a fun q=>out (q▸ha)
 have tup:∀a items n,h.get? a=some (kW items n)→h'.get? a=some (kW items n):=fun a items n e=>(k.2 a fun q=>by
  obtain⟨o,es,ep,e',d,_⟩:=hn
  subst q;rw[e']at e;cases e;cases d).trans e
 have rp:∀{x:Value} {y:V},bL h ids x y→bL h' ids x y:=fun {x y} r=>by
  have:∀{x:Value} {y:V},bL h ids x y→bL h' ids x y:=by
   intro x y r
   exact bL.rec (motive_1:=fun a v _=>bL h' ids a v) (motive_2:=fun as vs _=>bo h' ids as vs) .none (fun b=>.bool b) (fun i t=>.int i t) (fun l t=>.str l t)
    (fun e _ ih=>.tup (tup _ _ _ e) ih) (fun e=>.ref e) .nil (fun _ _ a b=>.cons a b) r
  exact this r
 have rpA:∀{x:List Value} {y:List V},bo h ids x y→bo h' ids x y:=fun {x y} r=>by
  induction x generalizing y with
  |nil=>cases r;exact .nil
  |cons _ _ ih=>cases r with|cons a b=>exact .cons (rp a) (ih b)
 have rpD:∀{x:List (Str×Value)} {y:List (Ch×V)},fR h ids x y→fR h' ids x y:=fun {x y} r=>by
  induction r with
  |nil=>exact .nil
  |cons a _ ih=>exact .cons (rp a) ih
 refine⟨⟨S.hp.len,S.hp.nodup,fun j b p e1 e2=>?_,S.hp.above,fun b p e=>(k.2 b fun q=>by rw[q,hlow]at e;cases e).trans (S.hp.base b p e),S.hp.sys⟩,fun e he=>?_,out,⟨_,hn',fun j jd u e1 e2=>?_⟩,fun j jd kd u e1 e2 e3=>?_⟩
 ·have q:=S.hp.obj j b p e1 e2
  have hb:=keepO b (List.mem_of_getElem? e1)
  cases p with
  |list vs=>
   obtain⟨items,n,e,z⟩:=q
   exact⟨items,n,hb.trans e,rpA z⟩
  |dict es=>
   obtain⟨kvs,⟨o,ents,ep,e,z1⟩,z⟩:=q
   exact⟨kvs,⟨o,ents,ep,hb.trans e,z1⟩,rpD z⟩
 ·obtain⟨kk,L,o,es,n,h1,h2,h3,h4,h5⟩:=S.fr e he
  by_cases hL:L=env.locals
  ·obtain⟨o',es',ep',e',d',_⟩:=hn'
   exact⟨kk,L,o',es',ep',h1,h2,h3,hL▸e',d'⟩
  ·exact⟨kk,L,o,es,n,h1,h2,h3,(k.2 L hL).trans h4,h5⟩
 ·obtain⟨m',hm',q⟩:=S.lo.ns
  by_cases hj:i=j
  ·subst hj
   rw[hi]at e1;cases e1
   have hlt:i<σ.loc.length:=by have:=(List.getElem?_eq_some_iff.mp e2).1;simpa [setL] using this
   rw[setL,List.getElem?_set_self hlt]at e2
   cases e2
   exact⟨val,by simp,rp r⟩
  ·rw[setL,List.getElem?_set_ne hj]at e2
   obtain⟨x,h1,h2⟩:=q j jd u e1 e2
   have hne:jd≠id:=fun z=>hj (qR nd hi (z▸e1))
   have em:m' jd=m jd:=by
    obtain⟨o1,es1,p1,a1,d1,_,f1⟩:=hm'
    obtain⟨o2,es2,p2,a2,d2,_,f2⟩:=hn
    rw[a1]at a2;cases a2;rw[d1]at d2;cases d2
    rw[←f1, ←f2]
   exact⟨x,by simp[hne, ←em,h1],rp h2⟩
 ·have hji:i≠j:=fun z=>by
   subst z;rw[hi]at e1;cases e1;rcases e2 with q|q<;>cases q
  rw[setL,List.getElem?_set_ne hji]at e3
  obtain⟨c,x,h1,h2,h3⟩:=S.lo.cells j jd kd u e1 e2 e3
  refine⟨c,x,h1,?_,rp h3⟩
  obtain⟨o,e,d⟩:=h2
  exact⟨o,(k.2 c fun q=>by
   obtain⟨o',es',ep',e',d',_⟩:=hn
   subst q;rw[e']at e;cases e;rw[d]at d';cases d').trans e,d⟩
end
end Mine
end
section
namespace Mine
open PySem
noncomputable def oJ:m7→Operator
 | .add=>.Add| .sub=>.Sub| .mod=>.Mod| .fdiv=>.FloorDiv
noncomputable def iz:zJ→CmpOp
 | .eq=>.Eq| .ne=>.NotEq| .lt=>.Lt| .le=>.LtE| .gt=>.Gt| .ge=>.GtE| .inn=>.In| .nin=>.NotIn| .is=>.Is| .isn=>.IsNot
theorem yU (a b:Ch):sx (a++b)=sx a++sx b:=by
 show Str.mk _=Str.mk _
 simp[sx]
theorem mF (a:Ch):(sx a).cps.toList=a.map Char.toNat:=by simp[sx]
theorem yE {h:Heap} {ids:List Addr} {a b:Ch} {t:Tok}:bL h ids (.str (sx a++sx b) t) (.str (a++b)):=by rw[←yU];exact .str _ _
section
variable {ae:Program} {w:World} {A:Around} {E:Value→Shared→Prop} {s:Shared} {ids:List Addr} {ac:Heap} {H:List O}
theorem zc {op:m7} {x y:Value} {a b r:V} {Q:Value→Shared→Prop} (ra:bL s.heap ids x a) (rb:bL s.heap ids y b) (e:hK op a b=some r)
  (k:∀val tk,bL s.heap ids val r→Q val {s with toks:=tk}):wpAny (model ae w) A (binaryOp (oJ op) x y) Q E s:=
 lK (P:=fun op a b r=>bL s.heap ids x a→bL s.heap ids y b→(∀val tk,bL s.heap ids val r→Q val {s with toks:=tk})→wpAny (model ae w) A (binaryOp (oJ op) x y) Q E s) e
  (fun _ _ ra rb k=>repI ra fun _=>repI rb fun _=>P.add_int (k _ _ (.int _ _)))
  (fun _ _ ra rb k=>repI ra fun _=>repI rb fun _=>P.sub_int (k _ _ (.int _ _)))
  (fun _ _ h ra rb k=>repI ra fun _=>repI rb fun _=>PyProof.Rows.mod_int' (Int.ne_of_gt h.1) (k _ _ (.int _ _)))
  (fun _ _ h ra rb k=>repI ra fun _=>repI rb fun _=>PyProof.Rows.floordiv_int (Int.ne_of_gt h.1) (k _ _ (.int _ _)) (Or.inl (PyProof.noPylong_small (y4 h))))
  (fun _ _ h ra rb k=>by refine repS ra fun _=>?_;refine repS rb fun _=>?_;exact PyProof.Rows.add_str (fun _ _=>k _ _ yE) (by rw[cy,cy];exact h)) ra rb k
theorem qX {op:m7} {x y:Value} {a b r:V} {Q:Value→Shared→Prop} (ra:bL s.heap ids x a) (rb:bL s.heap ids y b) (e:hK op a b=some r) (hop:op=.add∨op=.sub)
  (k:∀val tk,bL s.heap ids val r→Q val {s with toks:=tk}):wpAny (model ae w) A (inplaceOp (oJ op) x y) Q E s:=
 lK (P:=fun op a b r=>op=.add∨op=.sub→bL s.heap ids x a→bL s.heap ids y b→(∀val tk,bL s.heap ids val r→Q val {s with toks:=tk})→wpAny (model ae w) A (inplaceOp (oJ op) x y) Q E s) e
  (fun _ _ _ ra rb k=>repI ra fun _=>repI rb fun _=>P.iadd_int (k _ _ (.int _ _)))
  (fun _ _ _ ra rb k=>repI ra fun _=>repI rb fun _=>P.isub_int (k _ _ (.int _ _)))
  (fun _ _ _ h=>h.elim (fun q=>nomatch q) fun q=>nomatch q)
  (fun _ _ _ h=>h.elim (fun q=>nomatch q) fun q=>nomatch q)
  (fun _ _ h _ ra rb k=>by refine repS ra fun _=>?_;refine repS rb fun _=>?_;exact PyProof.Rows.iadd_str (fun _ _=>k _ _ yE) (by rw[cy,cy];exact h)) hop ra rb k
theorem Gu (l:Ch):PyData.strOk (sx l)=true:=by
 simp only[PyData.strOk,sx]
 rw[Array.all_eq_true']
 intro c hc
 obtain⟨x,_,rfl⟩:=List.mem_map.mp (by simpa using hc)
 simp only[decide_eq_true_eq]
 exact x.valid.elim (fun h=>Nat.lt_trans h (by decide)) fun h=>h.2
noncomputable def Iy (n:Nat) (d:PyData):Prop:=d.canLay0=true∧d.depth≤n
noncomputable def IN (n:Nat) (d:List PyData):Prop:=PyData.canLayAll0 d=true∧PyData.depthAll d≤n
theorem jZ {H:List O} {n:Nat} (ih:∀(v:V) (d:PyData),pd H n v=some d→Iy n d) (vs:List V):∀(ds:List PyData),bi (pd H n) vs=some ds→IN n ds:=by
 induction vs with
 |nil=>exact fun _ e=>cD e ⟨rfl,Nat.zero_le _⟩
 |cons v vs ih2=>exact fun _ e=>xZ e fun a b h1 h2=>⟨mv (ih v a h1).1 (ih2 b h2).1,Nat.max_le.mpr ⟨(ih v a h1).2,(ih2 b h2).2⟩⟩
theorem fG {H:List O}:∀(n:Nat) (v:V) (d:PyData),pd H n v=some d→Iy n d:=by
 intro n
 induction n with
 |zero=>exact fun _ _ e=>aF e
 |succ n ih=>
  exact fun _ _ e=>Av (P:=fun _ d=>Iy (n+1) d) e ⟨rfl,Nat.zero_le _⟩ (fun _=>⟨rfl,Nat.zero_le _⟩) (fun _=>⟨rfl,Nat.zero_le _⟩) (fun l=>⟨Gu l,Nat.zero_le _⟩)
   (fun vs ds q=>⟨(jZ ih vs ds q).1,Nat.succ_le_succ (jZ ih vs ds q).2⟩) (fun _ vs ds _ q=>⟨(jZ ih vs ds q).1,Nat.succ_le_succ (jZ ih vs ds q).2⟩)
theorem qW {n:Nat} (ih:∀(x:Value) (v:V) (d:PyData),bL s.heap ids x v→pd H n v=some d→∃as,Reads s.heap x d as) (vs:List V):
  ∀(xs:List Value) (ds:List PyData),bo s.heap ids xs vs→bi (pd H n) vs=some ds→∃as,ReadsAll s.heap xs ds as:=by
 induction vs with
 |nil=>exact fun xs ds r e=>repNil r (cD (P:=fun ds=>∃as,ReadsAll s.heap [] ds as) e ⟨_,.nil⟩)
 |cons v vs ih2=>exact fun xs ds r e=>repCons r fun y ys r1 r2=>xZ (P:=fun ds=>∃as,ReadsAll s.heap (y::ys) ds as) e fun a b h1 h2=>(ih y v a r1 h1).elim fun _ q1=>(ih2 ys b r2 h2).elim fun _ q2=>⟨_,.cons q1 q2⟩
theorem ly (R:cQ ae w ac ids H s.heap):∀(n:Nat) (x:Value) (v:V) (d:PyData),bL s.heap ids x v→pd H n v=some d→∃as,Reads s.heap x d as:=by
 intro n
 induction n with
 |zero=>exact fun _ _ _ _ e=>aF e
 |succ n ih=>
  exact fun x v d r e=>Av (P:=fun v d=>bL s.heap ids x v→∃as,Reads s.heap x d as) e (fun r=>repN r ⟨_,.none⟩) (fun b r=>repB r ⟨_,.bool b⟩) (fun i r=>repI r fun t=>⟨_,.int i t⟩) (fun l r=>repS r fun t=>⟨_,.str _ t⟩)
   (fun vs ds q r=>repT r fun a items m e1 r=>(qW ih vs _ ds r q).elim fun _ z=>⟨_,.tuple e1 rfl rfl z⟩)
   (fun i vs ds hl q r=>repR r fun a hi=>(R.obj i a _ hi (gp hl)).elim fun items k=>k.elim fun m k=>(qW ih vs _ ds k.2 q).elim fun _ z=>⟨_,.list k.1 rfl rfl z⟩) r
theorem AK {x y:Value} {a b:V} {r:Bool} {Q:Value→Shared→Prop} (R:cQ ae w ac ids H s.heap) (ra:bL s.heap ids x a) (rb:bL s.heap ids y b) (e:C2 H a b=some r) (hu:A.units+ji<cLine)
  (k:Q (.bool r) s):wpAny (model ae w) A (compareOp .Eq x y) Q E s:=
 A6 (P:=fun r=>Q (.bool r) s→wpAny (model ae w) A (compareOp .Eq x y) Q E s) e (fun da db ha hb k=>(ly R ji x a da ra ha).elim fun _ r1=>(ly R ji y b db rb hb).elim fun _ r2=>
  SeqAt.compareEq_reads r1 r2 (fG ji a da ha).1 (fG ji b db hb).1 (Nat.lt_of_le_of_lt (Nat.add_le_add_left (Nat.le_trans (Nat.min_le_left _ _) (fG ji a da ha).2) _) hu) k) k
theorem A7 {x y:Value} {a b:V} {r:Bool} {Q:Value→Shared→Prop} (R:cQ ae w ac ids H s.heap) (ra:bL s.heap ids x a) (rb:bL s.heap ids y b) (e:C2 H a b=some r) (hu:A.units+ji+1<cLine)
  (k:Q (.bool !r) s):wpAny (model ae w) A (compareOp .NotEq x y) Q E s:=
 A6 (P:=fun r=>Q (.bool !r) s→wpAny (model ae w) A (compareOp .NotEq x y) Q E s) e (fun da db ha hb k=>(ly R ji x a da ra ha).elim fun _ r1=>(ly R ji y b db rb hb).elim fun _ r2=>
  SeqAt.compareNe_reads r1 r2 (fG ji a da ha).1 (fG ji b db hb).1 (by have:=(fG ji a da ha).2;omega) k) k
end
end Mine
end
section
namespace Mine
open PySem
section
variable {ae:Program} {w:World} {A:Around} {E:Value→Shared→Prop} {s:Shared} {ids:List Addr} {ac:Heap} {H:List O}
theorem ta (c:Char):sx [c]=⟨#[c.toNat]⟩:=rfl
theorem pZ {c:Char} {l:Ch}:c.toNat∈l.map Char.toNat↔c∈l:=by
 rw[List.mem_map]
 exact⟨fun⟨a,h,e⟩=>Char.toNat_inj.mp e▸h,fun h=>⟨c,h,rfl⟩⟩
theorem found_one (c:Char) (l:Ch):(!(Builtin.Str.occurrences (sx l) (sx [c]) 0 (sx l).length 1).isEmpty)=l.contains c:=by
 rw[ta,StrLaws.found_one,mF,Bool.eq_iff_iff,decide_eq_true_eq,pZ,List.contains_iff_mem]
theorem kH {h:Heap}:∀{vs:List V} {xs:List Value} {ls:List Ch},bo h ids xs vs→dW vs=some ls→ReadsAll h xs (ls.map fun l=>PyData.str (sx l)) []
 |[],xs,_,r,e=>repNil r (cD (P:=fun ls=>ReadsAll h [] (ls.map fun l=>PyData.str (sx l)) []) e .nil)
 |v::vs,xs,_,r,e=>repCons r fun y ys r1 r2=>u8 (P:=fun v ls=>bL h ids y v→ReadsAll h (y::ys) (ls.map fun l=>PyData.str (sx l)) []) e (fun _ _ q r1=>repS r1 fun _=>ReadsAll.cons (as:=[]) (.str _ _) (kH r2 q)) r1
theorem B9 (ls:List Ch):PyData.canLayAll0 (ls.map fun l=>PyData.str (sx l))=true∧PyData.depthAll (ls.map fun l=>PyData.str (sx l))=0:=by
 induction ls with
 |nil=>simp[PyData.canLayAll0,PyData.depthAll]
 |cons l r ih=>
  have q:=(fG (H:=[]) 1 (.str l) _ rfl).1
  simp[PyData.canLayAll0,PyData.depthAll,ih,q,PyData.depth]
theorem tO (ls:List Ch) (x:Ch):((ls.map fun l=>PyData.str (sx l)).any fun y=>PyData.eqv y (.str (sx x)))=ls.contains x:=by
 induction ls with
 |nil=>rfl
 |cons l r ih=>
  rw[List.map_cons,List.any_cons,ih,List.contains_cons]
  congr 1
  simp only[PyData.eqv]
  rw[Bool.eq_iff_iff,beq_iff_eq,beq_iff_eq,w0]
  exact eq_comm
theorem fR.look {h:Heap} {kvs:List (Str×Value)} {es:List (Ch×V)} (r:fR h ids kvs es) (k:Ch):(valueAt kvs (sx k)).isSome=es.any (fun e=>e.1==k)∧∀v,es.lookup k=some v→∃x,valueAt kvs (sx k)=some x∧bL h ids x v:=by
 induction r with
 |nil=>exact⟨rfl,fun v e=>by cases e⟩
 |@cons j x v xs vs r rs ih=>
  by_cases hk:j=k
  ·subst hk
   refine⟨by simp[valueAt],fun u e=>?_⟩
   simp at e;subst e
   exact⟨x,by simp[valueAt],r⟩
  ·have h1:valueAt ((sx j,x)::xs) (sx k)=valueAt xs (sx k):=by simp[valueAt,w0,hk]
   rw[h1]
   refine⟨by simp[ih.1,hk],fun u e=>ih.2 u ?_⟩
   have:(k==j)=false:=by simpa using fun e=>hk e.symm
   simpa [List.lookup_cons,this] using e
theorem fR.stored {h:Heap} {kvs:List (Str×Value)} {es:List (Ch×V)} {k:Ch} {x:Value} {v:V} (r:fR h ids kvs es) (y:bL h ids x v):fR h ids (PySem.stored kvs (sx k) x) (qj es k v):=by
 have h0:(kvs.any fun kv=>decide (kv.1=sx k))=es.any (fun e=>e.1==k):=by
  induction r with
  |nil=>rfl
  |@cons j x' v' xs vs r rs ih=>
   rw[List.any_cons,List.any_cons,ih]
   congr 1
   rw[Bool.eq_iff_iff];simp[w0]
 unfold PySem.stored qj
 rw[h0]
 split
 ·clear h0
  rename_i h1;clear h1
  induction r with
  |nil=>exact .nil
  |@cons j x' v' xs vs r rs ih=>
   rw[List.map_cons,List.map_cons]
   by_cases hk:j=k
   ·subst hk;simp only[if_true,beq_self_eq_true];exact .cons y ih
   ·have:(j==k)=false:=by simpa using hk
    simp only[this,w0,hk,if_false,Bool.false_eq_true]
    exact .cons r ih
 ·rename_i h1;clear h1 h0
  induction r with
  |nil=>exact .cons y .nil
  |cons r rs ih=>exact .cons r ih
theorem cQ.dict (R:cQ ae w ac ids H s.heap) {a:Addr} {i:Nat} {es:List (Ch×V)} (hi:ids[i]? =some a) (he:dictOf? H i=some es):
  ∃kvs,s.heap.DictOf (strKind ae w) a kvs∧fR s.heap ids kvs es∧(a==sysModules)=false:=
 (R.obj i a _ hi (tS he)).elim fun kvs k=>⟨kvs,k.1,k.2,R.sys.elim fun _ h2=>beq_eq_false_iff_ne.mpr fun e=>by
  have h1:=R.above a (List.mem_of_getElem? hi)
  rw[e,h2]at h1;cases h1⟩
theorem cQ.list {h:Heap} (R:cQ ae w ac ids H h) {a:Addr} {i:Nat} {vs:List V} (hi:ids[i]? =some a) (he:listOf? H i=some vs):
  ∃items n,h.get? a=some (Du items n)∧bo h ids items.toList vs:=R.obj i a _ hi (gp he)
theorem zT {x y:Value} {a b:V} {r:Bool} {Q:Value→Shared→Prop} (R:cQ ae w ac ids H s.heap) (ra:bL s.heap ids x a) (rb:bL s.heap ids y b) (e:dX.inV H a b=some r) (hu:A.units+ji<cLine):
  ((∀tk,Q (.bool r) {s with toks:=tk})→wpAny (model ae w) A (compareOp .In x y) Q E s)∧((∀tk,Q (.bool !r) {s with toks:=tk})→wpAny (model ae w) A (compareOp .NotIn x y) Q E s):=by
 have hu':A.units+1+min 0 0<cLine:=Nat.lt_of_le_of_lt (Nat.add_le_add_left (show 1+min 0 0≤ji by decide) A.units) hu
 refine CN (P:=fun a b r=>bL s.heap ids x a→bL s.heap ids y b→((∀tk,Q (.bool r) {s with toks:=tk})→wpAny (model ae w) A (compareOp .In x y) Q E s)∧((∀tk,Q (.bool !r) {s with toks:=tk})→wpAny (model ae w) A (compareOp .NotIn x y) Q E s)) e ?_ ?_ ?_ ra rb
 ·exact fun c t ra rb=>repS ra fun _=>repS rb fun _=>⟨fun k=>PyProof.Rows.in_str ((found_one c t).symm▸k s.toks),fun k=>PyProof.Rows.notIn_str ((found_one c t).symm▸k s.toks)⟩
 ·exact fun c vs ls q ra rb=>repS ra fun _=>repT rb fun a items n e1 rs=>
   have z:=B9 ls
   have d:=(fG (H:=[]) 1 (.str c) _ rfl).1
   ⟨fun k=>SeqAt.in_tuple_reads (.tuple e1 rfl rfl (kH rs q)) (.str _ _) z.1 d (z.2.symm▸hu') ((tO ls c).symm▸k s.toks),
    fun k=>SeqAt.notIn_tuple_reads (.tuple e1 rfl rfl (kH rs q)) (.str _ _) z.1 d (z.2.symm▸hu') ((tO ls c).symm▸k s.toks)⟩
 ·exact fun c i es q ra rb=>repS ra fun t=>repR rb fun a hi=>(R.dict hi q).elim fun kvs z=>
   ⟨fun k=>wpAny_in_of (strKind_is ae w (sx c) t) z.2.2 z.1.mapOf ((z.2.1.look c).1.symm▸k _),fun k=>wpAny_notIn_of (strKind_is ae w (sx c) t) z.2.2 z.1.mapOf ((z.2.1.look c).1.symm▸k _)⟩
theorem Df {h:Heap} {x:Value} {a:V} (r:bL h ids x a):plainIs x .none=true∧(x== .none)=(match(generalizing:=false) a with| .none=>true|_=>false)∧(!(x== .none))=(match(generalizing:=false) a with| .none=>false|_=>true):=by
 cases r<;>exact⟨rfl,rfl,rfl⟩
theorem el {op:zJ} {x y:Value} {a b:V} {r:Bool} {Q:Value→Shared→Prop} (R:cQ ae w ac ids H s.heap) (ra:bL s.heap ids x a) (rb:bL s.heap ids y b) (e:dX H op a b=some r) (hu:A.units+ji+1<cLine)
  (k:∀tk,Q (.bool r) {s with toks:=tk}):wpAny (model ae w) A (compareOp (iz op) x y) Q E s:=by
 have hu':=Nat.lt_of_succ_lt hu
 have two:∀{f:Int→Int→Bool} {o:CmpOp},(match(generalizing:=false) a,b with| .int x,.int y=>some (f x y)|_,_=>Option.none)=some r→(∀i j t u,Q (.bool (f i j)) s→wpAny (model ae w) A (compareOp o (.int i t) (.int j u)) Q E s)→wpAny (model ae w) A (compareOp o x y) Q E s:=
  fun {f} {o} e z=>BY (P:=fun a b r=>bL s.heap ids x a→bL s.heap ids y b→Q (.bool r) s→wpAny (model ae w) A (compareOp o x y) Q E s) e (fun i j ra rb q=>repI ra fun t=>repI rb fun u=>z i j t u q) ra rb (k s.toks)
 have n:=Df ra
 cases op with
 |eq=>exact AK R ra rb e hu' (k s.toks)
 |ne=>exact map_some (P:=fun r=>Q (.bool r) s→_) e (fun q h1 k=>A7 R ra rb h1 hu k) (k s.toks)
 |lt=>exact two (f:=fun x y=>decide (x<y)) e fun _ _ _ _=>P.lt_int
 |le=>exact two (f:=fun x y=>decide (x≤y)) e fun _ _ _ _=>P.le_int
 |gt=>exact two (f:=fun x y=>decide (x>y)) e fun _ _ _ _=>P.gt_int
 |ge=>exact two (f:=fun x y=>decide (x≥y)) e fun _ _ _ _=>P.ge_int
 |inn=>exact(zT R ra rb e hu').1 k
 |nin=>exact map_some (P:=fun r=>(∀tk,Q (.bool r) {s with toks:=tk})→_) e (fun q h1 k=>(zT R ra rb h1 hu').2 k) k
 |is=>exact uW (P:=fun b=>bL s.heap ids y b→_) e (fun e rb=>repN rb (wpAny_is_plain n.1 ((n.2.1.trans (Option.some.inj e)).symm▸k s.toks))) rb
 |isn=>exact uW (P:=fun b=>bL s.heap ids y b→_) e (fun e rb=>repN rb (wpAny_isNot_plain n.1 ((n.2.2.trans (Option.some.inj e)).symm▸k s.toks))) rb
end
end Mine
end
section
namespace Mine
open PySem
theorem lS (k:Int) (n:Nat):cN k n=seqIndex? k n:=by
 unfold cN seqIndex?
 by_cases h:0≤k
 ·have h':¬k<0:=Int.not_lt.mpr h
  simp only[h,if_true,h',if_false]
  by_cases h2:k<n<;>simp[h,h2]
 ·have h':k<0:=Int.not_le.mp h
  simp only[h,if_false,h',if_true]
  by_cases h2:0≤k+n
  ·have:k+n<n:=Int.add_lt_of_lt_sub_right (by rw[Int.sub_self];exact h')
   simp[h2,this]
  ·simp[h2]
theorem eP {k:Int}:d4 k=true↔ -(2^63:Int)≤k∧k<2^63:=by simp[d4]
section
variable {ae:Program} {w:World} {A:Around} {E:Value→Shared→Prop} {s:Shared} {ids:List Addr} {ac:Heap} {H:List O}
noncomputable def gG (e:Expr):Bool:=e.ctorIdx != 26
theorem FX {slice:Expr} (h:gG slice=true) (o i:Value):subscripted slice false o i=operate [o,i] (getItem o i):=by
 unfold subscripted
 cases slice<;>first|rfl|exact Bool.noConfusion (show false=true from h)
theorem uF {value slice:Expr} {x y:Value} {a b r:V} {Q:Value→Shared→Prop} (R:cQ ae w ac ids H s.heap) (ra:bL s.heap ids x a) (rb:bL s.heap ids y b) (e:iG H a b=some r) (hs:gG slice=true)
  (k:∀val tk,bL s.heap ids val r→Q val {s with toks:=tk}):
  wpAny (model ae w) A (getItem x y) Q E s∧wpAny (model ae w) A (PyProof.Rows.subscriptTail value slice x y) Q E s:=by
 have hsub:=FX hs x y
 have fin:∀{T id:String},s.TypeIs x T→typeLookup (.type T) "__getitem__"=pure (some (.builtin id))→wpAny (model ae w) A (getItem x y) Q E s→wpAny (model ae w) A (getItem x y) Q E s∧wpAny (model ae w) A (PyProof.Rows.subscriptTail value slice x y) Q E s:=fun h1 h2 h3=>⟨h3,PyProof.Rows.tail_any h1 h2 h3 hsub⟩
 have sz:∀{items:Array Value} {vs:List V},bo s.heap ids items.toList vs→items.size=vs.length:=fun rs=>rs.length
 revert hsub fin
 refine tI (P:=fun a b r=>bL s.heap ids x a→bL s.heap ids y b→(∀val tk,bL s.heap ids val r→Q val {s with toks:=tk})→_→_→_) e ?_ ?_ ?_ ?_ ra rb k
 ·intro l i j c h hj hc ra rb k
  refine repS ra fun t=>repI rb fun u _ fin=>fin (T:="str") rfl F.slot_str_getitem.lookup (P.getItem_str (c:=c.toNat) ?_ ?_ (k _ _ (.str [c] _)))
  ·rw[decide_eq_false (Int.not_lt.mpr (eP.mp h).1),decide_eq_false (Int.not_le.mpr (eP.mp h).2)];rfl
  ·rw[cy, ←lS,hj,Option.bind_some, ←Array.getElem?_toList,mF,List.getElem?_map,hc];rfl
 ·intro vs i j v h hj hv ra rb k
  exact repT ra fun a items n e1 rs=>repI rb fun u _ fin=>(rs.get hv).elim fun z q=>fin (T:="tuple") ⟨_,e1,rfl⟩ F.slot_tuple_getitem.lookup (P.getItem_tuple (y:=z) e1 (eP.mp h).1 (eP.mp h).2 (by rw[←lS,sz rs];exact hj) (Array.getElem?_toList.symm.trans q.1) (k z s.toks q.2))
 ·intro p i vs j v h hv hj hv' ra rb k
  refine repR ra fun a hi=>repI rb fun u _ fin=>(R.list hi hv).elim fun items z=>z.elim fun n z=>(z.2.get hv').elim fun val q=>fin (T:="list") ⟨_,z.1,rfl⟩ slot_list_getitem.lookup ?_
  have q1:=q.1
  rw[Array.getElem?_toList]at q1
  revert q1
  exact BA (P:=fun j=>items[j]? =some val→_) hj (fun h1 h2 q1=>wpAny_getItem_list ⟨_,z.1,rfl,n,rfl⟩ h1 (eP.mp h).2 q1 (k val s.toks q.2))
   fun h1 h2 q1=>wpAny_getItem_list_neg ⟨_,z.1,rfl,n,rfl⟩ (Int.not_le.mp h1) (by rw[sz z.2];omega) (eP.mp h).1 ((sz z.2).symm▸q1) (k val s.toks q.2)
 ·intro p i es v hd hl ra rb k
  exact repR ra fun a hi=>repS rb fun u _ fin=>(R.dict hi hd).elim fun kvs z=>((z.2.1.look i).2 v hl).elim fun val q=>fin (T:="dict") z.1.mapOf.typeIs slot_dict_getitem.lookup (wpAny_getItem_of (strKind_is ae w (sx i) u) z.1.mapOf q.1 (k val _ q.2))
theorem gV {h:Heap} {a:Addr} {items:Array Value} {n:Nat} (e:h.get? a=some (Du items n)) (f:Array Value→Array Value):∃m,(h.update a (Obj.mapSeq f)).get? a=some (Du (f items) m):=by
 refine⟨_,Heap.get?_update_self _ e ?_⟩
 rfl
theorem zw {l:Addr} {items:Array Value} {n:Nat} {k:Int} {t:Tok} {v:Value} {j:Nat} {Q:Unit→Shared→Prop} (ho:s.heap.get? l=some (Du items n)) (hk:d4 k=true) (hj:cN k items.size=some j) (hlt:j<items.size)
  (hQ:Q () {s with heap:=s.heap.update l (Obj.mapSeq (·.setIfInBounds j v))}):wpAny (model ae w) A (setItem (.ref l) (.int k t) v) Q E s:=by
 have hl:s.heap.IsList l items:=⟨_,ho,rfl,n,rfl⟩
 have hfit:Builtin.List.listFitsIndex k=true:=by
  obtain⟨h0,h1⟩:=eP.mp hk
  simp only[Builtin.List.listFitsIndex,Bool.and_eq_true,decide_eq_true_eq];exact⟨h0,h1⟩
 have hx:items[j]? =some items[j]:=Array.getElem?_eq_getElem hlt
 unfold setItem
 try with_reducible refine wpAny_holding ?_
 first|refine wpAny_bind (wpAny_pure ?_)|skip
 refine wpAny_bind (wpAny_sequenceKey hl.typeIs (by decide) ?_)
 refine wpAny_bind (wpAny_callSpecial?_slot (name:=Str.ofString "__setitem__") hl.typeIs slot_list_setitem
  (wpAny_call_entry slot_list_setitem hl.typeIs entry_list_setitem ?_ (args_list_setitem _ _ _)))
 show wpAny _ _ (Builtin.List.listSubscript? (.int k t)>>= _) _ _ s
 refine wpAny_bind (wpAny_listSubscript_int hfit ?_)
 clear hfit hk
 rw[lS]at hj
 cases k with
 |ofNat m=>
  obtain rfl:m=j:=by
   rw[←lS,cN,if_pos (show 0≤Int.ofNat m from Int.natCast_nonneg m)]at hj
   split at hj
   ·exact Option.some.inj hj
   ·exact nomatch hj
  show wpAny _ _ ((seqItemAt l m>>= fun r=>pure (r.map (m, ·)))>>= _) _ _ s
  refine wpAny_bind (wpAny_bind (wpAny_seqItemAt ho rfl (wpAny_pure ?_)))
  rw[hx]
  show wpAny _ _ (setSeqItemAt l m v>>= _) _ _ s
  refine wpAny_bind (wpAny_setSeqItemAt ho rfl ?_)
  first
   |exact wpAny_bind (wpAny_pure (wpAny_pure ⟨.none,rfl,wpAny_pure hQ⟩))
   |exact wpAny_pure ⟨.none,rfl,wpAny_pure hQ⟩
 |negSucc m=>
  show wpAny _ _ ((Builtin.List.listItems (.ref l)>>= fun xs=>pure ((seqIndex? (Int.negSucc m) xs.size).bind fun i=>xs[i]?.map (i, ·)))>>= _) _ _ s
  refine wpAny_bind (wpAny_bind ?_)
  show wpAny _ _ (seqItems? (.ref l)>>= _) _ _ s
  refine wpAny_bind (wpAny_seqItems ho rfl (wpAny_pure (wpAny_pure ?_)))
  rw[hj]
  simp only[Option.bind_some,hx,Option.map_some]
  show wpAny _ _ (setSeqItemAt l j v>>= _) _ _ s
  refine wpAny_bind (wpAny_setSeqItemAt ho rfl ?_)
  first
   |exact wpAny_bind (wpAny_pure (wpAny_pure ⟨.none,rfl,wpAny_pure hQ⟩))
   |exact wpAny_pure ⟨.none,rfl,wpAny_pure hQ⟩
end
section
variable {ae:Program} {w:World} {A:Around} {E:Value→Shared→Prop} {s:Shared} {ids:List Addr} {ac:Heap} {env:Env} {l:List Env} {σ:St}
theorem fR.length {h:Heap} {kvs:List (Str×Value)} {es:List (Ch×V)} (r:fR h ids kvs es):kvs.length=es.length:=by
 induction r with
 |nil=>rfl
 |cons _ _ ih=>simp[ih]
theorem qH {x y z:Value} {a b v:V} {H':List O} {Q:Unit→Shared→Prop} (S:c6 ae w ac env l ids σ s.heap) (ra:bL s.heap ids x a) (rb:bL s.heap ids y b) (rv:bL s.heap ids z v) (e:mE σ.hp a b v=some H')
  (k:∀h' tk,bx (frs l) ids s.heap ids h'→c6 ae w ac env l ids {σ with hp:=H'} h'→Q () {s with heap:=h',toks:=tk}):wpAny (model ae w) A (setItem x y z) Q E s:=by
 refine tK (P:=fun a b H'=>bL s.heap ids x a→bL s.heap ids y b→(∀h' tk,bx (frs l) ids s.heap ids h'→c6 ae w ac env l ids {σ with hp:=H'} h'→Q () {s with heap:=h',toks:=tk})→_) e ?_ ?_ ra rb k
 ·intro i j vs m h hv hm ra rb k
  refine repR ra fun p hi=>repI rb fun u=>(S.hp.list hi hv).elim fun items q=>q.elim fun n q=>?_
  have hl:items.size=vs.length:=q.2.length
  have hm':=hl▸hm
  refine(gV q.1 (·.setIfInBounds m z)).elim fun m' e'=>?_
  have st:bx (frs l) ids s.heap ids (s.heap.update p (Obj.mapSeq (·.setIfInBounds m z))):=gn (List.mem_of_getElem? hi) (Heap.SameBut.update ..) ⟨_,e'⟩
  refine zw q.1 h hm' (G9 hm') (k _ s.toks st (S.upd hi (Heap.SameBut.update ..) ⟨_,m',e',?_⟩))
  rw[Array.toList_setIfInBounds]
  exact(q.2.step st S.noTup).set (rv.step st S.noTup) m
 ·intro i j es he hlen ra rb k
  refine repR ra fun p hi=>repS rb fun u=>(S.hp.dict hi he).elim fun kvs q=>?_
  refine wpAny_setItem_pairs (strKind_is ae w (sx j) u) q.1 (fun h' hd' hs=>?_) (by rw[q.2.1.length];exact fo (wz hlen))
  have st:bx (frs l) ids s.heap ids h':=gn (List.mem_of_getElem? hi) hs (let ⟨o,_,_,e,_⟩:=hd';⟨o,e⟩)
  exact k h' _ st (S.upd hi hs ⟨_,hd',(q.2.1.step st S.noTup).stored (rv.step st S.noTup)⟩)
end
end Mine
end
section
namespace Mine
open PySem
theorem t9 {p q:Nat}:sliceRange (p:Int) (q:Int) 1=(List.range (q-p)).map (fun k=>p+k):=by
 unfold sliceRange
 rw[if_pos Int.one_pos]
 by_cases h:(p:Int)<q
 ·rw[if_pos h,Int.add_sub_cancel,Int.ediv_one]
  show(List.range ((q:Int)-p).toNat).map _=_
  rw[Int.toNat_sub]
  exact List.map_congr_left fun k _=>by rw[Int.one_mul];rfl
 ·rw[if_neg h,Nat.sub_eq_zero_of_le (Int.ofNat_le.mp (Int.not_lt.mp h))];rfl
theorem qC {p q n:Nat} (hp:p≤n) (hq:q≤n) {α:Type} (l:List α) (hl:l.length=n):(sliceRange (p:Int) (q:Int) 1).filterMap (l[·]?)=(l.drop p).take (q-p):=by
 rw[t9]
 by_cases h:p≤q
 ·exact StrLaws.picks l (q-p) p (by rw[Nat.add_sub_cancel' h,hl];exact hq)
 ·rw[Nat.sub_eq_zero_of_le (Nat.le_of_lt (Nat.not_le.mp h))];rfl
theorem xT (k:Int) (n:Nat):iW k n≤n:=by
 unfold iW
 split<;>split
 ·exact Nat.zero_le _
 ·exact Int.toNat_le.mpr (Int.add_le_of_le_sub_right (by rw[Int.sub_self];exact Int.le_of_lt ‹k<0›))
 ·exact Nat.le_refl _
 ·exact Int.toNat_le.mpr (Int.not_lt.mp ‹_›)
theorem Jx {x n:Int} (h:x<0) (hn:0≤n):max 0 (min x n)=0:=by rw[Int.min_eq_left (Int.le_trans (Int.le_of_lt h) hn),Int.max_eq_left (Int.le_of_lt h)]
theorem Jb {x n:Int} (h:0≤x) (hx:x≤n):max 0 (min x n)=(x.toNat:Int):=by rw[Int.min_eq_left hx,Int.max_eq_right h,Int.toNat_of_nonneg h]
theorem Jl {x:Int} {n:Nat} (h:(n:Int)<x):max 0 (min x n)=(n:Int):=by rw[Int.min_eq_right (Int.le_of_lt h),Int.max_eq_right (Int.natCast_nonneg n)]
theorem uy (k:Int) (n:Nat):max (0:Int) (min (if k<0 then k+n else k) n)=(iW k n:Nat):=by
 unfold iW
 by_cases h:k<0
 ·rw[if_pos h,if_pos h]
  by_cases h2:k+n<0
  ·rw[if_pos h2];exact Jx h2 (Int.natCast_nonneg n)
  ·rw[if_neg h2];exact Jb (Int.not_lt.mp h2) (Int.add_le_of_le_sub_right (by rw[Int.sub_self];exact Int.le_of_lt h))
 ·rw[if_neg h,if_neg h]
  by_cases h2:(n:Int)<k
  ·rw[if_pos h2];exact Jl h2
  ·rw[if_neg h2];exact Jb (Int.not_lt.mp h) (Int.not_lt.mp h2)
noncomputable def eZ (v:Option Int) (n d:Nat):Nat:=match v with
 |none=>d
 |some i=>iW i n
theorem FG (lo hi:Option Int) (n:Nat):Builtin.Str.strSliceIndices lo hi 1 n=sliceRange (eZ lo n 0:Nat) (eZ hi n n:Nat) 1:=by
 unfold Builtin.Str.strSliceIndices
 have h1:((1:Int)>0)=True:=by simp
 cases lo<;>cases hi<;>simp only[h1,if_true,eZ,uy]<;>rfl
section
variable {ae:Program} {w:World} {A:Around} {E:Value→Shared→Prop} {s:Shared} {ids:List Addr} {ac:Heap} {H:List O}
theorem AG {l:Ch} {t:Tok} {lo hi:Option (Int×Tok)} {Q:Value→Shared→Prop} {a b:Nat} (hl:l.length≤nu) (hp:a≤l.length) (hq:b≤l.length) (e0:slicePicked (sx l) lo hi none=sliceRange (a:Int) (b:Int) 1)
  (k:∀t' tk,Q (.str (sx ((l.drop a).take (b-a))) t') {s with toks:=tk}):(sliceMade (sx l) t lo hi none).post Q s:=by
 have e1:((slicePicked (sx l) lo hi none).filterMap ((sx l).cps[·]?))=((l.drop a).take (b-a)).map Char.toNat:=by
  have:((slicePicked (sx l) lo hi none).filterMap ((sx l).cps[·]?))=((slicePicked (sx l) lo hi none).filterMap ((l.map Char.toNat)[·]?)):=
   congrArg (fun f=>List.filterMap f _) (funext fun i=>by rw[←Array.getElem?_toList,mF])
  rw[this,e0,qC hp hq _ (List.length_map _),List.map_take,List.map_drop]
 unfold sliceMade
 split
 ·rename_i h
  have hlen:b-a=l.length:=by
   have:=eq_of_beq (Bool.and_eq_true_iff.mp h).2
   rwa[cy,e0,t9,List.length_map,List.length_range]at this
  have:=k t s.toks
  rw[hlen,List.take_of_length_le (Nat.le_trans (Nat.le_of_eq List.length_drop) (Nat.sub_le ..))]at this
  have e4:b=l.length:=Nat.le_antisymm hq (hlen▸Nat.sub_le b a)
  have e3:l.drop a=l:=by
   rcases Nat.eq_zero_or_pos a with e|e
   ·rw[e];rfl
   ·rw[←e4]at hlen
    have:l.length=0:=by rw[←e4];exact Nat.eq_zero_of_not_pos fun q=>absurd hlen (Nat.ne_of_lt (Nat.sub_lt q e))
    rw[List.length_eq_zero_iff.mp this];exact List.drop_nil
  rw[e3]at this
  exact this
 ·refine⟨?_,?_⟩
  ·rw[e1]
   show(List.map Char.toNat ((l.drop a).take (b-a))).length≤nu
   rw[List.length_map]
   exact Nat.le_trans (List.length_take_le' ..) (Nat.le_trans (Nat.le_of_eq List.length_drop) (Nat.le_trans (Nat.sub_le ..) hl))
  ·rw[e1];exact k _ _
theorem qy (v:Option Int) {n d:Nat} (h:d≤n):eZ v n d≤n:=by
 cases v with
 |none=>exact h
 |some i=>exact xT i n
theorem zu {l:Ch} {t:Tok} {lo hi:Option (Int×Tok)} {Q:Value→Shared→Prop} (hl:l.length≤nu)
  (k:∀t' tk,Q (.str (sx ((l.drop (eZ (lo.map (·.1)) l.length 0)).take (eZ (hi.map (·.1)) l.length l.length-eZ (lo.map (·.1)) l.length 0))) t') {s with toks:=tk}):
  (sliceMade (sx l) t lo hi none).post Q s:=
 AG hl (qy _ (Nat.zero_le _)) (qy _ (Nat.le_refl _)) (by unfold slicePicked;rw[cy];exact FG _ _ _) k
theorem pE {items:Array Value} {hi:Int} (h0:0≤hi):slicePick items none (some hi) none=(items.toList.take hi.toNat).toArray:=by
 have e:((sliceRange (sliceBounds none (some hi) none items.size).1 (sliceBounds none (some hi) none items.size).2.1 (sliceBounds none (some hi) none items.size).2.2).filterMap (items[·]?))=items.toList.take hi.toNat:=by
  have h1:((1:Int)>0)=True:=by simp
  simp only[sliceBounds,Option.getD_none,h1,if_true,uy]
  have:=qC (p:=0) (q:=iW hi items.size) (n:=items.size) (Nat.zero_le _) (xT ..) items.toList Array.length_toList
  simp only[Array.getElem?_toList]at this
  have e0:((0:Nat):Int)=0:=rfl
  rw[e0]at this
  rw[this]
  have ec:iW hi items.size=min hi.toNat items.size:=by
   unfold iW
   rw[if_neg (Int.not_lt.mpr h0)]
   split
   ·exact(Nat.min_eq_right (Int.le_toNat h0|>.mpr (Int.le_of_lt ‹_›))).symm
   ·exact(Nat.min_eq_left (Int.toNat_le.mpr (Int.not_lt.mp ‹_›))).symm
  rw[ec]
  simp only[List.drop_zero,Nat.sub_zero]
  have hs:items.size=items.toList.length:=by simp
  rw[hs, ←List.take_take,List.take_length]
 unfold slicePick
 rw[e]
end
end Mine
end
section
namespace Mine
open PySem
theorem bV {P:Prop} (h:false=true):P:=Bool.noConfusion h
noncomputable def jB (e:Expr) (k:BoolOp→List Expr→Pos→Bool):Bool:=if h:e.ctorIdx=0 then Expr.BoolOp.elim (motive_1:=fun _=>Bool) e h k else false
theorem uK {P:Expr→Prop} {e:Expr} {k:BoolOp→List Expr→Pos→Bool} (h:jB e k=true) (f:∀op vs p,k op vs p=true→P (.BoolOp op vs p)):P e:=by
 by_cases q:e.ctorIdx=0
 ·exact Expr.BoolOp.elim (motive_1:=fun e=>jB e k=true→P e) e q f h
 ·rw[jB,dif_neg q]at h;exact bV h
noncomputable def nC (e:Expr) (k:Expr→Operator→Expr→Pos→Bool):Bool:=if h:e.ctorIdx=2 then Expr.BinOp.elim (motive_1:=fun _=>Bool) e h k else false
theorem Dz {P:Expr→Prop} {e:Expr} {k:Expr→Operator→Expr→Pos→Bool} (h:nC e k=true) (f:∀l o r p,k l o r p=true→P (.BinOp l o r p)):P e:=by
 by_cases q:e.ctorIdx=2
 ·exact Expr.BinOp.elim (motive_1:=fun e=>nC e k=true→P e) e q f h
 ·rw[nC,dif_neg q]at h;exact bV h
noncomputable def hU (e:Expr) (k:UnaryOp→Expr→Pos→Bool):Bool:=if h:e.ctorIdx=3 then Expr.UnaryOp.elim (motive_1:=fun _=>Bool) e h k else false
theorem qF {P:Expr→Prop} {e:Expr} {k:UnaryOp→Expr→Pos→Bool} (h:hU e k=true) (f:∀o x p,k o x p=true→P (.UnaryOp o x p)):P e:=by
 by_cases q:e.ctorIdx=3
 ·exact Expr.UnaryOp.elim (motive_1:=fun e=>hU e k=true→P e) e q f h
 ·rw[hU,dif_neg q]at h;exact bV h
noncomputable def nK (e:Expr) (k:Expr→Expr→Expr→Pos→Bool):Bool:=if h:e.ctorIdx=5 then Expr.IfExp.elim (motive_1:=fun _=>Bool) e h k else false
theorem DD {P:Expr→Prop} {e:Expr} {k:Expr→Expr→Expr→Pos→Bool} (h:nK e k=true) (f:∀t x y p,k t x y p=true→P (.IfExp t x y p)):P e:=by
 by_cases q:e.ctorIdx=5
 ·exact Expr.IfExp.elim (motive_1:=fun e=>nK e k=true→P e) e q f h
 ·rw[nK,dif_neg q]at h;exact bV h
noncomputable def sp (e:Expr) (k:List (Option Expr)→List Expr→Pos→Bool):Bool:=if h:e.ctorIdx=6 then Expr.Dict.elim (motive_1:=fun _=>Bool) e h k else false
theorem F6 {P:Expr→Prop} {e:Expr} {k:List (Option Expr)→List Expr→Pos→Bool} (h:sp e k=true) (f:∀ks vs p,k ks vs p=true→P (.Dict ks vs p)):P e:=by
 by_cases q:e.ctorIdx=6
 ·exact Expr.Dict.elim (motive_1:=fun e=>sp e k=true→P e) e q f h
 ·rw[sp,dif_neg q]at h;exact bV h
noncomputable def iP (e:Expr) (k:Expr→List Comprehension→Scope→Pos→Bool):Bool:=if h:e.ctorIdx=8 then Expr.ListComp.elim (motive_1:=fun _=>Bool) e h k else false
theorem vF {P:Expr→Prop} {e:Expr} {k:Expr→List Comprehension→Scope→Pos→Bool} (h:iP e k=true) (f:∀x gs sc p,k x gs sc p=true→P (.ListComp x gs sc p)):P e:=by
 by_cases q:e.ctorIdx=8
 ·exact Expr.ListComp.elim (motive_1:=fun e=>iP e k=true→P e) e q f h
 ·rw[iP,dif_neg q]at h;exact bV h
noncomputable def ir (e:Expr) (k:Expr→List CmpOp→List Expr→Pos→Bool):Bool:=if h:e.ctorIdx=15 then Expr.Compare.elim (motive_1:=fun _=>Bool) e h k else false
theorem qr {P:Expr→Prop} {e:Expr} {k:Expr→List CmpOp→List Expr→Pos→Bool} (h:ir e k=true) (f:∀l os rs p,k l os rs p=true→P (.Compare l os rs p)):P e:=by
 by_cases q:e.ctorIdx=15
 ·exact Expr.Compare.elim (motive_1:=fun e=>ir e k=true→P e) e q f h
 ·rw[ir,dif_neg q]at h;exact bV h
noncomputable def dw (e:Expr) (k:Expr→List Expr→List Keyword→Pos→Bool):Bool:=if h:e.ctorIdx=16 then Expr.Call.elim (motive_1:=fun _=>Bool) e h k else false
theorem jK {P:Expr→Prop} {e:Expr} {k:Expr→List Expr→List Keyword→Pos→Bool} (h:dw e k=true) (f:∀f vs kw p,k f vs kw p=true→P (.Call f vs kw p)):P e:=by
 by_cases q:e.ctorIdx=16
 ·exact Expr.Call.elim (motive_1:=fun e=>dw e k=true→P e) e q f h
 ·rw[dw,dif_neg q]at h;exact bV h
noncomputable def bR (e:Expr) (k:Const→Nat→Pos→Bool):Bool:=if h:e.ctorIdx=19 then Expr.Constant.elim (motive_1:=fun _=>Bool) e h k else false
theorem cB {P:Expr→Prop} {e:Expr} {k:Const→Nat→Pos→Bool} (h:bR e k=true) (f:∀c kn p,k c kn p=true→P (.Constant c kn p)):P e:=by
 by_cases q:e.ctorIdx=19
 ·exact Expr.Constant.elim (motive_1:=fun e=>bR e k=true→P e) e q f h
 ·rw[bR,dif_neg q]at h;exact bV h
noncomputable def bY (e:Expr) (k:Expr→Str→Pos→Bool):Bool:=if h:e.ctorIdx=20 then Expr.Attribute.elim (motive_1:=fun _=>Bool) e h k else false
theorem ei {P:Expr→Prop} {e:Expr} {k:Expr→Str→Pos→Bool} (h:bY e k=true) (f:∀o n p,k o n p=true→P (.Attribute o n p)):P e:=by
 by_cases q:e.ctorIdx=20
 ·exact Expr.Attribute.elim (motive_1:=fun e=>bY e k=true→P e) e q f h
 ·rw[bY,dif_neg q]at h;exact bV h
noncomputable def cv (e:Expr) (k:Expr→Expr→Pos→Bool):Bool:=if h:e.ctorIdx=21 then Expr.Subscript.elim (motive_1:=fun _=>Bool) e h k else false
theorem c8 {P:Expr→Prop} {e:Expr} {k:Expr→Expr→Pos→Bool} (h:cv e k=true) (f:∀x y p,k x y p=true→P (.Subscript x y p)):P e:=by
 by_cases q:e.ctorIdx=21
 ·exact Expr.Subscript.elim (motive_1:=fun e=>cv e k=true→P e) e q f h
 ·rw[cv,dif_neg q]at h;exact bV h
noncomputable def b9 (e:Expr) (k:Str→Pos→Bool):Bool:=if h:e.ctorIdx=23 then Expr.Name.elim (motive_1:=fun _=>Bool) e h k else false
theorem cM {P:Expr→Prop} {e:Expr} {k:Str→Pos→Bool} (h:b9 e k=true) (f:∀n p,k n p=true→P (.Name n p)):P e:=by
 by_cases q:e.ctorIdx=23
 ·exact Expr.Name.elim (motive_1:=fun e=>b9 e k=true→P e) e q f h
 ·rw[b9,dif_neg q]at h;exact bV h
noncomputable def oB (e:Expr) (k:List Expr→Pos→Bool):Bool:=if h:e.ctorIdx=24 then Expr.List.elim (motive_1:=fun _=>Bool) e h k else false
theorem vx {P:Expr→Prop} {e:Expr} {k:List Expr→Pos→Bool} (h:oB e k=true) (f:∀vs p,k vs p=true→P (.List vs p)):P e:=by
 by_cases q:e.ctorIdx=24
 ·exact Expr.List.elim (motive_1:=fun e=>oB e k=true→P e) e q f h
 ·rw[oB,dif_neg q]at h;exact bV h
noncomputable def gU (e:Expr) (k:List Expr→Nat→Pos→Bool):Bool:=if h:e.ctorIdx=25 then Expr.Tuple.elim (motive_1:=fun _=>Bool) e h k else false
theorem lO {P:Expr→Prop} {e:Expr} {k:List Expr→Nat→Pos→Bool} (h:gU e k=true) (f:∀vs kn p,k vs kn p=true→P (.Tuple vs kn p)):P e:=by
 by_cases q:e.ctorIdx=25
 ·exact Expr.Tuple.elim (motive_1:=fun e=>gU e k=true→P e) e q f h
 ·rw[gU,dif_neg q]at h;exact bV h
noncomputable def jN (e:Expr) (k:Option Expr→Option Expr→Option Expr→Pos→Bool):Bool:=if h:e.ctorIdx=26 then Expr.Slice.elim (motive_1:=fun _=>Bool) e h k else false
theorem sF {P:Expr→Prop} {e:Expr} {k:Option Expr→Option Expr→Option Expr→Pos→Bool} (h:jN e k=true) (f:∀l u t p,k l u t p=true→P (.Slice l u t p)):P e:=by
 by_cases q:e.ctorIdx=26
 ·exact Expr.Slice.elim (motive_1:=fun e=>jN e k=true→P e) e q f h
 ·rw[jN,dif_neg q]at h;exact bV h
noncomputable def gj (e:Stmt) (k:Option Expr→Pos→Bool):Bool:=if h:e.ctorIdx=3 then Stmt.Return.elim (motive_2:=fun _=>Bool) e h k else false
theorem mu {P:Stmt→Prop} {e:Stmt} {k:Option Expr→Pos→Bool} (h:gj e k=true) (f:∀v p,k v p=true→P (.Return v p)):P e:=by
 by_cases q:e.ctorIdx=3
 ·exact Stmt.Return.elim (motive_2:=fun e=>gj e k=true→P e) e q f h
 ·rw[gj,dif_neg q]at h;exact bV h
noncomputable def eQ (e:Stmt) (k:List Expr→Expr→Pos→Bool):Bool:=if h:e.ctorIdx=5 then Stmt.Assign.elim (motive_2:=fun _=>Bool) e h k else false
theorem j6 {P:Stmt→Prop} {e:Stmt} {k:List Expr→Expr→Pos→Bool} (h:eQ e k=true) (f:∀ts v p,k ts v p=true→P (.Assign ts v p)):P e:=by
 by_cases q:e.ctorIdx=5
 ·exact Stmt.Assign.elim (motive_2:=fun e=>eQ e k=true→P e) e q f h
 ·rw[eQ,dif_neg q]at h;exact bV h
noncomputable def eG (e:Stmt) (k:Expr→Operator→Expr→Pos→Bool):Bool:=if h:e.ctorIdx=7 then Stmt.AugAssign.elim (motive_2:=fun _=>Bool) e h k else false
theorem l7 {P:Stmt→Prop} {e:Stmt} {k:Expr→Operator→Expr→Pos→Bool} (h:eG e k=true) (f:∀t o v p,k t o v p=true→P (.AugAssign t o v p)):P e:=by
 by_cases q:e.ctorIdx=7
 ·exact Stmt.AugAssign.elim (motive_2:=fun e=>eG e k=true→P e) e q f h
 ·rw[eG,dif_neg q]at h;exact bV h
noncomputable def nY (e:Stmt) (k:Expr→Expr→List Stmt→List Stmt→Pos→Bool):Bool:=if h:e.ctorIdx=9 then Stmt.For.elim (motive_2:=fun _=>Bool) e h k else false
theorem Ca {P:Stmt→Prop} {e:Stmt} {k:Expr→Expr→List Stmt→List Stmt→Pos→Bool} (h:nY e k=true) (f:∀t i b o p,k t i b o p=true→P (.For t i b o p)):P e:=by
 by_cases q:e.ctorIdx=9
 ·exact Stmt.For.elim (motive_2:=fun e=>nY e k=true→P e) e q f h
 ·rw[nY,dif_neg q]at h;exact bV h
noncomputable def lj (e:Stmt) (k:Expr→List Stmt→List Stmt→Pos→Bool):Bool:=if h:e.ctorIdx=11 then Stmt.While.elim (motive_2:=fun _=>Bool) e h k else false
theorem AS {P:Stmt→Prop} {e:Stmt} {k:Expr→List Stmt→List Stmt→Pos→Bool} (h:lj e k=true) (f:∀t b o p,k t b o p=true→P (.While t b o p)):P e:=by
 by_cases q:e.ctorIdx=11
 ·exact Stmt.While.elim (motive_2:=fun e=>lj e k=true→P e) e q f h
 ·rw[lj,dif_neg q]at h;exact bV h
noncomputable def xk (e:Stmt) (k:Expr→List Stmt→List Stmt→Pos→Bool):Bool:=if h:e.ctorIdx=12 then Stmt.If.elim (motive_2:=fun _=>Bool) e h k else false
theorem HR {P:Stmt→Prop} {e:Stmt} {k:Expr→List Stmt→List Stmt→Pos→Bool} (h:xk e k=true) (f:∀t b o p,k t b o p=true→P (.If t b o p)):P e:=by
 by_cases q:e.ctorIdx=12
 ·exact Stmt.If.elim (motive_2:=fun e=>xk e k=true→P e) e q f h
 ·rw[xk,dif_neg q]at h;exact bV h
noncomputable def mj (e:Stmt) (k:Option Expr→Option Expr→Pos→Bool):Bool:=if h:e.ctorIdx=16 then Stmt.Raise.elim (motive_2:=fun _=>Bool) e h k else false
theorem zW {P:Stmt→Prop} {e:Stmt} {k:Option Expr→Option Expr→Pos→Bool} (h:mj e k=true) (f:∀x c p,k x c p=true→P (.Raise x c p)):P e:=by
 by_cases q:e.ctorIdx=16
 ·exact Stmt.Raise.elim (motive_2:=fun e=>mj e k=true→P e) e q f h
 ·rw[mj,dif_neg q]at h;exact bV h
noncomputable def sH (e:Stmt) (k:List Stmt→List ExceptHandler→List Stmt→List Stmt→Pos→Bool):Bool:=if h:e.ctorIdx=17 then Stmt.Try.elim (motive_2:=fun _=>Bool) e h k else false
theorem F9 {P:Stmt→Prop} {e:Stmt} {k:List Stmt→List ExceptHandler→List Stmt→List Stmt→Pos→Bool} (h:sH e k=true) (f:∀b hs o f p,k b hs o f p=true→P (.Try b hs o f p)):P e:=by
 by_cases q:e.ctorIdx=17
 ·exact Stmt.Try.elim (motive_2:=fun e=>sH e k=true→P e) e q f h
 ·rw[sH,dif_neg q]at h;exact bV h
noncomputable def lP (e:Stmt) (k:Expr→Pos→Bool):Bool:=if h:e.ctorIdx=24 then Stmt.Expr.elim (motive_2:=fun _=>Bool) e h k else false
theorem xX {P:Stmt→Prop} {e:Stmt} {k:Expr→Pos→Bool} (h:lP e k=true) (f:∀v p,k v p=true→P (.Expr v p)):P e:=by
 by_cases q:e.ctorIdx=24
 ·exact Stmt.Expr.elim (motive_2:=fun e=>lP e k=true→P e) e q f h
 ·rw[lP,dif_neg q]at h;exact bV h
noncomputable def lM (e:Stmt) (k:Pos→Bool):Bool:=if h:e.ctorIdx=26 then Stmt.Break.elim (motive_2:=fun _=>Bool) e h k else false
theorem zP {P:Stmt→Prop} {e:Stmt} {k:Pos→Bool} (h:lM e k=true) (f:∀p,k p=true→P (.Break p)):P e:=by
 by_cases q:e.ctorIdx=26
 ·exact Stmt.Break.elim (motive_2:=fun e=>lM e k=true→P e) e q f h
 ·rw[lM,dif_neg q]at h;exact bV h
variable {α:Type}
noncomputable def ck:List α→Bool
 |[]=>true
 |_=>false
theorem cI {P:List α→Prop} {l:List α} (h:ck l=true) (f:P []):P l:=by
 cases l with
 |nil=>exact f
 |cons a l=>exact bV h
noncomputable def dM (l:List α) (k:α→List α→Bool):Bool:=match l with
 |a::l=>k a l
 |[]=>false
theorem cV {P:List α→Prop} {l:List α} {k:α→List α→Bool} (h:dM l k=true) (f:∀a l,k a l=true→P (a::l)):P l:=by
 cases l with
 |nil=>exact bV h
 |cons a l=>exact f a l h
noncomputable def dA (l:List α) (k:α→Bool):Bool:=dM l fun a l=>ck l&&k a
theorem af {P:Prop} {a b:Bool} (h:(a&&b)=true) (f:a=true→b=true→P):P:=by
 cases a with
 |true=>exact f rfl h
 |false=>exact bV h
theorem f9 {P:List α→Prop} {l:List α} {k:α→Bool} (h:dA l k=true) (f:∀a,k a=true→P [a]):P l:=
 cV h fun a _ h=>af h fun h1 h2=>cI (P:=fun l=>P (a::l)) h1 (f a h2)
noncomputable def pU (l:List α) (k:α→α→Bool):Bool:=dM l fun a l=>dA l fun b=>k a b
theorem qk {P:List α→Prop} {l:List α} {k:α→α→Bool} (h:pU l k=true) (f:∀a b,k a b=true→P [a,b]):P l:=
 cV h fun a l h=>f9 (P:=fun l=>P (a::l)) h fun b h=>f a b h
noncomputable def isSome (o:Option α) (k:α→Bool):Bool:=match o with
 |some a=>k a
 |none=>false
theorem fS {P:Option α→Prop} {o:Option α} {k:α→Bool} (h:isSome o k=true) (f:∀a,k a=true→P (some a)):P o:=by
 cases o with
 |none=>exact bV h
 |some a=>exact f a h
noncomputable def isNone:Option α→Bool
 |none=>true
 |some _=>false
theorem mt {P:Option α→Prop} {o:Option α} (h:isNone o=true) (f:P none):P o:=by
 cases o with
 |none=>exact f
 |some a=>exact bV h
theorem cU [BEq α] [LawfulBEq α] {P:α→Prop} {a b:α} {c:Bool} (h:(a==b&&c)=true) (f:c=true→P b):P a:=
 af h fun h1 h2=>eq_of_beq h1▸f h2
end Mine
end
section
namespace Mine
open PySem
noncomputable def ju:Fn→Str
 | .digit=>"digit"| .hexSign=>"hex_sign"| .octalSign=>"octal_sign"| .backslash=>"backslash"| .isGap=>"is_gap"| .skipGaps=>"skip_gaps"| .commentBehind=>"comment_behind"
 | .skipToCommand=>"skip_to_command"| .readName=>"read_name"| .variable=>"variable"| .brackets=>"brackets"| .braces=>"braces"| .partsUntil=>"parts_until"| .bareStops=>"bare_stops"
 | .isExpanded=>"is_expanded"| .word=>"word"| .commandAt=>"command_at"| .commandsOf=>"commands_of"| .plainOf=>"plain_of"
 | .lPieces=>"_law_pieces"| .lScripts=>"_law_scripts"| .lFaulty=>"_law_faulty"| .lChanged=>"_law_changed"| .lScript=>"_law_script"| .lOpen=>"_law_open"| .lAdd=>"_law_add"| .lBent=>"_law_bent"
 | .lName=>"_law_name"| .lCloseWord=>"_law_close_word"| .lCloseCommand=>"_law_close_command"| .lInScript=>"_law_in_script"| .lInBraces=>"_law_in_braces"| .lInName=>"_law_in_name"
 | .lDollar=>"_law_dollar"| .lInParts=>"_law_in_parts"| .lEnd=>"_law_end"| .lRead=>"_law_read"| .lAll=>"_law_all"| .lOneByOne=>"_law_one_by_one"| .lPlain=>"_law_plain"| .lRight=>"_law_right"
noncomputable def ot (sc:Scope) (i:Nat) (id:Str):Bool:=(match sc.names[i]? with
 |some (n,k)=>n==id&&(k== .local||k== .cell||k== .free)
 |none=>false)&& !(id==("__debug__":Str))&& !(id==("__classdict__":Str))
noncomputable def bN (sc:Scope) (i:Nat) (id:Str):Bool:=(match sc.names[i]? with
 |some (n,k)=>n==id&&k== .local
 |none=>false)&& !(id==("__debug__":Str))
noncomputable def cp (sc:Scope) (id:Str):Bool:=(sc.names.lookup id==some .globalImplicit)&& !(id==("__debug__":Str))
noncomputable def cz (e:Expr):Bool:=e.ctorIdx != 16
noncomputable def dn (p q:Pos):Bool:=p.endLine==q.line
noncomputable def eY (sc csc:Scope):Scope:={csc with names:=csc.names.map fun(n,k)=>if k== .free&&sc.kind== .function&&sc.names.lookup n==some .cell then(n,.cell)else(n,k)}
noncomputable def lx (sc:Scope):List Nat→List (Str×NameKind)→Bool
 |[],ns=>ns.all fun x=>x.2== .globalImplicit
 |i::is,(n,k)::ns=>k== .free&&sc.names[i]? ==some (n,.cell)&&lx sc is ns
 |_,_=>false
noncomputable def tz (csc:Scope) (v:Str):Bool:=dM csc.names fun a l=>dM l fun b _=>a==((".0":Str),NameKind.local)&&(b==(v,NameKind.local)&&true)
noncomputable def B2:List Ch→List (Option Expr)→Bool
 |[],ns=>ck ns
 |k::ks,ns=>dM ns fun n ns=>isSome n fun x=>bR x fun c _ _=>c== .str (sx k)&&B2 ks ns
mutual
noncomputable def bw (sc:Scope):E→Expr→Bool
 | .none,e=>bR e fun c _ _=>c== .none&&true
 | .bool b,e=>bR e fun c _ _=>c== .bool b&&true
 | .int i,e=>bR e fun c _ _=>c== .int i&&true
 | .negc i,e=>hU e fun o x _=>o== .USub&&bR x fun c _ _=>c== .int i&&true
 | .str l,e=>bR e fun c _ _=>c== .str (sx l)&&true
 | .loc i,e=>b9 e fun id _=>ot sc i id
 | .bin op a b,e=>nC e fun l o r _=>o==oJ op&&(bw sc a l&&bw sc b r)
 | .not a,e=>hU e fun o x _=>o== .Not&&bw sc a x
 | .cmp op a b,e=>ir e fun l os rs _=>dA os fun o=>dA rs fun r=>o==iz op&&(!behindInMarks (iz op) r&&(bw sc a l&&bw sc b r))
 | .cmp2 o1 o2 a b c,e=>ir e fun l os rs _=>pU os fun p1 p2=>pU rs fun r1 r2=>p1==iz o1&&(p2==iz o2&&(!lastMarks [iz o1,iz o2] [r1,r2]&&(bw sc a l&&(bw sc b r1&&bw sc c r2))))
 | .and es,e=>jB e fun o vs _=>o== .And&&iw sc es vs
 | .or es,e=>jB e fun o vs _=>o== .Or&&iw sc es vs
 | .ite c a b,e=>nK e fun t x y _=>bw sc c t&&(bw sc a x&&bw sc b y)
 | .idx a b,e=>cv e fun x y _=>gG y&&(bw sc a x&&bw sc b y)
 | .slc a lo hi,e=>cv e fun x y _=>jN y fun p q t _=>isNone t&&isSome p fun p=>isSome q fun q=>bw sc a x&&(bw sc lo p&&bw sc hi q)
 | .slf a lo,e=>cv e fun x y _=>jN y fun p q t _=>isNone t&&(isNone q&&isSome p fun p=>bw sc a x&&bw sc lo p)
 | .slt a hi,e=>cv e fun x y _=>jN y fun p q t _=>isNone t&&(isNone p&&isSome q fun q=>bw sc a x&&bw sc hi q)
 | .tup es,e=>gU e fun vs _ _=>decide (vs.length<1000)&&iw sc es vs
 | .lst es,e=>oB e fun vs _=>decide (vs.length<1000)&&iw sc es vs
 | .dct ks es,e=>sp e fun ns vs _=> !ks.isEmpty&&(decide (ns.length≤15)&&(B2 ks ns&&(decide (ks.length=vs.length)&&(decide ks.Nodup&&iw sc es vs))))
 | .call f es,e=>dw e fun fn vs kw _=>ck kw&&b9 fn fun id _=>id==ju f&&(cp sc (ju f)&&iw sc es vs)
 | .len a,e=>dw e fun fn vs kw _=>ck kw&&dA vs fun x=>b9 fn fun id _=>id==("len":Str)&&(cp sc ("len":Str)&&bw sc a x)
 | .ord a,e=>dw e fun fn vs kw _=>ck kw&&dA vs fun x=>b9 fn fun id _=>id==("ord":Str)&&(cp sc ("ord":Str)&&bw sc a x)
 | .chr a,e=>dw e fun fn vs kw _=>ck kw&&dA vs fun x=>b9 fn fun id _=>id==("chr":Str)&&(cp sc ("chr":Str)&&bw sc a x)
 | .tuple a,e=>dw e fun fn vs kw _=>ck kw&&dA vs fun x=>b9 fn fun id _=>id==("tuple":Str)&&(cp sc ("tuple":Str)&&bw sc a x)
 | .find1 a b,e=>dw e fun fn vs kw p=>ck kw&&dA vs fun x=>bY fn fun o n ap=>n==("find":Str)&&(cz o&&(dn ap p&&(bw sc a o&&bw sc b x)))
 | .find2 a b c,e=>dw e fun fn vs kw p=>ck kw&&pU vs fun x y=>bY fn fun o n ap=>n==("find":Str)&&(cz o&&(dn ap p&&(bw sc a o&&(bw sc b x&&bw sc c y))))
 | .join a b,e=>dw e fun fn vs kw p=>ck kw&&dA vs fun x=>bY fn fun o n ap=>n==("join":Str)&&(cz o&&(dn ap p&&(bw sc a o&&bw sc b x)))
 | .append a b,e=>dw e fun fn vs kw p=>ck kw&&dA vs fun x=>bY fn fun o n ap=>n==("append":Str)&&(cz o&&(dn ap p&&(bw sc a o&&bw sc b x)))
 | .pop a,e=>dw e fun fn vs kw p=>ck kw&&(ck vs&&bY fn fun o n ap=>n==("pop":Str)&&(cz o&&(dn ap p&&bw sc a o)))
 | .comp elt it frees,e=>iP e fun x gs csc _=>dA gs fun g=>ck g.ifs&&(decide (g.is_async=0)&&b9 g.target fun v _=>tz csc v&&(lx sc frees (csc.names.drop 2)&&(decide (csc.names.map (·.1)).Nodup&&(csc.kind== .function&&(decide (frees.length≤1)&&(bw sc it g.iter&&bw (eY sc csc) elt x))))))
noncomputable def iw (sc:Scope):Es→List Expr→Bool
 | .nil,es=>ck es
 | .cons e es,l=>dM l fun x xs=>bw sc e x&&iw sc es xs
end
noncomputable def wY (e:Expr):Bool:=e.ctorIdx != 22
theorem na {sc:Scope} {e:E} {x:Expr} (h:bw sc e x=true):wY x=true:=by
 cases x<;>first|rfl|(cases e<;>exact Bool.noConfusion (show false=true from h))
theorem oQ {x:Expr} {xs:List Expr} {env:Env} (h:wY x=true):starEach (x::xs) env=(false,eval x env)::starEach xs env:=by
 cases x<;>first|rfl|exact Bool.noConfusion (show false=true from h)
theorem iA {sc:Scope} {es:Es}:∀{xs:List Expr},iw sc es xs=true→∀(env:Env) (pos:Pos),backTo pos (starEach xs env)=xs.map fun x=>(false,eval x env):=by
 intro xs h env pos
 induction xs generalizing es with
 |nil=>rfl
 |cons x xs ih=>
  cases es with
  |nil=>exact bV h
  |cons e es=>
   refine af (a:=bw sc e x) (b:=iw sc es xs) h fun h1 h=>?_
   have h2:=ih h
   unfold backTo at h2⊢
   rw[oQ (na h1),List.map_cons,List.map_cons,h2]
   rfl
noncomputable def bG {α:Type} (m:R α) (Q:α→St→Prop) (X:Ch→St→Prop):Prop:=match m with
 |none=>False
 |some (.ok a,σ)=>Q a σ
 |some (.error e,σ)=>X e σ
theorem az {α β:Type} {m:R α} {f:α→St→R β} {Q:β→St→Prop} {X:Ch→St→Prop} (h:bG (cW m f) Q X):bG m (fun a σ=>bG (f a σ) Q X) X:=by
 unfold cW at h
 cases m with
 |none=>exact h
 |some r=>
  obtain⟨r,σ⟩:=r
  cases r<;>exact h
theorem bG.mono {α:Type} {m:R α} {Q Q':α→St→Prop} {X X':Ch→St→Prop} (h:bG m Q X) (hq:∀a σ,Q a σ→Q' a σ) (hx:∀e σ,X e σ→X' e σ):bG m Q' X':=by
 cases m with
 |none=>exact h
 |some r=>
  obtain⟨r,σ⟩:=r
  cases r
  ·exact hx _ _ h
  ·exact hq _ _ h
section
variable {ae:Program} {w:World} {ac:Heap} {A:Around} {env:Env} {l:List Env} {Φ:ci} {X:List Addr→Heap→Value→Ch→Prop}
noncomputable def KV (ae:Program) (w:World) (ac:Heap) (env:Env) (l:List Env) (ids:List Addr) (s:Shared) (Q:Value→Shared→Prop) (v:V) (σ':St):Prop:=
 ∀val ids' h' tk,bx (frs l) ids s.heap ids' h'→c6 ae w ac env l ids' σ' h'→bL h' ids' val v→Q val {s with heap:=h',toks:=tk}
noncomputable def KX (ae:Program) (w:World) (ac:Heap) (env:Env) (l:List Env) (X:List Addr→Heap→Value→Ch→Prop) (ids:List Addr) (s:Shared) (E:Value→Shared→Prop) (m:Ch) (σ':St):Prop:=
 ∀x ids' h' tk,bx (frs l) ids s.heap ids' h'→c6 ae w ac env l ids' σ' h'→X ids' h' x m→E x {s with heap:=h',toks:=tk}
theorem KV.later {ids ids':List Addr} {s:Shared} {Q:Value→Shared→Prop} {v:V} {σ':St} {h':Heap} {tk:Nat} (k:KV ae w ac env l ids s Q v σ') (st:bx (frs l) ids s.heap ids' h'):KV ae w ac env l ids' {s with heap:=h',toks:=tk} Q v σ':=
 fun val i' h'' tk' a b c=>k val i' h'' tk' (st.trans a) b c
theorem KX.later {ids ids':List Addr} {s:Shared} {E:Value→Shared→Prop} {m:Ch} {σ':St} {h':Heap} {tk:Nat} (k:KX ae w ac env l X ids s E m σ') (st:bx (frs l) ids s.heap ids' h'):KX ae w ac env l X ids' {s with heap:=h',toks:=tk} E m σ':=
 fun x i' h'' tk' a b c=>k x i' h'' tk' (st.trans a) b c
structure gb (ac:Heap) (A:Around) (env:Env) (mg mb:Str→Option Value) (fa:Fn→Addr):Prop where
 hd:A.handled=none
 kind:env.scope.kind=.function
 nodup:(env.scope.names.map (·.1)).Nodup
 low:ac.get? env.locals=none
 glob:env.globals=mainGlobals
 blt:env.builtins=builtinsNs
 g:ac.Ns mainGlobals mg
 b:ac.Ns builtinsNs mb
 fnm:∀f,mg (ju f)=some (.ref (fa f))
 fob:∀f,∃o fd,ac.get? (fa f)=some o∧o.data=.func fd
 bl:mg "len"=none∧mg "ord"=none∧mg "chr"=none∧mg "tuple"=none
 bm:mb "len"=some (.builtin "len")∧mb "ord"=some (.builtin "ord")∧mb "chr"=some (.builtin "chr")∧mb "tuple"=some (.type "tuple")
 nolimit:ac.NoLimit
 units:A.units+ji+10<cLine
noncomputable def aY (ae:Program) (w:World) (ac:Heap) (A:Around) (env:Env) (l:List Env) (Φ:ci) (X:List Addr→Heap→Value→Ch→Prop) (e:E) (pe:Expr):Prop:=
 ∀σ ids s Q Ev,c6 ae w ac env l ids σ s.heap→bG (eE Φ e σ) (KV ae w ac env l ids s Q) (KX ae w ac env l X ids s Ev)→wpAny (model ae w) A (eval pe env) Q Ev s
noncomputable def Jy (ae:Program) (w:World) (ac:Heap) (env:Env) (l:List Env) (ids:List Addr) (s:Shared) (Q:List Value→Shared→Prop) (vs:List V) (σ':St):Prop:=
 ∀vals ids' h' tk,bx (frs l) ids s.heap ids' h'→c6 ae w ac env l ids' σ' h'→bo h' ids' vals vs→Q vals {s with heap:=h',toks:=tk}
noncomputable def n7 (ae:Program) (w:World) (ac:Heap) (A:Around) (env:Env) (l:List Env) (Φ:ci) (X:List Addr→Heap→Value→Ch→Prop) (es:Es) (pes:List Expr):Prop:=
 ∀σ ids s Q Ev,c6 ae w ac env l ids σ s.heap→bG (B0 Φ es σ) (Jy ae w ac env l ids s Q) (KX ae w ac env l X ids s Ev)→wpAny (model ae w) A (spliced (pes.map fun x=>(false,eval x env))) Q Ev s
noncomputable def uS (m:Option (Except Ch V×List O)) (Q:V→List O→Prop) (X:Ch→List O→Prop):Prop:=match m with
 |none=>False
 |some (.ok a,H)=>Q a H
 |some (.error e,H)=>X e H
noncomputable def dO (ae:Program) (w:World) (ac:Heap) (A:Around) (l:List Env) (fa:Fn→Addr) (Φ:ci) (X:List Addr→Heap→Value→Ch→Prop):Prop:=
 ∀f vs vals s ids H Q Ev,cQ ae w ac ids H s.heap→j9 ac ids s.heap l→bo s.heap ids vals vs→
  uS (Φ f vs H) (fun v H'=>∀val ids' h' tk,bx (frs l) ids s.heap ids' h'→cQ ae w ac ids' H' h'→j9 ac ids' h' l→bL h' ids' val v→Q val {s with heap:=h',toks:=tk})
   (fun m H'=>∀x ids' h' tk,bx (frs l) ids s.heap ids' h'→cQ ae w ac ids' H' h'→j9 ac ids' h' l→X ids' h' x m→Ev x {s with heap:=h',toks:=tk})→
  wpAny (model ae w) A (call (.ref (fa f)) vals) Q Ev s
end
section
variable {β:Type} {Qs:β→St→Prop} {Xs:Ch→St→Prop} {h:Heap} {ids ids':List Addr} {a a' a'':Value} {x x' x'':V}
theorem dp {c:Prop} [Decidable c] {m:R β} {G:Prop} (hs:bG (if c then m else Option.none) Qs Xs) (f:c→bG m Qs Xs→G):G:=by
 by_cases hc:c
 ·rw[if_pos hc]at hs;exact f hc hs
 ·rw[if_neg hc]at hs;exact hs.elim
theorem uE {o:Option (List V)} {k:List V→R β} {G:Prop} (hs:bG (match(generalizing:=false) o with|some b=>k b|Option.none=>Option.none) Qs Xs) (f:∀b,o=some b→bG (k b) Qs Xs→G):G:=by
 cases o with
 |none=>exact hs.elim
 |some b=>exact f b rfl hs
theorem Ho {o:Option (List Ch)} {k:List Ch→R β} {G:Prop} (hs:bG (match(generalizing:=false) o with|some b=>k b|Option.none=>Option.none) Qs Xs) (f:∀b,o=some b→bG (k b) Qs Xs→G):G:=by
 cases o with
 |none=>exact hs.elim
 |some b=>exact f b rfl hs
theorem Eo {o:Option V} {k:V→R β} {G:Prop} (hs:bG (match(generalizing:=false) o with|some b=>k b|Option.none=>Option.none) Qs Xs) (f:∀b,o=some b→bG (k b) Qs Xs→G):G:=by
 cases o with
 |none=>exact hs.elim
 |some b=>exact f b rfl hs
theorem FF {o:Option (List O)} {k:List O→R β} {G:Prop} (hs:bG (match(generalizing:=false) o with|some b=>k b|Option.none=>Option.none) Qs Xs) (f:∀b,o=some b→bG (k b) Qs Xs→G):G:=by
 cases o with
 |none=>exact hs.elim
 |some b=>exact f b rfl hs
theorem A1 {o:Option (Option V)} {k:V→R β} {G:Prop} (hs:bG (match(generalizing:=false) o with|some (some b)=>k b|_=>Option.none) Qs Xs) (f:∀b,o=some (some b)→bG (k b) Qs Xs→G):G:=by
 cases o with
 |none=>exact hs.elim
 |some b=>cases b with
  |none=>exact hs.elim
  |some b=>exact f b rfl hs
@[elab_as_elim] theorem onT {P:Value→V→Prop} {k:List V→R β} (r:bL h ids a x) (hs:bG (match(generalizing:=false) x with| .tup b=>k b|_=>Option.none) Qs Xs) (f:∀b items n vs,h.get? b=some (kW items n)→bo h ids items.toList vs→bG (k vs) Qs Xs→P (.ref b) (.tup vs)):P a x:=by
 cases x with
 |tup vs=>exact repT r fun b items n e rs=>f b items n vs e rs hs
 |_=>exact hs.elim
@[elab_as_elim] theorem onE {P:Value→V→Prop} {m:R β} (r:bL h ids a x) (hs:bG (match(generalizing:=false) x with| .str []=>m|_=>Option.none) Qs Xs) (f:∀t,bG m Qs Xs→P (.str (sx []) t) (.str [])):P a x:=by
 cases x with
 |str b=>cases b with
  |nil=>exact repS r fun t=>f t hs
  |cons _ _=>exact hs.elim
 |_=>exact hs.elim
theorem jO {o:Option β} {σ:St} {G:Prop} (hs:bG (qc o σ) Qs Xs) (f:∀b,o=some b→Qs b σ→G):G:=by
 cases o with
 |none=>exact hs.elim
 |some b=>exact f b rfl hs
@[elab_as_elim] theorem onB {P:Value→V→Prop} {k:Bool→R β} (r:bL h ids a x) (hs:bG (match(generalizing:=false) x with| .bool b=>k b|_=>Option.none) Qs Xs) (f:∀b,bG (k b) Qs Xs→P (.bool b) (.bool b)):P a x:=by
 cases x with
 |bool b=>exact repB r (f b hs)
 |_=>exact hs.elim
@[elab_as_elim] theorem satB {P:V→Prop} {k:Bool→R β} (hs:bG (match(generalizing:=false) x with| .bool b=>k b|_=>Option.none) Qs Xs) (f:∀b,bG (k b) Qs Xs→P (.bool b)):P x:=by
 cases x with
 |bool b=>exact f b hs
 |_=>exact hs.elim
@[elab_as_elim] theorem sat2B {P:V→Prop} {m m':R β} (hs:bG (match(generalizing:=false) x with| .bool true=>m| .bool false=>m'|_=>Option.none) Qs Xs) (f:bG m Qs Xs→P (.bool true)) (f':bG m' Qs Xs→P (.bool false)):P x:=by
 cases x with
 |bool b=>cases b with
  |true=>exact f hs
  |false=>exact f' hs
 |_=>exact hs.elim
@[elab_as_elim] theorem onI {P:Value→V→Prop} {k:Int→R β} (r:bL h ids a x) (hs:bG (match(generalizing:=false) x with| .int b=>k b|_=>Option.none) Qs Xs) (f:∀b t,bG (k b) Qs Xs→P (.int b t) (.int b)):P a x:=by
 cases x with
 |int b=>exact repI r fun t=>f b t hs
 |_=>exact hs.elim
@[elab_as_elim] theorem onS {P:Value→V→Prop} {k:Ch→R β} (r:bL h ids a x) (hs:bG (match(generalizing:=false) x with| .str b=>k b|_=>Option.none) Qs Xs) (f:∀b t,bG (k b) Qs Xs→P (.str (sx b) t) (.str b)):P a x:=by
 cases x with
 |str b=>exact repS r fun t=>f b t hs
 |_=>exact hs.elim
@[elab_as_elim] theorem onC {P:Value→V→Prop} {k:Char→R β} (r:bL h ids a x) (hs:bG (match(generalizing:=false) x with| .str [b]=>k b|_=>Option.none) Qs Xs) (f:∀b t,bG (k b) Qs Xs→P (.str (sx [b]) t) (.str [b])):P a x:=by
 cases x with
 |str b=>cases b with
  |nil=>exact hs.elim
  |cons b l=>cases l with
   |nil=>exact repS r fun t=>f b t hs
   |cons _ _=>exact hs.elim
 |_=>exact hs.elim
@[elab_as_elim] theorem onR {P:Value→V→Prop} {k:Nat→R β} (r:bL h ids a x) (hs:bG (match(generalizing:=false) x with| .ref b=>k b|_=>Option.none) Qs Xs) (f:∀b i,ids[i]? =some b→bG (k i) Qs Xs→P (.ref b) (.ref i)):P a x:=by
 cases x with
 |ref i=>exact repR r fun b e=>f b i e hs
 |_=>exact hs.elim
@[elab_as_elim] theorem sat2B' {P:V→Prop} {m m':R β} (hs:bG (match(generalizing:=false) x with| .bool false=>m'| .bool true=>m|_=>Option.none) Qs Xs) (f:bG m Qs Xs→P (.bool true)) (f':bG m' Qs Xs→P (.bool false)):P x:=by
 cases x with
 |bool b=>cases b with
  |true=>exact f hs
  |false=>exact f' hs
 |_=>exact hs.elim
@[elab_as_elim] theorem onB' {P:Value→V→Prop} {m m':R β} (r:bL h ids a x) (hs:bG (match(generalizing:=false) x with| .bool false=>m'| .bool true=>m|_=>Option.none) Qs Xs) (f:bG m Qs Xs→P (.bool true) (.bool true)) (f':bG m' Qs Xs→P (.bool false) (.bool false)):P a x:=
 sat2B' (P:=fun x=>bL h ids a x→P a x) hs (fun hs r=>repB r (f hs)) (fun hs r=>repB r (f' hs)) r
@[elab_as_elim] theorem onB'' {P:Value→V→Prop} {m m':R β} (r:bL h ids a x) (hs:bG (match(generalizing:=false) x with| .bool true=>m| .bool false=>m'|_=>Option.none) Qs Xs) (f:bG m Qs Xs→P (.bool true) (.bool true)) (f':bG m' Qs Xs→P (.bool false) (.bool false)):P a x:=
 sat2B (P:=fun x=>bL h ids a x→P a x) hs (fun hs r=>repB r (f hs)) (fun hs r=>repB r (f' hs)) r
@[elab_as_elim] theorem satSII {P:V→V→V→Prop} {k:Ch→Int→Int→R β} (hs:bG (match(generalizing:=false) x,x',x'' with| .str t,.int p,.int q=>k t p q|_,_,_=>Option.none) Qs Xs) (f:∀t p q,bG (k t p q) Qs Xs→P (.str t) (.int p) (.int q)):P x x' x'':=by
 cases x with
 |str t=>cases x' with
  |int p=>cases x'' with
   |int q=>exact f t p q hs
   |_=>exact hs.elim
  |_=>exact hs.elim
 |_=>exact hs.elim
@[elab_as_elim] theorem satSI {P:V→V→Prop} {k:Ch→Int→R β} (hs:bG (match(generalizing:=false) x,x' with| .str t,.int p=>k t p|_,_=>Option.none) Qs Xs) (f:∀t p,bG (k t p) Qs Xs→P (.str t) (.int p)):P x x':=by
 cases x with
 |str t=>cases x' with
  |int p=>exact f t p hs
  |_=>exact hs.elim
 |_=>exact hs.elim
@[elab_as_elim] theorem satXI {P:V→V→Prop} {k:Ch→Int→R β} {k':Nat→Int→R β} (hs:bG (match(generalizing:=false) x,x' with| .str t,.int p=>k t p| .ref i,.int p=>k' i p|_,_=>Option.none) Qs Xs) (f:∀t p,bG (k t p) Qs Xs→P (.str t) (.int p)) (f':∀t p,bG (k' t p) Qs Xs→P (.ref t) (.int p)):P x x':=by
 cases x with
 |str t=>cases x' with
  |int p=>exact f t p hs
  |_=>exact hs.elim
 |ref t=>cases x' with
  |int p=>exact f' t p hs
  |_=>exact hs.elim
 |_=>exact hs.elim
@[elab_as_elim] theorem satCI {P:V→V→Prop} {k:Char→Int→R β} (hs:bG (match(generalizing:=false) x,x' with| .str [t],.int p=>k t p|_,_=>Option.none) Qs Xs) (f:∀t p,bG (k t p) Qs Xs→P (.str [t]) (.int p)):P x x':=by
 cases x with
 |str t=>cases t with
  |nil=>cases x'<;>exact hs.elim
  |cons c t=>cases t with
   |nil=>cases x' with
    |int p=>exact f c p hs
    |_=>exact hs.elim
   |cons d t=>cases x'<;>exact hs.elim
 |_=>exact hs.elim
end
end Mine
end
section
namespace Mine
open PySem PyProof.Rows
theorem cT {α β:Type} {m:R α} {f:α→St→R β} {Q:β→St→Prop} {X:Ch→St→Prop} (h:bG m (fun a σ=>bG (f a σ) Q X) X):bG (cW m f) Q X:=by
 unfold cW
 cases m with
 |none=>exact h
 |some r=>
  obtain⟨r,σ⟩:=r
  cases r<;>exact h
theorem gb.u1 {ac:Heap} {A:Around} {env:Env} {mg mb:Str→Option Value} {fa:Fn→Addr} (C:gb ac A env mg mb fa):A.units+ji+1<cLine:=by have:=C.units;omega
section
variable {ae:Program} {w:World} {ac:Heap} {A:Around} {env:Env} {l:List Env} {Φ:ci} {X:List Addr→Heap→Value→Ch→Prop} {mg mb:Str→Option Value} {fa:Fn→Addr}
theorem cb (h:Heap):h.get? h.objs.size=none:=Heap.get?_none_of_le (Nat.le_refl _)
theorem KV.here {ids:List Addr} {s:Shared} {Q:Value→Shared→Prop} {v:V} {σ:St} {val:Value} (k:KV ae w ac env l ids s Q v σ) (S:c6 ae w ac env l ids σ s.heap) (r:bL s.heap ids val v) (tk:Nat):Q val {s with toks:=tk}:=
 k val ids s.heap tk (.refl _ _ _) S r
theorem BO {k:Nat} {p:Pos}:aY ae w ac A env l Φ X .none (.Constant .none k p):=fun σ ids s Q Ev S h=>by
 exact fun _ _ _=>KV.here h S .none s.toks
theorem AL {b:Bool} {k:Nat} {p:Pos}:aY ae w ac A env l Φ X (.bool b) (.Constant (.bool b) k p):=fun σ ids s Q Ev S h=>by
 exact fun _ _ _=>KV.here h S (.bool b) s.toks
theorem CW {i:Int} {k:Nat} {p:Pos}:aY ae w ac A env l Φ X (.int i) (.Constant (.int i) k p):=fun σ ids s Q Ev S h=>by
 exact wpAny_Constant_int (KV.here h S (.int i _) _)
theorem wW {x:Ch} {k:Nat} {p:Pos}:aY ae w ac A env l Φ X (.str x) (.Constant (.str (sx x)) k p):=fun σ ids s Q Ev S h=>by
 rw[eval_Constant]
 exact fun _ _ _=>KV.here h S (.str x _) _
theorem At {i:Int} {k:Nat} {p q:Pos}:aY ae w ac A env l Φ X (.negc i) (.UnaryOp .USub (.Constant (.int i) k p) q):=fun σ ids s Q Ev S h=>by
 exact UnaryOp_ (wpAny_Constant_int (P.neg_int (KV.here h S (.int (-i) _) _)))
theorem yz {sc:Scope} {i:Nat} {id:Str} (ok:ot sc i id=true) {P:Prop} (f:∀k,sc.names[i]? =some (id,k)→(k=.local∨k=.cell∨k=.free)→(id==("__debug__":Str))=false→(id==("__classdict__":Str))=false→P):P:=by
 unfold ot at ok
 revert f
 generalize sc.names[i]? =o at*
 intro f
 refine af ok fun ok h2=>af ok fun ok h1=>?_
 cases o with
 |none=>exact bV ok
 |some y=>obtain⟨n,k⟩:=y;exact af (a:=n==id) ok fun e1 e2=>f k (eq_of_beq e1▸rfl) (by cases k<;>first|exact .inl rfl|exact .inr (.inl rfl)|exact .inr (.inr rfl)|exact bV e2) (Bool.not_eq_true' _▸h1) (Bool.not_eq_true' _▸h2)
theorem DR {i:Nat} {id:Str} {p:Pos} (C:gb ac A env mg mb fa) (ok:ot env.scope i id=true):aY ae w ac A env l Φ X (.loc i) (.Name id p):=fun σ ids s Q Ev S h=>by
 refine yz ok fun k e hk hd hcd=>wpAny_Name ?_ hd
 have hkind:env.kindOf id=some k:=dg C.nodup e
 have h:bG (match σ.loc[i]? with|some (some v)=>okR v σ|_=>Option.none) (KV ae w ac env l ids s Q) (KX ae w ac env l X ids s Ev):=h
 generalize hv:σ.loc[i]? =o at h
 cases o with
 |none=>exact h.elim
 |some o=>cases o with
  |none=>exact h.elim
  |some v=>
   rcases hk with rfl|rfl|rfl
   ·exact S.lo.ns.elim fun m z=>(z.2 i id v e hv).elim fun val q=>wpAny_loadName_local C.kind hkind z.1 q.1 (KV.here h S q.2 s.toks)
   ·exact(S.lo.cells i id _ v e (.inl rfl) hv).elim fun c z=>z.elim fun val q=>wpAny_loadName_cell C.kind hkind q.1 q.2.1 (KV.here h S q.2.2 s.toks)
   ·exact(S.lo.cells i id _ v e (.inr rfl) hv).elim fun c z=>z.elim fun val q=>wpAny_loadName_free C.kind hkind q.1 q.2.1 (KV.here h S q.2.2 s.toks) hcd
theorem DQ {op:m7} {v u:V} {σ:St} {Q:V→St→Prop} {Y:Ch→St→Prop} {P:m7→V→V→Prop} (h:bG (qg op v u σ) Q Y) (h1:∀i j xs ys,listOf? σ.hp i=some xs→listOf? σ.hp j=some ys→xs.length+ys.length<10000→Q (.ref σ.hp.length) {σ with hp:=σ.hp++[.list (xs++ys)]}→P .add (.ref i) (.ref j))
  (h2:∀op v u r,hK op v u=some r→Q r σ→P op v u):P op v u:=
 xK (P:=fun op v u=>bG (qg op v u σ) Q Y→P op v u) (fun i j e h=>uq (P:=fun r=>bG r Q Y→P .add (.ref i) (.ref j)) (fun h=>h.elim) (h1 i j) (e▸h)) (fun op v u e h=>jO (e▸h) fun r e q=>h2 op v u r e q) h
theorem Dl {op:m7} {a b:E} {x y:Expr} {p:Pos} (ha:aY ae w ac A env l Φ X a x) (hb:aY ae w ac A env l Φ X b y):aY ae w ac A env l Φ X (.bin op a b) (.BinOp x (oJ op) y p):=fun σ ids s Q Ev S h=>by
 refine wpAny_BinOp (ha σ ids s _ Ev S ((az h).mono (fun v ah au val am h' tk st aC aZ=>?_) fun _ _ k=>k))
 refine hb ah am _ _ Ev aC ((az au).mono (fun u aG aW c9 aI h'' bv aU bq cj=>?_) fun _ _ k=>k.later st)
 refine DQ (P:=fun op v u=>bL h'' aI val v→bL h'' aI c9 u→wpAny (model ae w) A (binaryOp (oJ op) val c9) Q Ev {s with heap:=h'',toks:=bv}) aW (fun i j xs ys hx hy hlen k aZ cj=>?_)
  (fun op v u r e k aZ cj=>zc (s:={s with heap:=h'',toks:=bv}) aZ cj e fun z cO rz=>k z aI h'' cO (st.trans aU) bq rz) (aZ.step aU aC.noTup) cj
 refine repR aZ fun pa hi=>repR cj fun pb hj=>(bq.hp.list hi hx).elim fun it1 z=>z.elim fun n1 z1=>(bq.hp.list hj hy).elim fun it2 z=>z.elim fun n2 z2=>?_
 refine P.add_list (s:={s with heap:=h'',toks:=bv}) z1.1 z2.1 ?_ (by rw[show it1.size=xs.length from z1.2.length,show it2.size=ys.length from z2.2.length];exact fo hlen)
 have g:=cg.push h'' {cls:=.type "list",data:=.seq (it1++it2)}
 have stn:bx (frs l) aI h'' (aI++[h''.objs.size]) (h''.push {cls:=.type "list",data:=.seq (it1++it2)}):=gq g (cb _)
 refine k _ (aI++[h''.objs.size]) _ _ ((st.trans aU).trans stn) (bq.new g (cb _) ⟨it1++it2,0,Heap.get?_push_size _ rfl,?_⟩) (.ref (bq.hp.len▸List.getElem?_concat_length))
 rw[Array.toList_append]
 exact bo.append (z2.2.step stn bq.noTup) (z1.2.step stn bq.noTup)
theorem Dt {op:zJ} {a b:E} {x y:Expr} {p:Pos} (C:gb ac A env mg mb fa) (hm:behindInMarks (iz op) y=false) (ha:aY ae w ac A env l Φ X a x) (hb:aY ae w ac A env l Φ X b y):
  aY ae w ac A env l Φ X (.cmp op a b) (.Compare x [iz op] [y] p):=fun σ ids s Q Ev S h=>by
 refine wpAny_Compare1 (ha σ ids s _ Ev S ((az h).mono (fun v ah au val am h' tk st aC aZ=>?_) fun _ _ k=>k)) hm
 refine hb ah am _ _ Ev aC ((az au).mono (fun u aG aW c9 aI h'' bv aU bq cj=>?_) fun _ _ k=>k.later st)
 exact jO aW fun r e k=>map_some (P:=fun r=>KV ae w ac env l ids s Q r aG→_) e (fun r e k=>el (s:={s with heap:=h'',toks:=bv}) bq.hp (aZ.step aU aC.noTup) cj e C.u1 fun cO=>k _ aI h'' cO (st.trans aU) bq (.bool r)) k
theorem EP {o:Option Bool} {m m':R V} {Q:V→St→Prop} {Y:Ch→St→Prop} {G:Prop} (h:bG (match(generalizing:=false) o with|some true=>m|some false=>m'|Option.none=>Option.none) Q Y) (f:o=some true→bG m Q Y→G) (f':o=some false→bG m' Q Y→G):G:=by
 cases o with
 |none=>exact h.elim
 |some b=>cases b with
  |true=>exact f rfl h
  |false=>exact f' rfl h
theorem BW {o1 o2:zJ} {a b c:E} {x y z:Expr} {p:Pos} (C:gb ac A env mg mb fa) (hm:lastMarks [iz o1,iz o2] [y,z]=false) (ha:aY ae w ac A env l Φ X a x) (hb:aY ae w ac A env l Φ X b y) (hc:aY ae w ac A env l Φ X c z):
  aY ae w ac A env l Φ X (.cmp2 o1 o2 a b c) (.Compare x [iz o1,iz o2] [y,z] p):=fun σ ids s Q Ev S h=>by
 refine Compare_chain (ha σ ids s _ Ev S ((az h).mono (fun v ah au val am h' tk st aC aZ=>?_) fun _ _ k=>k)) hm
 refine chain_link (hb ah am _ _ Ev aC ((az au).mono (fun u aG aW c9 aI h'' bv aU bq cj=>?_) fun _ _ k=>k.later st))
 refine EP aW (fun e aW=>?_) fun e aW=>el (s:={s with heap:=h'',toks:=bv}) bq.hp (aZ.step aU aC.noTup) cj e C.u1 fun cO=>wpAny_truthy_bool (aW _ aI h'' cO (st.trans aU) bq (.bool false))
 refine el (s:={s with heap:=h'',toks:=bv}) bq.hp (aZ.step aU aC.noTup) cj e C.u1 fun cO=>wpAny_truthy_bool ?_
 refine chain_last (hc aG aI {s with heap:=h'',toks:=cO} _ Ev bq ((az aW).mono (fun t eO cY oz eX h3 lr et gK mB=>?_) fun _ _ k=>k.later (st.trans aU)))
 exact jO cY fun r e k=>map_some (P:=fun r=>KV ae w ac env l ids s Q r eO→_) e (fun r e k=>el (s:={s with heap:=h3,toks:=lr}) gK.hp (cj.step et bq.noTup) mB e C.u1 fun uJ=>k _ eX h3 uJ ((st.trans aU).trans et) gK (.bool r)) k
theorem DG {a b:E} {x y:Expr} {p:Pos} (hs:gG y=true) (ha:aY ae w ac A env l Φ X a x) (hb:aY ae w ac A env l Φ X b y):aY ae w ac A env l Φ X (.idx a b) (.Subscript x y p):=fun σ ids s Q Ev S h=>by
 refine Subscript_ (ha σ ids s _ Ev S ((az h).mono (fun v ah au val am h' tk st aC aZ=>?_) fun _ _ k=>k))
 refine hb ah am _ _ Ev aC ((az au).mono (fun u aG aW c9 aI h'' bv aU bq cj=>?_) fun _ _ k=>k.later st)
 exact jO aW fun r e k=>(uF (s:={s with heap:=h'',toks:=bv}) bq.hp (aZ.step aU aC.noTup) cj e hs fun z cO rz=>k z aI h'' cO (st.trans aU) bq rz).2
theorem Dq:n7 ae w ac A env l Φ X .nil []:=fun σ ids s Q Ev S h=>by
 exact wpAny_pure (h [] ids s.heap s.toks (.refl _ _ _) S .nil)
theorem Au {e:E} {es:Es} {x:Expr} {xs:List Expr} (he:aY ae w ac A env l Φ X e x) (hs:n7 ae w ac A env l Φ X es xs):n7 ae w ac A env l Φ X (.cons e es) (x::xs):=fun σ ids s Q Ev S h=>by
 rw[List.map_cons]
 refine Calls.spliced_cons (he σ ids s _ Ev S ((az h).mono (fun v ah au val am h' tk st aC aZ=>?_) fun _ _ k=>k))
 refine hs ah am _ _ Ev aC ((az au).mono (fun us aG aW vals aI h'' bv aU bq cj=>?_) fun _ _ k=>k.later st)
 exact aW _ aI h'' bv (st.trans aU) bq (.cons (aZ.step aU aC.noTup) cj)
noncomputable def Es.len:Es→Nat
 | .nil=>0
 | .cons _ es=>es.len+1
theorem sR {Y:Ch→St→Prop}:∀{es:Es} {σ:St} {Q:List V→St→Prop},bG (B0 Φ es σ) Q Y→bG (B0 Φ es σ) (fun vs σ'=>vs.length=es.len∧Q vs σ') Y
 | .nil,_,_,h=>⟨rfl,h⟩
 | .cons _ es,_,_,h=>cT ((az h).mono (fun _ _ h=>cT ((sR (es:=es) (az h)).mono (fun _ _ h=>⟨congrArg (· +1) h.1,h.2⟩) fun _ _ k=>k)) fun _ _ k=>k)
theorem rX {sc:Scope}:∀{es:Es} {xs:List Expr},iw sc es xs=true→xs.length=es.len
 | .nil,_,h=>cI (P:=fun xs=>xs.length=0) h rfl
 | .cons _ es,_,h=>cV (P:=fun xs=>xs.length=es.len+1) h fun _ xs h=>af h fun _ h=>congrArg (· +1) (rX h)
theorem D9 {es:Es} {xs:List Expr} {k:Nat} {p:Pos} (hlen:es.len<1000) (hp:∀pos,backTo pos (starEach xs env)=xs.map fun x=>(false,eval x env)) (hs:n7 ae w ac A env l Φ X es xs):aY ae w ac A env l Φ X (.tup es) (.Tuple xs k p):=fun σ ids s Q Ev S h=>by
 refine wpAny_Tuple_spliced ?_
 rw[hp]
 refine hs σ ids s _ Ev S ((sR (az h)).mono (fun vs ah au vals am h' tk st aC aZ=>?_) fun _ _ k=>k)
 have g:=cg.push h' {cls:=.type "tuple",data:=.seq vals.toArray}
 have stn:bx (frs l) am h' am (h'.push {cls:=.type "tuple",data:=.seq vals.toArray}):=g.step
 exact⟨by rw[aZ.length,au.1];exact fo (wz hlen),au.2 _ am _ _ (st.trans stn) (aC.grow g) (.tup (n:=0) (Heap.get?_push_size _ rfl) (aZ.step stn aC.noTup))⟩
theorem CK {es:Es} {xs:List Expr} {p:Pos} (hlen:es.len<1000) (hp:∀pos,backTo pos (starEach xs env)=xs.map fun x=>(false,eval x env)) (hs:n7 ae w ac A env l Φ X es xs):aY ae w ac A env l Φ X (.lst es) (.List xs p):=fun σ ids s Q Ev S h=>by
 refine wpAny_List_spliced ?_
 rw[hp]
 refine hs σ ids s _ Ev S ((sR (az h)).mono (fun vs ah au vals am h' tk st aC aZ=>?_) fun _ _ k=>k)
 have g:=cg.push h' {cls:=.type "list",data:=.seq vals.toArray}
 have stn:bx (frs l) am h' (am++[h'.objs.size]) (h'.push {cls:=.type "list",data:=.seq vals.toArray}):=gq g (cb _)
 refine⟨by rw[aZ.length,au.1];exact fo (wz hlen),au.2 _ (am++[h'.objs.size]) _ _ (st.trans stn) (aC.new g (cb _) ⟨vals.toArray,0,Heap.get?_push_size _ rfl,aZ.step stn aC.noTup⟩) (.ref ?_)⟩
 rw[←aC.hp.len];simp
noncomputable def jw (ae:Program) (w:World) (ac:Heap) (A:Around) (env:Env) (l:List Env) (Φ:ci) (X:List Addr→Heap→Value→Ch→Prop) (c:E) (x:Expr):Prop:=
 ∀(σ:St) (ids:List Addr) (s:Shared) (Q:Bool→Shared→Prop) (Ev:Value→Shared→Prop),c6 ae w ac env l ids σ s.heap→
  bG (tE Φ c σ) (fun b σ'=>∀ids' h' tk,bx (frs l) ids s.heap ids' h'→c6 ae w ac env l ids' σ' h'→Q b {s with heap:=h',toks:=tk}) (KX ae w ac env l X ids s Ev)→wpAny (model ae w) A (isTrue x env (eval x env)) Q Ev s
theorem wf {c:E} {x:Expr} (hx:aY ae w ac A env l Φ X c x) (he:isTrue x env (eval x env)=(do let v←eval x env;standAt x.pos;holding [v] (truthy v))):jw ae w ac A env l Φ X c x:=fun σ ids s Q Ev S h=>by
 exact isTrue_plain (hx σ ids s _ Ev S ((az h).mono (fun v ah au val am h' tk st aC aZ=>onB aZ au fun b au=>wpAny_truthy_bool (au am h' tk st aC)) fun _ _ k=>k)) he
theorem Br {op:zJ} {a b:E} {x y:Expr} {p:Pos} (C:gb ac A env mg mb fa) (hm:behindInMarks (iz op) y=false) (ha:aY ae w ac A env l Φ X a x) (hb:aY ae w ac A env l Φ X b y):
  jw ae w ac A env l Φ X (.cmp op a b) (.Compare x [iz op] [y] p):=fun σ ids s Q Ev S h=>by
 refine wpAny_isTrue_Compare1 (ha σ ids s _ Ev S ((az (az h)).mono (fun v ah au val am h' tk st aC aZ=>?_) fun _ _ k=>k)) hm
 refine hb ah am _ _ Ev aC ((az au).mono (fun u aG aW c9 aI h'' bv aU bq cj=>?_) fun _ _ k=>k.later st)
 refine jO aW fun r e k=>?_
 obtain⟨b,e',rfl⟩:=Option.map_eq_some_iff.mp e
 exact el (s:={s with heap:=h'',toks:=bv}) bq.hp (aZ.step aU aC.noTup) cj e' C.u1 fun cO=>wpAny_truthy_bool (k aI h'' cO (st.trans aU) bq)
end
end Mine
end
section
namespace Mine
open PySem PyProof.Rows
section
variable {ae:Program} {w:World} {ac:Heap} {A:Around} {env:Env} {l:List Env} {Φ:ci} {X:List Addr→Heap→Value→Ch→Prop} {mg mb:Str→Option Value} {fa:Fn→Addr}
theorem DI {a:E} {x:Expr} {p:Pos} (ha:aY ae w ac A env l Φ X a x):aY ae w ac A env l Φ X (.not a) (.UnaryOp .Not x p):=fun σ ids s Q Ev S h=>
 UnaryOp_ (ha σ ids s _ Ev S ((az h).mono (fun v ah au val am h' tk st aC aZ=>onB aZ au fun b au=>not_of (wpAny_truthy_bool (au _ am h' tk st aC (.bool _)))) fun _ _ k=>k))
theorem BQ {a:E} {x:Expr} {p:Pos} (ha:jw ae w ac A env l Φ X a x):jw ae w ac A env l Φ X (.not a) (.UnaryOp .Not x p):=fun σ ids s Q Ev S h=>by
 refine isTrue_not (ha σ ids s _ Ev S (cT ((az (az h)).mono (fun v ah au=>?_) fun _ _ k=>k)))
 exact satB (x:=v) au fun _ au=>au
section
variable {ids am:List Addr} {s:Shared} {ah:St} {h':Heap} {tk:Nat}
theorem aY.on {e:E} {x:Expr} (ha:aY ae w ac A env l Φ X e x) {Q Ev:Value→Shared→Prop} (st:bx (frs l) ids s.heap am h') (S:c6 ae w ac env l am ah h') (h:bG (eE Φ e ah) (KV ae w ac env l ids s Q) (KX ae w ac env l X ids s Ev)):wpAny (model ae w) A (eval x env) Q Ev {s with heap:=h',toks:=tk}:=
 ha ah am _ Q Ev S (bG.mono h (fun _ _ k=>k.later st) fun _ _ k=>k.later st)
noncomputable def KT (ae:Program) (w:World) (ac:Heap) (env:Env) (l:List Env) (ids:List Addr) (s:Shared) (Q:Bool→Shared→Prop) (b:Bool) (σ':St):Prop:=∀ids' h' tk,bx (frs l) ids s.heap ids' h'→c6 ae w ac env l ids' σ' h'→Q b {s with heap:=h',toks:=tk}
theorem jw.on {e:E} {x:Expr} (ha:jw ae w ac A env l Φ X e x) {Q:Bool→Shared→Prop} {Ev:Value→Shared→Prop} (st:bx (frs l) ids s.heap am h') (S:c6 ae w ac env l am ah h') (h:bG (eE Φ e ah) (fun x σ=>bG (match x with| .bool b=>okR b σ|_=>Option.none) (KT ae w ac env l ids s Q) (KX ae w ac env l X ids s Ev)) (KX ae w ac env l X ids s Ev)):wpAny (model ae w) A (isTrue x env (eval x env)) Q Ev {s with heap:=h',toks:=tk}:=
 ha ah am _ Q Ev S (bG.mono (cT h) (fun _ _ k i h t x y=>k i h t (st.trans x) y) fun _ _ k=>k.later st)
end
theorem DS {c a b:E} {t x y:Expr} {p:Pos} (hc:jw ae w ac A env l Φ X c t) (ha:aY ae w ac A env l Φ X a x) (hb:aY ae w ac A env l Φ X b y):aY ae w ac A env l Φ X (.ite c a b) (.IfExp t x y p):=fun σ ids s Q Ev S h=>
 IfExp_ (hc σ ids s _ Ev S (cT ((az h).mono (fun v ah au=>sat2B au (fun au _ _ _ st aC=>ha.on st aC au) fun au _ _ _ st aC=>hb.on st aC au) fun _ _ k=>k)))
theorem A2 {c a b:E} {t x y:Expr} {p:Pos} (hc:jw ae w ac A env l Φ X c t) (ha:jw ae w ac A env l Φ X a x) (hb:jw ae w ac A env l Φ X b y):jw ae w ac A env l Φ X (.ite c a b) (.IfExp t x y p):=fun σ ids s Q Ev S h=>
 isTrue_IfExp (hc σ ids s _ Ev S (cT ((az (az h)).mono (fun v ah au=>sat2B au (fun au _ _ _ st aC=>ha.on st aC au) fun au _ _ _ st aC=>hb.on st aC au) fun _ _ k=>k)))
noncomputable def gJ (ae:Program) (w:World) (ac:Heap) (A:Around) (env:Env) (l:List Env) (Φ:ci) (X:List Addr→Heap→Value→Ch→Prop):Es→List Expr→Prop
 | .nil,[]=>True
 | .cons e es,x::xs=>(aY ae w ac A env l Φ X e x∧jw ae w ac A env l Φ X e x)∧gJ ae w ac A env l Φ X es xs
 |_,_=>False
theorem gJ.cons {P:List Expr→Prop} {e:E} {es:Es} {xs:List Expr} (h:gJ ae w ac A env l Φ X (.cons e es) xs) (f:∀x xs,aY ae w ac A env l Φ X e x→jw ae w ac A env l Φ X e x→gJ ae w ac A env l Φ X es xs→P (x::xs)):P xs:=by
 cases xs with
 |nil=>exact h.elim
 |cons x xs=>exact f x xs h.1.1 h.1.2 h.2
theorem gJ.nil {P:List Expr→Prop} {xs:List Expr} (h:gJ ae w ac A env l Φ X .nil xs) (f:P []):P xs:=by
 cases xs with
 |nil=>exact f
 |cons x xs=>exact h.elim
theorem xR {p:Pos}:∀{es:Es} {xs:List Expr},gJ ae w ac A env l Φ X es xs→aY ae w ac A env l Φ X (.and es) (.BoolOp .And xs p)
 | .nil,_,_=>fun σ ids s Q Ev S h=>h.elim
 | .cons e .nil,_,H=>H.cons (P:=fun xs=>aY ae w ac A env l Φ X _ (.BoolOp .And xs p)) fun x xs h1 _ H=>H.nil (P:=fun xs=>aY ae w ac A env l Φ X _ (.BoolOp .And (x::xs) p)) fun σ ids s Q Ev S h=>
  BoolOp_one (h1 σ ids s Q Ev S ((az h).mono (fun v ah au val am h' tk st aC aZ=>onB aZ au fun b au=>au _ am h' tk st aC (.bool b)) fun _ _ k=>k))
 | .cons e (.cons e' es),_,H=>H.cons (P:=fun xs=>aY ae w ac A env l Φ X _ (.BoolOp .And xs p)) fun x xs h1 _ H=>H.cons (P:=fun xs=>gJ ae w ac A env l Φ X (.cons e' es) xs→aY ae w ac A env l Φ X _ (.BoolOp .And (x::xs) p)) (fun y ys _ _ _ H σ ids s Q Ev S h=>
  BoolOp_and (h1 σ ids s _ Ev S ((az h).mono (fun v ah au val am h' tk st aC aZ=>onB' aZ au (fun au=>wpAny_truthy_bool ((xR H).on st aC au)) fun au=>wpAny_truthy_bool (au _ am h' tk st aC (.bool false))) fun _ _ k=>k))) H
theorem Bq {p:Pos}:∀{es:Es} {xs:List Expr},gJ ae w ac A env l Φ X es xs→aY ae w ac A env l Φ X (.or es) (.BoolOp .Or xs p)
 | .nil,_,_=>fun σ ids s Q Ev S h=>h.elim
 | .cons e .nil,_,H=>H.cons (P:=fun xs=>aY ae w ac A env l Φ X _ (.BoolOp .Or xs p)) fun x xs h1 _ H=>H.nil (P:=fun xs=>aY ae w ac A env l Φ X _ (.BoolOp .Or (x::xs) p)) fun σ ids s Q Ev S h=>
  BoolOp_one (h1 σ ids s Q Ev S ((az h).mono (fun v ah au val am h' tk st aC aZ=>onB aZ au fun b au=>au _ am h' tk st aC (.bool b)) fun _ _ k=>k))
 | .cons e (.cons e' es),_,H=>H.cons (P:=fun xs=>aY ae w ac A env l Φ X _ (.BoolOp .Or xs p)) fun x xs h1 _ H=>H.cons (P:=fun xs=>gJ ae w ac A env l Φ X (.cons e' es) xs→aY ae w ac A env l Φ X _ (.BoolOp .Or (x::xs) p)) (fun y ys _ _ _ H σ ids s Q Ev S h=>
  BoolOp_or (h1 σ ids s _ Ev S ((az h).mono (fun v ah au val am h' tk st aC aZ=>onB'' aZ au (fun au=>wpAny_truthy_bool (au _ am h' tk st aC (.bool true))) fun au=>wpAny_truthy_bool ((Bq H).on st aC au)) fun _ _ k=>k))) H
theorem tU {p:Pos} (wh:Sem Value):∀{es:Es} {xs:List Expr},gJ ae w ac A env l Φ X es xs→∀(σ:St) (ids:List Addr) (s:Shared) (Q:Bool→Shared→Prop) (Ev:Value→Shared→Prop),c6 ae w ac env l ids σ s.heap→
  bG (tE Φ (.and es) σ) (fun b σ'=>∀ids' h' tk,bx (frs l) ids s.heap ids' h'→c6 ae w ac env l ids' σ' h'→Q b {s with heap:=h',toks:=tk}) (KX ae w ac env l X ids s Ev)→wpAny (model ae w) A (isTrue (.BoolOp .And xs p) env wh) Q Ev s
 | .nil,_,_,σ,ids,s,Q,Ev,S,h=>h.elim
 | .cons e .nil,_,H,σ,ids,s,Q,Ev,S,h=>H.cons (P:=fun xs=>wpAny (model ae w) A (isTrue (.BoolOp .And xs p) env wh) Q Ev s) fun x xs _ h1 H=>H.nil (P:=fun xs=>wpAny (model ae w) A (isTrue (.BoolOp .And (x::xs) p) env wh) Q Ev s)
  (by
  refine isTrue_and (h1 σ ids s _ Ev S (cT ((az (az h)).mono (fun v ah au=>?_) fun _ _ k=>k)))
  refine satB (x:=v) au fun b au=>?_
  intro am h' tk st aC
  cases b with
  |true=>exact isTrue_and_nil (au am h' tk st aC)
  |false=>exact au am h' tk st aC)
 | .cons e (.cons e' es),_,H,σ,ids,s,Q,Ev,S,h=>H.cons (P:=fun xs=>wpAny (model ae w) A (isTrue (.BoolOp .And xs p) env wh) Q Ev s) fun x xs _ h1 H=>H.cons (P:=fun xs=>gJ ae w ac A env l Φ X (.cons e' es) xs→wpAny (model ae w) A (isTrue (.BoolOp .And (x::xs) p) env wh) Q Ev s) (fun y ys _ _ _ H=>
  isTrue_and (h1 σ ids s _ Ev S (cT ((az (az h)).mono (fun v ah au=>sat2B' au (fun au am h' tk st aC=>tU wh H ah am _ Q Ev aC (bG.mono (cT au) (fun b _ k i h t x y=>k i h t (st.trans x) y) fun _ _ k=>k.later st))
   fun au am h' tk st aC=>au am h' tk st aC) fun _ _ k=>k)))) H
theorem ya {p:Pos} (wh:Sem Value):∀{es:Es} {xs:List Expr},gJ ae w ac A env l Φ X es xs→∀(σ:St) (ids:List Addr) (s:Shared) (Q:Bool→Shared→Prop) (Ev:Value→Shared→Prop),c6 ae w ac env l ids σ s.heap→
  bG (tE Φ (.or es) σ) (fun b σ'=>∀ids' h' tk,bx (frs l) ids s.heap ids' h'→c6 ae w ac env l ids' σ' h'→Q b {s with heap:=h',toks:=tk}) (KX ae w ac env l X ids s Ev)→wpAny (model ae w) A (isTrue (.BoolOp .Or xs p) env wh) Q Ev s
 | .nil,_,_,σ,ids,s,Q,Ev,S,h=>h.elim
 | .cons e .nil,_,H,σ,ids,s,Q,Ev,S,h=>H.cons (P:=fun xs=>wpAny (model ae w) A (isTrue (.BoolOp .Or xs p) env wh) Q Ev s) fun x xs _ h1 H=>H.nil (P:=fun xs=>wpAny (model ae w) A (isTrue (.BoolOp .Or (x::xs) p) env wh) Q Ev s)
  (by
  refine isTrue_or (h1 σ ids s _ Ev S (cT ((az (az h)).mono (fun v ah au=>?_) fun _ _ k=>k)))
  refine satB (x:=v) au fun b au=>?_
  intro am h' tk st aC
  cases b with
  |true=>exact au am h' tk st aC
  |false=>exact isTrue_or_nil (au am h' tk st aC))
 | .cons e (.cons e' es),_,H,σ,ids,s,Q,Ev,S,h=>H.cons (P:=fun xs=>wpAny (model ae w) A (isTrue (.BoolOp .Or xs p) env wh) Q Ev s) fun x xs _ h1 H=>H.cons (P:=fun xs=>gJ ae w ac A env l Φ X (.cons e' es) xs→wpAny (model ae w) A (isTrue (.BoolOp .Or (x::xs) p) env wh) Q Ev s) (fun y ys _ _ _ H=>
  isTrue_or (h1 σ ids s _ Ev S (cT ((az (az h)).mono (fun v ah au=>sat2B au (fun au am h' tk st aC=>au am h' tk st aC)
   fun au am h' tk st aC=>ya wh H ah am _ Q Ev aC (bG.mono (cT au) (fun b _ k i h t x y=>k i h t (st.trans x) y) fun _ _ k=>k.later st)) fun _ _ k=>k)))) H
theorem wg {value slice:Expr} {x:Ch} {t:Tok} {s:Shared} {au:Heap} {lo hi:Option (Int×Tok)} {Q:Value→Shared→Prop} {Ev:Value→Shared→Prop} (hl:x.length≤nu) (hs:∃p q r z,slice=.Slice p q none z∧r=p)
  (k:∀t' tk,Q (.str (sx ((x.drop (eZ (lo.map (·.1)) x.length 0)).take (eZ (hi.map (·.1)) x.length x.length-eZ (lo.map (·.1)) x.length 0))) t') {s with heap:=au.push {cls:=.type "slice",data:=.fields #[partValue lo,partValue hi,.none]},toks:=tk}):
  wpAny (model ae w) A (subscriptTail value slice (.str (sx x) t) (.ref au.objs.size)) Q Ev {s with heap:=au.push {cls:=.type "slice",data:=.fields #[partValue lo,partValue hi,.none]}}:=by
 obtain⟨p,q,_,z,rfl,_⟩:=hs
 refine tail_any (T:="str") rfl F.slot_str_getitem.lookup (wpAny_getItem_str_slice (l:=lo) (u:=hi) (st:=none) ⟨_,Heap.get?_push_size _ rfl,rfl,rfl⟩ rfl ?_) rfl
 exact zu hl fun t' tk=>k t' tk
theorem Ad (n:Nat):iW (n:Int) n=n:=by unfold iW;split<;>split<;>omega
theorem yO (n:Nat):iW 0 n=0:=by unfold iW;split<;>split<;>omega
theorem tA {value slice:Expr} {y:Ch} {t:Tok} {s:Shared} {ids am:List Addr} {au:Heap} {tk:Nat} {ah:St} {lo hi:Option (Int×Tok)} {r:Ch} {Q Ev:Value→Shared→Prop} (hl:y.length≤nu) (hs:∃p q r z,slice=.Slice p q none z∧r=p) (st:bx (frs l) ids s.heap am au) (S:c6 ae w ac env l am ah au)
  (k:KV ae w ac env l ids s Q (.str r) ah) (e:((y.drop (eZ (lo.map (·.1)) y.length 0)).take (eZ (hi.map (·.1)) y.length y.length-eZ (lo.map (·.1)) y.length 0))=r):
  wpAny (model ae w) A (subscriptTail value slice (.str (sx y) t) (.ref au.objs.size)) Q Ev {s with heap:=au.push {cls:=.type "slice",data:=.fields #[partValue lo,partValue hi,.none]},toks:=tk}:=by
 have g:=cg.push au {cls:=.type "slice",data:=.fields #[partValue lo,partValue hi,.none]}
 exact wg (s:={s with toks:=tk}) hl hs fun t' tk=>k _ am _ tk (st.trans g.step) (S.grow g) (e▸.str _ _)
theorem C8 {a lo hi:E} {x p q:Expr} {z pos:Pos} (ha:aY ae w ac A env l Φ X a x) (hlo:aY ae w ac A env l Φ X lo p) (hhi:aY ae w ac A env l Φ X hi q):aY ae w ac A env l Φ X (.slc a lo hi) (.Subscript x (.Slice (some p) (some q) none z) pos):=fun σ ids s Q Ev S h=>by
 refine Subscript_ (ha σ ids s _ Ev S ((az h).mono (fun v ah au val am h' tk st aC aZ=>?_) fun _ _ k=>k))
 refine wpAny_Slice (hlo ah am _ _ Ev aC ((az au).mono (fun u aG aW c9 aI h'' bv aU bq cj=>?_) fun _ _ k=>k.later st))
 refine hhi aG aI _ _ Ev bq ((az aW).mono (fun t eO cY oz eX h3 cO et gK mB=>?_) fun _ _ k=>k.later (st.trans aU))
 rw[evalPart_none]
 refine wpAny_pure ?_
 revert aZ cj mB
 refine satSII (x:=v) (x':=u) (x'':=t) cY fun x i j cY aZ cj mB=>?_
 refine repS aZ fun t0=>?_
 refine repI cj fun ti=>?_
 refine repI mB fun tj=>?_
 refine dp cY fun hlen cY=>?_
 exact tA (s:=s) (lo:=some (i,ti)) (hi:=some (j,tj)) hlen ⟨_,_,_,_,rfl,rfl⟩ ((st.trans aU).trans et) gK cY (by unfold cut;rfl)
theorem Et {a lo:E} {x p:Expr} {z pos:Pos} (ha:aY ae w ac A env l Φ X a x) (hlo:aY ae w ac A env l Φ X lo p):aY ae w ac A env l Φ X (.slf a lo) (.Subscript x (.Slice (some p) none none z) pos):=fun σ ids s Q Ev S h=>by
 refine Subscript_ (ha σ ids s _ Ev S ((az h).mono (fun v ah au val am h' tk st aC aZ=>?_) fun _ _ k=>k))
 refine wpAny_Slice (hlo ah am _ _ Ev aC ((az au).mono (fun u aG aW c9 aI h'' bv aU bq cj=>?_) fun _ _ k=>k.later st))
 rw[evalPart_none]
 refine wpAny_pure (wpAny_pure ?_)
 revert aZ cj
 exact satSI (x:=v) (x':=u) aW fun x i aW aZ cj=>repS aZ fun t0=>repI cj fun ti=>dp aW fun hlen aW=>tA (s:=s) (lo:=some (i,ti)) (hi:=none) hlen ⟨_,_,_,_,rfl,rfl⟩ (st.trans aU) bq aW (by unfold cut;rw[Ad];rfl)
theorem DY {a hi:E} {x p:Expr} {z pos:Pos} (ha:aY ae w ac A env l Φ X a x) (hhi:aY ae w ac A env l Φ X hi p):aY ae w ac A env l Φ X (.slt a hi) (.Subscript x (.Slice none (some p) none z) pos):=fun σ ids s Q Ev S h=>by
 refine Subscript_ (ha σ ids s _ Ev S ((az h).mono (fun v ah au val am h' tk st aC aZ=>?_) fun _ _ k=>k))
 refine wpAny_Slice ?_
 rw[evalPart_none]
 refine wpAny_pure (hhi ah am _ _ Ev aC ((az au).mono (fun u aG aW c9 aI h'' bv aU bq cj=>?_) fun _ _ k=>k.later st))
 refine wpAny_pure ?_
 have aZ:=aZ.step aU aC.noTup
 revert aZ cj
 refine satXI (x:=v) (x':=u) aW (fun x j aW cj aZ=>repS aZ fun t0=>repI cj fun tj=>dp aW fun hlen aW=>tA (s:=s) (lo:=none) (hi:=some (j,tj)) hlen ⟨_,_,_,_,rfl,rfl⟩ (st.trans aU) bq aW (by unfold cut;rw[yO];rfl)) fun i j aW cj aZ=>?_
 refine repR aZ fun pa hia=>repI cj fun tj=>uE aW fun vs hv aW=>dp aW fun hlen aW=>?_
 have g:=cg.push h'' {cls:=.type "slice",data:=.fields #[.none,.int j tj,.none]}
 have gK:=bq.grow g
 refine(gK.hp.list hia hv).elim fun items q=>q.elim fun n q=>?_
 refine tail_any (T:="list") ⟨_,q.1,rfl⟩ slot_list_getitem.lookup (wpAny_getItem_list_slice ⟨_,q.1,rfl,n,rfl⟩ (Heap.IsSliceOf.new ..) .none (.int j tj) .none (fun q=>nomatch q) ?_ (by rw[show items.size=vs.length from q.2.length];exact fo hlen.1)) rfl
 rw[pE hlen.2]
 have g2:=cg.push (h''.push {cls:=.type "slice",data:=.fields #[.none,.int j tj,.none]}) {cls:=.type "list",data:=.seq (items.toList.take j.toNat).toArray}
 have stn:bx (frs l) aI _ (aI++[_]) _:=gq g2 (cb _)
 exact aW _ (aI++[_]) _ _ (((st.trans aU).trans g.step).trans stn) (gK.new g2 (cb _) ⟨_,0,Heap.get?_push_size _ rfl,(q.2.step stn gK.noTup).take j.toNat⟩) (.ref (gK.hp.len▸List.getElem?_concat_length))
end
end Mine
end
section
namespace Mine
open PySem PyProof.Rows
theorem eW {o:Expr} (h:cz o=true) (n:Str) (env:Env) (t:Sem Value):attributeBase o n env t=t:=by
 cases o<;>first|rfl|exact Bool.noConfusion (show false=true from h)
theorem gm {sc:Scope} {id:Str} (h:cp sc id=true):sc.names.lookup id=some .globalImplicit∧(id==("__debug__":Str))=false:=af h fun h1 h2=>⟨eq_of_beq h1,(Bool.not_eq_true' _).mp h2⟩
theorem xo (c:Char) (x:Ch) (k:Nat) (hk:k≤x.length):Txt.find3 (sx x) (sx [c]) (k:Int)=jz c x k:=by
 have hf:fromIndex (sx x).length (k:Int)=k:=by
  unfold fromIndex
  rw[if_neg (Int.not_lt.mpr (Int.natCast_nonneg k)),Int.max_eq_right (Int.natCast_nonneg k)];rfl
 have hg:∀v,v<x.length→(sx x).cps.getD v 0=(x[v]?.getD default).toNat:=fun v hv=>by
  have:(sx x).cps=(x.map Char.toNat).toArray:=rfl
  rw[this]
  simp[hv]
 unfold jz
 rcases StrLaws.find3_spec (sx x) c.toNat (k:Int)with⟨e,hn⟩|⟨j,e,h1,h2,h3,h4⟩
 ·rw[ta,e]
  have:(x.drop k).findIdx? (· ==c)=none:=by
   rw[List.findIdx?_eq_none_iff]
   intro y hy
   obtain⟨i,hi,rfl⟩:=List.getElem_of_mem hy
   rw[List.getElem_drop]
   have hlt:k+i<x.length:=Nat.add_lt_of_lt_sub' (List.length_drop▸hi)
   have:=hn (k+i) (by rw[hf];exact Nat.le_add_right k i) (by rw[cy];exact hlt)
   rw[hg _ hlt]at this
   simp only[beq_eq_false_iff_ne,ne_eq]
   intro q
   apply this
   rw[List.getElem?_eq_getElem hlt,Option.getD_some,q]
  rw[this]
 ·rw[ta,e]
  rw[hf]at h1 h4
  rw[cy]at h2
  have:(x.drop k).findIdx? (· ==c)=some (j-k):=by
   rw[List.findIdx?_eq_some_iff_getElem]
   have hlt:j-k<(x.drop k).length:=by rw[List.length_drop];exact Nat.sub_lt_sub_right h1 h2
   refine⟨hlt,?_,fun i hi=>?_⟩
   ·rw[List.getElem_drop]
    rw[hg _ h2,List.getElem?_eq_getElem h2,Option.getD_some]at h3
    have e1:k+(j-k)=j:=Nat.add_sub_cancel' h1
    simp only[e1]
    simpa using Char.toNat_inj.mp h3
   ·rw[List.getElem_drop]
    have hj:k+i<j:=Nat.add_lt_of_lt_sub' hi
    have hlt':k+i<x.length:=Nat.lt_trans hj h2
    have:=h4 (k+i) (Nat.le_add_right k i) hj
    rw[hg _ hlt',List.getElem?_eq_getElem hlt',Option.getD_some]at this
    simp only[Bool.not_eq_true,beq_eq_false_iff_ne,ne_eq]
    exact fun q=>this (by rw[q])
  rw[this]
  simp only
  omega
section
variable {ae:Program} {w:World} {ac:Heap} {A:Around} {env:Env} {l:List Env} {Φ:ci} {X:List Addr→Heap→Value→Ch→Prop} {mg mb:Str→Option Value} {fa:Fn→Addr}
theorem xj {id:Str} {p:Pos} {v:Value} {σ:St} {ids:List Addr} {s:Shared} {Q Ev:Value→Shared→Prop} (C:gb ac A env mg mb fa) (ok:cp env.scope id=true) (S:c6 ae w ac env l ids σ s.heap) (hv:mg id=some v) (h:Q v s):
  wpAny (model ae w) A (eval (.Name id p) env) Q Ev s:=by
 obtain⟨hk,hd⟩:=gm ok
 exact Calls.Name_function_global C.kind hk (Calls.loadGlobal_global (C.glob▸C.g.keeps S.hp.base) hv h) hd
theorem Bi {id:Str} {p:Pos} {v:Value} {σ:St} {ids:List Addr} {s:Shared} {Q Ev:Value→Shared→Prop} (C:gb ac A env mg mb fa) (ok:cp env.scope id=true) (S:c6 ae w ac env l ids σ s.heap) (hn:mg id=none) (hv:mb id=some v) (h:Q v s):
  wpAny (model ae w) A (eval (.Name id p) env) Q Ev s:=by
 obtain⟨hk,hd⟩:=gm ok
 exact Calls.Name_function_global C.kind hk (Calls.loadGlobal_builtin (C.glob▸C.g.keeps S.hp.base) hn (C.blt▸C.b.keeps S.hp.base) hv h) hd
theorem B8 {o:Option (Except Ch V×List O)} {σ:St} {Q:V→St→Prop} {Y:Ch→St→Prop} {Q':V→List O→Prop} {Y':Ch→List O→Prop} (h:bG (match(generalizing:=false) o with
  |some (.ok v,H)=>some (.ok v,{σ with hp:=H})
  |some (.error m,H)=>some (.error m,{σ with hp:=H})
  |Option.none=>Option.none) Q Y) (hq:∀v H,Q v {σ with hp:=H}→Q' v H) (hy:∀v H,Y v {σ with hp:=H}→Y' v H):uS o Q' Y':=by
 cases o with
 |none=>exact h
 |some r=>obtain⟨r,H⟩:=r;cases r with
  |ok v=>exact hq v H h
  |error m=>exact hy m H h
theorem zM {f:Fn} {es:Es} {xs:List Expr} {np pos:Pos} (C:gb ac A env mg mb fa) (hC:dO ae w ac A l fa Φ X) (ok:cp env.scope (ju f)=true) (hp:∀pos,backTo pos (starEach xs env)=xs.map fun x=>(false,eval x env))
  (hs:n7 ae w ac A env l Φ X es xs):aY ae w ac A env l Φ X (.call f es) (.Call (.Name (ju f) np) xs [] pos):=fun σ ids s Q Ev S h=>by
 refine wpAny_Call_Name_kw (xj C ok S (C.fnm f) ((C.fob f).elim fun o z=>z.elim fun fd z=>?_))
 show wpAny _ _ (callWith pos (.ref (fa f)) [] (backTo pos (starEach xs env)) []) _ _ _
 rw[hp]
 refine Calls.callWith_function (o:=o) (fd:=fd) ?_
 have main:wpAny (model ae w) A (spliced (xs.map fun x=>(false,eval x env))) (fun vals s'=>(s'.heap.get? (fa f)=some o∧o.data=.func fd)∧wpAny (model ae w) A (call (.ref (fa f)) vals) Q Ev s') Ev s:=
  hs σ ids s _ Ev S ((az h).mono (fun vs ah au vals am h' tk st aC aZ=>⟨⟨aC.hp.base _ _ z.1,z.2⟩,hC f vs vals _ am ah.hp Q Ev aC.hp aC.fr aZ (B8 au (fun _ _ au val i' h'' t' st' a b c=>au val i' h'' t' (st.trans st') ⟨a,b,aC.lo.step aC.hp aC.noTup st'⟩ c)
   fun _ _ au val i' h'' t' st' a b c=>au val i' h'' t' (st.trans st') ⟨a,b,aC.lo.step aC.hp aC.noTup st'⟩ c)⟩) fun _ _ k=>k)
 cases xs with
 |nil=>
  unfold evalArgs
  exact wpAny_bind (wpAny_mono main (fun vs s' h'=>wpAny_holding (wpAny_bind (wpAny_pure (wpAny_bind (wpAny_pure (wpAny_pure h')))))) fun _ _ x=>x)
 |cons x xs=>exact Calls.evalArgs_plain main
theorem n9 {T:String} {e:E} {x:Expr} {np pos:Pos} {f:V→St→R V} {σ:St} {ids:List Addr} {s:Shared} {Q Ev:Value→Shared→Prop} (C:gb ac A env mg mb fa) (ok:cp env.scope (T:Str)=true) (hp:∀pos,backTo pos (starEach [x] env)=[(false,eval x env)]) (hn:mg T=none) (hb:mb T=some (.builtin T))
  (ha:aY ae w ac A env l Φ X e x) (S:c6 ae w ac env l ids σ s.heap) (h:bG (cW (eE Φ e σ) f) (KV ae w ac env l ids s Q) (KX ae w ac env l X ids s Ev))
  (k:∀v ah val am h' tk,bx (frs l) ids s.heap am h'→c6 ae w ac env l am ah h'→bL h' am val v→bG (f v ah) (KV ae w ac env l ids s Q) (KX ae w ac env l X ids s Ev)→wpAny (model ae w) A (call (.builtin T) [val]) Q Ev {s with heap:=h',toks:=tk}):
  wpAny (model ae w) A (eval (.Call (.Name (T:Str) np) [x] [] pos) env) Q Ev s:=by
 refine wpAny_Call_Name_kw (Bi C ok S hn hb ?_)
 show wpAny _ _ (callWith pos (.builtin T) [] (backTo pos (starEach [x] env)) []) _ _ _
 rw[hp]
 exact callWith_builtin1 (ha σ ids s _ Ev S ((az h).mono (fun v ah au val am h' tk st aC aZ=>k v ah val am h' tk st aC aZ au) fun _ _ k=>k))
theorem Ay {v:V} {β:Type} {Q:β→St→Prop} {Y:Ch→St→Prop} {P:V→Prop} {k1:Ch→R β} {k2:List V→R β} {k3:Nat→R β} (h:bG (match(generalizing:=false) v with
  | .str l=>k1 l
  | .tup vs=>k2 vs
  | .ref i=>k3 i
  |_=>Option.none) Q Y) (h1:∀l,bG (k1 l) Q Y→P (.str l)) (h2:∀l,bG (k2 l) Q Y→P (.tup l)) (h3:∀l,bG (k3 l) Q Y→P (.ref l)):P v:=by
 cases v with
 |str l=>exact h1 l h
 |tup l=>exact h2 l h
 |ref l=>exact h3 l h
 |_=>exact h.elim
theorem AO {n:Nat} (h:n≤nu):(n:Int)<2^63:=by
 have:nu=16777216:=rfl
 omega
theorem Ds {a:E} {x:Expr} {np pos:Pos} (C:gb ac A env mg mb fa) (ok:cp env.scope ("len":Str)=true) (hp:∀pos,backTo pos (starEach [x] env)=[(false,eval x env)]) (ha:aY ae w ac A env l Φ X a x):
  aY ae w ac A env l Φ X (.len a) (.Call (.Name ("len":Str) np) [x] [] pos):=fun σ ids s Q Ev S h=>by
 refine n9 C ok hp C.bl.1 C.bm.1 ha S h fun v ah val am h' tk st aC aZ au=>?_
 refine Ay (P:=fun v=>bL h' am val v→wpAny (model ae w) A (call (.builtin "len") [val]) Q Ev {s with heap:=h',toks:=tk}) au (fun y au aZ=>?_) (fun vs au aZ=>?_) (fun i au aZ=>?_) aZ
 ·refine repS aZ fun t=>dp au fun hl au=>P.len_str (by rw[cy];exact Int.not_le.mpr (AO hl)) ?_
  rw[cy]
  exact au _ am h' _ st aC (.int _ _)
 ·refine repT aZ fun a items n e1 rs=>dp au fun hl au=>PyProof.Rows.len_tuple (items:=items) ⟨_,e1,rfl,n,rfl⟩ (by rw[show items.size=vs.length from rs.length];exact AO hl) ?_
  rw[show items.size=vs.length from rs.length]
  exact au _ am h' _ st aC (.int _ _)
 ·refine repR aZ fun a hi=>uE au fun vs e au=>(aC.hp.list hi e).elim fun items z=>z.elim fun n z=>dp au fun hl au=>Calls.call_len_list (items:=items) ⟨_,z.1,rfl,n,rfl⟩ (by rw[show items.size=vs.length from z.2.length];exact AO hl) ?_
  rw[show items.size=vs.length from z.2.length]
  exact au _ am h' _ st aC (.int _ _)
theorem C3 {a:E} {x:Expr} {np pos:Pos} (C:gb ac A env mg mb fa) (ok:cp env.scope ("ord":Str)=true) (hp:∀pos,backTo pos (starEach [x] env)=[(false,eval x env)]) (ha:aY ae w ac A env l Φ X a x):
  aY ae w ac A env l Φ X (.ord a) (.Call (.Name ("ord":Str) np) [x] [] pos):=fun σ ids s Q Ev S h=>by
 exact n9 C ok hp C.bl.2.1 C.bm.2.1 ha S h fun v ah val am h' tk st aC aZ au=>onC aZ au fun c t au=>P.ord_of_char (au _ am h' _ st aC (.int _ _))
theorem Bs {i:Int} (h:0≤i∧i<128):(Char.ofNat i.toNat).toNat=i.toNat:=by
 have:i.toNat.isValidChar:=by left;omega
 unfold Char.ofNat
 rw[dif_pos this]
 rfl
theorem F7 {i:Int} (h:0≤i∧i<128):(decide (i<0)||decide (i>0x10FFFF))=false:=by
 rw[decide_eq_false (Int.not_lt.mpr h.1),decide_eq_false (Int.not_lt.mpr (Int.le_trans (Int.le_of_lt h.2) (by decide)))];rfl
theorem CH {a:E} {x:Expr} {np pos:Pos} (C:gb ac A env mg mb fa) (ok:cp env.scope ("chr":Str)=true) (hp:∀pos,backTo pos (starEach [x] env)=[(false,eval x env)]) (ha:aY ae w ac A env l Φ X a x):
  aY ae w ac A env l Φ X (.chr a) (.Call (.Name ("chr":Str) np) [x] [] pos):=fun σ ids s Q Ev S h=>by
 refine n9 C ok hp C.bl.2.2.1 C.bm.2.2.1 ha S h fun v ah val am h' tk st aC aZ au=>?_
 refine onI aZ au fun i t au=>dp au fun hi au=>P.chr_of_int (F7 hi) ?_
 have:=au (.str (sx [Char.ofNat i.toNat]) tk) am h' (tk+1) st aC (.str _ _)
 rw[ta,Bs hi]at this
 exact this
theorem yN {a:E} {x:Expr} {np pos:Pos} (C:gb ac A env mg mb fa) (ok:cp env.scope ("tuple":Str)=true) (hp:∀pos,backTo pos (starEach [x] env)=[(false,eval x env)]) (ha:aY ae w ac A env l Φ X a x):
  aY ae w ac A env l Φ X (.tuple a) (.Call (.Name ("tuple":Str) np) [x] [] pos):=fun σ ids s Q Ev S h=>by
 refine wpAny_Call_Name_kw (Bi C ok S C.bl.2.2.2 C.bm.2.2.2 ?_)
 show wpAny _ _ (callWith pos (.type "tuple") [] (backTo pos (starEach [x] env)) []) _ _ _
 rw[hp]
 refine PyProof.Rows.callWith_type rfl (Calls.evalArgs_plain (Calls.spliced_cons ?_))
 refine ha σ ids s _ Ev S ((az h).mono (fun v ah au val am h' tk st aC aZ=>?_) fun _ _ k=>k)
 refine Calls.spliced_nil (onR aZ au fun p i hi au=>uE au fun vs e au=>(aC.hp.list hi e).elim fun items z=>z.elim fun n z=>dp au fun hl au=>?_)
 refine call_tuple_list (items:=items) ⟨_,z.1,rfl,n,rfl⟩ (fun h2 hk=>?_) (by rw[show items.size=vs.length from z.2.length];exact fo hl)
 have g:cg h' (h2.push {cls:=.type "tuple",data:=.seq items}):=⟨fun b o e=>Heap.get?_push_of_some _ (hk b o e)⟩
 exact au _ am _ _ (st.trans g.step) (aC.grow g) (.tup (n:=0) (Heap.get?_push_size _ rfl) (z.2.step g.step aC.noTup))
theorem vw {y:Str} {t:Tok} {p:Addr→Prop}:∀a:Addr,Value.str y t=Value.ref a→p a:=fun _ e=>by cases e
theorem zG {a b:E} {o x:Expr} {ap pos:Pos} (hb0:cz o=true) (h1l:dn ap pos=true) (hp:∀pos,backTo pos (starEach [x] env)=[(false,eval x env)]) (ha:aY ae w ac A env l Φ X a o) (hb:aY ae w ac A env l Φ X b x):
  aY ae w ac A env l Φ X (.find1 a b) (.Call (.Attribute o ("find":Str) ap) [x] [] pos):=fun σ ids s Q Ev S h=>by
 refine wpAny_Call_method (eW hb0 _ _ _) (by rw[hp];rfl) h1l F.plainAttrs_str F.slot_str_find F.type_str_find (ha σ ids s _ Ev S ((az h).mono (fun v ah au val am h' tk st aC aZ=>?_) fun _ _ k=>k))
 rw[hp]
 refine onS aZ au fun y t au=>⟨rfl,vw,Calls.callWith_builtin rfl (Calls.evalArgs_plain (Calls.spliced_cons (hb ah am _ _ Ev aC ((az au).mono (fun u aG aW c9 aI h'' bv aU bq cj=>Calls.spliced_nil ?_) fun _ _ k=>k.later st))))⟩
 refine onC cj aW fun c t2 aW=>call_gives F.slot_str_find (typeIs_str _ _ _) F.entry_str_find (F.args_str_find_2 _ _) (gives_str_find (sx y) (sx [c]) t t2) ?_
 have e:=xo c y 0 (Nat.zero_le _)
 unfold Txt.find3 at e
 rw[show fromIndex (sx y).length ((0:Nat):Int)=0 by simp[fromIndex]]at e
 have q:=aW (.int (jz c y 0) bv) aI h'' (bv+1) (st.trans aU) bq (.int _ _)
 rw[←e]at q
 exact q
end
end Mine
end
section
namespace Mine
open PySem PyProof.Rows
section
variable {ae:Program} {w:World} {ac:Heap} {A:Around} {env:Env} {l:List Env} {Φ:ci} {X:List Addr→Heap→Value→Ch→Prop} {mg mb:Str→Option Value} {fa:Fn→Addr}
theorem yL {a b c:E} {o x y:Expr} {ap pos:Pos} (hb0:cz o=true) (h1l:dn ap pos=true) (hp:∀pos,backTo pos (starEach [x,y] env)=[(false,eval x env),(false,eval y env)])
  (ha:aY ae w ac A env l Φ X a o) (hb:aY ae w ac A env l Φ X b x) (hc:aY ae w ac A env l Φ X c y):
  aY ae w ac A env l Φ X (.find2 a b c) (.Call (.Attribute o ("find":Str) ap) [x,y] [] pos):=fun σ ids s Q Ev S h=>by
 refine wpAny_Call_method (eW hb0 _ _ _) (by rw[hp];rfl) h1l F.plainAttrs_str F.slot_str_find F.type_str_find (ha σ ids s _ Ev S ((az h).mono (fun v ah au val am h' tk st aC aZ=>?_) fun _ _ k=>k))
 rw[hp]
 refine onS aZ au fun z t au=>⟨rfl,vw,Calls.callWith_builtin rfl (Calls.evalArgs_plain (Calls.spliced_cons (hb ah am _ _ Ev aC ((az au).mono (fun u aG aW c9 aI h'' bv aU bq cj=>?_) fun _ _ k=>k.later st))))⟩
 refine Calls.spliced_cons (hc aG aI _ _ Ev bq ((az aW).mono (fun u3 eO cY oz eX h3 cO et gK mB=>Calls.spliced_nil ?_) fun _ _ k=>k.later (st.trans aU)))
 refine satCI (P:=fun u u3=>bL h'' aI c9 u→bL h3 eX oz u3→wpAny (model ae w) A (call (.builtin "str.find") [.str (sx z) t,c9,oz]) Q Ev {s with heap:=h3,toks:=cO}) cY (fun d k cY cj mB=>?_) cj mB
 refine repS cj fun t2=>?_
 refine repI mB fun t3=>dp cY fun hk cY=>SC.find3 ?_
 have e:=xo d z k.toNat (Int.toNat_le.mpr hk.2)
 rw[Int.toNat_of_nonneg hk.1]at e
 rw[e]
 exact cY _ eX h3 _ ((st.trans aU).trans et) gK (.int _ _)
theorem uc {h:Heap} {ids:List Addr}:∀{vs:List V} {as:List Value} {ls:List Ch},bo h ids as vs→dW vs=some ls→StrsAre as (ls.map sx)
 |[],_,_,r,e=>repNil r (cD (P:=fun ls=>StrsAre [] (ls.map sx)) e .nil)
 |_::_,_,_,r,e=>repCons r fun y ys r1 r2=>u8 (P:=fun v ls=>bL h ids y v→StrsAre (y::ys) (ls.map sx)) e (fun _ _ q r1=>repS r1 fun _=>.cons _ _ (uc r2 q)) r1
theorem BU (ls:List Ch):Txt.join (sx []) (ls.map sx)=sx ls.flatten:=by
 have key:∀(r:List Ch) (acc:Ch),(r.map sx).foldl (fun acc p=>acc++(sx []).cps++p.cps) (sx acc).cps=(sx (acc++r.flatten)).cps:=fun r=>by
  induction r with
  |nil=>intro acc;simp
  |cons x r ih=>
   intro acc
   rw[List.map_cons,List.foldl_cons]
   have:(sx acc).cps++(sx []).cps++(sx x).cps=(sx (acc++x)).cps:=by simp[sx]
   rw[this,ih,List.flatten_cons,List.append_assoc]
 unfold Txt.join Builtin.Str.glued
 cases ls with
 |nil=>rfl
 |cons x r=>
  show(⟨(r.map sx).foldl _ (sx x).cps⟩:Str)=_
  rw[key]
  rfl
theorem DE {n m:Nat} (h:n≤100000):n+m*0≤16777216:=Nat.le_trans h (by decide)
theorem Fo (ls:List Ch):((ls.map sx).map (·.length)).sum=ls.flatten.length:=by
 rw[List.map_map,List.length_flatten];congr 1
 exact List.map_congr_left fun x _=>cy x
theorem A3 {a b:E} {o x:Expr} {ap pos:Pos} (hb0:cz o=true) (h1l:dn ap pos=true) (hp:∀pos,backTo pos (starEach [x] env)=[(false,eval x env)]) (ha:aY ae w ac A env l Φ X a o) (hb:aY ae w ac A env l Φ X b x):
  aY ae w ac A env l Φ X (.join a b) (.Call (.Attribute o ("join":Str) ap) [x] [] pos):=fun σ ids s Q Ev S h=>by
 refine wpAny_Call_method (eW hb0 _ _ _) (by rw[hp];rfl) h1l F.plainAttrs_str F.slot_str_join F.type_str_join (ha σ ids s _ Ev S ((az h).mono (fun v ah au val am h' tk st aC aZ=>?_) fun _ _ k=>k))
 rw[hp]
 refine onE aZ au fun t au=>⟨rfl,vw,Calls.callWith_builtin rfl (Calls.evalArgs_plain (Calls.spliced_cons (hb ah am _ _ Ev aC ((az au).mono (fun u aG aW c9 aI h'' bv aU bq cj=>Calls.spliced_nil ?_) fun _ _ k=>k.later st))))⟩
 refine onR cj aW fun p i hi aW=>Ho aW fun ls e aW=>bind_some e fun vs e e'=>dp aW fun hl aW=>(bq.hp.list hi e).elim fun items z=>z.elim fun n z=>?_
 refine join_list (items:=items) ⟨_,z.1,rfl,n,rfl⟩ (uc z.2 e') ?_ fun t' tk'=>?_
 ·rw[Fo,cy];exact DE hl.2
 ·rw[BU]
  exact aW _ aI h'' tk' (st.trans aU) bq (.str _ _)
theorem Bb {b:Addr} {p:Addr→Prop} (h:p b):∀a:Addr,Value.ref b=Value.ref a→p a:=fun _ e=>by cases e;exact h
theorem v7 {a b:E} {o x:Expr} {ap pos:Pos} (hb0:cz o=true) (h1l:dn ap pos=true) (hp:∀pos,backTo pos (starEach [x] env)=[(false,eval x env)]) (ha:aY ae w ac A env l Φ X a o) (hb:aY ae w ac A env l Φ X b x):
  aY ae w ac A env l Φ X (.append a b) (.Call (.Attribute o ("append":Str) ap) [x] [] pos):=fun σ ids s Q Ev S h=>by
 refine wpAny_Call_method (eW hb0 _ _ _) (by rw[hp];rfl) h1l F.plainAttrs_list F.slot_list_append F.type_list_append (ha σ ids s _ Ev S ((az h).mono (fun v ah au val am h' tk st aC aZ=>?_) fun _ _ k=>k))
 rw[hp]
 refine onR aZ au fun p i hi au=>uE au fun vs e au=>(aC.hp.list hi e).elim fun items z=>z.elim fun n z=>⟨⟨_,z.1,rfl⟩,Bb ⟨_,z.1,rfl⟩,P.append_list ?_⟩
 refine hb ah am _ _ Ev aC ((az au).mono (fun u aG aW c9 aI h'' bv aU bq cj=>?_) fun _ _ k=>k.later st)
 have AR:=aU.get hi
 refine uE aW fun us e' aW=>dp aW fun hl aW=>(bq.hp.list AR e').elim fun uA y=>y.elim fun IO y=>⟨uA,IO,by rw[show uA.size=us.length from y.2.length];exact fo hl,y.1,(gV y.1 (fun xs=>xs.push c9)).elim fun m e3=>?_⟩
 have k:Heap.SameBut p h'' (h''.update p (Obj.mapSeq fun xs=>xs.push c9)):=Heap.SameBut.update ..
 have stu:bx (frs l) aI h'' aI (h''.update p (Obj.mapSeq fun xs=>xs.push c9)):=gn (List.mem_of_getElem? AR) k ⟨_,e3⟩
 refine aW _ aI _ bv ((st.trans aU).trans stu) (bq.upd AR k ⟨_,m,e3,?_⟩) .none
 rw[Array.toList_push]
 exact bo.append (.cons (cj.step stu bq.noTup) .nil) (y.2.step stu bq.noTup)
theorem zi (items:Array Value):(items.eraseIdxIfInBounds (items.size-1)).toList=items.toList.take (items.size-1):=by
 unfold Array.eraseIdxIfInBounds
 split
 ·rw[Array.toList_eraseIdx,List.eraseIdx_eq_take_drop_succ,List.drop_eq_nil_of_le (show items.size≤items.size-1+1 from Nat.le_add_of_sub_le (Nat.le_refl _)),List.append_nil]
 ·rw[List.take_of_length_le (show items.size≤items.size-1 by omega)]
theorem DX {a:E} {o:Expr} {ap pos:Pos} (hb0:cz o=true) (h1l:dn ap pos=true) (ha:aY ae w ac A env l Φ X a o):
  aY ae w ac A env l Φ X (.pop a) (.Call (.Attribute o ("pop":Str) ap) [] [] pos):=fun σ ids s Q Ev S h=>by
 refine wpAny_Call_method (eW hb0 _ _ _) rfl h1l F.plainAttrs_list F.slot_list_pop F.type_list_pop (ha σ ids s _ Ev S ((az h).mono (fun v ah au val am h' tk st aC aZ=>?_) fun _ _ k=>k))
 refine onR aZ au fun p i hi au=>uE au fun vs e au=>Eo au fun v e' au=>dp au fun hl au=>(aC.hp.list hi e).elim fun items z=>z.elim fun n z=>?_
 have hs:items.size=vs.length:=z.2.length
 refine(z.2.get (List.getLast?_eq_getElem?.symm.trans e')).elim fun y g=>?_
 refine⟨⟨_,z.1,rfl⟩,Bb ⟨_,z.1,rfl⟩,P.pop_list (y:=y) z.1 (by rw[hs, ←Array.getElem?_toList];exact g.1) ((gV z.1 (fun xs=>xs.eraseIdxIfInBounds (items.size-1))).elim fun m e3=>?_) (by rw[hs];exact fo hl)⟩
 have k:Heap.SameBut p h' (h'.update p (Obj.mapSeq fun xs=>xs.eraseIdxIfInBounds (items.size-1))):=Heap.SameBut.update ..
 have stu:bx (frs l) am h' am (h'.update p (Obj.mapSeq fun xs=>xs.eraseIdxIfInBounds (items.size-1))):=gn (List.mem_of_getElem? hi) k ⟨_,e3⟩
 refine au _ am _ tk (st.trans stu) (aC.upd hi k ⟨_,m,e3,?_⟩) (g.2.step stu aC.noTup)
 rw[zi,List.dropLast_eq_take, ←hs]
 exact(z.2.take (items.size-1)).step stu aC.noTup
theorem zm {o1 o2:zJ} {a b c:E} {x y z:Expr} {p:Pos} (C:gb ac A env mg mb fa) (hm:lastMarks [iz o1,iz o2] [y,z]=false) (ha:aY ae w ac A env l Φ X a x) (hb:aY ae w ac A env l Φ X b y) (hc:aY ae w ac A env l Φ X c z):
  jw ae w ac A env l Φ X (.cmp2 o1 o2 a b c) (.Compare x [iz o1,iz o2] [y,z] p):=fun σ ids s Q Ev S h=>by
 refine isTrue_chain (ha σ ids s _ Ev S ((az (az h)).mono (fun v ah au val am h' tk st aC aZ=>?_) fun _ _ k=>k)) hm
 refine test_link (hb ah am _ _ Ev aC ((az au).mono (fun u aG aW c9 aI h'' bv aU bq cj=>?_) fun _ _ k=>k.later st))
 refine EP aW (fun e aW=>?_) fun e aW=>el (s:={s with heap:=h'',toks:=bv}) bq.hp (aZ.step aU aC.noTup) cj e C.u1 fun cO=>wpAny_truthy_bool (aW aI h'' cO (st.trans aU) bq)
 refine el (s:={s with heap:=h'',toks:=bv}) bq.hp (aZ.step aU aC.noTup) cj e C.u1 fun cO=>wpAny_truthy_bool ?_
 refine test_last (hc aG aI {s with heap:=h'',toks:=cO} _ Ev bq ((az aW).mono (fun t eO cY oz eX h3 lr et gK mB=>?_) fun _ _ k=>k.later (st.trans aU)))
 refine jO cY fun r e k=>?_
 obtain⟨b,e',rfl⟩:=Option.map_eq_some_iff.mp e
 exact el (s:={s with heap:=h3,toks:=lr}) gK.hp (cj.step et bq.noTup) mB e' C.u1 fun uJ=>wpAny_truthy_bool (k eX h3 uJ ((st.trans aU).trans et) gK)
end
end Mine
end
section
namespace Mine
open PySem PyProof.Rows
section
variable {ae:Program} {w:World} {ac:Heap} {A:Around} {env:Env} {l:List Env} {Φ:ci} {X:List Addr→Heap→Value→Ch→Prop} {mg mb:Str→Option Value} {fa:Fn→Addr}
noncomputable def Id (env:Env) (pos:Pos):List (Option Expr)→List Expr→List (Sem Value×Sem Value)
 |some k::ns,x::xs=>(eval k env,do let v←eval x env;standAt pos;pure v)::Id env pos ns xs
 |_,_=>[]
inductive nw:List Ch→List (Option Expr)→Prop
 |nil:nw [] []
 |cons {k:Ch} {ks:List Ch} {ns:List (Option Expr)} {q:Nat} {p:Pos}:nw ks ns→nw (k::ks) (some (.Constant (.str (sx k)) q p)::ns)
theorem E4:∀{ks:List Ch} {ns:List (Option Expr)},B2 ks ns=true→nw ks ns
 |[],_,h=>cI (P:=nw []) h .nil
 |k::ks,_,h=>cV (P:=nw (k::ks)) h fun _ ns h=>fS (P:=fun n=>nw (k::ks) (n::ns)) h fun _ h=>cB (P:=fun x=>nw (k::ks) (some x::ns)) h fun _ q p h=>
  cU (P:=fun c=>nw (k::ks) (some (.Constant c q p)::ns)) h fun h=>.cons (E4 h)
theorem zh (pos:Pos) {ks:List Ch} {ns:List (Option Expr)} (hk:nw ks ns):∀{xs:List Expr},ks.length=xs.length→
  (evalEachOpt ns env).zip ((evalEach xs env).map fun v=>do let x←v;standAt pos;pure x)=(Id env pos ns xs).map (fun p=>(some p.1,p.2))∧(Id env pos ns xs).length=ks.length∧ns.length=ks.length:=by
 induction hk with
 |nil=>
  intro xs hl
  cases xs with
  |nil=>exact⟨rfl,rfl,rfl⟩
  |cons _ _=>cases hl
 |@cons k ks ns q p _ ih=>
  intro xs hl
  cases xs with
  |nil=>cases hl
  |cons x xs=>
   obtain⟨a,b,c⟩:=ih (Nat.succ.inj hl)
   refine⟨?_,congrArg (· +1) b,congrArg (· +1) c⟩
   show(_,_)::((evalEachOpt ns env).zip ((evalEach xs env).map fun v=>do let x←v;standAt pos;pure x))=_
   rw[a];rfl
theorem Gx (pos:Pos) {ks:List Ch} {ns:List (Option Expr)} (hk:nw ks ns):∀{es:Es} {xs:List Expr},ks.length=xs.length→gJ ae w ac A env l Φ X es xs→
  ∀(σ:St) (ids:List Addr) (s:Shared) (Q:List (Value×Value)→Shared→Prop) (Ev:Value→Shared→Prop),c6 ae w ac env l ids σ s.heap→
  bG (B0 Φ es σ) (fun vs σ'=>∀kvs skv ids' h' tk,bx (frs l) ids s.heap ids' h'→c6 ae w ac env l ids' σ' h'→Carries (strKind ae w) kvs skv→skv.map (·.1)=ks.map sx→fR h' ids' skv (yQ ks vs)→Q kvs {s with heap:=h',toks:=tk})
   (KX ae w ac env l X ids s Ev)→wpAny (model ae w) A (evalPairs (Id env pos ns xs)) Q Ev s:=by
 induction hk with
 |nil=>
  intro es xs hl hs σ ids s Q Ev S h
  cases xs with
  |cons _ _=>cases hl
  |nil=>
   cases es with
   |cons _ _=>exact hs.elim
   |nil=>
    exact evalPairs_nil (h [] [] ids s.heap s.toks (.refl _ _ _) S trivial rfl .nil)
 |@cons k ks ns q p _ ih=>
  intro es xs hl hs σ ids s Q Ev S h
  cases xs with
  |nil=>cases hl
  |cons x xs=>
   cases es with
   |nil=>exact hs.elim
   |cons e es=>
    refine evalPairs_cons (wW (Φ:=Φ) (X:=X) (x:=k) σ ids s _ Ev S ?_)
    intro kv gz bP I8 Co ID IW
    refine repS IW fun Jz=>?_
    refine wpAny_bind (hs.1.1 σ gz _ _ Ev ID ((az h).mono (fun v ah au val am h' tk st aC aZ=>?_) fun _ _ k=>k.later Co))
    refine wpAny_bind (wpAny_standAt (wpAny_pure ?_))
    refine ih (Nat.succ.inj hl) hs.2 ah am _ _ Ev aC ((az au).mono (fun vs aG aW kvs skv aI h'' bv aU bq hc hm hd=>?_) fun _ _ k=>k.later (Co.trans st))
    exact aW _ ((sx k,val)::skv) aI h'' bv ((Co.trans st).trans aU) bq ⟨strKind_is _ _ _ _,rfl,hc⟩ (congrArg (sx k:: ·) hm) (.cons (aZ.step aU aC.noTup) hd)
theorem Iw {o:Option (List (Ch×V))} {m:R V} {Q:V→St→Prop} {Y:Ch→St→Prop} {G:Prop} (h:bG (match(generalizing:=false) o with|some []=>m|_=>Option.none) Q Y) (f:o=some []→bG m Q Y→G):G:=by
 cases o with
 |none=>exact h.elim
 |some l=>cases l with
  |nil=>exact f rfl h
  |cons _ _=>exact h.elim
theorem Eh {ks:List Ch} {ns:List (Option Expr)} {es:Es} {xs:List Expr} {p:Pos} (hk:nw ks ns) (hl:ks.length=xs.length) (hn:ks.Nodup) (h15:ns.length≤15) (h0:ks≠[]) (hs:gJ ae w ac A env l Φ X es xs):
  aY ae w ac A env l Φ X (.dct ks es) (.Dict ns xs p):=fun σ ids s Q Ev S h=>by
 obtain⟨sh,sl,nl⟩:=zh (env:=env) p hk hl
 refine wpAny_Dict_pairs (knd:=strKind ae w) sh (fun q=>h0 (List.length_eq_zero_iff.mp (sl.symm.trans (congrArg List.length q)))) (by rw[sl, ←nl];exact h15) ?_
 have g:cg s.heap (s.heap.push {cls:=.type "dict",data:=.dict #[]}):=cg.push _ _
 have stn:bx (frs l) ids s.heap (ids++[s.heap.objs.size]) (s.heap.push {cls:=.type "dict",data:=.dict #[]}):=gq g (cb _)
 have S0:=S.new (o:=.dict []) g (cb _) ⟨[],Heap.DictOf.new s.heap,.nil⟩
 refine Gx p hk hl hs _ _ {s with heap:=s.heap.push {cls:=.type "dict",data:=.dict #[]}} _ Ev S0 ((az h).mono (fun vs ah au kvs skv am h' tk st aC hc hm hd=>?_) fun _ _ k=>k.later (tk:=s.toks) stn)
 refine Iw au fun e au=>?_
 have hi:am[σ.hp.length]? =some s.heap.objs.size:=st.get (S.hp.len▸List.getElem?_concat_length)
 refine(aC.hp.dict (s:={s with heap:=h'}) hi e).elim fun kv0 z=>?_
 have hd0:=z.1
 cases z.2.1
 have mg:merged [] skv=skv:=merged_nil_of_nodup skv (hm▸List.pairwise_map.mpr (hn.imp fun ne q=>ne (As q)))
 refine⟨skv,hc,hd0,fun h2 d2 sb=>?_⟩
 rw[mg]at d2
 have stu:bx (frs l) am h' am h2:=gn (List.mem_of_getElem? hi) sb (let ⟨o,_,_,eo,_⟩:=d2;⟨o,eo⟩)
 exact au _ am h2 _ ((stn.trans st).trans stu) (aC.upd hi sb ⟨skv,d2,hd.step stu aC.noTup⟩) (.ref hi)
end
end Mine
end
section
namespace Mine
open PySem PyProof.Rows
noncomputable def tC (I:Addr) (h h':Heap):Prop:=∀b o,b≠I→h.get? b=some o→h'.get? b=some o
section
variable {I:Addr} {h h':Heap} {ids:List Addr} (k:tC I h h') (hI:∀items n,h.get? I≠some (kW items n))
include k hI
theorem tC.tup {a:Addr} {items:Array Value} {n:Nat} (e:h.get? a=some (kW items n)):h'.get? a=some (kW items n):=k _ _ (fun q=>hI _ _ (q▸e)) e
theorem bL.but {a:Value} {v:V} (r:bL h ids a v):bL h' ids a v:=r.map (fun _ _ _=>k.tup hI) fun _ _ e=>e
theorem bo.but {as:List Value} {vs:List V} (r:bo h ids as vs):bo h' ids as vs:=r.map (fun _ _ _=>k.tup hI) fun _ _ e=>e
end
theorem fR.but {I:Addr} {h h':Heap} {ids:List Addr} (k:tC I h h') (hI:∀items n,h.get? I≠some (kW items n)) {as:List (Str×Value)} {vs:List (Ch×V)} (r:fR h ids as vs):fR h' ids as vs:=by
 induction r with
 |nil=>exact .nil
 |cons r _ ih=>exact .cons (r.but k hI) ih
section
variable {ae:Program} {w:World} {ac:Heap} {A:Around} {env:Env} {l:List Env} {ids:List Addr} {σ:St} {h h':Heap} {I:Addr}
structure k9 (ac:Heap) (l:List Env) (ids:List Addr) (h:Heap) (I:Addr):Prop where
 ids:I∉ids
 frs:I∉frs l
 low:ac.get? I=none
 kind:∀o,h.get? I=some o→(∀items n,o.data≠ .seq items n)∧∀v,o.data≠ .cell v
theorem k9.tup (x:k9 ac l ids h I):∀items n,h.get? I≠some (kW items n):=fun items n e=>(x.kind _ e).1 items n rfl
theorem cQ.but {H:List O} (R:cQ ae w ac ids H h) (x:k9 ac l ids h I) (k:tC I h h'):cQ ae w ac ids H h':=by
 refine⟨R.len,R.nodup,fun i a o e1 e2=>?_,R.above,fun b o e=>k b o (fun q=>by rw[q,x.low]at e;cases e) (R.base b o e),R.sys⟩
 have ha:a≠I:=fun q=>x.ids (q▸List.mem_of_getElem? e1)
 have:=R.obj i a o e1 e2
 cases o with
 |list vs=>
  obtain⟨items,n,e,r⟩:=this
  exact⟨items,n,k _ _ ha e,r.but k x.tup⟩
 |dict es=>
  obtain⟨kvs,⟨o,en,ep,e,z⟩,r⟩:=this
  exact⟨kvs,⟨o,en,ep,k _ _ ha e,z⟩,r.but k x.tup⟩
theorem j9.but (f:j9 ac ids h l) (x:k9 ac l ids h I) (k:tC I h h'):j9 ac ids h' l:=fun e he=>by
 obtain⟨kk,L,o,es,n,h1,h2,h3,h4,h5⟩:=f e he
 exact⟨kk,L,o,es,n,h1,h2,h3,k L o (fun q=>x.frs (q▸List.mem_filterMap.mpr ⟨e,he,h1⟩)) h4,h5⟩
theorem kM.but {loc:List (Option V)} (r:kM env ids loc h) (x:k9 ac l ids h I) (hI:I≠env.locals) (k:tC I h h'):kM env ids loc h':=by
 obtain⟨m,⟨o,es,ep,e,z⟩,q⟩:=r.ns
 refine⟨r.out,⟨m,⟨o,es,ep,k _ _ (Ne.symm hI) e,z⟩,fun i id v e1 e2=>?_⟩,fun i id kd v e1 e2 e3=>?_⟩
 ·obtain⟨val,h1,h2⟩:=q i id v e1 e2
  exact⟨val,h1,h2.but k x.tup⟩
 ·obtain⟨c,val,h1,⟨o',e',d⟩,h3⟩:=r.cells i id kd v e1 e2 e3
  exact⟨c,val,h1,⟨o',k _ _ (fun q=>by subst q;exact(x.kind _ e').2 _ d) e',d⟩,h3.but k x.tup⟩
theorem c6.but (S:c6 ae w ac env l ids σ h) (x:k9 ac l ids h I) (hI:I≠env.locals) (k:tC I h h'):c6 ae w ac env l ids σ h':=
 ⟨S.hp.but x k,S.fr.but x k,S.lo.but x hI k⟩
theorem bx.but {F ids':List Addr} {bP:Heap} (x:bx F ids bP ids' h) (h0:bP.get? I=none) (k:tC I h h'):bx F ids bP ids' h':=by
 have ne:∀{a o},bP.get? a=some o→a≠I:=fun e q=>by rw[q,h0]at e;cases e
 refine⟨x.pre,⟨fun a o e=>?_,fun a o h1 h2 e h3=>k a o (ne e) (x.keep.exact a o h1 h2 e h3),fun a o h1 e h3=>?_⟩⟩
 ·obtain⟨o',e'⟩:=x.keep.dom a o e
  exact⟨o',k a o' (ne e) e'⟩
 ·obtain⟨sl,e'⟩:=x.keep.slots a o h1 e h3
  exact⟨sl,k a _ (ne e) e'⟩
noncomputable def eB (h:Heap) (ids:List Addr) (I:Addr) (i:Nat):V→Prop
 | .ref j=>∃a,ids[j]? =some a∧h.IsListIter I a i
 | .tup vs=>∃a items n,h.get? a=some (kW items n)∧bo h ids items.toList vs∧h.IsTupleIter I a i
 |_=>False
theorem eB.inv {i:Nat} {src:V} {P:V→Prop} (x:eB h ids I i src) (h1:∀j a,ids[j]? =some a→h.IsListIter I a i→P (.ref j)) (h2:∀vs a items n,h.get? a=some (kW items n)→bo h ids items.toList vs→h.IsTupleIter I a i→P (.tup vs)):P src:=by
 cases src with
 |ref j=>exact x.elim fun a z=>h1 j a z.1 z.2
 |tup vs=>exact x.elim fun a z=>z.elim fun items z=>z.elim fun n z=>h2 vs a items n z.1 z.2.1 z.2.2
 |_=>exact x.elim
theorem eB.get {i:Nat} {src:V} (x:eB h ids I i src):∃o vs,h.get? I=some o∧o.data=.fields vs∧(o.cls=.type "list_iterator"∨o.cls=.type "tuple_iterator"):=
 x.inv (P:=fun _=>_) (fun _ _ _ z=>z.elim fun o z=>⟨o,_,z.1,z.2.2,.inl z.2.1⟩) fun _ _ _ _ _ _ z=>z.elim fun o z=>⟨o,_,z.1,z.2.2,.inr z.2.1⟩
theorem eB.step {F ids':List Addr} {i:Nat} {src:V} (x:eB h ids I i src) (st:bx F ids h ids' h') (nt:km F ids h) (h1:I∉ids) (h2:I∉F):eB h' ids' I i src:=
 x.inv (P:=eB h' ids' I i) (fun _ a e z=>z.elim fun o z=>⟨a,st.get e,o,st.keep.exact _ _ h1 h2 z.1 (.inr (.inl z.2.1)),z.2⟩)
  fun _ a items n e r z=>z.elim fun o z=>⟨a,items,n,st.tup nt e,r.step st nt,o,st.keep.exact _ _ h1 h2 z.1 (.inr (.inr z.2.1)),z.2⟩
theorem eB.but {J:Addr} {i:Nat} {src:V} (x:eB h ids I i src) (k:tC J h h') (hne:I≠J) (hJ:∀items n,h.get? J≠some (kW items n)):eB h' ids I i src:=
 x.inv (P:=eB h' ids I i) (fun _ a e z=>z.elim fun o z=>⟨a,e,o,k _ _ hne z.1,z.2⟩) fun _ a items n e r z=>z.elim fun o z=>⟨a,items,n,k.tup hJ e,r.but k hJ,o,k _ _ hne z.1,z.2⟩
theorem eB.apart {i:Nat} {src:V} (x:eB h ids I i src) (h1:I∉ids) (h2:I∉Mine.frs l) (h3:ac.get? I=none):k9 ac l ids h I:=⟨h1,h2,h3,fun o e=>by
 obtain⟨o',vs,e',d,_⟩:=x.get
 rw[e]at e';cases e'
 exact⟨fun _ _ q=>by(rw[d]at q;cases q),fun _ q=>by(rw[d]at q;cases q)⟩⟩
variable {s:Shared}
theorem ud {src:V} {items:List V} {val:Value} {Q Ev:Value→Shared→Prop} (R:cQ ae w ac ids σ.hp s.heap) (r:bL s.heap ids val src) (e:bW σ.hp src=some items)
  (hQ:∀o:Obj,eB (s.heap.push o) ids s.heap.objs.size 0 src→Q (.ref s.heap.objs.size) {s with heap:=s.heap.push o}):wpAny (model ae w) A (pyIter val) Q Ev s:=by
 refine me (P:=fun src=>bL s.heap ids val src→(∀o:Obj,eB (s.heap.push o) ids s.heap.objs.size 0 src→Q (.ref s.heap.objs.size) {s with heap:=s.heap.push o})→_) e (fun r hQ=>?_) (fun i hl r hQ=>?_) r hQ
 ·exact repT r fun a its n e1 rs=>wpAny_pyIter_tuple (items:=its) ⟨_,e1,rfl,n,rfl⟩ (hQ _ ⟨a,its,n,Heap.get?_push_of_some _ e1,rs.map (fun _ _ _ e=>Heap.get?_push_of_some _ e) (fun _ _ e=>e),_,Heap.get?_push_size _ rfl,rfl,rfl⟩)
 ·exact repR r fun a hi=>(R.list hi hl).elim fun its z=>z.elim fun n z=>wpAny_pyIter_list (items:=its) ⟨_,z.1,rfl,n,rfl⟩ (hQ _ ⟨a,hi,_,Heap.get?_push_size _ rfl,rfl,rfl⟩)
theorem zg {i:Nat} {src:V} {Q Ev:Value→Shared→Prop} (x:eB s.heap ids I i src) (h:Q (.ref I) s):wpAny (model ae w) A (pyIter (.ref I)) Q Ev s:=
 x.inv (P:=fun _=>_) (fun _ _ _ x=>wpAny_pyIter_listiter x h) fun _ _ _ _ _ _ x=>wpAny_pyIter_tupleiter x h
theorem xf {its:Array Value} {items:List V} {i:Nat} {G:Prop} (rs:bo s.heap ids its.toList items) (h1:its[i]? =none→items[i]? =none→G) (h2:∀y v,its[i]? =some y→items[i]? =some v→bL s.heap ids y v→G):G:=by
 have hs:its.size=items.length:=rs.length
 cases q2:items[i]? with
 |none=>exact h1 (Array.getElem?_eq_none (hs▸List.getElem?_eq_none_iff.mp q2)) q2
 |some v=>exact(rs.get q2).elim fun y z=>h2 y v (Array.getElem?_toList.symm.trans z.1) q2 z.2
theorem qV {i:Nat} {src:V} {items:List V} {Q:Option Value→Shared→Prop} {Ev:Value→Shared→Prop} (hh:A.handled=none) (R:cQ ae w ac ids σ.hp s.heap) (x:eB s.heap ids I i src) (hI:I∉ids) (e:bW σ.hp src=some items)
  (h1:∀v val h',items[i]? =some v→bL s.heap ids val v→tC I s.heap h'→eB h' ids I (i+1) src→Q (some val) {s with heap:=h'})
  (h2:∀h',items[i]? =none→tC I s.heap h'→Q none {s with heap:=h'}):wpAny (model ae w) A (pyNext (.ref I)) Q Ev s:=by
 have bt:∀{h':Heap},Heap.SameBut I s.heap h'→tC I s.heap h':=fun k b o q e=>(k.2 b q).trans e
 refine x.inv (P:=fun src=>bW σ.hp src=some items→(∀v val h',items[i]? =some v→bL s.heap ids val v→tC I s.heap h'→eB h' ids I (i+1) src→Q (some val) {s with heap:=h'})→_) (fun j a hj x e h1=>?_) (fun vs a its n e1 rs x e h1=>?_) e h1
 ·refine(R.list hj e).elim fun its z=>z.elim fun n z=>?_
  have il:s.heap.IsList a its:=⟨_,z.1,rfl,n,rfl⟩
  exact xf z.2 (fun q q2=>wpAny_pyNext_list_end hh x il q fun h' k=>h2 h' q2 fun b o q e=>k b o q e) fun y v q q2 r=>wpAny_pyNext_list_item x il q fun h' x' k=>h1 v _ h' q2 r (bt k) ⟨a,hj,x'⟩
 ·have il:s.heap.IsTuple a its:=⟨_,e1,rfl,n,rfl⟩
  have e:vs=items:=Option.some.inj e
  have nI:∀items n,s.heap.get? I≠some (kW items n):=fun _ _ e'=>x.elim fun o z=>by
   have:=e'.symm.trans z.1
   cases Option.some.inj this▸z.2.2
  exact xf (e▸rs) (fun q q2=>wpAny_pyNext_tuple_end hh x il q fun h' k=>h2 h' q2 fun b o q e=>k b o q e) fun y v q q2 r=>wpAny_pyNext_tuple_item x il q fun h' x' k=>h1 v _ h' q2 r (bt k) ⟨a,its,n,(bt k).tup nI e1,rs.but (bt k) nI,x'⟩
end
end Mine
end
section
namespace Mine
open PySem PyProof.Rows
theorem pD {sc:Scope} {e:E} {x:Expr} (h:bw sc e x=true) (env:Env) (v:Value):foldedSetIterable x env v=pure v:=by
 cases x<;>first|rfl|(cases e<;>exact Bool.noConfusion (show false=true from h))
theorem jV {H:List O} {i:Nat} {vs:List V} (e:listOf? H i=some vs):i<H.length∧H[i]? =some (.list vs):=⟨(List.getElem?_eq_some_iff.mp (gp e)).1,gp e⟩
theorem rt {H:List O} {src:V} {items:List V} (e:bW H src=some items) (o:O):bW (H++[o]) src=some items:=
 me (P:=fun src=>bW (H++[o]) src=some items) e rfl fun _ e=>gY ((List.getElem?_append_left (jV e).1).trans (jV e).2)
theorem y3 {H:List O} {src:V} {items:List V} {D:Nat} {o:O} (e:bW H src=some items):src≠ .ref D→bW (H.set D o) src=some items:=
 me (P:=fun src=>src≠ .ref D→bW (H.set D o) src=some items) e (fun _=>rfl) fun _ e hne=>gY ((List.getElem?_set_ne fun q=>hne (congrArg V.ref q.symm)).trans (gp e))
theorem vX (H:List O) (vs:List V):listOf? (H++[.list vs]) H.length=some vs:=gY List.getElem?_concat_length
theorem vC {H:List O} {D:Nat} {vs us:List V} (e:listOf? H D=some vs):listOf? (H.set D (.list us)) D=some us:=gY (List.getElem?_set_self (jV e).1)
section
variable {ae:Program} {w:World} {ac:Heap} {A:Around} {env:Env} {l:List Env} {Φ:ci} {X:List Addr→Heap→Value→Ch→Prop} {mg mb:Str→Option Value} {fa:Fn→Addr}
theorem rH {E:Value→Shared→Prop} {s:Shared} {a:Addr} {items:Array Value} {n:Nat} {x:Value} {Q:Value→Shared→Prop} (e:s.heap.get? a=some (Du items n)) (hsz:items.size<10000)
  (hQ:Q .none {s with heap:=s.heap.update a (Obj.mapSeq (·.push x))}):wpAny (model ae w) A (call (.builtin "list.append") [.ref a,x]) Q E s:=by
 refine wpAny_call_entry slot_list_append ⟨_,e,rfl⟩ entry_list_append ?_ (args_list_append _ _)
 show wpAny _ _ (updateSeq a (·.push x)>>= fun _=>ret .none) _ _ s
 refine wpAny_bind ?_
 refine wpAny_updateSeq (xs:=items) e rfl (wpAny_pure ⟨.none,rfl,hQ⟩) (fo hsz) (by rw[Array.size_push];exact Nat.succ_le_succ (fo hsz))
structure CI (ae:Program) (w:World) (ac:Heap) (env cenv:Env) (l:List Env) (src:V) (kD fv:List (Option V)) (gz:List Addr) (bP:Heap) (I D:Addr) (Dn i:Nat) (H:List O) (ids:List Addr) (h:Heap):Prop where
 hp:cQ ae w ac ids H h
 fr:j9 ac ids h l
 lo:kM env ids kD h
 li:kM cenv ids (none::none::fv) h
 st:bx (frs l) gz bP ids h
 it:eB h ids I i src
 iI:I∉ids
 dd:ids[Dn]? =some D
theorem yp {v:V} {fv:List (Option V)}:∀(j:Nat) (u:V),(none::none::fv)[j]? =some (some u)→(none::some v::fv)[j]? =some (some u)
 |0,_,e=>nomatch e
 |1,_,e=>nomatch e
 |_+2,_,e=>e
theorem kM.weaken {cenv:Env} {ids:List Addr} {h:Heap} {v:V} {fv:List (Option V)} (r:kM cenv ids (none::some v::fv) h):kM cenv ids (none::none::fv) h:=
 ⟨r.out,r.ns.elim fun m z=>⟨m,z.1,fun j id u e1 e2=>z.2 j id u e1 (yp _ _ e2)⟩,fun j id k u e1 e2 e3=>r.cells j id k u e1 e2 (yp _ _ e3)⟩
theorem Aq {h:Heap} {ids:List Addr} {L:Addr} {m:Str→Option Value} (h1:L∉ids) (h2:L∉frs l) (h3:ac.get? L=none) (hn:h.Ns L m):k9 ac l ids h L:=⟨h1,h2,h3,fun o e=>by
 obtain⟨o',es,ep,e',d,_⟩:=hn
 cases e.symm.trans e'
 exact⟨fun _ _ q=>(by cases d.symm.trans q),fun _ q=>(by cases d.symm.trans q)⟩⟩
inductive CL (ae:Program) (w:World) (ac:Heap) (env cenv:Env) (l:List Env) (Φ:ci) (elt:E) (src:V) (items:List V) (kD fv:List (Option V)) (gz:List Addr) (bP:Heap) (I D:Addr) (Dn:Nat) (Hf:List O) (s:Shared) (n:Nat):Shared→Prop
 |mk (i:Nat) (acc:List V) (H:List O) (ids:List Addr) (h:Heap) (tk:Nat):i+n=items.length→acc.length=i→CI ae w ac env cenv l src kD fv gz bP I D Dn i H ids h→bW H src=some items→listOf? H Dn=some acc→
  jD Dn src items (fun v H=>eE Φ elt ⟨none::some v::fv,H⟩) (items.drop i) acc H=some Hf→CL ae w ac env cenv l Φ elt src items kD fv gz bP I D Dn Hf s n {s with heap:=h,toks:=tk}
theorem zA {elt:E} {x iter:Expr} {v:Str} {pv:Pos} {csc:Scope} {pos:Pos} {cenv:Env} {src:V} {items:List V} {kD fv:List (Option V)} {gz:List Addr} {bP:Heap} {I D:Addr} {Dn:Nat} {Hf:List O} {s:Shared} {R:Result→Shared→Prop}
  (hh:A.handled=none) (hkind:cenv.scope.kind=.function) (nd:(cenv.scope.names.map (·.1)).Nodup) (hv:cenv.scope.names[1]? =some (v,.local)) (clow:ac.get? cenv.locals=none)
  (hx:aY ae w ac A cenv l Φ X elt x) (hlen:items.length<10000)
  (iF:I∉frs l) (il:ac.get? I=none) (ie:I≠env.locals) (ic:I≠cenv.locals) (i0:bP.get? I=none) (cF:cenv.locals∉frs l) (c0:bP.get? cenv.locals=none) (ce:cenv.locals≠env.locals) (hne:src≠ .ref Dn)
  (hR:∀ids h' tk,cQ ae w ac ids Hf h'→j9 ac ids h' l→kM env ids kD h'→kM cenv ids (none::none::fv) h'→bx (frs l) gz bP ids h'→ids[Dn]? =some D→R (.ok .next) {s with heap:=h',toks:=tk}):
  ∀(k i:Nat) (acc:List V) (H:List O) (ids:List Addr) (h:Heap) (tk:Nat),i+k=items.length→acc.length=i→CI ae w ac env cenv l src kD fv gz bP I D Dn i H ids h→bW H src=some items→listOf? H Dn=some acc→
   jD Dn src items (fun v H=>eE Φ elt ⟨none::some v::fv,H⟩) (items.drop i) acc H=some Hf→
   codeAny (model ae w) A (.compLoop (.ListComp x [⟨.Name v pv,iter,[],0⟩] csc pos) 0 (.ref I) (.ref D) cenv) R {s with heap:=h,toks:=tk}:=by
 have ckn:cenv.kindOf v=some .local:=dg nd hv
 intro k i acc H ids h tk hik hacc C e1 e2 e3
 refine codeAny_compLoop_tests (I:=CL ae w ac env cenv l Φ elt src items kD fv gz bP I D Dn Hf s) ?_ k ⟨i,acc,H,ids,h,tk,hik,hacc,C,e1,e2,e3⟩
 clear e3 e2 e1 C hacc hik tk h ids H acc i k
 intro n _ c
 cases c with|mk i acc H ids h tk hik hacc C e1 e2 e3=>?_
 have ap:=C.it.apart (ac:=ac) (l:=l) C.iI iF il
 refine qV (σ:=⟨kD,H⟩) hh C.hp C.it C.iI e1 (fun v' val h1 q2 rv bt x1=>?_) fun h1 q bt=>?_
 ·--a turn
  have st1:=C.st.but i0 bt
  have li1:=C.li.but ap ic bt
  refine li1.ns.elim fun m hn=>?_
  have hn:=hn.1
  refine wpAny_assign_Name (wpAny_storeName_local ckn hn (fun h2 hn2 sb2=>?_) (by rw[hkind];rfl))
  have S2:=c6.store (σ:=⟨none::none::fv,H⟩) (i:=1) ⟨C.hp.but ap bt,C.fr.but ap bt,li1⟩ nd clow hv hn hn2 sb2 (rv.but bt ap.tup)
  have apC:=Aq li1.out cF clow hn
  have btC:tC cenv.locals h1 h2:=fun b o q e=>(sb2.2 b q).trans e
  have nA:=(C.lo.but ap ie bt).but apC ce btC
  have it2:eB h2 ids I (i+1) src:=x1.but btC ic apC.tup
  have st2:=st1.but c0 btC
  refine wpAny_tests_nil ?_
  rw[if_pos rfl]
  have q3:=List.getElem?_eq_some_iff.mp q2
  rw[List.drop_eq_getElem_cons q3.1]at e3
  refine qz e3 fun rr σ' e4 hc1 hc2 e3=>hx ⟨none::some v'::fv,H⟩ ids _ _ _ S2 ?_
  rw[show eE Φ elt ⟨none::some v'::fv,H⟩=some (.ok rr,σ') from q3.2▸e4]
  intro val4 ids4 h4 tk4 st4 S4 r4
  have nt2:=S2.noTup
  have hDi:ids4[Dn]? =some D:=st4.get C.dd
  refine(S4.hp.list hDi hc2).elim fun its z=>z.elim fun nn z=>?_
  have hlt:acc.length<items.length:=hacc▸q3.1
  refine rH z.1 (show its.size<10000 from(show its.size=acc.length from z.2.length)▸Nat.lt_trans hlt hlen) ?_
  refine(gV z.1 (fun xs=>xs.push val4)).elim fun m5 e5=>?_
  have sb5:Heap.SameBut D h4 (h4.update D (Obj.mapSeq fun xs=>xs.push val4)):=Heap.SameBut.update ..
  have stu:bx (frs l) ids4 h4 ids4 (h4.update D (Obj.mapSeq fun xs=>xs.push val4)):=gn (List.mem_of_getElem? hDi) sb5 ⟨_,e5⟩
  have S5:=S4.upd hDi sb5 (o:=.list (acc++[rr])) ⟨_,m5,e5,by
   rw[Array.toList_push]
   exact bo.append (.cons (r4.step stu S4.noTup) .nil) (z.2.step stu S4.noTup)⟩
  have iI4:I∉ids4:=st4.out C.iI (it2.get.elim fun o z=>z.elim fun _ z=>⟨o,z.1⟩)
  exact⟨n-1,Nat.sub_lt (by omega) Nat.one_pos,.mk (i+1) (acc++[rr]) (σ'.hp.set Dn (.list (acc++[rr]))) ids4 _ tk4 (by omega) (by rw[List.length_append,hacc];rfl)
   ⟨S5.hp,S5.fr,((nA.step S2.hp nt2 st4).step S4.hp S4.noTup stu),((S2.lo.weaken.step S2.hp nt2 st4).step S4.hp S4.noTup stu),(st2.trans st4).trans stu,((it2.step st4 nt2 C.iI iF).step stu S4.noTup iI4 iF),iI4,hDi⟩
   (y3 hc1 hne) (vC hc2) e3⟩
 ·rw[List.drop_eq_nil_of_le (List.getElem?_eq_none_iff.mp q),jD]at e3
  cases e3
  exact hR ids h1 tk (C.hp.but ap bt) (C.fr.but ap bt) (C.lo.but ap ie bt) (C.li.but ap ic bt) (C.st.but i0 bt) C.dd
end
end Mine
end
section
namespace Mine
open PySem PyProof.Rows
section
variable {ae:Program} {w:World} {ac:Heap} {A:Around} {env:Env} {l:List Env} {Φ:ci} {X:List Addr→Heap→Value→Ch→Prop} {mg mb:Str→Option Value} {fa:Fn→Addr}
theorem xi {a b:Nat} (h:a<b∨b<a):a≠b:=by omega
theorem mM {sc:Scope} {P:List Nat→List (Str×NameKind)→Prop} (h0:∀r,(∀y∈r,y.2=NameKind.globalImplicit)→P [] r)
  (h1:∀i n r,(∀y∈r,y.2=NameKind.globalImplicit)→sc.names[i]? =some (n,.cell)→P [i] ((n,.free)::r)):∀{frees:List Nat} {r:List (Str×NameKind)},lx sc frees r=true→frees.length≤1→P frees r
 |[],r,h,_=>h0 r fun y hy=>eq_of_beq (List.all_eq_true.mp h y hy)
 |_::_,[],h,_=>bV h
 |[i],(n,k)::r,h,_=>af (a:=k== .free&&sc.names[i]? ==some (n,.cell)) h fun h hr=>af h fun hk hi=>eq_of_beq hk▸h1 i n r (fun y hy=>eq_of_beq (List.all_eq_true.mp hr y hy)) (eq_of_beq hi)
 |_::_::_,_,_,h=>absurd h (by simp)
theorem yT {o:Option (Option V)} {u:V} (h:o.join=some u):o=some (some u):=by
 cases o with
 |none=>cases h
 |some y=>exact congrArg some h
theorem jP {k:NameKind} (h:k=.globalImplicit):k≠ .free∧k≠ .cell∧k≠ .local:=by subst h;exact⟨by decide,by decide,by decide⟩
theorem BN {csc:Scope} {z v:Str} {r:List (Str×NameKind)} (hn:csc.names=(z,.local)::(v,.local)::r) (hr:∀y∈r,y.2=NameKind.globalImplicit) (env:Env):closureFor csc env=pure []:=
 closureFor_none fun x hx=>by
  rw[hn]at hx;rcases List.mem_cons.mp hx with rfl|hx; · exact fun q=>nomatch q
  rcases List.mem_cons.mp hx with rfl|hx; · exact fun q=>nomatch q
  exact(jP (hr x hx)).1
theorem BV {csc:Scope} {z v n:Str} {c:Addr} {r:List (Str×NameKind)} (hn:csc.names=(z,.local)::(v,.local)::(n,.free)::r) (hr:∀y∈r,y.2=NameKind.globalImplicit) (hc:env.cells.lookup n=some c):closureFor csc env=pure [(n,c)]:=by
 unfold closureFor
 rw[hn]
 simp only[List.forIn_cons,cellOf,hc]
 show((forIn r [(n,c)] _:Sem (List (Str×Addr)))>>= _)=_
 rw[forIn_yield_id [(n,c)] fun x hx cs=>by
  obtain⟨m,k⟩:=x
  have:(k==NameKind.free)=false:=by simpa using(jP (hr _ hx)).1
  simp only[this,Bool.false_eq_true,if_false]]
 rfl
theorem CG {csc:Scope} {v:Str} {frees:List Nat} {σ:St} {ids:List Addr} {s:Shared} {r:List (Str×NameKind)} (hn:csc.names=((".0":Str),.local)::(v,.local)::r) (hf:lx env.scope frees r=true) (hl1:frees.length≤1) (S:c6 ae w ac env l ids σ s.heap) (hfr:(frees.all fun i=>((σ.loc[i]?).join).isSome)=true):
  ∃cl,closureFor csc env=pure cl∧∀(j:Nat) (n:Str) (k:NameKind) (u:V),r[j]? =some (n,k)→(frees.map (fun i=>(σ.loc[i]?).join))[j]? =some (some u)→∃c val,cl.lookup n=some c∧s.heap.IsCell c (some val)∧bL s.heap ids val u:=by
 revert hn hfr
 refine mM (P:=fun frees r=>csc.names=_::_::r→(frees.all fun i=>((σ.loc[i]?).join).isSome)=true→∃cl,closureFor csc env=pure cl∧∀(j:Nat) (n:Str) (k:NameKind) (u:V),r[j]? =some (n,k)→(frees.map (fun i=>(σ.loc[i]?).join))[j]? =some (some u)→∃c val,cl.lookup n=some c∧s.heap.IsCell c (some val)∧bL s.heap ids val u)
  (fun r hr hn _=>⟨[],BN hn hr env,fun _ _ _ _ _ e=>nomatch e⟩) (fun i n r hr hi hn hfr=>?_) hf hl1
 refine af hfr fun hfr _=>(Option.isSome_iff_exists.mp hfr).elim fun u hu=>?_
 refine(S.lo.cells i n _ u hi (.inl rfl) (yT hu)).elim fun c z=>z.elim fun val z=>⟨[(n,c)],BV hn hr z.1,fun j n' k u' e e'=>?_⟩
 cases j with
 |zero=>
  cases Option.some.inj e
  cases (Option.some.inj e').symm.trans hu
  exact⟨c,val,by rw[List.lookup_cons,beq_self_eq_true],z.2⟩
 |succ j=>exact nomatch e'
theorem Ci {elt itE:E} {x iter:Expr} {v:Str} {pv:Pos} {csc:Scope} {pos:Pos} {frees:List Nat} (C:gb ac A env mg mb fa)
  (hfold:∀v,foldedSetIterable iter env v=pure v) {r:List (Str×NameKind)} (hn:csc.names=((".0":Str),.local)::(v,.local)::r) (hf:lx env.scope frees r=true) (nd:(csc.names.map (·.1)).Nodup) (hk:csc.kind=.function) (hl1:frees.length≤1)
  (hit:aY ae w ac A env l Φ X itE iter) (hx:∀cenv:Env,cenv.scope=eY env.scope csc→gb ac A cenv mg mb fa→cenv.frame=env.frame→aY ae w ac A cenv l Φ X elt x):
  aY ae w ac A env l Φ X (.comp elt itE frees) (.ListComp x [⟨.Name v pv,iter,[],0⟩] csc pos):=fun σ ids s Q Ev S h=>by
 rw[eval_ListComp]
 have nd':((eY env.scope csc).names.map (·.1)).Nodup:=by
  unfold eY
  dsimp only
  have:((fun x:Str×NameKind=>x.1)∘fun x:Str×NameKind=>if(x.2== .free&&env.scope.kind== .function&&env.scope.names.lookup x.1==some .cell)=true then(x.1,NameKind.cell)else(x.1,x.2))=fun x=>x.1:=by
   funext y;simp only[Function.comp];split<;>rfl
  rw[List.map_map,this]
  exact nd
 have hnl:∀y∈csc.names,y.2=NameKind.local→csc.names.lookup y.1=some .local:=fun y hy hl=>by
  obtain⟨j,hj,e⟩:=List.getElem_of_mem hy
  exact dg nd (i:=j) (by rw[List.getElem?_eq_getElem hj,e, ←hl])
 have hcell:∀y∈csc.names,y.2≠NameKind.cell:=fun y hy=>by
  rw[hn]at hy
  rcases List.mem_cons.mp hy with rfl|hy; · exact fun q=>nomatch q
  rcases List.mem_cons.mp hy with rfl|hy; · exact fun q=>nomatch q
  exact mM (P:=fun _ r=>y∈r→y.2≠ .cell) (fun r hr hy=>(jP (hr _ hy)).2.1) (fun i n r hr _ hy=>(List.mem_cons.mp hy).elim (fun q=>by subst q;exact fun q=>nomatch q) fun hy=>(jP (hr _ hy)).2.1) hf hl1 hy
 have hin:∃r',(eY env.scope csc).names=((".0":Str),.local)::(v,.local)::r'∧∀y∈r',y.2≠NameKind.local:=by
  unfold eY
  dsimp only
  rw[hn]
  refine⟨_,rfl,fun y hy=>?_⟩
  have hr:∀y∈r,y.2≠NameKind.local:=fun y=>
   mM (P:=fun _ r=>y∈r→y.2≠ .local) (fun r hr hy=>(jP (hr _ hy)).2.2) (fun i n r hr _ hy=>(List.mem_cons.mp hy).elim (fun q=>by subst q;exact fun q=>nomatch q) fun hy=>(jP (hr _ hy)).2.2) hf hl1
  obtain⟨x,hx,rfl⟩:=List.mem_map.mp hy
  split
  ·exact fun q=>nomatch q
  ·exact hr x hx
 have main:∀ah am h' tk src items Hf val (cl:List (Str×Addr)),bx (frs l) ids s.heap am h'→c6 ae w ac env l am ah h'→bL h' am val src→bW ah.hp src=some items→items.length<10000→
   jD ah.hp.length src items (fun v H=>eE Φ elt ⟨none::some v::frees.map (fun i=>(σ.loc[i]?).join),H⟩) items [] (ah.hp++[.list []])=some Hf→
   KV ae w ac env l ids s Q (.ref ah.hp.length) {ah with hp:=Hf}→
   (∀(j:Nat) (n:Str) (k:NameKind) (u:V),r[j]? =some (n,k)→(frees.map (fun i=>(σ.loc[i]?).join))[j]? =some (some u)→∃c val,cl.lookup n=some c∧h'.IsCell c (some val)∧bL h' am val u)→
   wpAny (model ae w) A (pyIter val) (fun it Gb=>wpAny (model ae w) A (newList []) (fun acc FO=>
    wpAny (model ae w) A (newFunctionEnv csc env.globals cl [] env.qual none .none (some env)) (fun cenv IC=>
    codeAny (model ae w) A (.compStart (.ListComp x [⟨.Name v pv,iter,[],0⟩] csc pos) 0 it acc {cenv with scope:=relabel csc env}) (compPost (model ae w) A Ev none Q acc cenv.locals) IC) Ev FO) Ev Gb) Ev {s with heap:=h',toks:=tk}:=by
  intro ah am h' tk src items Hf val cl st aC aZ e hlen eC hQ hcl
  refine ud (s:={s with heap:=h',toks:=tk}) aC.hp aZ e fun o x0=>?_
  obtain⟨HI,hHI⟩:∃HI,HI=h'.push o:=⟨_,rfl⟩
  dsimp only at x0⊢
  rw[←hHI]at x0⊢
  have gI:cg h' HI:=hHI▸cg.push _ _
  have szI:HI.objs.size=h'.objs.size+1:=by rw[hHI,Heap.size_push]
  refine wpAny_newObj_type ?_
  dsimp only
  obtain⟨HD,hHD⟩:∃HD,HD=HI.push {cls:=.type "list",dict:=none,data:=.seq ([]:List Value).toArray}:=⟨_,rfl⟩
  rw[←hHD]
  have gD:cg HI HD:=hHD▸cg.push _ _
  have szD:HD.objs.size=h'.objs.size+2:=by rw[hHD,Heap.size_push,szI]
  have aD:HD.get? HI.objs.size=some (Du #[] 0):=hHD▸Heap.get?_push_size _ rfl
  refine wpAny_newFunctionEnv hcell (by intro y hy;simp at hy) (fun au AF AE=>?_) hk
  dsimp only at AF AE⊢
  obtain⟨cenv,hce⟩:∃cenv,cenv=compEnvC csc cl HD.objs.size env:=⟨_,rfl⟩
  show codeAny _ _ (.compStart _ 0 _ _ (compEnvC csc cl HD.objs.size env)) (compPost _ _ _ _ _ _ HD.objs.size) _
  rw[←hce]
  have cloc:cenv.locals=HD.objs.size:=by rw[hce];rfl
  have gF:cg HD au:=⟨fun b o e=>AE.extBut b o (xi (.inl (Heap.lt_size e))) (Heap.get?_push_of_some _ e)⟩
  have fresh:∀a:Nat,h'.objs.size≤a→h'.get? a=none:=fun a ha=>Heap.get?_none_of_le ha
  have below:∀a:Nat,(∃o,h'.get? a=some o)→a<h'.objs.size:=fun a ⟨o,e⟩=>Heap.lt_size e
  have low:∀a:Nat,h'.objs.size≤a→ac.get? a=none:=fun a ha=>by
   cases z:ac.get? a with
   |none=>rfl
   |some o=>have:=aC.hp.base a o z;rw[fresh a ha]at this;cases this
  have idsb:∀a:Nat,a∈am→a<h'.objs.size:=fun a ha=>below a (by rcases aC.hp.data ha with⟨_,_,e⟩|⟨_,_,_,e,_⟩<;>exact⟨_,e⟩)
  have frb:∀a:Nat,a∈frs l→a<h'.objs.size:=fun a ha=>below a (by obtain⟨_,_,o,_,_,e,_⟩:=aC.fr.mem ha;exact⟨o,e⟩)
  have locb:(env.locals:Nat)<h'.objs.size:=below _ (by obtain⟨m,⟨o,_,_,e,_⟩,_⟩:=aC.lo.ns;exact⟨o,e⟩)
  have locD:(env.locals:Nat)<HD.objs.size:=Nat.lt_trans locb (by omega)
  have S2:=aC.grow gI
  have stI:bx (frs l) am h' am HI:=gI.step
  have noneD:HI.get? HI.objs.size=none:=cb _
  have S3:=S2.new (o:=.list []) gD noneD ⟨#[],0,aD,.nil⟩
  have stD:bx (frs l) am HI (am++[HI.objs.size]) HD:=gq gD noneD
  have S4:=S3.grow gF
  have stF:bx (frs l) (am++[HI.objs.size]) HD (am++[HI.objs.size]) au:=gF.step
  have st0:bx (frs l) am h' (am++[HI.objs.size]) au:=(stI.trans stD).trans stF
  have iIds:h'.objs.size∉am++[HI.objs.size]:=fun q=>by
   rcases List.mem_append.mp q with q|q
   ·have:=idsb _ q;omega
   ·exact xi (.inl (by omega)) (List.mem_singleton.mp q)
  have iF:h'.objs.size∉frs l:=fun q=>by have:=frb _ q;omega
  have x4:eB au (am++[HI.objs.size]) h'.objs.size 0 src:=(x0.step stD S2.noTup (fun q=>by have:=idsb _ q;omega) iF).step stF S3.noTup iIds iF
  have li:kM cenv (am++[HI.objs.size]) (none::none::frees.map (fun i=>(σ.loc[i]?).join)) au:=by
   obtain⟨r',hr',hnl'⟩:=hin
   have hsc:cenv.scope.names=((".0":Str),.local)::(v,.local)::r':=by rw[hce];exact hr'
   refine⟨?_,⟨_,cloc▸AF,fun j id u e1 e2=>?_⟩,fun j id k u e1 e2 e3=>?_⟩
   ·rw[cloc]
    intro q
    rcases List.mem_append.mp q with q|q
    ·have:=idsb _ q;omega
    ·exact xi (.inr (by omega)) (List.mem_singleton.mp q)
   ·rcases j with _|_|j
    ·simp at e2
    ·simp at e2
    ·rw[hsc]at e1
     exact absurd rfl (hnl' _ (List.mem_of_getElem? (by simpa using e1)))
   ·rcases j with _|_|j
    ·simp at e3
    ·simp at e3
    ·have hj:∃kk,r[j]? =some (id,kk):=by
      rw[hce]at e1
      have e1':(csc.names.map fun x=>if(x.2== .free&&env.scope.kind== .function&&env.scope.names.lookup x.1==some .cell)=true then(x.1,NameKind.cell)else(x.1,x.2))[j+1+1]? =some (id,k):=e1
      rw[hn,List.getElem?_map]at e1'
      simp only[List.getElem?_cons_succ]at e1'
      cases hr:r[j]? with
      |none=>rw[hr]at e1';cases e1'
      |some y=>
       rw[hr]at e1'
       simp only[Option.map_some,Option.some.injEq]at e1'
       refine⟨y.2,?_⟩
       split at e1'<;>(cases e1';rfl)
     obtain⟨kk,hj⟩:=hj
     obtain⟨c,val,h1,h2,h3⟩:=hcl j id kk u hj (by simpa using e3)
     refine⟨c,val,by rw[hce];exact h1,?_,h3.step st0 aC.noTup⟩
     exact kI st0.keep (aC.hp.noCell h2) h2
  have CC:gb ac A cenv mg mb fa:=by
   subst hce
   exact {C with kind:=hk,nodup:=nd',low:=low _ (by show _≤HD.objs.size;omega),glob:=C.glob,blt:=C.blt}
  have hx':=hx cenv (by rw[hce];rfl) CC (by rw[hce];rfl)
  have hv1:cenv.scope.names[1]? =some (v,.local):=by
   obtain⟨r',hr',_⟩:=hin
   have:cenv.scope.names=((".0":Str),.local)::(v,.local)::r':=by rw[hce];exact hr'
   rw[this];rfl
  have hne:src≠ .ref ah.hp.length:=fun q=>by
   subst q
   have:=(jV (show listOf? ah.hp ah.hp.length=some items from e)).1
   omega
  have hdd:(am++[HI.objs.size])[ah.hp.length]? =some HI.objs.size:=by rw[←aC.hp.len];simp
  have loop:=zA (R:=compPost (model ae w) A Ev none Q (.ref HI.objs.size) HD.objs.size) (pos:=pos) (pv:=pv) (iter:=iter) (csc:=csc) (s:=s) (env:=env) (cenv:=cenv) (kD:=ah.loc) (gz:=am) (bP:=h') (I:=h'.objs.size) (D:=HI.objs.size) (Dn:=ah.hp.length)
   C.hd CC.kind CC.nodup hv1 CC.low hx' hlen iF (low _ (Nat.le_refl _)) (xi (.inr locb)) (by rw[cloc];exact xi (.inl (by omega))) (fresh _ (Nat.le_refl _)) (by rw[cloc];exact fun q=>by have:=frb _ q;omega) (by rw[cloc];exact fresh _ (by omega)) (by rw[cloc];exact xi (.inr locD)) hne
   (fun ids' hh tk' hp fr lo li' st' dd=>?_) items.length 0 [] (ah.hp++[.list []]) (am++[HI.objs.size]) au (tk+([]:List (Str×Value)).length) (by simp) rfl
   ⟨S4.hp,S4.fr,S4.lo,li,st0,x4,iIds,hdd⟩ (rt e _) (vX _ _) (by simpa using eC)
  ·exact codeAny_compStart_list loop (zg x4 loop)
  ·obtain⟨m,hnm,_⟩:=li'.ns
   rw[cloc]at hnm
   refine⟨m,hnm,fun h'' hs''=>?_⟩
   have apC:k9 ac l ids' hh HD.objs.size:=⟨cloc▸li'.out,fun q=>by have:=frb _ q;omega,low _ (by omega),fun o e=>by
    obtain⟨o',es,ep,e',d,_⟩:=hnm
    rw[e]at e';cases e'
    exact⟨fun _ _ q=>by(rw[d]at q;cases q),fun _ q=>by(rw[d]at q;cases q)⟩⟩
   have btC:tC HD.objs.size hh h'':=fun b o q e=>(hs''.2 b q).trans e
   exact hQ _ ids' h'' tk' (st.trans (st'.but (fresh _ (by omega)) btC)) ⟨hp.but apC btC,fr.but apC btC,lo.but apC (xi (.inr locD)) btC⟩ (.ref dd)
 refine dp h fun hfr h=>?_
 have cls:∃cl,closureFor csc env=pure cl∧∀(j:Nat) (n:Str) (k:NameKind) (u:V),r[j]? =some (n,k)→(frees.map (fun i=>(σ.loc[i]?).join))[j]? =some (some u)→∃c val,cl.lookup n=some c∧s.heap.IsCell c (some val)∧bL s.heap ids val u:=
  CG hn hf hl1 S hfr
 refine cls.elim fun cl z=>?_
 refine wpAny_comprehension_free (use:=none) rfl hfold z.1 hk hnl ?_
 show wpAny _ _ (eval iter env) _ _ _
 refine hit σ ids s _ Ev S ((az h).mono (fun src ah au val am h' tk st aC aZ=>?_) fun _ _ k=>k)
 refine uE au fun items e au=>dp au fun hlen au=>FF au fun Hf eC au=>main ah am h' tk src items Hf val cl st aC aZ e hlen eC au fun j n k u e1 e2=>
  (z.2 j n k u e1 e2).elim fun c y=>y.elim fun val y=>⟨c,val,y.1,kI st.keep (S.hp.noCell y.2.1) y.2.1,y.2.2.step st S.noTup⟩
end
end Mine
end
section
namespace Mine
open PySem PyProof.Rows
section
variable {ae:Program} {w:World} {ac:Heap} {A:Around} {l:List Env} {Φ:ci} {X:List Addr→Heap→Value→Ch→Prop} {mg mb:Str→Option Value} {fa:Fn→Addr}
theorem gJ.es {env:Env}:∀{es:Es} {xs:List Expr},gJ ae w ac A env l Φ X es xs→n7 ae w ac A env l Φ X es xs
 | .nil,[],_=>Dq
 | .cons _ _,_::_,h=>Au h.1.1 (gJ.es h.2)
 | .nil,_::_,h=>h.elim
 | .cons _ _,[],h=>h.elim
theorem fc {env:Env} {e:E} {x:Expr} (h:bw env.scope e x=true) (pos:Pos):backTo pos (starEach [x] env)=[(false,eval x env)]:=
 iA (sc:=env.scope) (es:=.cons e .nil) (show iw env.scope (.cons e .nil) [x]=true from mv h rfl) env pos
theorem zp {env:Env} {e e':E} {x y:Expr} (h:bw env.scope e x=true) (h':bw env.scope e' y=true) (pos:Pos):backTo pos (starEach [x,y] env)=[(false,eval x env),(false,eval y env)]:=
 iA (sc:=env.scope) (es:=.cons e (.cons e' .nil)) (show iw env.scope (.cons e (.cons e' .nil)) [x,y]=true from mv h (mv h' rfl)) env pos
theorem pH {b:Bool} (h:(!b)=true):b=false:=by cases b;rfl;exact bV h
theorem q7 {p:Prop} [Decidable p] (h:decide p=true):p:=of_decide_eq_true h
noncomputable def cA (ae:Program) (w:World) (ac:Heap) (A:Around) (env:Env) (l:List Env) (Φ:ci) (X:List Addr→Heap→Value→Ch→Prop) (e:E) (x:Expr):Prop:=aY ae w ac A env l Φ X e x∧jw ae w ac A env l Φ X e x
noncomputable def HE (ae:Program) (w:World) (ac:Heap) (A:Around) (l:List Env) (Φ:ci) (X:List Addr→Heap→Value→Ch→Prop) (mg mb:Str→Option Value) (fa:Fn→Addr) (e:E):Prop:=
 ∀(env:Env),gb ac A env mg mb fa→∀x,bw env.scope e x=true→cA ae w ac A env l Φ X e x
noncomputable def GS (ae:Program) (w:World) (ac:Heap) (A:Around) (l:List Env) (Φ:ci) (X:List Addr→Heap→Value→Ch→Prop) (mg mb:Str→Option Value) (fa:Fn→Addr) (es:Es):Prop:=
 ∀(env:Env),gb ac A env mg mb fa→∀xs,iw env.scope es xs=true→gJ ae w ac A env l Φ X es xs
section
variable {env:Env}
theorem val {c:E} {x:Expr} (hx:aY ae w ac A env l Φ X c x) (he:isTrue x env (eval x env)=(do let v←eval x env;standAt x.pos;holding [v] (truthy v))):cA ae w ac A env l Φ X c x:=⟨hx,wf hx he⟩
end
theorem AM:GS ae w ac A l Φ X mg mb fa .nil:=fun _ _ _ h=>cI (P:=gJ ae w ac A _ l Φ X .nil) h trivial
theorem yc {e:E} {es:Es} (he:HE ae w ac A l Φ X mg mb fa e) (hs:GS ae w ac A l Φ X mg mb fa es):GS ae w ac A l Φ X mg mb fa (.cons e es):=fun env C _ h=>
 cV (P:=gJ ae w ac A env l Φ X (.cons e es)) h fun x xs h=>af h fun h1 h2=>⟨he env C x h1,hs env C xs h2⟩
theorem EF {a b n:Nat} (e:a=b) (h:decide (a<n)=true):b<n:=e▸of_decide_eq_true h
theorem Hj {ks:List Ch} (h:(!ks.isEmpty)=true):ks≠[]:=fun e=>by subst e;exact bV h
theorem Ek {P:Expr→Prop} {id:Str} {sc:Scope} {a:E} {e:Expr} (h:(dw e fun fn vs kw _=>ck kw&&dA vs fun x=>b9 fn fun i _=>i==id&&(cp sc id&&bw sc a x))=true)
  (f:∀x q p,cp sc id=true→bw sc a x=true→P (.Call (.Name id q) [x] [] p)):P e:=
 jK h fun fn vs _ p h=>af h fun h0 h=>cI (P:=fun kw=>P (.Call fn vs kw p)) h0 (f9 (P:=fun vs=>P (.Call fn vs [] p)) h fun x h=>cM (P:=fun fn=>P (.Call fn [x] [] p)) h fun _ q h=>cU (P:=fun i=>P (.Call (.Name i q) [x] [] p)) h fun h=>af h (f x q p))
theorem Fh {P:Expr→Prop} {nm:Str} {sc:Scope} {a b:E} {e:Expr} (h:(dw e fun fn vs kw p=>ck kw&&dA vs fun x=>bY fn fun o n ap=>n==nm&&(cz o&&(dn ap p&&(bw sc a o&&bw sc b x))))=true)
  (f:∀o ap x p,cz o=true→dn ap p=true→bw sc a o=true→bw sc b x=true→P (.Call (.Attribute o nm ap) [x] [] p)):P e:=
 jK h fun fn vs _ p h=>af h fun h0 h=>cI (P:=fun kw=>P (.Call fn vs kw p)) h0 (f9 (P:=fun vs=>P (.Call fn vs [] p)) h fun x h=>ei (P:=fun fn=>P (.Call fn [x] [] p)) h fun o _ ap h=>cU (P:=fun n=>P (.Call (.Attribute o n ap) [x] [] p)) h fun h=>af h fun h1 h=>af h fun h2 h=>af h (f o ap x p h1 h2))
theorem Hg {csc:Scope} {v:Str} (h:tz csc v=true):csc.names=((".0":Str),.local)::(v,.local)::csc.names.drop 2:=by
 unfold tz at h
 generalize csc.names=n at h⊢
 exact cV (P:=fun n=>n=(_,_)::(_,_)::n.drop 2) h fun a l h=>cV (P:=fun l=>a::l=(_,_)::(_,_)::l.drop 1) h fun b r h=>cU (P:=fun a=>a::b::r=(_,_)::(_,_)::r) h fun h=>cU (P:=fun b=>(_,_)::b::r=(_,_)::(_,_)::r) h fun _=>rfl
theorem hV (hC:dO ae w ac A l fa Φ X):∀e:E,HE ae w ac A l Φ X mg mb fa e:=
 E.rec (motive_1:=HE ae w ac A l Φ X mg mb fa) (motive_2:=GS ae w ac A l Φ X mg mb fa)
  (fun env C x h=>cB h fun c k p h=>cU (P:=fun c=>cA ae w ac A env l Φ X .none (.Constant c k p)) h fun _=>val BO rfl)
  (fun b env C x h=>cB h fun c k p h=>cU (P:=fun c=>cA ae w ac A env l Φ X (.bool b) (.Constant c k p)) h fun _=>val AL rfl)
  (fun i env C x h=>cB h fun c k p h=>cU (P:=fun c=>cA ae w ac A env l Φ X (.int i) (.Constant c k p)) h fun _=>val CW rfl)
  (fun i env C x h=>qF h fun o x p h=>cU (P:=fun o=>cA ae w ac A env l Φ X (.negc i) (.UnaryOp o x p)) h fun h=>cB (P:=fun x=>cA ae w ac A env l Φ X (.negc i) (.UnaryOp .USub x p)) h fun c k q h=>cU (P:=fun c=>cA ae w ac A env l Φ X (.negc i) (.UnaryOp .USub (.Constant c k q) p)) h fun _=>val At rfl)
  (fun y env C x h=>cB h fun c k p h=>cU (P:=fun c=>cA ae w ac A env l Φ X (.str y) (.Constant c k p)) h fun _=>val wW rfl)
  (fun i env C x h=>cM h fun id p h=>val (DR C h) rfl)
  (fun op a b ha hb env C x h=>Dz h fun e1 o r p h=>cU (P:=fun o=>cA ae w ac A env l Φ X (.bin op a b) (.BinOp e1 o r p)) h fun h=>af h fun h1 h2=>val (Dl (ha env C e1 h1).1 (hb env C r h2).1) rfl)
  (fun a ha env C x h=>qF h fun o x p h=>cU (P:=fun o=>cA ae w ac A env l Φ X (.not a) (.UnaryOp o x p)) h fun h=>⟨DI (ha env C x h).1,BQ (ha env C x h).2⟩)
  (fun op a b ha hb env C x h=>qr h fun e1 os rs p h=>f9 (P:=fun os=>cA ae w ac A env l Φ X (.cmp op a b) (.Compare e1 os rs p)) h fun o h=>f9 (P:=fun rs=>cA ae w ac A env l Φ X (.cmp op a b) (.Compare e1 [o] rs p)) h fun r h=>cU (P:=fun o=>cA ae w ac A env l Φ X (.cmp op a b) (.Compare e1 [o] [r] p)) h fun h=>af h fun hm h=>af h fun h1 h2=>⟨Dt C (pH hm) (ha env C e1 h1).1 (hb env C r h2).1,Br C (pH hm) (ha env C e1 h1).1 (hb env C r h2).1⟩)
  (fun o1 o2 a b c ha hb hc env C x h=>qr h fun e1 os rs p h=>qk (P:=fun os=>cA ae w ac A env l Φ X (.cmp2 o1 o2 a b c) (.Compare e1 os rs p)) h fun p1 p2 h=>qk (P:=fun rs=>cA ae w ac A env l Φ X (.cmp2 o1 o2 a b c) (.Compare e1 [p1,p2] rs p)) h fun r1 r2 h=>cU (P:=fun p1=>cA ae w ac A env l Φ X (.cmp2 o1 o2 a b c) (.Compare e1 [p1,p2] [r1,r2] p)) h fun h=>cU (P:=fun p2=>cA ae w ac A env l Φ X (.cmp2 o1 o2 a b c) (.Compare e1 [iz o1,p2] [r1,r2] p)) h fun h=>af h fun hm h=>af h fun h1 h=>af h fun h2 h3=>⟨BW C (pH hm) (ha env C e1 h1).1 (hb env C r1 h2).1 (hc env C r2 h3).1,zm C (pH hm) (ha env C e1 h1).1 (hb env C r1 h2).1 (hc env C r2 h3).1⟩)
  (fun es hs env C x h=>uK h fun o vs p h=>cU (P:=fun o=>cA ae w ac A env l Φ X (.and es) (.BoolOp o vs p)) h fun h=>⟨xR (hs env C vs h),tU _ (hs env C vs h)⟩)
  (fun es hs env C x h=>uK h fun o vs p h=>cU (P:=fun o=>cA ae w ac A env l Φ X (.or es) (.BoolOp o vs p)) h fun h=>⟨Bq (hs env C vs h),ya _ (hs env C vs h)⟩)
  (fun c a b hc ha hb env C x h=>DD h fun t x y p h=>af h fun h1 h=>af h fun h2 h3=>⟨DS (hc env C t h1).2 (ha env C x h2).1 (hb env C y h3).1,A2 (hc env C t h1).2 (ha env C x h2).2 (hb env C y h3).2⟩)
  (fun a b ha hb env C x h=>c8 h fun x y p h=>af h fun hs h=>af h fun h1 h2=>val (DG hs (ha env C x h1).1 (hb env C y h2).1) rfl)
  (fun a lo hi ha hl hh env C x h=>c8 h fun x y p h=>sF (P:=fun y=>cA ae w ac A env l Φ X (.slc a lo hi) (.Subscript x y p)) h fun e1 u t z h=>af h fun hn h=>mt (P:=fun t=>cA ae w ac A env l Φ X (.slc a lo hi) (.Subscript x (.Slice e1 u t z) p)) hn (fS (P:=fun e1=>cA ae w ac A env l Φ X (.slc a lo hi) (.Subscript x (.Slice e1 u none z) p)) h fun e1 h=>fS (P:=fun u=>cA ae w ac A env l Φ X (.slc a lo hi) (.Subscript x (.Slice (some e1) u none z) p)) h fun u h=>af h fun h1 h=>af h fun h2 h3=>val (C8 (ha env C x h1).1 (hl env C e1 h2).1 (hh env C u h3).1) rfl))
  (fun a lo ha hl env C x h=>c8 h fun x y p h=>sF (P:=fun y=>cA ae w ac A env l Φ X (.slf a lo) (.Subscript x y p)) h fun e1 u t z h=>af h fun hn h=>af h fun hu h=>mt (P:=fun t=>cA ae w ac A env l Φ X (.slf a lo) (.Subscript x (.Slice e1 u t z) p)) hn (mt (P:=fun u=>cA ae w ac A env l Φ X (.slf a lo) (.Subscript x (.Slice e1 u none z) p)) hu (fS (P:=fun e1=>cA ae w ac A env l Φ X (.slf a lo) (.Subscript x (.Slice e1 none none z) p)) h fun e1 h=>af h fun h1 h2=>val (Et (ha env C x h1).1 (hl env C e1 h2).1) rfl)))
  (fun a hi ha hh env C x h=>c8 h fun x y p h=>sF (P:=fun y=>cA ae w ac A env l Φ X (.slt a hi) (.Subscript x y p)) h fun e1 u t z h=>af h fun hn h=>af h fun hu h=>mt (P:=fun t=>cA ae w ac A env l Φ X (.slt a hi) (.Subscript x (.Slice e1 u t z) p)) hn (mt (P:=fun e1=>cA ae w ac A env l Φ X (.slt a hi) (.Subscript x (.Slice e1 u none z) p)) hu (fS (P:=fun u=>cA ae w ac A env l Φ X (.slt a hi) (.Subscript x (.Slice none u none z) p)) h fun u h=>af h fun h1 h2=>val (DY (ha env C x h1).1 (hh env C u h2).1) rfl)))
  (fun es hs env C x h=>lO h fun vs k p h=>af h fun hl h=>val (D9 (EF (rX h) hl) (iA h env) (hs env C vs h).es) rfl)
  (fun es hs env C x h=>vx h fun vs p h=>af h fun hl h=>val (CK (EF (rX h) hl) (iA h env) (hs env C vs h).es) rfl)
  (fun ks es hs env C x h=>F6 h fun ns vs p h=>af h fun h0 h=>af h fun h15 h=>af h fun hk h=>af h fun hl h=>af h fun hn h=>val (Eh (E4 hk) (q7 hl) (q7 hn) (q7 h15) (Hj h0) (hs env C vs h)) rfl)
  (fun f es hs env C x h=>jK h fun fn vs kw p h=>af h fun hk h=>cI (P:=fun kw=>cA ae w ac A env l Φ X (.call f es) (.Call fn vs kw p)) hk (cM (P:=fun fn=>cA ae w ac A env l Φ X (.call f es) (.Call fn vs [] p)) h fun id q h=>cU (P:=fun id=>cA ae w ac A env l Φ X (.call f es) (.Call (.Name id q) vs [] p)) h fun h=>af h fun hg h=>val (zM C hC hg (iA h env) (hs env C vs h).es) rfl))
  (fun a ha env C x h=>Ek h fun x q p hg h=>val (Ds C hg (fc h) (ha env C x h).1) rfl)
  (fun a ha env C x h=>Ek h fun x q p hg h=>val (C3 C hg (fc h) (ha env C x h).1) rfl)
  (fun a ha env C x h=>Ek h fun x q p hg h=>val (CH C hg (fc h) (ha env C x h).1) rfl)
  (fun a ha env C x h=>Ek h fun x q p hg h=>val (yN C hg (fc h) (ha env C x h).1) rfl)
  (fun a b ha hb env C x h=>Fh h fun o ap x p h0 h1 h2 h3=>val (zG h0 h1 (fc h3) (ha env C o h2).1 (hb env C x h3).1) rfl)
  (fun a b c ha hb hc env C x h=>jK h fun fn vs kw p h=>af h fun hk h=>cI (P:=fun kw=>cA ae w ac A env l Φ X (.find2 a b c) (.Call fn vs kw p)) hk (qk (P:=fun vs=>cA ae w ac A env l Φ X (.find2 a b c) (.Call fn vs [] p)) h fun x y h=>ei (P:=fun fn=>cA ae w ac A env l Φ X (.find2 a b c) (.Call fn [x,y] [] p)) h fun o n ap h=>cU (P:=fun n=>cA ae w ac A env l Φ X (.find2 a b c) (.Call (.Attribute o n ap) [x,y] [] p)) h fun h=>af h fun h0 h=>af h fun h1 h=>af h fun h2 h=>af h fun h3 h4=>val (yL h0 h1 (zp h3 h4) (ha env C o h2).1 (hb env C x h3).1 (hc env C y h4).1) rfl))
  (fun a b ha hb env C x h=>Fh h fun o ap x p h0 h1 h2 h3=>val (A3 h0 h1 (fc h3) (ha env C o h2).1 (hb env C x h3).1) rfl)
  (fun a b ha hb env C x h=>Fh h fun o ap x p h0 h1 h2 h3=>val (v7 h0 h1 (fc h3) (ha env C o h2).1 (hb env C x h3).1) rfl)
  (fun a ha env C x h=>jK h fun fn vs kw p h=>af h fun hk h=>af h fun hv h=>cI (P:=fun kw=>cA ae w ac A env l Φ X (.pop a) (.Call fn vs kw p)) hk (cI (P:=fun vs=>cA ae w ac A env l Φ X (.pop a) (.Call fn vs [] p)) hv (ei (P:=fun fn=>cA ae w ac A env l Φ X (.pop a) (.Call fn [] [] p)) h fun o n ap h=>cU (P:=fun n=>cA ae w ac A env l Φ X (.pop a) (.Call (.Attribute o n ap) [] [] p)) h fun h=>af h fun h0 h=>af h fun h1 h=>val (DX h0 h1 (ha env C o h).1) rfl)))
  (fun elt it frees he hi env C x h=>vF h fun x gs csc p h=>f9 (P:=fun gs=>cA ae w ac A env l Φ X (.comp elt it frees) (.ListComp x gs csc p)) h fun⟨t,it',ifs,k⟩ h=>af h fun h0 h=>af h fun h1 h=>
  cI (P:=fun ifs=>cA ae w ac A env l Φ X (.comp elt it frees) (.ListComp x [⟨t,it',ifs,k⟩] csc p)) h0 (Eq.subst (motive:=fun k=>cA ae w ac A env l Φ X (.comp elt it frees) (.ListComp x [⟨t,it',[],k⟩] csc p)) (q7 h1:k=0).symm (cM (P:=fun t=>cA ae w ac A env l Φ X (.comp elt it frees) (.ListComp x [⟨t,it',[],0⟩] csc p)) h fun v pv h=>
   af h fun hh h=>af h fun hf h=>af h fun nd h=>af h fun hk h=>af h fun hl h=>af h fun h1 h2=>val (Ci C (pD h1 env) (Hg hh) hf (q7 nd) (eq_of_beq hk) (q7 hl) (hi env C it' h1).1 fun cenv hs CC _=>(he cenv CC x (hs▸h2)).1) rfl)))
  AM
  (fun e es he hs=>yc he hs)
theorem Jj (hC:dO ae w ac A l fa Φ X):∀es:Es,GS ae w ac A l Φ X mg mb fa es:=
 Es.rec (motive_1:=fun _=>True) (motive_2:=GS ae w ac A l Φ X mg mb fa) trivial (fun _=>trivial) (fun _=>trivial) (fun _=>trivial) (fun _=>trivial) (fun _=>trivial) (fun _ _ _ _ _=>trivial) (fun _ _=>trivial) (fun _ _ _ _ _=>trivial) (fun _ _ _ _ _ _ _ _=>trivial) (fun _ _=>trivial) (fun _ _=>trivial) (fun _ _ _ _ _ _=>trivial) (fun _ _ _ _=>trivial) (fun _ _ _ _ _ _=>trivial) (fun _ _ _ _=>trivial) (fun _ _ _ _=>trivial) (fun _ _=>trivial) (fun _ _=>trivial) (fun _ _ _=>trivial) (fun _ _ _=>trivial) (fun _ _=>trivial) (fun _ _=>trivial) (fun _ _=>trivial) (fun _ _=>trivial) (fun _ _ _ _=>trivial) (fun _ _ _ _ _ _=>trivial) (fun _ _ _ _=>trivial) (fun _ _ _ _=>trivial) (fun _ _=>trivial) (fun _ _ _ _ _=>trivial) AM (fun e _ _ hs=>yc (hV hC e) hs)
end
end Mine
end
section
namespace Mine
open PySem PyProof.Rows
structure cf (F:List Addr) (L:Addr) (ids:List Addr) (h:Heap) (ids':List Addr) (h':Heap):Prop where
 pre:∃t,ids'=ids++t∧∀a∈t,h.get? a=none
 keep:gh F (L::ids) h h'
section
variable {F ids ids':List Addr} {L:Addr} {h h':Heap}
theorem bx.l (x:bx F ids h ids' h') (L:Addr):cf F L ids h ids' h':=⟨x.pre,x.keep.mono fun _ q=>.tail _ q⟩
theorem cf.refl (F:List Addr) (L:Addr) (ids:List Addr) (h:Heap):cf F L ids h ids h:=(bx.refl F ids h).l L
theorem cf.mem (x:cf F L ids h ids' h') {a:Addr} (ha:a∈ids'):a∈ids∨h.get? a=none:=by
 obtain⟨t,rfl,ht⟩:=x.pre
 rcases List.mem_append.mp ha with q|q
 ·exact .inl q
 ·exact .inr (ht a q)
theorem cf.trans {Af AB AI:List Addr} {au aW cY:Heap} (x:cf F L Af au AB aW) (y:cf F L AB aW AI cY):cf F L Af au AI cY:=by
 refine⟨?_,x.keep.trans y.keep (fun a ha=>.inl ha) fun a ha=>?_⟩
 ·obtain⟨t,rfl,ht⟩:=x.pre
  obtain⟨u,rfl,hu⟩:=y.pre
  refine⟨t++u,by simp,fun a ha=>?_⟩
  rcases List.mem_append.mp ha with q|q
  ·exact ht a q
  ·cases z:au.get? a with
   |none=>rfl
   |some o=>
    obtain⟨o',e⟩:=x.keep.dom a o z
    rw[hu a q]at e;cases e
 ·rcases List.mem_cons.mp ha with rfl|ha
  ·exact .inl (.head _)
  ·rcases x.mem ha with q|q
   ·exact .inl (.tail _ q)
   ·exact .inr q
theorem cf.get (x:cf F L ids h ids' h') {i:Nat} {a:Addr} (e:ids[i]? =some a):ids'[i]? =some a:=by
 obtain⟨t,rfl,_⟩:=x.pre
 rw[List.getElem?_append_left (List.getElem?_eq_some_iff.mp e).1];exact e
theorem cf.out (x:cf F L ids h ids' h') {a:Addr} (ha:a∉ids) (hl:∃o,h.get? a=some o):a∉ids':=fun q=>(x.mem q).elim ha fun z=>by obtain⟨o,e⟩:=hl;rw[z]at e;cases e
theorem cf.tup (x:cf F L ids h ids' h') (hL:L∈F) (nt:km F ids h) {a:Addr} {items:Array Value} {n:Nat} (e:h.get? a=some (kW items n)):h'.get? a=some (kW items n):=
 x.keep.exact _ _ (fun q=>(List.mem_cons.mp q).elim (fun q=>nt _ (.inr (q▸hL)) _ _ e) fun q=>nt _ (.inl q) _ _ e) (fun q=>nt _ (.inr q) _ _ e) e (.inl fun _ q=>by cases q)
theorem bo.stepL (x:cf F L ids h ids' h') (hL:L∈F) (nt:km F ids h) {as:List Value} {vs:List V} (r:bo h ids as vs):bo h' ids' as vs:=r.map (fun _ _ _=>x.tup hL nt) fun _ _=>x.get
theorem eB.stepL {I:Addr} {i:Nat} {src:V} (x:eB h ids I i src) (st:cf F L ids h ids' h') (hL:L∈F) (nt:km F ids h) (h1:I∉ids) (h2:I∉F):eB h' ids' I i src:=by
 have h3:I∉L::ids:=fun q=>(List.mem_cons.mp q).elim (fun q=>h2 (q▸hL)) h1
 exact x.inv (P:=eB h' ids' I i) (fun _ a e z=>z.elim fun o z=>⟨a,st.get e,o,st.keep.exact _ _ h3 h2 z.1 (.inr (.inl z.2.1)),z.2⟩)
  fun _ a items n e r z=>z.elim fun o z=>⟨a,items,n,st.tup hL nt e,r.stepL st hL nt,o,st.keep.exact _ _ h3 h2 z.1 (.inr (.inr z.2.1)),z.2⟩
theorem cf.but {I:Addr} {bP:Heap} (x:cf F L ids bP ids' h) (h0:bP.get? I=none) (k:tC I h h'):cf F L ids bP ids' h':=by
 have ne:∀{a o},bP.get? a=some o→a≠I:=fun e q=>by rw[q,h0]at e;cases e
 refine⟨x.pre,⟨fun a o e=>?_,fun a o h1 h2 e h3=>k a o (ne e) (x.keep.exact a o h1 h2 e h3),fun a o h1 e h3=>?_⟩⟩
 ·obtain⟨o',e'⟩:=x.keep.dom a o e
  exact⟨o',k a o' (ne e) e'⟩
 ·obtain⟨sl,e'⟩:=x.keep.slots a o h1 e h3
  exact⟨sl,k a _ (ne e) e'⟩
theorem mD (k:Heap.SameBut L h h') (hx:∃o,h'.get? L=some o):cf F L ids h ids h':=⟨⟨[],by simp,by simp⟩,.sameBut (.head _) k hx⟩
end
section
variable {ae:Program} {w:World} {ac:Heap} {A:Around} {env:Env} {l:List Env} {Φ:ci} {W:Nat} {X:List Addr→Heap→Value→Ch→Prop} {mg mb:Str→Option Value} {fa:Fn→Addr}
inductive xW (h:Heap) (ids:List Addr):Flow→Fl→Prop
 |next:xW h ids .next .next
 |brk:xW h ids .brk .brk
 |ret {val:Value} {v:V}:bL h ids val v→xW h ids (.ret val) (.ret v)
noncomputable def IH (ae:Program) (w:World) (ac:Heap) (env:Env) (l:List Env) (ids:List Addr) (fl:Fl) (σ:St) (h:Heap):Prop:=match fl with
 | .ret _=>cQ ae w ac ids σ.hp h∧j9 ac ids h l
 |_=>c6 ae w ac env l ids σ h
noncomputable def KF (ae:Program) (w:World) (ac:Heap) (env:Env) (l:List Env) (ids:List Addr) (s:Shared) (Q:Flow→Shared→Prop) (fl:Fl) (σ':St):Prop:=
 ∀f ids' h' tk,cf (frs l) env.locals ids s.heap ids' h'→IH ae w ac env l ids' fl σ' h'→xW h' ids' f fl→Q f {s with heap:=h',toks:=tk}
noncomputable def KU (ae:Program) (w:World) (ac:Heap) (env:Env) (l:List Env) (ids:List Addr) (s:Shared) (Q:Unit→Shared→Prop) (_:Unit) (σ':St):Prop:=
 ∀ids' h' tk,cf (frs l) env.locals ids s.heap ids' h'→c6 ae w ac env l ids' σ' h'→Q () {s with heap:=h',toks:=tk}
noncomputable def KY (ae:Program) (w:World) (ac:Heap) (env:Env) (l:List Env) (X:List Addr→Heap→Value→Ch→Prop) (ids:List Addr) (s:Shared) (E:Value→Shared→Prop) (m:Ch) (σ':St):Prop:=
 ∀x ids' h' tk,cf (frs l) env.locals ids s.heap ids' h'→c6 ae w ac env l ids' σ' h'→X ids' h' x m→E x {s with heap:=h',toks:=tk}
section
variable {ids ids':List Addr} {s:Shared} {σ':St} {h':Heap} {tk:Nat}
theorem KF.later {Q:Flow→Shared→Prop} {v:Fl} (k:KF ae w ac env l ids s Q v σ') (st:cf (frs l) env.locals ids s.heap ids' h'):KF ae w ac env l ids' {s with heap:=h',toks:=tk} Q v σ':=
 fun val i' h'' tk' a b c=>k val i' h'' tk' (st.trans a) b c
theorem KU.later {Q:Unit→Shared→Prop} {v:Unit} (k:KU ae w ac env l ids s Q v σ') (st:cf (frs l) env.locals ids s.heap ids' h'):KU ae w ac env l ids' {s with heap:=h',toks:=tk} Q v σ':=
 fun i' h'' tk' a b=>k i' h'' tk' (st.trans a) b
theorem KY.later {E:Value→Shared→Prop} {m:Ch} (k:KY ae w ac env l X ids s E m σ') (st:cf (frs l) env.locals ids s.heap ids' h'):KY ae w ac env l X ids' {s with heap:=h',toks:=tk} E m σ':=
 fun x i' h'' tk' a b c=>k x i' h'' tk' (st.trans a) b c
theorem KY.kx {E:Value→Shared→Prop} {m:Ch} (k:KY ae w ac env l X ids s E m σ'):KX ae w ac env l X ids s E m σ':=fun x i' h'' tk' a b c=>k x i' h'' tk' (a.l _) b c
theorem KY.kxl {E:Value→Shared→Prop} {m:Ch} (k:KY ae w ac env l X ids s E m σ') (st:cf (frs l) env.locals ids s.heap ids' h'):KX ae w ac env l X ids' {s with heap:=h',toks:=tk} E m σ':=(k.later st).kx
end
structure JH (ac:Heap) (env:Env) (l:List Env):Prop where
 inF:env.locals∈frs l
noncomputable def d3 (ae:Program) (w:World) (ac:Heap) (A:Around) (env:Env) (l:List Env) (Φ:ci) (W:Nat) (X:List Addr→Heap→Value→Ch→Prop) (st:S) (ps:Stmt):Prop:=
 ∀σ ids s Q Ev,c6 ae w ac env l ids σ s.heap→bG (eS Φ W st σ) (KF ae w ac env l ids s Q) (KY ae w ac env l X ids s Ev)→wpAny (model ae w) A (exec ps env) Q Ev s
noncomputable def fO (ae:Program) (w:World) (ac:Heap) (A:Around) (env:Env) (l:List Env) (Φ:ci) (W:Nat) (X:List Addr→Heap→Value→Ch→Prop) (st:Ss) (ps:List Stmt):Prop:=
 ∀σ ids s Q Ev,c6 ae w ac env l ids σ s.heap→bG (bF Φ W st σ) (KF ae w ac env l ids s Q) (KY ae w ac env l X ids s Ev)→wpAny (model ae w) A (execs ps env) Q Ev s
theorem KF.next {ids:List Addr} {s:Shared} {Q:Flow→Shared→Prop} {σ:St} (k:KF ae w ac env l ids s Q .next σ) (S:c6 ae w ac env l ids σ s.heap) (tk:Nat):Q .next {s with toks:=tk}:=k .next ids s.heap tk (.refl _ _ _ _) S .next
theorem F2:fO ae w ac A env l Φ W X .nil []:=fun σ ids s Q Ev S h=>by
 exact wpAny_execs_nil (KF.next h S s.toks)
theorem C7 {st:S} {ss:Ss} {p:Stmt} {ps:List Stmt} (h1:d3 ae w ac A env l Φ W X st p) (h2:fO ae w ac A env l Φ W X ss ps):fO ae w ac A env l Φ W X (.cons st ss) (p::ps):=fun σ ids s Q Ev S h=>by
 refine wpAny_execs_cons (h1 σ ids s _ Ev S ((az h).mono (fun fl ah au=>?_) fun _ _ k=>k))
 intro f ids' h' tk st aC fr
 cases fr with
 |next=>exact h2 ah ids' _ _ Ev aC (bG.mono au (fun _ _ k=>k.later st) fun _ _ k=>k.later st)
 |brk=>exact au _ ids' h' tk st aC .brk
 |ret r=>exact au _ ids' h' tk st aC (.ret r)
theorem uo {sc:Scope} {i:Nat} {id:Str} (ok:bN sc i id=true):sc.names[i]? =some (id,.local):=by
 unfold bN at ok
 refine af ok fun ok _=>?_
 generalize sc.names[i]? =o at*
 cases o with
 |none=>exact bV ok
 |some y=>obtain⟨n,k⟩:=y;exact af (a:=n==id) ok fun e1 e2=>eq_of_beq e1▸(by cases k<;>first|rfl|exact bV e2)
theorem iX (C:gb ac A env mg mb fa) {i:Nat} {id:Str} (ok:bN env.scope i id=true):env.scope.names[i]? =some (id,.local)∧env.kindOf id=some .local:=
 ⟨uo ok,dg C.nodup (uo ok)⟩
theorem mR (C:gb ac A env mg mb fa):(env.scope.kind== .class||(env.scope.kind== .module&&env.locals != env.globals))=false:=by
 rw[C.kind];rfl
theorem dG {i:Nat} {id:Str} {σ:St} {ids:List Addr} {s:Shared} {v:V} {val:Value} {Q:Unit→Shared→Prop} {Ev:Value→Shared→Prop} (C:gb ac A env mg mb fa) (ok:bN env.scope i id=true) (S:c6 ae w ac env l ids σ s.heap) (r:bL s.heap ids val v)
  (k:KU ae w ac env l ids s Q () {σ with loc:=setL σ.loc i v}):wpAny (model ae w) A (storeName env id val) Q Ev s:=by
 obtain⟨e,hk⟩:=iX C ok
 obtain⟨m,hn,_⟩:=S.lo.ns
 refine wpAny_storeName_local hk hn (fun h' hn' sb=>?_) (mR C)
 refine k ids h' _ (mD sb (let ⟨o,_,_,e,_⟩:=hn';⟨o,e⟩)) (S.store C.nodup C.low e hn hn' sb r)
noncomputable def sB (ae:Program) (w:World) (ac:Heap) (A:Around) (env:Env) (l:List Env) (Φ:ci) (X:List Addr→Heap→Value→Ch→Prop) (t:T) (f:Value→Sem Unit):Prop:=
 ∀σ ids s v val Q Ev,c6 ae w ac env l ids σ s.heap→bL s.heap ids val v→bG (GQ Φ t v σ) (KU ae w ac env l ids s Q) (KY ae w ac env l X ids s Ev)→wpAny (model ae w) A (f val) Q Ev s
theorem Ee {i:Nat} {id:Str} {p:Pos} (C:gb ac A env mg mb fa) (ok:bN env.scope i id=true):sB ae w ac A env l Φ X (.loc i) (assign (.Name id p) env):=fun σ ids s v val Q Ev S r h=>by
 exact dp h fun _ h=>wpAny_assign_Name (dG C ok S r h)
theorem Dk {i:Nat} {id:Str} (C:gb ac A env mg mb fa) (ok:bN env.scope i id=true):sB ae w ac A env l Φ X (.loc i) (bindName env id):=fun σ ids s v val Q Ev S r h=>by
 exact dp h fun _ h=>wpAny_bindName (dG C ok S r h)
theorem By {a b:E} {o i:Expr} {p:Pos} (ha:aY ae w ac A env l Φ X a o) (hb:aY ae w ac A env l Φ X b i):sB ae w ac A env l Φ X (.sub a b) (assign (.Subscript o i p) env):=fun σ ids s v val Q Ev S r h=>by
 rw[assign_Subscript]
 refine wpAny_bind (wpAny_holding (ha σ ids s _ Ev S ((az h).mono (fun x ah au ov am h' tk st aC aZ=>?_) fun _ _ k=>k.kx)))
 refine wpAny_bind (wpAny_holding (hb ah am _ _ Ev aC ((az au).mono (fun y aG aW iv aI h'' bv aU bq cj=>?_) fun _ _ k=>k.kxl (st.l _))))
 refine wpAny_bind (wpAny_standAt ?_)
 refine FF aW fun H e aW=>wpAny_bind (wpAny_holding (qH (s:={s with heap:=h'',toks:=bv}) bq (aZ.step aU aC.noTup) cj ((r.step st S.noTup).step aU aC.noTup) e fun h3 cO et gK=>?_))
 exact wpAny_release (aW aI h3 cO (((st.trans aU).trans et).l _) gK)
end
end Mine
end
section
namespace Mine
open PySem PyProof.Rows
noncomputable def eR (e:Expr):Bool:=e.ctorIdx != 8&&(e.ctorIdx != 9&&e.ctorIdx != 10)
theorem dJ {v:Expr} (h:eR v=true) (t:Option Expr) (n:Nat) (env:Env):swapsWith v t n env=pure false:=by
 cases v<;>first|rfl|exact Bool.noConfusion (show false=true from h)
noncomputable def xJ:Expr→Bool
 | .Starred .. =>true
 |_=>false
noncomputable def gg (sc:Scope) (ts:List Expr):List Str:=ts.filterMap fun
  | .Name id pos=>if sc.names.lookup id==some .local&&pos.line==(ts.head?.map (·.pos.line)).getD 0 then some id else none
  |_=>none
noncomputable def JE (sc:Scope) (ts vs:List Expr):Option (Option (List Str)):=
 if(!(ts.length==2||ts.length==3)||vs.length != ts.length||false)=true then some none
  else if vs.any xJ=true then some none
  else if((gg sc ts).length != ts.length||(gg sc ts).eraseDups.length != (gg sc ts).length)=true then some none
  else if vs.all (foldedForSure 8)=true then some none
  else if vs.all (constantsAlone 8)=true then none
  else some (some (gg sc ts))
noncomputable def ub (sc:Scope) (ts:List Expr) (e:Expr):Option (Option (List Str)):=if h:e.ctorIdx=25 then Expr.Tuple.elim (motive_1:=fun _=>Option (Option (List Str))) e h (fun vs _ _=>JE sc ts vs)else some none
theorem lC {α:Type} {c:Prop} [Decidable c] {a b:Sem α} {a' b':Option α} {r:α} (h:(if c then a' else b')=some r) (h1:a'=some r→a=pure r) (h2:b'=some r→b=pure r):(if c then a else b)=pure r:=by
 by_cases hc:c
 ·rw[if_pos hc]at h⊢;exact h1 h
 ·rw[if_neg hc]at h⊢;exact h2 h
theorem gk {α:Type} {a r:α} (h:some a=some r):(pure a:Sem α)=pure r:=congrArg pure (Option.some.inj h)
theorem B1 {env:Env} (hk:env.scope.kind=.function) {ts:List Expr} {v:Expr} {k:Nat} {p:Pos} {r:Option (List Str)} (h:ub env.scope ts v=some r):swappedStores [.Tuple ts k p] v env=pure r:=by
 have hb:env.blockKind=.function:=by unfold Env.blockKind;rw[hk];rfl
 cases v with
 |Tuple vs k' p'=>
  have key:swappedStores [.Tuple ts k p] (.Tuple vs k' p') env=(if(!(ts.length==2||ts.length==3)||vs.length != ts.length||env.blockKind != .function)=true then pure none
   else if vs.any xJ=true then pure none
   else if((gg env.scope ts).length != ts.length||(gg env.scope ts).eraseDups.length != (gg env.scope ts).length)=true then pure none
   else if vs.all (foldedForSure 8)=true then pure none
   else if vs.all (constantsAlone 8)=true then(do unsupported "assign.tuple-of-constant-expressions:order-of-the-stores";pure (some (gg env.scope ts)))
   else pure (some (gg env.scope ts))):=rfl
  rw[key,hb]
  exact lC h gk fun h=>lC h gk fun h=>lC h gk fun h=>lC h gk fun h=>lC h aF gk
 |_=>exact gk h
noncomputable def FN (sc:Scope):T→Expr→Bool
 | .loc i,e=>b9 e fun id _=>bN sc i id
 | .sub a b,e=>cv e fun o i _=>gG i&&(bw sc a o&&bw sc b i)
noncomputable def kZ (sc:Scope):List T→List Expr→Bool
 |[],l=>ck l
 |t::ts,l=>dM l fun x xs=>FN sc t x&&kZ sc ts xs
noncomputable def H5 (sc:Scope) (n:Str):T→Bool
 | .loc i=>bN sc i n
 | .sub _ _=>false
noncomputable def yi (sc:Scope):List T→List Str→Bool
 |[],l=>ck l
 |t::ts,l=>dM l fun n ns=>H5 sc n t&&yi sc ts ns
noncomputable def T.apart:T→T→Bool
 | .loc i,.loc j=>i != j
 |_,_=>false
noncomputable def wS (ts:List T):Bool:=dM ts fun a l=>dM l fun b l=>match l with
 |[]=>a.apart b
 |c::l=>ck l&&(a.apart b&&(a.apart c&&b.apart c))
noncomputable def yC (sc:Scope) (ts:List T) (xs:List Expr) (v:Expr):Bool:=match ub sc xs v with
 |none=>false
 |some none=>true
 |some (some ns)=>yi sc ts ns&&wS ts
noncomputable def pV:E→Bool
 | .lst .nil=>true
 | .loc _=>true
 |_=>false
noncomputable def GO:m7→Bool
 | .add=>true
 | .sub=>true
 |_=>false
theorem EH {op:m7} (h:GO op=true):op=.add∨op=.sub:=by cases op<;>first|exact .inl rfl|exact .inr rfl|exact bV h
noncomputable def jQ {α:Type} (l:List α) (k:α→α→α→Bool):Bool:=dM l fun a l=>pU l fun b c=>k a b c
theorem mn {α:Type} {P:List α→Prop} {l:List α} {k:α→α→α→Bool} (h:jQ l k=true) (f:∀a b c,k a b c=true→P [a,b,c]):P l:=
 cV h fun a l h=>qk (P:=fun l=>P (a::l)) h (f a)
noncomputable def qY:ExceptHandler→(Option Expr→Option Str→List Stmt→Pos→Bool)→Bool
 | .ExceptHandler a b c d,k=>k a b c d
theorem zj {P:ExceptHandler→Prop} {e:ExceptHandler} {k:Option Expr→Option Str→List Stmt→Pos→Bool} (h:qY e k=true) (f:∀a b c d,k a b c d=true→P (.ExceptHandler a b c d)):P e:=by
 cases e;exact f _ _ _ _ h
noncomputable def rx (n a:Str) (e:Expr):Bool:=bY e fun o b _=>b9 o fun m _=>b==a&&(m==n&&true)
theorem wN {P:Expr→Prop} {n a:Str} {e:Expr} (h:rx n a e=true) (f:∀p q,P (.Attribute (.Name n p) a q)):P e:=
 ei h fun o b q h=>cM (P:=fun o=>P (.Attribute o b q)) h fun m p h=>cU (P:=fun b=>P (.Attribute (.Name m p) b q)) h fun h=>cU (P:=fun m=>P (.Attribute (.Name m p) a q)) h fun _=>f p q
noncomputable def GX (sc:Scope) (i:Nat) (x:E) (n:Str) (e:Expr):Bool:=gU e fun l _ _=>pU l fun y z=>gU z fun l _ _=>jQ l fun a1 a2 a3=>rx n ("code":Str) a1&&(rx n ("value":Str) a2&&(rx n ("errorcode":Str) a3&&(bN sc i n&&(pV x&&bw sc x y))))
mutual
noncomputable def yK (sc:Scope):S→Stmt→Bool
 | .asg i e,st=>eQ st fun ts v _=>dA ts fun t=>b9 t fun id _=>bN sc i id&&(eR v&&bw sc e v)
 | .asgT ts e,st=>eQ st fun xs v _=>dA xs fun t=>gU t fun xs _ _=>kZ sc ts xs&&(eR v&&(yC sc ts xs v&&bw sc e v))
 | .asgS a b e,st=>eQ st fun xs v _=>dA xs fun t=>cv t fun o i _=>eR v&&(bw sc a o&&(bw sc b i&&bw sc e v))
 | .aug i op e,st=>eG st fun t o v _=>b9 t fun id _=>o==oJ op&&(bN sc i id&&(GO op&&bw sc e v))
 | .augS a b op e,st=>eG st fun t p v _=>cv t fun o i _=>p==oJ op&&(gG i&&(GO op&&(bw sc a o&&(bw sc b i&&bw sc e v))))
 | .ife c s t,st=>xk st fun x b o _=>bw sc c x&&(f8 sc s b&&f8 sc t o)
 | .whl c s,st=>lj st fun x b o _=>ck o&&(bw sc c x&&f8 sc s b)
 | .for1 i it s,st=>nY st fun t x b o _=>ck o&&b9 t fun id _=>bN sc i id&&(bw sc it x&&f8 sc s b)
 | .forT is it s,st=>nY st fun t x b o _=>ck o&&gU t fun xs _ _=>kZ sc (is.map T.loc) xs&&(bw sc it x&&f8 sc s b)
 | .ret e,st=>gj st fun v _=>isSome v fun x=>bw sc e x
 | .raise m,st=>mj st fun x c _=>isNone c&&isSome x fun x=>dw x fun fn vs kw _=>ck kw&&b9 fn fun id _=>dA vs fun y=>bR y fun c _ _=>id==("error":Str)&&(c== .str (sx m)&&cp sc ("error":Str))
 | .expr e,st=>lP st fun x _=>eR x&&bw sc e x
 | .brk,st=>lM st fun _=>true
 | .tryR s i x,st=>sH st fun b hs o f _=>ck o&&(ck f&&dA hs fun h=>qY h fun ty nm bd _=>isSome ty fun ty=>isSome nm fun n=>b9 ty fun t _=>dA bd fun r=>gj r fun v _=>isSome v fun v=>t==("Raised":Str)&&(cp sc ("Raised":Str)&&(GX sc i x n v&&f8 sc s b)))
noncomputable def f8 (sc:Scope):Ss→List Stmt→Bool
 | .nil,l=>ck l
 | .cons s ss,l=>dM l fun x xs=>yK sc s x&&f8 sc ss xs
end
section
variable {ae:Program} {w:World} {ac:Heap} {A:Around} {env:Env} {l:List Env} {Φ:ci} {W:Nat} {X:List Addr→Heap→Value→Ch→Prop} {mg mb:Str→Option Value} {fa:Fn→Addr}
noncomputable def jf (ae:Program) (w:World) (ac:Heap) (A:Around) (env:Env) (l:List Env) (Φ:ci) (X:List Addr→Heap→Value→Ch→Prop):List T→List (Value→Sem Unit)→Prop
 |[],fs=>fs=[]
 |t::ts,fs=>∃f gs,fs=f::gs∧sB ae w ac A env l Φ X t f∧jf ae w ac A env l Φ X ts gs
theorem jf.append {f:Value→Sem Unit} {t:T} (h:sB ae w ac A env l Φ X t f):∀{ts:List T} {fs:List (Value→Sem Unit)},jf ae w ac A env l Φ X ts fs→jf ae w ac A env l Φ X (ts++[t]) (fs++[f])
 |[],_,x=>⟨f,[],(by rw[x];rfl),h,rfl⟩
 |_::ts,_,⟨g,gs,e,x1,x2⟩=>⟨g,gs++[f],(by rw[e];rfl),x1,jf.append h (ts:=ts) x2⟩
theorem jf.reverse:∀{ts:List T} {fs:List (Value→Sem Unit)},jf ae w ac A env l Φ X ts fs→jf ae w ac A env l Φ X ts.reverse fs.reverse
 |[],_,x=>by rw[x];rfl
 |_::ts,_,⟨g,gs,e,x1,x2⟩=>by
  rw[e,List.reverse_cons,List.reverse_cons]
  exact jf.append x1 (jf.reverse (ts:=ts) x2)
theorem kK (hL:env.locals∈frs l):∀{ts:List T} {fs:List (Value→Sem Unit)},jf ae w ac A env l Φ X ts fs→∀σ ids s vs vals Q Ev,c6 ae w ac env l ids σ s.heap→bo s.heap ids vals vs→
  bG (dP Φ ts vs σ) (KU ae w ac env l ids s Q) (KY ae w ac env l X ids s Ev)→wpAny (model ae w) A (assignInOrder fs vals) Q Ev s
 |[],_,G,σ,ids,s,[],_,Q,Ev,S,r,h=>G▸repNil r (wpAny_assignInOrder_none (h ids s.heap s.toks (.refl _ _ _ _) S))
 |[],_,_,_,_,_,_::_,_,_,_,_,_,h=>h.elim
 |_::_,_,_,_,_,_,[],_,_,_,_,_,h=>h.elim
 |t::ts,_,⟨f,gs,e,g1,g2⟩,σ,ids,s,v::vs,_,Q,Ev,S,r,h=>e▸repCons r fun y ys r rs=>wpAny_assignInOrder_more (g1 σ ids s _ _ _ Ev S r ((az h).mono (fun _ ah au am h' tk st aC=>
   kK hL (ts:=ts) g2 ah am _ _ _ Q Ev aC (rs.stepL st hL S.noTup) (bG.mono au (fun _ _ k=>k.later st) fun _ _ k=>k.later st)) fun _ _ k=>k))
theorem j8 {lo:List (Option V)} {i j:Nat} (x y:V) (h:i≠j):setL (setL lo i x) j y=setL (setL lo j y) i x:=List.set_comm _ _ h
theorem fx (lo:List (Option V)) (i:Nat) (x:V):(setL lo i x).length=lo.length:=List.length_set
section
variable {ts:List T} {vs:List V} {σ:St} {Q:Unit→St→Prop} {Y:Ch→St→Prop} {i:Nat}
theorem lQ {P:List V→Prop} (h:bG (dP Φ (.loc i::ts) vs σ) Q Y) (k:∀v vs,i<σ.loc.length→bG (dP Φ ts vs {σ with loc:=setL σ.loc i v}) Q Y→P (v::vs)):P vs:=by
 cases vs with
 |nil=>exact h.elim
 |cons v vs=>exact dp (az h) fun hi h=>k v vs hi h
theorem ml {v:V} (hi:i<σ.loc.length) (h:bG (dP Φ ts vs {σ with loc:=setL σ.loc i v}) Q Y):bG (dP Φ (.loc i::ts) (v::vs) σ) Q Y:=
 cT (show bG (if i<σ.loc.length then okR () {σ with loc:=setL σ.loc i v} else Option.none) _ _ from(if_pos hi).symm▸h)
theorem BT {P:List V→Prop} (h:bG (dP Φ [] vs σ) Q Y) (k:Q () σ→P []):P vs:=by
 cases vs with
 |nil=>exact k h
 |cons v vs=>exact h.elim
@[elab_as_elim] theorem of_apart {P:T→T→Prop} {a b:T} (h:a.apart b=true) (k:∀i j,i≠j→P (.loc i) (.loc j)):P a b:=by
 cases a with
 |loc i=>cases b with
  |loc j=>exact k i j (bne_iff_ne.mp h)
  |sub _ _=>exact bV h
 |sub _ _=>exact bV h
theorem BX (h:wS ts=true) (hs:bG (dP Φ ts vs σ) Q Y):vs.length=ts.length∧bG (dP Φ ts.reverse vs.reverse σ) Q Y:=by
 revert hs
 refine cV (P:=fun ts=>bG (dP Φ ts vs σ) Q Y→vs.length=ts.length∧bG (dP Φ ts.reverse vs.reverse σ) Q Y) h fun a l h=>cV (P:=fun l=>bG (dP Φ (a::l) vs σ) Q Y→vs.length=(a::l).length∧bG (dP Φ (a::l).reverse vs.reverse σ) Q Y) h fun b l h=>?_
 cases l with
 |nil=>
  refine of_apart h fun i j ij hs=>lQ (P:=fun vs=>vs.length=2∧bG (dP Φ [.loc j,.loc i] vs.reverse σ) Q Y) hs fun x vs h1 hs=>lQ (P:=fun vs=>(x::vs).length=2∧bG (dP Φ [.loc j,.loc i] (x::vs).reverse σ) Q Y) hs fun y vs h2 hs=>BT (P:=fun vs=>(x::y::vs).length=2∧bG (dP Φ [.loc j,.loc i] (x::y::vs).reverse σ) Q Y) hs fun hs=>⟨rfl,?_⟩
  have h2:j<σ.loc.length:=fx σ.loc i x▸h2
  rw[j8 x y ij]at hs
  exact ml h2 (ml (fx σ.loc j y▸h1) hs)
 |cons c l=>
  refine af h fun h0 h=>af h fun hab h=>af h fun hac hbc=>cI (P:=fun l=>bG (dP Φ (a::b::c::l) vs σ) Q Y→vs.length=(a::b::c::l).length∧bG (dP Φ (a::b::c::l).reverse vs.reverse σ) Q Y) h0 ?_
  revert hac hbc
  refine of_apart hab fun i j ij hac hbc=>?_
  revert hbc
  cases c with
  |sub _ _=>exact bV hac
  |loc k=>
   intro hbc hs
   have ik:i≠k:=bne_iff_ne.mp hac
   have jk:j≠k:=bne_iff_ne.mp hbc
   refine lQ (P:=fun vs=>vs.length=3∧bG (dP Φ [.loc k,.loc j,.loc i] vs.reverse σ) Q Y) hs fun x vs h1 hs=>lQ (P:=fun vs=>(x::vs).length=3∧bG (dP Φ [.loc k,.loc j,.loc i] (x::vs).reverse σ) Q Y) hs fun y vs h2 hs=>lQ (P:=fun vs=>(x::y::vs).length=3∧bG (dP Φ [.loc k,.loc j,.loc i] (x::y::vs).reverse σ) Q Y) hs fun z vs h3 hs=>BT (P:=fun vs=>(x::y::z::vs).length=3∧bG (dP Φ [.loc k,.loc j,.loc i] (x::y::z::vs).reverse σ) Q Y) hs fun hs=>⟨rfl,?_⟩
   have h2:j<σ.loc.length:=fx σ.loc i x▸h2
   have h3:k<σ.loc.length:=fx σ.loc i x▸fx (setL σ.loc i x) j y▸h3
   rw[j8 y z jk,j8 x z ik,j8 x y ij]at hs
   exact ml h3 (ml (fx σ.loc k z▸h2) (ml (fx (setL σ.loc k z) j y▸fx σ.loc k z▸h1) hs))
end
end
end Mine
end
section
namespace Mine
open PySem PyProof.Rows
section
variable {ae:Program} {w:World} {ac:Heap} {A:Around} {env:Env} {l:List Env} {Φ:ci} {W:Nat} {X:List Addr→Heap→Value→Ch→Prop} {mg mb:Str→Option Value} {fa:Fn→Addr}
theorem Fr {i:Nat} {e:E} {id:Str} {v:Expr} {p q:Pos} (C:gb ac A env mg mb fa) (ok:bN env.scope i id=true) (hs:eR v=true) (he:aY ae w ac A env l Φ X e v):d3 ae w ac A env l Φ W X (.asg i e) (.Assign [.Name id p] v q):=fun σ ids s Q Ev S h=>
 wpAny_Assign_Name (he σ ids s _ Ev S ((az h).mono (fun x ah au val am h' tk st aC aZ=>dp au fun _ au=>dG C ok aC aZ fun aI h'' bv aU bq=>au .next aI h'' bv ((st.l _).trans aU) bq .next) fun _ _ k=>k.kx)) (dJ hs _ _ _)
theorem Dx {a b e:E} {o i v:Expr} {p q:Pos} (ha:aY ae w ac A env l Φ X a o) (hb:aY ae w ac A env l Φ X b i) (hs:eR v=true) (he:aY ae w ac A env l Φ X e v):
  d3 ae w ac A env l Φ W X (.asgS a b e) (.Assign [.Subscript o i p] v q):=fun σ ids s Q Ev S h=>by
 rw[exec_Assign_Subscript o i p v q (dJ hs _ _ _)]
 exact wpAny_bind (wpAny_standAt (wpAny_bind (he σ ids s _ Ev S ((az h).mono (fun x ah au val am h' tk st aC aZ=>
  wpAny_bind (By (p:=p) ha hb ah am _ _ _ _ Ev aC aZ ((az au).mono (fun _ aG aW aI h'' bv aU bq=>wpAny_pure (aW .next aI h'' bv ((st.l _).trans aU) bq .next)) fun _ _ k=>k.later (st.l _)))) fun _ _ k=>k.kx))))
theorem Fc {i:Nat} {op:m7} {e:E} {id:Str} {v:Expr} {p q:Pos} (C:gb ac A env mg mb fa) (ok:bN env.scope i id=true) (hop:op=.add∨op=.sub) (he:aY ae w ac A env l Φ X e v):
  d3 ae w ac A env l Φ W X (.aug i op e) (.AugAssign (.Name id p) (oJ op) v q):=fun σ ids s Q Ev S h=>
 A1 h fun old ho h=>S.lo.ns.elim fun m z=>(z.2 i id old (iX C ok).1 ho).elim fun val y=>wpAny_AugAssign_Name (wpAny_loadName_local C.kind (iX C ok).2 z.1 y.1 (he σ ids s _ Ev S ((az h).mono (fun x ah au IU am h' tk st aC aZ=>
  Eo au fun r e au=>qX (s:={s with heap:=h',toks:=tk}) (y.2.step st S.noTup) aZ e hop fun z bv rz=>dp au fun _ au=>dG (s:={s with heap:=h',toks:=bv}) C ok aC rz fun aI h'' cO aU bq=>au .next aI h'' cO ((st.l _).trans aU) bq .next) fun _ _ k=>k.kx)))
theorem Ed {a b e:E} {op:m7} {o i v:Expr} {p q:Pos} (ha:aY ae w ac A env l Φ X a o) (hb:aY ae w ac A env l Φ X b i) (hns:gG i=true) (hop:op=.add∨op=.sub) (he:aY ae w ac A env l Φ X e v):
  d3 ae w ac A env l Φ W X (.augS a b op e) (.AugAssign (.Subscript o i p) (oJ op) v q):=fun σ ids s Q Ev S h=>by
 have hi:∀ov iv new,augStore i ov iv new=(do holding [new,ov,iv] (setItem ov iv new);release [new,ov,iv] [];pure .next):=fun ov iv new=>by
  cases i<;>first|rfl|exact bV hns
 refine wpAny_AugAssign_SubscriptAny (ha σ ids s _ Ev S ((az h).mono (fun x ah au ov am h' tk st aC aZ=>?_) fun _ _ k=>k.kx)) hi
 refine hb ah am _ _ Ev aC ((az au).mono (fun y aG aW iv aI h'' bv aU bq cj=>Eo aW fun old eg aW=>?_) fun _ _ k=>k.kxl (st.l _))
 have EA:=aZ.step aU aC.noTup
 refine(uF (value:=o) (slice:=i) (s:={s with heap:=h'',toks:=bv}) bq.hp EA cj eg hns fun z cO rz=>?_).1
 refine he aG aI {s with heap:=h'',toks:=cO} _ Ev bq ((az aW).mono (fun u eO cY val eX h3 lr et gK mB=>Eo cY fun r e cY=>?_) fun _ _ k=>k.kxl ((st.trans aU).l _))
 exact qX (s:={s with heap:=h3,toks:=lr}) (rz.step et bq.noTup) mB e hop fun z' uJ rz'=>FF cY fun H es cY=>qH (s:={s with heap:=h3,toks:=uJ}) gK (EA.step et bq.noTup) (cj.step et bq.noTup) rz' es fun h4 Hv ni Bn=>
  cY .next eX h4 Hv ((((st.trans aU).trans et).trans ni).l _) Bn .next
theorem Fg {e:E} {v:Expr} {q:Pos} (he:aY ae w ac A env l Φ X e v):d3 ae w ac A env l Φ W X (.ret e) (.Return (some v) q):=fun σ ids s Q Ev S h=>
 wpAny_Return_some (he σ ids s _ Ev S ((az h).mono (fun x ah au val am h' tk st aC aZ=>au _ am h' tk (st.l _) ⟨aC.hp,aC.fr⟩ (.ret aZ)) fun _ _ k=>k.kx))
theorem Ea {e:E} {v:Expr} {q:Pos} (C:gb ac A env mg mb fa) (hs:eR v=true) (he:aY ae w ac A env l Φ X e v):d3 ae w ac A env l Φ W X (.expr e) (.Expr v q):=fun σ ids s Q Ev S h=>
 wpAny_Expr_any (he σ ids s _ Ev S ((az h).mono (fun x ah au val am h' tk st aC aZ=>au _ am h' tk (st.l _) aC .next) fun _ _ k=>k.kx)) (by unfold interactive;rw[C.kind];rfl) (dJ hs _ _ _)
theorem Ge {q:Pos}:d3 ae w ac A env l Φ W X .brk (.Break q):=fun σ ids s Q Ev S h=>wpAny_Break (h .brk ids s.heap s.toks (.refl _ _ _ _) S .brk)
theorem fO.on {e:Ss} {x:List Stmt} (ha:fO ae w ac A env l Φ W X e x) {ids am:List Addr} {ah:St} {s:Shared} {h':Heap} {tk:Nat} {Q:Flow→Shared→Prop} {Ev:Value→Shared→Prop} (st:cf (frs l) env.locals ids s.heap am h') (S:c6 ae w ac env l am ah h') (h:bG (bF Φ W e ah) (KF ae w ac env l ids s Q) (KY ae w ac env l X ids s Ev)):wpAny (model ae w) A (execs x env) Q Ev {s with heap:=h',toks:=tk}:=
 ha ah am _ Q Ev S (bG.mono h (fun _ _ k=>k.later st) fun _ _ k=>k.later st)
theorem GC {c:E} {s t:Ss} {x:Expr} {b o:List Stmt} {q:Pos} (hc:jw ae w ac A env l Φ X c x) (hs:fO ae w ac A env l Φ W X s b) (ht:fO ae w ac A env l Φ W X t o):d3 ae w ac A env l Φ W X (.ife c s t) (.If x b o q):=fun σ ids s Q Ev S h=>by
 refine wpAny_If (hc σ ids s _ Ev S ((az h).mono (fun b ah au am h' tk st aC=>?_) fun _ _ k=>k.kx))
 cases b with
 |true=>exact hs.on (st.l _) aC au
 |false=>exact ht.on (st.l _) aC au
theorem pF {sc:Scope} {t:T} {x:Expr} (h:FN sc t x=true) (xs:List Expr) (env:Env):assignEach (x::xs) env=(false,assign x env)::assignEach xs env:=by
 cases t with
 |loc i=>exact cM (P:=fun x=>assignEach (x::xs) env=(false,assign x env)::assignEach xs env) h fun _ _ _=>rfl
 |sub a b=>exact c8 (P:=fun x=>assignEach (x::xs) env=(false,assign x env)::assignEach xs env) h fun _ _ _ _=>rfl
theorem mG {sc:Scope}:∀{ts:List T} {xs:List Expr},kZ sc ts xs=true→xs.length=ts.length
 |[],_,h=>cI (P:=fun xs=>xs.length=0) h rfl
 |_::ts,_,h=>cV (P:=fun xs=>xs.length=ts.length+1) h fun _ _ h=>af h fun _ h=>congrArg (· +1) (mG h)
theorem gC {sc:Scope} {env:Env}:∀{ts:List T} {xs:List Expr},kZ sc ts xs=true→assignEach xs env=xs.map fun x=>(false,assign x env)
 |[],_,h=>cI (P:=fun xs=>assignEach xs env=xs.map fun x=>(false,assign x env)) h rfl
 |_::ts,_,h=>cV (P:=fun xs=>assignEach xs env=xs.map fun x=>(false,assign x env)) h fun x xs h=>af h fun h1 h=>(pF h1 xs env).trans (congrArg ((false,assign x env):: ·) (gC (ts:=ts) h))
theorem JD (C:gb ac A env mg mb fa) (hC:dO ae w ac A l fa Φ X) {t:T} {x:Expr} (h:FN env.scope t x=true):sB ae w ac A env l Φ X t (assign x env):=by
 cases t with
 |loc i=>exact cM (P:=fun x=>sB ae w ac A env l Φ X (.loc i) (assign x env)) h fun _ _ h=>Ee C h
 |sub a b=>exact c8 (P:=fun x=>sB ae w ac A env l Φ X (.sub a b) (assign x env)) h fun o i p h=>af h fun _ h=>af h fun h1 h2=>By (hV hC a env C o h1).1 (hV hC b env C i h2).1
theorem GM (C:gb ac A env mg mb fa) (hC:dO ae w ac A l fa Φ X):∀{ts:List T} {xs:List Expr},kZ env.scope ts xs=true→jf ae w ac A env l Φ X ts ((assignEach xs env).map (·.2))
 |[],_,h=>cI (P:=fun xs=>jf ae w ac A env l Φ X [] ((assignEach xs env).map (·.2))) h rfl
 |t::ts,_,h=>cV (P:=fun xs=>jf ae w ac A env l Φ X (t::ts) ((assignEach xs env).map (·.2))) h fun x xs h=>af h fun h1 h=>⟨_,_,by rw[pF h1];rfl,JD C hC h1,GM C hC (ts:=ts) h⟩
theorem Jp (C:gb ac A env mg mb fa) {t:T} {n:Str} (h:H5 env.scope n t=true):sB ae w ac A env l Φ X t (bindName env n):=by
 cases t with
 |loc i=>exact Dk C h
 |sub _ _=>exact bV h
theorem Fk (C:gb ac A env mg mb fa):∀{ts:List T} {ns:List Str},yi env.scope ts ns=true→ns.length=ts.length∧jf ae w ac A env l Φ X ts (ns.map fun n=>bindName env n)
 |[],_,h=>cI (P:=fun ns=>ns.length=0∧jf ae w ac A env l Φ X [] (ns.map fun n=>bindName env n)) h ⟨rfl,rfl⟩
 |t::ts,_,h=>cV (P:=fun ns=>ns.length=ts.length+1∧jf ae w ac A env l Φ X (t::ts) (ns.map fun n=>bindName env n)) h fun n ns h=>af h fun h1 h=>⟨congrArg (· +1) (Fk C (ts:=ts) h).1,_,_,rfl,Jp C h1,(Fk C (ts:=ts) h).2⟩
theorem lN (C:gb ac A env mg mb fa) (hL:env.locals∈frs l) {ts:List T} {fs:List (Bool×(Value→Sem Unit))} (G:jf ae w ac A env l Φ X ts (fs.map (·.2))) (hst:fs.findIdx? (·.1)=none) {σ:St} {ids:List Addr} {s:Shared} {a:Addr} {items:Array Value} {n:Nat} {vs:List V} {Q:Unit→Shared→Prop} {Ev:Value→Shared→Prop}
  (S:c6 ae w ac env l ids σ s.heap) (e:s.heap.get? a=some (kW items n)) (rs:bo s.heap ids items.toList vs) (hlen:vs.length=fs.length) (h:bG (dP Φ ts vs σ) (KU ae w ac env l ids s Q) (KY ae w ac env l X ids s Ev)):
  wpAny (model ae w) A (unpack (.ref a) fs) Q Ev s:=by
 have hs:items.size=vs.length:=rs.length
 refine wpAny_unpack_tuple C.hd ⟨_,e,rfl,n,rfl⟩ (by rw[hs,hlen]) hst fun h' eb=>?_
 have g:cg s.heap h':=⟨fun b o eo=>eb b o (xi (.inl (Heap.lt_size eo))) eo⟩
 exact kK hL G σ ids {s with heap:=h'} vs _ Q Ev (S.grow g) (rs.step g.step S.noTup) (bG.mono h (fun _ _ k=>k.later (tk:=s.toks) (g.step.l _)) fun _ _ k=>k.later (tk:=s.toks) (g.step.l _))
end
end Mine
end
section
namespace Mine
open PySem PyProof.Rows
section
variable {ae:Program} {w:World} {ac:Heap} {A:Around} {env:Env} {l:List Env} {Φ:ci} {W:Nat} {X:List Addr→Heap→Value→Ch→Prop} {mg mb:Str→Option Value} {fa:Fn→Addr}
theorem bo.reverse {h:Heap} {ids:List Addr}:∀{vs:List V} {as:List Value},bo h ids as vs→bo h ids as.reverse vs.reverse
 |[],_,r=>repNil r .nil
 |v::vs,_,r=>repCons (P:=fun as=>bo h ids as.reverse (v::vs).reverse) r fun y ys r rs=>by
  rw[List.reverse_cons,List.reverse_cons]
  exact bo.append (.cons r .nil) (bo.reverse (vs:=vs) rs)
theorem GH {sc:Scope} {ts:List T} {xs:List Expr} {v:Expr} {G:Prop} (h:yC sc ts xs v=true) (h1:ub sc xs v=some none→G) (h2:∀ns,ub sc xs v=some (some ns)→yi sc ts ns=true→wS ts=true→G):G:=by
 unfold yC at h
 revert h1 h2
 generalize ub sc xs v=o at*
 intro h1 h2
 cases o with
 |none=>exact bV h
 |some o=>cases o with
  |none=>exact h1 rfl
  |some ns=>exact af h (h2 ns rfl)
theorem yr (xs:List Expr) (env:Env):((xs.map fun x=>((false,assign x env):Bool×(Value→Sem Unit))).findIdx? (·.1))=none:=by
 rw[List.findIdx?_map]
 exact List.findIdx?_eq_none_iff.mpr fun _ _=>rfl
theorem CF {ts:List T} {e:E} {xs:List Expr} {v:Expr} {k:Nat} {p q:Pos} (C:gb ac A env mg mb fa) (hC:dO ae w ac A l fa Φ X) (hL:env.locals∈frs l) (hts:kZ env.scope ts xs=true) (hs:eR v=true) (hsw:yC env.scope ts xs v=true)
  (he:aY ae w ac A env l Φ X e v):d3 ae w ac A env l Φ W X (.asgT ts e) (.Assign [.Tuple xs k p] v q):=fun σ ids s Q Ev S h=>by
 rw[exec_Assign_arm]
 refine wpAny_bind (wpAny_standAt ?_)
 refine wpAny_bind (wpAny_of_eq (a:=false) (show swapsWithSole [.Tuple xs k p] v q.line env=pure false from dJ hs (some (.Tuple xs k p)) q.line env) ?_)
 rw[if_neg Bool.false_ne_true]
 refine wpAny_bind (he σ ids s _ Ev S ((az h).mono (fun x ah au val am h' tk st aC aZ=>onT aZ au fun a items n vs e1 rs au=>dp au fun hlen au=>?_) fun _ _ k=>k.kx))
 have EM:=az au
 have hsz:items.size=vs.length:=rs.length
 refine GH hsw (fun hso=>?_) fun ns hso hn ha=>?_
 ·refine wpAny_bind (wpAny_of_eq (B1 C.kind hso) ?_)
  show wpAny _ _ (assign (.Tuple xs k p) env (.ref a)>>= fun _=>pure Flow.next) _ _ _
  rw[arm_assign_Tuple]
  exact wpAny_bind (wpAny_bind (wpAny_standAt (lN C hL (GM C hC hts) (by rw[gC hts];exact yr xs env) aC e1 rs (by rw[gC hts,List.length_map,hlen,mG hts])
   (bG.mono EM (fun _ aG uV aI h'' bv aU bq=>wpAny_pure (uV .next aI h'' bv ((st.l _).trans aU) bq .next)) fun _ _ k=>k.later (st.l _)))))
 ·have G:=Fk (ae:=ae) (w:=w) (l:=l) (Φ:=Φ) (X:=X) C hn
  refine wpAny_bind (wpAny_of_eq (B1 C.kind hso) ?_)
  refine wpAny_bind (wpAny_rule ?_)
  rw[show ns.length=items.size from G.1.trans (hlen.symm.trans hsz.symm)]
  refine wpAny_bind (wpAny_unpackItems_tuple C.hd ⟨_,e1,rfl,n,rfl⟩ fun h2 eb=>?_)
  have g:cg h' h2:=⟨fun b o eo=>eb b o (xi (.inl (Heap.lt_size eo))) eo⟩
  rw[show(ns.reverse.map fun n=>bindName env n)=(ns.map fun n=>bindName env n).reverse from List.map_reverse]
  have rsr:bo h2 am items.toList.reverse vs.reverse:=(rs.step g.step aC.noTup).reverse
  exact wpAny_bind (kK hL G.2.reverse ah am _ _ _ _ Ev (aC.grow g) rsr (BX ha (bG.mono EM (fun _ aG uV aI h'' bv aU bq=>wpAny_pure (uV .next aI h'' bv (((st.trans g.step).l _).trans aU) bq .next)) fun _ _ k=>k.later ((st.trans g.step).l _))).2)
noncomputable def yg (ae:Program) (w:World) (ac:Heap) (A:Around) (env:Env) (l:List Env) (X:List Addr→Heap→Value→Ch→Prop):Prop:=
 ∀ids (s:Shared) σ x m Ev,c6 ae w ac env l ids σ s.heap→X ids s.heap x m→KY ae w ac env l X ids s Ev m σ→notedBy (model ae w) A env (fun e s'=>cameBackBy (model ae w) A env Ev e s') x s
theorem KY.noted (hN:yg ae w ac A env l X) {ids:List Addr} {s:Shared} {Ev:Value→Shared→Prop} {m:Ch} {σ:St} (k:KY ae w ac env l X ids s Ev m σ):
  KY ae w ac env l X ids s (notedBy (model ae w) A env (fun e s'=>cameBackBy (model ae w) A env Ev e s')) m σ:=fun x ids' h' tk st S' hX=>hN ids' {s with heap:=h',toks:=tk} σ x m Ev S' hX (k.later st)
inductive WL (ae:Program) (w:World) (ac:Heap) (env:Env) (l:List Env) (ids:List Addr) (s:Shared) (K:Nat→St→Prop) (n:Nat):Shared→Prop
 |mk (ah:St) (am:List Addr) (au:Heap) (Cj:Nat):cf (frs l) env.locals ids s.heap am au→c6 ae w ac env l am ah au→K n ah→WL ae w ac env l ids s K n {s with heap:=au,toks:=Cj}
theorem FK {c:E} {b:Ss} {x:Expr} {body:List Stmt} {q:Pos} (hN:yg ae w ac A env l X) (hc:jw ae w ac A env l Φ X c x) (hb:fO ae w ac A env l Φ W X b body):
  d3 ae w ac A env l Φ W X (.whl c b) (.While x body [] q):=fun σ ids s Q Ev S h=>by
 refine wpAny_While ?_
 refine codeAny_whileLoop (I:=WL ae w ac env l ids s (fun n ah=>bG (iter (tE Φ c) (bF Φ W b) n ah) (KF ae w ac env l ids s Q) (KY ae w ac env l X ids s Ev))) ?_ W ⟨σ,ids,s.heap,s.toks,.refl _ _ _ _,S,h⟩
 intro n _ c
 cases c with|mk ah am au Cj ED aC hs=>?_
 cases n with
 |zero=>exact hs.elim
 |succ n=>
  refine hc ah am {s with heap:=au,toks:=Cj} _ _ aC ((az hs).mono (fun t aG uV aI aW bv aU bq=>?_) fun _ _ k=>((k.later ED).noted hN).kx)
  have st12:=ED.trans (aU.l env.locals)
  cases t with
  |false=>exact wpAny_execs_nil (uV .next aI aW bv st12 bq .next)
  |true=>
   refine hb aG aI {s with heap:=aW,toks:=bv} _ _ bq ((az uV).mono (fun fl eO FM=>?_) fun _ _ k=>(k.later st12).noted hN)
   intro f eX cY cO et gK fr
   cases fr with
   |next=>exact⟨n,Nat.lt_succ_self n,eO,eX,cY,cO,st12.trans et,gK,FM⟩
   |brk=>exact FM .next eX cY cO (st12.trans et) gK .next
   |ret r=>exact FM _ eX cY cO (st12.trans et) gK (.ret r)
end
end Mine
end
section
namespace Mine
open PySem PyProof.Rows
section
variable {ae:Program} {w:World} {ac:Heap} {A:Around} {env:Env} {l:List Env} {Φ:ci} {W:Nat} {X:List Addr→Heap→Value→Ch→Prop} {mg mb:Str→Option Value} {fa:Fn→Addr}
theorem GI {s:Shared} {ids:List Addr} {I:Addr} {i:Nat} {src:V} {tgt:Expr} {v:Value} {Q:Unit→Shared→Prop} {Ev:Value→Shared→Prop} (x:eB s.heap ids I i src) (h:Q () s):wpAny (model ae w) A (letOwnedTupleGo tgt (.ref I) v) Q Ev s:=by
 have key:wpAny (model ae w) A (do
   let o←load I
   match o.cls,o.data with
   | .type n,.fields vs=>
    if["enumerate","zip","dict_itemiterator","dict_reverseitemiterator","odict_iterator","itertools.zip_longest","itertools.pairwise"].contains n&&vs[0]? ==some (rawInt (match v with| .ref a=>a|_=>0))then
     rule "for.unpacks-the-owned-tuple"
     updateField I 0 .none
   |_,_=>pure ()) Q Ev s:=by
  refine x.get.elim fun o z=>z.elim fun vs z=>wpAny_bind (wpAny_load z.1 ?_)
  rw[z.2.1]
  exact z.2.2.elim (fun hc=>by rw[hc];exact wpAny_pure h) fun hc=>by rw[hc];exact wpAny_pure h
 cases tgt<;>first|exact wpAny_pure h|(cases v<;>first|exact wpAny_pure h|exact key)
noncomputable def wa (ae:Program) (w:World) (ac:Heap) (A:Around) (env:Env) (l:List Env) (g:V→St→R Fl) (tgt:Expr) (body:List Stmt):Prop:=
 ∀σ ids s v val Qb Eb,c6 ae w ac env l ids σ s.heap→bL s.heap ids val v→bG (g v σ) (KF ae w ac env l ids s Qb) (fun _ _=>False)→
  wpAny (model ae w) A (assign tgt env val) (fun _ Gb=>wpAny (model ae w) A (execs body env) Qb Eb Gb) Eb s
theorem d7 {α:Type} {o:Option α} (h:∀a,o≠some a):o=none:=by
 cases o with
 |none=>rfl
 |some a=>exact absurd rfl (h a)
inductive FL (ae:Program) (w:World) (ac:Heap) (env:Env) (l:List Env) (ids:List Addr) (s:Shared) (am:List Addr) (h':Heap) (I:Addr) (src:V) (items:List V) (K:Nat→St→Prop) (n:Nat):Shared→Prop
 |mk (i:Nat) (aG:St) (aI:List Addr) (aW:Heap) (bv:Nat):i+n=items.length→cf (frs l) env.locals ids s.heap aI aW→cf (frs l) env.locals am h' aI aW→c6 ae w ac env l aI aG aW→eB aW aI I i src→I∉aI→bW aG.hp src=some items→K i aG→
  FL ae w ac env l ids s am h' I src items K n {s with heap:=aW,toks:=bv}
open Classical in
theorem Dy {src:V} {items:List V} {g:V→St→R Fl} {v:V} {vs:List V} {σ:St} {Q K:Fl→St→Prop} {Y Z:Ch→St→Prop} (h:bG (hZ src items g (v::vs) σ) Q Y) (f:∀fl σ',bG (match fl with
   | .next=>if bW σ'.hp src=some items then hZ src items g vs σ' else Option.none
   | .brk=>okR .next σ'
   | .ret v=>okR (.ret v) σ') Q Y→K fl σ'):bG (g v σ) K Z:=by
 rw[hZ]at h
 generalize g v σ=r at*
 cases r with
 |none=>exact h.elim
 |some r=>obtain⟨r,σ'⟩:=r;cases r with
  |error m=>exact h.elim
  |ok fl=>exact f fl σ' h
open Classical in
theorem Ba {itE:E} {g:V→St→R Fl} {tgt iter:Expr} {body:List Stmt} {q:Pos} (C:gb ac A env mg mb fa) (hL:env.locals∈frs l) (hfold:∀v,foldedSetIterable iter env v=pure v) (hit:aY ae w ac A env l Φ X itE iter) (hT:wa ae w ac A env l g tgt body)
  {σ:St} {ids:List Addr} {s:Shared} {Q:Flow→Shared→Prop} {Ev:Value→Shared→Prop} (S:c6 ae w ac env l ids σ s.heap)
  (h:bG (cW (eE Φ itE σ) fun src σ=>match bW σ.hp src with
   |some items=>if items.length<10000 then hZ src items g items σ else Option.none
   |Option.none=>Option.none) (KF ae w ac env l ids s Q) (KY ae w ac env l X ids s Ev)):wpAny (model ae w) A (exec (.For tgt iter body [] q) env) Q Ev s:=by
 refine wpAny_For (hit σ ids s _ Ev S ((az h).mono (fun src ah au val am h' tk st aC aZ=>uE au fun items e au=>dp au fun hlen au=>?_) fun _ _ k=>k.kx)) hfold
 refine ud (s:={s with heap:=h',toks:=tk}) aC.hp aZ e fun o x0=>?_
 have fresh:h'.get? h'.objs.size=none:=cb _
 have dead:∀{o},h'.get? h'.objs.size≠some o:=fun e=>by rw[fresh]at e;cases e
 have iI:h'.objs.size∉am:=fun q=>(aC.hp.data q).elim (fun z=>z.elim fun _ z=>z.elim fun _ z=>dead z) fun z=>z.elim fun _ z=>z.elim fun _ z=>z.elim fun _ z=>dead z.1
 have iF:h'.objs.size∉frs l:=fun q=>by obtain⟨_,_,o,_,_,e,_⟩:=aC.fr.mem q;exact dead e
 have ie:h'.objs.size≠env.locals:=fun q=>iF (q▸hL)
 have il:ac.get? h'.objs.size=none:=d7 fun o z=>dead (aC.hp.base _ o z)
 have i0:s.heap.get? h'.objs.size=none:=d7 fun o z=>(st.keep.dom _ o z).elim fun _ e=>dead e
 have g0:cg h' (h'.push o):=cg.push _ _
 refine codeAny_forLoop_any (I:=FL ae w ac env l ids s am h' h'.objs.size src items (fun i aG=>bG (hZ src items g (items.drop i) aG) (KF ae w ac env l ids s Q) (KY ae w ac env l X ids s Ev))) ?_ items.length
  ⟨0,ah,am,h'.push o,tk,Nat.zero_add _,(st.trans g0.step).l _,g0.step.l _,aC.grow g0,x0,iI,e,au⟩
 intro n _ c
 cases c with|mk i aG aI aW bv hin aU stl bq x wX Im hs=>?_
 have ap:=x.apart (ac:=ac) (l:=l) wX iF il
 refine qV (σ:=aG) C.hd bq.hp x wX Im (fun v rv h3 q2 r3 bt x3=>GI x3 ?_) fun h3 q2 bt=>?_
 ·have q3:=List.getElem?_eq_some_iff.mp q2
  rw[List.drop_eq_getElem_cons q3.1]at hs
  have S3:=bq.but ap ie bt
  have st3:=aU.but i0 bt
  refine hT aG aI {s with heap:=h3,toks:=bv} v rv _ _ S3 (r3.but bt ap.tup) (Dy (q3.2▸hs) fun fl σ' hs f vZ FR lr ni Bn fr=>?_)
  cases fr with
  |next=>exact dp hs fun hc hs=>⟨n-1,Nat.sub_lt (by omega) Nat.one_pos,i+1,σ',vZ,FR,lr,by omega,st3.trans ni,(stl.but fresh bt).trans ni,Bn,x3.stepL ni hL S3.noTup wX iF,ni.out wX (x3.get.elim fun o z=>z.elim fun _ z=>⟨o,z.1⟩),hc,hs⟩
  |brk=>exact hs .next vZ FR lr (st3.trans ni) Bn .next
  |ret r=>exact hs _ vZ FR lr (st3.trans ni) Bn (.ret r)
 ·rw[List.drop_eq_nil_of_le (List.getElem?_eq_none_iff.mp q2)]at hs
  exact wpAny_execs_nil (hs .next aI h3 bv (aU.but i0 bt) (bq.but ap ie bt) .next)
theorem G6 {i:Nat} {b:Ss} {id:Str} {p:Pos} {body:List Stmt} (C:gb ac A env mg mb fa) (ok:bN env.scope i id=true) (hb:fO ae w ac A env l Φ W X b body):
  wa ae w ac A env l (fun v σ=>if i<σ.loc.length then bF Φ W b {σ with loc:=setL σ.loc i v} else Option.none) (.Name id p) body:=fun σ ids s v val Qb Eb S r h=>by
 exact dp h fun _ h=>wpAny_assign_Name (dG C ok S r fun aI aW bv aU bq=>hb _ aI _ _ Eb bq (bG.mono h (fun _ _ k=>k.later aU) fun _ _ k=>k.elim))
theorem HH {is:List Nat} {b:Ss} {xs:List Expr} {k:Nat} {p:Pos} {body:List Stmt} (C:gb ac A env mg mb fa) (hC:dO ae w ac A l fa Φ X) (hL:env.locals∈frs l) (hts:kZ env.scope (is.map T.loc) xs=true) (hb:fO ae w ac A env l Φ W X b body):
  wa ae w ac A env l (fun v σ=>match v with
    | .tup vs=>if vs.length=is.length then cW (dP Φ (is.map T.loc) vs σ) fun _ σ=>bF Φ W b σ else Option.none
    |_=>Option.none) (.Tuple xs k p) body:=fun σ ids s v val Qb Eb S r h=>by
 refine onT r h fun a items n vs e1 rs h=>dp h fun hlen h=>?_
 rw[arm_assign_Tuple]
 exact wpAny_bind (wpAny_standAt (lN (X:=X) C hL (GM C hC hts) (by rw[gC hts];exact yr xs env) S e1 rs (by rw[gC hts,List.length_map,hlen,mG hts,List.length_map])
  ((az h).mono (fun _ aG uV aI aW bv aU bq=>hb _ aI _ _ Eb bq (bG.mono uV (fun _ _ k=>k.later aU) fun _ _ k=>k.elim)) fun _ _ k=>k.elim)))
theorem DV {i:Nat} {itE:E} {b:Ss} {id:Str} {iter:Expr} {body:List Stmt} {p q:Pos} (C:gb ac A env mg mb fa) (hL:env.locals∈frs l) (ok:bN env.scope i id=true) (hfold:∀v,foldedSetIterable iter env v=pure v) (hit:aY ae w ac A env l Φ X itE iter) (hb:fO ae w ac A env l Φ W X b body):
  d3 ae w ac A env l Φ W X (.for1 i itE b) (.For (.Name id p) iter body [] q):=fun σ ids s Q Ev S h=>by
 exact Ba C hL hfold hit (G6 C ok hb) S h
theorem CO {is:List Nat} {itE:E} {b:Ss} {xs:List Expr} {k:Nat} {iter:Expr} {body:List Stmt} {p q:Pos} (C:gb ac A env mg mb fa) (hC:dO ae w ac A l fa Φ X) (hL:env.locals∈frs l) (hts:kZ env.scope (is.map T.loc) xs=true) (hfold:∀v,foldedSetIterable iter env v=pure v) (hit:aY ae w ac A env l Φ X itE iter) (hb:fO ae w ac A env l Φ W X b body):
  d3 ae w ac A env l Φ W X (.forT is itE b) (.For (.Tuple xs k p) iter body [] q):=fun σ ids s Q Ev S h=>by
 exact Ba C hL hfold hit (HH C hC hL hts hb) S h
noncomputable def xN (ae:Program) (w:World) (ac:Heap) (A:Around) (env:Env) (l:List Env) (Φ:ci) (W:Nat) (X:List Addr→Heap→Value→Ch→Prop):Prop:=
 ∀m ps,yK env.scope (.raise m) ps=true→d3 ae w ac A env l Φ W X (.raise m) ps
noncomputable def EW (ae:Program) (w:World) (ac:Heap) (A:Around) (env:Env) (l:List Env) (Φ:ci) (W:Nat) (X:List Addr→Heap→Value→Ch→Prop):Prop:=
 ∀s i x ps,yK env.scope (.tryR s i x) ps=true→(∀qs,f8 env.scope s qs=true→fO ae w ac A env l Φ W X s qs)→d3 ae w ac A env l Φ W X (.tryR s i x) ps
theorem EL (C:gb ac A env mg mb fa) (hC:dO ae w ac A l fa Φ X) (hL:env.locals∈frs l) (hN:yg ae w ac A env l X) (hR:xN ae w ac A env l Φ W X) (hT:EW ae w ac A env l Φ W X):∀(ss:Ss) (ps:List Stmt),f8 env.scope ss ps=true→fO ae w ac A env l Φ W X ss ps:=
 Ss.rec (motive_1:=fun s=>∀ps:Stmt,yK env.scope s ps=true→d3 ae w ac A env l Φ W X s ps) (motive_2:=fun ss=>∀ps:List Stmt,f8 env.scope ss ps=true→fO ae w ac A env l Φ W X ss ps)
  (fun i e p h=>j6 h fun ts v q h=>f9 (P:=fun ts=>d3 ae w ac A env l Φ W X (.asg i e) (.Assign ts v q)) h fun t h=>cM (P:=fun t=>d3 ae w ac A env l Φ W X (.asg i e) (.Assign [t] v q)) h fun id z h=>af h fun h1 h=>af h fun h2 h=>Fr C h1 h2 (hV hC e env C v h).1)
  (fun ts e p h=>j6 h fun xs v q h=>f9 (P:=fun xs=>d3 ae w ac A env l Φ W X (.asgT ts e) (.Assign xs v q)) h fun t h=>lO (P:=fun t=>d3 ae w ac A env l Φ W X (.asgT ts e) (.Assign [t] v q)) h fun xs k z h=>af h fun h1 h=>af h fun h2 h=>af h fun h3 h=>CF C hC hL h1 h2 h3 (hV hC e env C v h).1)
  (fun a b e p h=>j6 h fun xs v q h=>f9 (P:=fun xs=>d3 ae w ac A env l Φ W X (.asgS a b e) (.Assign xs v q)) h fun t h=>c8 (P:=fun t=>d3 ae w ac A env l Φ W X (.asgS a b e) (.Assign [t] v q)) h fun o i z h=>af h fun h1 h=>af h fun h2 h=>af h fun h3 h=>Dx (hV hC a env C o h2).1 (hV hC b env C i h3).1 h1 (hV hC e env C v h).1)
  (fun i op e p h=>l7 h fun t o v q h=>cM (P:=fun t=>d3 ae w ac A env l Φ W X (.aug i op e) (.AugAssign t o v q)) h fun id z h=>cU (P:=fun o=>d3 ae w ac A env l Φ W X (.aug i op e) (.AugAssign (.Name id z) o v q)) h fun h=>af h fun h1 h=>af h fun h2 h=>Fc C h1 (EH h2) (hV hC e env C v h).1)
  (fun a b op e p h=>l7 h fun t o v q h=>c8 (P:=fun t=>d3 ae w ac A env l Φ W X (.augS a b op e) (.AugAssign t o v q)) h fun x y z h=>cU (P:=fun o=>d3 ae w ac A env l Φ W X (.augS a b op e) (.AugAssign (.Subscript x y z) o v q)) h fun h=>af h fun h1 h=>af h fun h2 h=>af h fun h3 h=>af h fun h4 h=>Ed (hV hC a env C x h3).1 (hV hC b env C y h4).1 h1 (EH h2) (hV hC e env C v h).1)
  (fun c s t hs ht p h=>HR h fun x b o q h=>af h fun h1 h=>af h fun h2 h3=>GC (hV hC c env C x h1).2 (hs b h2) (ht o h3))
  (fun c s hs p h=>AS h fun x b o q h=>af h fun h0 h=>cI (P:=fun o=>d3 ae w ac A env l Φ W X (.whl c s) (.While x b o q)) h0 (af h fun h1 h2=>FK hN (hV hC c env C x h1).2 (hs b h2)))
  (fun i it s hs p h=>Ca h fun t x b o q h=>af h fun h0 h=>cI (P:=fun o=>d3 ae w ac A env l Φ W X (.for1 i it s) (.For t x b o q)) h0 (cM (P:=fun t=>d3 ae w ac A env l Φ W X (.for1 i it s) (.For t x b [] q)) h fun id z h=>af h fun h1 h=>af h fun h2 h3=>DV C hL h1 (pD h2 env) (hV hC it env C x h2).1 (hs b h3)))
  (fun is it s hs p h=>Ca h fun t x b o q h=>af h fun h0 h=>cI (P:=fun o=>d3 ae w ac A env l Φ W X (.forT is it s) (.For t x b o q)) h0 (lO (P:=fun t=>d3 ae w ac A env l Φ W X (.forT is it s) (.For t x b [] q)) h fun xs k z h=>af h fun h1 h=>af h fun h2 h3=>CO C hC hL h1 (pD h2 env) (hV hC it env C x h2).1 (hs b h3)))
  (fun e p h=>mu h fun v q h=>fS (P:=fun v=>d3 ae w ac A env l Φ W X (.ret e) (.Return v q)) h fun x h=>Fg (hV hC e env C x h).1)
  (fun m p h=>hR m p h)
  (fun e p h=>xX h fun x q h=>af h fun h1 h=>Ea C h1 (hV hC e env C x h).1)
  (fun p h=>zP h fun q _=>Ge)
  (fun s i x hs p h=>hT s i x p h hs)
  (fun p h=>cI (P:=fO ae w ac A env l Φ W X .nil) h F2)
  (fun s ss hs hss p h=>cV (P:=fO ae w ac A env l Φ W X (.cons s ss)) h fun x xs h=>af h fun h1 h2=>C7 (hs x h1) (hss xs h2))
end
end Mine
end
section
namespace Mine
open PySem PyProof.Rows
open Builtin Builtin.ObjectAttr
noncomputable abbrev EG:List Value:=[.type "Exception",.type "BaseException",.type "object"]
noncomputable def bT:List Str:=["code","value","errorcode","level","ret","info","is_noted","line","extra"]
inductive vL (h:Heap) (C N:Addr):Prop
 |mk (nm q:Str) (bs:List Value) (sn:List Str) (sub:List Value) (ab:Bool) (col:Option Bool) (dd:Option Addr) (k0 k1 k2 k3 k5:Option Value):h.get? C=some (excClassObj nm q C N bs EG true sn sub ab col dd k0 k1 k2 k3 k5 "Exception.__new__")→vL h C N
structure kj (h:Heap) (C N fI:Addr) (mN:Str→Option Value):Prop where
 obj:vL h C N
 ns:h.Ns N mN
 init:mN "__init__"=some (.ref fI)
 setattr:mN "__setattr__"=none
 getattribute:mN "__getattribute__"=none
 getattr:mN "__getattr__"=none
 quiet:∀n∈bT,mN n=none
theorem kj.keeps {h h':Heap} {C N fI:Addr} {mN:Str→Option Value} (x:kj h C N fI mN) (k:∀b o,h.get? b=some o→h'.get? b=some o):kj h' C N fI mN:=by
 obtain⟨⟨nm,q,bs,sn,sub,ab,col,dd,k0,k1,k2,k3,k5,o⟩,n,a,b,c,d,e⟩:=x
 exact⟨⟨nm,q,bs,sn,sub,ab,col,dd,k0,k1,k2,k3,k5,k _ _ o⟩,n.keeps k,a,b,c,d,e⟩
theorem wq (n:Str) (hn:n∈bT):typeLookup (.type "Exception") n=pure none:=by
 simp only[bT,List.mem_cons,List.not_mem_nil,or_false]at hn
 rcases hn with rfl|rfl|rfl|rfl|rfl|rfl|rfl|rfl|rfl<;>(rw[typeLookup_type,builtinLookup_eq_fast];kernel_rfl)
section
variable {ae:Program} {w:World} {A:Around} {E:Value→Shared→Prop} {h:Heap} {g:Array GenState} {d:Drawn} {t:Nat} {os:OsState}
variable {C N fI x:Addr} {mN mA:Str→Option Value} {name:Str} {v:Value}
theorem CV {Q:Unit→Shared→Prop} {ns:List Str} (R:kj h C N fI mN) (hn:name∈bT) (hxC:x≠C) (I:h.Inst x C mA)
  (hq:∀h' tk',h'.Inst x C (fun y=>if y=name then some v else mA y)→
   (∀b o,b≠x→(∀nr dx,h.get? x=some nr→nr.dict=some dx→b≠dx)→h.get? b=some o→h'.get? b=some o)→
   (∀nr,h.get? x=some nr→∃v4,h'.get? x=some v4∧v4.cls=nr.cls∧v4.data=nr.data∧v4.slots=nr.slots∧∀dx,nr.dict=some dx→v4.dict=some dx)→Q () ⟨h',g,d,tk',os⟩) (hw:Within mA ns) (hsz:ns.length≤sizeLine):
  wpAny (model ae w) A (setAttr (.ref x) name v) Q E ⟨h,g,d,t,os⟩:=by
 obtain⟨nm,q,bs,sn,sub,ab,col,dd,k0,k1,k2,k3,k5,hC⟩:=R.obj
 exact store_attr F.store_Exception hC R.ns R.setattr (R.quiet _ hn) (wq _ hn) hxC I hq hw hsz
theorem BE {tk:Tok} {Q:Fin→Shared→Prop} {o:Obj} {vs:Array Value} {dx:Addr} (R:kj h C N fI mN) (hn:name∈bT) (hx:h.get? x=some o) (hc:o.cls=.ref C) (hdat:o.data=.fields vs) (hdx:o.dict=some dx) (hns:h.Ns dx mA) (hv:mA name=some v) (hq:Q (.done (.ret v)) ⟨h,g,d,t,os⟩):
  wpAny (model ae w) A (Builtin.«object.__getattribute__» ⟨[.ref x,.str name tk],[]⟩) Q E ⟨h,g,d,t,os⟩:=by
 obtain⟨nm,q,bs,sn,sub,ab,col,dd,k0,k1,k2,k3,k5,hC⟩:=R.obj
 have hB:=wq _ hn
 have hna:=R.quiet _ hn
 unfold Builtin.«object.__getattribute__»
 repeat (first|(with_reducible refine wpAny_loadPart_at hx ?_;rw[hc])|(with_reducible refine wpAny_typeLookup_exc hC R.ns F.attrBase_Exception.mro hB ?_;rw[hna])|wp_step)
 rw[hdat]
 dsimp only
 unfold instanceDict
 repeat (first|(with_reducible refine wpAny_loadPart_at hx ?_;rw[hc])|with_reducible refine wpAny_loadPart_at hC ?_|wp_step)
 rw[hdx]
 repeat (first|(with_reducible refine wpAny_nsGet hns ?_;rw[hv])|wp_step)
 exact hq
theorem Cc {M:Model} {nameV:Value} {Q:Unit→Shared→Prop} {nm q:Str} {bs:List Value} {sn:List Str} {sub:List Value} {ab:Bool} {col:Option Bool} {dd:Option Addr} {k0 k1 k2 k3 k5:Option Value} {o:Obj}
  (hC:h.get? C=some (excClassObj nm q C N bs EG true sn sub ab col dd k0 k1 k2 k3 k5 "Exception.__new__")) (hx:h.get? x=some o) (hc:o.cls=.ref C) (hq:Q () ⟨h,g,d,t,os⟩):
  wpAny M A (checkBuiltinCall "BaseException.__getattribute__" ⟨[.ref x,nameV],[]⟩) Q E ⟨h,g,d,t,os⟩:=by
 have hk:builtinKind "BaseException.__getattribute__"=some .slot:=by decide +kernel
 have hsplit:splitId "BaseException.__getattribute__"=some ("BaseException","__getattribute__"):=by decide +kernel
 have hcB:(Value.ref C::EG).contains (.type "BaseException")=true:=by simp
 have ha:=F.args_bexc_ga (.ref x) nameV
 simp only[checkBuiltinCall,hk,hsplit]
 refine wpAny_bind ?_
 ·unfold isInstance
  repeat (first|(with_reducible refine wpAny_loadPart_at hx ?_;rw[hc])|(with_reducible refine wpAny_isSubtype_exc hC ?_;rw[hcB])|wp_step)
  exact hq
theorem Ec {expr:Bool} {Q:Value→Shared→Prop} {o:Obj} {vs:Array Value} {dx:Addr} (R:kj h C N fI mN) (hn:name∈bT) (hx:h.get? x=some o) (hc:o.cls=.ref C) (hdat:o.data=.fields vs) (hdx:o.dict=some dx) (hns:h.Ns dx mA) (hv:mA name=some v) (hh:handedOut v=pure v) (hq:Q v ⟨h,g,d,t+1,os⟩):
  wpAny (model ae w) A (getAttr (.ref x) name expr) Q E ⟨h,g,d,t,os⟩:=by
 obtain⟨nm,q,bs,sn,sub,ab,col,dd,k0,k1,k2,k3,k5,hC⟩:=R.obj
 have FB:=F.attrBase_Exception
 have f3:=FB.ga.bind (.ref x)
 have hx0:(expr&&onTheHeap (Value.builtin "BaseException.__getattribute__"))=false:=by cases expr<;>rfl
 have hx2:(Value.builtin "BaseException.__getattribute__"==Value.builtin "object.__getattribute__")=false:=by decide +kernel
 have hx1:(onTheHeap (Value.ref C)&&Value.builtin "BaseException.__getattribute__"==Value.builtin "object.__getattribute__")=false:=by rw[hx2];rfl
 have hga:=R.getattribute
 have hgh:=R.getattr
 have hcB:(Value.ref C::EG).contains (.type "BaseException")=true:=by simp
 have call:codeAny (model ae w) A (.call (.builtin "BaseException.__getattribute__") ⟨[.ref x,.str name t],[]⟩) (fun r s'=>match r with| .ok (.ret v)=>wpAny (model ae w) A (handedOut v) Q E s'| .ok _=>False| .error e=>False) ⟨h,g,d,t+1,os⟩:=by
  refine codeAny_call_builtin FB.ga.plain F.entry_bexc_ga (Cc hC hx hc (BE R hn hx hc hdat hdx hns hv ?_))
  show wpAny _ _ (handedOut v) _ _ _
  rw[hh]
  exact wpAny_pure hq
 unfold getAttr
 repeat (any_goals (first|assumption|(with_reducible refine wpAny_loadPart_at hx ?_;rw[hc])|(with_reducible refine wpAny_typeLookup_exc hC R.ns FB.mro FB.ga.lookup ?_;rw[hga])|(with_reducible refine wpAny_typeLookup_exc hC R.ns FB.mro FB.noGetattr ?_;rw[hgh])|wp_step))
 refine codeAny_mono call fun r s' z=>?_
 rcases r with e|(v|_|_|_)<;>first|exact z.elim|exact z
theorem zN {o:Obj} {vs:Array Value} {Q:Value→Shared→Prop} (R:kj h C N fI mN) (hx:h.get? x=some o) (hc:o.cls=.ref C) (hd:o.data=.fields vs) {t0:Addr} (h0:vs[0]? =some (.ref t0))
  (hq:Q .none ⟨(h.push {cls:=.type "tuple",data:=.seq #[v]}).update x (Obj.mapFields (·.setIfInBounds 0 (.ref h.objs.size))),g,d,t,os⟩):
  wpAny (model ae w) A (call (.builtin "Exception.__init__") [.ref x,v]) Q E ⟨h,g,d,t,os⟩:=by
 obtain⟨nm,q,bs,sn,sub,ab,col,dd,k0,k1,k2,k3,k5,hC⟩:=R.obj
 have F:=F.excBase_Exception
 refine wpAny_call (codeAny_call_builtin F.init.plain F.initEntry (wpAny_check_init_subU F .base hC hx hc ?_))
 have hx':=Heap.get?_push_of_some {cls:=.type "tuple",data:=.seq #[v]} hx
 wp_walk
 rw[hd]
 refine wpAny_pure ?_
 rw[h0]
 refine wpAny_pure (wpAny_bind (wpAny_setField hx' hd (Array.getElem?_eq_some_iff.mp h0).1 ?_))
 wp_walk
 exact hq
end
section
variable {ae:Program} {w:World} {A:Around} {E:Value→Shared→Prop} {s:Shared}
theorem wJ {pl:Sem Bool} {Q:Value×List Value→Shared→Prop} (h:Q (.builtin "Exception.__init__",[]) {s with toks:=s.toks+1}):wpAny (model ae w) A (getMethod (.type "Exception") "__init__" pl) Q E s:=by
 have X:PySem.W.Frag.In [] s.heap:=fun _ _ e=>by cases e
 have e:PySem.W.findCls [] (.type "Exception") (.type "type") "__init__"=some (.val (.builtin "Exception.__init__")):=by kernel_rfl
 have hs:Manifest.isStub "Exception"=false:=by decide +kernel
 have ht:typeOf (.type "Exception")=pure (.type "type"):=by first|rfl|kernel_rfl
 have hh:PySem.W.handedIn (.builtin "Exception.__init__")=true:=by decide +kernel
 have hstub:opaqueClassAbove (.type "Exception")=pure none:=by unfold opaqueClassAbove;dsimp only;rw[hs];rfl
 have L0:PySem.W.Looks (model ae w) s.heap (typeOf (.type "Exception")) (.type "type"):=PySem.W.Looks.of_pure ht
 have hg:PySem.W.findIn [] (.type "type") "__getattribute__"=some (some (.builtin "type.__getattribute__")):=PySem.W.type_tga
 unfold getMethod specialOf
 refine wpAny_bind (wpAny_bind (L0.here ((PySem.W.looks_findIn X hg).here ?_)))
 dsimp only
 rw[if_pos PySem.W.canon_tga]
 refine wpAny_bind (wpAny_mono (Q:=fun v=>Q (v,[])) (E:=E) ?_ (fun _ _ z=>wpAny_pure z) fun _ _ z=>z)
 have LO:PySem.W.Looks (model ae w) s.heap (opaqueClassAbove (.type "Exception")) none:=PySem.W.Looks.of_pure hstub
 refine PySem.W.cls_open X LO L0 hg (PySem.W.looks_hook X (r:=none) (by rfl)) (by show PySem.W.subIn [] _ _=_;rfl) e
  (wpAny_pure (by show wpAny _ _ (handedOut (.builtin "Exception.__init__")) _ _ _;rw[PySem.W.handedOut_of hh];exact wpAny_pure h))
end
end Mine
end
section
namespace Mine
open PySem PyProof.Rows
open Builtin Builtin.ObjectAttr
section
variable {ae:Program} {w:World} {A:Around} {E:Value→Shared→Prop} {h:Heap} {g:Array GenState} {d:Drawn} {t:Nat} {os:OsState}
variable {C N fI x:Addr} {mN:Str→Option Value} {name:Str} {v:Value}
theorem yW {o:Obj} {tk:Tok} {Q:PySem.Fin→Shared→Prop} (R:kj h C N fI mN) (hn:name∈bT) (hx:h.get? x=some o) (hc:o.cls=.ref C) {vs:Array Value} (hdat:o.data=.fields vs) (hdn:o.dict=none)
  (hq:∀h' tk',h'.get? x=some {o with dict:=some h.objs.size}→h'.Ns1 h.objs.size (fun y=>if y=name then some v else none)→(∀b ob,b≠x→h.get? b=some ob→h'.get? b=some ob)→Q (.done (.ret .none)) ⟨h',g,d,tk',os⟩):
  wpAny (model ae w) A (Builtin.«object.__setattr__» ⟨[.ref x,.str name tk,v],[]⟩) Q E ⟨h,g,d,t,os⟩:=by
 obtain⟨nm,q,bs,sn,sub,ab,col,dd,k0,k1,k2,k3,k5,hC⟩:=R.obj
 have SF:=F.store_Exception
 have hpass:=SF.passes (.ref x)
 have hna:=R.quiet _ hn
 have hB:=wq _ hn
 unfold Builtin.«object.__setattr__»
 repeat (first|rw[refuse_eq]|(rw[refuseLoop_ref,hpass])|(with_reducible refine wpAny_loadPart_at hx ?_;rw[hc])|with_reducible refine wpAny_mroOf_exc hC ?_|(with_reducible refine wpAny_typeLookup_exc hC R.ns SF.mro hB ?_;rw[hna])|wp_step)
 rw[hdn,if_neg (by simp[typeHasDict]),hdat]
 have EU:(h.push {cls:=.type "dict",data:=.dict #[]}).get? x=some o:=Heap.get?_push_of_some _ hx
 have hxs:x≠h.objs.size:=Nat.ne_of_lt (Heap.lt_size hx)
 refine wpAny_bind (wpAny_alloc' (wpAny_bind (wpAny_update' EU (wpAny_pure ?_))))
 have hfr:({o with dict:=some h.objs.size}:Obj).isFreed=false:=Obj.isFreed_of_fields (vs:=vs) hdat
 obtain⟨aW,xz⟩:∃aW,aW=(h.push {cls:=.type "dict",data:=.dict #[]}).update x fun o=>{cls:=o.cls,dict:=some h.objs.size,data:=o.data,slots:=o.slots}:=⟨_,rfl⟩
 have e1:aW.get? x=some {o with dict:=some h.objs.size}:=xz▸Heap.get?_update_self _ EU hfr
 have e2:aW.get? h.objs.size=some {cls:=.type "dict",data:=.dict #[]}:=xz▸(Heap.get?_update_other _ _ hxs).trans (Heap.get?_push_size _ rfl)
 have e3:∀b ob,b≠x→h.get? b=some ob→aW.get? b=some ob:=fun b ob hb e=>xz▸(Heap.get?_update_other _ _ (Ne.symm hb)).trans (Heap.get?_push_of_some _ e)
 rw[←xz]
 have n1:aW.Ns1 h.objs.size (fun _=>none):=.of_empty ⟨_, #[],0,e2,rfl,fun e he=>absurd he (by simp),fun _=>rfl⟩
 show wpAny _ _ (storeInDict h.objs.size (.str name tk) name v) _ _ _
 unfold storeInDict newKeyGuard
 refine wpAny_bind (wpAny_pure (wpAny_bind (wpAny_nsSet1 n1 fun h' hn' hs=>?_)))
 obtain⟨oD,esD,epD,hoD,hdD,hcD⟩:=hn'.count (Within.cons name v Within.nil)
 refine wpAny_bind (wpAny_lookBehind hoD (by rw[hdD];exact pastItsLine_dict (Nat.le_trans hcD (by simp[sizeLine_eq]))) ?_)
 exact wpAny_pure (hq h' _ ((hs.2 x hxs).trans e1) hn' fun b ob hb e=>(hs.2 b (xi (.inl (Heap.lt_size e)))).trans (e3 b ob hb e))
theorem sw {o:Obj} {tk:Tok} {K:Result→Shared→Prop} (R:kj h C N fI mN) (hn:name∈bT) (hx:h.get? x=some o) (hc:o.cls=.ref C) {vs:Array Value} (hdat:o.data=.fields vs) (hdn:o.dict=none)
  (hq:∀h' tk',h'.get? x=some {o with dict:=some h.objs.size}→h'.Ns1 h.objs.size (fun y=>if y=name then some v else none)→(∀b ob,b≠x→h.get? b=some ob→h'.get? b=some ob)→K (.ok (.ret .none)) ⟨h',g,d,tk',os⟩):
  codeAny (model ae w) A (.call (.builtin "object.__setattr__") ⟨[.ref x,.str name tk,v],[]⟩) K ⟨h,g,d,t,os⟩:=by
 obtain⟨nm,q,bs,sn,sub,ab,col,dd,k0,k1,k2,k3,k5,hC⟩:=id R.obj
 generalize hsa:("object.__setattr__":String)=sa
 have SF:StoreFacts "Exception" EG sa "object":=hsa▸F.store_Exception
 exact codeAny_call_builtin SF.slot.plain SF.entry (wpAny_check_sa SF hC hx hc (yW R hn hx hc hdat hdn hq))
theorem zF {o:Obj} {Q:Unit→Shared→Prop} (R:kj h C N fI mN) (hn:name∈bT) (hx:h.get? x=some o) (hc:o.cls=.ref C) {vs:Array Value} (hdat:o.data=.fields vs) (hdn:o.dict=none)
  (hq:∀h' tk',h'.get? x=some {o with dict:=some h.objs.size}→h'.Ns1 h.objs.size (fun y=>if y=name then some v else none)→(∀b ob,b≠x→h.get? b=some ob→h'.get? b=some ob)→Q () ⟨h',g,d,tk',os⟩):
  wpAny (model ae w) A (setAttr (.ref x) name v) Q E ⟨h,g,d,t,os⟩:=by
 obtain⟨nm,q,bs,sn,sub,ab,col,dd,k0,k1,k2,k3,k5,hC⟩:=R.obj
 have SF:=F.store_Exception
 have f3:=SF.slot.bind (.ref x)
 have hsa:=R.setattr
 have hns:=R.ns
 unfold setAttr callSpecial? specialOf
 repeat (any_goals (first|assumption|(with_reducible refine wpAny_loadPart_at hx ?_;rw[hc])|(with_reducible refine wpAny_typeLookup_exc hC hns SF.mro SF.slot.lookup ?_;rw[hsa])|wp_step))
 show codeAny _ _ (.call (.builtin "object.__setattr__") ⟨[.ref x,.str name t,v],[]⟩) _ _
 exact sw R hn hx hc hdat hdn fun h' tk' a b c=>wpAny_pure (wpAny_pure (hq h' tk' a b c))
end
end Mine
end
section
namespace Mine
open PySem PyProof.Rows
set_option genInjectivity true in
set_option genCtorIdx true in
inductive IV where
 |name (n:Str)
 |str
 |bool (b:Bool)
 |int (i:Int)
 |nil
noncomputable def gx (sc:Scope) (n:Str):Bool:=sc.names.lookup n==some .local&& !(n==("__debug__":Str))
noncomputable def E3:Const→Bool
 | .str _=>true
 |_=>false
noncomputable def E5 (sc:Scope):IV→Expr→Bool
 | .name n,e=>b9 e fun id _=>id==n&&gx sc n
 | .str,e=>bR e fun c _ _=>E3 c
 | .bool b,e=>bR e fun c _ _=>c== .bool b&&true
 | .int i,e=>bR e fun c _ _=>c== .int i&&true
 | .nil,e=>oB e fun l _=>ck l
theorem FQ {P:Const→Prop} {c:Const} (h:E3 c=true) (f:∀l,P (.str l)):P c:=by
 cases c with
 |str l=>exact f l
 |_=>exact bV h
noncomputable def rU (sc:Scope):List (Str×IV)→List Stmt→Bool
 |[],l=>ck l
 |y::r,l=>dM l fun s ss=>eQ s fun ts e _=>dA ts fun t=>bY t fun o a _=>b9 o fun se _=>se==("self":Str)&&(a==y.1&&(bT.contains y.1&&(gx sc ("self":Str)&&(eR e&&(E5 sc y.2 e&&rU sc r ss)))))
structure qa (hb h:Heap) (C x L:Addr) (m mA:Str→Option Value) (ns:List Str) (vs:Array Value):Prop where
 keep:∀b o,hb.get? b=some o→h.get? b=some o
 loc:h.Ns L m
 dict:∃o,h.get? x=some o∧o.cls=.ref C∧o.data=.fields vs∧((o.dict=none∧∀n,mA n=none)∨∃dx,o.dict=some dx∧h.Ns1 dx mA∧hb.get? dx=none∧dx≠L∧dx≠x)
 within:Within mA ns
theorem qa.grow {hb h h':Heap} {C x L:Addr} {m mA:Str→Option Value} {ns:List Str} {vs:Array Value} (I:qa hb h C x L m mA ns vs) (g:cg h h'):qa hb h' C x L m mA ns vs:=by
 obtain⟨o,h1,h2,h3,h4⟩:=I.dict
 refine⟨fun b o e=>g.keep b o (I.keep b o e),I.loc.keeps g.keep,⟨o,g.keep _ _ h1,h2,h3,?_⟩,I.within⟩
 rcases h4 with q|⟨dx,q1,q2,q3⟩
 ·exact .inl q
 ·exact .inr ⟨dx,q1,q2.at fun o e=>g.keep _ _ e,q3⟩
section
variable {ae:Program} {w:World} {A:Around} {E:Value→Shared→Prop} {s:Shared} {hb:Heap}
variable {C N fI x L:Addr} {mN m mA:Str→Option Value} {ns:List Str} {vs:Array Value} {name:Str} {v:Value}
theorem DN {Q:Unit→Shared→Prop} (R:kj hb C N fI mN) (hn:name∈bT) (hx0:hb.get? x=none) (hLx:L≠x) (hsz:ns.length≤100) (I:qa hb s.heap C x L m mA ns vs)
  (hq:∀h' tk',qa hb h' C x L m (fun y=>if y=name then some v else mA y) (name::ns) vs→Q () {s with heap:=h',toks:=tk'}):wpAny (model ae w) A (setAttr (.ref x) name v) Q E s:=by
 obtain⟨h,g,d,t,os⟩:=s
 dsimp only at I hq
 have R':=R.keeps I.keep
 obtain⟨o,h1,h2,h3,h4⟩:=I.dict
 have ne:∀{b:Addr} {ob:Obj},hb.get? b=some ob→b≠x:=fun e q=>by rw[q,hx0]at e;cases e
 have hxC:x≠C:=fun q=>by
  obtain⟨nm,q',bs,sn,sub,ab,col,dd,k0,k1,k2,k3,k5,hC⟩:=R.obj
  exact ne hC q.symm
 obtain⟨oL,eL,pL,e1,e2,e3,e4⟩:=I.loc
 rcases h4 with⟨hdn,hmA⟩|⟨dx,hdx,hns,hd0,hdL,hdne⟩
 ·refine zF R' hn h1 h2 h3 hdn fun h' tk' a b c=>hq h' tk' ⟨fun b o e=>c _ _ (ne e) (I.keep b o e),⟨oL,eL,pL,c _ _ hLx e1,e2,e3,e4⟩,⟨_,a,h2,h3,.inr ⟨_,rfl,?_,?_,?_,?_⟩⟩,Within.cons name v I.within⟩
  ·obtain⟨o',es,ep,q1,q2,q3,q4,q5⟩:=b
   exact⟨o',es,ep,q1,q2,q3,q4,fun y=>by rw[q5 y];show(if y=name then some v else none)=(if y=name then some v else mA y);rw[hmA y]⟩
  ·cases z:hb.get? h.objs.size with
   |none=>rfl
   |some o=>have:=I.keep _ _ z;rw[cb]at this;cases this
  ·exact xi (.inr (Heap.lt_size e1))
  ·exact xi (.inr (Heap.lt_size h1))
 ·have hI:h.Inst x C mA:=⟨o,h1,h2,fun c q=>by(rw[h3]at q;cases q),.inr ⟨dx,hdx,hdne,hns⟩⟩
  refine CV R' hn hxC hI (fun h' tk' I' hk hsame=>hq h' tk' ?_) I.within (by rw[sizeLine_eq];omega)
  have far:∀{b:Addr},b≠dx→∀nr dx',h.get? x=some nr→nr.dict=some dx'→b≠dx':=fun hb nr dx' e1 e2=>by
   rw[h1]at e1;cases e1;rw[hdx]at e2;cases e2;exact hb
  obtain⟨v4,f1,f2,f3,f4,f5⟩:=hsame o h1
  refine⟨fun b ob e=>hk _ _ (ne e) (far fun q=>by rw[q,hd0]at e;cases e) (I.keep _ _ e),⟨oL,eL,pL,hk _ _ hLx (far (Ne.symm hdL)) e1,e2,e3,e4⟩,⟨v4,f1,f2.trans h2,f3.trans h3,.inr ⟨dx,f5 _ hdx,?_,hd0,hdL,hdne⟩⟩,Within.cons name v I.within⟩
  obtain⟨o',i1,i2,i3,i4⟩:=I'
  rw[f1]at i1;cases i1
  rcases i4 with⟨z,_⟩|⟨d',z1,z2,z3⟩
  ·rw[f5 _ hdx]at z;cases z
  ·rw[f5 _ hdx]at z1;cases z1;exact z3
variable {env:Env}
theorem hO {p:Pos} {Q:Value→Shared→Prop} (hk:env.scope.kind=.function) (hL:env.locals=L) (ok:gx env.scope name=true) (I:s.heap.Ns L m) (hv:m name=some v) (hq:Q v s):wpAny (model ae w) A (eval (.Name name p) env) Q E s:=by
 exact af ok fun h1 h2=>wpAny_Name (wpAny_loadName_local hk (eq_of_beq h1) (hL▸I) hv hq) ((Bool.not_eq_true' _).mp h2)
noncomputable def Hc (m:Str→Option Value):IV→Value→Prop
 | .name n,v=>m n=some v
 | .str,v=>∃l t,v=.str l t
 | .bool b,v=>v=.bool b
 | .int i,v=>∃t,v=.int i t
 | .nil,v=>∃a,v=.ref a
theorem Em {iv:IV} {e:Expr} {Q:Value→Shared→Prop} (hk:env.scope.kind=.function) (hL:env.locals=L) (ok:E5 env.scope iv e=true) (I:qa hb s.heap C x L m mA ns vs) (hm:∀n,iv=.name n→∃v,m n=some v)
  (hq:∀v h' tk',Hc m iv v→qa hb h' C x L m mA ns vs→Q v {s with heap:=h',toks:=tk'}):wpAny (model ae w) A (eval e env) Q E s:=by
 cases iv with
 |name n=>exact cM (P:=fun e=>wpAny (model ae w) A (eval e env) Q E s) ok fun id p ok=>cU (P:=fun id=>wpAny (model ae w) A (eval (.Name id p) env) Q E s) ok fun ok=>(hm _ rfl).elim fun v hv=>hO hk hL ok I.loc hv (hq v s.heap s.toks hv I)
 |str=>exact cB (P:=fun e=>wpAny (model ae w) A (eval e env) Q E s) ok fun c k p ok=>FQ (P:=fun c=>wpAny (model ae w) A (eval (.Constant c k p) env) Q E s) ok fun l=>by rw[eval_Constant];exact fun _ _ _=>hq _ s.heap _ ⟨_,_,rfl⟩ I
 |bool b=>exact cB (P:=fun e=>wpAny (model ae w) A (eval e env) Q E s) ok fun c k p ok=>cU (P:=fun c=>wpAny (model ae w) A (eval (.Constant c k p) env) Q E s) ok fun _=>fun _ _ _=>hq _ s.heap s.toks rfl I
 |int i=>exact cB (P:=fun e=>wpAny (model ae w) A (eval e env) Q E s) ok fun c k p ok=>cU (P:=fun c=>wpAny (model ae w) A (eval (.Constant c k p) env) Q E s) ok fun _=>wpAny_Constant_int (hq _ s.heap _ ⟨_,rfl⟩ I)
 |nil=>exact vx (P:=fun e=>wpAny (model ae w) A (eval e env) Q E s) ok fun l p ok=>cI (P:=fun l=>wpAny (model ae w) A (eval (.List l p) env) Q E s) ok (wpAny_List_spliced (Calls.spliced_nil ⟨Nat.zero_le _,hq _ _ s.toks ⟨_,rfl⟩ (I.grow (cg.push _ _))⟩))
noncomputable def rZ (m:Str→Option Value) (mA mA':Str→Option Value):List (Str×IV)→Prop
 |[]=>mA'=mA
 |(n,iv)::r=>∃v,Hc m iv v∧rZ m (fun y=>if y=n then some v else mA y) mA' r
theorem ye {Q:Flow→Shared→Prop} (R:kj hb C N fI mN) (hk:env.scope.kind=.function) (hL:env.locals=L) (hx0:hb.get? x=none) (hLx:L≠x) (hself:m "self"=some (.ref x)):
  ∀(l:List (Str×IV)) (ss:List Stmt) (s:Shared) (mA:Str→Option Value) (ns:List Str),rU env.scope l ss=true→(∀n iv,(n,iv)∈l→∀k,iv=.name k→∃v,m k=some v)→ns.length+l.length≤100→qa hb s.heap C x L m mA ns vs→
   (∀mA' ns' h' tk',rZ m mA mA' l→qa hb h' C x L m mA' ns' vs→Q .next {s with heap:=h',toks:=tk'})→wpAny (model ae w) A (execs ss env) Q E s
 |[],l,s,mA,ns,h,_,_,I,hq=>cI (P:=fun l=>wpAny (model ae w) A (execs l env) Q E s) h (wpAny_execs_nil (hq mA ns s.heap s.toks rfl I))
 |(n,iv)::r,l,s,mA,ns,h,hm,hsz,I,hq=>cV (P:=fun l=>wpAny (model ae w) A (execs l env) Q E s) h fun st ss h=>j6 (P:=fun st=>wpAny (model ae w) A (execs (st::ss) env) Q E s) h fun ts e p h=>f9 (P:=fun ts=>wpAny (model ae w) A (execs (.Assign ts e p::ss) env) Q E s) h fun t h=>
   ei (P:=fun t=>wpAny (model ae w) A (execs (.Assign [t] e p::ss) env) Q E s) h fun o a q h=>cM (P:=fun o=>wpAny (model ae w) A (execs (.Assign [.Attribute o a q] e p::ss) env) Q E s) h fun se z h=>cU (P:=fun se=>wpAny (model ae w) A (execs (.Assign [.Attribute (.Name se z) a q] e p::ss) env) Q E s) h fun h=>
   cU (P:=fun a=>wpAny (model ae w) A (execs (.Assign [.Attribute (.Name "self" z) a q] e p::ss) env) Q E s) h fun h=>af h fun hn h=>af h fun hse h=>af h fun hsw h=>af h fun hv hr=>
   wpAny_execs_cons (plainObj_wpAny_Assign_Attribute (Em hk hL hv I (fun k e=>hm _ _ (.head _) k e) fun v h' tk' hvv I'=>hO (s:={s with heap:=h',toks:=tk'}) hk hL hse I'.loc hself
    (DN (s:={s with heap:=h',toks:=tk'}) R (List.contains_iff_mem.mp hn) hx0 hLx (Nat.le_trans (Nat.le_add_right _ _) hsz) I' fun h'' tk'' I''=>
    ye R hk hL hx0 hLx hself r _ {s with heap:=h'',toks:=tk''} _ _ hr (fun a b c=>hm a b (.tail _ c)) (Nat.add_right_comm ns.length r.length 1▸hsz) I'' fun mA' ns' h3 tk3 hmm I3=>hq mA' ns' h3 tk3 ⟨v,hvv,hmm⟩ I3)) (dJ hsw _ _ _))
end
end Mine
end
section
namespace Mine
open PySem PyProof.Rows
noncomputable def s6 (p:Arguments) (names:List Str):Bool:=p.posonlyargs.isEmpty&&p.vararg.isNone&&p.kwonlyargs.isEmpty&&p.kwarg.isNone&&(p.args.map (·.arg))==names
theorem pC {names:List Str}:∀{vals:List Value} {n:Str},names.Nodup→names.length≤vals.length→n∈names→∃v,(names.zip vals).lookup n=some v:=by
 induction names with
 |nil=>intro _ _ _ _ h;cases h
 |cons a r ih=>
  intro vals n nd hl hn
  cases vals with
  |nil=>simp at hl
  |cons v vs=>
   simp only[List.zip_cons_cons]
   by_cases e:n=a
   ·exact⟨v,by simp[e]⟩
   ·rw[List.lookup_cons,beq_eq_false_iff_ne.mpr e]
    exact ih (List.nodup_cons.mp nd).2 (by simpa using hl) ((List.mem_cons.mp hn).resolve_left e)
theorem nq {names:List Str}:∀{vals:List Value} {n:Str},n∉names→(names.zip vals).lookup n=none:=by
 induction names with
 |nil=>intro vals n _;simp
 |cons a r ih=>
  intro vals n hn
  cases vals with
  |nil=>simp
  |cons v vs=>
   simp only[List.zip_cons_cons]
   rw[List.lookup_cons,beq_eq_false_iff_ne.mpr (fun e=>hn (by rw[e];exact List.mem_cons_self))]
   exact ih fun q=>hn (.tail _ q)
theorem Aw {names:List Str}:∀{vals:List Value},names.Nodup→names.length=vals.length→(names.filterMap fun n=>((names.zip vals).lookup n).map (n, ·))=names.zip vals:=by
 have key:∀(names:List Str) (vals:List Value) (L:List (Str×Value)),names.Nodup→names.length=vals.length→(∀n∈names,(L.lookup n)=(names.zip vals).lookup n)→(names.filterMap fun n=>(L.lookup n).map (n, ·))=names.zip vals:=by
  intro names
  induction names with
  |nil=>intro vals L _ hl _;cases vals<;>simp
  |cons a r ih=>
   intro vals L nd hl hL
   cases vals with
   |nil=>simp at hl
   |cons v vs=>
    have h1:=hL a (.head _)
    simp only[List.zip_cons_cons,List.lookup_cons,beq_self_eq_true]at h1
    rw[List.filterMap_cons,h1]
    simp only[Option.map_some,List.zip_cons_cons]
    rw[ih vs L (List.nodup_cons.mp nd).2 (by simpa using hl) fun n hn=>?_]
    have ne:n≠a:=fun q=>(List.nodup_cons.mp nd).1 (q▸hn)
    rw[hL n (.tail _ hn)]
    simp only[List.zip_cons_cons]
    rw[List.lookup_cons,beq_eq_false_iff_ne.mpr ne]
 intro vals nd hl
 exact key _ _ _ nd hl fun _ _=>rfl
theorem pW {l r:List (Str×Value)} {n:Str}:(l++r).lookup n=(l.lookup n).or (r.lookup n):=by
 induction l with
 |nil=>simp
 |cons x l ih=>
  obtain⟨k,v⟩:=x
  rw[List.cons_append,List.lookup_cons,List.lookup_cons]
  cases n==k<;>simp[ih]
section
variable {M:Model} {A:Around} {E:Value→Shared→Prop} {s:Shared}
theorem jC {Q:List (Str×Value)→Shared→Prop}:∀(ps:List (Str×Value)) (slots:List (Str×Value)),(ps.map (·.1)).Nodup→
  Q (slots++ps.filter fun p=>(slots.lookup p.1).isNone) s→
  wpAny M A (forIn ps slots fun x r=>if(r.lookup x.1).isNone=true then pure (ForInStep.yield (r++[(x.1,x.2)]))else pure (ForInStep.yield r)) Q E s
 |[],slots,_,h=>by
  simp only[List.forIn_nil]
  exact wpAny_pure (by simpa using h)
 |(n,v)::ps,slots,nd,h=>by
  simp only[List.map_cons,List.nodup_cons]at nd
  simp only[List.forIn_cons]
  by_cases e:(slots.lookup n).isNone=true
  ·rw[if_pos e]
   refine wpAny_bind (wpAny_pure ?_)
   refine jC ps _ nd.2 ?_
   have:(ps.filter fun p=>((slots++[(n,v)]).lookup p.1).isNone)=ps.filter fun p=>(slots.lookup p.1).isNone:=by
    apply List.filter_congr
    intro p hp
    have ne:p.1≠n:=fun q=>nd.1 (q▸List.mem_map.mpr ⟨p,hp,rfl⟩)
    rw[pW,List.lookup_cons,beq_eq_false_iff_ne.mpr ne]
    simp
   rw[this,List.append_assoc]
   rw[List.filter_cons,if_pos e]at h
   exact h
  ·rw[if_neg e]
   refine wpAny_bind (wpAny_pure ?_)
   refine jC ps _ nd.2 ?_
   rw[List.filter_cons,if_neg e]at h
   exact h
theorem v6 {Q:List (Str×Value)→Shared→Prop} {X ps slots:List (Str×Value)} (e:X=ps) (nd:(ps.map (·.1)).Nodup) (h:Q (slots++ps.filter fun p=>(slots.lookup p.1).isNone) s):
  wpAny M A (forIn X slots fun x r=>if(r.lookup x.1).isNone=true then pure (ForInStep.yield (r++[(x.1,x.2)]))else pure (ForInStep.yield r)) Q E s:=e▸jC ps slots nd h
theorem uB {names:List Str} {vals:List Value} (hl:vals.length≤names.length):names.zip vals=(names.take vals.length).zip vals:=by
 have e:=List.take_append_drop vals.length names
 have:(names.take vals.length++names.drop vals.length).zip (vals++[])=(names.take vals.length).zip vals++(names.drop vals.length).zip []:=List.zip_append (by simp;omega)
 rw[e,List.append_nil,List.zip_nil_right,List.append_nil]at this
 exact this
theorem xU {n d v k j:Nat} (hk:n=k+d) (hj:v=k+j):d+v-n=j:=by rw[hj,hk,Nat.add_left_comm,Nat.add_sub_add_left,Nat.add_sub_cancel_left]
theorem DM {n d v:Nat} (hl:v≤n) (hD:d≤n) (hge:n≤v+d):n≤v+(d-(d+v-n)):=by
 obtain⟨k,hk⟩:∃k,n=k+d:=⟨_,(Nat.sub_add_cancel hD).symm⟩
 obtain⟨j,hj⟩:∃j,v=k+j:=Nat.exists_eq_add_of_le (Nat.le_of_add_le_add_right (hk▸hge))
 have hjD:j≤d:=Nat.le_of_add_le_add_left (hj▸hk▸hl)
 rw[xU hk hj,hk,hj,Nat.add_assoc,Nat.add_sub_cancel' hjD]
 exact Nat.le_refl _
theorem zn {names:List Str} {vals Dv:List Value} {k j:Nat} (nd:names.Nodup) (hk:names.length=k+Dv.length) (hj:vals.length=k+j) (hjD:j≤Dv.length):
  names.zip vals++(((names.drop k).zip Dv).filter fun p=>((names.zip vals).lookup p.1).isNone)=names.zip (vals++Dv.drop j):=by
 have hl:vals.length≤names.length:=hj▸hk▸Nat.add_le_add_left hjD k
 have hz:=uB hl
 have lt:=List.length_take_of_le hl
 have tk:∀n∈names.take vals.length,((names.zip vals).lookup n).isNone=false:=fun n hn=>
  (pC (vals:=vals) (nd.sublist (List.take_sublist _ _)) (Nat.le_of_eq lt) hn).elim fun v hv=>by rw[hz,hv];rfl
 have dr:∀n∈names.drop vals.length,((names.zip vals).lookup n).isNone=true:=fun n hn=>by
  rw[hz,nq fun q=>(List.nodup_append.mp ((congrArg List.Nodup (List.take_append_drop vals.length names)).mpr nd)).2.2 _ q _ hn rfl];rfl
 have e1:(names.drop k).take j++names.drop vals.length=names.drop k:=hj▸List.drop_drop (l:=names)▸List.take_append_drop j (names.drop k)
 have ld:((names.drop k).take j).length=(Dv.take j).length:=(List.length_take_of_le (by rw[List.length_drop,hk,Nat.add_sub_cancel_left];exact hjD)).trans (List.length_take_of_le hjD).symm
 have split:(names.drop k).zip Dv=((names.drop k).take j).zip (Dv.take j)++(names.drop vals.length).zip (Dv.drop j):=
  (congr (congrArg List.zip e1.symm) (List.take_append_drop j Dv).symm).trans (List.zip_append ld)
 have f1:(((names.drop k).take j).zip (Dv.take j)).filter (fun p=>((names.zip vals).lookup p.1).isNone)=[]:=
  List.filter_eq_nil_iff.mpr fun p hp=>ne_true_of_eq_false (tk _ (List.mem_of_mem_drop (i:=k) (hj▸List.take_drop (l:=names)▸(List.of_mem_zip (a:=p.1) (b:=p.2) hp).1)))
 have f2:((names.drop vals.length).zip (Dv.drop j)).filter (fun p=>((names.zip vals).lookup p.1).isNone)=(names.drop vals.length).zip (Dv.drop j):=
  List.filter_eq_self.mpr fun p hp=>dr _ (List.of_mem_zip (a:=p.1) (b:=p.2) hp).1
 rw[split,List.filter_append,f1,f2,List.nil_append,hz]
 exact(List.zip_append lt).symm.trans (congrArg (List.zip · _) (List.take_append_drop _ _))
theorem IQ {α:Type} {c:Prop} [Decidable c] {X Y:Sem α} {Q:α→Shared→Prop} (h:¬c) (k:wpAny M A Y Q E s):wpAny M A (if c then X else Y) Q E s:=by rw[if_neg h];exact k
theorem wp {fd:FuncData} {names:List Str} {vals Dv:List Value} (hp:s6 fd.params names=true) (nd:names.Nodup) (hl:vals.length≤names.length) (hD:Dv.length≤names.length) (hge:names.length≤vals.length+Dv.length)
  (hd:(fd.defaults=.none∧Dv=[])∨∃T o n,fd.defaults=.ref T∧s.heap.get? T=some o∧o.data=.seq Dv.toArray n):BindsTo s fd ⟨vals,[]⟩ (names.zip (vals++Dv.drop (Dv.length+vals.length-names.length))):=by
 intro M A E Q hq
 unfold s6 at hp
 simp only[Bool.and_eq_true,List.isEmpty_iff,Option.isNone_iff_eq_none,beq_iff_eq]at hp
 obtain⟨⟨⟨⟨h1,h2⟩,h3⟩,h4⟩,h5⟩:=hp
 obtain⟨k,hk⟩:∃k,names.length=k+Dv.length:=⟨_,(Nat.sub_add_cancel hD).symm⟩
 obtain⟨j,hj⟩:∃j,vals.length=k+j:=Nat.exists_eq_add_of_le (Nat.le_of_add_le_add_right (hk▸hge))
 have hjD:j≤Dv.length:=Nat.le_of_add_le_add_left (hj▸hk▸hl)
 rw[xU hk hj]at hq
 obtain⟨nm,qn,⟨po,ar,va,ko,kwd,kw,dfl⟩,bd,sc,gl,cl,df,kdf,doc,pm,an,cd,ct,bu⟩:=fd
 dsimp only at h1 h2 h3 h4 h5 hd
 subst h1 h2 h3 h4 h5
 refine wpAny_bind (wpAny_of_eq rfl ?_)
 refine wpAny_bind (m:=seqItems? df) ?_
 have items:∀P:Option (Array Value)→Shared→Prop,(∀a:Option (Array Value),(a.getD #[]).toList=Dv→P a s)→wpAny M A (seqItems? df) P E s:=by
  intro P hP
  rcases hd with⟨rfl,rfl⟩|⟨T,o,n,rfl,e1,e2⟩
  ·exact wpAny_of_eq (a:=none) rfl (hP none rfl)
  ·exact wpAny_seqItems e1 e2 (hP _ rfl)
 refine items _ fun a ha=>?_
 subst ha
 generalize hD':(a.getD #[]).toList=Dv at*
 have hz:Dv.length-(ar.map (·.arg)).length=0:=Nat.sub_eq_zero_of_le hD
 have hm:(ar.map (·.arg)).length-Dv.length=k:=by rw[hk,Nat.add_sub_cancel]
 have hdr:Dv.drop (Dv.length-(ar.map (·.arg)).length)=Dv:=by rw[hz];rfl
 refine IQ (fun q=>absurd (of_decide_eq_true (Bool.and_eq_true_iff.mp q).1) (Nat.not_lt_of_le hl)) (IQ ?_ (wpAny_bind (v6 (ps:=((ar.map (·.arg)).drop k).zip Dv) ?_ ?_ (wpAny_bind (wpAny_of_eq rfl (IQ Bool.false_ne_true ?_))))))
 ·show ¬(!(List.filter (fun n=>(((ar.map (·.arg)).zip vals).lookup n).isNone) ((ar.map (·.arg)).take ((ar.map (·.arg)).length-(Dv.drop (Dv.length-(ar.map (·.arg)).length)).length))).isEmpty)=true
  rw[hdr,hm,List.filter_eq_nil_iff.mpr fun n hn=>(pC (names:=(ar.map (·.arg)).take vals.length) (vals:=vals) (nd.sublist (List.take_sublist _ _)) (Nat.le_of_eq (List.length_take_of_le hl)) (List.mem_of_mem_take (i:=k) (by
   rw[List.take_take,Nat.min_eq_left (hj▸Nat.le_add_right k j)];exact hn))).elim fun v hv=>by rw[uB hl,hv];exact Bool.false_ne_true]
  exact Bool.false_ne_true
 ·show((ar.map (·.arg)).drop ((ar.map (·.arg)).length-(Dv.drop (Dv.length-(ar.map (·.arg)).length)).length)).zip (Dv.drop (Dv.length-(ar.map (·.arg)).length))=_
  rw[hdr,hm]
 ·rw[List.map_fst_zip (by rw[List.length_drop,hk,Nat.add_sub_cancel_left];exact Nat.le_refl _)]
  exact nd.sublist (List.drop_sublist _ _)
 ·have hfull:(ar.map (·.arg)).length=(vals++Dv.drop j).length:=by rw[List.length_append,List.length_drop,hk,hj,Nat.add_assoc,Nat.add_sub_cancel' hjD]
  refine wpAny_of_eq (congrArg pure (?_:List.filterMap (fun n=>(((ar.map (·.arg)).zip vals++List.filter (fun p=>(((ar.map (·.arg)).zip vals).lookup p.1).isNone) (((ar.map (·.arg)).drop k).zip Dv)).lookup n).map (n, ·)) ((ar.map (·.arg))++[])=_)) hq
  rw[List.append_nil,zn nd hk hj hjD]
  exact Aw nd hfull
end
end Mine
end
section
namespace Mine
open PySem PyProof.Rows
inductive ES (h:Heap) (a:Addr) (names:List Str) (body:List Stmt) (scope:Scope) (Dv:List Value):Prop
 |mk (o:Obj) (fd:FuncData):h.get? a=some o→o.data=.func fd→fd.scope=scope→fd.body=.stmts body→fd.globals=mainGlobals→fd.builtins=builtinsNs→h.CodeRec fd.code fd.qualname→s6 fd.params names=true→
  ((fd.defaults=.none∧Dv=[])∨∃T o n,fd.defaults=.ref T∧h.get? T=some o∧o.data=.seq Dv.toArray n)→ES h a names body scope Dv
structure lq (h:Heap) (a:Addr) (names:List Str) (body:List Stmt) (scope:Scope) (Dv:List Value):Prop where
 obj:ES h a names body scope Dv
 nd:names.Nodup
 kind:scope.kind=.function
 co:scope.isCoroutine=false
 gen:scope.isGenerator=false
 cell:∀x∈scope.names,x.2≠ .cell
 loc:∀n∈names,scope.names.lookup n=some .local
theorem lq.has {h:Heap} {a:Addr} {names:List Str} {body:List Stmt} {sc:Scope} {Dv:List Value} (F:lq h a names body sc Dv):∃o fd,h.get? a=some o∧o.data=.func fd:=
 F.obj.casesOn fun o fd h1 h2 _ _ _ _ _ _ _=>⟨o,fd,h1,h2⟩
theorem lq.keeps {h h':Heap} {a:Addr} {names:List Str} {body:List Stmt} {scope:Scope} {Dv:List Value} (x:lq h a names body scope Dv) (k:∀b o,h.get? b=some o→h'.get? b=some o):lq h' a names body scope Dv:=by
 obtain⟨⟨o,fd,h1,h2,h3,h4,h5,h6,h7,h8,h9⟩,a1,a2,a3,a4,a5,a6⟩:=x
 refine⟨⟨o,fd,k _ _ h1,h2,h3,h4,h5,h6,h7.keeps k,h8,?_⟩,a1,a2,a3,a4,a5,a6⟩
 rcases h9 with q|⟨T,o',n,q1,q2,q3⟩
 ·exact .inl q
 ·exact .inr ⟨T,o',n,q1,k _ _ q2,q3⟩
theorem vA {l:List (Str×Value)} (nd:(l.map (·.1)).Nodup) {n:Str} {v:Value} (h:(n,v)∈l):l.reverse.lookup n=some v:=by
 have nd':(l.reverse.map (·.1)).Nodup:=by rw[List.map_reverse];exact(List.reverse_perm _).nodup_iff.mpr nd
 have hm:(n,v)∈l.reverse:=List.mem_reverse.mpr h
 generalize l.reverse=r at nd' hm
 induction r with
 |nil=>cases hm
 |cons x r ih=>
  obtain⟨k,u⟩:=x
  simp only[List.map_cons,List.nodup_cons]at nd'
  rcases List.mem_cons.mp hm with e|e
  ·cases e;simp
  ·have ne:n≠k:=fun q=>nd'.1 (q▸List.mem_map.mpr ⟨_,e,rfl⟩)
   rw[List.lookup_cons,beq_eq_false_iff_ne.mpr ne]
   exact ih nd'.2 e
theorem xa {α β:Type}:∀{l:List α} {r:List β} {i:Nat} {a:α} {b:β},l[i]? =some a→r[i]? =some b→(a,b)∈l.zip r
 |[],_,_,_,_,h,_=>by simp at h
 |_::_,[],_,_,_,_,h=>by simp at h
 |x::l,y::r,0,a,b,h,h'=>by simp at h h';simp[h,h']
 |x::l,y::r,i+1,a,b,h,h'=>by
  simp at h h'
  rw[List.zip_cons_cons]
  exact .tail _ (xa h h')
section
variable {ae:Program} {w:World} {A:Around} {s:Shared} {ac:Heap}
theorem td {a:Addr} {names:List Str} {body:List Stmt} {scope:Scope} {Dv vals:List Value} {Q Ev:Value→Shared→Prop} (F:lq ac a names body scope Dv) (hs:ac.StaysIn s.heap) (hlim:ac.NoLimit) (hroom:A.depth<recursionLimit)
  (hl:vals.length≤names.length) (hD:Dv.length≤names.length) (hge:names.length≤vals.length+Dv.length)
  (h:∀env bP tk m,env.scope=scope→env.locals=s.heap.objs.size→env.globals=mainGlobals→env.builtins=builtinsNs→env.frame=some s.heap.objs.size→bP.Ns s.heap.objs.size m→
   (∀(i:Nat) (n:Str) (v:Value),names[i]? =some n→(vals++Dv.drop (Dv.length+vals.length-names.length))[i]? =some v→m n=some v)→cg s.heap bP→
   wpAny (model ae w) (A.deeper env) (execs body env) (fun f s'=>Q (match f with| .ret v=>v|_=>.none) s')
    (fun e s'=>wpAny (model ae w) (A.deeper env) (leaving env e) (fun _ s''=>Ev e s'') (fun e' s''=>Ev e' s'') s') {s with heap:=bP,toks:=tk}):
  wpAny (model ae w) A (call (.ref a) vals) Q Ev s:=by
 obtain⟨o,fd,h1,h2,h3,h4,h5,h6,h7,h8,h9⟩:=(F.keeps hs).obj
 subst h3
 have nd:((names.zip (vals++Dv.drop (Dv.length+vals.length-names.length))).map (·.1)).Nodup:=by
  rw[List.map_fst_zip (by rw[List.length_append,List.length_drop];exact DM hl hD hge)];exact F.nd
 refine wpAny_call (codeAny_call_def hroom h1 h2 (hlim.keeps hs) h7 h4 (wp h8 F.nd hl hD hge h9) F.cell (fun x hx=>F.loc _ (List.of_mem_zip (a:=x.1) (b:=x.2) hx).1) (fun bP hn hk=>?_) F.co F.gen F.kind)
 refine wpAny_mono (h (callEnv fd s.heap.objs.size a) bP _ _ rfl rfl h5 h6 rfl hn (fun i n v e1 e2=>vA nd (xa e1 e2)) ⟨hk⟩) (fun f s' z=>z) fun e s' z=>z
end
end Mine
end
section
namespace Mine
open PySem PyProof.Rows
noncomputable def kf:List (Str×IV):=[("code",.name "code"),("value",.name "value"),("errorcode",.name "errorcode"),("level",.name "level"),("ret",.name "ret"),("info",.str),("is_noted",.bool false),("line",.int 0),("extra",.nil)]
noncomputable def jm:List Str:=["self","code","value","errorcode","level","ret"]
noncomputable def jH (sc:Scope) (b:List Stmt):Bool:=dM b fun st rest=>lP st fun v _=>dw v fun fn vs kw p=>ck kw&&pU vs fun a b=>bY fn fun o init ap=>b9 o fun ex _=>(b9 a fun se _=>se==("self":Str)&&true)&&((b9 b fun va _=>va==("value":Str)&&true)&&
 (ex==("Exception":Str)&&(init==("__init__":Str)&&(cp sc ("Exception":Str)&&(gx sc ("self":Str)&&(gx sc ("value":Str)&&(dn ap p&&rU sc kf rest)))))))
theorem uk {P:List Stmt→Prop} {sc:Scope} {b:List Stmt} (h:jH sc b=true) (f:∀p0 ap p1 p2 p p5 rest,cp sc ("Exception":Str)=true→gx sc ("self":Str)=true→gx sc ("value":Str)=true→dn ap p=true→rU sc kf rest=true→
  P (.Expr (.Call (.Attribute (.Name ("Exception":Str) p0) ("__init__":Str) ap) [.Name ("self":Str) p1,.Name ("value":Str) p2] [] p) p5::rest)):P b:=
 cV h fun st rest h=>xX (P:=fun st=>P (st::rest)) h fun v p5 h=>jK (P:=fun v=>P (.Expr v p5::rest)) h fun fn vs kw p h=>af h fun hk h=>cI (P:=fun kw=>P (.Expr (.Call fn vs kw p) p5::rest)) hk
  (qk (P:=fun vs=>P (.Expr (.Call fn vs [] p) p5::rest)) h fun a b h=>ei (P:=fun fn=>P (.Expr (.Call fn [a,b] [] p) p5::rest)) h fun o init ap h=>cM (P:=fun o=>P (.Expr (.Call (.Attribute o init ap) [a,b] [] p) p5::rest)) h fun ex p0 h=>af h fun ha h=>af h fun hb h=>
   cU (P:=fun ex=>P (.Expr (.Call (.Attribute (.Name ex p0) init ap) [a,b] [] p) p5::rest)) h fun h=>cU (P:=fun init=>P (.Expr (.Call (.Attribute (.Name ("Exception":Str) p0) init ap) [a,b] [] p) p5::rest)) h fun h=>
   af h fun h1 h=>af h fun h2 h=>af h fun h3 h=>af h fun h4 h5=>
   cM (P:=fun a=>P (.Expr (.Call (.Attribute (.Name ("Exception":Str) p0) ("__init__":Str) ap) [a,b] [] p) p5::rest)) ha fun se p1 ha=>cU (P:=fun se=>P (.Expr (.Call (.Attribute (.Name ("Exception":Str) p0) ("__init__":Str) ap) [.Name se p1,b] [] p) p5::rest)) ha fun _=>
   cM (P:=fun b=>P (.Expr (.Call (.Attribute (.Name ("Exception":Str) p0) ("__init__":Str) ap) [.Name ("self":Str) p1,b] [] p) p5::rest)) hb fun va p2 hb=>cU (P:=fun va=>P (.Expr (.Call (.Attribute (.Name ("Exception":Str) p0) ("__init__":Str) ap) [.Name ("self":Str) p1,.Name va p2] [] p) p5::rest)) hb fun _=>f p0 ap p1 p2 p p5 rest h1 h2 h3 h4 h5)
noncomputable def tT:List Str:=["text","errorcode"]
noncomputable def kR (sc:Scope) (b:List Stmt):Bool:=dA b fun st=>gj st fun v _=>isSome v fun v=>dw v fun fn vs kw _=>ck kw&&jQ vs fun a b c=>b9 fn fun r _=>(bR a fun i _ _=>i== .int 1&&true)&&((b9 b fun t _=>t==("text":Str)&&true)&&((b9 c fun e _=>e==("errorcode":Str)&&true)&&
 (r==("Raised":Str)&&(cp sc ("Raised":Str)&&(gx sc ("text":Str)&&gx sc ("errorcode":Str))))))
structure ul (ac:Heap) (mg mb:Str→Option Value) (C fI fE ec:Addr):Prop where
 cls:∃N mN,kj ac C N fI mN
 fnI:∃body sc v t1 t2,lq ac fI jm body sc [v,.int 0 t1,.int 0 t2]∧jH sc body=true
 fnIc:∃o,ac.get? fI=some o∧o.cls=.type "function"
 fnE:∃body sc,lq ac fE tT body sc [.ref ec]∧kR sc body=true
 ecT:∃t n,ac.get? ec=some (kW #[.str (sx "NONE".toList) t] n)
 gR:mg "Raised"=some (.ref C)
 gE:mg "error"=some (.ref fE)
 gX:mg "Exception"=none
 bX:mb "Exception"=some (.type "Exception")
 g:ac.Ns mainGlobals mg
 b:ac.Ns builtinsNs mb
 nolimit:ac.NoLimit
inductive vM (C ec:Addr) (h h':Heap) (e:Addr) (m:Ch):Prop
 |mk:h.get? e=none→∀(o:Obj) (vs:Array Value) (d:Addr) (mA:Str→Option Value) (t1 t2:Tok),h'.get? e=some o→o.cls=.ref C→o.data=.fields vs→vs[1]? =some .none→o.dict=some d→h.get? d=none→d≠e∧h'.Ns d mA∧
  mA "code"=some (.int 1 t1)∧mA "value"=some (.str (sx m) t2)∧mA "errorcode"=some (.ref ec)→vM C ec h h' e m
section
variable {ae:Program} {w:World} {A:Around} {E:Value→Shared→Prop} {s:Shared} {ac:Heap} {mg mb:Str→Option Value} {C fI fE ec:Addr}
theorem zV {o:Expr} {env:Env} {ap p:Pos} (h:dn ap p=true):methodCallPos true o env ap p=pure p:=by
 unfold methodCallPos
 have:(ap.endLine==p.line)=true:=h
 simp[this]
theorem q8 {o:Obj} {vs:Array Value} (hd:o.data=.fields vs) (f:Array Value→Array Value):(o.mapFields f).dict=o.dict:=by
 obtain⟨c,d,dt,sl⟩:=o
 cases hd;rfl
theorem ou {mm:Str→Option Value} {n:Str}:∀{l:List (Str×IV)} {mA mA':Str→Option Value},rZ mm mA mA' l→n∉l.map (·.1)→mA' n=mA n
 |[],_,_,h,_=>congrFun (show _=_ from h) n
 |(_,_)::_,_,_,⟨_,_,h⟩,hn=>(ou h fun q=>hn (.tail _ q)).trans (if_neg (fun q=>hn (by rw[q];exact .head _)))
theorem iT {mm:Str→Option Value} {n k:Str}:∀{l:List (Str×IV)} {mA mA':Str→Option Value},rZ mm mA mA' l→(l.map (·.1)).Nodup→(n,IV.name k)∈l→mA' n=mm k
 |(_,_)::_,_,_,⟨_,hv,h⟩,nd,q=>(List.mem_cons.mp q).elim (fun e=>by cases e;exact(ou h (List.nodup_cons.mp nd).1).trans ((if_pos rfl).trans (show mm k=some _ from hv).symm)) fun q=>iT h (List.nodup_cons.mp nd).2 q
theorem wr {hp:Heap} {e t0 t1 t2:Addr} {m:Ch} {Q:Value→Shared→Prop} {o:Obj} {vs:Array Value} (X:ul ac mg mb C fI fE ec) (hbp:ac.StaysIn hp) (hps:∀b o,hp.get? b=some o→s.heap.get? b=some o) (he0:hp.get? e=none) (he:s.heap.get? e=some o) (hc:o.cls=.ref C) (hd:o.data=.fields vs) (h0:vs[0]? =some (.ref t0)) (h1:vs[1]? =some .none) (hdn:o.dict=none)
  (hroom:A.depth<recursionLimit)
  (hq:∀h' tk,cg hp h'→vM C ec hp h' e m→Q .none {s with heap:=h',toks:=tk}):
  wpAny (model ae w) A (call (.ref fI) [.ref e,.int 1 t1,.str (sx m) t2,.ref ec]) Q E s:=by
 obtain⟨body,sc,dv,u1,u2,F,hb⟩:=X.fnI
 obtain⟨N,mN,R0⟩:=X.cls
 have R:=R0.keeps hbp
 have hs:ac.StaysIn s.heap:=fun b o q=>hps b o (hbp b o q)
 refine td F hs X.nolimit hroom (by simp[jm]) (by simp[jm]) (by simp[jm]) fun env bP tk mm e1 e2 e3 e4 e5 hn hm g=>?_
 have m0:=hm 0 "self" (.ref e) rfl rfl
 have m1:=hm 1 "code" (.int 1 t1) rfl rfl
 have m2:=hm 2 "value" (.str (sx m) t2) rfl rfl
 have m3:=hm 3 "errorcode" (.ref ec) rfl rfl
 have m4:=hm 4 "level" (.int 0 u1) rfl rfl
 have m5:=hm 5 "ret" (.int 0 u2) rfl rfl
 clear hm
 have hk:env.scope.kind=.function:=e1▸F.kind
 rw[←e1]at hb
 refine uk (P:=fun body=>wpAny _ _ (execs body env) _ _ _) hb fun p0 ap p1 p2 p p5 rest hg hse hva hone hini=>?_
 obtain⟨hgk,hgd⟩:=gm hg
 have hs0:ac.StaysIn bP:=fun b o e=>g.keep b o (hs b o e)
 refine wpAny_execs_cons (wpAny_Expr_any ?_ (by unfold interactive;rw[hk];rfl) (dJ rfl _ _ _))
 rw[arm_eval_Call,eW rfl]
 refine wpAny_bind (Calls.Name_function_global hk hgk (Calls.loadGlobal_builtin (e3▸X.g.keeps hs0) X.gX (e4▸X.b.keeps hs0) X.bX ?_) hgd)
 refine wpAny_bind (wpAny_standAt ?_)
 unfold methodCall
 refine wpAny_bind (wpAny_holding (wJ (s:={s with heap:=bP,toks:=tk}) ?_))
 refine wpAny_bind (wpAny_of_eq (zV hone) ?_)
 refine Calls.callWith_builtin rfl (Calls.evalArgs_plain (Calls.spliced_cons ?_))
 refine hO hk e2 hse hn m0 (Calls.spliced_cons ?_)
 refine hO hk e2 hva hn m2 (Calls.spliced_nil ?_)
 have he':=g.keep _ _ he
 refine zN (R0.keeps hs0) he' hc hd h0 ?_
 obtain⟨H1,hH1⟩:∃H1,H1=(bP.push {cls:=.type "tuple",data:=.seq #[.str (sx m) t2]}).update e (Obj.mapFields (·.setIfInBounds 0 (.ref bP.objs.size))):=⟨_,rfl⟩
 rw[←hH1]
 have hd1:=Obj.data_mapFields hd (·.setIfInBounds 0 (.ref bP.objs.size))
 have k1:∀b ob,b≠e→bP.get? b=some ob→H1.get? b=some ob:=fun b ob hb q=>hH1▸(Heap.get?_update_other _ _ (Ne.symm hb)).trans (Heap.get?_push_of_some _ q)
 have o1:H1.get? e=some (o.mapFields (·.setIfInBounds 0 (.ref bP.objs.size))):=hH1▸Heap.get?_update_self _ (Heap.get?_push_of_some _ he') (Obj.isFreed_of_fields hd1)
 have ne:∀{b:Addr} {ob:Obj},hp.get? b=some ob→b≠e:=fun q z=>by rw[z,he0]at q;cases q
 have hLe:s.heap.objs.size≠e:=xi (.inr (Heap.lt_size he))
 have hdm:(o.mapFields (·.setIfInBounds 0 (.ref bP.objs.size))).dict=none:=(q8 hd _).trans hdn
 have I:qa hp H1 C e s.heap.objs.size mm (fun _=>none) [] (vs.setIfInBounds 0 (.ref bP.objs.size)):=
  ⟨fun b ob q=>k1 b ob (ne q) (g.keep _ _ (hps b ob q)),(let ⟨oL,eL,pL,q1,q2,q3,q4⟩:=hn;⟨oL,eL,pL,k1 _ _ hLe q1,q2,q3,q4⟩),⟨_,o1,(Obj.cls_mapFields ..).trans hc,hd1,.inl ⟨hdm,fun _=>rfl⟩⟩,Within.nil⟩
 refine ye (hb:=hp) (L:=s.heap.objs.size) R hk e2 he0 hLe m0 kf _ {s with heap:=H1,toks:=_} (fun _=>none) [] hini (fun n iv hmem k hk'=>?_) (by simp[kf]) I fun mA' ns' h' tk' hmap I'=>?_
 ·subst hk'
  simp only[kf,List.mem_cons,List.not_mem_nil,or_false,Prod.mk.injEq,IV.name.injEq,reduceCtorEq,and_false]at hmem
  rcases hmem with⟨_,rfl⟩|⟨_,rfl⟩|⟨_,rfl⟩|⟨_,rfl⟩|⟨_,rfl⟩
  ·exact⟨_,m1⟩
  ·exact⟨_,m2⟩
  ·exact⟨_,m3⟩
  ·exact⟨_,m4⟩
  ·exact⟨_,m5⟩
 ·obtain⟨o',i1,i2,i3,i4⟩:=I'.dict
  have v1:(vs.setIfInBounds 0 (.ref bP.objs.size))[1]? =some .none:=by rw[Array.getElem?_setIfInBounds_ne (by decide)];exact h1
  have nd:(kf.map (·.1)).Nodup:=by decide
  have hmap':mA' "code"=some (.int 1 t1)∧mA' "value"=some (.str (sx m) t2)∧mA' "errorcode"=some (.ref ec):=
   ⟨(iT hmap nd (.head _)).trans m1,(iT hmap nd (.tail _ (.head _))).trans m2,(iT hmap nd (.tail _ (.tail _ (.head _)))).trans m3⟩
  rcases i4 with⟨_,z⟩|⟨dx,z1,z2,z3,z4,z5⟩
  ·have:=hmap'.1;rw[z]at this;cases this
  ·exact hq h' tk' ⟨I'.keep⟩ ⟨he0,o',_,dx,mA',t1,t2,i1,i2,i3,v1,z1,z3,z5,z2.ns,hmap'⟩
end
end Mine
end
section
namespace Mine
open PySem PyProof.Rows
section
variable {ae:Program} {w:World} {A:Around} {E:Value→Shared→Prop} {s:Shared} {ac:Heap} {mg mb:Str→Option Value} {C fI fE ec:Addr}
theorem Bx {t1 t2:Addr} {m:Ch} {Q:Value→Shared→Prop} (X:ul ac mg mb C fI fE ec) (hs:ac.StaysIn s.heap) (hroom:A.depth+1<recursionLimit)
  (hq:∀e h' tk,cg s.heap h'→vM C ec s.heap h' e m→Q (.ref e) {s with heap:=h',toks:=tk}):wpAny (model ae w) A (call (.ref C) [.int 1 t1,.str (sx m) t2,.ref ec]) Q E s:=by
 obtain⟨N,mN,R0⟩:=X.cls
 have R:=R0.keeps hs
 obtain⟨nm,q,bs,sn,sub,ab,col,dd,k0,k1,k2,k3,k5,hC⟩:=R.obj
 obtain⟨oI,hI,hIc⟩:=X.fnIc
 obtain⟨h,g,d,t,os⟩:=s
 refine wpAny_call_exc_init F.excBase_Exception hC R.ns R.init (hs _ _ hI) hIc (fun h' e hm=>?_) (by simp[sizeLine_eq])
 obtain⟨t0,ht,_,_⟩:=hm.there
 refine wr (s:=⟨h',g,d,t,os⟩) X hs hm.keeps hm.new ht rfl rfl rfl rfl rfl ?_ fun h'' tk g' md=>⟨rfl,hq e h'' tk g' md⟩
 show A.depth+Code.weight _<recursionLimit
 exact hroom
theorem vM.back {bP h h':Heap} {e:Addr} {m:Ch} (g:cg bP h) (md:vM C ec h h' e m):vM C ec bP h' e m:=by
 have low:∀{a:Addr},h.get? a=none→bP.get? a=none:=fun {a} e=>d7 fun o z=>by have:=g.keep _ _ z;rw[e]at this;cases this
 obtain⟨n1,o,vs,d,mA,u1,u2,a1,a2,a3,a4,a5,a6,a7⟩:=md
 exact⟨low n1,o,vs,d,mA,u1,u2,a1,a2,a3,a4,a5,low a6,a7⟩
theorem wv {P:List Stmt→Prop} {sc:Scope} {b:List Stmt} (h:kR sc b=true) (f:∀p0 k0 p1 p2 p3 p4 p5,cp sc ("Raised":Str)=true→gx sc ("text":Str)=true→gx sc ("errorcode":Str)=true→
  P [.Return (some (.Call (.Name ("Raised":Str) p0) [.Constant (.int 1) k0 p1,.Name ("text":Str) p2,.Name ("errorcode":Str) p3] [] p4)) p5]):P b:=
 f9 h fun st h=>mu (P:=fun st=>P [st]) h fun v p5 h=>fS (P:=fun v=>P [.Return v p5]) h fun v h=>jK (P:=fun v=>P [.Return (some v) p5]) h fun fn vs kw p4 h=>af h fun hk h=>cI (P:=fun kw=>P [.Return (some (.Call fn vs kw p4)) p5]) hk
  (mn (P:=fun vs=>P [.Return (some (.Call fn vs [] p4)) p5]) h fun a b c h=>cM (P:=fun fn=>P [.Return (some (.Call fn [a,b,c] [] p4)) p5]) h fun r p0 h=>af h fun ha h=>af h fun hb h=>af h fun hc h=>
   cU (P:=fun r=>P [.Return (some (.Call (.Name r p0) [a,b,c] [] p4)) p5]) h fun h=>af h fun h1 h=>af h fun h2 h3=>
   cB (P:=fun a=>P [.Return (some (.Call (.Name ("Raised":Str) p0) [a,b,c] [] p4)) p5]) ha fun i k0 p1 hi=>cU (P:=fun i=>P [.Return (some (.Call (.Name ("Raised":Str) p0) [.Constant i k0 p1,b,c] [] p4)) p5]) hi fun _=>
   cM (P:=fun b=>P [.Return (some (.Call (.Name ("Raised":Str) p0) [.Constant (.int 1) k0 p1,b,c] [] p4)) p5]) hb fun t p2 ht=>cU (P:=fun t=>P [.Return (some (.Call (.Name ("Raised":Str) p0) [.Constant (.int 1) k0 p1,.Name t p2,c] [] p4)) p5]) ht fun _=>
   cM (P:=fun c=>P [.Return (some (.Call (.Name ("Raised":Str) p0) [.Constant (.int 1) k0 p1,.Name ("text":Str) p2,c] [] p4)) p5]) hc fun e p3 he=>cU (P:=fun e=>P [.Return (some (.Call (.Name ("Raised":Str) p0) [.Constant (.int 1) k0 p1,.Name ("text":Str) p2,.Name e p3] [] p4)) p5]) he fun _=>f p0 k0 p1 p2 p3 p4 p5 h1 h2 h3)
theorem t6 {t2:Addr} {m:Ch} {Q:Value→Shared→Prop} (X:ul ac mg mb C fI fE ec) (hs:ac.StaysIn s.heap) (hroom:A.depth+2<recursionLimit)
  (hq:∀e h' tk,cg s.heap h'→vM C ec s.heap h' e m→Q (.ref e) {s with heap:=h',toks:=tk}):wpAny (model ae w) A (call (.ref fE) [.str (sx m) t2]) Q E s:=by
 refine X.fnE.elim fun body z=>z.elim fun sc F=>?_
 have hb:=F.2
 refine td F.1 hs X.nolimit (Nat.lt_of_le_of_lt (Nat.le_add_right _ 2) hroom) (show 1≤2 by decide) (show 1≤2 by decide) (show 2≤2 by decide) fun env bP tk mm e1 e2 e3 e4 e5 hn hm g=>?_
 have m0:=hm 0 "text" (.str (sx m) t2) rfl rfl
 have m1:=hm 1 "errorcode" (.ref ec) rfl rfl
 have hk:env.scope.kind=.function:=e1▸F.1.kind
 rw[←e1]at hb
 refine wv (P:=fun body=>wpAny _ _ (execs body env) _ _ _) hb fun p0 k0 p1 p2 p3 p4 p5 hg ht he=>?_
 have hs0:ac.StaysIn bP:=fun b o e=>g.keep b o (hs b o e)
 refine wpAny_execs_cons (wpAny_Return_some (wpAny_Call_Name_kw (Calls.Name_function_global hk (gm hg).1 (Calls.loadGlobal_global (e3▸X.g.keeps hs0) X.gR ?_) (gm hg).2)))
 show wpAny _ _ (callWith p4 (.ref C) [] [(false,eval (.Constant (.int 1) k0 p1) env),(false,eval (.Name ("text":Str) p2) env),(false,eval (.Name ("errorcode":Str) p3) env)] []) _ _ _
 unfold callWith
 refine wpAny_bind (wpAny_holding (Calls.evalArgs_plain (Calls.spliced_cons (wpAny_Constant_int (Calls.spliced_cons (hO hk e2 ht hn m0 (Calls.spliced_cons (hO hk e2 he hn m1 (Calls.spliced_nil (wpAny_bind (wpAny_standAt ?_)))))))))))
 refine X.cls.elim fun N z=>z.elim fun mN R0=>?_
 obtain⟨nm,q,bs,sn,sub,ab,col,dd,k0,k1,k2,k3,k5,hC⟩:=(R0.keeps hs0).obj
 refine wpAny_bind (wpAny_keeperOf_exc hC ?_)
 show wpAny _ _ (call (.ref C) [.int 1 tk,.str (sx m) t2,.ref ec]>>= _) _ _ _
 refine wpAny_bind (Bx (s:={s with heap:=bP,toks:=tk+1}) X hs0 hroom fun e h' tk' g' md=>?_)
 refine wpAny_bind (wpAny_holding (wpAny_point (wpAny_pure ?_)))
 exact hq e h' tk' (g.trans g') (md.back g)
end
noncomputable def JC (ac:Heap) (h:Heap) (a:Addr) (vs:Array Value):Option Value→Prop
 |none=>vs[1]? =some .none
 |some fl=>∃T oT ts,vs[1]? =some (.ref T)∧ac.get? T=none∧T≠a∧h.get? T=some oT∧oT.cls=.type "traceback"∧oT.data=.fields ts∧ts[3]? =some fl
inductive f0 (ac:Heap) (C ec:Addr) (ids F:List Addr) (h:Heap) (a:Addr) (m:Ch) (st:Option Value):Prop
 |mk (o:Obj) (vs:Array Value) (d:Addr) (mA:Str→Option Value) (t1 t2:Tok):h.get? a=some o→o.cls=.ref C→o.data=.fields vs→o.dict=some d→h.Ns d mA→mA "code"=some (.int 1 t1)→mA "value"=some (.str (sx m) t2)→mA "errorcode"=some (.ref ec)→
  ac.get? a=none→ac.get? d=none→d∉ids→d∉F→JC ac h a vs st→f0 ac C ec ids F h a m st
structure jg (ac:Heap) (F:List Addr) (h h':Heap):Prop where
 keep:gh F [] h h'
 stays:ac.StaysIn h→ac.StaysIn h'
theorem jg.refl (ac:Heap) (F:List Addr) (h:Heap):jg ac F h h:=⟨.refl _ _ _,fun x=>x⟩
theorem jg.trans {ac:Heap} {F:List Addr} {au aW cY:Heap} (x:jg ac F au aW) (y:jg ac F aW cY):jg ac F au cY:=⟨x.keep.trans y.keep (fun _ h=>.inl h) (fun _ h=>.inl h),fun z=>y.stays (x.stays z)⟩
theorem jg.step {ac:Heap} {F ids:List Addr} {h h':Heap} (x:jg ac F h h'):bx F ids h ids h':=⟨⟨[],by simp,by simp⟩,x.keep.mono fun _ q=>by cases q⟩
section
variable {ae:Program} {w:World} {A:Around} {E:Value→Shared→Prop} {s:Shared} {ac:Heap} {C ec:Addr} {env:Env} {l:List Env} {ids:List Addr} {σ:St} {h h':Heap} {H:List O}
theorem cQ.calm (x:cQ ae w ac ids H h) (f:j9 ac ids h l) (g:jg ac (frs l) h h'):cQ ae w ac ids H h':=by
 refine⟨x.len,x.nodup,fun i a o e1 e2=>?_,x.above,g.stays x.base,x.sys⟩
 have ha:a∈ids:=List.mem_of_getElem? e1
 refine(x.obj i a o e1 e2).step (Mine.noTup x f) (g.step (ids:=ids)) fun p e=>?_
 refine g.keep.exact a p (by simp) (fun q=>(Fm f q ha) rfl) e (.inl ?_)
 rcases x.data ha with⟨_,_,e'⟩|⟨_,_,_,e',d⟩
 ·rw[e]at e';cases e';exact fun _ q=>by cases q
 ·rw[e]at e';cases e';exact fun _ q=>by rw[d]at q;cases q
theorem c6.calm (S:c6 ae w ac env l ids σ h) (g:jg ac (frs l) h h'):c6 ae w ac env l ids σ h':=
 ⟨S.hp.calm S.fr g,S.fr.step (g.step (ids:=ids)),S.lo.step S.hp S.noTup g.step⟩
end
end Mine
end
section
namespace Mine
open PySem PyProof.Rows
section
variable {M:Model} {A:Around} {E:Value→Shared→Prop} {s:Shared} {ac:Heap} {C ec:Addr} {env:Env} {l cq:List Env} {ids:List Addr}
theorem rG {o:Obj} {vs:Array Value} {cls:Value} (hd:o.data=.fields vs) (hc:o.cls=cls) (h1:cls≠ .type "list_iterator") (h2:cls≠ .type "tuple_iterator"):¬Hw o:=by
 rintro(h|h|h)
 ·exact h vs hd
 ·exact h1 (hc▸h)
 ·exact h2 (hc▸h)
theorem qh (f:j9 ac ids s.heap l) {a:Addr} {o:Obj} {vs:Array Value} (e:s.heap.get? a=some o) (hd:o.data=.fields vs):a∉frs l:=fun q=>by
 obtain⟨_,_,o',_,_,e',d⟩:=f.mem q
 rw[e]at e';cases e';rw[hd]at d;cases d
theorem py {F:List Addr} {h:Heap} {a:Addr} {o:Obj} {vs:Array Value} (e:h.get? a=some o) (hd:o.data=.fields vs) (hf:¬Hw o) (ha:ac.get? a=none) (f:Array Value→Array Value):jg ac F h (h.update a (Obj.mapFields f)):=by
 have hd':=Obj.data_mapFields hd f
 have self:=Heap.get?_update_self (Obj.mapFields f) e (Obj.isFreed_of_fields hd')
 have other:∀b,b≠a→(h.update a (Obj.mapFields f)).get? b=h.get? b:=fun b hb=>Heap.get?_update_other _ _ (Ne.symm hb)
 have ne:∀{b:Addr} {p:Obj},h.get? b=some p→Hw p→b≠a:=fun e' hp q=>by subst q;rw[e]at e';cases e';exact hf hp
 refine⟨⟨fun b p eb=>?_,fun b p _ _ eb hp=>(other b (ne eb hp)).trans eb,fun b p _ eb hp=>⟨p.slots,(other b (ne eb hp)).trans eb⟩⟩,fun x b p eb=>(other b fun q=>by rw[q,ha]at eb;cases eb).trans (x b p eb)⟩
 by_cases q:b=a
 ·subst q;exact⟨_,self⟩
 ·exact⟨p,(other b q).trans eb⟩
theorem zq {F:List Addr} {h:Heap} (o:Obj):jg ac F h (h.push o):=⟨gh.push _ _ _ _,fun x b p eb=>Heap.get?_push_of_some _ (x b p eb)⟩
theorem wH {h h':Heap} {F:List Addr} (x:Heap.SlotsOnly F h h') (hF:∀a∈F,ac.get? a=none):jg ac F h h':=
 ⟨⟨fun b p e=>(let ⟨sl,e'⟩:=x.2.2 b p e;⟨_,e'⟩),fun b p _ hb e _=>(x.2.1 b hb).trans e,fun b p _ e _=>x.2.2 b p e⟩,fun y b p e=>(x.2.1 b fun q=>by rw[hF b q]at e;cases e).trans (y b p e)⟩
theorem mV {L e:Addr} {oe:Obj} {vs:Array Value} {head:Value} {hadNext:Bool} {Q:Unit→Shared→Prop}
  (hfr:A.frames=some (env::cq)) (f:j9 ac ids s.heap (env::cq)) (hst:ac.StaysIn s.heap) (hf:env.frame=some L) (he:s.heap.get? e=some oe) (hc:oe.cls=.ref C) (hd:oe.data=.fields vs) (hsz:1<vs.size) (hlow:ac.get? e=none)
  (h:∀h' T oT ts,jg ac (frs (env::cq)) s.heap h'→h'.get? e=some (oe.mapFields (·.setIfInBounds 1 (.ref T)))→ac.get? T=none→T≠e→h'.get? T=some oT→oT.cls=.type "traceback"→oT.data=.fields ts→ts[3]? =some (rawInt L)→
   (∀b o,b∉frs (env::cq)→b≠e→s.heap.get? b=some o→h'.get? b=some o)→Q () {s with heap:=h'}):
  wpAny M A (do let a←frameOf env;let pl←entryPlaceOf L hadNext;let b←EntryCells.newEntry head a .none (rawInt L) .none pl;setField (.ref e) 1 b) Q E s:=by
 have hF:∀a∈frs (env::cq),ac.get? a=none:=fun a ha=>(f.mem ha).1
 have hef:e∉frs (env::cq):=qh f he hd
 refine wpAny_bind (wpAny_frameOf_fun hfr f.fun hf fun au Ac=>?_)
 refine wpAny_bind (wpAny_entryPlaceOf fun pl hpl=>?_)
 unfold EntryCells.newEntry newFields
 refine wpAny_bind (wpAny_newObj_type ?_ (hpl.sizeOk5 _ _ _ _ _))
 have c1:jg ac (frs (env::cq)) s.heap au:=wH Ac hF
 have ER:au.get? e=some oe:=(Ac.2.1 e hef).trans he
 obtain⟨tb,htb⟩:∃tb:Obj,tb={cls:=.type "traceback",dict:=none,data:=.fields ([head,.ref L,.none,rawInt L,.none]++(if pl.isEmpty then List.replicate 6 Value.none else pl)).toArray}:=⟨_,rfl⟩
 dsimp only
 rw[←htb]
 have BR:=Heap.get?_push_of_some tb ER
 refine wpAny_setField BR hd hsz ?_
 have hTe:au.objs.size≠e:=Nat.ne_of_gt (Heap.lt_size ER)
 have HK:=Obj.data_mapFields hd (·.setIfInBounds 1 (Value.ref au.objs.size))
 have Hq:(au.push tb).get? au.objs.size=some tb:=Heap.get?_push_size _ (by rw[htb];rfl)
 refine h _ au.objs.size tb _ ((c1.trans (zq tb)).trans (py BR hd (rG hd hc (fun q=>by cases q) (fun q=>by cases q)) hlow _)) (Heap.get?_update_self _ BR (Obj.isFreed_of_fields HK)) ?_ hTe ((Heap.get?_update_other _ _ (Ne.symm hTe)).trans Hq) (by rw[htb]) (by rw[htb]) (by first|(simp;done)|(rcases hpl with rfl|⟨_,_,_,_,_,_,_,rfl⟩<;>simp)) fun b o hb hbe eb=>?_
 ·cases z:ac.get? au.objs.size with
  |none=>rfl
  |some o=>have:=c1.stays hst _ _ z;rw[cb]at this;cases this
 ·exact(Heap.get?_update_other _ _ (Ne.symm hbe)).trans (Heap.get?_push_of_some _ ((Ac.2.1 b hb).trans eb))
theorem Fi (L:Addr):¬((Value.none==rawInt L)=true):=by simp[rawInt]
theorem kP {L e:Addr} {m:Ch} {st:Option Value} {Q:Unit→Shared→Prop} (hfr:A.frames=some (env::cq)) (f:j9 ac ids s.heap (env::cq)) (hst:ac.StaysIn s.heap) (hf:env.frame=some L)
  (x:f0 ac C ec ids (frs (env::cq)) s.heap e m st) (hs:st=none∨st=some .none∨st=some (rawInt L))
  (h:∀h',jg ac (frs (env::cq)) s.heap h'→f0 ac C ec ids (frs (env::cq)) h' e m (some (rawInt L))→Q () {s with heap:=h'}):wpAny M A (noteFrame (.ref e) env) Q E s:=by
 obtain⟨o,vs,d,mA,t1,t2,he,hc,hd,hdi,hns,q1,q2,q3,le,ld,di,dF,hflight⟩:=id x
 have de:d≠e:=fun q=>by
  obtain⟨o',es,ep,e',d',_⟩:=hns
  rw[q,he]at e';cases e';rw[hd]at d';cases d'
 have fin:∀{h0 h':Heap} {o1:Obj} {vs1:Array Value} {T:Addr} {oT:Obj} {ts:Array Value},h0.get? e=some o1→o1.cls=.ref C→o1.dict=some d→o1.data=.fields vs1→1<vs1.size→h0.Ns d mA→h'.get? e=some (o1.mapFields (·.setIfInBounds 1 (.ref T)))→ac.get? T=none→T≠e→h'.get? T=some oT→
   oT.cls=.type "traceback"→oT.data=.fields ts→ts[3]? =some (rawInt L)→(∀b o,b∉frs (env::cq)→b≠e→h0.get? b=some o→h'.get? b=some o)→f0 ac C ec ids (frs (env::cq)) h' e m (some (rawInt L)):=by
  intro h0 h' o1 vs1 T oT ts a1 a2 a3 a4 asz a5 a6 a7 a8 a9 a10 a11 a12 a13
  have hdm:(o1.mapFields (·.setIfInBounds 1 (.ref T))).dict=some d:=(q8 a4 _).trans a3
  obtain⟨o',es,ep,n1,n2,n3⟩:=a5
  exact⟨_,_,d,mA,t1,t2,a6,(Obj.cls_mapFields ..).trans a2,Obj.data_mapFields a4 _,hdm,⟨o',es,ep,a13 _ _ dF de n1,n2,n3⟩,q1,q2,q3,le,ld,di,dF,T,oT,ts,by simp[asz],a7,a8,a9,a10,a11,a12⟩
 unfold noteFrame
 simp only[hf]
 rcases hs with rfl|rfl|rfl
 ·refine wpAny_bind (wpAny_field he hd hflight ?_)
  rw[if_neg (by decide)]
  refine mV (C:=C) hfr f hst hf he hc hd (Array.getElem?_eq_some_iff.mp hflight).1 le fun h' T oT ts c r1 r2 r3 r4 r5 r6 r7 r8=>h h' c ?_
  exact fin he hc hdi hd (Array.getElem?_eq_some_iff.mp hflight).1 hns r1 r2 r3 r4 r5 r6 r7 r8
 ·obtain⟨T,oT,ts,f1,f2,f3,f4,f5,f6,f7⟩:=hflight
  refine wpAny_bind (wpAny_field he hd f1 ?_)
  rw[if_pos (show(Value.ref T != Value.none)=true from by simp)]
  refine wpAny_bind (wpAny_field f4 f6 f7 ?_)
  rw[if_neg (Fi L)]
  refine wpAny_bind (wpAny_setField f4 f6 (Array.getElem?_eq_some_iff.mp f7).1 ?_)
  have c0:jg ac (frs (env::cq)) s.heap (s.heap.update T (Obj.mapFields (·.setIfInBounds 3 Value.none))):=py f4 f6 (rG f6 f5 (by decide) (by decide)) f2 _
  have other:∀b,b≠T→(s.heap.update T (Obj.mapFields (·.setIfInBounds 3 Value.none))).get? b=s.heap.get? b:=fun b hb=>Heap.get?_update_other _ _ (Ne.symm hb)
  have dT:d≠T:=fun q=>by
   obtain⟨o',es,ep,e',d',_⟩:=hns
   rw[q,f4]at e';cases e';rw[f6]at d';cases d'
  have ns':(s.heap.update T (Obj.mapFields (·.setIfInBounds 3 Value.none))).Ns d mA:=by
   obtain⟨o',es,ep,n1,n2,n3⟩:=hns
   exact⟨o',es,ep,(other _ dT).trans n1,n2,n3⟩
  have he':=(other e (Ne.symm f3)).trans he
  refine mV (s:={s with heap:=s.heap.update T (Obj.mapFields (·.setIfInBounds 3 Value.none))}) (C:=C) hfr (f.step (c0.step (ids:=ids))) (c0.stays hst) hf he' hc hd (Array.getElem?_eq_some_iff.mp f1).1 le
   fun h' T' oT' ts' c r1 r2 r3 r4 r5 r6 r7 r8=>h h' (c0.trans c) ?_
  exact fin he' hc hdi hd (Array.getElem?_eq_some_iff.mp f1).1 ns' r1 r2 r3 r4 r5 r6 r7 r8
 ·obtain⟨T,oT,ts,f1,f2,f3,f4,f5,f6,f7⟩:=hflight
  refine wpAny_bind (wpAny_field he hd f1 ?_)
  rw[if_pos (show(Value.ref T != Value.none)=true from by simp)]
  refine wpAny_bind (wpAny_field f4 f6 f7 ?_)
  rw[if_pos (by simp)]
  exact wpAny_pure (h s.heap (.refl _ _ _) x)
theorem gi {F:List Addr} {e:Addr} {m:Ch} {fl:Value} {fr:Option Addr} {Q:Unit→Shared→Prop} (x:f0 ac C ec ids F s.heap e m (some fl))
  (h:∀h',jg ac F s.heap h'→f0 ac C ec ids F h' e m (some (fr.elim .none fun f=>rawInt f))→Q () {s with heap:=h'}):wpAny M A (setFlight (.ref e) fr) Q E s:=by
 obtain⟨o,vs,d,mA,t1,t2,he,hc,hd,hdi,hns,q1,q2,q3,le,ld,di,dF,T,oT,ts,f1,f2,f3,f4,f5,f6,f7⟩:=id x
 have hsz:=(Array.getElem?_eq_some_iff.mp f7).1
 unfold setFlight
 refine wpAny_bind (wpAny_field he hd f1 ?_)
 rw[if_pos (show(Value.ref T != Value.none)=true from by simp)]
 refine wpAny_setField f4 f6 hsz (h _ (py f4 f6 (rG f6 f5 (by decide) (by decide)) f2 _) ?_)
 have other:∀b,b≠T→(s.heap.update T (Obj.mapFields (·.setIfInBounds 3 (fr.elim .none fun f=>rawInt f)))).get? b=s.heap.get? b:=fun b hb=>Heap.get?_update_other _ _ (Ne.symm hb)
 have dT:d≠T:=fun q=>by
  obtain⟨o',es,ep,e',d',_⟩:=hns
  rw[q,f4]at e';cases e';rw[f6]at d';cases d'
 obtain⟨o',es,ep,n1,n2,n3⟩:=hns
 have hd':=Obj.data_mapFields f6 (·.setIfInBounds 3 (fr.elim Value.none fun f=>rawInt f))
 exact⟨o,vs,d,mA,t1,t2,(other e (Ne.symm f3)).trans he,hc,hd,hdi,⟨o',es,ep,(other _ dT).trans n1,n2,n3⟩,q1,q2,q3,le,ld,di,dF,T,_,_,f1,f2,f3,Heap.get?_update_self _ f4 (Obj.isFreed_of_fields hd'),(Obj.cls_mapFields ..).trans f5,hd',by simp[hsz]⟩
end
end Mine
end
section
namespace Mine
open PySem PyProof.Rows
noncomputable def XL (ac:Heap) (C ec:Addr) (F:List Addr) (L:Addr):List Addr→Heap→Value→Ch→Prop:=fun ids h x m=>
 ∃a st,x=.ref a∧f0 ac C ec ids F h a m st∧(st=none∨st=some .none∨st=some (rawInt L))
noncomputable def XO (ac:Heap) (C ec:Addr) (F:List Addr):List Addr→Heap→Value→Ch→Prop:=fun ids h x m=>∃a,x=.ref a∧f0 ac C ec ids F h a m (some .none)
theorem XO.l {ac:Heap} {C ec:Addr} {F:List Addr} {L:Addr} {ids:List Addr} {h:Heap} {x:Value} {m:Ch} (y:XO ac C ec F ids h x m):XL ac C ec F L ids h x m:=by
 obtain⟨a,e,y⟩:=y
 exact⟨a,_,e,y,.inr (.inl rfl)⟩
section
variable {ae:Program} {w:World} {ac:Heap} {A:Around} {env:Env} {cq:List Env} {Φ:ci} {W:Nat} {C ec fI fE:Addr} {mg mb:Str→Option Value} {fa:Fn→Addr}
theorem u7 (hfr:A.frames=some (env::cq)) (hf:env.frame=some env.locals):yg ae w ac A env (env::cq) (XL ac C ec (frs (env::cq)) env.locals):=by
 intro ids s σ x m Ev S hX k
 obtain⟨a,st,rfl,x,hst⟩:=hX
 refine kP hfr S.fr S.hp.base hf x hst fun h' c x'=>?_
 have S':=S.calm c
 obtain⟨o,vs,d,mA,t1,t2,he,hc,hd,_,_,_,_,_,_,_,_,_,T,oT,ts,f1,_⟩:=id x'
 refine wpAny_bind (wpAny_field he hd f1 ?_)
 rw[if_neg (show ¬((Value.ref T==Value.none)=true) from by simp)]
 show wpAny _ _ (setFlight (.ref a) env.frame) _ _ _
 rw[hf]
 refine gi (s:={s with heap:=h'}) x' fun h'' c' x''=>?_
 exact k _ ids h'' s.toks (((c.trans c').step (ids:=ids)).l _) (S'.calm c') ⟨a,_,rfl,x'',.inr (.inr rfl)⟩
theorem nj {E:Value→Shared→Prop} {s:Shared} {x:Sem Value} {Q:Flow→Shared→Prop} (hh:A.handled=none)
  (h:wpAny (model ae w) A x (fun v rY=>∃e o vs N fI mN,v=.ref e∧kj rY.heap C N fI mN∧rY.heap.get? e=some o∧o.cls=.ref C∧o.data=.fields vs∧vs[1]? =some .none∧E (.ref e) rY) E s):wpAny (model ae w) A (raiseStmt env (some x) none) Q E s:=by
 have hcB:(Value.ref C::EG).contains (.type "BaseException")=true:=by simp
 unfold raiseStmt
 refine wpAny_bind (wpAny_mono h (fun v rY au=>?_) fun _ _ x=>x)
 obtain⟨e,o,vs,N,fI,mN,rfl,R,he,hc,hd,h1,hE⟩:=au
 obtain⟨nm,q,bs,sn,sub,ab,col,dd,k0,k1,k2,k3,k5,hC⟩:=R.obj
 obtain⟨hp,g,d,tk,os⟩:=rY
 obtain⟨oc,od,odt,osl⟩:=o
 dsimp only at hc hd
 subst hc hd
 repeat (first|with_reducible refine wpAny_loadPart_at he ?_|with_reducible refine wpAny_loadPart_at hC ?_|(with_reducible refine wpAny_isSubtype_exc hC ?_;rw[hcB])|wp_step)
 rw[h1]
 refine wpAny_pure ?_
 rw[if_neg (by decide)]
 exact wpAny_pure (wpAny_raiseNew_none hh hE)
theorem Cm {P:Stmt→Prop} {sc:Scope} {m:Ch} {ps:Stmt} (h:yK sc (.raise m) ps=true) (f:∀p0 k0 p1 p2 p3,cp sc ("error":Str)=true→P (.Raise (some (.Call (.Name ("error":Str) p0) [.Constant (.str (sx m)) k0 p1] [] p2)) none p3)):P ps:=
 zW h fun x c p3 h=>af h fun hc h=>mt (P:=fun c=>P (.Raise x c p3)) hc (fS (P:=fun x=>P (.Raise x none p3)) h fun x h=>jK (P:=fun x=>P (.Raise (some x) none p3)) h fun fn vs kw p2 h=>af h fun hk h=>cI (P:=fun kw=>P (.Raise (some (.Call fn vs kw p2)) none p3)) hk
  (cM (P:=fun fn=>P (.Raise (some (.Call fn vs [] p2)) none p3)) h fun id p0 h=>f9 (P:=fun vs=>P (.Raise (some (.Call (.Name id p0) vs [] p2)) none p3)) h fun y h=>cB (P:=fun y=>P (.Raise (some (.Call (.Name id p0) [y] [] p2)) none p3)) h fun c k p1 h=>
   cU (P:=fun id=>P (.Raise (some (.Call (.Name id p0) [.Constant c k p1] [] p2)) none p3)) h fun h=>cU (P:=fun c=>P (.Raise (some (.Call (.Name "error" p0) [.Constant c k p1] [] p2)) none p3)) h (f p0 k p1 p2 p3)))
theorem uP (X:ul ac mg mb C fI fE ec) (Cx:gb ac A env mg mb fa) (hroom:A.depth+2<recursionLimit) (l:List Env) {L:Addr}:xN ae w ac A env l Φ W (XL ac C ec (frs l) L):=by
 intro m ps h σ ids s Q Ev S hs
 refine Cm (P:=fun ps=>wpAny (model ae w) A (exec ps env) Q Ev s) h fun p0 k0 p1 p2 p3 hg=>?_
 rw[arm_exec_Raise]
 refine wpAny_bind (wpAny_standAt ?_)
 show wpAny _ _ (raiseStmt env (some (do let v←eval (.Call (.Name ("error":Str) p0) [.Constant (.str (sx m)) k0 p1] [] p2) env;standAt p3;pure v)) none) _ _ _
 refine nj (C:=C) Cx.hd (wpAny_bind ?_)
 refine wpAny_Call_Name_kw (xj Cx hg S X.gE ?_)
 refine X.fnE.elim fun body z=>z.elim fun sc z=>z.elim fun F hb=>F.has.elim fun oE z=>z.elim fun fdE z=>?_
 show wpAny _ _ (callWith p2 (.ref fE) [] [(false,eval (.Constant (.str (sx m)) k0 p1) env)] []) _ _ _
 refine Calls.callWith_function (o:=oE) (fd:=fdE) (Calls.evalArgs_plain (Calls.spliced_cons ?_))
 rw[eval_Constant]
 refine fun _ _ _=>?_
 refine Calls.spliced_nil ⟨⟨S.hp.base _ _ z.1,z.2⟩,?_⟩
 refine t6 (s:={s with toks:=s.toks+1}) X S.hp.base hroom fun e h' tk g md=>?_
 refine wpAny_bind (wpAny_standAt (wpAny_pure ?_))
 refine X.cls.elim fun N z=>z.elim fun mN R=>?_
 have S':=S.grow g
 obtain⟨n1,o,vs,d,mA,u1,u2,a1,a2,a3,a4,a5,a6,a7,a8,a9⟩:=md
 have low:∀{a:Addr},s.heap.get? a=none→ac.get? a=none:=fun {a} e=>d7 fun o z=>by
  have:=S.hp.base _ _ z;rw[e]at this;cases this
 have dead:∀{o},s.heap.get? d≠some o:=fun z=>by rw[a6]at z;cases z
 exact⟨e,o,vs,N,fI,mN,rfl,R.keeps S'.hp.base,a1,a2,a3,a4,hs _ ids h' tk ((g.step (ids:=ids)).l _) S' ⟨e,none,rfl,⟨o,vs,d,mA,u1,u2,a1,a2,a3,a5,a8,a9.1,a9.2.1,a9.2.2,low n1,low a6,
  fun q=>(S.hp.data q).elim (fun z=>z.elim fun _ z=>z.elim fun _ z=>dead z) (fun z=>z.elim fun _ z=>z.elim fun _ z=>z.elim fun _ z=>dead z.1),fun q=>by obtain⟨_,_,o',_,_,z,_⟩:=S.fr.mem q;exact dead z,a4⟩,.inl rfl⟩⟩
end
end Mine
end
section
namespace Mine
open PySem PyProof.Rows
section
variable {ae:Program} {w:World} {ac:Heap} {env:Env} {l:List Env} {ids:List Addr} {σ:St} {h h':Heap} {L:Addr} {m m':Str→Option Value}
theorem mc (k:Heap.SameBut L h h'):tC L h h':=fun b o q e=>(k.2 b q).trans e
theorem vi (hn:h.Ns L m):∀items n,h.get? L≠some (kW items n):=fun items n e=>by
 obtain⟨o,es,ep,e',d,_⟩:=hn
 rw[e]at e';cases e';cases d
theorem u5 {H:List O} (R:cQ ae w ac ids H h) (out:L∉ids) (low:ac.get? L=none) (hn:h.Ns L m) (k:Heap.SameBut L h h'):cQ ae w ac ids H h':=
 R.but (l:=[]) ⟨out,by simp[frs],low,fun o e=>by
  obtain⟨o',es,ep,e',d,_⟩:=hn
  rw[e]at e';cases e'
  exact⟨fun _ _ q=>by(rw[d]at q;cases q),fun _ q=>by(rw[d]at q;cases q)⟩⟩ (mc k)
theorem yy (f:j9 ac ids h l) (hn':h'.Ns L m') (k:Heap.SameBut L h h'):j9 ac ids h' l:=fun e he=>by
 obtain⟨kk,L',o,es,n,h1,h2,h3,h4,h5⟩:=f e he
 by_cases hL:L'=L
 ·obtain⟨o',es',ep',e',d',_⟩:=hn'
  exact⟨kk,L',o',es',ep',h1,h2,h3,hL▸e',d'⟩
 ·exact⟨kk,L',o,es,n,h1,h2,h3,(k.2 L' hL).trans h4,h5⟩
theorem Ex (S:c6 ae w ac env l ids σ h) (low:ac.get? env.locals=none) (hn:h.Ns env.locals m) (hn':h'.Ns env.locals m') (k:Heap.SameBut env.locals h h')
  (hm:∀(i:Nat) (id:Str) (v:V),env.scope.names[i]? =some (id,.local)→σ.loc[i]? =some (some v)→m' id=m id):c6 ae w ac env l ids σ h':=by
 refine⟨u5 S.hp S.lo.out low hn k,yy S.fr hn' k,S.lo.out,⟨m',hn',fun i id v e1 e2=>?_⟩,fun i id kd v e1 e2 e3=>?_⟩
 ·obtain⟨m0,hn0,q⟩:=S.lo.ns
  have em:m0 id=m id:=by
   obtain⟨o1,es1,p1,a1,d1,_,f1⟩:=hn0
   obtain⟨o2,es2,p2,a2,d2,_,f2⟩:=hn
   rw[a1]at a2;cases a2;rw[d1]at d2;cases d2
   rw[←f1, ←f2]
  obtain⟨val,h1,h2⟩:=q i id v e1 e2
  exact⟨val,by rw[hm i id v e1 e2, ←em,h1],h2.but (mc k) (vi hn)⟩
 ·obtain⟨c,val,h1,⟨o',e',d⟩,h3⟩:=S.lo.cells i id kd v e1 e2 e3
  refine⟨c,val,h1,⟨o',mc k _ _ (fun q=>?_) e',d⟩,h3.but (mc k) (vi hn)⟩
  obtain⟨o2,es,ep,e2,d2,_⟩:=hn
  rw[q,e2]at e';cases e';rw[d2]at d;cases d
theorem yX {C ec:Addr} {F:List Addr} {a:Addr} {mm:Ch} {st:Option Value} (x:f0 ac C ec ids F h a mm st) (hL:L∈F) (hn:h.Ns L m) (k:Heap.SameBut L h h'):f0 ac C ec ids F h' a mm st:=by
 obtain⟨o,vs,d,mA,t1,t2,he,hc,hd,hdi,⟨od,es,ep,n1,n2,n3⟩,q1,q2,q3,le,ld,di,dF,fl⟩:=x
 obtain⟨oL,eL,pL,l1,l2,_⟩:=hn
 have notL:∀{b:Addr} {p:Obj} {ws:Array Value},h.get? b=some p→p.data=.fields ws→b≠L:=fun e q z=>by
  rw[z,l1]at e;cases e;rw[l2]at q;cases q
 refine⟨o,vs,d,mA,t1,t2,(k.2 _ (notL he hd)).trans he,hc,hd,hdi,⟨od,es,ep,(k.2 _ fun z=>dF (by rw[z];exact hL)).trans n1,n2,n3⟩,q1,q2,q3,le,ld,di,dF,?_⟩
 cases st with
 |none=>exact fl
 |some v=>
  obtain⟨T,oT,ts,f1,f2,f3,f4,f5,f6,f7⟩:=fl
  exact⟨T,oT,ts,f1,f2,f3,(k.2 _ (notL f4 f6)).trans f4,f5,f6,f7⟩
theorem vO {C ec:Addr} {F ids':List Addr} {a:Addr} {mm:Ch} {st:Option Value} (x:f0 ac C ec ids F h a mm st) (g:cg h h') (hids:∀b∈ids',b∈ids∨h.get? b=none):f0 ac C ec ids' F h' a mm st:=by
 obtain⟨o,vs,d,mA,t1,t2,he,hc,hd,hdi,⟨od,es,ep,n1,n2,n3⟩,q1,q2,q3,le,ld,di,dF,fl⟩:=x
 refine⟨o,vs,d,mA,t1,t2,g.keep _ _ he,hc,hd,hdi,⟨od,es,ep,g.keep _ _ n1,n2,n3⟩,q1,q2,q3,le,ld,fun q=>(hids d q).elim di fun z=>by(rw[n1]at z;cases z),dF,?_⟩
 cases st with
 |none=>exact fl
 |some v=>
  obtain⟨T,oT,ts,f1,f2,f3,f4,f5,f6,f7⟩:=fl
  exact⟨T,oT,ts,f1,f2,f3,g.keep _ _ f4,f5,f6,f7⟩
end
section
variable {ae:Program} {w:World} {ac:Heap} {A A':Around} {env:Env} {cq l:List Env} {Φ:ci} {W:Nat} {C ec fI fE:Addr} {mg mb:Str→Option Value} {fa:Fn→Addr}
theorem BF {i:Nat} {id:Str} {p:Pos} {v:V} {ids:List Addr} {σ:St} {s:Shared} {Q:Value→Shared→Prop} {Ev:Value→Shared→Prop} (Cx:gb ac A env mg mb fa) (ok:ot env.scope i id=true) (S:c6 ae w ac env l ids σ s.heap) (hv:σ.loc[i]? =some (some v))
  (h:∀val,bL s.heap ids val v→Q val s):wpAny (model ae w) A' (eval (.Name id p) env) Q Ev s:=by
 refine yz ok fun k e hk hd hcd=>wpAny_Name ?_ hd
 have hkind:env.kindOf id=some k:=dg Cx.nodup e
 rcases hk with rfl|rfl|rfl
 ·exact S.lo.ns.elim fun m z=>(z.2 i id v e hv).elim fun val q=>wpAny_loadName_local Cx.kind hkind z.1 q.1 (h val q.2)
 ·exact(S.lo.cells i id _ v e (.inl rfl) hv).elim fun c z=>z.elim fun val q=>wpAny_loadName_cell Cx.kind hkind q.1 q.2.1 (h val q.2.2)
 ·exact(S.lo.cells i id _ v e (.inr rfl) hv).elim fun c z=>z.elim fun val q=>wpAny_loadName_free Cx.kind hkind q.1 q.2.1 (h val q.2.2) hcd
theorem vp {x:E} {y:Expr} {ids:List Addr} {σ:St} {s:Shared} {Q:Value→Shared→Prop} {Ev:Value→Shared→Prop} {Qv:V→St→Prop} {Yv:Ch→St→Prop} (Cx:gb ac A env mg mb fa) (hp:pV x=true) (hc:bw env.scope x y=true) (S:c6 ae w ac env l ids σ s.heap)
  (hs:bG (eE Φ x σ) Qv Yv)
  (h:∀v σ' val ids' h',Qv v σ'→cg s.heap h'→bx (frs l) ids s.heap ids' h'→(∀b∈ids',b∈ids∨s.heap.get? b=none)→c6 ae w ac env l ids' σ' h'→bL h' ids' val v→Q val {s with heap:=h'}):wpAny (model ae w) A' (eval y env) Q Ev s:=by
 cases x with
 |lst es=>cases es with
  |nil=>
   refine vx (P:=fun y=>wpAny (model ae w) A' (eval y env) Q Ev s) hc fun xs p hc=>af hc fun _ hc=>cI (P:=fun xs=>wpAny (model ae w) A' (eval (.List xs p) env) Q Ev s) hc ?_
   refine wpAny_List_spliced (Calls.spliced_nil ⟨Nat.zero_le _,?_⟩)
   have g:=cg.push s.heap {cls:=.type "list",data:=.seq ([]:List Value).toArray}
   have stn:bx (frs l) ids s.heap (ids++[s.heap.objs.size]) (s.heap.push {cls:=.type "list",data:=.seq ([]:List Value).toArray}):=gq g (cb _)
   exact h _ _ _ (ids++[s.heap.objs.size]) _ hs g stn (fun b hb=>(List.mem_append.mp hb).elim .inl fun q=>.inr (List.mem_singleton.mp q▸cb _)) (S.new g (cb _) ⟨_,0,Heap.get?_push_size _ rfl,.nil⟩) (.ref (S.hp.len▸List.getElem?_concat_length))
  |cons _ _=>exact bV hp
 |loc i=>exact cM (P:=fun y=>wpAny (model ae w) A' (eval y env) Q Ev s) hc fun n p hc=>A1 hs fun v hv hs=>BF Cx hc S hv fun val r=>h v σ val ids s.heap hs (.refl _) (.refl _ _ _) (fun b hb=>.inl hb) S r
 |_=>exact bV hp
end
end Mine
end
section
namespace Mine
open PySem PyProof.Rows
section
variable {ae:Program} {w:World} {ac:Heap} {A A':Around} {env:Env} {cq l:List Env} {Φ:ci} {W:Nat} {C ec fI fE:Addr} {mg mb:Str→Option Value} {fa:Fn→Addr}
theorem mJ {n at':Str} {p q:Pos} {a:Addr} {m:Str→Option Value} {v:Value} {N:Addr} {mN mA:Str→Option Value} {o:Obj} {vs:Array Value} {d:Addr} {s:Shared} {Q:Value→Shared→Prop} {Ev:Value→Shared→Prop} (hk:env.scope.kind=.function) (hkn:env.kindOf n=some .local) (hnd:(n==("__debug__":Str))=false)
  (hn:s.heap.Ns env.locals m) (hm:m n=some (.ref a)) (R:kj s.heap C N fI mN) (hat:at'∈bT) (he:s.heap.get? a=some o) (hc:o.cls=.ref C) (hd:o.data=.fields vs) (hdi:o.dict=some d) (hns:s.heap.Ns d mA) (hv:mA at'=some v) (hh:handedOut v=pure v)
  (h:Q v {s with toks:=s.toks+1}):wpAny (model ae w) A' (eval (.Attribute (.Name n p) at' q) env) Q Ev s:=by
 refine Attribute_name (wpAny_Name (wpAny_loadName_local hk hkn hn hm ?_) hnd)
 obtain⟨hp,g,dr,t,os⟩:=s
 exact Ec R hat he hc hd hdi hns hv hh h
theorem DW {P:Expr→Prop} {sc:Scope} {i:Nat} {x:E} {n:Str} {e:Expr} (h:GX sc i x n e=true)
  (f:∀y p1 q1 p2 q2 p3 q3 k2 tq2 k1 tq1,bN sc i n=true→pV x=true→bw sc x y=true→P (.Tuple [y,.Tuple [.Attribute (.Name n p1) ("code":Str) q1,.Attribute (.Name n p2) ("value":Str) q2,.Attribute (.Name n p3) ("errorcode":Str) q3] k2 tq2] k1 tq1)):P e:=
 lO h fun l k1 tq1 h=>qk (P:=fun l=>P (.Tuple l k1 tq1)) h fun y z h=>lO (P:=fun z=>P (.Tuple [y,z] k1 tq1)) h fun l k2 tq2 h=>mn (P:=fun l=>P (.Tuple [y,.Tuple l k2 tq2] k1 tq1)) h fun a1 a2 a3 h=>
  af h fun h1 h=>af h fun h2 h=>af h fun h3 h=>af h fun hl h=>af h fun hp hx=>
  wN (P:=fun a=>P (.Tuple [y,.Tuple [a,a2,a3] k2 tq2] k1 tq1)) h1 fun p1 q1=>wN (P:=fun a=>P (.Tuple [y,.Tuple [.Attribute (.Name n p1) ("code":Str) q1,a,a3] k2 tq2] k1 tq1)) h2 fun p2 q2=>wN (P:=fun a=>P (.Tuple [y,.Tuple [.Attribute (.Name n p1) ("code":Str) q1,.Attribute (.Name n p2) ("value":Str) q2,a] k2 tq2] k1 tq1)) h3 fun p3 q3=>
   f y p1 q1 p2 q2 p3 q3 k2 tq2 k1 tq1 hl hp hx
theorem Ef {m:R Fl} {i:Nat} {g:Ch→St→R Fl} {Q K:Fl→St→Prop} {Y Z:Ch→St→Prop} (h:bG (match m with
  |some (.error m,σ')=>match σ'.loc[i]? with
   |some Option.none=>g m σ'
   |_=>Option.none
  |r=>r) Q Y) (h1:∀fl σ',Q fl σ'→K fl σ') (h2:∀m σ',σ'.loc[i]? =some none→bG (g m σ') Q Y→Z m σ'):bG m K Z:=by
 cases m with
 |none=>exact h
 |some r=>
  obtain⟨r,σ'⟩:=r
  cases r with
  |ok fl=>exact h1 fl σ' h
  |error m=>
   have h:bG (match σ'.loc[i]? with|some Option.none=>g m σ'|_=>Option.none) Q Y:=h
   revert h
   generalize hv:σ'.loc[i]? =o
   intro h
   cases o with
   |none=>exact h.elim
   |some o=>cases o with
    |none=>exact h2 m σ' hv h
    |some v=>exact h.elim
theorem Gv {P:Stmt→Prop} {sc:Scope} {bs:Ss} {i:Nat} {x:E} {ps:Stmt} (h:yK sc (.tryR bs i x) ps=true)
  (f:∀b tp n y p1 q1 p2 q2 p3 q3 k2 tq2 k1 tq1 rp hp pos,cp sc ("Raised":Str)=true→bN sc i n=true→pV x=true→bw sc x y=true→f8 sc bs b=true→
   P (.Try b [.ExceptHandler (some (.Name ("Raised":Str) tp)) (some n) [.Return (some (.Tuple [y,.Tuple [.Attribute (.Name n p1) ("code":Str) q1,.Attribute (.Name n p2) ("value":Str) q2,.Attribute (.Name n p3) ("errorcode":Str) q3] k2 tq2] k1 tq1)) rp] hp] [] [] pos)):P ps:=
 F9 h fun b hs o fi pos h=>af h fun h0 h=>cI (P:=fun o=>P (.Try b hs o fi pos)) h0 (af h fun h0 h=>cI (P:=fun fi=>P (.Try b hs [] fi pos)) h0 (f9 (P:=fun hs=>P (.Try b hs [] [] pos)) h fun hd h=>zj (P:=fun hd=>P (.Try b [hd] [] [] pos)) h fun ty nm bd hp h=>
  fS (P:=fun ty=>P (.Try b [.ExceptHandler ty nm bd hp] [] [] pos)) h fun ty h=>fS (P:=fun nm=>P (.Try b [.ExceptHandler (some ty) nm bd hp] [] [] pos)) h fun n h=>cM (P:=fun ty=>P (.Try b [.ExceptHandler (some ty) (some n) bd hp] [] [] pos)) h fun t tp h=>
  f9 (P:=fun bd=>P (.Try b [.ExceptHandler (some (.Name t tp)) (some n) bd hp] [] [] pos)) h fun r h=>mu (P:=fun r=>P (.Try b [.ExceptHandler (some (.Name t tp)) (some n) [r] hp] [] [] pos)) h fun v rp h=>fS (P:=fun v=>P (.Try b [.ExceptHandler (some (.Name t tp)) (some n) [.Return v rp] hp] [] [] pos)) h fun v h=>
  cU (P:=fun t=>P (.Try b [.ExceptHandler (some (.Name t tp)) (some n) [.Return (some v) rp] hp] [] [] pos)) h fun h=>af h fun hg h=>af h fun hh hb=>
  DW (P:=fun v=>P (.Try b [.ExceptHandler (some (.Name ("Raised":Str) tp)) (some n) [.Return (some v) rp] hp] [] [] pos)) hh fun y p1 q1 p2 q2 p3 q3 k2 tq2 k1 tq1 h1 h2 h3=>f b tp n y p1 q1 p2 q2 p3 q3 k2 tq2 k1 tq1 rp hp pos hg h1 h2 h3 hb))
theorem vQ {x:E} {n:Str} {y:Expr} {p1 q1 p2 q2 p3 q3 tq2 tq1 rp:Pos} {k2 k1:Nat} {s:Shared} {ids:List Addr} {σ:St} {a:Addr} {m:Ch} {st0:Option Value} {mm:Str→Option Value} {Qv:V→St→Prop} {Yv:Ch→St→Prop} {Q:Flow→Shared→Prop} {Ev:Value→Shared→Prop}
  (X:ul ac mg mb C fI fE ec) (Cx:gb ac A env mg mb fa) (S5:c6 ae w ac env (env::cq) ids σ s.heap) (x5:f0 ac C ec ids (frs (env::cq)) s.heap a m st0) (hn5:s.heap.Ns env.locals mm) (hma:mm n=some (.ref a)) (hkn:env.kindOf n=some .local) (hnd:(n==("__debug__":Str))=false)
  (hpx:pV x=true) (hx:bw env.scope x y=true) (hs:bG (eE Φ x σ) Qv Yv)
  (fin:∀v σ'' ids6 h6 H8 T tk,Qv v σ''→bx (frs (env::cq)) ids s.heap ids6 h6→cg h6 H8→c6 ae w ac env (env::cq) ids6 σ'' H8→H8.Ns env.locals mm→bL H8 ids6 (.ref T) (.tup [v,.tup [.int 1,.str m,.tup [.str "NONE".toList]]])→Q (.ret (.ref T)) {s with heap:=H8,toks:=tk}):
  wpAny (model ae w) A' (execs [.Return (some (.Tuple [y,.Tuple [.Attribute (.Name n p1) "code" q1,.Attribute (.Name n p2) "value" q2,.Attribute (.Name n p3) "errorcode" q3] k2 tq2] k1 tq1)) rp] env) Q Ev s:=by
 refine wpAny_execs_cons (wpAny_Return_some (wpAny_Tuple_spliced ?_))
 have hpl:backTo tq1 (starEach [y,.Tuple [.Attribute (.Name n p1) "code" q1,.Attribute (.Name n p2) "value" q2,.Attribute (.Name n p3) "errorcode" q3] k2 tq2] env)=
   [(false,eval y env),(false,eval (.Tuple [.Attribute (.Name n p1) "code" q1,.Attribute (.Name n p2) "value" q2,.Attribute (.Name n p3) "errorcode" q3] k2 tq2) env)]:=by
  unfold backTo
  rw[oQ (na hx)]
  rfl
 rw[hpl]
 refine Calls.spliced_cons ?_
 refine vp (s:=s) Cx hpx hx S5 hs fun v σ'' val ids6 h6 hv g6 st6 hids6 S6 r6=>?_
 refine Calls.spliced_cons (wpAny_Tuple_spliced ?_)
 have x6:=vO x5 g6 hids6
 obtain⟨N,mN,R0⟩:=X.cls
 obtain⟨o,vs,d,mA,t1,t2,he,hc,hd,hdi,hns,v1,v2,v3,le,ld,di,dF,_⟩:=id x6
 have R6:=R0.keeps S6.hp.base
 have hn6:=hn5.keeps g6.keep
 show wpAny _ _ (spliced [(false,eval (.Attribute (.Name n p1) "code" q1) env),(false,eval (.Attribute (.Name n p2) "value" q2) env),(false,eval (.Attribute (.Name n p3) "errorcode" q3) env)]) _ _ _
 refine Calls.spliced_cons (mJ Cx.kind hkn hnd hn6 hma R6 (by simp[bT]) he hc hd hdi hns v1 rfl ?_)
 refine Calls.spliced_cons (mJ Cx.kind hkn hnd hn6 hma R6 (by simp[bT]) he hc hd hdi hns v2 rfl ?_)
 refine Calls.spliced_cons (mJ Cx.kind hkn hnd hn6 hma R6 (by simp[bT]) he hc hd hdi hns v3 rfl ?_)
 refine Calls.spliced_nil ⟨by simp[sizeLine_eq],?_⟩
 refine Calls.spliced_nil ⟨by simp[sizeLine_eq],?_⟩
 obtain⟨H7,hH7⟩:∃H7,H7=h6.push {cls:=.type "tuple",data:=.seq [Value.int 1 t1,.str (sx m) t2,.ref ec].toArray}:=⟨_,rfl⟩
 obtain⟨H8,hH8⟩:∃H8,H8=H7.push {cls:=.type "tuple",data:=.seq [val,.ref h6.objs.size].toArray}:=⟨_,rfl⟩
 have g7:cg h6 H7:=hH7▸cg.push _ _
 have g8:cg H7 H8:=hH8▸cg.push _ _
 have e7:H7.get? h6.objs.size=some (kW [Value.int 1 t1,.str (sx m) t2,.ref ec].toArray 0):=hH7▸Heap.get?_push_size _ rfl
 have e8:H8.get? H7.objs.size=some (kW [val,.ref h6.objs.size].toArray 0):=hH8▸Heap.get?_push_size _ rfl
 have S8:=(S6.grow g7).grow g8
 obtain⟨tt,nn,eT⟩:=X.ecT
 have g68:=g7.trans g8
 have r8:bL H8 ids6 (.ref H7.objs.size) (.tup [v,.tup [.int 1,.str m,.tup [.str "NONE".toList]]]):=
  .tup e8 (.cons (r6.step (F:=frs (env::cq)) (g68.step) S6.noTup) (.cons (.tup (g8.keep _ _ e7) (.cons (.int _ _) (.cons (.str _ _) (.cons (.tup (S8.hp.base _ _ eT) (.cons (.str _ _) .nil)) .nil)))) .nil))
 have key:=fin v σ'' ids6 h6 H8 H7.objs.size (s.toks+1+1+1) hv st6 g68 S8 (hn6.keeps g68.keep) r8
 rw[hH8,hH7]at key
 exact key
theorem zX (X:ul ac mg mb C fI fE ec) (Cx:gb ac A env mg mb fa) (hfr:A.frames=some (env::cq)) (hf:env.frame=some env.locals) (hL:env.locals∈frs (env::cq)):
  EW ae w ac A env (env::cq) Φ W (XL ac C ec (frs (env::cq)) env.locals):=by
 intro bs i x ps h hS σ ids s Q Ev S hs
 refine Gv (P:=fun ps=>wpAny (model ae w) A (exec ps env) Q Ev s) h fun b tp n y p1 q1 p2 q2 p3 q3 k2 tq2 k1 tq1 rp hp pos hg hlo hpx hx hb=>?_
 refine wpAny_Try_except ?_
 refine hS _ hb σ ids s _ _ S (Ef hs (fun fl σ' hs=>?_) fun m σ' hloc hs=>?_)
 ·intro f ids' h' tk st S' fr
  cases fr with
  |next=>exact wpAny_execs_nil (hs .next ids' h' tk st S' .next)
  |brk=>exact hs .brk ids' h' tk st S' .brk
  |ret r=>exact hs _ ids' h' tk st S' (.ret r)
 ·intro xv ids' h' tk st S' hX
  obtain⟨a,st0,rfl,xe,hst⟩:=hX
  refine kP (s:={s with heap:=h',toks:=tk}) hfr S'.fr S'.hp.base hf xe hst fun h2 c2 x2=>?_
  refine gi (s:={s with heap:=h2,toks:=tk}) x2 fun h3 c3 x3=>?_
  have S3:=(S'.calm c2).calm c3
  obtain⟨hgk,hgd⟩:=gm hg
  generalize hbd:(Stmt.Return (some (.Tuple [y,.Tuple [.Attribute (.Name n p1) "code" q1,.Attribute (.Name n p2) "value" q2,.Attribute (.Name n p3) "errorcode" q3] k2 tq2] k1 tq1)) rp)=bd
  refine wpAny_handleBy_cons (codeAny_handlers_test ?_) (by intro q;cases q)
  refine Calls.Name_function_global Cx.kind hgk (Calls.loadGlobal_global (Cx.glob▸Cx.g.keeps S3.hp.base) (show mg "Raised"=some (.ref C) from X.gR) ?_) hgd
  obtain⟨N,mN,R0⟩:=X.cls
  have R3:=R0.keeps S3.hp.base
  obtain⟨nm,q,bs',sn,sub,ab,col,dd,k0,k1',k2',k3,k5,hC⟩:=R3.obj
  obtain⟨o,vs,d,mA,t1,t2,he,hc,hd,hdi,hns,v1,v2,v3,le,ld,di,dF,_⟩:=id x3
  refine wpAny_excMatches_sub_self hC he hc (by simp) (codeAny_handlers_suite_as ?_)
  refine gi (s:={s with heap:=h3,toks:=tk}) x3 fun h4 c4 x4=>?_
  have S4:=S3.calm c4
  obtain⟨hni,hkn⟩:=iX Cx hlo
  have hnd:(n==("__debug__":Str))=false:=af hlo fun _ h=>(Bool.not_eq_true' _).mp h
  obtain⟨m4,hn4,_⟩:=S4.lo.ns
  refine wpAny_storeName_local hkn hn4 (fun h5 hn5 sb5=>?_) (mR Cx)
  have S5:=Ex S4 Cx.low hn4 hn5 sb5 fun j id v e1 e2=>by
   have:id≠n:=fun q=>by
    subst q
    have:=qR Cx.nodup hni e1
    subst this
    rw[hloc]at e2;cases e2
   simp[this]
  have x5:=yX x4 hL hn4 sb5
  subst hbd
  refine vQ (s:={s with heap:=h5,toks:=_}) X Cx S5 x5 hn5 (by simp) hkn hnd hpx hx (az hs) fun v σ'' ids6 h6 H8 T tk8 hv st6 g68 S8 hn8 r8=>?_
  have key:wpAny (model ae w) A (do bindName env n .none;unbindBehindTheSuite env n hp) (fun _ FO=>Q (.ret (.ref T)) FO) Ev {s with heap:=H8,toks:=tk8}:=by
   refine wpAny_nameGoes hkn hn8 (mR Cx) fun h9 m9 hn9 sb9=>?_
   refine hv _ ids6 h9 _ ?_ ⟨u5 S8.hp S8.lo.out Cx.low hn8 sb9,yy S8.fr hn9 sb9⟩ (.ret (r8.but (mc sb9) (vi hn8)))
   have l1:=st.trans ((c2.step (ids:=ids')).l env.locals)
   have l2:=l1.trans ((c3.step (ids:=ids')).l env.locals)
   have l3:=l2.trans ((c4.step (ids:=ids')).l env.locals)
   have l5:=l3.trans (mD (F:=frs (env::cq)) (ids:=ids') sb5 (let ⟨o,_,_,e,_⟩:=hn5;⟨o,e⟩))
   have l6:=l5.trans (st6.l env.locals)
   have l8:=l6.trans ((g68.step (ids:=ids6)).l env.locals)
   exact l8.trans (mD (F:=frs (env::cq)) (ids:=ids6) sb9 (let ⟨o,_,_,e,_⟩:=hn9;⟨o,e⟩))
  exact key
end
end Mine
end
section
namespace Mine
open PySem PyProof.Rows
section
variable {h:Heap} {ids t:List Addr}
theorem bL.low {a:Value} {v:V} (r:bL h ids a v):ii ids.length v=true:=
 r.rec (motive_1:=fun _ v _=>ii ids.length v=true) (motive_2:=fun _ vs _=>iD ids.length vs=true) rfl (fun _=>rfl) (fun _ _=>rfl) (fun _ _=>rfl) (fun _ _ r=>r) (fun e=>decide_eq_true (List.getElem?_eq_some_iff.mp e).1) rfl fun _ _ r rs=>mv r rs
theorem bo.low {as:List Value} {vs:List V} (r:bo h ids as vs):iD ids.length vs=true:=
 r.rec (motive_1:=fun _ v _=>ii ids.length v=true) (motive_2:=fun _ vs _=>iD ids.length vs=true) rfl (fun _=>rfl) (fun _ _=>rfl) (fun _ _=>rfl) (fun _ _ r=>r) (fun e=>decide_eq_true (List.getElem?_eq_some_iff.mp e).1) rfl fun _ _ r rs=>mv r rs
theorem xQ {i:Nat} {a:Addr} (e:(ids++t)[i]? =some a) (hl:decide (i<ids.length)=true):ids[i]? =some a:=(List.getElem?_append_left (of_decide_eq_true hl)).symm.trans e
theorem bL.cut {a:Value} {v:V} (r:bL h (ids++t) a v):ii ids.length v=true→bL h ids a v:=
 r.rec (motive_1:=fun a v _=>ii ids.length v=true→bL h ids a v) (motive_2:=fun as vs _=>iD ids.length vs=true→bo h ids as vs) (fun _=>.none) (fun b _=>.bool b) (fun i t _=>.int i t) (fun l t _=>.str l t) (fun e _ r hl=>.tup e (r hl)) (fun e hl=>.ref (xQ e hl)) (fun _=>.nil) fun _ _ r rs hl=>af hl fun h1 h2=>.cons (r h1) (rs h2)
theorem bo.cut {as:List Value} {vs:List V} (r:bo h (ids++t) as vs):iD ids.length vs=true→bo h ids as vs:=
 r.rec (motive_1:=fun a v _=>ii ids.length v=true→bL h ids a v) (motive_2:=fun as vs _=>iD ids.length vs=true→bo h ids as vs) (fun _=>.none) (fun b _=>.bool b) (fun i t _=>.int i t) (fun l t _=>.str l t) (fun e _ r hl=>.tup e (r hl)) (fun e hl=>.ref (xQ e hl)) (fun _=>.nil) fun _ _ r rs hl=>af hl fun h1 h2=>.cons (r h1) (rs h2)
end
theorem fR.cut {h h0:Heap} {ids t:List Addr} {as as0:List (Str×Value)} {vs:List (Ch×V)} (r:fR h (ids++t) as vs) (r0:fR h0 ids as0 vs):fR h ids as vs:=by
 induction r generalizing as0 with
 |nil=>exact .nil
 |cons r _ ih=>cases r0 with|cons q qs=>exact .cons (r.cut q.low) (ih qs)
section
variable {ae:Program} {w:World} {ac:Heap} {ids t:List Addr} {h h0:Heap} {H H':List O} {l:List Env}
theorem cQ.cut (R:cQ ae w ac (ids++t) H' h) (R0:cQ ae w ac ids H h0) (e:H'.take H.length=H):cQ ae w ac ids H h:=by
 refine⟨R0.len,R0.nodup,fun i a o e1 e2=>?_,R0.above,R.base,R.sys⟩
 have hi:i<H.length:=(List.getElem?_eq_some_iff.mp e2).1
 have e2':H'[i]? =some o:=by
  rw[←e,List.getElem?_take,if_pos hi]at e2;exact e2
 have r:=R.obj i a o (by rw[List.getElem?_append_left (R0.len▸hi)];exact e1) e2'
 have r0:=R0.obj i a o e1 e2
 cases o with
 |list vs=>
  obtain⟨items,n,q,z⟩:=r
  obtain⟨_,_,_,z0⟩:=r0
  exact⟨items,n,q,z.cut z0.low⟩
 |dict es=>
  obtain⟨kvs,q,z⟩:=r
  obtain⟨_,_,z0⟩:=r0
  exact⟨kvs,q,z.cut z0⟩
theorem j9.sub {ids':List Addr} (f:j9 ac ids' h l) (hs:∀a∈ids,a∈ids'):j9 ac ids h l:=fun e he=>by
 obtain⟨kk,L,o,es,n,h1,h2,h3,h4,h5⟩:=f e he
 exact⟨kk,L,o,es,n,h1,h2,fun q=>h3 (hs _ q),h4,h5⟩
theorem f0.sub {C ec:Addr} {ids ids' F F':List Addr} {a:Addr} {m:Ch} {st:Option Value} (x:f0 ac C ec ids' F' h a m st) (hs:∀a∈ids,a∈ids') (hF:∀a∈F,a∈F'):f0 ac C ec ids F h a m st:=by
 obtain⟨o,vs,d,mA,t1,t2,he,hc,hd,hdi,hns,q1,q2,q3,le,ld,di,dF,fl⟩:=x
 exact⟨o,vs,d,mA,t1,t2,he,hc,hd,hdi,hns,q1,q2,q3,le,ld,fun q=>di (hs _ q),fun q=>dF (hF _ q),fl⟩
theorem Cd {F ids':List Addr} {L:Addr} {bP h':Heap} (g:cg h0 bP) (hL:h0.get? L=none) (x:cf (L::F) L ids bP ids' h'):bx F ids h0 ids' h':=by
 have d7:∀{a:Addr},bP.get? a=none→h0.get? a=none:=fun {a} e=>d7 fun o z=>by have:=g.keep _ _ z;rw[e]at this;cases this
 refine⟨?_,(gh.of_keeps (F:=F) (M:=ids) g.keep).trans x.keep (fun a ha=>?_) fun a ha=>?_⟩
 ·obtain⟨t,e,ht⟩:=x.pre
  exact⟨t,e,fun a ha=>d7 (ht a ha)⟩
 ·exact(List.mem_cons.mp ha).elim (fun q=>.inr (q▸hL)) .inl
 ·exact(List.mem_cons.mp ha).elim (fun q=>.inr (q▸hL)) .inl
end
noncomputable def lm:List Str→List (Str×NameKind)→Bool
 |[],_=>true
 |n::ns,l=>dM l fun m ms=>m==(n,NameKind.local)&&lm ns ms
inductive yj (ac:Heap) (a:Addr) (F:eK):Prop
 |mk (names:List Str) (body:List Stmt) (sc:Scope) (Dv:List Value):lq ac a names body sc Dv→f8 sc F.body body=true→F.params=names.length→lm names sc.names=true→(sc.names.map (·.1)).Nodup→F.dflt.length≤F.params→(∀h ids,bo h ids Dv F.dflt)→yj ac a F
theorem qQ:∀{names:List Str} {ms:List (Str×NameKind)},lm names ms=true→∀{i:Nat} {n:Str},names[i]? =some n→ms[i]? =some (n,.local)
 |[],_,_,_,_,e=>nomatch e
 |_::ns,_,h,0,_,e=>cV (P:=fun ms=>ms[0]? =some (_,NameKind.local)) h fun _ ms h=>af h fun h1 _=>congrArg some ((eq_of_beq h1).trans (congrArg (·,NameKind.local) (Option.some.inj e)))
 |_::ns,_,h,i+1,n,e=>cV (P:=fun ms=>ms[i+1]? =some (n,NameKind.local)) h fun _ ms h=>af h fun _ h=>qQ (names:=ns) (ms:=ms) h (i:=i) e
structure Fw (A:Around) (l:List Env) (n:Nat):Prop where
 hd:A.handled=none
 fr:A.frames=some l
 depth:A.depth+n+3<recursionLimit
 units:A.units+3*n+ji+10<cLine
theorem Fw.deeper {A:Around} {l:List Env} {n:Nat} (x:Fw A l (n+1)) (env:Env):Fw (A.deeper env) (env::l) n:=by
 refine⟨x.hd,?_,?_,?_⟩
 ·show A.frames.map (env:: ·)=_;rw[x.fr];rfl
 ·show A.depth+1+n+3<recursionLimit;have:=x.depth;omega
 ·show A.units+3+3*n+ji+10<cLine;have:=x.units;omega
structure wI (ac:Heap) (mg mb:Str→Option Value) (fa:Fn→Addr) (C fI fE ec:Addr):Prop where
 exc:ul ac mg mb C fI fE ec
 fnm:∀f,mg (ju f)=some (.ref (fa f))
 fob:∀f,∃o fd,ac.get? (fa f)=some o∧o.data=.func fd
 bl:mg "len"=none∧mg "ord"=none∧mg "chr"=none∧mg "tuple"=none
 bm:mb "len"=some (.builtin "len")∧mb "ord"=some (.builtin "ord")∧mb "chr"=some (.builtin "chr")∧mb "tuple"=some (.type "tuple")
 funs:∀f F,fn f=some F→yj ac (fa f) F
section
variable {ae:Program} {w:World} {ac:Heap} {mg mb:Str→Option Value} {fa:Fn→Addr} {C fI fE ec:Addr}
theorem wI.ctx (B:wI ac mg mb fa C fI fE ec) {A:Around} {l:List Env} {n:Nat} {env:Env} (x:Fw A l n) (hk:env.scope.kind=.function) (nd:(env.scope.names.map (·.1)).Nodup) (low:ac.get? env.locals=none) (hg:env.globals=mainGlobals) (hb:env.builtins=builtinsNs):gb ac A env mg mb fa:=
 ⟨x.hd,hk,nd,low,hg,hb,B.exc.g,B.exc.b,B.fnm,B.fob,B.bl,B.bm,B.exc.nolimit,by have:=x.units;omega⟩
theorem dO.mono {A:Around} {l:List Env} {Φ:ci} {X Y:List Addr→Heap→Value→Ch→Prop} (h:dO ae w ac A l fa Φ X) (hxy:∀ids h x m,X ids h x m→Y ids h x m):dO ae w ac A l fa Φ Y:=by
 intro f vs vals s ids H Q Ev R f' ra hs
 refine h f vs vals s ids H Q Ev R f' ra ?_
 revert hs
 generalize Φ f vs H=r
 intro hs
 cases r with
 |none=>exact hs
 |some r=>
  obtain⟨r,H'⟩:=r
  cases r with
  |ok v=>exact hs
  |error m=>exact fun x ids' h' tk a b c d=>hs x ids' h' tk a b c (hxy _ _ _ _ d)
theorem tg {k:Nat} {v:V}:∀{us:List V} {i:Nat},(us.map some++List.replicate k none)[i]? =some (some v)→us[i]? =some v
 |[],i,h=>by
  have h:(List.replicate k (none:Option V))[i]? =some (some v):=h
  rw[List.getElem?_replicate]at h
  exact mH h fun _ h=>nomatch h
 |_::_,0,h=>Option.some.inj h
 |_::us,i+1,h=>tg (us:=us) (i:=i) h
theorem zl {names:List Str} {us:List V} {vals:List Value} {k:Nat} {env:Env} {l:List Env} {ids:List Addr} {H:List O} {bP:Heap} {m:Str→Option Value} (R:cQ ae w ac ids H bP) (ff:j9 ac ids bP (env::l)) (out:env.locals∉ids) (hn:bP.Ns env.locals m) (hs:lm names env.scope.names=true)
  (hl:us.length=names.length) (rf:bo bP ids vals us) (hm:∀(i:Nat) (n:Str) (v:Value),names[i]? =some n→vals[i]? =some v→m n=some v):c6 ae w ac env (env::l) ids ⟨us.map some++List.replicate k none,H⟩ bP:=by
 have at_:∀{i:Nat} {v:V},(us.map some++List.replicate k none)[i]? =some (some v)→∃n,names[i]? =some n∧env.scope.names[i]? =some (n,.local)∧us[i]? =some v:=fun {i v} h=>
  have hi:i<names.length:=hl▸(List.getElem?_eq_some_iff.mp (tg h)).1
  ⟨_,List.getElem?_eq_getElem hi,qQ hs (List.getElem?_eq_getElem hi),tg h⟩
 refine⟨R,ff,out,⟨m,hn,fun i id v q1 q2=>(at_ q2).elim fun n z=>(rf.get z.2.2).elim fun a y=>⟨a,?_,y.2⟩⟩,fun i id kd v q1 q2 q3=>(at_ q3).elim fun n z=>?_⟩
 ·rw[show id=n from congrArg Prod.fst (Option.some.inj (q1.symm.trans z.2.1))];exact hm i n a z.1 y.1
 ·have:=congrArg Prod.snd (Option.some.inj (q1.symm.trans z.2.1))
  exact q2.elim (fun q=>by cases q.symm.trans this) fun q=>by cases q.symm.trans this
noncomputable def vf:Fl→V
 | .ret v=>v
 |_=>.none
open Classical in
theorem DU {F:eK} {Φ:ci} {W:Nat} {vs:List V} {H:List O} {Q:V→List O→Prop} {X:Ch→List O→Prop} {G:Prop} (hs:uS (aT F Φ W vs H) Q X)
  (k:(F.full vs).length=F.params→bG (bF Φ W F.body ⟨(F.full vs).map some++List.replicate (F.slots-F.params) none,H⟩) (fun f σ=>Q (vf f) σ.hp∨(σ.hp.take H.length=H∧ii H.length (vf f)=true)∧Q (vf f) H) (fun m σ=>X m σ.hp∨σ.hp.take H.length=H∧X m H)→G):G:=by
 unfold aT at hs
 have ifC:∀{c:Prop} [Decidable c] {m:Option (Except Ch V×List O)} {G:Prop},uS (if c then m else none) Q X→(c→uS m Q X→G)→G:=fun {c} _ {m G} h f=>by
  by_cases hc:c
  ·rw[if_pos hc]at h;exact f hc h
  ·rw[if_neg hc]at h;exact h.elim
 refine ifC hs fun hl hs=>k hl ?_
 revert hs
 generalize bF Φ W F.body ⟨(F.full vs).map some++List.replicate (F.slots-F.params) none,H⟩=r
 intro hs
 cases r with
 |none=>exact hs
 |some r=>
  obtain⟨r,σ⟩:=r
  cases r with
  |ok f=>
   have hs:uS (if F.pure=true then(if σ.hp.take H.length=H∧ii H.length (vf f)=true then some (Except.ok (vf f),H)else none)else some (Except.ok (vf f),σ.hp)) Q X:=by cases f<;>exact hs
   by_cases hp:F.pure=true
   ·rw[if_pos hp]at hs;exact ifC hs fun hc hs=>.inr ⟨hc,hs⟩
   ·rw[if_neg hp]at hs;exact .inl hs
  |error m=>
   have hs:uS (if F.pure=true then(if σ.hp.take H.length=H then some (Except.error m,H)else none)else some (Except.error m,σ.hp)) Q X:=hs
   by_cases hp:F.pure=true
   ·rw[if_pos hp]at hs;exact ifC hs fun hc hs=>.inr ⟨hc,hs⟩
   ·rw[if_neg hp]at hs;exact .inl hs
theorem BC {F:eK} {vs:List V} {names:List Str} {Dv:List Value} (hl:(F.full vs).length=F.params) (hD:Dv.length=F.dflt.length) (hp:F.params=names.length):vs.length≤names.length∧names.length≤vs.length+Dv.length∧Dv.length+vs.length-names.length=F.dflt.length+vs.length-F.params:=by
 have hfl:vs.length+(F.dflt.length-(F.dflt.length+vs.length-F.params))=F.params:=Eq.trans (by rw[eK.full,List.length_append,List.length_drop]) hl
 rw[hD, ←hp]
 exact⟨Nat.le.intro hfl,Nat.le_trans (Nat.le_of_eq hfl.symm) (Nat.add_le_add_left (Nat.sub_le ..) _),rfl⟩
theorem xu (B:wI ac mg mb fa C fI fE ec) (W:Nat):∀(n:Nat) (A:Around) (l:List Env),Fw A l n→dO ae w ac A l fa (ay W n) (XO ac C ec (frs l))
 |0,A,l,hA=>fun f vs vals s ids H Q Ev R ff ra hs=>hs.elim
 |n+1,A,l,hA=>fun f vs vals s ids H Q Ev R ff ra hs=>by
  have hs:uS (match fn f with|some F=>aT F (ay W n) W vs H|none=>none) _ _:=hs
  revert hs
  generalize eF:fn f=oF
  intro hs
  cases oF with
  |none=>exact hs.elim
  |some F=>
   obtain⟨names,body,sc,Dv,FA,chk,hpar,hslots,ndS,hdl,rD⟩:=B.funs f F eF
   refine DU hs fun hfull hs=>?_
   have hlen:vals.length=vs.length:=ra.length
   have hDl:Dv.length=F.dflt.length:=(rD s.heap ids).length
   have fl:=BC hfull hDl hpar
   refine td FA R.base B.exc.nolimit (Nat.lt_of_le_of_lt (Nat.le_add_right _ (n+1+3)) hA.depth) (by rw[hlen];exact fl.1) (by rw[hDl, ←hpar];exact hdl) (by rw[hlen];exact fl.2.1) fun env bP tk m e1 e2 e3 e4 e5 hn hm g=>?_
   have hL0:s.heap.get? s.heap.objs.size=none:=cb _
   have dead:∀{o},s.heap.get? s.heap.objs.size≠some o:=fun e=>by rw[hL0]at e;cases e
   have lowL:ac.get? s.heap.objs.size=none:=d7 fun o z=>dead (R.base _ _ z)
   have outL:s.heap.objs.size∉ids:=fun q=>(R.data q).elim (fun z=>z.elim fun _ z=>z.elim fun _ z=>dead z) fun z=>z.elim fun _ z=>z.elim fun _ z=>z.elim fun _ z=>dead z.1
   have hkd:env.scope.kind=.function:=e1▸FA.kind
   have ff0:j9 ac ids bP (env::l):=fun e he=>(List.mem_cons.mp he).elim (fun q=>q▸(by
     obtain⟨o,es,ep,q1,q2,_⟩:=hn
     exact⟨by rw[hkd];decide,_,o,es,ep,e5,lowL,outL,q1,q2⟩)) fun he=>(ff.step (g.step (F:=frs l))) e he
   have rfull:bo bP ids (vals++Dv.drop (Dv.length+vals.length-names.length)) (F.full vs):=by
    rw[hlen,fl.2.2]
    exact bo.append ((rD bP ids).drop _) (ra.step (g.step (F:=frs l)) (Mine.noTup R ff))
   have S0:c6 ae w ac env (env::l) ids ⟨(F.full vs).map some++List.replicate (F.slots-F.params) none,H⟩ bP:=zl (R.grow ff g) ff0 (e2▸outL) (e2▸hn) (e1▸hslots) (hfull.trans hpar) rfull hm
   have hA':=hA.deeper env
   have Cx:gb ac (A.deeper env) env mg mb fa:=B.ctx hA' hkd (e1▸ndS) (e2▸lowL) e3 e4
   have hC:dO ae w ac (A.deeper env) (env::l) fa (ay W n) (XL ac C ec (frs (env::l)) env.locals):=(xu B W n _ _ hA').mono fun _ _ _ _=>XO.l
   have hfr:env.frame=some env.locals:=e5.trans (congrArg some e2.symm)
   have hLm:env.locals∈frs (env::l):=List.mem_filterMap.mpr ⟨env,.head _,hfr⟩
   have hfrs:frs (env::l)=s.heap.objs.size::frs l:=by unfold frs;rw[List.filterMap_cons,e5]
   have finS:∀{ids':List Addr} {h':Heap},cf (frs (env::l)) env.locals ids bP ids' h'→bx (frs l) ids s.heap ids' h':=fun {ids' h'} x=>by
    rw[hfrs,e2]at x;exact Cd g hL0 x
   have tailF:∀{ids':List Addr} {h':Heap},j9 ac ids' h' (env::l)→j9 ac ids' h' l:=fun f e he=>f e (.tail _ he)
   have short:∀{ids':List Addr} {h':Heap},bx (frs l) ids s.heap ids' h'→bx (frs l) ids s.heap ids h':=fun x=>⟨⟨[],(List.append_nil _).symm,fun _ q=>nomatch q⟩,x.keep⟩
   refine EL (W:=W) Cx hC hLm (u7 hA'.fr hfr) (uP B.exc Cx (Nat.lt_of_le_of_lt (by omega) hA'.depth) _) (zX B.exc Cx hA'.fr hfr hLm) F.body _ (by rw[e1];exact chk) _ ids _ _ _ S0 (hs.mono (fun fl σ' hs=>?_) fun mm σ' hs=>?_)
   ·intro f' ids' h' tk' st S' fr
    have fin:∀{val:Value},bL h' ids' val (vf fl)→cQ ae w ac ids' σ'.hp h'→j9 ac ids' h' (env::l)→Q val {s with heap:=h',toks:=tk'}:=fun {val} hv hR1 hR2=>hs.elim (fun hs=>hs _ ids' h' tk' (finS st) hR1 (tailF hR2) hv) fun hs=>by
     obtain⟨t,e,_⟩:=st.pre
     rw[e]at hR1 hR2 hv
     exact hs.2 _ ids h' tk' (short (finS st)) (hR1.cut R hs.1.1) ((tailF hR2).sub fun a ha=>List.mem_append_left _ ha) (hv.cut (R.len▸hs.1.2))
    cases fr with
    |next=>exact fin .none S'.hp S'.fr
    |brk=>exact fin .none S'.hp S'.fr
    |ret r=>exact fin r S'.1 S'.2
   ·intro xv ids' h' tk' st S' hX
    refine hX.elim fun a z=>z.elim fun st0 z=>?_
    rw[z.1]
    unfold leaving
    refine wpAny_bind (kP (s:={s with heap:=h',toks:=tk'}) hA'.fr S'.fr S'.hp.base hfr z.2.1 z.2.2 fun h2 c2 x2=>gi (s:={s with heap:=h2,toks:=tk'}) x2 fun h3 c3 x3=>?_)
    have S3:=(S'.calm c2).calm c3
    have st3:=finS ((st.trans ((c2.step (ids:=ids')).l env.locals)).trans ((c3.step (ids:=ids')).l env.locals))
    have subF:∀a∈frs l,a∈frs (env::l):=fun a ha=>hfrs▸.tail _ ha
    refine hs.elim (fun hs=>hs _ ids' h3 tk' st3 S3.hp (tailF S3.fr) ⟨a,rfl,x3.sub (fun _ q=>q) subF⟩) fun hs=>?_
    obtain⟨t,e,_⟩:=st.pre
    have subI:∀a∈ids,a∈ids':=fun a ha=>e▸List.mem_append_left _ ha
    exact hs.2 _ ids h3 tk' (short st3) ((e▸S3.hp).cut R hs.1) ((tailF S3.fr).sub subI) ⟨a,rfl,x3.sub subI subF⟩
end
end Mine
end
section
namespace Mine
open PySem PyProof.Rows
section
variable {α:Type} {G:Prop}
theorem lV {o:Option α} {k:α→Bool} (h:isSome o k=true) (f:∀a,o=some a→k a=true→G):G:=fS (P:=fun x=>(∀a,x=some a→k a=true→G)→G) h (fun a h f=>f a rfl h) f
noncomputable def uX (d:Data) (k:Array Value→Bool):Bool:=match d with| .fields vs=>k vs|_=>false
theorem Ei {d:Data} {k:Array Value→Bool} (h:uX d k=true) (f:∀vs,d=.fields vs→k vs=true→G):G:=by
 cases d with
 |fields vs=>exact f vs rfl h
 |_=>exact bV h
noncomputable def Az (d:Data) (k:FuncData→Bool):Bool:=match d with| .func vs=>k vs|_=>false
theorem H9 {d:Data} {k:FuncData→Bool} (h:Az d k=true) (f:∀vs,d=.func vs→k vs=true→G):G:=by
 cases d with
 |func vs=>exact f vs rfl h
 |_=>exact bV h
noncomputable def EK (d:Data) (k:ClassData→Bool):Bool:=match d with| .cls vs=>k vs|_=>false
theorem IM {d:Data} {k:ClassData→Bool} (h:EK d k=true) (f:∀vs,d=.cls vs→k vs=true→G):G:=by
 cases d with
 |cls vs=>exact f vs rfl h
 |_=>exact bV h
noncomputable def zZ (d:Data) (k:Array Value→Bool):Bool:=match d with| .seq vs _=>k vs|_=>false
theorem G3 {d:Data} {k:Array Value→Bool} (h:zZ d k=true) (f:∀vs n,d=.seq vs n→k vs=true→G):G:=by
 cases d with
 |seq vs n=>exact f vs n rfl h
 |_=>exact bV h
noncomputable def rg (v:Value) (k:Addr→Bool):Bool:=match v with| .ref a=>k a|_=>false
theorem Ax {v:Value} {k:Addr→Bool} (h:rg v k=true) (f:∀a,v=.ref a→k a=true→G):G:=by
 cases v with
 |ref a=>exact f a rfl h
 |_=>exact bV h
noncomputable def vP (v:Value) (x:Str):Bool:=match v with| .str y _=>y==x|_=>false
theorem textE {v:Value} {x:Str} (h:vP v x=true) (f:∀t,v=.str x t→G):G:=by
 cases v with
 |str y t=>exact f t (eq_of_beq (a:=y) (b:=x) h▸rfl)
 |_=>exact bV h
end
noncomputable def EZ (h:Heap) (cd:Value) (q:Str):Bool:=rg cd fun c=>isSome (h.get? c) fun o=>uX o.data fun vs=>isSome vs[1]? fun v=>vP v q
theorem tP {h:Heap} {cd:Value} {q:Str} (e:EZ h cd q=true):h.CodeRec cd q:=
 Ax e fun c e1 e=>lV e fun o e2 e=>Ei e fun vs e3 e=>lV e fun v e4 e=>textE e fun t e5=>⟨c,o,vs,t,e1,e2,e3,e5▸e4⟩
noncomputable def nL (p:Arguments):List Str:=p.args.map (·.arg)
noncomputable def yf (b:FuncBody) (k:List Stmt→Bool):Bool:=match b with| .stmts b=>k b|_=>false
theorem Ga {b:FuncBody} {k:List Stmt→Bool} {G:Prop} (h:yf b k=true) (f:∀l,b=.stmts l→k l=true→G):G:=by
 cases b with
 |stmts l=>exact f l rfl h
 |_=>exact bV h
noncomputable def G5 (h:Heap) (v:Value) (k:List Value→Bool):Bool:=(v== .none&&k [])||rg v fun T=>isSome (h.get? T) fun o=>zZ o.data fun items=>k items.toList
theorem we {h:Heap} {v:Value} {k:List Value→Bool} (e:G5 h v k=true):∃Dv,((v=.none∧Dv=[])∨∃T o n,v=.ref T∧h.get? T=some o∧o.data=.seq Dv.toArray n)∧k Dv=true:=
 (Bool.or_eq_true_iff.mp e).elim (fun e=>af e fun e1 e2=>⟨[],.inl ⟨eq_of_beq e1,rfl⟩,e2⟩) fun e=>Ax e fun T e1 e=>lV e fun o e2 e=>G3 e fun items n e3 e=>⟨items.toList,.inr ⟨T,o,n,e1,e2,e3⟩,e⟩
noncomputable def G0 (h:Heap) (a:Addr) (k:List Str→Scope→List Stmt→List Value→Bool):Bool:=isSome (h.get? a) fun o=>Az o.data fun fd=>yf fd.body fun body=>fd.globals==mainGlobals&&(fd.builtins==builtinsNs&&(EZ h fd.code fd.qualname&&(s6 fd.params (nL fd.params)&&(decide (nL fd.params).Nodup&&(fd.scope.kind== .function&&(!fd.scope.isCoroutine&&(!fd.scope.isGenerator&&
    (fd.scope.names.all (fun x=>x.2 != .cell)&&((nL fd.params).all (fun n=>fd.scope.names.lookup n==some .local)&&G5 h fd.defaults fun Dv=>k (nL fd.params) fd.scope body Dv)))))))))
theorem ka {h:Heap} {a:Addr} {k:List Str→Scope→List Stmt→List Value→Bool} (e:G0 h a k=true):∃names body sc Dv,lq h a names body sc Dv∧k names sc body Dv=true:=
 lV e fun o ho e=>H9 e fun fd hd e=>Ga e fun body hb e=>af e fun e1 e=>af e fun e2 e=>af e fun e3 e=>af e fun e4 e=>af e fun e5 e=>af e fun e6 e=>af e fun e7 e=>af e fun e8 e=>af e fun e9 e=>af e fun e10 e=>(we e).elim fun Dv z=>
  ⟨_,body,fd.scope,Dv,⟨⟨o,fd,ho,hd,rfl,hb,eq_of_beq e1,eq_of_beq e2,tP e3,e4,z.1⟩,of_decide_eq_true e5,eq_of_beq e6,pH e7,pH e8,fun x hx=>bne_iff_ne.mp (List.all_eq_true.mp e9 x hx),fun n hn=>eq_of_beq (List.all_eq_true.mp e10 n hn)⟩,z.2⟩
noncomputable def E0 (x:Value) (v:V):Bool:=match x,v with
 | .bool b,.bool c=>b==c
 |_,_=>false
theorem Bv {h:Heap} {ids:List Addr} {x:Value} {v:V} (e:E0 x v=true):bL h ids x v:=by
 cases x with
 |bool b=>cases v with
  |bool c=>exact eq_of_beq (a:=b) (b:=c) e▸.bool b
  |_=>exact bV e
 |_=>exact bV e
noncomputable def Gc:List Value→List V→Bool
 |xs,[]=>ck xs
 |xs,v::vs=>dM xs fun x xs=>E0 x v&&Gc xs vs
theorem BH {h:Heap} {ids:List Addr}:∀{vs:List V} {xs:List Value},Gc xs vs=true→bo h ids xs vs
 |[],_,e=>cI (P:=fun xs=>bo h ids xs []) e .nil
 |v::vs,_,e=>cV (P:=fun xs=>bo h ids xs (v::vs)) e fun x xs e=>af e fun e1 e=>.cons (Bv e1) (BH (vs:=vs) e)
noncomputable def HV (F:eK) (names:List Str) (sc:Scope) (body:List Stmt) (Dv:List Value):Bool:=
 f8 sc F.body body&&(F.params==names.length&&(lm names sc.names&&(decide (sc.names.map (·.1)).Nodup&&(decide (F.dflt.length≤F.params)&&Gc Dv F.dflt))))
theorem vy {h:Heap} {a:Addr} {F:eK} (e:G0 h a (HV F)=true):yj h a F:=by
 obtain⟨names,body,sc,Dv,FA,k⟩:=ka e
 exact af k fun k1 k=>af k fun k2 k=>af k fun k3 k=>af k fun k4 k=>af k fun k5 k=>⟨names,body,sc,Dv,FA,k1,eq_of_beq k2,k3,of_decide_eq_true k4,of_decide_eq_true k5,fun h ids=>BH k⟩
noncomputable def vD (v:Value):Bool:=match v with| .int i _=>i==0|_=>false
theorem EC {v:Value} {P:Value→Prop} (h:vD v=true) (f:∀t,P (.int 0 t)):P v:=by
 cases v with
 |int i t=>exact eq_of_beq (a:=i) (b:=0) h▸f t
 |_=>exact bV h
noncomputable def Iu (names:List Str) (sc:Scope) (body:List Stmt) (Dv:List Value):Bool:=
 names==jm&&(jH sc body&&jQ Dv fun _ i j=>vD i&&vD j)
noncomputable def HC (h:Heap) (ec:Addr):Bool:=isSome (h.get? ec) fun o=>o.cls== .type "tuple"&&(o.dict.isNone&&(o.slots.isEmpty&&zZ o.data fun items=>dA items.toList fun v=>vP v (sx "NONE".toList)))
noncomputable def IR (h:Heap) (names:List Str) (sc:Scope) (body:List Stmt) (Dv:List Value):Bool:=
 names==tT&&(kR sc body&&dA Dv fun v=>rg v fun ec=>HC h ec)
noncomputable def G4 {α:Type} (l:List α) (k:α→α→α→α→α→α→Bool):Bool:=jQ (l.take 3) fun a b c=>jQ (l.drop 3) fun d e f=>k a b c d e f
noncomputable def HB (h:Heap) (C:Addr) (k:Addr→Bool):Bool:=isSome (h.get? C) fun o=>o.cls== .type "type"&&EK o.data fun cd=>G4 o.slots.toList fun _ _ _ _ n _=>n==some (.builtin "Exception.__new__")&&(cd.mro==(.ref C::EG)&&(cd.hasDict&&(!cd.hasDel&&(h.isNs cd.ns&&(bT.all (fun n=>(h.nsMap cd.ns n).isNone)&&
   ((h.nsMap cd.ns "__setattr__").isNone&&((h.nsMap cd.ns "__getattribute__").isNone&&((h.nsMap cd.ns "__getattr__").isNone&&isSome (h.nsMap cd.ns "__init__") fun v=>rg v k))))))))
theorem jX {α:Type} {o:Option α} (h:o.isNone=true):o=none:=Option.isNone_iff_eq_none.mp h
theorem Gr {α:Type} {l:List α} {a b c d e f:α} (h1:l.take 3=[a,b,c]) (h2:l.drop 3=[d,e,f]):l=[a,b,c,d,e,f]:=by rw[←List.take_append_drop 3 l,h1,h2];rfl
theorem Gl {o:Obj} {c:Value} {d:Data} {l:List (Option Value)} (h1:o.cls=c) (h2:o.data=d) (h3:o.slots.toList=l):o=⟨c,o.dict,d,l.toArray⟩:=by
 obtain⟨a,b,e,⟨f⟩⟩:=o
 cases h1;cases h2;cases h3;rfl
theorem GF {h:Heap} {C:Addr} {d:Option Addr} {cd:ClassData} {k0 k1 k2 k3 n k5:Option Value} (ho:h.get? C=some ⟨.type "type",d,.cls cd,[k0,k1,k2,k3,n,k5].toArray⟩) (e0:n=some (.builtin "Exception.__new__")) (e1:cd.mro=.ref C::EG) (e2:cd.hasDict=true) (e3:cd.hasDel=false):vL h C cd.ns:=by
 obtain⟨nm,bs,mro,ns,qn,dc,sn,sub,ab,col,del⟩:=cd
 cases e0;cases e1;cases e2;cases e3
 exact⟨nm,qn,bs,sn,sub,ab,col,d,k0,k1,k2,k3,k5,ho⟩
theorem wm {h:Heap} {C:Addr} {k:Addr→Bool} (e:HB h C k=true):∃N fI mN,kj h C N fI mN∧k fI=true:=
 lV e fun o ho e=>af e fun hc e=>IM e fun cd hd e=>mn (P:=fun l=>o.slots.toList.take 3=l→_) e (fun k0 k1 k2 e q1=>mn (P:=fun l=>o.slots.toList.drop 3=l→_) e (fun k3 n k5 e q2=>
  af e fun e0 e=>af e fun e1 e=>af e fun e2 e=>af e fun e3 e=>af e fun e4 e=>af e fun e5 e=>af e fun e6 e=>af e fun e7 e=>af e fun e8 e=>lV e fun v hv e=>Ax e fun fI hr ek=>
   ⟨cd.ns,fI,h.nsMap cd.ns,⟨GF (ho.trans (congrArg some (Gl (eq_of_beq hc) hd (Gr q1 q2)))) (eq_of_beq e0) (eq_of_beq e1) e2 (pH e3),.of_isNs e4,hr▸hv,jX e6,jX e7,jX e8,fun n hn=>jX (List.all_eq_true.mp e5 n hn)⟩,ek⟩) rfl) rfl
theorem GB {o:Obj} {items:Array Value} {n:Nat} {v:Value} (hc:o.cls=.type "tuple") (hd:o.dict=none) (hs:o.slots= #[]) (hq:o.data=.seq items n) (hl:items.toList=[v]):o=kW #[v] n:=by
 obtain⟨a,b,c,d⟩:=o
 obtain⟨items⟩:=items
 cases hc;cases hd;cases hs;cases hq;cases hl
 rfl
theorem vg {h:Heap} {ec:Addr} (e:HC h ec=true):∃t n,h.get? ec=some (kW #[.str (sx "NONE".toList) t] n):=
 lV e fun o ho e=>af e fun hc e=>af e fun hd e=>af e fun hs e=>G3 e fun items n hq e=>f9 (P:=fun l=>items.toList=l→_) e (fun v e hl=>textE e fun t ht=>⟨t,n,ht▸ho.trans (congrArg some (GB (eq_of_beq hc) (jX hd) (Array.isEmpty_iff.mp hs) hq hl))⟩) rfl
noncomputable def yJ (h:Heap) (n:Str) (k:Addr→Bool):Bool:=isSome (h.nsMap mainGlobals n) fun v=>rg v k
theorem wj {h:Heap} {n:Str} {k:Addr→Bool} {G:Prop} (e:yJ h n k=true) (f:∀a,h.nsMap mainGlobals n=some (.ref a)→k a=true→G):G:=lV e fun _ hv e=>Ax e fun a ha e=>f a (ha▸hv) e
noncomputable def Bp:List Fn:=[.digit,.hexSign,.octalSign,.backslash,.isGap,.skipGaps,.commentBehind,.skipToCommand,.readName,.variable,.brackets,.braces,
 .partsUntil,.bareStops,.isExpanded,.word,.commandAt,.commandsOf,.plainOf,
 .lPieces,.lScripts,.lFaulty,.lChanged,.lScript,.lOpen,.lAdd,.lBent,.lName,.lCloseWord,.lCloseCommand,.lInScript,.lInBraces,
 .lInName,.lDollar,.lInParts,.lEnd,.lRead,.lAll,.lOneByOne,.lPlain,.lRight]
theorem GD (f:Fn):f∈Bp:=by
 have h:∀f:Fn,Bp.contains f=true:=fun f=>by cases f<;>rfl
 exact List.contains_iff_mem.mp (h f)
noncomputable def Ht (h:Heap) (f:Fn):Bool:=yJ h (ju f) fun a=>G0 h a fun names sc body Dv=>match fn f with
 |some F=>HV F names sc body Dv
 |none=>true
noncomputable def HF (h:Heap):Bool:=yJ h ("Raised":Str) fun C=>yJ h ("error":Str) fun fE=>HB h C (fun fI=>(isSome (h.get? fI) fun o=>o.cls== .type "function"&&true)&&G0 h fI Iu)&&G0 h fE (IR h)
noncomputable def qE (h:Heap) (n:Str) (v:Value):Bool:=(h.nsMap mainGlobals n).isNone&&h.nsMap builtinsNs n==some v
noncomputable def zR (h:Heap):Bool:=h.isNs mainGlobals&&(h.isNs builtinsNs&&(Bp.all (Ht h)&&(HF h&&(qE h "Exception" (.type "Exception")&&(qE h "len" (.builtin "len")&&(qE h "ord" (.builtin "ord")&&(qE h "chr" (.builtin "chr")&&qE h "tuple" (.type "tuple"))))))))
noncomputable def B6 (h:Heap):Prop:=∃mg mb fa C fI fE ec,h.Ns mainGlobals mg∧h.Ns builtinsNs mb∧∀h':Heap,(∀b o,h.get? b=some o→h'.get? b=some o)→h'.NoLimit→wI h' mg mb fa C fI fE ec
theorem cx {h:Heap} {n:Str} {v:Value} (e:qE h n v=true):h.nsMap mainGlobals n=none∧h.nsMap builtinsNs n=some v:=af e fun e1 e2=>⟨jX e1,eq_of_beq e2⟩
theorem wV {h:Heap} {f:Fn} (e:Ht h f=true):∃a,h.nsMap mainGlobals (ju f)=some (.ref a)∧(∃o fd,h.get? a=some o∧o.data=.func fd)∧∀F,fn f=some F→yj h a F:=
 wj e fun a ha e=>⟨a,ha,(ka e).elim fun _ z=>z.elim fun _ z=>z.elim fun _ z=>z.elim fun _ z=>z.1.has,fun F hF=>vy (by rw[hF]at e;exact e)⟩
theorem wk {h:Heap} (e:HF h=true):∃C fI fE ec,∀h':Heap,(∀b o,h.get? b=some o→h'.get? b=some o)→h'.NoLimit→h'.Ns mainGlobals (h.nsMap mainGlobals)→h'.Ns builtinsNs (h.nsMap builtinsNs)→h.nsMap mainGlobals ("Exception":Str)=none→h.nsMap builtinsNs ("Exception":Str)=some (.type "Exception")→ul h' (h.nsMap mainGlobals) (h.nsMap builtinsNs) C fI fE ec:=
 wj e fun C hC e=>wj e fun fE hE e=>af e fun c1 c2=>(wm c1).elim fun N z=>z.elim fun fI z=>z.elim fun mN z=>af z.2 fun k1 k2=>lV k1 fun oI hI k1=>af k1 fun k1 _=>
 (ka k2).elim fun nI y=>y.elim fun bI y=>y.elim fun sI y=>y.elim fun dI y=>(ka c2).elim fun nE x=>x.elim fun bE x=>x.elim fun sE x=>x.elim fun dE x=>
 af y.2 fun i0 i=>af i fun i1 i2=>af x.2 fun j0 j=>af j fun j1 j2=>f9 (P:=fun dE=>lq h fE nE bE sE dE→_) j2 (fun v j2 FE=>Ax j2 fun ec hec j2=>(vg j2).elim fun tt q=>q.elim fun nn eT=>
  mn (P:=fun dI=>lq h fI nI bI sI dI→_) i2 (fun v i j i2 FI=>af i2 fun i2 i3=>EC (P:=fun i=>lq h fI nI bI sI [v,i,j]→_) i2 (fun t1 FI=>EC (P:=fun j=>lq h fI nI bI sI [v,.int 0 t1,j]→_) i3 (fun t2 FI=>⟨C,fI,fE,ec,fun h' k nl n1 n2 x1 x2=>
   ⟨⟨N,mN,z.1.keeps k⟩,⟨bI,sI,v,t1,t2,eq_of_beq i0▸FI.keeps k,i1⟩,⟨oI,k _ _ hI,eq_of_beq k1⟩,⟨bE,sE,eq_of_beq j0▸hec▸FE.keeps k,j1⟩,⟨tt,nn,k _ _ eT⟩,hC,hE,x1,x2,n1,n2,nl⟩⟩) FI) FI) y.1) x.1
theorem sJ {h:Heap} (e:zR h=true):B6 h:=
 af e fun e1 e=>af e fun e2 e=>af e fun e3 e=>af e fun e4 e=>af e fun e5 e=>af e fun e6 e=>af e fun e7 e=>af e fun e8 e9=>
 have n1:h.Ns mainGlobals (h.nsMap mainGlobals):=.of_isNs e1
 have n2:h.Ns builtinsNs (h.nsMap builtinsNs):=.of_isNs e2
 have hfa:=fun f=>wV (List.all_eq_true.mp e3 f (GD f))
 (wk e4).elim fun C z=>z.elim fun fI z=>z.elim fun fE z=>z.elim fun ec z=>⟨h.nsMap mainGlobals,h.nsMap builtinsNs,fun f=>(hfa f).choose,C,fI,fE,ec,n1,n2,fun h' k nl=>⟨z h' k nl (n1.keeps k) (n2.keeps k) (cx e5).1 (cx e5).2,
  fun f=>(hfa f).choose_spec.1,fun f=>(hfa f).choose_spec.2.1.elim fun o q=>q.elim fun fd q=>⟨o,fd,k _ _ q.1,q.2⟩,⟨(cx e6).1,(cx e7).1,(cx e8).1,(cx e9).1⟩,⟨(cx e6).2,(cx e7).2,(cx e8).2,(cx e9).2⟩,fun f F hF=>by
   obtain⟨names,body,sc,Dv,FA,r1,r2,r3,r4,r5,r6⟩:=(hfa f).choose_spec.2.2 F hF
   exact⟨names,body,sc,Dv,FA.keeps k,r1,r2,r3,r4,r5,r6⟩⟩⟩
theorem B6.keeps {h h':Heap} (x:B6 h) (k:∀b o,h.get? b=some o→h'.get? b=some o):B6 h':=by
 obtain⟨mg,mb,fa,C,fI,fE,ec,n1,n2,B⟩:=x
 exact⟨mg,mb,fa,C,fI,fE,ec,n1.keeps k,n2.keeps k,fun h'' k' nl=>B h'' (fun b o e=>k' b o (k b o e)) nl⟩
noncomputable def wA:PySem.W.Hook:=⟨Bool,fun s=>zR s.heap,fun _=>true,fun _ h=>B6 h,fun _ _ e=>sJ e,fun _ _ _ x k=>x.keeps k⟩
end Mine
end
section
open PySem PySem.W PyProof.Rows
namespace Mine
noncomputable def Cq:Stmt→Bool
 | .FunctionDef n .. =>n != "error"&&n != "command_at"
 |_=>false
noncomputable def q:Program:={PySem.Challenge.pw_oj0052_01 with main:={PySem.Challenge.pw_oj0052_01.main with body:=PySem.Challenge.pw_oj0052_01.main.body.filter Cq}}
noncomputable def lz:List Str:=[Str.ofString "Raised",Str.ofString "error",Str.ofString "command_at"]
set_option maxHeartbeats 0 in
theorem hl:LeftO PySem.Challenge.pw_oj0052_01 q lz (fun s=>xlAt q [] s&&recOk (RowW.records PySem.Challenge.rw_oj0052_01.row.toRowW) s) (Hook.obs wA) (Hook.val wA) 3426:=by
 intro w
 kernel_rfl
end Mine
end
section
namespace Mine
structure tW (t:Ch) (a:Int) (s:Ch):Prop where
 len:t.length≤10000
 pre:∃p,t=p++s∧a=(p.length:Int)
theorem dC:nu=16777216:=rfl
theorem tW.lim {t s:Ch} {a:Int} (x:tW t a s):t.length≤nu:=Nat.le_trans x.len (by decide)
theorem tW.nat {t s:Ch} {a:Int} (x:tW t a s):∃n:Nat,a=n∧n+s.length=t.length∧t.drop n=s:=by
 obtain⟨p,rfl,rfl⟩:=x.pre
 exact⟨p.length,rfl,List.length_append.symm,List.drop_left⟩
theorem tW.next {t s:Ch} {a:Int} {c:Char} (x:tW t a (c::s)):tW t (a+1) s:=by
 obtain⟨p,h,rfl⟩:=x.pre
 exact⟨x.len,p++[c],by rw[h,List.append_assoc];rfl,by rw[List.length_append];rfl⟩
theorem tW.ge {t s:Ch} {a:Int} (x:tW t a s):decide (a≥(t.length:Int))=s.isEmpty:=by
 obtain⟨n,rfl,h,_⟩:=x.nat
 cases s with
 |nil=>exact decide_eq_true (Int.ofNat_le.mpr (Nat.le_of_eq h.symm))
 |cons c s=>exact decide_eq_false (Int.not_le.mpr (Int.ofNat_lt.mpr (h▸Nat.lt_add_of_pos_right (Nat.zero_lt_succ _))))
theorem tW.lt {t s:Ch} {a:Int} (x:tW t a s):decide (a<(t.length:Int))= !s.isEmpty:=by
 obtain⟨n,rfl,h,_⟩:=x.nat
 cases s with
 |nil=>exact decide_eq_false (Int.not_lt.mpr (Int.ofNat_le.mpr (Nat.le_of_eq h.symm)))
 |cons c s=>exact decide_eq_true (Int.ofNat_lt.mpr (h▸Nat.lt_add_of_pos_right (Nat.zero_lt_succ _)))
theorem pA {k:Int} (h0: -20000≤k) (h1:k≤20000):d4 k=true:=by
 rw[d4,decide_eq_true (Int.le_trans (by decide:(-(2^63):Int)≤ -20000) h0),decide_eq_true (Int.lt_of_le_of_lt h1 (by decide:(20000:Int)<2^63))];rfl
theorem gH (k n:Nat):iW (k:Int) n=min k n:=by
 rw[iW,if_neg (Int.not_lt.mpr (Int.natCast_nonneg k))]
 split
 ·exact(Nat.min_eq_right (Nat.le_of_lt (Int.ofNat_lt.mp ‹_›))).symm
 ·exact(Nat.min_eq_left (Int.ofNat_le.mp (Int.not_lt.mp ‹_›))).symm
section
variable {t s:Ch} {a b:Int} {c:Char} {H:List O}
theorem ki (x:tW t a (c::s)):iG H (.str t) (.int a)=some (.str [c]):=by
 obtain⟨n,rfl,h,hd⟩:=x.nat
 have hl:=x.len
 have h1:n<t.length:=h▸Nat.lt_add_of_pos_right (Nat.zero_lt_succ _)
 have h2:t[n]? =some c:=by
  rw[←Nat.add_zero n, ←List.getElem?_drop,hd];rfl
 have e1:cN (n:Int) t.length=some n:=(if_pos (Int.natCast_nonneg n)).trans ((if_pos (Int.ofNat_lt.mpr h1)).trans (congrArg some (Int.toNat_natCast n)))
 show(if d4 (n:Int)=true then(cN (n:Int) t.length).bind (fun i=>t[i]?.map fun c=>V.str [c])else none)=_
 rw[if_pos (pA (Int.le_trans (by decide) (Int.natCast_nonneg n)) (Int.ofNat_le.mpr (Nat.le_trans (Nat.le_of_lt h1) (Nat.le_trans hl (by decide))))),e1]
 show(t[n]?).map _=_
 rw[h2];rfl
theorem F0 {r:Ch} (x:tW t a (r++s)) (y:tW t b s):cut t a b=r:=by
 obtain⟨n,rfl,h,hd⟩:=x.nat
 obtain⟨m,rfl,h',hd'⟩:=y.nat
 have e:m=n+r.length:=by
  rw[List.length_append, ←Nat.add_assoc, ←h']at h
  exact(Nat.add_right_cancel h).symm
 rw[cut,gH,gH,Nat.min_eq_left (Nat.le.intro h),Nat.min_eq_left (Nat.le.intro h'),hd,e,Nat.add_sub_cancel_left,List.take_left]
theorem wM (x:tW t a s) (k:Nat):cut t a (a+k)=s.take k:=by
 obtain⟨n,rfl,h,hd⟩:=x.nat
 have e:iW ((n:Int)+k) t.length=min (n+k) t.length:=gH (n+k) _
 rw[cut,e,gH,Nat.min_eq_left (Nat.le.intro h),hd, ←h,Nat.add_min_add_left,Nat.add_sub_cancel_left, ←List.take_take,List.take_length]
theorem Bg {d:Char} (x:tW t a (d::s)) (k:Nat):cut t (a+1) (a+(k+1:Nat))=s.take k:=by
 have:=wM x.next k
 rwa[Int.add_assoc,Int.add_comm 1]at this
end
section
variable {Φ:ci} {W:Nat} {σ ah aG eO:St} {x y z v:V} {a b e:E}
noncomputable def EV (Φ:ci) (σ:St) (e:E) (v:V) (σ':St):Prop:=eE Φ e σ=okR v σ'
noncomputable def aq (Φ:ci) (σ:St) (es:Es) (vs:List V) (σ':St):Prop:=B0 Φ es σ=okR vs σ'
section
variable {α β:Type} {m:R α} {f:α→St→R β} {a:α}
theorem aA (h:m=okR a σ):cW m f=f a σ:=by rw[h];rfl
theorem iK {e:Ch} (h:m=some (.error e,σ)):cW m f=some (.error e,σ):=by rw[h];rfl
theorem lk {o:Option (List V)} {k:List V→R β} {vs:List V} (h:o=some vs):(match(generalizing:=false) o with|some vs=>k vs|Option.none=>Option.none)=k vs:=by cases h;rfl
theorem Ii {o:Option V} {k:V→R β} {v:V} (h:o=some v):(match(generalizing:=false) o with|some v=>k v|Option.none=>Option.none)=k v:=by cases h;rfl
theorem Ih {o:Option (List O)} {k:List O→R β} {v:List O} (h:o=some v):(match(generalizing:=false) o with|some v=>k v|Option.none=>Option.none)=k v:=by cases h;rfl
theorem Jw {o:Option Bool} {m m':R β} (h:o=some true):(match(generalizing:=false) o with|some true=>m|some false=>m'|Option.none=>Option.none)=m:=by cases h;rfl
theorem JA {o:Option Bool} {m m':R β} (h:o=some false):(match(generalizing:=false) o with|some true=>m|some false=>m'|Option.none=>Option.none)=m':=by cases h;rfl
theorem JF {o:Option (List (Ch×V))} {m:R V} (h:o=some []):(match(generalizing:=false) o with|some []=>m|_=>Option.none)=m:=by cases h;rfl
theorem I2 {o:Option (Except Ch V×List O)} {r:Except Ch V} {H:List O} (h:o=some (r,H)):(match(generalizing:=false) o with
  |some (.ok v,H)=>some (.ok v,{σ with hp:=H})
  |some (.error m,H)=>some (.error m,{σ with hp:=H})
  |Option.none=>Option.none:R V)=some (r,{σ with hp:=H}):=by cases h;cases r<;>rfl
theorem Ip {o:Option (List Ch)} {k:List Ch→R β} {v:List Ch} (h:o=some v):(match(generalizing:=false) o with|some v=>k v|Option.none=>Option.none)=k v:=by cases h;rfl
theorem G1 {m:R Fl} {i:Nat} {g:Ch→St→R Fl} {f:Fl} (h:m=okR f σ):(match(generalizing:=false) m with
  |some (.error m,σ')=>match σ'.loc[i]? with
   |some Option.none=>g m σ'
   |_=>Option.none
  |r=>r)=okR f σ:=by cases h;rfl
theorem Gk {m:R Fl} {i:Nat} {g:Ch→St→R Fl} {e:Ch} (h:m=some (.error e,σ)) (hi:σ.loc[i]? =some Option.none):(match(generalizing:=false) m with
  |some (.error m,σ')=>match σ'.loc[i]? with
   |some Option.none=>g m σ'
   |_=>Option.none
  |r=>r)=g e σ:=by
 cases h
 show(match σ.loc[i]? with|some Option.none=>g e σ|_=>Option.none)=_
 rw[hi]
theorem E1 {m:R Fl} {g:Fl→St→R Fl} {f:Fl} (h:m=okR f σ):(match(generalizing:=false) m with|some (.ok fl,σ')=>g fl σ'|_=>Option.none)=g f σ:=by cases h;rfl
theorem E9 {m:R V} {g:V→St→Option (List O)} {v:V} (h:m=okR v σ):(match(generalizing:=false) m with|some (.ok r,σ)=>g r σ|_=>Option.none)=g v σ:=by cases h;rfl
theorem s7 {o:Option α} (h:o=some a):qc o σ=okR a σ:=by rw[h];rfl
theorem I7 {o:Option (Option V)} {k:V→R β} {v:V} (h:o=some (some v)):(match(generalizing:=false) o with|some (some v)=>k v|_=>Option.none)=k v:=by cases h;rfl
end
theorem EV.none:EV Φ σ .none .none σ:=rfl
theorem EV.bool {b:Bool}:EV Φ σ (.bool b) (.bool b) σ:=rfl
theorem EV.int {i:Int}:EV Φ σ (.int i) (.int i) σ:=rfl
theorem EV.negc {i:Int}:EV Φ σ (.negc i) (.int (-i)) σ:=rfl
theorem EV.str {l:Ch}:EV Φ σ (.str l) (.str l) σ:=rfl
theorem EV.loc {i:Nat} (h:σ.loc[i]? =some (some v)):EV Φ σ (.loc i) v σ:=I7 (k:=fun v=>okR v σ) h
theorem EV.bin {op:m7} (ha:EV Φ σ a x ah) (hb:EV Φ ah b y aG) (h:hK op x y=some v):EV Φ σ (.bin op a b) v aG:=(aA ha).trans ((aA hb).trans (DC h))
theorem EV.lsum {i j:Nat} {xs ys:List V} (ha:EV Φ σ a (.ref i) ah) (hb:EV Φ ah b (.ref j) aG) (h1:listOf? aG.hp i=some xs) (h2:listOf? aG.hp j=some ys) (hl:xs.length+ys.length<10000):
  EV Φ σ (.bin .add a b) (.ref aG.hp.length) {aG with hp:=aG.hp++[.list (xs++ys)]}:=(aA ha).trans ((aA hb).trans (CZ h1 h2 hl))
theorem EV.not {r:Bool} (ha:EV Φ σ a (.bool r) ah):EV Φ σ (.not a) (.bool !r) ah:=aA ha
theorem EV.cmp {op:zJ} {r:Bool} (ha:EV Φ σ a x ah) (hb:EV Φ ah b y aG) (h:dX aG.hp op x y=some r):EV Φ σ (.cmp op a b) (.bool r) aG:=(aA ha).trans ((aA hb).trans (s7 (congrArg (Option.map V.bool) h)))
theorem EV.cmp2f {o1 o2:zJ} {c:E} (ha:EV Φ σ a x ah) (hb:EV Φ ah b y aG) (h:dX aG.hp o1 x y=some false):EV Φ σ (.cmp2 o1 o2 a b c) (.bool false) aG:=(aA ha).trans ((aA hb).trans (JA h))
theorem EV.cmp2t {o1 o2:zJ} {c:E} {r:Bool} (ha:EV Φ σ a x ah) (hb:EV Φ ah b y aG) (h:dX aG.hp o1 x y=some true) (hc:EV Φ aG c z eO) (h':dX eO.hp o2 y z=some r):EV Φ σ (.cmp2 o1 o2 a b c) (.bool r) eO:=(aA ha).trans ((aA hb).trans ((Jw h).trans ((aA hc).trans (s7 (congrArg (Option.map V.bool) h')))))
theorem EV.and1 {r:Bool} (ha:EV Φ σ a (.bool r) ah):EV Φ σ (.and (.cons a .nil)) (.bool r) ah:=aA ha
theorem EV.andF {es:Es} (ha:EV Φ σ a (.bool false) ah):EV Φ σ (.and (.cons a (.cons b es))) (.bool false) ah:=aA ha
theorem EV.andT {es:Es} (ha:EV Φ σ a (.bool true) ah) (hb:EV Φ ah (.and (.cons b es)) v aG):EV Φ σ (.and (.cons a (.cons b es))) v aG:=(aA ha).trans hb
theorem EV.and2 {r q:Bool} (ha:EV Φ σ a (.bool r) σ) (hb:r=true→EV Φ σ b (.bool q) σ):EV Φ σ (.and (.cons a (.cons b .nil))) (.bool (r&&q)) σ:=by
 cases r with
 |false=>exact EV.andF ha
 |true=>exact EV.andT ha (EV.and1 (hb rfl))
theorem EV.or1 {r:Bool} (ha:EV Φ σ a (.bool r) ah):EV Φ σ (.or (.cons a .nil)) (.bool r) ah:=aA ha
theorem EV.orT {es:Es} (ha:EV Φ σ a (.bool true) ah):EV Φ σ (.or (.cons a (.cons b es))) (.bool true) ah:=aA ha
theorem EV.orF {es:Es} (ha:EV Φ σ a (.bool false) ah) (hb:EV Φ ah (.or (.cons b es)) v aG):EV Φ σ (.or (.cons a (.cons b es))) v aG:=(aA ha).trans hb
theorem EV.or2 {r q:Bool} (ha:EV Φ σ a (.bool r) σ) (hb:r=false→EV Φ σ b (.bool q) σ):EV Φ σ (.or (.cons a (.cons b .nil))) (.bool (r||q)) σ:=by
 cases r with
 |true=>exact EV.orT ha
 |false=>exact EV.orF ha (EV.or1 (hb rfl))
theorem EV.iteT {c:E} (hc:EV Φ σ c (.bool true) ah) (ha:EV Φ ah a v aG):EV Φ σ (.ite c a b) v aG:=(aA hc).trans ha
theorem EV.iteF {c:E} (hc:EV Φ σ c (.bool false) ah) (hb:EV Φ ah b v aG):EV Φ σ (.ite c a b) v aG:=(aA hc).trans hb
theorem EV.idx (ha:EV Φ σ a x ah) (hb:EV Φ ah b y aG) (h:iG aG.hp x y=some v):EV Φ σ (.idx a b) v aG:=(aA ha).trans ((aA hb).trans (s7 h))
theorem EV.slc {lo hi:E} {t:Ch} {p q:Int} (ha:EV Φ σ a (.str t) ah) (hl:EV Φ ah lo (.int p) aG) (hh:EV Φ aG hi (.int q) eO) (hlen:t.length≤nu):EV Φ σ (.slc a lo hi) (.str (cut t p q)) eO:=(aA ha).trans ((aA hl).trans ((aA hh).trans (if_pos hlen)))
theorem EV.slf {lo:E} {t:Ch} {p:Int} (ha:EV Φ σ a (.str t) ah) (hl:EV Φ ah lo (.int p) aG) (hlen:t.length≤nu):EV Φ σ (.slf a lo) (.str (cut t p t.length)) aG:=(aA ha).trans ((aA hl).trans (if_pos hlen))
theorem EV.slt {hi:E} {t:Ch} {q:Int} (ha:EV Φ σ a (.str t) ah) (hh:EV Φ ah hi (.int q) aG) (hlen:t.length≤nu):EV Φ σ (.slt a hi) (.str (cut t 0 q)) aG:=(aA ha).trans ((aA hh).trans (if_pos hlen))
theorem EV.sltL {hi:E} {i:Nat} {vs:List V} {q:Int} (ha:EV Φ σ a (.ref i) ah) (hh:EV Φ ah hi (.int q) aG) (h1:listOf? aG.hp i=some vs) (hlen:vs.length<10000∧0≤q):EV Φ σ (.slt a hi) (.ref aG.hp.length) {aG with hp:=aG.hp++[.list (vs.take q.toNat)]}:=(aA ha).trans ((aA hh).trans ((lk h1).trans (if_pos hlen)))
theorem aq.nil:aq Φ σ .nil [] σ:=rfl
theorem aq.cons {es:Es} {vs:List V} (ha:EV Φ σ a x ah) (hs:aq Φ ah es vs aG):aq Φ σ (.cons a es) (x::vs) aG:=(aA ha).trans (aA hs)
theorem EV.tup {es:Es} {vs:List V} (hs:aq Φ σ es vs ah):EV Φ σ (.tup es) (.tup vs) ah:=aA hs
theorem EV.lst {es:Es} {vs:List V} (hs:aq Φ σ es vs ah):EV Φ σ (.lst es) (.ref ah.hp.length) {ah with hp:=ah.hp++[.list vs]}:=aA hs
theorem EV.dct {ks:List Ch} {es:Es} {vs:List V} (hs:aq Φ {σ with hp:=σ.hp++[.dict []]} es vs ah) (h:dictOf? ah.hp σ.hp.length=some []):EV Φ σ (.dct ks es) (.ref σ.hp.length) {ah with hp:=ah.hp.set σ.hp.length (.dict (yQ ks vs))}:=(aA hs).trans (JF h)
theorem EV.call {f:Fn} {es:Es} {vs:List V} {H:List O} (hs:aq Φ σ es vs ah) (h:Φ f vs ah.hp=some (.ok v,H)):EV Φ σ (.call f es) v {ah with hp:=H}:=(aA hs).trans (I2 h)
theorem EV.callP {f:Fn} {es:Es} {vs:List V} (hs:aq Φ σ es vs ah) (h:Φ f vs ah.hp=some (.ok v,ah.hp)):EV Φ σ (.call f es) v ah:=EV.call hs h
theorem cX {f:Fn} {es:Es} {vs:List V} {H:List O} {m:Ch} (hs:aq Φ σ es vs ah) (h:Φ f vs ah.hp=some (.error m,H)):eE Φ (.call f es) σ=some (.error m,{ah with hp:=H}):=(aA hs).trans (I2 h)
theorem EV.len {t:Ch} (ha:EV Φ σ a (.str t) ah) (h:t.length≤nu):EV Φ σ (.len a) (.int t.length) ah:=(aA ha).trans (if_pos h)
theorem EV.lenT {vs:List V} (ha:EV Φ σ a (.tup vs) ah) (h:vs.length≤nu):EV Φ σ (.len a) (.int vs.length) ah:=(aA ha).trans (if_pos h)
theorem EV.lenL {i:Nat} {vs:List V} (ha:EV Φ σ a (.ref i) ah) (h1:listOf? ah.hp i=some vs) (h:vs.length≤nu):EV Φ σ (.len a) (.int vs.length) ah:=(aA ha).trans ((lk h1).trans (if_pos h))
theorem EV.ord {c:Char} (ha:EV Φ σ a (.str [c]) ah):EV Φ σ (.ord a) (.int c.toNat) ah:=aA ha
theorem EV.chr {k:Int} (ha:EV Φ σ a (.int k) ah) (h:0≤k∧k<128):EV Φ σ (.chr a) (.str [Char.ofNat k.toNat]) ah:=(aA ha).trans (if_pos h)
theorem EV.tuple {i:Nat} {vs:List V} (ha:EV Φ σ a (.ref i) ah) (h1:listOf? ah.hp i=some vs) (h:vs.length<10000):EV Φ σ (.tuple a) (.tup vs) ah:=(aA ha).trans ((lk h1).trans (if_pos h))
theorem EV.find1 {t:Ch} {c:Char} (ha:EV Φ σ a (.str t) ah) (hb:EV Φ ah b (.str [c]) aG):EV Φ σ (.find1 a b) (.int (jz c t 0)) aG:=(aA ha).trans (aA hb)
theorem EV.find2 {t:Ch} {d:Char} {c:E} {k:Int} (ha:EV Φ σ a (.str t) ah) (hb:EV Φ ah b (.str [d]) aG) (hc:EV Φ aG c (.int k) eO) (h:0≤k∧k≤t.length):EV Φ σ (.find2 a b c) (.int (jz d t k.toNat)) eO:=(aA ha).trans ((aA hb).trans ((aA hc).trans (if_pos h)))
theorem EV.append {i:Nat} {vs us:List V} (ha:EV Φ σ a (.ref i) ah) (h0:listOf? ah.hp i=some us) (hb:EV Φ ah b y aG) (h1:listOf? aG.hp i=some vs) (h:vs.length<10000):EV Φ σ (.append a b) .none {aG with hp:=aG.hp.set i (.list (vs++[y]))}:=(aA ha).trans ((lk h0).trans ((aA hb).trans ((lk h1).trans (if_pos h))))
theorem EV.pop {i:Nat} {vs:List V} (ha:EV Φ σ a (.ref i) ah) (h1:listOf? ah.hp i=some vs) (h2:vs.getLast?=some v) (h:vs.length<10000):EV Φ σ (.pop a) v {ah with hp:=ah.hp.set i (.list vs.dropLast)}:=(aA ha).trans ((lk h1).trans ((Ii h2).trans (if_pos h)))
theorem aa {s:S} {ss:Ss} {r:R Fl} (h:eS Φ W s σ=okR .next ah) (hs:bF Φ W ss ah=r):bF Φ W (.cons s ss) σ=r:=(aA h).trans hs
theorem ak {s:S} {ss:Ss} (h:eS Φ W s σ=okR (.ret v) ah):bF Φ W (.cons s ss) σ=okR (.ret v) ah:=aA h
theorem vu {s:S} {ss:Ss} (h:eS Φ W s σ=okR .brk ah):bF Φ W (.cons s ss) σ=okR .brk ah:=aA h
theorem bA {s:S} {ss:Ss} {m:Ch} (h:eS Φ W s σ=some (.error m,ah)):bF Φ W (.cons s ss) σ=some (.error m,ah):=iK h
theorem aw:bF Φ W .nil σ=okR .next σ:=rfl
theorem Fb {m:R Fl}:(cW m fun f σ=>match f with| .next=>okR .next σ|f=>okR f σ)=m:=by
 cases m with
 |none=>rfl
 |some r=>obtain⟨r,σ⟩:=r;cases r with
  |error m=>rfl
  |ok f=>cases f<;>rfl
theorem ao {s:S} {r:R Fl} (h:eS Φ W s σ=r):bF Φ W (.cons s .nil) σ=r:=Fb.trans h
theorem aV {i:Nat} (h:EV Φ σ e v ah) (hi:i<ah.loc.length):eS Φ W (.asg i e) σ=okR .next {ah with loc:=setL ah.loc i v}:=(aA h).trans (if_pos hi)
theorem im {i:Nat} {m:Ch} (h:eE Φ e σ=some (.error m,ah)):eS Φ W (.asg i e) σ=some (.error m,ah):=iK h
theorem cK {ts:List T} {vs:List V} (h:EV Φ σ e (.tup vs) ah) (hl:vs.length=ts.length) (hs:dP Φ ts vs ah=okR () aG):eS Φ W (.asgT ts e) σ=okR .next aG:=(aA h).trans ((if_pos hl).trans (aA hs))
theorem d9 {ts:List T} {m:Ch} (h:eE Φ e σ=some (.error m,ah)):eS Φ W (.asgT ts e) σ=some (.error m,ah):=iK h
theorem cn {i j:Nat} {lo:List (Option V)} {H:List O} (hi:i<lo.length) (hj:j<lo.length):dP Φ [.loc i,.loc j] [x,y] ⟨lo,H⟩=okR () ⟨setL (setL lo i x) j y,H⟩:=(aA (if_pos hi)).trans ((aA (if_pos (Nat.lt_of_lt_of_eq hj List.length_set.symm))).trans rfl)
theorem rJ {H':List O} (he:EV Φ σ e v ah) (ha:EV Φ ah a x aG) (hb:EV Φ aG b y eO) (h:mE eO.hp x y v=some H'):eS Φ W (.asgS a b e) σ=okR .next {eO with hp:=H'}:=(aA he).trans (aA ((aA ha).trans ((aA hb).trans (Ih h))))
theorem uU {i:Nat} {op:m7} {old r:V} (h0:σ.loc[i]? =some (some old)) (h:EV Φ σ e v ah) (hb:hK op old v=some r) (hi:i<ah.loc.length):eS Φ W (.aug i op e) σ=okR .next {ah with loc:=setL ah.loc i r}:=(I7 h0).trans ((aA h).trans ((Ii hb).trans (if_pos hi)))
theorem FW {op:m7} {old r:V} {H':List O} {A4:St} (ha:EV Φ σ a x ah) (hb:EV Φ ah b y aG) (hg:iG aG.hp x y=some old) (he:EV Φ aG e v A4) (ho:hK op old v=some r) (h:mE A4.hp x y r=some H'):eS Φ W (.augS a b op e) σ=okR .next {A4 with hp:=H'}:=(aA ha).trans ((aA hb).trans ((Ii hg).trans ((aA he).trans ((Ii ho).trans (Ih h)))))
theorem wx {c:E} {r:Bool} (h:EV Φ σ c (.bool r) ah):tE Φ c σ=okR r ah:=aA h
theorem aB {c:E} {s t:Ss} {r:R Fl} (h:EV Φ σ c (.bool true) ah) (hs:bF Φ W s ah=r):eS Φ W (.ife c s t) σ=r:=(aA (wx h)).trans hs
theorem av {c:E} {s t:Ss} {r:R Fl} (h:EV Φ σ c (.bool false) ah) (hs:bF Φ W t ah=r):eS Φ W (.ife c s t) σ=r:=(aA (wx h)).trans hs
theorem aK (h:EV Φ σ e v ah):eS Φ W (.ret e) σ=okR (.ret v) ah:=aA h
theorem i7 {m:Ch}:eS Φ W (.raise m) σ=some (.error m,σ):=rfl
theorem bj (h:EV Φ σ e v ah):eS Φ W (.expr e) σ=okR .next ah:=aA h
theorem HZ:eS Φ W .brk σ=okR .brk σ:=rfl
theorem cP {c:E} {s:Ss} {r:R Fl} (h:iter (tE Φ c) (bF Φ W s) W σ=r):eS Φ W (.whl c s) σ=r:=h
theorem bK {c:E} {b:St→R Fl} {k:Nat} (h:EV Φ σ c (.bool false) ah):iter (tE Φ c) b (k+1) σ=okR .next ah:=(aA (wx h)).trans rfl
theorem ba {c:E} {b:St→R Fl} {k:Nat} {r:R Fl} (h:EV Φ σ c (.bool true) ah) (hb:b ah=okR .next aG) (hr:iter (tE Φ c) b k aG=r):iter (tE Φ c) b (k+1) σ=r:=(aA (wx h)).trans ((aA hb).trans hr)
theorem i8 {c:E} {b:St→R Fl} {k:Nat} (h:EV Φ σ c (.bool true) ah) (hb:b ah=okR (.ret v) aG):iter (tE Φ c) b (k+1) σ=okR (.ret v) aG:=(aA (wx h)).trans (aA hb)
theorem Ft {c:E} {b:St→R Fl} {k:Nat} (h:EV Φ σ c (.bool true) ah) (hb:b ah=okR .brk aG):iter (tE Φ c) b (k+1) σ=okR .next aG:=(aA (wx h)).trans (aA hb)
theorem mI {c:E} {b:St→R Fl} {k:Nat} {m:Ch} (h:EV Φ σ c (.bool true) ah) (hb:b ah=some (.error m,aG)):iter (tE Φ c) b (k+1) σ=some (.error m,aG):=(aA (wx h)).trans (iK hb)
end
section
variable {W n:Nat} {f:Fn} {F:eK} {vs us:List V} {H H':List O} {v:V} {σ:St} {m:Ch}
theorem lh (hf:fn f=some F) (hl:(F.full vs).length=F.params):ay W (n+1) f vs H=vq F H (bF (ay W n) W F.body ⟨(F.full vs).map some++List.replicate (F.slots-F.params) none,H⟩):=by
 show(match fn f with|some F=>aT F (ay W n) W vs H|none=>none)=_
 rw[hf];exact if_pos hl
theorem CP (hf:fn f=some F) (hl:(F.full vs).length=F.params) (hp:F.pure=false) (h:bF (ay W n) W F.body ⟨(F.full vs).map some++List.replicate (F.slots-F.params) none,H⟩=okR (.ret v) σ):ay W (n+1) f vs H=some (.ok v,σ.hp):=
 (lh hf hl).trans ((congrArg (vq F H) h).trans (if_neg (hp▸Bool.false_ne_true)))
theorem Be (hf:fn f=some F) (hl:(F.full vs).length=F.params) (hp:F.pure=false) (h:bF (ay W n) W F.body ⟨(F.full vs).map some++List.replicate (F.slots-F.params) none,H⟩=okR .next σ):ay W (n+1) f vs H=some (.ok .none,σ.hp):=
 (lh hf hl).trans ((congrArg (vq F H) h).trans (if_neg (hp▸Bool.false_ne_true)))
theorem aM (hf:fn f=some F) (hl:(F.full vs).length=F.params) (hp:F.pure=true) (h:bF (ay W n) W F.body ⟨(F.full vs).map some++List.replicate (F.slots-F.params) none,H⟩=okR (.ret v) σ) (hk:σ.hp.take H.length=H) (hv:ii H.length v=true):ay W (n+1) f vs H=some (.ok v,H):=
 (lh hf hl).trans ((congrArg (vq F H) h).trans ((if_pos hp).trans (if_pos ⟨hk,hv⟩)))
theorem d6 (hf:fn f=some F) (hl:(F.full vs).length=F.params) (hp:F.pure=true) (h:bF (ay W n) W F.body ⟨(F.full vs).map some++List.replicate (F.slots-F.params) none,H⟩=some (.error m,σ)) (hk:σ.hp.take H.length=H):ay W (n+1) f vs H=some (.error m,H):=
 (lh hf hl).trans ((congrArg (vq F H) h).trans ((if_pos hp).trans (if_pos hk)))
end
end Mine
end
section
namespace Mine
open PySem (PyData)
noncomputable def ps (t s:Ch):Int:=(t.length:Int)-s.length
structure bc (t s:Ch):Prop where
 len:t.length≤10000
 suf:∃p,t=p++s
section
variable {t s r:Ch} {c d:Char}
theorem bc.at (x:bc t s):tW t (ps t s) s:=by
 obtain⟨p,rfl⟩:=x.suf
 exact⟨x.len,p,rfl,by simp[ps]⟩
theorem bc.next (x:bc t (c::s)):bc t s:=by
 obtain⟨p,h⟩:=x.suf
 exact⟨x.len,p++[c],by simp[h]⟩
theorem bc.of (x:bc t s) (h:∃p,s=p++r):bc t r:=by
 obtain⟨p,h'⟩:=x.suf
 obtain⟨q,rfl⟩:=h
 exact⟨x.len,p++q,by simp[h']⟩
theorem bC:ps t (c::s)+1=ps t s:=by simp[ps];omega
theorem fN:ps t (c::d::s)+2=ps t s:=by simp[ps];omega
theorem fU:ps t []=t.length:=by simp[ps]
theorem rK:ps t t=0:=by simp[ps]
theorem bc.size (x:bc t s):s.length≤t.length:=by
 obtain⟨p,rfl⟩:=x.suf
 simp
end
noncomputable def iy (c:Char):Bool:=[[' '],['\t'],['\x0b'],['\x0c'],['\r']].contains [c]
section
variable {Φ:ci} {W n k:Nat} {t s r:Ch} {c:Char} {H:List O} {lo:List (Option V)} {i j:Nat}
theorem IE {c:Char}:iy c=true↔c=' '∨c='\t'∨c='\x0b'∨c='\x0c'∨c='\r':=by
 simp[iy]
theorem zE {c:Char}:ay W (n+1) .isGap [.str [c]] H=some (.ok (.bool (iy c)),H):=
 aM (F:=yl) rfl rfl rfl (ak (aK (EV.cmp (EV.loc rfl) (EV.tup (aq.cons EV.str (aq.cons EV.str (aq.cons EV.str (aq.cons EV.str (aq.cons EV.str aq.nil)))))) rfl))) (List.take_length ..) rfl
theorem je (x:bc t s) (hi:lo[i]? =some (some (.int (ps t s)))) (hj:lo[j]? =some (some (.str t))):EV Φ ⟨lo,H⟩ (.cmp .lt (.loc i) (.len (.loc j))) (.bool (!s.isEmpty)) ⟨lo,H⟩:=
 EV.cmp (EV.loc hi) (EV.len (EV.loc hj) x.at.lim) (congrArg some x.at.lt)
theorem xH (x:bc t s) (hi:lo[i]? =some (some (.int (ps t s)))) (hj:lo[j]? =some (some (.str t))):EV Φ ⟨lo,H⟩ (.cmp .ge (.loc i) (.len (.loc j))) (.bool s.isEmpty) ⟨lo,H⟩:=
 EV.cmp (EV.loc hi) (EV.len (EV.loc hj) x.at.lim) (congrArg some x.at.ge)
theorem iS (x:bc t s) (hi:lo[i]? =some (some (.int (ps t s)))) (hj:lo[j]? =some (some (.int t.length))):EV Φ ⟨lo,H⟩ (.cmp .lt (.loc i) (.loc j)) (.bool (!s.isEmpty)) ⟨lo,H⟩:=
 EV.cmp (EV.loc hi) (EV.loc hj) (congrArg some x.at.lt)
theorem oR (x:bc t s) (hi:lo[i]? =some (some (.int (ps t s)))) (hj:lo[j]? =some (some (.int t.length))):EV Φ ⟨lo,H⟩ (.cmp .ge (.loc i) (.loc j)) (.bool s.isEmpty) ⟨lo,H⟩:=
 EV.cmp (EV.loc hi) (EV.loc hj) (congrArg some x.at.ge)
theorem dZ (x:bc t (c::s)) (hi:lo[i]? =some (some (.int (ps t (c::s))))) (hj:lo[j]? =some (some (.str t))):EV Φ ⟨lo,H⟩ (.idx (.loc j) (.loc i)) (.str [c]) ⟨lo,H⟩:=
 EV.idx (EV.loc hj) (EV.loc hi) (ki x.at)
theorem xA {a b:Ch} (e:sx a=sx b):a=b:=by
 have h:a.map Char.toNat=b.map Char.toNat:=by simpa [sx] using e
 refine(List.map_inj_right ?_).mp h
 intro x y e
 exact Char.toNat_inj.mp e
theorem wn (a b:Ch):dX H .eq (.str a) (.str b)=some (a==b):=by
 have e:PyData.eqv (.str (sx a)) (.str (sx b))=(a==b):=by
  show(sx a==sx b)=(a==b)
  rw[Bool.eq_iff_iff,beq_iff_eq,beq_iff_eq]
  exact⟨xA,fun h=>h▸rfl⟩
 show some (PyData.eqv (.str (sx a)) (.str (sx b)))=_
 rw[e]
theorem Gi (a b:Ch):dX H .ne (.str a) (.str b)=some (!(a==b)):=by
 exact congrArg (Option.map (!·)) (wn (H:=H) a b)
theorem aH {e:E} {σ ah:St} {a b:Ch} (he:EV Φ σ e (.str a) ah):EV Φ σ (.cmp .eq e (.str b)) (.bool (a==b)) ah:=EV.cmp he EV.str (wn a b)
theorem jy {e:E} {σ ah:St} {a b:Ch} (he:EV Φ σ e (.str a) ah):EV Φ σ (.cmp .ne e (.str b)) (.bool (!(a==b))) ah:=EV.cmp he EV.str (Gi a b)
theorem cG {m:Nat} (x:bc t s) (hi:lo[i]? =some (some (.int (ps t s)))) (hj:lo[j]? =some (some (.str t))):EV Φ ⟨lo,H⟩ (.slc (.loc j) (.loc i) (.bin .add (.loc i) (.int m))) (.str (s.take m)) ⟨lo,H⟩:=by
 rw[←wM x.at m]
 exact EV.slc (EV.loc hj) (EV.loc hi) (EV.bin (EV.loc hi) EV.int rfl) x.at.lim
theorem gO (x:bc t (c::s)) (hi:lo[i]? =some (some (.int (ps t (c::s))))) (hj:lo[j]? =some (some (.str t))):EV Φ ⟨lo,H⟩ (.slc (.loc j) (.bin .add (.loc i) (.int 1)) (.bin .add (.loc i) (.int 2))) (.str (s.take 1)) ⟨lo,H⟩:=by
 rw[←Bg x.at 1]
 exact EV.slc (EV.loc hj) (EV.bin (EV.loc hi) EV.int rfl) (EV.bin (EV.loc hi) EV.int rfl) x.at.lim
theorem d5 {m:Int} {a b:Int} (h0:lo[i]? =some (some (.int a))) (hb:a+m=b) (hi:i<lo.length):eS Φ W (.aug i .add (.int m)) ⟨lo,H⟩=okR .next ⟨setL lo i (.int b),H⟩:=by
 subst hb
 exact uU h0 EV.int rfl hi
end
noncomputable def skipGaps:Ch→Ch
 |[]=>[]
 |c::r=>if iy c then skipGaps r else match c,r with
  |'\\','\n'::r'=>skipGaps r'
  |_,_=>c::r
theorem ey {c:Char} {r:Ch} (h:iy c=true):skipGaps (c::r)=skipGaps r:=by
 rw[skipGaps]
 ·simp[h]
 ·intro r' e1 e2;subst e1;simp[iy]at h
theorem fC {r:Ch}:skipGaps ('\\'::'\n'::r)=skipGaps r:=by rw[skipGaps];rfl
theorem fp {c:Char} {r:Ch} (h:iy c=false) (h2:¬ ∃r',c='\\'∧r='\n'::r'):skipGaps (c::r)=c::r:=by
 rw[skipGaps]
 ·simp[h]
 ·intro r' e1 e2;exact h2 ⟨r',e1,e2⟩
theorem bn:∀(s:Ch),∃p,s=p++skipGaps s
 |[]=>⟨[],rfl⟩
 |c::r=>by
  by_cases h:iy c=true
  ·obtain⟨p,hp⟩:=bn r
   exact⟨c::p,by rw[ey h,List.cons_append, ←hp]⟩
  ·by_cases h2:∃r',c='\\'∧r='\n'::r'
   ·obtain⟨r',rfl,rfl⟩:=h2
    obtain⟨p,hp⟩:=bn r'
    exact⟨'\\'::'\n'::p,by rw[fC,List.cons_append,List.cons_append, ←hp]⟩
   ·exact⟨[],by rw[fp (by simpa using h) h2];rfl⟩
section
variable {W n k:Nat} {t s r:Ch} {c:Char} {H:List O}
noncomputable def Bw:E:=.cmp .lt (.loc 1) (.len (.loc 0))
noncomputable def rN:Ss:=(.cons (.ife (.call .isGap (.cons (.idx (.loc 0) (.loc 1)) .nil)) (.cons (.aug 1 .add (.int 1)) .nil)
 (.cons (.ife (.cmp .eq (.slc (.loc 0) (.loc 1) (.bin .add (.loc 1) (.int 2))) (.str ['\\','\n'])) (.cons (.aug 1 .add (.int 2)) .nil) (.cons (.ret (.loc 1)) .nil)) .nil)) .nil)
theorem eH {c:Char} {r:Ch}:((c::r).take 2==['\\','\n'])=true↔∃r',c='\\'∧r='\n'::r':=by
 rcases r with _|⟨d,r⟩
 ·simp
 ·simp
theorem su:∀(m:Nat) (s:Ch) (k:Nat),s.length≤m→m<k→bc t s→(iter (tE (ay W (n+1)) Bw) (bF (ay W (n+1)) W rN) k ⟨[some (.str t),some (.int (ps t s))],H⟩=okR (.ret (.int (ps t (skipGaps s)))) ⟨[some (.str t),some (.int (ps t (skipGaps s)))],H⟩)∨
  (skipGaps s=[]∧iter (tE (ay W (n+1)) Bw) (bF (ay W (n+1)) W rN) k ⟨[some (.str t),some (.int (ps t s))],H⟩=okR .next ⟨[some (.str t),some (.int (ps t []))],H⟩)
 |m,[],k+1,_,_,x=>.inr ⟨rfl,bK (je x rfl rfl)⟩
 |m+1,c::r,k+1,hm,hk,x=>by
  have t1:=je (Φ:=ay W (n+1)) (lo:=[some (.str t),some (.int (ps t (c::r)))]) (H:=H) (i:=1) (j:=0) x rfl rfl
  have hg:EV (ay W (n+1)) ⟨[some (.str t),some (.int (ps t (c::r)))],H⟩ (.call .isGap (.cons (.idx (.loc 0) (.loc 1)) .nil)) (.bool (iy c)) ⟨[some (.str t),some (.int (ps t (c::r)))],H⟩:=
   EV.callP (aq.cons (dZ x rfl rfl) aq.nil) zE
  by_cases h:iy c=true
  ·rw[h]at hg
   have ih:=su m r k (by simpa using hm) (by omega) x.next
   rw[ey h]
   have st:bF (ay W (n+1)) W rN ⟨[some (.str t),some (.int (ps t (c::r)))],H⟩=okR .next ⟨[some (.str t),some (.int (ps t r))],H⟩:=ao (aB hg (ao (d5 rfl bC (show(1:Nat)<2 by decide))))
   rcases ih with ih|⟨e,ih⟩
   ·exact .inl (ba t1 st ih)
   ·exact .inr ⟨e,ba t1 st ih⟩
  ·have h':iy c=false:=by simpa using h
   rw[h']at hg
   have hc:=aH (b:=['\\','\n']) (cG (Φ:=ay W (n+1)) (lo:=[some (.str t),some (.int (ps t (c::r)))]) (H:=H) (i:=1) (j:=0) (m:=2) x rfl rfl)
   by_cases h2:∃r',c='\\'∧r='\n'::r'
   ·rw[eH.mpr h2]at hc
    obtain⟨r',rfl,rfl⟩:=h2
    have st:bF (ay W (n+1)) W rN ⟨[some (.str t),some (.int (ps t ('\\'::'\n'::r')))],H⟩=okR .next ⟨[some (.str t),some (.int (ps t r'))],H⟩:=
     ao (av hg (ao (aB hc (ao (d5 rfl fN (show(1:Nat)<2 by decide))))))
    cases m with
    |zero=>simp at hm
    |succ m=>
     have ih:=su m r' k (by simp at hm;omega) (by omega) x.next.next
     rw[fC]
     rcases ih with ih|⟨e,ih⟩
     ·exact .inl (ba t1 st ih)
     ·exact .inr ⟨e,ba t1 st ih⟩
   ·have hf:((c::r).take 2==['\\','\n'])=false:=by
     rw[Bool.eq_false_iff];exact fun q=>h2 (eH.mp q)
    rw[hf]at hc
    rw[fp h' h2]
    exact .inl (i8 t1 (ao (av hg (ao (av hc (ak (aK (EV.loc rfl))))))))
theorem ew (x:bc t s) (hW:10001<W):ay W (n+2) .skipGaps [.str t,.int (ps t s)] H=some (.ok (.int (ps t (skipGaps s))),H):=by
 have hl:=x.len
 have hs:=x.size
 rcases su (W:=W) (n:=n) (H:=H) s.length s W (Nat.le_refl _) (by omega) x with h|⟨e,h⟩
 ·exact aM (F:=kU) rfl rfl rfl (ak (cP h)) (List.take_length ..) rfl
 ·rw[e]
  exact aM (F:=kU) rfl rfl rfl (aa (cP h) (ak (aK (EV.loc rfl)))) (List.take_length ..) rfl
end
end Mine
end
section
namespace Mine
open PySem (PyData)
noncomputable def bB:Ch→Ch
 |[]=>[]
 |'\\'::[]=>[]
 |'\\'::_::r=>bB r
 |'\n'::r=>r
 |_::r=>bB r
theorem fh {c:Char} {r:Ch} (h1:c≠'\\') (h2:c≠'\n'):bB (c::r)=bB r:=by
 rw[bB]<;>simp[h1,h2]
theorem eh:∀(m:Nat) (s:Ch),s.length≤m→∃p,s=p++bB s
 |_,[],_=>⟨[],rfl⟩
 |m+1,c::r,h=>by
  by_cases h1:c='\\'
  ·subst h1
   cases r with
   |nil=>exact⟨['\\'],rfl⟩
   |cons d r=>
    obtain⟨p,hp⟩:=eh m r (by simp at h;omega)
    exact⟨'\\'::d::p,by rw[bB,List.cons_append,List.cons_append, ←hp]⟩
  ·by_cases h2:c='\n'
   ·subst h2;exact⟨['\n'],rfl⟩
   ·obtain⟨p,hp⟩:=eh m r (by simpa using h)
    exact⟨c::p,by rw[fh h1 h2,List.cons_append, ←hp]⟩
section
variable {W n k:Nat} {t s r:Ch} {c:Char} {H:List O}
noncomputable def Ah:E:=.cmp .lt (.loc 1) (.loc 2)
noncomputable def pG:Ss:=(.cons (.ife (.cmp .eq (.idx (.loc 0) (.loc 1)) (.str ['\\'])) (.cons (.aug 1 .add (.int 2)) .nil)
 (.cons (.ife (.cmp .eq (.idx (.loc 0) (.loc 1)) (.str ['\n'])) (.cons (.ret (.bin .add (.loc 1) (.int 1))) .nil) (.cons (.aug 1 .add (.int 1)) .nil)) .nil)) .nil)
noncomputable def gL (t:Ch) (a:Int):List (Option V):=[some (.str t),some (.int a),some (.int t.length)]
theorem bz {c d:Char} (h:c≠d):([c]==[d])=false:=by simpa using h
theorem rP {Φ:ci}:∀(m:Nat) (s:Ch) (k:Nat),s.length≤m→m<k→bc t s→(∃a,iter (tE Φ Ah) (bF Φ W pG) k ⟨gL t (ps t s),H⟩=okR (.ret (.int (ps t (bB s)))) ⟨gL t a,H⟩)∨
  (bB s=[]∧∃a,iter (tE Φ Ah) (bF Φ W pG) k ⟨gL t (ps t s),H⟩=okR .next ⟨gL t a,H⟩)
 |m,[],k+1,_,_,x=>.inr ⟨rfl,_,bK (iS x rfl rfl)⟩
 |m+1,c::r,k+1,hm,hk,x=>by
  have t1:=iS (Φ:=Φ) (lo:=gL t (ps t (c::r))) (H:=H) (i:=1) (j:=2) x rfl rfl
  have hc:=fun d=>aH (b:=[d]) (dZ (Φ:=Φ) (lo:=gL t (ps t (c::r))) (H:=H) (i:=1) (j:=0) x rfl rfl)
  by_cases h1:c='\\'
  ·subst h1
   cases r with
   |nil=>
    refine .inr ⟨rfl,ps t ['\\']+2,?_⟩
    have st:bF Φ W pG ⟨gL t (ps t ['\\']),H⟩=okR .next ⟨gL t (ps t ['\\']+2),H⟩:=ao (aB (hc '\\') (ao (d5 rfl rfl (show(1:Nat)<3 by decide))))
    cases k with
    |zero=>omega
    |succ k=>
     refine ba t1 st (bK (ah:=⟨gL t (ps t ['\\']+2),H⟩) (EV.cmp (EV.loc rfl) (EV.loc rfl) ?_))
     show some (decide (ps t ['\\']+2<(t.length:Int)))=some false
     rw[decide_eq_false]
     have:ps t ['\\']=(t.length:Int)-1:=rfl
     omega
   |cons d r=>
    have st:bF Φ W pG ⟨gL t (ps t ('\\'::d::r)),H⟩=okR .next ⟨gL t (ps t r),H⟩:=ao (aB (hc '\\') (ao (d5 rfl fN (show(1:Nat)<3 by decide))))
    cases m with
    |zero=>simp at hm
    |succ m=>
     rw[show bB ('\\'::d::r)=bB r by rw[bB]]
     rcases rP m r k (by simp at hm;omega) (by omega) x.next.next with⟨a,ih⟩|⟨e,a,ih⟩
     ·exact .inl ⟨a,ba t1 st ih⟩
     ·exact .inr ⟨e,a,ba t1 st ih⟩
  ·have hn:=hc '\\'
   rw[bz h1]at hn
   by_cases h2:c='\n'
   ·subst h2
    refine .inl ⟨_,i8 t1 (ao (av hn (ao (aB (hc '\n') (ak (aK (EV.bin (EV.loc rfl) EV.int ?_)))))))⟩
    show some (V.int (ps t ('\n'::r)+1))=_
    rw[bC];rfl
   ·have hn2:=hc '\n'
    rw[bz h2]at hn2
    have st:bF Φ W pG ⟨gL t (ps t (c::r)),H⟩=okR .next ⟨gL t (ps t r),H⟩:=ao (av hn (ao (av hn2 (ao (d5 rfl bC (show(1:Nat)<3 by decide))))))
    rw[fh h1 h2]
    rcases rP m r k (by simpa using hm) (by omega) x.next with⟨a,ih⟩|⟨e,a,ih⟩
    ·exact .inl ⟨a,ba t1 st ih⟩
    ·exact .inr ⟨e,a,ba t1 st ih⟩
theorem lA (x:bc t s) (hW:10001<W):ay W (n+1) .commentBehind [.str t,.int (ps t s)] H=some (.ok (.int (ps t (bB s))),H):=by
 have hl:=x.len
 have hs:=x.size
 have first:eS (ay W n) W (.asg 2 (.len (.loc 0))) ⟨[some (.str t),some (.int (ps t s)),none],H⟩=okR .next ⟨gL t (ps t s),H⟩:=aV (EV.len (EV.loc rfl) x.at.lim) (show(2:Nat)<3 by decide)
 rcases rP (W:=W) (Φ:=ay W n) (H:=H) s.length s W (Nat.le_refl _) (by omega) x with⟨a,h⟩|⟨e,a,h⟩
 ·exact aM (F:=fW) rfl rfl rfl (aa first (ak (cP h))) (List.take_length ..) rfl
 ·rw[e,fU]
  exact aM (F:=fW) rfl rfl rfl (aa first (aa (cP h) (ak (aK (EV.loc rfl))))) (List.take_length ..) rfl
end
noncomputable def b8:Nat→Ch→Ch
 |0,s=>s
 |k+1,s=>match skipGaps s with
  |'\n'::r=>b8 k r
  |';'::r=>b8 k r
  |'#'::r=>b8 k (bB ('#'::r))
  |s'=>s'
noncomputable def bh (s:Ch):Ch:=b8 (s.length+1) s
theorem dU (s:Ch):(skipGaps s).length≤s.length:=by
 obtain⟨p,h⟩:=bn s
 have:=congrArg List.length h
 simp at this;omega
theorem jr (s:Ch):(bB s).length≤s.length:=by
 obtain⟨p,h⟩:=eh s.length s (Nat.le_refl _)
 have:=congrArg List.length h
 simp at this;omega
theorem iH (r:Ch):bB ('#'::r)=bB r:=fh (by decide) (by decide)
noncomputable def iM (c:Char):Bool:=c=='\n'||c==';'||c=='#'
set_option tactic.hygienic true in
theorem fe {k:Nat} {s:Ch} (h:∀c r,skipGaps s=c::r→iM c=false):b8 (k+1) s=skipGaps s:=by
 rw[b8]
 split
 ·rename_i r e;have:=h _ _ e;simp[iM]at this
 ·rename_i r e;have:=h _ _ e;simp[iM]at this
 ·rename_i r e;have:=h _ _ e;simp[iM]at this
 ·rfl
set_option tactic.hygienic true in
theorem jM:∀(k:Nat) (s:Ch),∃p,s=p++b8 k s
 |0,s=>⟨[],rfl⟩
 |k+1,s=>by
  obtain⟨p,hp⟩:=bn s
  rw[b8]
  split
  ·rename_i r e
   obtain⟨q,hq⟩:=jM k r
   exact⟨p++'\n'::q,by rw[List.append_assoc,List.cons_append, ←hq, ←e, ←hp]⟩
  ·rename_i r e
   obtain⟨q,hq⟩:=jM k r
   exact⟨p++';'::q,by rw[List.append_assoc,List.cons_append, ←hq, ←e, ←hp]⟩
  ·rename_i r e
   obtain⟨q,hq⟩:=jM k (bB ('#'::r))
   obtain⟨b,hb⟩:=eh _ ('#'::r) (Nat.le_refl _)
   exact⟨p++(b++q),by rw[List.append_assoc,List.append_assoc, ←hq, ←hb, ←e, ←hp]⟩
  ·exact⟨p,hp⟩
theorem bZ (s:Ch):∃p,s=p++bh s:=jM _ _
end Mine
end
section
namespace Mine
open PySem (PyData)
section
variable {W n k:Nat} {t s r:Ch} {c:Char} {H:List O} {Φ:ci}
noncomputable def Ha:Es:=.cons (.str ['\n']) (.cons (.str [';']) (.cons (.str ['#']) .nil))
noncomputable def oG:Ch→Bool
 |[]=>false
 |c::_=>iM c
theorem El (s:Ch):dX H .inn (.str (s.take 1)) (.tup [.str ['\n'],.str [';'],.str ['#']])=some (oG s):=by
 have:dX H .inn (.str (s.take 1)) (.tup [.str ['\n'],.str [';'],.str ['#']])=some ([['\n'],[';'],['#']].contains (s.take 1)):=by
  cases s with
  |nil=>rfl
  |cons c r=>rfl
 rw[this]
 cases s with
 |nil=>rfl
 |cons c r=>
  congr 1
  rw[Bool.eq_iff_iff]
  simp[oG,iM,or_assoc]
noncomputable def Bc:E:=.cmp .inn (.slc (.loc 0) (.loc 1) (.bin .add (.loc 1) (.int 1))) (.tup Ha)
noncomputable def FT:Ss:=(.cons (.ife (.cmp .eq (.idx (.loc 0) (.loc 1)) (.str ['#'])) (.cons (.asg 1 (.call .commentBehind (.cons (.loc 0) (.cons (.loc 1) .nil)))) .nil) (.cons (.aug 1 .add (.int 1)) .nil))
 (.cons (.asg 1 (.call .skipGaps (.cons (.loc 0) (.cons (.loc 1) .nil)))) .nil))
noncomputable def nA (t:Ch) (a:Int):List (Option V):=[some (.str t),some (.int a)]
theorem yP (x:bc t s):EV Φ ⟨nA t (ps t s),H⟩ Bc (.bool (oG s)) ⟨nA t (ps t s),H⟩:=
 EV.cmp (cG (m:=1) x rfl rfl) (EV.tup (aq.cons EV.str (aq.cons EV.str (aq.cons EV.str aq.nil)))) (El s)
theorem sV (hW:10001<W):∀(m:Nat) (s:Ch) (k:Nat),s.length<m→m<k→bc t s→
  iter (tE (ay W (n+2)) Bc) (bF (ay W (n+2)) W FT) k ⟨nA t (ps t (skipGaps s)),H⟩=okR .next ⟨nA t (ps t (b8 m s)),H⟩
 |m+1,s,k+1,hm,hk,x=>by
  have xs:=x.of (bn s)
  have hl:=dU s
  have t1:=yP (Φ:=ay W (n+2)) (H:=H) xs
  cases e:skipGaps s with
  |nil=>
   rw[e]at t1
   rw[fe (fun c r q=>by rw[e]at q;cases q),e]
   exact bK t1
  |cons c r=>
   rw[e]at t1 xs hl
   simp only[List.length_cons]at hl
   by_cases h:iM c=true
   ·rw[show oG (c::r)=true from h]at t1
    have hc:=aH (b:=['#']) (dZ (Φ:=ay W (n+2)) (lo:=nA t (ps t (c::r))) (H:=H) (i:=1) (j:=0) xs rfl rfl)
    by_cases hh:c='#'
    ·subst hh
     have xb:=xs.of (eh _ _ (Nat.le_refl _))
     have bl:=jr r
     have ih:=sV hW m (bB ('#'::r)) k (by rw[iH];omega) (by omega) xb
     have e3:b8 (m+1) s=b8 m (bB ('#'::r)):=by rw[b8,e];rfl
     rw[e3]
     exact ba t1 (aa (aB hc (ao (aV (EV.callP (aq.cons (EV.loc rfl) (aq.cons (EV.loc rfl) aq.nil)) (lA xs hW)) (show(1:Nat)<2 by decide))))
      (ao (aV (EV.callP (aq.cons (EV.loc rfl) (aq.cons (EV.loc rfl) aq.nil)) (ew xb hW)) (show(1:Nat)<2 by decide)))) ih
    ·rw[bz hh]at hc
     have ih:=sV hW m r k (by omega) (by omega) xs.next
     have e3:b8 (m+1) s=b8 m r:=by
      rw[b8,e]
      simp only[iM,Bool.or_eq_true,beq_iff_eq]at h
      rcases h with(rfl|rfl)|rfl
      ·rfl
      ·rfl
      ·exact(hh rfl).elim
     rw[e3]
     exact ba t1 (aa (av hc (ao (d5 rfl bC (show(1:Nat)<2 by decide))))
      (ao (aV (EV.callP (aq.cons (EV.loc rfl) (aq.cons (EV.loc rfl) aq.nil)) (ew xs.next hW)) (show(1:Nat)<2 by decide)))) ih
   ·have h':iM c=false:=by simpa using h
    rw[show oG (c::r)=false from h']at t1
    rw[fe (fun d q z=>by rw[e]at z;cases z;exact h'),e]
    exact bK t1
theorem eA (x:bc t s) (hW:10002<W):ay W (n+3) .skipToCommand [.str t,.int (ps t s)] H=some (.ok (.int (ps t (bh s))),H):=by
 have hl:=x.len
 have hs:=x.size
 exact aM (F:=ja) rfl rfl rfl (aa (aV (EV.callP (aq.cons (EV.loc rfl) (aq.cons (EV.loc rfl) aq.nil)) (ew x (by omega))) (show(1:Nat)<2 by decide))
  (aa (cP (sV (by omega) (s.length+1) s W (by omega) (by omega) x)) (ak (aK (EV.loc rfl))))) (List.take_length ..) rfl
end
noncomputable def GL (c:Char):Int:=if 48≤(c.toNat:Int)∧(c.toNat:Int)≤57 then c.toNat-48 else if 97≤(c.toNat:Int)∧(c.toNat:Int)≤122 then c.toNat-87 else if 65≤(c.toNat:Int)∧(c.toNat:Int)≤90 then c.toNat-55 else-1
noncomputable def dz (c:Char):Bool:=c=='_'||decide (GL c≥0)
section
variable {W n k:Nat} {t s r:Ch} {c:Char} {H:List O} {Φ:ci}
theorem wF {σ:St} {i:Nat} {x lo hi:Int} (h:σ.loc[i]? =some (some (.int x))):EV Φ σ (.cmp2 .le .le (.int lo) (.loc i) (.int hi)) (.bool (decide (lo≤x∧x≤hi))) σ:=by
 by_cases h1:lo≤x
 ·have:=EV.cmp2t (o1:=.le) (o2:=.le) (Φ:=Φ) (EV.int (i:=lo)) (EV.loc h) (congrArg some (decide_eq_true h1)) (EV.int (i:=hi)) (r:=decide (x≤hi)) rfl
  simpa [h1] using this
 ·have:=EV.cmp2f (o1:=.le) (o2:=.le) (c:=.int hi) (Φ:=Φ) (EV.int (i:=lo)) (EV.loc h) (congrArg some (decide_eq_false h1))
  simpa [h1] using this
theorem zy {c:Char}:ay W (n+1) .digit [.str [c]] H=some (.ok (.int (GL c)),H):=by
 have h0:EV (ay W n) ⟨[some (.str [c]),none],H⟩ (.cmp .ne (.len (.loc 0)) (.int 1)) (.bool false) ⟨[some (.str [c]),none],H⟩:=EV.cmp (EV.len (EV.loc rfl) (by simp[dC])) EV.int rfl
 have h1:eS (ay W n) W (.asg 1 (.ord (.loc 0))) ⟨[some (.str [c]),none],H⟩=okR .next ⟨[some (.str [c]),some (.int c.toNat)],H⟩:=aV (EV.ord (EV.loc rfl)) (show(1:Nat)<2 by decide)
 have key:bF (ay W n) W yx ⟨[some (.str [c]),none],H⟩=okR (.ret (.int (GL c))) ⟨[some (.str [c]),some (.int c.toNat)],H⟩:=by
  refine aa (av h0 aw) (aa h1 ?_)
  unfold GL
  have a1:=wF (Φ:=ay W n) (σ:=⟨[some (.str [c]),some (.int c.toNat)],H⟩) (i:=1) (x:=c.toNat) (lo:=48) (hi:=57) rfl
  have a2:=wF (Φ:=ay W n) (σ:=⟨[some (.str [c]),some (.int c.toNat)],H⟩) (i:=1) (x:=c.toNat) (lo:=97) (hi:=122) rfl
  have a3:=wF (Φ:=ay W n) (σ:=⟨[some (.str [c]),some (.int c.toNat)],H⟩) (i:=1) (x:=c.toNat) (lo:=65) (hi:=90) rfl
  split
  ·rename_i h;rw[decide_eq_true h]at a1
   exact ak (aB a1 (ak (aK (EV.bin (EV.loc rfl) EV.int rfl))))
  ·rename_i h;rw[decide_eq_false h]at a1
   refine aa (av a1 aw) ?_
   split
   ·rename_i h;rw[decide_eq_true h]at a2
    exact ak (aB a2 (ak (aK (EV.bin (EV.loc rfl) EV.int rfl))))
   ·rename_i h;rw[decide_eq_false h]at a2
    refine aa (av a2 aw) ?_
    split
    ·rename_i h;rw[decide_eq_true h]at a3
     exact ak (aB a3 (ak (aK (EV.bin (EV.loc rfl) EV.int rfl))))
    ·rename_i h;rw[decide_eq_false h]at a3
     exact aa (av a3 aw) (ak (aK EV.negc))
 exact aM (F:=xG) rfl rfl rfl key (List.take_length ..) rfl
end
end Mine
end
section
namespace Mine
open PySem (PyData)
noncomputable def fM:Ch:=['a','b','c','d','e','f','g','h','i','j','k','l','m','n','o','p','q','r','s','t','u','v','w','x','y','z','A','B','C','D','E','F','G','H','I','J','K','L','M','N','O','P','Q','R','S','T','U','V','W','X','Y','Z','0','1','2','3','4','5','6','7','8','9','_']
theorem uL:∀k:Fin 128,dz (Char.ofNat k)=fM.contains (Char.ofNat k):=by decide +kernel
theorem wy (c:Char):fM.contains c=dz c:=by
 by_cases h:c.toNat<128
 ·have:=uL ⟨c.toNat,h⟩
  simp only[Char.ofNat_toNat]at this
  exact this.symm
 ·have h1:fM.contains c=false:=by
   rw[Bool.eq_false_iff]
   intro q
   have q:=List.contains_iff_mem.mp q
   have all:∀d∈fM,d.toNat<128:=by decide +kernel
   exact h (all c q)
  have h2:dz c=false:=by
   unfold dz GL
   rw[if_neg (by omega),if_neg (by omega),if_neg (by omega)]
   have:c≠'_':=fun q=>by subst q;exact h (by decide)
   simp[this]
  rw[h1,h2]
noncomputable def aX:Bool→Ch→Ch
 |_,[]=>[]
 |b,c::r=>if dz c then aX false r else if c=':' then(if b then aX true r else match r with
   |':'::r'=>aX true r'
   |_=>c::r)else c::r
noncomputable def b7:Ch→Ch
 |':'::r=>b7 r
 |s=>s
theorem iY:dz ':'=false:=by decide
theorem d0 {b:Bool} {c:Char} {r:Ch} (h:dz c=true):aX b (c::r)=aX false r:=by rw[aX.eq_def];simp[h]
theorem fJ {b:Bool} {c:Char} {r:Ch} (h:dz c=false) (h2:c≠':'):aX b (c::r)=c::r:=by rw[aX.eq_def];simp[h,h2]
theorem tY {r:Ch}:aX true (':'::r)=aX true r:=by rw[aX.eq_def];simp[iY]
theorem pJ {r:Ch}:aX false (':'::':'::r)=aX true r:=by rw[aX.eq_def];simp[iY]
theorem pM {r:Ch} (h:∀r',r≠':'::r'):aX false (':'::r)=':'::r:=by
 rw[aX.eq_def]
 simp only[iY,Bool.false_eq_true,if_false,if_true]
 all_goals (split<;>first|rfl|(rename_i r';exact(h _ rfl).elim))
theorem gZ:∀(s:Ch),aX true s=aX false (b7 s)
 |[]=>rfl
 |c::r=>by
  by_cases h:c=':'
  ·subst h
   rw[tY,b7,gZ r]
  ·have e:b7 (c::r)=c::r:=by rw[b7];intro r' q;cases q;exact h rfl
   rw[e]
   by_cases hl:dz c=true
   ·rw[d0 hl,d0 hl]
   ·rw[fJ (by simpa using hl) h,fJ (by simpa using hl) h]
theorem kF:∀(s:Ch),∃p,s=p++b7 s∧p=List.replicate p.length ':'
 |[]=>⟨[],rfl,rfl⟩
 |c::r=>by
  by_cases h:c=':'
  ·subst h
   obtain⟨p,hp,hq⟩:=kF r
   exact⟨':'::p,by rw[b7,List.cons_append, ←hp],by rw[List.length_cons,List.replicate_succ, ←hq]⟩
  ·have e:b7 (c::r)=c::r:=by rw[b7];intro r' q;cases q;exact h rfl
   exact⟨[],by rw[e];rfl,rfl⟩
theorem vU (s:Ch):(b7 s).length≤s.length:=by
 obtain⟨p,h,_⟩:=kF s
 have:=congrArg List.length h
 simp at this;omega
theorem iN:∀(m:Nat) (b:Bool) (s:Ch),s.length≤m→∃p,s=p++aX b s
 |_,_,[],_=>⟨[],by rw[aX];rfl⟩
 |m+1,b,c::r,hm=>by
  have hm':r.length≤m:=by simpa using hm
  by_cases hl:dz c=true
  ·obtain⟨p,hp⟩:=iN m false r hm'
   exact⟨c::p,by rw[d0 hl,List.cons_append, ←hp]⟩
  ·by_cases h:c=':'
   ·subst h
    cases b with
    |true=>
     obtain⟨p,hp⟩:=iN m true r hm'
     exact⟨':'::p,by rw[tY,List.cons_append, ←hp]⟩
    |false=>
     by_cases h2:∃r',r=':'::r'
     ·obtain⟨r',rfl⟩:=h2
      obtain⟨p,hp⟩:=iN m true r' (by simp at hm';omega)
      exact⟨':'::':'::p,by rw[pJ,List.cons_append,List.cons_append, ←hp]⟩
     ·exact⟨[],by rw[pM fun r' q=>h2 ⟨r',q⟩];rfl⟩
   ·exact⟨[],by rw[fJ (by simpa using hl) h];rfl⟩
section
variable {W n k:Nat} {t s r:Ch} {c:Char} {H:List O} {Φ:ci}
noncomputable def gM:Ch→Bool
 |':'::_=>true
 |_=>false
theorem kc (s:Ch):(s.take 1==[':'])=gM s:=by
 rcases s with _|⟨c,r⟩
 ·rfl
 ·by_cases h:c=':'
  ·subst h;rfl
  ·have:gM (c::r)=false:=by unfold gM;split<;>first|rfl|(rename_i q;cases q;exact(h rfl).elim)
   rw[this];simpa using h
theorem ze (s:Ch):(s.take 2==[':',':'])=(gM s&&gM (s.drop 1)):=by
 rcases s with _|⟨c,r⟩
 ·rfl
 ·have h1:=kc (c::r)
  have h2:=kc r
  rcases r with _|⟨d,r⟩
  ·simp[gM]
  ·rw[show(c::d::r).drop 1=d::r from rfl, ←h1, ←h2]
   rw[Bool.eq_iff_iff];simp
noncomputable def AN:E:=.cmp .eq (.slc (.loc 0) (.loc 1) (.bin .add (.loc 1) (.int 1))) (.str [':'])
noncomputable def B4:Ss:=.cons (.aug 1 .add (.int 1)) .nil
theorem yG:∀(s:Ch) (k:Nat),s.length<k→bc t s→iter (tE Φ AN) (bF Φ W B4) k ⟨nA t (ps t s),H⟩=okR .next ⟨nA t (ps t (b7 s)),H⟩
 |s,k+1,hk,x=>by
  have t1:=aH (b:=[':']) (cG (Φ:=Φ) (lo:=nA t (ps t s)) (H:=H) (i:=1) (j:=0) (m:=1) x rfl rfl)
  rw[kc]at t1
  rcases s with _|⟨c,r⟩
  ·exact bK t1
  ·by_cases h:c=':'
   ·subst h
    rw[b7]
    exact ba t1 (ao (d5 rfl bC (show(1:Nat)<2 by decide))) (yG r k (by simp at hk;omega) x.next)
   ·have e:gM (c::r)=false:=by unfold gM;split<;>first|rfl|(rename_i q;cases q;exact(h rfl).elim)
    rw[e]at t1
    have e2:b7 (c::r)=c::r:=by rw[b7];intro r' q;cases q;exact h rfl
    rw[e2]
    exact bK t1
noncomputable def zY:E:=.cmp .lt (.loc 1) (.len (.loc 0))
noncomputable def sO:Ss:=(.cons (.ife (.or (.cons (.cmp .eq (.idx (.loc 0) (.loc 1)) (.str ['_'])) (.cons (.cmp .ge (.call .digit (.cons (.idx (.loc 0) (.loc 1)) .nil)) (.int 0)) .nil))) (.cons (.aug 1 .add (.int 1)) .nil)
 (.cons (.ife (.cmp .eq (.slc (.loc 0) (.loc 1) (.bin .add (.loc 1) (.int 2))) (.str [':',':'])) (.cons (.aug 1 .add (.int 2)) (.cons (.whl AN B4) .nil)) (.cons (.ret (.loc 1)) .nil)) .nil)) .nil)
theorem zx (x:bc t (c::s)):EV (ay W (n+1)) ⟨nA t (ps t (c::s)),H⟩ (.or (.cons (.cmp .eq (.idx (.loc 0) (.loc 1)) (.str ['_'])) (.cons (.cmp .ge (.call .digit (.cons (.idx (.loc 0) (.loc 1)) .nil)) (.int 0)) .nil))) (.bool (dz c)) ⟨nA t (ps t (c::s)),H⟩:=by
 have h1:=aH (b:=['_']) (dZ (Φ:=ay W (n+1)) (lo:=nA t (ps t (c::s))) (H:=H) (i:=1) (j:=0) x rfl rfl)
 have h2:EV (ay W (n+1)) ⟨nA t (ps t (c::s)),H⟩ (.cmp .ge (.call .digit (.cons (.idx (.loc 0) (.loc 1)) .nil)) (.int 0)) (.bool (decide (GL c≥0))) ⟨nA t (ps t (c::s)),H⟩:=
  EV.cmp (EV.callP (aq.cons (dZ x rfl rfl) aq.nil) zy) EV.int rfl
 have:=EV.or2 h1 fun _=>h2
 rwa[show(([c]==['_'])||decide (GL c≥0))=dz c by unfold dz;congr 1;rw[Bool.eq_iff_iff];simp]at this
theorem sy (hW:10001<W):∀(m:Nat) (s:Ch) (k:Nat),s.length≤m→m<k→bc t s→(∃a,iter (tE (ay W (n+1)) zY) (bF (ay W (n+1)) W sO) k ⟨nA t (ps t s),H⟩=okR (.ret (.int (ps t (aX false s)))) ⟨nA t a,H⟩)∨
  (aX false s=[]∧iter (tE (ay W (n+1)) zY) (bF (ay W (n+1)) W sO) k ⟨nA t (ps t s),H⟩=okR .next ⟨nA t (ps t []),H⟩)
 |m,[],k+1,_,_,x=>.inr ⟨by rw[aX],bK (je x rfl rfl)⟩
 |m+1,c::r,k+1,hm,hk,x=>by
  have hm':r.length≤m:=by simpa using hm
  have t1:=je (Φ:=ay W (n+1)) (lo:=nA t (ps t (c::r))) (H:=H) (i:=1) (j:=0) x rfl rfl
  have hg:=zx (W:=W) (n:=n) (H:=H) x
  by_cases h:dz c=true
  ·rw[h]at hg
   have st:bF (ay W (n+1)) W sO ⟨nA t (ps t (c::r)),H⟩=okR .next ⟨nA t (ps t r),H⟩:=ao (aB hg (ao (d5 rfl bC (show(1:Nat)<2 by decide))))
   rw[d0 h]
   rcases sy hW m r k hm' (by omega) x.next with⟨a,ih⟩|⟨e,ih⟩
   ·exact .inl ⟨a,ba t1 st ih⟩
   ·exact .inr ⟨e,ba t1 st ih⟩
  ·have h':dz c=false:=by simpa using h
   rw[h']at hg
   have hc:=aH (b:=[':',':']) (cG (Φ:=ay W (n+1)) (lo:=nA t (ps t (c::r))) (H:=H) (i:=1) (j:=0) (m:=2) x rfl rfl)
   rw[ze]at hc
   by_cases h2:∃r',c=':'∧r=':'::r'
   ·obtain⟨r',rfl,rfl⟩:=h2
    have cl:=vU r'
    have xc:bc t (b7 r'):=x.next.next.of (let ⟨p,hp,_⟩:=kF r';⟨p,hp⟩)
    have hs:=x.size
    have xl:=x.len
    have st:bF (ay W (n+1)) W sO ⟨nA t (ps t (':'::':'::r')),H⟩=okR .next ⟨nA t (ps t (b7 r')),H⟩:=
     ao (av hg (ao (aB hc (aa (d5 rfl fN (show(1:Nat)<2 by decide)) (ao (cP (yG r' W (by simp at hs;omega) x.next.next)))))))
    rw[pJ,gZ]
    cases m with
    |zero=>simp at hm'
    |succ m=>
     rcases sy hW m (b7 r') k (by simp at hm';omega) (by omega) xc with⟨a,ih⟩|⟨e,ih⟩
     ·exact .inl ⟨a,ba t1 st ih⟩
     ·exact .inr ⟨e,ba t1 st ih⟩
   ·have hf:(gM (c::r)&&gM r)=false:=by
     rw[Bool.eq_false_iff]
     intro q
     rw[Bool.and_eq_true]at q
     refine h2 ?_
     have a:c=':':=by have:=q.1;unfold gM at this;split at this<;>first|(rename_i z;cases z;rfl)|cases this
     have b:∃r',r=':'::r':=by have:=q.2;unfold gM at this;split at this<;>first|exact⟨_,rfl⟩|cases this
     obtain⟨r',hr⟩:=b
     exact⟨r',a,hr⟩
    rw[show(c::r).drop 1=r from rfl,hf]at hc
    have e:aX false (c::r)=c::r:=by
     by_cases h3:c=':'
     ·subst h3;exact pM fun r' q=>h2 ⟨r',rfl,q⟩
     ·exact fJ h' h3
    rw[e]
    exact .inl ⟨_,i8 t1 (ao (av hg (ao (av hc (ak (aK (EV.loc rfl)))))))⟩
theorem sW (x:bc t s) (hW:10001<W):ay W (n+2) .readName [.str t,.int (ps t s)] H=some (.ok (.int (ps t (aX false s))),H):=by
 have hl:=x.len
 have hs:=x.size
 rcases sy (W:=W) (n:=n) (H:=H) hW s.length s W (Nat.le_refl _) (by omega) x with⟨a,h⟩|⟨e,h⟩
 ·exact aM (F:=kG) rfl rfl rfl (ak (cP h)) (List.take_length ..) rfl
 ·rw[e]
  exact aM (F:=kG) rfl rfl rfl (aa (cP h) (ak (aK (EV.loc rfl)))) (List.take_length ..) rfl
end
end Mine
end
section
namespace Mine
open PySem (PyData)
noncomputable def GN (c:Char):Char:=if c='a' then '\x07' else if c='b' then '\x08' else if c='f' then '\x0c' else if c='n' then '\n' else if c='r' then '\r' else if c='t' then '\t' else if c='v' then '\x0b' else c
noncomputable def sG:Ch:=['a','b','f','n','r','t','v']
noncomputable def tq:Ch:=['x','u','U','0','1','2','3','4','5','6','7']
noncomputable def bJ:Ch→Ch
 |[]=>[]
 |c::r=>if c=' '∨c='\t' then bJ r else c::r
noncomputable def cE:Ch→Ch×Ch
 |[]=>(['\\'],[])
 |c::r=>if c='\n' then([' '],bJ r)else([GN c],r)
theorem dj:∀(s:Ch),∃p,s=p++bJ s
 |[]=>⟨[],rfl⟩
 |c::r=>by
  rw[bJ]
  split
  ·obtain⟨p,hp⟩:=dj r
   exact⟨c::p,by rw[List.cons_append, ←hp]⟩
  ·exact⟨[],rfl⟩
set_option tactic.hygienic true in
theorem lG (s:Ch):∃p,s=p++(cE s).2:=by
 unfold cE
 split
 ·exact⟨[],rfl⟩
 ·rename_i c r
  split
  ·obtain⟨p,hp⟩:=dj r
   exact⟨c::p,by rw[List.cons_append, ←hp]⟩
  ·exact⟨[c],rfl⟩
theorem qD {c:Char} (h:c∉sG):GN c=c:=by
 simp only[sG,List.mem_cons,List.not_mem_nil,or_false,not_or]at h
 unfold GN
 rw[if_neg h.1,if_neg h.2.1,if_neg h.2.2.1,if_neg h.2.2.2.1,if_neg h.2.2.2.2.1,if_neg h.2.2.2.2.2.1,if_neg h.2.2.2.2.2.2]
section
variable {W n k:Nat} {t s r:Ch} {c:Char} {H:List O} {Φ:ci} {lo:List (Option V)} {i j:Nat}
noncomputable def nS:Ch→Bool
 |[]=>false
 |c::_=>decide (c=' '∨c='\t')
theorem Bt (s:Ch):dX H .inn (.str (s.take 1)) (.tup [.str [' '],.str ['\t']])=some (nS s):=by
 have:dX H .inn (.str (s.take 1)) (.tup [.str [' '],.str ['\t']])=some ([[' '],['\t']].contains (s.take 1)):=by
  cases s with
  |nil=>rfl
  |cons c r=>rfl
 rw[this]
 cases s with
 |nil=>rfl
 |cons c r=>
  congr 1
  rw[Bool.eq_iff_iff]
  simp[nS]
noncomputable def Cp:E:=.cmp .inn (.slc (.loc 0) (.loc 4) (.bin .add (.loc 4) (.int 1))) (.tup (.cons (.str [' ']) (.cons (.str ['\t']) .nil)))
noncomputable def Fe:Ss:=.cons (.aug 4 .add (.int 1)) .nil
theorem w6 {b c d:Option V}:∀(s:Ch) (k:Nat),s.length<k→bc t s→iter (tE Φ Cp) (bF Φ W Fe) k ⟨[some (.str t),b,c,d,some (.int (ps t s))],H⟩=okR .next ⟨[some (.str t),b,c,d,some (.int (ps t (bJ s)))],H⟩
 |s,k+1,hk,x=>by
  have t1:EV Φ ⟨[some (.str t),b,c,d,some (.int (ps t s))],H⟩ Cp _ ⟨[some (.str t),b,c,d,some (.int (ps t s))],H⟩:=EV.cmp (cG (i:=4) (j:=0) (m:=1) x rfl rfl) (EV.tup (aq.cons EV.str (aq.cons EV.str aq.nil))) (Bt s)
  rcases s with _|⟨e,r⟩
  ·exact bK t1
  ·by_cases h:e=' '∨e='\t'
   ·rw[show nS (e::r)=true from decide_eq_true h]at t1
    rw[bJ,if_pos h]
    exact ba t1 (ao (d5 rfl bC (show(4:Nat)<5 by decide))) (w6 r k (by simp at hk;omega) x.next)
   ·rw[show nS (e::r)=false from decide_eq_false h]at t1
    rw[bJ,if_neg h]
    exact bK t1
theorem zC {c:Char} {l:Ch} (h:c∉l):jz c l 0= -1:=by
 unfold jz
 have:(l.drop 0).findIdx? (· ==c)=none:=by
  rw[List.findIdx?_eq_none_iff]
  intro y hy
  rw[beq_eq_false_iff_ne]
  exact fun q=>h (q▸(by simpa using hy))
 rw[this]
theorem kY {x:Ch} {vs:List V} {ls:List Ch} (h:dW vs=some ls):dX H .inn (.str x) (.tup vs)=some (ls.contains x):=by
 exact Bh h
theorem Hi {c:Char} {l:Ch} (h:c∉l):(l.map fun d=>[d]).contains [c]=false:=by
 rw[Bool.eq_false_iff]
 intro q
 obtain⟨d,hd,e⟩:=List.mem_map.mp (List.contains_iff_mem.mp q)
 exact h (List.head_eq_of_cons_eq e▸hd)
noncomputable def mo (t s:Ch) (c d e:Option V):List (Option V):=[some (.str t),some (.int (ps t s)),c,d,e]
theorem kz (x:bc t ('\\'::s)) (hok:∀c r,s=c::r→c∉tq) (hW:10002<W):ay W (n+1) .backslash [.str t,.int (ps t ('\\'::s))] H=some (.ok (.tup [.str (cE s).1,.int (ps t (cE s).2)]),H):=by
 have hl:=x.len
 have hs:=x.size
 have a1:eS (ay W n) W (.asg 2 (.slc (.loc 0) (.bin .add (.loc 1) (.int 1)) (.bin .add (.loc 1) (.int 2)))) ⟨mo t ('\\'::s) none none none,H⟩=okR .next ⟨mo t ('\\'::s) (some (.str (s.take 1))) none none,H⟩:=
  aV (gO x rfl rfl) (show(2:Nat)<5 by decide)
 have c1:=aH (Φ:=ay W n) (σ:=⟨mo t ('\\'::s) (some (.str (s.take 1))) none none,H⟩) (b:=[]) (EV.loc (i:=2) rfl)
 rcases s with _|⟨c,r⟩
 ·refine aM (F:=fH) rfl rfl rfl (aa a1 (ak (aB c1 (ak (aK (EV.tup (aq.cons EV.str (aq.cons (EV.bin (EV.loc rfl) EV.int ?_) aq.nil)))))))) (List.take_length ..) rfl
  show some (V.int (ps t ['\\']+1))=_
  rw[bC];rfl
 ·have c1':EV (ay W n) ⟨mo t ('\\'::c::r) (some (.str [c])) none none,H⟩ (.cmp .eq (.loc 2) (.str [])) (.bool false) _:=c1
  have a2:eS (ay W n) W (.asg 3 (.find1 (.str ['a','b','f','n','r','t','v']) (.loc 2))) ⟨mo t ('\\'::c::r) (some (.str [c])) none none,H⟩=
    okR .next ⟨mo t ('\\'::c::r) (some (.str [c])) (some (.int (jz c sG 0))) none,H⟩:=aV (EV.find1 EV.str (EV.loc rfl)) (show(3:Nat)<5 by decide)
  have plus2:∀{lo:List (Option V)},lo[1]? =some (some (.int (ps t ('\\'::c::r))))→EV (ay W n) ⟨lo,H⟩ (.bin .add (.loc 1) (.int 2)) (.int (ps t r)) ⟨lo,H⟩:=fun {lo} h=>by
   rw[←fN (t:=t) (c:='\\') (d:=c) (s:=r)]
   exact EV.bin (EV.loc h) EV.int rfl
  by_cases he:c∈sG
  ·have fin:∀(kk:Int) (d:Char),jz c sG 0=kk→decide (kk≥0)=true→iG H (.str ['\x07','\x08','\x0c','\n','\r','\t','\x0b']) (.int kk)=some (.str [d])→cE (c::r)=([d],r)→
     ay W (n+1) .backslash [.str t,.int (ps t ('\\'::c::r))] H=some (.ok (.tup [.str (cE (c::r)).1,.int (ps t (cE (c::r)).2)]),H):=by
    intro kk d e1 e2 e3 e4
    rw[e1]at a2
    rw[e4]
    have c2:EV (ay W n) ⟨mo t ('\\'::c::r) (some (.str [c])) (some (.int kk)) none,H⟩ (.cmp .ge (.loc 3) (.int 0)) (.bool true) _:=EV.cmp (EV.loc rfl) EV.int (by show some (decide (kk≥0))=_;rw[e2])
    exact aM (F:=fH) rfl rfl rfl (aa a1 (aa (av c1' aw) (aa a2 (ak (aB c2 (ak (aK (EV.tup (aq.cons (EV.idx EV.str (EV.loc rfl) e3) (aq.cons (plus2 rfl) aq.nil)))))))))) (List.take_length ..) rfl
   simp only[sG,List.mem_cons,List.not_mem_nil,or_false]at he
   rcases he with rfl|rfl|rfl|rfl|rfl|rfl|rfl
   ·exact fin 0 '\x07' rfl rfl rfl rfl
   ·exact fin 1 '\x08' rfl rfl rfl rfl
   ·exact fin 2 '\x0c' rfl rfl rfl rfl
   ·exact fin 3 '\n' rfl rfl rfl rfl
   ·exact fin 4 '\r' rfl rfl rfl rfl
   ·exact fin 5 '\t' rfl rfl rfl rfl
   ·exact fin 6 '\x0b' rfl rfl rfl rfl
  ·rw[zC he]at a2
   have c2:EV (ay W n) ⟨mo t ('\\'::c::r) (some (.str [c])) (some (.int (-1))) none,H⟩ (.cmp .ge (.loc 3) (.int 0)) (.bool false) _:=EV.cmp (EV.loc rfl) EV.int rfl
   have c3:=aH (Φ:=ay W n) (σ:=⟨mo t ('\\'::c::r) (some (.str [c])) (some (.int (-1))) none,H⟩) (b:=['\n']) (EV.loc (i:=2) rfl)
   by_cases hn:c='\n'
   ·subst hn
    have a3:eS (ay W n) W (.asg 4 (.bin .add (.loc 1) (.int 2))) ⟨mo t ('\\'::'\n'::r) (some (.str ['\n'])) (some (.int (-1))) none,H⟩=okR .next ⟨mo t ('\\'::'\n'::r) (some (.str ['\n'])) (some (.int (-1))) (some (.int (ps t r))),H⟩:=
     aV (plus2 rfl) (show(4:Nat)<5 by decide)
    have eb:cE ('\n'::r)=([' '],bJ r):=by rw[cE,if_pos rfl]
    rw[eb]
    exact aM (F:=fH) rfl rfl rfl (aa a1 (aa (av c1' aw) (aa a2 (aa (av c2 aw) (ak (aB c3 (aa a3 (aa (cP (w6 r W (by simp at hs;omega) x.next.next)) (ak (aK (EV.tup (aq.cons EV.str (aq.cons (EV.loc rfl) aq.nil))))))))))))) (List.take_length ..) rfl
   ·rw[bz hn]at c3
    have hb:=hok c r rfl
    have c4:EV (ay W n) ⟨mo t ('\\'::c::r) (some (.str [c])) (some (.int (-1))) none,H⟩ (.cmp .inn (.loc 2) (.tup (.cons (.str ['x']) (.cons (.str ['u']) (.cons (.str ['U']) .nil))))) (.bool false) _:=
     EV.cmp (EV.loc rfl) (EV.tup (aq.cons EV.str (aq.cons EV.str (aq.cons EV.str aq.nil)))) (by rw[kY (ls:=[['x'],['u'],['U']]) rfl];exact congrArg some (Hi (l:=['x','u','U']) fun q=>hb (List.mem_append_left ['0','1','2','3','4','5','6','7'] q)))
    have c5:EV (ay W n) ⟨mo t ('\\'::c::r) (some (.str [c])) (some (.int (-1))) none,H⟩ (.cmp .inn (.loc 2) (.tup (.cons (.str ['0']) (.cons (.str ['1']) (.cons (.str ['2']) (.cons (.str ['3']) (.cons (.str ['4']) (.cons (.str ['5']) (.cons (.str ['6']) (.cons (.str ['7']) .nil)))))))))) (.bool false) _:=
     EV.cmp (EV.loc rfl) (EV.tup (aq.cons EV.str (aq.cons EV.str (aq.cons EV.str (aq.cons EV.str (aq.cons EV.str (aq.cons EV.str (aq.cons EV.str (aq.cons EV.str aq.nil))))))))) (by rw[kY (ls:=[['0'],['1'],['2'],['3'],['4'],['5'],['6'],['7']]) rfl];exact congrArg some (Hi (l:=['0','1','2','3','4','5','6','7']) fun q=>hb (List.mem_append_right ['x','u','U'] q)))
    have eb:cE (c::r)=([c],r):=by rw[cE,if_neg hn,qD he]
    rw[eb]
    exact aM (F:=fH) rfl rfl rfl (aa a1 (aa (av c1' aw) (aa a2 (aa (av c2 aw) (aa (av c3 aw) (aa (av c4 aw) (aa (av c5 aw) (ak (aK (EV.tup (aq.cons (EV.loc rfl) (aq.cons (plus2 rfl) aq.nil)))))))))))) (List.take_length ..) rfl
end
end Mine
end
section
namespace Mine
open PySem (PyData)
noncomputable def gw (b:Bool):List Ch:=[[' '],['\t'],['\x0b'],['\x0c'],['\r'],['\n'],[';']]++(if b then[[']']]else[])
section
variable {W n k:Nat} {t s r:Ch} {c:Char} {H:List O} {Φ:ci} {lo:List (Option V)} {i j:Nat}
theorem qb {b:Bool}:ay W (n+1) .bareStops [.bool b] H=some (.ok (.tup ((gw b).map .str)),H):=by
 cases b with
 |true=>exact aM (F:=jF) rfl rfl rfl (ak (aB (EV.loc rfl) (ak (aK (EV.tup (aq.cons EV.str (aq.cons EV.str (aq.cons EV.str (aq.cons EV.str (aq.cons EV.str (aq.cons EV.str (aq.cons EV.str (aq.cons EV.str aq.nil))))))))))))) (List.take_length ..) rfl
 |false=>exact aM (F:=jF) rfl rfl rfl (aa (av (EV.loc rfl) aw) (ak (aK (EV.tup (aq.cons EV.str (aq.cons EV.str (aq.cons EV.str (aq.cons EV.str (aq.cons EV.str (aq.cons EV.str (aq.cons EV.str aq.nil))))))))))) (List.take_length ..) rfl
theorem hG {a b:Int}:dX H .eq (.int a) (.int b)=some (decide (a=b)):=by
 show some (PyData.eqv (.int a) (.int b))=_
 congr 1
theorem AC (x:bc t s) (y:bc t r):decide (ps t s=ps t r)=decide (s.length=r.length):=by
 have:=x.size;have:=y.size
 unfold ps
 rw[decide_eq_decide]
 omega
noncomputable def zt:Ch→Bool
 |[]=>false
 |c::r=> !(c=='\n'||c==';')&&decide ((skipGaps (c::r)).length=(c::r).length)
noncomputable def bU (s:Ch):Bool:=s.take 3==['{','*','}']&&zt (s.drop 3)
theorem oC (x:bc t s) (hW:10001<W):ay W (n+3) .isExpanded [.str t,.int (ps t s)] H=some (.ok (.bool (bU s)),H):=by
 have c1:=jy (Φ:=ay W (n+2)) (b:=['{','*','}']) (cG (lo:=[some (.str t),some (.int (ps t s)),none]) (H:=H) (i:=1) (j:=0) (m:=3) x rfl rfl)
 unfold bU
 cases h:(s.take 3==['{','*','}'])with
 |false=>
  rw[h]at c1
  exact aM (F:=eD) rfl rfl rfl (ak (aB c1 (ak (aK EV.bool)))) (List.take_length ..) rfl
 |true=>
  rw[h]at c1
  obtain⟨r,rfl⟩:∃r,s='{'::'*'::'}'::r:=by
   rcases s with _|⟨a,_|⟨b,_|⟨d,r⟩⟩⟩<;>simp at h
   obtain⟨rfl,rfl,rfl⟩:=h
   exact⟨r,rfl⟩
  have xr:bc t r:=x.next.next.next
  have a2:eS (ay W (n+2)) W (.asg 2 (.bin .add (.loc 1) (.int 3))) ⟨[some (.str t),some (.int (ps t ('{'::'*'::'}'::r))),none],H⟩=okR .next ⟨[some (.str t),some (.int (ps t ('{'::'*'::'}'::r))),some (.int (ps t r))],H⟩:=by
   have e:ps t ('{'::'*'::'}'::r)+3=ps t r:=by simp[ps];omega
   rw[←e]
   exact aV (EV.bin (EV.loc rfl) EV.int rfl) (show(2:Nat)<3 by decide)
  have c2:EV (ay W (n+2)) ⟨[some (.str t),some (.int (ps t ('{'::'*'::'}'::r))),some (.int (ps t r))],H⟩ (.cmp .inn (.slc (.loc 0) (.loc 2) (.bin .add (.loc 2) (.int 1))) (.tup (.cons (.str []) (.cons (.str ['\n']) (.cons (.str [';']) .nil))))) (.bool ([[],['\n'],[';']].contains (r.take 1))) _:=
   EV.cmp (cG (i:=2) (j:=0) (m:=1) xr rfl rfl) (EV.tup (aq.cons EV.str (aq.cons EV.str (aq.cons EV.str aq.nil)))) (kY rfl)
  have c3:EV (ay W (n+2)) ⟨[some (.str t),some (.int (ps t ('{'::'*'::'}'::r))),some (.int (ps t r))],H⟩ (.cmp .eq (.call .skipGaps (.cons (.loc 0) (.cons (.loc 2) .nil))) (.loc 2)) (.bool (decide ((skipGaps r).length=r.length))) _:=
   EV.cmp (EV.callP (aq.cons (EV.loc rfl) (aq.cons (EV.loc rfl) aq.nil)) (ew xr hW)) (EV.loc rfl) (by rw[hG,AC (xr.of (bn r)) xr])
  show ay W (n+3) .isExpanded _ H=some (.ok (.bool (true&&zt r)),H)
  rw[Bool.true_and]
  rcases r with _|⟨c,r⟩
  ·exact aM (F:=eD) rfl rfl rfl (aa (av c1 aw) (aa a2 (ak (aB c2 (ak (aK EV.bool)))))) (List.take_length ..) rfl
  ·have e:[[],['\n'],[';']].contains ((c::r).take 1)=(c=='\n'||c==';'):=by rw[Bool.eq_iff_iff];simp
   rw[e]at c2
   have ee:zt (c::r)=(!(c=='\n'||c==';')&&decide ((skipGaps (c::r)).length=(c::r).length)):=rfl
   rw[ee]
   cases hh:(c=='\n'||c==';')with
   |true=>
    rw[hh]at c2
    show ay W (n+3) .isExpanded _ H=some (.ok (.bool false),H)
    exact aM (F:=eD) rfl rfl rfl (aa (av c1 aw) (aa a2 (ak (aB c2 (ak (aK EV.bool)))))) (List.take_length ..) rfl
   |false=>
    rw[hh]at c2
    rw[Bool.not_false,Bool.true_and]
    exact aM (F:=eD) rfl rfl rfl (aa (av c1 aw) (aa a2 (aa (av c2 aw) (ak (aK c3))))) (List.take_length ..) rfl
end
noncomputable def fD:Bool→Nat→Ch→Ch→Option (Ch×Ch)
 |_,_,_,[]=>none
 |b,d,acc,c::r=>if b&&(c==' '||c=='\t')then fD true d acc r
  else if c='{' then fD false (d+1) (acc++[c]) r
  else if c='}' then(if d=1 then some (acc,r)else fD false (d-1) (acc++[c]) r)
  else if c='\\' then(match r with
   |[]=>none
   |e::r'=>if e='\n' then fD true d (acc++[' ']) r' else fD false d (acc++['\\',e]) r')
  else fD false d (acc++[c]) r
theorem d8 {d:Nat} {acc:Ch}:∀(s:Ch),fD true d acc s=fD false d acc (bJ s)
 |[]=>rfl
 |c::r=>by
  by_cases h:c=' '∨c='\t'
  ·rw[bJ,if_pos h, ←d8 r,fD.eq_def]
   have:(true&&(c==' '||c=='\t'))=true:=by simpa using h
   dsimp only
   rw[if_pos this]
  ·rw[bJ,if_neg h,fD.eq_def,fD.eq_def false]
   have:¬(true&&(c==' '||c=='\t'))=true:=by simpa using h
   have f:¬(false&&(c==' '||c=='\t'))=true:=by simp
   dsimp only
   rw[if_neg this,if_neg f]
theorem ia {d:Nat} {acc r:Ch}:fD false d acc ('{'::r)=fD false (d+1) (acc++['{']) r:=by rw[fD.eq_def];rfl
theorem gB {acc r:Ch}:fD false 1 acc ('}'::r)=some (acc,r):=by rw[fD.eq_def];rfl
theorem kh {d:Nat} {acc r:Ch} (h:d≠1):fD false d acc ('}'::r)=fD false (d-1) (acc++['}']) r:=by
 rw[fD.eq_def]
 dsimp only
 rw[if_neg (show ¬(false&&('}'==' '||'}'=='\t'))=true by simp),if_neg (by decide),if_pos rfl,if_neg h]
theorem jW {d:Nat} {acc:Ch}:fD false d acc ['\\']=none:=by rw[fD.eq_def];rfl
theorem mO {d:Nat} {acc r:Ch}:fD false d acc ('\\'::'\n'::r)=fD true d (acc++[' ']) r:=by rw[fD.eq_def];rfl
theorem mP {d:Nat} {acc r:Ch} {e:Char} (h:e≠'\n'):fD false d acc ('\\'::e::r)=fD false d (acc++['\\',e]) r:=by
 rw[fD.eq_def]
 dsimp only
 rw[if_neg (show ¬(false&&('\\'==' '||'\\'=='\t'))=true by simp),if_neg (by decide),if_neg (by decide),if_pos rfl,if_neg h]
noncomputable def ch (c:Char):Bool:= !(c=='{'||c=='}'||c=='\\')
theorem dR {c:Char}:ch c=true↔c≠'{'∧c≠'}'∧c≠'\\':=by simp[ch,and_assoc]
theorem eU {d:Nat} {acc r:Ch} {c:Char} (h:ch c=true):fD false d acc (c::r)=fD false d (acc++[c]) r:=by
 obtain⟨h1,h2,h3⟩:=dR.mp h
 rw[fD.eq_def]
 dsimp only
 rw[if_neg (show ¬(false&&(c==' '||c=='\t'))=true by simp),if_neg h1,if_neg h2,if_neg h3]
theorem xI {d:Nat} {r:Ch}:∀(p:Ch) (acc:Ch),(∀c∈p,ch c=true)→fD false d acc (p++r)=fD false d (acc++p) r
 |[],acc,_=>by simp
 |c::p,acc,h=>by
  rw[List.cons_append,eU (h c (.head _)),xI p _ fun e he=>h e (.tail _ he),List.append_assoc]
  rfl
end Mine
end
section
namespace Mine
open PySem (PyData)
section
variable {W n k:Nat} {t s r b:Ch} {c:Char} {H:List O} {Φ:ci}
noncomputable def lI (t:Ch) (x1:Option V) (b s made:Ch) (d:Nat) (e7 e8:Option V):List (Option V):=[some (.str t),x1,some (.int t.length),some (.int (ps t b)),some (.int (ps t s)),some (.str made),some (.int d),e7,e8]
theorem yd {c:Char} {l:Ch}:dX H .nin (.str [c]) (.str l)=some (!l.contains c):=rfl
theorem nk (c:Char):(!(['{','}','\\']:Ch).contains c)=ch c:=by
 unfold ch;congr 1;rw[Bool.eq_iff_iff];simp[or_assoc]
noncomputable def AW:E:=.and (.cons (.cmp .lt (.loc 4) (.loc 2)) (.cons (.cmp .nin (.idx (.loc 0) (.loc 4)) (.str ['{','}','\\'])) .nil))
noncomputable def BG:Ss:=.cons (.aug 4 .add (.int 1)) .nil
theorem xg {x1 e7 e8:Option V} {made:Ch} {d:Nat}:∀(s:Ch) (k:Nat),s.length<k→bc t s→
  iter (tE Φ AW) (bF Φ W BG) k ⟨lI t x1 b s made d e7 e8,H⟩=okR .next ⟨lI t x1 b (s.dropWhile ch) made d e7 e8,H⟩
 |s,k+1,hk,x=>by
  have t1:=iS (Φ:=Φ) (lo:=lI t x1 b s made d e7 e8) (H:=H) (i:=4) (j:=2) x rfl rfl
  rcases s with _|⟨c,r⟩
  ·exact bK (EV.andF t1)
  ·have t2:EV Φ ⟨lI t x1 b (c::r) made d e7 e8,H⟩ (.cmp .nin (.idx (.loc 0) (.loc 4)) (.str ['{','}','\\'])) (.bool (ch c)) _:=EV.cmp (dZ (i:=4) (j:=0) x rfl rfl) EV.str (by rw[yd,nk])
   have t3:=EV.andT t1 (EV.and1 t2)
   by_cases h:ch c=true
   ·rw[h]at t3
    rw[List.dropWhile_cons_of_pos h]
    exact ba t3 (ao (d5 rfl bC (show(4:Nat)<9 by decide))) (xg r k (by simp at hk;omega) x.next)
   ·have h':ch c=false:=by simpa using h
    rw[h']at t3
    rw[List.dropWhile_cons_of_neg h]
    exact bK t3
noncomputable def AY:E:=.cmp .lt (.loc 4) (.loc 2)
noncomputable def kJ:Ss:=(.cons (.ife (.cmp .eq (.idx (.loc 0) (.loc 4)) (.str ['{'])) (.cons (.aug 6 .add (.int 1)) (.cons (.aug 4 .add (.int 1)) .nil))
 (.cons (.ife (.cmp .eq (.idx (.loc 0) (.loc 4)) (.str ['}'])) (.cons (.aug 6 .sub (.int 1)) (.cons (.aug 4 .add (.int 1))
 (.cons (.ife (.cmp .eq (.loc 6) (.int 0)) (.cons (.ret (.tup (.cons (.bin .add (.loc 5) (.slc (.loc 0) (.loc 3) (.bin .sub (.loc 4) (.int 1)))) (.cons (.loc 4) .nil)))) .nil) .nil) .nil)))
 (.cons (.ife (.cmp .eq (.slc (.loc 0) (.loc 4) (.bin .add (.loc 4) (.int 2))) (.str ['\\','\n'])) (.cons (.asgT [.loc 7,.loc 8] (.call .backslash (.cons (.loc 0) (.cons (.loc 4) .nil))))
 (.cons (.aug 5 .add (.bin .add (.slc (.loc 0) (.loc 3) (.loc 4)) (.loc 7))) (.cons (.asg 4 (.loc 8)) (.cons (.asg 3 (.loc 8)) .nil))))
 (.cons (.ife (.cmp .eq (.idx (.loc 0) (.loc 4)) (.str ['\\'])) (.cons (.aug 4 .add (.int 2)) .nil) (.cons (.whl AW BG) .nil)) .nil)) .nil)) .nil)) .nil)
noncomputable def Hk (t:Ch):Option (Ch×Ch)→Fl
 |some (i,s)=>.ret (.tup [.str i,.int (ps t s)])
 |none=>.next
theorem Ap {d:Nat} {acc s:Ch}:fD false d acc s=fD false d (acc++s.takeWhile ch) (s.dropWhile ch):=by
 conv=>lhs;rw[←List.takeWhile_append_dropWhile (p:=ch) (l:=s)]
 exact xI _ _ fun c hc=>List.all_eq_true.mp List.all_takeWhile c hc
theorem iZ {mid:Ch} (x:bc t (mid++s)) (y:bc t s):cut t (ps t (mid++s)) (ps t s)=mid:=F0 x.at y.at
theorem sY {mid:Ch} {lo:List (Option V)} {i j l:Nat} (x:bc t (mid++s)) (y:bc t s) (hj:lo[j]? =some (some (.str t))) (hi:lo[i]? =some (some (.int (ps t (mid++s))))) (hl:lo[l]? =some (some (.int (ps t s)))):
  EV Φ ⟨lo,H⟩ (.slc (.loc j) (.loc i) (.loc l)) (.str mid) ⟨lo,H⟩:=by
 have:=EV.slc (Φ:=Φ) (σ:=⟨lo,H⟩) (EV.loc hj) (EV.loc hi) (EV.loc hl) x.at.lim
 rwa[iZ x y]at this
theorem jU (hW:10002<W) {x1:Option V}:∀(m:Nat) (mid s:Ch) (made:Ch) (d:Nat) (e7 e8:Option V) (k:Nat),s.length≤m→m<k→bc t (mid++s)→made.length+(mid++s).length≤t.length→1≤d→
  ∃lo',iter (tE (ay W (n+1)) AY) (bF (ay W (n+1)) W kJ) k ⟨lI t x1 (mid++s) s made d e7 e8,H⟩=okR (Hk t (fD false d (made++mid) s)) ⟨lo',H⟩
 |m,mid,[],made,d,e7,e8,k+1,_,_,x,_,_=>⟨_,bK (iS (i:=4) (j:=2) (x.of ⟨mid,rfl⟩) rfl rfl)⟩
 |m+1,mid,c::r,made,d,e7,e8,k+1,hm,hk,x,hlen,hd=>by
  have xs:bc t (c::r):=x.of ⟨mid,rfl⟩
  have hm':r.length≤m:=by simpa using hm
  have hl:=x.len
  have hsz:=xs.size
  simp only[List.length_append,List.length_cons]at hlen hsz
  obtain⟨σ,hσ⟩:∃σ:St,σ=⟨lI t x1 (mid++c::r) (c::r) made d e7 e8,H⟩:=⟨_,rfl⟩
  have t1:EV (ay W (n+1)) σ AY (.bool true) σ:=hσ▸iS (i:=4) (j:=2) xs rfl rfl
  have hc:∀d,EV (ay W (n+1)) σ (.cmp .eq (.idx (.loc 0) (.loc 4)) (.str [d])) (.bool ([c]==[d])) σ:=fun d=>hσ▸aH (dZ (i:=4) (j:=0) xs rfl rfl)
  have e1:made++(mid++[c])=made++mid++[c]:=by rw[List.append_assoc]
  have xn:bc t ((mid++[c])++r):=by rw[List.append_assoc];exact x
  have hsub:(mid++[c])++r=mid++c::r:=by rw[List.append_assoc];rfl
  by_cases h1:c='{'
  ·subst h1
   have st:bF (ay W (n+1)) W kJ σ=okR .next ⟨lI t x1 (mid++'{'::r) r made (d+1) e7 e8,H⟩:=
    ao (aB (hc '{') (hσ▸aa (d5 (b:=((d+1:Nat):Int)) rfl (by omega) (show(6:Nat)<9 by decide)) (ao (d5 rfl bC (show(4:Nat)<9 by decide)))))
   obtain⟨lo',ih⟩:=jU hW m (mid++['{']) r made (d+1) e7 e8 k hm' (by omega) xn (by simp;omega) (by omega)
   rw[hsub,e1]at ih
   exact⟨lo',by rw[ia, ←hσ];exact ba t1 st ih⟩
  ·have n1:=hc '{'
   rw[bz h1]at n1
   by_cases h2:c='}'
   ·subst h2
    have dec:eS (ay W (n+1)) W (.aug 6 .sub (.int 1)) σ=okR .next ⟨lI t x1 (mid++'}'::r) ('}'::r) made (d-1) e7 e8,H⟩:=by
     have:((d-1:Nat):Int)=(d:Int)-1:=by omega
     rw[hσ]
     refine(uU (old:=.int d) (r:=.int ((d-1:Nat):Int)) rfl EV.int ?_ (show(6:Nat)<9 by decide)).trans rfl
     rw[this];rfl
    have inc:eS (ay W (n+1)) W (.aug 4 .add (.int 1)) ⟨lI t x1 (mid++'}'::r) ('}'::r) made (d-1) e7 e8,H⟩=okR .next ⟨lI t x1 (mid++'}'::r) r made (d-1) e7 e8,H⟩:=d5 rfl bC (show(4:Nat)<9 by decide)
    have z:EV (ay W (n+1)) ⟨lI t x1 (mid++'}'::r) r made (d-1) e7 e8,H⟩ (.cmp .eq (.loc 6) (.int 0)) (.bool (decide (((d-1:Nat):Int)=0))) ⟨lI t x1 (mid++'}'::r) r made (d-1) e7 e8,H⟩:=EV.cmp (EV.loc rfl) EV.int hG
    by_cases hd1:d=1
    ·subst hd1
     have cu:EV (ay W (n+1)) ⟨lI t x1 (mid++'}'::r) r made (1-1) e7 e8,H⟩ (.slc (.loc 0) (.loc 3) (.bin .sub (.loc 4) (.int 1))) (.str mid) ⟨lI t x1 (mid++'}'::r) r made (1-1) e7 e8,H⟩:=by
      have:=EV.slc (Φ:=ay W (n+1)) (σ:=⟨lI t x1 (mid++'}'::r) r made (1-1) e7 e8,H⟩) (EV.loc (i:=0) rfl) (EV.loc (i:=3) rfl) (EV.bin (op:=.sub) (EV.loc (i:=4) rfl) (EV.int (i:=1)) rfl) x.at.lim
      rwa[show ps t r-1=ps t ('}'::r) by rw[←bC (t:=t) (c:='}') (s:=r)];omega,iZ x xs]at this
     have ad:EV (ay W (n+1)) ⟨lI t x1 (mid++'}'::r) r made (1-1) e7 e8,H⟩ (.bin .add (.loc 5) (.slc (.loc 0) (.loc 3) (.bin .sub (.loc 4) (.int 1)))) (.str (made++mid)) ⟨lI t x1 (mid++'}'::r) r made (1-1) e7 e8,H⟩:=
      EV.bin (EV.loc rfl) cu (iU (by rw[dC];omega))
     refine⟨lI t x1 (mid++'}'::r) r made (1-1) e7 e8,?_⟩
     rw[gB, ←hσ]
     exact i8 t1 (ao (av n1 (ao (aB (hc '}') (aa dec (aa inc (ak (aB z (ak (aK (EV.tup (aq.cons ad (aq.cons (EV.loc rfl) aq.nil)))))))))))))
    ·rw[decide_eq_false (by omega)]at z
     have st:bF (ay W (n+1)) W kJ σ=okR .next ⟨lI t x1 (mid++'}'::r) r made (d-1) e7 e8,H⟩:=
      ao (av n1 (ao (aB (hc '}') (aa dec (aa inc (ao (av z aw)))))))
     obtain⟨lo',ih⟩:=jU hW m (mid++['}']) r made (d-1) e7 e8 k hm' (by omega) xn (by simp;omega) (by omega)
     rw[hsub,e1]at ih
     exact⟨lo',by rw[kh hd1, ←hσ];exact ba t1 st ih⟩
   ·have n2:=hc '}'
    rw[bz h2]at n2
    have c3:EV (ay W (n+1)) σ (.cmp .eq (.slc (.loc 0) (.loc 4) (.bin .add (.loc 4) (.int 2))) (.str ['\\','\n'])) (.bool ((c::r).take 2==['\\','\n'])) σ:=hσ▸aH (cG (i:=4) (j:=0) (m:=2) xs rfl rfl)
    by_cases h3:∃r',c='\\'∧r='\n'::r'
    ·rw[eH.mpr h3]at c3
     obtain⟨r',rfl,rfl⟩:=h3
     have xb:bc t (bJ r'):=xs.next.next.of (dj r')
     have bl:(bJ r').length≤r'.length:=by obtain⟨p,hp⟩:=dj r';have:=congrArg List.length hp;simp at this;omega
     simp only[List.length_cons]at hlen hsz hm'
     have cl:eS (ay W (n+1)) W (.asgT [.loc 7,.loc 8] (.call .backslash (.cons (.loc 0) (.cons (.loc 4) .nil)))) σ=okR .next ⟨lI t x1 (mid++'\\'::'\n'::r') ('\\'::'\n'::r') made d (some (.str [' '])) (some (.int (ps t (bJ r')))),H⟩:=by
      rw[hσ]
      have pb:=kz (W:=W) (n:=n) (H:=H) xs (fun c r q=>by cases q;decide) hW
      rw[show cE ('\n'::r')=([' '],bJ r') by rw[cE,if_pos rfl]]at pb
      exact cK (EV.callP (aq.cons (EV.loc rfl) (aq.cons (EV.loc rfl) aq.nil)) pb) rfl (cn (show(7:Nat)<9 by decide) (show(8:Nat)<9 by decide))
     have ad:eS (ay W (n+1)) W (.aug 5 .add (.bin .add (.slc (.loc 0) (.loc 3) (.loc 4)) (.loc 7))) ⟨lI t x1 (mid++'\\'::'\n'::r') ('\\'::'\n'::r') made d (some (.str [' '])) (some (.int (ps t (bJ r')))),H⟩=
       okR .next ⟨lI t x1 (mid++'\\'::'\n'::r') ('\\'::'\n'::r') (made++(mid++[' '])) d (some (.str [' '])) (some (.int (ps t (bJ r')))),H⟩:=by
      have cu:EV (ay W (n+1)) ⟨lI t x1 (mid++'\\'::'\n'::r') ('\\'::'\n'::r') made d (some (.str [' '])) (some (.int (ps t (bJ r')))),H⟩ (.slc (.loc 0) (.loc 3) (.loc 4)) (.str mid) ⟨lI t x1 (mid++'\\'::'\n'::r') ('\\'::'\n'::r') made d (some (.str [' '])) (some (.int (ps t (bJ r')))),H⟩:=by
       exact sY x xs rfl rfl rfl
      refine uU (i:=5) (old:=.str made) rfl (EV.bin (v:=.str (mid++[' '])) cu (EV.loc rfl) ?_) ?_ (show(5:Nat)<9 by decide)
      ·exact iU (by rw[dC];simp;omega)
      ·exact iU (by rw[dC];simp;omega)
     have st:bF (ay W (n+1)) W kJ σ=okR .next ⟨lI t x1 (bJ r') (bJ r') (made++(mid++[' '])) d (some (.str [' '])) (some (.int (ps t (bJ r')))),H⟩:=
      ao (av n1 (ao (av n2 (ao (aB c3 (aa cl (aa ad (aa (aV (EV.loc rfl) (show(4:Nat)<9 by decide)) (ao (aV (EV.loc rfl) (show(3:Nat)<9 by decide)))))))))))
     cases m with
     |zero=>simp at hm'
     |succ m=>
      obtain⟨lo',ih⟩:=jU hW m [] (bJ r') (made++(mid++[' '])) d (some (.str [' '])) (some (.int (ps t (bJ r')))) k (by omega) (by omega) xb (by simp;omega) hd
      rw[List.nil_append,List.append_nil, ←List.append_assoc]at ih
      refine⟨lo',?_⟩
      rw[mO,d8, ←hσ]
      exact ba t1 (by rw[List.append_assoc];exact st) ih
    ·have hf:((c::r).take 2==['\\','\n'])=false:=by
      rw[Bool.eq_false_iff];exact fun q=>h3 (eH.mp q)
     rw[hf]at c3
     by_cases h4:c='\\'
     ·subst h4
      rcases r with _|⟨e,r'⟩
      ·refine⟨lI t x1 (mid++['\\']) ['\\'] made d e7 e8|>.set 4 (some (.int (ps t ['\\']+2))),?_⟩
       have st:bF (ay W (n+1)) W kJ σ=okR .next ⟨(lI t x1 (mid++['\\']) ['\\'] made d e7 e8).set 4 (some (.int (ps t ['\\']+2))),H⟩:=
        ao (av n1 (ao (av n2 (ao (av c3 (ao (aB (hc '\\') (hσ▸ao (d5 rfl rfl (show(4:Nat)<9 by decide))))))))))
       rw[jW, ←hσ]
       cases k with
       |zero=>omega
       |succ k=>
        refine ba t1 st (bK (EV.cmp (EV.loc rfl) (EV.loc rfl) ?_))
        show some (decide (ps t ['\\']+2<(t.length:Int)))=some false
        rw[decide_eq_false]
        have:ps t ['\\']=(t.length:Int)-1:=rfl
        omega
      ·have hne:e≠'\n':=fun q=>h3 ⟨r',rfl,by rw[q]⟩
       have st:bF (ay W (n+1)) W kJ σ=okR .next ⟨lI t x1 (mid++'\\'::e::r') r' made d e7 e8,H⟩:=
        ao (av n1 (ao (av n2 (ao (av c3 (ao (aB (hc '\\') (hσ▸ao (d5 rfl fN (show(4:Nat)<9 by decide))))))))))
       simp only[List.length_cons]at hlen hm'
       cases m with
       |zero=>simp at hm'
       |succ m=>
        obtain⟨lo',ih⟩:=jU hW m (mid++['\\',e]) r' made d e7 e8 k (by omega) (by omega) (by rw[List.append_assoc];exact x) (by simp;omega) hd
        rw[show(mid++['\\',e])++r'=mid++'\\'::e::r' by rw[List.append_assoc];rfl, ←List.append_assoc]at ih
        exact⟨lo',by rw[mP hne, ←hσ];exact ba t1 st ih⟩
     ·have n4:=hc '\\'
      rw[bz h4]at n4
      have hp:ch c=true:=dR.mpr ⟨h1,h2,h4⟩
      have xd:bc t (mid++(c::r).takeWhile ch++(c::r).dropWhile ch):=by rw[List.append_assoc,List.takeWhile_append_dropWhile];exact x
      have st:bF (ay W (n+1)) W kJ σ=okR .next ⟨lI t x1 (mid++c::r) ((c::r).dropWhile ch) made d e7 e8,H⟩:=
       ao (av n1 (ao (av n2 (ao (av c3 (ao (av n4 (hσ▸ao (cP (xg (c::r) W (by simp;omega) xs))))))))))
      have dl:((c::r).dropWhile ch).length≤r.length:=by
       rw[List.dropWhile_cons_of_pos hp]
       have:=congrArg List.length (List.takeWhile_append_dropWhile (p:=ch) (l:=r))
       rw[List.length_append]at this;omega
      have tl:=congrArg List.length (List.takeWhile_append_dropWhile (p:=ch) (l:=c::r))
      simp only[List.length_append,List.length_cons]at tl
      obtain⟨lo',ih⟩:=jU hW m (mid++(c::r).takeWhile ch) ((c::r).dropWhile ch) made d e7 e8 k (by omega) (by omega) xd (by simp only[List.length_append];omega) hd
      rw[show mid++(c::r).takeWhile ch++(c::r).dropWhile ch=mid++c::r by rw[List.append_assoc,List.takeWhile_append_dropWhile], ←List.append_assoc]at ih
      exact⟨lo',by rw[Ap, ←hσ];exact ba t1 st ih⟩
theorem v8 (x:bc t ('{'::s)) (hW:10002<W):ay W (n+2) .braces [.str t,.int (ps t ('{'::s))] H=some (match fD false 1 [] s with
  |some (i,e)=>.ok (.tup [.str i,.int (ps t e)])
  |none=>.error "missing close-brace".toList,H):=by
 have hl:=x.len
 have hs:=x.size
 simp only[List.length_cons]at hs
 obtain⟨lo',h⟩:=jU (W:=W) (n:=n) (H:=H) hW (x1:=some (.int (ps t ('{'::s)))) s.length [] s [] 1 none none W (Nat.le_refl _) (by omega) x.next (by simp;omega) (by omega)
 rw[List.nil_append,List.nil_append]at h
 have key:bF (ay W (n+1)) W tR ⟨[some (.str t),some (.int (ps t ('{'::s))),none,none,none,none,none,none,none],H⟩=match fD false 1 [] s with
  |some (i,e)=>okR (.ret (.tup [.str i,.int (ps t e)])) ⟨lo',H⟩
  |none=>some (.error "missing close-brace".toList,⟨lo',H⟩):=by
  refine aa (aV (EV.len (EV.loc rfl) x.at.lim) (show(2:Nat)<9 by decide)) (aa (aV (EV.bin (EV.loc rfl) EV.int rfl) (show(3:Nat)<9 by decide)) (aa (aV (EV.loc rfl) (show(4:Nat)<9 by decide)) (aa (aV EV.str (show(5:Nat)<9 by decide)) (aa (aV EV.int (show(6:Nat)<9 by decide)) ?_))))
  show bF _ _ _ ⟨[some (.str t),some (.int (ps t ('{'::s))),some (.int t.length),some (.int (ps t ('{'::s)+1)),some (.int (ps t ('{'::s)+1)),some (.str []),some (.int 1),none,none],H⟩=_
  rw[bC]
  cases hb:fD false 1 [] s with
  |none=>
   rw[hb]at h
   exact aa (cP h) (ao i7)
  |some v=>
   rw[hb]at h
   exact ak (cP h)
 cases hb:fD false 1 [] s with
 |none=>
  rw[hb]at key
  exact d6 (F:=oO) rfl rfl rfl key (List.take_length ..)
 |some v=>
  rw[hb]at key
  exact aM (F:=oO) rfl rfl rfl key (List.take_length ..) rfl
end
end Mine
end
section
set_option genInjectivity false
set_option genSizeOfSpec false
namespace Mine
open PySem (PyData)
inductive Kd where
 |bare (b:Bool)|quote|paren
set_option genCtorIdx true in
inductive Cl where
 |bare|quote|brace
noncomputable def Kd.stops:Kd→List Ch
 | .bare b=>gw b
 | .quote=>[['"']]
 | .paren=>[[')']]
noncomputable def Kd.isBare:Kd→Bool
 | .bare _=>true
 |_=>false
noncomputable def txt (l:Ch):V:=.tup [.str ['t','e','x','t'],.str l]
noncomputable def vr (n:Ch) (x:V):V:=.tup [.str ['v','a','r'],.str n,x]
noncomputable def cm (l:Ch):V:=.tup [.str ['c','m','d'],.str l]
noncomputable def aS (acc:List V) (aT:Ch):List V:=if aT=[]then acc else acc++[txt aT]
noncomputable def wd (x:Bool) (vs:List V):V:=.tup [.bool x,.tup vs]
noncomputable def dy (k:Kd) (c:Char):Bool:= !(['$','[','\\']:Ch).contains c&& !k.stops.contains [c]
noncomputable def rI:Ch:=['m','i','s','s','i','n','g',' ','c','l','o','s','e','-','b','r','a','c','e',' ','f','o','r',' ','v','a','r','i','a','b','l','e',' ','n','a','m','e']
noncomputable def rF:Ch:=['m','i','s','s','i','n','g',' ',')']
noncomputable def kr:Ch:=['m','i','s','s','i','n','g',' ','c','l','o','s','e','-','b','r','a','c','k','e','t']
noncomputable def jL:Ch:=['m','i','s','s','i','n','g',' ','c','l','o','s','e','-','b','r','a','c','e']
noncomputable def si:Ch:=['m','i','s','s','i','n','g',' ','"']
noncomputable def It:Ch:=['e','x','t','r','a',' ','c','h','a','r','a','c','t','e','r','s',' ','a','f','t','e','r',' ','c','l','o','s','e','-']
noncomputable def tv:Ch:=It++['q','u','o','t','e']
noncomputable def sS:Ch:=It++['b','r','a','c','e']
noncomputable def Sf (a b:Ch):Prop:=∃p,a=p++b
noncomputable def Rd (d:Nat) (v:V):Prop:=∀H,∃x,pd H d v=some x
noncomputable def Sh (v:V):Prop:=(∃l,v=txt l)∨∃c vs,c≠['t','e','x','t']∧v=.tup (.str c::vs)
noncomputable def body (s:Ch):Ch:=if bU s then s.drop 3 else s
noncomputable def term (c:Char):Bool:=c=='\n'||c==';'
section
variable (W:Nat) (t:Ch)
noncomputable def rV (t:Ch):Except Ch (V×Ch)→Except Ch V
 | .ok (v,e)=>.ok (.tup [v,.int (ps t e)])
 | .error m=>.error m
noncomputable def pj (s:Ch) (r:Except Ch (V×Ch)):Prop:=∀n H,bc t ('$'::s)→4*s.length+13≤n→ay W n .variable [.str t,.int (ps t ('$'::s))] H=some (rV t r,H)
noncomputable def mC:E:=(.and (.cons (.cmp .lt (.loc 3) (.len (.loc 0))) (.cons (.cmp .ne (.idx (.loc 0) (.loc 3)) (.str [']'])) .nil)))
noncomputable def og:Ss:=(.cons (.asg 4 (.call .commandAt (.cons (.loc 0) (.cons (.loc 3) (.cons (.bool true) .nil)))))
 (.cons (.asg 3 (.call .skipToCommand (.cons (.loc 0) (.cons (.idx (.loc 4) (.int 3)) .nil)))) .nil))
noncomputable def v5 (t:Ch) (x1 x2:V) (s:Ch) (x4:Option V):List (Option V):=[some (.str t),some x1,some x2,some (.int (ps t s)),x4]
noncomputable def pY (s:Ch) (r:Except Ch Ch):Prop:=∀n H k x1 x2 x4,bc t s→4*s.length+13≤n→s.length<k→match r with
 | .ok e=>∃x4',iter (tE (ay W n) mC) (bF (ay W n) W og) k ⟨v5 t x1 x2 (bh s) x4,H⟩=okR .next ⟨v5 t x1 x2 e x4',H⟩
 | .error m=>(m=kr∧∃x4',iter (tE (ay W n) mC) (bF (ay W n) W og) k ⟨v5 t x1 x2 (bh s) x4,H⟩=okR .next ⟨v5 t x1 x2 [] x4',H⟩)∨
  ∃lo',iter (tE (ay W n) mC) (bF (ay W n) W og) k ⟨v5 t x1 x2 (bh s) x4,H⟩=some (.error m,⟨lo',H⟩)
noncomputable def vJ:E:=(.and (.cons (.cmp .lt (.loc 1) (.loc 5)) (.cons (.cmp .nin (.idx (.loc 0) (.loc 1)) (.str ['$','[','\\'])) (.cons (.cmp .nin (.idx (.loc 0) (.loc 1)) (.loc 2)) .nil))))
noncomputable def Ak:Ss:=(.cons (.aug 1 .add (.int 1)) .nil)
noncomputable def pQ:E:=(.and (.cons (.cmp .lt (.loc 1) (.loc 5)) (.cons (.cmp .nin (.idx (.loc 0) (.loc 1)) (.loc 2)) .nil)))
noncomputable def vk:S:=(.ife (.cmp .eq (.idx (.loc 6) (.int 0)) (.str ['t','e','x','t']))
 (.cons (.aug 4 .add (.idx (.loc 6) (.int 1))) .nil)
 (.cons (.ife (.cmp .ne (.loc 4) (.str []))
 (.cons (.expr (.append (.loc 3) (.tup (.cons (.str ['t','e','x','t']) (.cons (.loc 4) .nil)))))
 (.cons (.asg 4 (.str [])) .nil)) .nil)
 (.cons (.expr (.append (.loc 3) (.loc 6))) .nil)))
noncomputable def EN:S:=(.ife (.cmp .eq (.idx (.loc 0) (.loc 1)) (.str ['$']))
 (.cons (.asgT [.loc 6,.loc 1] (.call .variable (.cons (.loc 0) (.cons (.loc 1) .nil)))) .nil)
 (.cons (.ife (.cmp .eq (.idx (.loc 0) (.loc 1)) (.str ['[']))
 (.cons (.asgT [.loc 7,.loc 1] (.call .brackets (.cons (.loc 0) (.cons (.loc 1) .nil))))
 (.cons (.asg 6 (.tup (.cons (.str ['c','m','d']) (.cons (.loc 7) .nil)))) .nil))
 (.cons (.ife (.cmp .eq (.idx (.loc 0) (.loc 1)) (.str ['\\']))
 (.cons (.ife (.and (.cons (.cmp .inn (.str [' ']) (.loc 2)) (.cons (.cmp .eq (.slc (.loc 0) (.bin .add (.loc 1) (.int 1)) (.bin .add (.loc 1) (.int 2))) (.str ['\n'])) .nil)))
 (.cons .brk .nil) .nil)
 (.cons (.asgT [.loc 8,.loc 1] (.call .backslash (.cons (.loc 0) (.cons (.loc 1) .nil))))
 (.cons (.asg 6 (.tup (.cons (.str ['t','e','x','t']) (.cons (.loc 8) .nil)))) .nil)))
 (.cons (.asg 9 (.loc 1))
 (.cons (.whl vJ Ak)
 (.cons (.asg 6 (.tup (.cons (.str ['t','e','x','t']) (.cons (.slc (.loc 0) (.loc 9) (.loc 1)) .nil)))) .nil)))) .nil)) .nil))
noncomputable def pS:Ss:=.cons EN (.cons vk .nil)
noncomputable def Cy (k:Kd):V:=.tup (k.stops.map .str)
noncomputable def jl (t:Ch) (k:Kd) (j:Nat) (aT s:Ch) (x6 x7 x8 x9:Option V):List (Option V):=[some (.str t),some (.int (ps t s)),some (Cy k),some (.ref j),some (.str aT),some (.int t.length),x6,x7,x8,x9]
inductive Ja (W n:Nat) (t:Ch) (k:Kd) (H:List O) (e:Ch) (vs:List V) (it:R Fl):Prop
 |mk (acc':List V) (run':Ch) (y6 y7 y8 y9:Option V):aS acc' run'=vs→vs.length<10000→run'.length<10000→it=okR .next ⟨jl t k H.length run' e y6 y7 y8 y9,H++[.list acc']⟩→Ja W n t k H e vs it
noncomputable def cR (k:Kd) (acc:List V) (aT s:Ch) (r:Except Ch (List V×Ch)):Prop:=∀n (H:List O) m x6 x7 x8 x9,bc t s→4*s.length+10≤n→s.length<m→acc.length+aT.length+s.length<10000→match r with
 | .ok (vs,e)=>Ja W n t k H e vs (iter (tE (ay W n) pQ) (bF (ay W n) W pS) m ⟨jl t k H.length aT s x6 x7 x8 x9,H++[.list acc]⟩)
 | .error m'=>∃lo' acc',iter (tE (ay W n) pQ) (bF (ay W n) W pS) m ⟨jl t k H.length aT s x6 x7 x8 x9,H++[.list acc]⟩=some (.error m',⟨lo',H++[.list acc']⟩)
noncomputable def pk (k:Kd) (s:Ch) (r:Except Ch (List V×Ch)):Prop:=∀n H,bc t s→4*s.length+11≤n→ay W n .partsUntil [.str t,.int (ps t s),Cy k] H=some (rV t (r.map fun p=>(.tup p.1,p.2)),H)
noncomputable def jx (b:Bool) (s:Ch) (r:Except Ch (Bool×List V×Ch×Cl)):Prop:=∀n H,bc t s→4*s.length+12≤n→ay W n .word [.str t,.int (ps t s),.bool b] H=some (rV t (r.map fun p=>(wd p.1 p.2.1,p.2.2.1)),H)
end
end Mine
end
section
namespace Mine
open PySem (PyData)
section
variable {W n:Nat} {t s r e aT:Ch} {c:Char} {H:List O} {Φ:ci} {k:Kd} {acc vs:List V} {m:Ch}
theorem rh {c:Char}:dX H .nin (.str [c]) (Cy k)=some (!k.stops.contains [c]):=by
 have:dW (k.stops.map .str)=some k.stops:=by
  rcases k with b|_|_
  ·cases b<;>rfl
  ·rfl
  ·rfl
 exact congrArg (Option.map (!·)) (Bh (H:=H) (x:=[c]) this)
theorem Ae {l:Ch}:dX H .inn (.str l) (Cy k)=some (k.stops.contains l):=by
 have:dW (k.stops.map .str)=some k.stops:=by
  rcases k with b|_|_
  ·cases b<;>rfl
  ·rfl
  ·rfl
 exact kY this
theorem ue:k.stops.contains [' ']=k.isBare:=by
 rcases k with b|_|_
 ·cases b<;>rfl
 ·rfl
 ·rfl
theorem eV (h:c='$'∨c='['∨c='\\'):k.stops.contains [c]=false:=by
 rcases h with rfl|rfl|rfl<;>rcases k with b|_|_<;>first|rfl|(cases b<;>rfl)
theorem j7 {x6 x7 x8 x9:Option V} {j:Nat} (x:bc t (c::s)):EV Φ ⟨jl t k j aT (c::s) x6 x7 x8 x9,H⟩ pQ (.bool (!k.stops.contains [c])) ⟨jl t k j aT (c::s) x6 x7 x8 x9,H⟩:=by
 refine EV.andT (iS (i:=1) (j:=5) x rfl rfl) (EV.and1 (EV.cmp (dZ (i:=1) (j:=0) x rfl rfl) (EV.loc rfl) rh))
theorem wT {x6 x7 x8 x9:Option V} {j:Nat} (x:bc t []):EV Φ ⟨jl t k j aT [] x6 x7 x8 x9,H⟩ pQ (.bool false) ⟨jl t k j aT [] x6 x7 x8 x9,H⟩:=
 EV.andF (iS (i:=1) (j:=5) x rfl rfl)
theorem b6:(aS acc aT).length≤acc.length+aT.length:=by
 unfold aS
 split
 ·omega
 ·rename_i h
  have:0<aT.length:=List.length_pos_iff.mpr h
  simp;omega
theorem HO:cR W t k acc aT [] (.ok (aS acc aT,[])):=by
 intro n H m x6 x7 x8 x9 x hn hm hl
 have:=b6 (acc:=acc) (aT:=aT)
 cases m with
 |zero=>simp at hm
 |succ m=>exact⟨acc,aT,x6,x7,x8,x9,rfl,by simp at hl;omega,by omega,bK (wT x)⟩
theorem BK (h:k.stops.contains [c]=true):cR W t k acc aT (c::s) (.ok (aS acc aT,c::s)):=by
 intro n H m x6 x7 x8 x9 x hn hm hl
 have:=b6 (acc:=acc) (aT:=aT)
 cases m with
 |zero=>simp at hm
 |succ m=>
  have t1:=j7 (Φ:=ay W n) (k:=k) (aT:=aT) (H:=H++[.list acc]) (x6:=x6) (x7:=x7) (x8:=x8) (x9:=x9) (j:=H.length) x
  rw[h]at t1
  exact⟨acc,aT,x6,x7,x8,x9,rfl,by omega,by omega,bK t1⟩
theorem rL {lo lo':List (Option V)} {l:Ch} (h6:lo[6]? =some (some (txt l))) (h4:lo[4]? =some (some (.str aT))) (h:lo.set 4 (some (.str (aT++l)))=lo') (hl:aT.length+l.length<10000) (h4':4<lo.length):
  eS Φ W vk ⟨lo,H⟩=okR .next ⟨lo',H⟩:=by
 subst h
 refine aB (c:=.cmp .eq (.idx (.loc 6) (.int 0)) (.str ['t','e','x','t'])) (ah:=⟨lo,H⟩) ?_ (ao ?_)
 ·exact aH (a:=['t','e','x','t']) (EV.idx (EV.loc h6) EV.int rfl)
 ·refine uU h4 (EV.idx (EV.loc h6) EV.int (v:=.str l) rfl) ?_ h4'
  exact iU (by rw[dC];omega)
theorem tN {x y:O}:(H++[x]).set H.length y=H++[y]:=by simp
theorem bO {ws:List V}:listOf? (H++[.list ws]) H.length=some ws:=by simp[listOf?]
theorem ed {a:V} {us:List V}:iG H (.tup (a::us)) (.int 0)=some a:=by
 exact ry (i:=0) rfl (A8 (i:=0) (Nat.succ_pos _))
theorem EV.app {lo:List (Option V)} {i:Nat} {y:V} {b:E} (h:lo[i]? =some (some (.ref H.length))) (he:EV Φ ⟨lo,H++[.list acc]⟩ b y ⟨lo,H++[.list acc]⟩) (hl:acc.length<10000):EV Φ ⟨lo,H++[.list acc]⟩ (.append (.loc i) b) .none ⟨lo,H++[.list (acc++[y])]⟩:=by
 have:=EV.append (EV.loc h) bO he bO hl
 rwa[tN]at this
theorem ux {x6 x7 x8 x9:Option V} {v:V} (h6:x6=some v) (hv:∃c vs,c≠['t','e','x','t']∧v=.tup (.str c::vs)) (hl:acc.length+aT.length<9999):
  eS Φ W vk ⟨jl t k H.length aT s x6 x7 x8 x9,H++[.list acc]⟩=okR .next ⟨jl t k H.length [] s x6 x7 x8 x9,H++[.list (aS acc aT++[v])]⟩:=by
 subst h6
 obtain⟨c,us,hc,rfl⟩:=hv
 have t1:EV Φ ⟨jl t k H.length aT s (some (.tup (.str c::us))) x7 x8 x9,H++[.list acc]⟩ (.cmp .eq (.idx (.loc 6) (.int 0)) (.str ['t','e','x','t'])) (.bool (c==['t','e','x','t'])) _:=
  aH (EV.idx (EV.loc rfl) EV.int ed)
 rw[show(c==['t','e','x','t'])=false by simpa using hc]at t1
 have t2:EV Φ ⟨jl t k H.length aT s (some (.tup (.str c::us))) x7 x8 x9,H++[.list acc]⟩ (.cmp .ne (.loc 4) (.str [])) (.bool (!(aT==[]))) _:=jy (EV.loc rfl)
 have fin:∀run' acc',acc'.length<10000→bF Φ W (.cons (.expr (.append (.loc 3) (.loc 6))) .nil) ⟨jl t k H.length run' s (some (.tup (.str c::us))) x7 x8 x9,H++[.list acc']⟩=
   okR .next ⟨jl t k H.length run' s (some (.tup (.str c::us))) x7 x8 x9,H++[.list (acc'++[.tup (.str c::us)])]⟩:=by
  intro run' acc' hl'
  exact ao (bj (EV.app rfl (EV.loc rfl) hl'))
 refine av t1 ?_
 by_cases hr:aT=[]
 ·subst hr
  refine aa (av t2 aw) ?_
  exact fin [] acc (by omega)
 ·have hr':(aT==[])=false:=by simpa using hr
  rw[hr']at t2
  refine aa (aB t2 (aa (bj (EV.app (y:=txt aT) rfl (EV.tup (aq.cons EV.str (aq.cons (EV.loc rfl) aq.nil))) (by omega))) (ao (aV (ah:=⟨jl t k H.length aT s (some (.tup (.str c::us))) x7 x8 x9,H++[.list (acc++[txt aT])]⟩) EV.str (show(4:Nat)<10 by decide))))) ?_
  have:=fin [] (aS acc aT) (by have:=b6 (acc:=acc) (aT:=aT);omega)
  unfold aS at this⊢
  rw[if_neg hr]at this⊢
  exact this
theorem ph {res:Except Ch (List V×Ch)} {run' e:Ch} {acc':List V} (hc:k.stops.contains [c]=false) (hlen:e.length<(c::s).length) (hsf:Sf (c::s) e) (hal:acc'.length+run'.length+e.length≤acc.length+aT.length+(c::s).length)
  (turn:∀n (H:List O) x6 x7 x8 x9,bc t (c::s)→4*(c::s).length+10≤n→acc.length+aT.length+(c::s).length<10000→∃y6 y7 y8 y9,bF (ay W n) W pS ⟨jl t k H.length aT (c::s) x6 x7 x8 x9,H++[.list acc]⟩=okR .next ⟨jl t k H.length run' e y6 y7 y8 y9,H++[.list acc']⟩)
  (h:cR W t k acc' run' e res):cR W t k acc aT (c::s) res:=by
 intro n H m x6 x7 x8 x9 x hn hm hl
 cases m with
 |zero=>simp at hm
 |succ m=>
  have t1:=j7 (Φ:=ay W n) (k:=k) (aT:=aT) (H:=H++[.list acc]) (x6:=x6) (x7:=x7) (x8:=x8) (x9:=x9) (j:=H.length) x
  rw[hc]at t1
  obtain⟨y6,y7,y8,y9,ht⟩:=turn n H x6 x7 x8 x9 x hn hl
  have ih:=h n H m y6 y7 y8 y9 (x.of hsf) (by omega) (by omega) (by omega)
  cases res with
  |ok p=>
   obtain⟨acc2,run2,z6,z7,z8,z9,h1,h2,h3,h4⟩:=ih
   exact⟨acc2,run2,z6,z7,z8,z9,h1,h2,h3,ba t1 ht h4⟩
  |error m'=>
   obtain⟨lo',acc2,h4⟩:=ih
   exact⟨lo',acc2,ba t1 ht h4⟩
theorem EE {m':Ch} (hc:k.stops.contains [c]=false)
  (turn:∀n (H:List O) x6 x7 x8 x9,bc t (c::s)→4*(c::s).length+10≤n→∃lo',bF (ay W n) W pS ⟨jl t k H.length aT (c::s) x6 x7 x8 x9,H++[.list acc]⟩=some (.error m',⟨lo',H++[.list acc]⟩)):cR W t k acc aT (c::s) (.error m'):=by
 intro n H m x6 x7 x8 x9 x hn hm hl
 cases m with
 |zero=>simp at hm
 |succ m=>
  have t1:=j7 (Φ:=ay W n) (k:=k) (aT:=aT) (H:=H++[.list acc]) (x6:=x6) (x7:=x7) (x8:=x8) (x9:=x9) (j:=H.length) x
  rw[hc]at t1
  obtain⟨lo',ht⟩:=turn n H x6 x7 x8 x9 x hn
  exact⟨lo',acc,mI t1 ht⟩
theorem ox {lo:List (Option V)} (x:bc t (c::s)) (h0:lo[0]? =some (some (.str t))) (h1:lo[1]? =some (some (.int (ps t (c::s))))) (d:Char):EV Φ ⟨lo,H⟩ (.cmp .eq (.idx (.loc 0) (.loc 1)) (.str [d])) (.bool ([c]==[d])) ⟨lo,H⟩:=
 aH (dZ (i:=1) (j:=0) x h1 h0)
theorem uf (h:pj W t s (.ok (vs0,e))) {H:List O} {x6 x7 x8 x9:Option V} {j:Nat} (x:bc t ('$'::s)) (hn:4*s.length+13≤n):
  eS (ay W n) W EN ⟨jl t k j aT ('$'::s) x6 x7 x8 x9,H⟩=okR .next ⟨jl t k j aT e (some vs0) x7 x8 x9,H⟩:=by
 refine aB (ox x rfl rfl '$') (ao ?_)
 exact cK (EV.callP (aq.cons (EV.loc rfl) (aq.cons (EV.loc rfl) aq.nil)) (h n H x hn)) rfl (cn (show(6:Nat)<10 by decide) (show(1:Nat)<10 by decide))
theorem GJ {res:Except Ch (List V×Ch)} (hv:pj W t s (.ok (txt ['$'],s))) (h:cR W t k acc (aT++['$']) s res):cR W t k acc aT ('$'::s) res:=
 ph (eV (.inl rfl)) (by simp) ⟨['$'],rfl⟩ (by simp;omega) (fun n H x6 x7 x8 x9 x hn hl=>⟨_,_,_,_,aa (uf hv x (by simp at hn;omega)) (ao (rL rfl rfl rfl (by simp at hl⊢;omega) (show(4:Nat)<10 by decide)))⟩) h
theorem Hd {res:Except Ch (List V×Ch)} {v:V} (hv:pj W t s (.ok (v,e))) (hsf:Sf s e) (ht:∃c vs,c≠['t','e','x','t']∧v=.tup (.str c::vs)) (h:cR W t k (aS acc aT++[v]) [] e res):cR W t k acc aT ('$'::s) res:=by
 obtain⟨p,hp⟩:=hsf
 have le:=congrArg List.length hp
 have fl:=b6 (acc:=acc) (aT:=aT)
 simp only[List.length_append]at le
 refine ph (eV (.inl rfl)) (by simp;omega) ⟨'$'::p,by rw[hp];rfl⟩ (by simp;omega) (fun n H x6 x7 x8 x9 x hn hl=>?_) h
 exact⟨_,_,_,_,aa (uf hv x (by simp at hn;omega)) (ao (ux rfl ht (by simp at hl;omega)))⟩
theorem AH (hv:pj W t s (.error m)):cR W t k acc aT ('$'::s) (.error m):=
 EE (eV (.inl rfl)) fun n H x6 x7 x8 x9 x hn=>⟨_,bA (aB (ox x rfl rfl '$') (bA (d9 (cX (aq.cons (EV.loc rfl) (aq.cons (EV.loc rfl) aq.nil)) (hv n _ x (by simp at hn;omega))))))⟩
end
end Mine
end
section
namespace Mine
open PySem (PyData)
section
variable {W n:Nat} {t s r e aT:Ch} {c:Char} {H:List O} {Φ:ci} {k:Kd} {acc vs:List V} {m:Ch}
theorem yn {q:Ch} (h:s=q++e):ps t s+q.length=ps t e:=by subst h;simp[ps];omega
theorem lD {r:Except Ch Ch} (hW:10002<W) (hb:pY W t s r) (x:bc t ('['::s)) (hn:4*s.length+14≤n):
  ay W n .brackets [.str t,.int (ps t ('['::s))] H=some (match r with
   | .ok e=>if e=[]then .error kr else .ok (.tup [.str (cut t (ps t s) (ps t e)),.int (ps t e+1)])
   | .error m=>.error m,H)∨(∃e,r=.ok e∧¬bc t e):=by
 obtain⟨n,rfl⟩:∃n',n=n'+1:=⟨n-1,by omega⟩
 have hl:=x.len
 have hs:=x.size
 simp only[List.length_cons]at hs
 have a1:eS (ay W n) W (.asg 2 (.bin .add (.loc 1) (.int 1))) ⟨[some (.str t),some (.int (ps t ('['::s))),none,none,none],H⟩=okR .next ⟨[some (.str t),some (.int (ps t ('['::s))),some (.int (ps t s)),none,none],H⟩:=by
  rw[←bC (t:=t) (c:='[') (s:=s)]
  exact aV (EV.bin (EV.loc rfl) EV.int rfl) (show(2:Nat)<5 by decide)
 have a2:eS (ay W n) W (.asg 3 (.call .skipToCommand (.cons (.loc 0) (.cons (.loc 2) .nil)))) ⟨[some (.str t),some (.int (ps t ('['::s))),some (.int (ps t s)),none,none],H⟩=okR .next ⟨v5 t (.int (ps t ('['::s))) (.int (ps t s)) (bh s) none,H⟩:=by
  obtain⟨m,rfl⟩:∃m,n=m+3:=⟨n-3,by omega⟩
  exact aV (EV.callP (aq.cons (EV.loc rfl) (aq.cons (EV.loc rfl) aq.nil)) (eA x.next hW)) (show(3:Nat)<5 by decide)
 have h:=hb n H W (.int (ps t ('['::s))) (.int (ps t s)) none x.next (by omega) (by omega)
 have brkErr:∀{x4:Option V},iter (tE (ay W n) mC) (bF (ay W n) W og) W ⟨v5 t (.int (ps t ('['::s))) (.int (ps t s)) (bh s) none,H⟩=okR .next ⟨v5 t (.int (ps t ('['::s))) (.int (ps t s)) [] x4,H⟩→
   ay W (n+1) .brackets [.str t,.int (ps t ('['::s))] H=some (.error kr,H):=by
  intro x4 h
  refine d6 (F:=iO) rfl rfl rfl (aa a1 (aa a2 (aa (cP h) (bA (aB (xH (i:=3) (j:=0) (s:=[]) (x.of ⟨'['::s,by simp⟩) rfl rfl) (bA i7)))))) (List.take_length ..)
 cases r with
 |error m=>
  refine .inl ?_
  rcases h with⟨rfl,x4,h⟩|⟨lo',h⟩
  ·exact brkErr h
  ·exact d6 (F:=iO) rfl rfl rfl (aa a1 (aa a2 (bA (cP h)))) (List.take_length ..)
 |ok e=>
  by_cases xe:bc t e
  ·refine .inl ?_
   obtain⟨x4,h⟩:=h
   dsimp only
   split
   ·rename_i he;subst he;exact brkErr h
   ·rename_i he
    have hc:=xH (Φ:=ay W n) (lo:=v5 t (.int (ps t ('['::s))) (.int (ps t s)) e x4) (H:=H) (i:=3) (j:=0) xe rfl rfl
    rw[show e.isEmpty=false by cases e with|nil=>exact(he rfl).elim|cons c e=>rfl]at hc
    exact aM (F:=iO) rfl rfl rfl (aa a1 (aa a2 (aa (cP h) (aa (av hc aw) (ak (aK (EV.tup (aq.cons (EV.slc (EV.loc rfl) (EV.loc rfl) (EV.loc rfl) x.at.lim) (aq.cons (EV.bin (EV.loc rfl) EV.int rfl) aq.nil))))))))) (List.take_length ..) rfl
  ·exact .inr ⟨e,rfl,xe⟩
theorem dk {lo:List (Option V)} (x:bc t (c::s)) (h0:lo[0]? =some (some (.str t))) (h1:lo[1]? =some (some (.int (ps t (c::s))))) {d:Char} (h:c≠d):EV Φ ⟨lo,H⟩ (.cmp .eq (.idx (.loc 0) (.loc 1)) (.str [d])) (.bool false) ⟨lo,H⟩:=by
 have:=ox (Φ:=Φ) (H:=H) x h0 h1 d
 rwa[bz h]at this
theorem Hr {res:Except Ch (List V×Ch)} {q:Ch} (hW:10002<W) (hv:pY W t s (.ok (']'::e))) (hq:s=q++']'::e) (h:cR W t k (aS acc aT++[cm q]) [] e res):cR W t k acc aT ('['::s) res:=by
 have le:=congrArg List.length hq
 have fl:=b6 (acc:=acc) (aT:=aT)
 simp only[List.length_append,List.length_cons]at le
 refine ph (eV (.inr (.inl rfl))) (by simp;omega) ⟨'['::(q++[']']),by rw[hq];simp⟩ (by simp;omega) (fun n H x6 x7 x8 x9 x hn hl=>?_) h
 have xe:bc t (']'::e):=x.next.of ⟨q,hq⟩
 have hb:=(lD (n:=n) (H:=H++[.list acc]) hW hv x (by simp at hn;omega)).resolve_right (by rintro⟨e',h1,h2⟩;cases h1;exact h2 xe)
 have e1:cut t (ps t s) (ps t (']'::e))=q:=by
  have x':bc t (q++']'::e):=hq▸x.next
  have:=iZ x' xe
  rwa[←hq]at this
 dsimp only at hb
 rw[if_neg (by simp),e1,bC]at hb
 have hc:eS (ay W n) W (.asgT [.loc 7,.loc 1] (.call .brackets (.cons (.loc 0) (.cons (.loc 1) .nil)))) ⟨jl t k H.length aT ('['::s) x6 x7 x8 x9,H++[.list acc]⟩=okR .next ⟨jl t k H.length aT e x6 (some (.str q)) x8 x9,H++[.list acc]⟩:=
  cK (EV.callP (aq.cons (EV.loc rfl) (aq.cons (EV.loc rfl) aq.nil)) hb) rfl (cn (show(7:Nat)<10 by decide) (show(1:Nat)<10 by decide))
 exact⟨some (cm q),some (.str q),x8,x9,aa (av (dk x rfl rfl (by decide)) (ao (aB (ox x rfl rfl '[') (aa hc (ao (aV (EV.tup (aq.cons EV.str (aq.cons (EV.loc rfl) aq.nil))) (show(6:Nat)<10 by decide))))))) (ao (ux (v:=cm q) rfl ⟨_,_,by decide,rfl⟩ (by simp at hl;omega)))⟩
theorem AV (hW:10002<W) (hv:pY W t s (.error m)):cR W t k acc aT ('['::s) (.error m):=
 EE (eV (.inr (.inl rfl))) fun n H x6 x7 x8 x9 x hn=>⟨_,by
  have hb:=(lD (n:=n) (H:=H++[.list acc]) hW hv x (by simp at hn;omega)).resolve_right (by rintro⟨e',h1,h2⟩;cases h1)
  exact bA (av (dk x rfl rfl (by decide)) (bA (aB (ox x rfl rfl '[') (bA (d9 (cX (aq.cons (EV.loc rfl) (aq.cons (EV.loc rfl) aq.nil)) hb))))))⟩
theorem yA {lo:List (Option V)} (x:bc t ('\\'::s)) (h0:lo[0]? =some (some (.str t))) (h1:lo[1]? =some (some (.int (ps t ('\\'::s))))) (h2:lo[2]? =some (some (Cy k))):
  EV Φ ⟨lo,H⟩ (.and (.cons (.cmp .inn (.str [' ']) (.loc 2)) (.cons (.cmp .eq (.slc (.loc 0) (.bin .add (.loc 1) (.int 1)) (.bin .add (.loc 1) (.int 2))) (.str ['\n'])) .nil))) (.bool (k.isBare&&(s.take 1==['\n']))) ⟨lo,H⟩:=
 EV.and2 (EV.cmp EV.str (EV.loc h2) (by rw[Ae,ue])) fun _=>aH (gO x h1 h0)
theorem Gd {b:Bool}:cR W t (.bare b) acc aT ('\\'::'\n'::s) (.ok (aS acc aT,'\\'::'\n'::s)):=by
 intro n H m x6 x7 x8 x9 x hn hm hl
 have:=b6 (acc:=acc) (aT:=aT)
 cases m with
 |zero=>simp at hm
 |succ m=>
  have t1:=j7 (Φ:=ay W n) (k:=.bare b) (aT:=aT) (H:=H++[.list acc]) (x6:=x6) (x7:=x7) (x8:=x8) (x9:=x9) (j:=H.length) x
  rw[eV (.inr (.inr rfl))]at t1
  refine⟨acc,aT,x6,x7,x8,x9,rfl,by omega,by omega,Ft t1 (vu (av (dk x rfl rfl (by decide)) (ao (av (dk x rfl rfl (by decide)) (ao (aB (ox x rfl rfl '\\') (vu (aB ?_ (vu HZ)))))))))⟩
  exact yA (k:=.bare b) x rfl rfl rfl
theorem ow (s:Ch):(cE s).1.length+(cE s).2.length≤s.length+1∧(cE s).2.length≤s.length:=by
 obtain⟨p,hp⟩:=lG s
 have:=congrArg List.length hp
 simp only[List.length_append]at this
 unfold cE at*
 rcases s with _|⟨c,r⟩
 ·simp
 ·dsimp only at*
  split
  ·rename_i h;rw[if_pos h]at this hp
   obtain⟨q,hq⟩:=dj r
   have:=congrArg List.length hq
   simp only[List.length_append,List.length_cons,List.length_nil]at*;omega
  ·simp;omega
theorem F4 {res:Except Ch (List V×Ch)} (hW:10002<W) (hok:∀c∈t,c∉tq) (hf:k.isBare=true→∀r,s≠'\n'::r) (h:cR W t k acc (aT++(cE s).1) (cE s).2 res):cR W t k acc aT ('\\'::s) res:=by
 obtain⟨b1,b2⟩:=ow s
 obtain⟨p,hp⟩:=lG s
 refine ph (eV (.inr (.inr rfl))) (by simp;omega) ⟨'\\'::p,by rw[List.cons_append, ←hp]⟩ (by simp;omega) (fun n H x6 x7 x8 x9 x hn hl=>?_) h
 obtain⟨n,rfl⟩:∃n',n=n'+1:=⟨n-1,by omega⟩
 have f:=yA (Φ:=ay W (n+1)) (k:=k) (lo:=jl t k H.length aT ('\\'::s) x6 x7 x8 x9) (H:=H++[.list acc]) x rfl rfl rfl
 have ff:(k.isBare&&(s.take 1==['\n']))=false:=by
  rw[Bool.eq_false_iff]
  intro q
  rw[Bool.and_eq_true]at q
  rcases s with _|⟨d,r⟩
  ·simp at q
  ·have:=q.2
   simp at this
   subst this
   exact hf q.1 r rfl
 rw[ff]at f
 have pb:=kz (W:=W) (n:=n) (H:=H++[.list acc]) x (fun c r q=>by
  obtain⟨p',hp'⟩:=x.suf
  exact hok c (by rw[hp',q];simp)) hW
 have hc:eS (ay W (n+1)) W (.asgT [.loc 8,.loc 1] (.call .backslash (.cons (.loc 0) (.cons (.loc 1) .nil)))) ⟨jl t k H.length aT ('\\'::s) x6 x7 x8 x9,H++[.list acc]⟩=okR .next ⟨jl t k H.length aT (cE s).2 x6 x7 (some (.str (cE s).1)) x9,H++[.list acc]⟩:=
  cK (EV.callP (aq.cons (EV.loc rfl) (aq.cons (EV.loc rfl) aq.nil)) pb) rfl (cn (show(8:Nat)<10 by decide) (show(1:Nat)<10 by decide))
 exact⟨some (txt (cE s).1),x7,some (.str (cE s).1),x9,aa (av (dk x rfl rfl (by decide)) (ao (av (dk x rfl rfl (by decide)) (ao (aB (ox x rfl rfl '\\') (aa (av f aw) (aa hc (ao (aV (EV.tup (aq.cons EV.str (aq.cons (EV.loc rfl) aq.nil))) (show(6:Nat)<10 by decide)))))))))) (ao (rL (lo:=jl t k H.length aT (cE s).2 (some (txt (cE s).1)) x7 (some (.str (cE s).1)) x9) rfl rfl rfl (by simp at hl⊢;omega) (show(4:Nat)<10 by decide)))⟩
theorem Do {x6 x7 x8 x9:Option V} {j:Nat}:∀(p s:Ch) (m:Nat),p.length<m→bc t (p++s)→(∀d∈p,dy k d=true)→(∀d r,s=d::r→dy k d=false)→
  iter (tE Φ vJ) (bF Φ W Ak) m ⟨jl t k j aT (p++s) x6 x7 x8 x9,H⟩=okR .next ⟨jl t k j aT s x6 x7 x8 x9,H⟩:=by
 have test:∀(c:Char) (s:Ch),bc t (c::s)→EV Φ ⟨jl t k j aT (c::s) x6 x7 x8 x9,H⟩ vJ (.bool (dy k c)) ⟨jl t k j aT (c::s) x6 x7 x8 x9,H⟩:=fun c s x=>by
  refine EV.andT (iS (i:=1) (j:=5) x rfl rfl) ?_
  exact EV.and2 (EV.cmp (dZ (i:=1) (j:=0) x rfl rfl) EV.str yd) fun _=>EV.cmp (dZ (i:=1) (j:=0) x rfl rfl) (EV.loc rfl) rh
 intro p
 induction p with
 |nil=>
  intro s m hm x _ hs
  obtain⟨m,rfl⟩:∃m',m=m'+1:=⟨m-1,by simp at hm;omega⟩
  rcases s with _|⟨c,s⟩
  ·exact bK (EV.andF (iS (i:=1) (j:=5) x rfl rfl))
  ·have:=test c s x
   rw[hs c s rfl]at this
   exact bK this
 |cons c p ih=>
  intro s m hm x hp hs
  obtain⟨m,rfl⟩:∃m',m=m'+1:=⟨m-1,by simp at hm;omega⟩
  have:=test c (p++s) x
  rw[hp c (.head _)]at this
  exact ba this (ao (d5 rfl bC (show(1:Nat)<10 by decide))) (ih s m (by simp at hm;omega) x.next (fun d hd=>hp d (.tail _ hd)) hs)
theorem Di {res:Except Ch (List V×Ch)} {p:Ch} (hW:10002<W) (hp:∀d∈c::p,dy k d=true) (hs:∀d r,s=d::r→dy k d=false) (h:cR W t k acc (aT++c::p) s res):cR W t k acc aT (c::p++s) res:=by
 have pc:=hp c (.head _)
 unfold dy at pc
 simp only[Bool.and_eq_true,Bool.not_eq_true',List.contains_cons,List.contains_nil,Bool.or_eq_false_iff,beq_eq_false_iff_ne]at pc
 obtain⟨⟨h1,h2,h3, -⟩,hst⟩:=pc
 refine ph hst (by simp;omega) ⟨c::p,rfl⟩ (by simp;omega) (fun n H x6 x7 x8 x9 x hn hl=>?_) h
 have x':bc t ((c::p)++s):=x
 have xs:bc t s:=x'.of ⟨c::p,rfl⟩
 have hz:=x'.size
 have hl':=x.len
 simp only[List.length_append,List.length_cons]at hz
 refine⟨some (txt (c::p)),x7,x8,some (.int (ps t (c::p++s))),aa (av (dk x rfl rfl h1) (ao (av (dk x rfl rfl h2) (ao (av (dk x rfl rfl h3) (aa (aV (EV.loc rfl) (show(9:Nat)<10 by decide)) (aa (cP (Do (c::p) s W (by simp;omega) x' hp hs)) (ao (aV (ah:=⟨jl t k H.length aT s x6 x7 x8 (some (.int (ps t (c::p++s)))),H++[.list acc]⟩) (EV.tup (vs:=[.str ['t','e','x','t'],.str (c::p)]) (aq.cons EV.str (aq.cons (sY x' xs rfl rfl rfl) aq.nil))) (show(6:Nat)<10 by decide)))))))))) (ao (rL (lo:=jl t k H.length aT s (some (txt (c::p))) x7 x8 (some (.int (ps t (c::p++s))))) rfl rfl rfl (by simp at hl⊢;omega) (show(4:Nat)<10 by decide)))⟩
end
end Mine
end
section
namespace Mine
open PySem (PyData)
theorem pn {α β:Type} {f:α→Option β}:∀{l:List α} {r:List β},bi f l=some r→∀a∈l,∃b,f a=some b
 |[],_,_,_,h=>by cases h
 |a::l,r,e,x,hx=>by
  unfold bi at e
  cases ha:f a with
  |none=>rw[ha]at e;cases e
  |some b=>
   cases hl:bi f l with
   |none=>rw[ha,hl]at e;cases e
   |some bs=>
    rcases List.mem_cons.mp hx with rfl|hx
    ·exact⟨b,ha⟩
    ·exact pn hl x hx
theorem gA {α β:Type} {f:α→Option β}:∀{l:List α},(∀a∈l,∃b,f a=some b)→∃r,bi f l=some r
 |[],_=>⟨[],rfl⟩
 |a::l,h=>by
  obtain⟨b,hb⟩:=h a (.head _)
  obtain⟨r,hr⟩:=gA (l:=l) fun x hx=>h x (.tail _ hx)
  exact⟨b::r,by unfold bi;rw[hb,hr]⟩
theorem iu {k:Nat}:∀{vs:List V},(∀v∈vs,ii k v=true)→iD k vs=true
 |[],_=>rfl
 |v::vs,h=>by
  show(ii k v&&iD k vs)=true
  rw[h v (.head _),iu fun x hx=>h x (.tail _ hx)];rfl
theorem A0 {k:Nat}:∀(d:Nat) (v:V) (x:PyData),pd [] d v=some x→ii k v=true
 |d+1,v,x,h=>by
  cases v with
  |tup vs=>
   unfold pd at h
   cases ho:bi (pd [] d) vs with
   |none=>simp[ho]at h
   |some r=>
    show iD k vs=true
    refine iu fun v hv=>?_
    obtain⟨y,hy⟩:=pn ho v hv
    exact A0 d v y hy
  |ref i=>simp[pd,listOf?]at h
  |_=>rfl
theorem Rd.low {d k:Nat} {v:V} (h:Rd d v):ii k v=true:=by
 obtain⟨x,hx⟩:=h []
 exact A0 d v x hx
theorem Rd.tup {d:Nat} {vs:List V} (h:∀v∈vs,Rd d v):Rd (d+1) (.tup vs):=fun H=>by
 obtain⟨r,hr⟩:=gA (f:=pd H d) (l:=vs) fun v hv=>h v hv H
 exact⟨.tuple r,by unfold pd;dsimp only;rw[hr];rfl⟩
theorem Rd.str {d:Nat} {l:Ch}:Rd (d+1) (.str l):=fun _=>⟨_,rfl⟩
theorem Rd.none {d:Nat}:Rd (d+1) .none:=fun _=>⟨_,rfl⟩
theorem Rd.bool {d:Nat} {b:Bool}:Rd (d+1) (.bool b):=fun _=>⟨_,rfl⟩
theorem Rd.int {d:Nat} {i:Int}:Rd (d+1) (.int i):=fun _=>⟨_,rfl⟩
theorem Rd.txt {d:Nat} {l:Ch}:Rd (d+2) (txt l):=Rd.tup (by
 intro v hv
 simp only[List.mem_cons,List.not_mem_nil,or_false]at hv
 rcases hv with rfl|rfl<;>exact Rd.str)
theorem Rd.cm {d:Nat} {l:Ch}:Rd (d+2) (cm l):=Rd.tup (by
 intro v hv
 simp only[List.mem_cons,List.not_mem_nil,or_false]at hv
 rcases hv with rfl|rfl<;>exact Rd.str)
theorem Rd.vr {d:Nat} {n:Ch} {x:V} (h:Rd (d+1) x):Rd (d+2) (vr n x):=Rd.tup (by
 intro v hv
 simp only[List.mem_cons,List.not_mem_nil,or_false]at hv
 rcases hv with rfl|rfl|rfl
 ·exact Rd.str
 ·exact Rd.str
 ·exact h)
section
variable {W n:Nat} {t s r e aT:Ch} {c:Char} {H:List O} {Φ:ci} {k:Kd} {acc vs:List V} {m:Ch}
theorem kb {res:Except Ch (List V×Ch)} (h:cR W t k [] [] s res) (hv:∀us e,res=.ok (us,e)→∃d,∀v∈us,Rd d v) (hW:10002<W) (hT:t.length<9000):pk W t k s res:=by
 intro n H x hn
 obtain⟨n,rfl⟩:∃n',n=n'+1:=⟨n-1,by omega⟩
 have hl:=x.len
 have hs:=x.size
 have key:∀r,bF (ay W n) W (.cons (.whl pQ pS) (.cons (.ife (.cmp .ne (.loc 4) (.str []))
   (.cons (.expr (.append (.loc 3) (.tup (.cons (.str ['t','e','x','t']) (.cons (.loc 4) .nil))))) .nil) .nil)
   (.cons (.ret (.tup (.cons (.tuple (.loc 3)) (.cons (.loc 1) .nil)))) .nil))) ⟨jl t k H.length [] s none none none none,H++[.list []]⟩=r→
   bF (ay W n) W lB ⟨[some (.str t),some (.int (ps t s)),some (Cy k),none,none,none,none,none,none,none],H⟩=r:=by
  intro r hr
  refine aa (ah:=⟨[some (.str t),some (.int (ps t s)),some (Cy k),some (.ref H.length),none,none,none,none,none,none],H++[O.list []]⟩) (aV (EV.lst aq.nil) (show(3:Nat)<10 by decide)) (aa (aV EV.str (show(4:Nat)<10 by decide)) (aa (aV (EV.len (EV.loc rfl) x.at.lim) (show(5:Nat)<10 by decide)) hr))
 have hp:=h n H W none none none none x (by omega) (by omega) (by simp;omega)
 cases res with
 |error m=>
  obtain⟨lo',acc',h1⟩:=hp
  exact d6 (F:=iQ) rfl rfl rfl (key _ (bA (cP h1))) (by simp)
 |ok p=>
  obtain⟨us,e⟩:=p
  obtain⟨acc',run',y6,y7,y8,y9,h1,h2,h4,h3⟩:=hp
  obtain⟨d,hd⟩:=hv us e rfl
  have low:ii H.length (.tup [.tup us,.int (ps t e)])=true:=by
   show iD H.length [.tup us,.int (ps t e)]=true
   refine iu fun v hv=>?_
   simp only[List.mem_cons,List.not_mem_nil,or_false]at hv
   rcases hv with rfl|rfl
   ·exact iu fun v hv=>(hd v hv).low
   ·rfl
  have fl:=b6 (acc:=acc') (aT:=run')
  have t2:EV (ay W n) ⟨jl t k H.length run' e y6 y7 y8 y9,H++[.list acc']⟩ (.cmp .ne (.loc 4) (.str [])) (.bool (!(run'==[]))) _:=jy (EV.loc rfl)
  have fin:bF (ay W n) W (.cons (.ret (.tup (.cons (.tuple (.loc 3)) (.cons (.loc 1) .nil)))) .nil) ⟨jl t k H.length run' e y6 y7 y8 y9,H++[.list us]⟩=okR (.ret (.tup [.tup us,.int (ps t e)])) ⟨jl t k H.length run' e y6 y7 y8 y9,H++[.list us]⟩:=
   ak (aK (EV.tup (aq.cons (EV.tuple (EV.loc rfl) bO h2) (aq.cons (EV.loc rfl) aq.nil))))
  refine aM (F:=iQ) (σ:=⟨jl t k H.length run' e y6 y7 y8 y9,H++[.list us]⟩) rfl rfl rfl (key _ (aa (cP h3) ?_)) (by simp) low
  subst h1
  unfold aS at fin⊢
  by_cases hr:run'=[]
  ·subst hr
   exact aa (av t2 aw) fin
  ·rw[show(run'==[])=false by simpa using hr]at t2
   rw[if_neg hr]at fin⊢
   have:=h2
   unfold aS at this
   rw[if_neg hr]at this
   simp at this
   exact aa (aB t2 (ao (bj (EV.app (y:=txt run') rfl (EV.tup (aq.cons EV.str (aq.cons (EV.loc rfl) aq.nil))) (by omega))))) fin
theorem CT {d:Char} {l p r:Ch} {n:Nat} (h:l.drop n=p++d::r) (hp:d∉p):jz d l n=(n:Int)+p.length:=by
 unfold jz
 have:(l.drop n).findIdx? (· ==d)=some p.length:=by
  rw[h,List.findIdx?_append]
  have:p.findIdx? (· ==d)=none:=by
   rw[List.findIdx?_eq_none_iff]
   intro y hy
   rw[beq_eq_false_iff_ne]
   exact fun q=>hp (q▸hy)
  rw[this]
  simp[List.findIdx?_cons]
 rw[this]
 simp
theorem C5 {d:Char} {l:Ch} {n:Nat} (h:d∉l.drop n):jz d l n= -1:=by
 unfold jz
 have:(l.drop n).findIdx? (· ==d)=none:=by
  rw[List.findIdx?_eq_none_iff]
  intro y hy
  rw[beq_eq_false_iff_ne]
  exact fun q=>h (q▸hy)
 rw[this]
theorem ro {x2 x3 x4 x5:Option V}:eS Φ W (.asg 2 (.bin .add (.loc 1) (.int 1))) ⟨[some (.str t),some (.int (ps t (c::s))),x2,x3,x4,x5],H⟩=okR .next ⟨[some (.str t),some (.int (ps t (c::s))),some (.int (ps t s)),x3,x4,x5],H⟩:=by
 rw[←bC (t:=t) (c:=c) (s:=s)]
 exact aV (EV.bin (EV.loc rfl) EV.int rfl) (show(2:Nat)<6 by decide)
theorem BP {c d:Char} {r:Ch}:((c::r).take 1==[d])=(c==d):=by simp
theorem iB {d:Char} (h:∀q,s≠d::q):(s.take 1==[d])=false:=by
 rcases s with _|⟨c,r⟩
 ·rfl
 ·rw[BP]
  have:c≠d:=fun q=>h r (by rw[q])
  simpa using this
theorem DB {nm:Ch} (h:'}'∉nm):pj W t ('{'::(nm++'}'::r)) (.ok (vr nm .none,r)):=by
 intro n H x hn
 obtain⟨n,rfl⟩:∃n',n=n'+1:=⟨n-1,by omega⟩
 have x1:=x.next
 obtain⟨k,h1,h2,h3⟩:=x1.at.nat
 have t1:=aH (b:=['{']) (cG (Φ:=ay W n) (lo:=[some (.str t),some (.int (ps t ('$'::'{'::(nm++'}'::r)))),some (.int (ps t ('{'::(nm++'}'::r)))),none,none,none]) (H:=H) (i:=2) (j:=0) (m:=1) x1 rfl rfl)
 have xr:bc t ('}'::r):=x1.next.of ⟨nm,rfl⟩
 have f:eS (ay W n) W (.asg 3 (.find2 (.loc 0) (.str ['}']) (.loc 2))) ⟨[some (.str t),some (.int (ps t ('$'::'{'::(nm++'}'::r)))),some (.int (ps t ('{'::(nm++'}'::r)))),none,none,none],H⟩=
   okR .next ⟨[some (.str t),some (.int (ps t ('$'::'{'::(nm++'}'::r)))),some (.int (ps t ('{'::(nm++'}'::r)))),some (.int (ps t ('}'::r))),none,none],H⟩:=by
  have e:jz '}' t (ps t ('{'::(nm++'}'::r))).toNat=ps t ('}'::r):=by
   have:(ps t ('{'::(nm++'}'::r))).toNat=k:=by rw[h1];rfl
   rw[this,CT (p:='{'::nm) (by rw[h3];rfl) (by simp[h]), ←h1]
   simp[ps];omega
  have:=aV (Φ:=ay W n) (W:=W) (σ:=⟨[some (.str t),some (.int (ps t ('$'::'{'::(nm++'}'::r)))),some (.int (ps t ('{'::(nm++'}'::r)))),none,none,none],H⟩) (i:=3) (EV.find2 (d:='}') (EV.loc (i:=0) rfl) EV.str (EV.loc (i:=2) rfl) (by rw[h1];simp at h2⊢;omega)) (show(3:Nat)<6 by decide)
  rw[e]at this
  exact this
 have t2:EV (ay W n) ⟨[some (.str t),some (.int (ps t ('$'::'{'::(nm++'}'::r)))),some (.int (ps t ('{'::(nm++'}'::r)))),some (.int (ps t ('}'::r))),none,none],H⟩ (.cmp .lt (.loc 3) (.int 0)) (.bool false) ⟨[some (.str t),some (.int (ps t ('$'::'{'::(nm++'}'::r)))),some (.int (ps t ('{'::(nm++'}'::r)))),some (.int (ps t ('}'::r))),none,none],H⟩:=
  EV.cmp (EV.loc rfl) EV.int (by
   show some (decide (ps t ('}'::r)<0))=some false
   have:=xr.size
   rw[decide_eq_false];unfold ps;omega)
 have e2:=EV.slc (Φ:=ay W n) (σ:=⟨[some (.str t),some (.int (ps t ('$'::'{'::(nm++'}'::r)))),some (.int (ps t ('{'::(nm++'}'::r)))),some (.int (ps t ('}'::r))),none,none],H⟩) (EV.loc (i:=0) rfl) (EV.bin (op:=.add) (EV.loc (i:=2) rfl) (EV.int (i:=1)) rfl) (EV.loc (i:=3) rfl) x.at.lim
 rw[bC,iZ x1.next xr]at e2
 have e3:EV (ay W n) ⟨[some (.str t),some (.int (ps t ('$'::'{'::(nm++'}'::r)))),some (.int (ps t ('{'::(nm++'}'::r)))),some (.int (ps t ('}'::r))),none,none],H⟩ (.bin .add (.loc 3) (.int 1)) (.int (ps t r)) ⟨[some (.str t),some (.int (ps t ('$'::'{'::(nm++'}'::r)))),some (.int (ps t ('{'::(nm++'}'::r)))),some (.int (ps t ('}'::r))),none,none],H⟩:=by
  have:=EV.bin (Φ:=ay W n) (op:=.add) (σ:=⟨[some (.str t),some (.int (ps t ('$'::'{'::(nm++'}'::r)))),some (.int (ps t ('{'::(nm++'}'::r)))),some (.int (ps t ('}'::r))),none,none],H⟩) (EV.loc (i:=3) rfl) (EV.int (i:=1)) rfl
  rwa[bC]at this
 exact aM (F:=dQ) rfl rfl rfl (aa ro (ak (aB t1 (aa f (aa (av t2 aw) (ak (aK (EV.tup (aq.cons (EV.tup (aq.cons EV.str (aq.cons e2 (aq.cons EV.none aq.nil)))) (aq.cons e3 aq.nil)))))))))) (List.take_length ..) rfl
theorem wu (h:'}'∉r):pj W t ('{'::r) (.error rI):=by
 intro n H x hn
 obtain⟨n,rfl⟩:∃n',n=n'+1:=⟨n-1,by omega⟩
 have x1:=x.next
 obtain⟨k,h1,h2,h3⟩:=x1.at.nat
 have t1:=aH (b:=['{']) (cG (Φ:=ay W n) (lo:=[some (.str t),some (.int (ps t ('$'::'{'::r))),some (.int (ps t ('{'::r))),none,none,none]) (H:=H) (i:=2) (j:=0) (m:=1) x1 rfl rfl)
 have f:eS (ay W n) W (.asg 3 (.find2 (.loc 0) (.str ['}']) (.loc 2))) ⟨[some (.str t),some (.int (ps t ('$'::'{'::r))),some (.int (ps t ('{'::r))),none,none,none],H⟩=
   okR .next ⟨[some (.str t),some (.int (ps t ('$'::'{'::r))),some (.int (ps t ('{'::r))),some (.int (-1)),none,none],H⟩:=by
  have e:jz '}' t (ps t ('{'::r)).toNat= -1:=by
   have:(ps t ('{'::r)).toNat=k:=by rw[h1];rfl
   rw[this,C5 (by rw[h3];simp[h])]
  have:=aV (Φ:=ay W n) (W:=W) (σ:=⟨[some (.str t),some (.int (ps t ('$'::'{'::r))),some (.int (ps t ('{'::r))),none,none,none],H⟩) (i:=3) (EV.find2 (d:='}') (EV.loc (i:=0) rfl) EV.str (EV.loc (i:=2) rfl) (by rw[h1];simp at h2⊢;omega)) (show(3:Nat)<6 by decide)
  rw[e]at this
  exact this
 exact d6 (F:=dQ) rfl rfl rfl (aa ro (bA (aB t1 (aa f (bA (aB (EV.cmp (EV.loc rfl) EV.int rfl) (bA i7))))))) (List.take_length ..)
end
end Mine
end
section
namespace Mine
open PySem (PyData)
section
variable {W n:Nat} {t s r e aT:Ch} {c:Char} {H:List O} {Φ:ci} {k:Kd} {acc vs:List V} {m:Ch}
noncomputable def nW (t:Ch) (a:Int) (s:Ch) (x3:Option V) (b:Ch) (x5:Option V):List (Option V):=[some (.str t),some (.int a),some (.int (ps t s)),x3,some (.int (ps t b)),x5]
theorem bf {lo:List (Option V)} {i:Nat} (h:lo[i]? =some (some (.int (ps t (c::s))))):EV Φ ⟨lo,H⟩ (.bin .add (.loc i) (.int 1)) (.int (ps t s)) ⟨lo,H⟩:=by
 have:=EV.bin (Φ:=Φ) (op:=.add) (EV.loc (σ:=⟨lo,H⟩) h) (EV.int (i:=1)) rfl
 rwa[bC]at this
theorem n5 (hW:10002<W) (hn:2≤n) (hs:∀q,s≠'{'::q) (x:bc t ('$'::s)) {ss:Ss} {res:R Fl} {S1:Ss}
  (h:bF (ay W n) W ss ⟨nW t (ps t ('$'::s)) s none (aX false s) none,H⟩=res):
  bF (ay W n) W (.cons (.asg 2 (.bin .add (.loc 1) (.int 1))) (.cons (.ife (.cmp .eq (.slc (.loc 0) (.loc 2) (.bin .add (.loc 2) (.int 1))) (.str ['{'])) S1 .nil) (.cons (.asg 4 (.call .readName (.cons (.loc 0) (.cons (.loc 2) .nil)))) ss)))
   ⟨[some (.str t),some (.int (ps t ('$'::s))),none,none,none,none],H⟩=res:=by
 obtain⟨n,rfl⟩:∃n',n=n'+2:=⟨n-2,by omega⟩
 have t1:=aH (b:=['{']) (cG (Φ:=ay W (n+2)) (lo:=[some (.str t),some (.int (ps t ('$'::s))),some (.int (ps t s)),none,none,none]) (H:=H) (i:=2) (j:=0) (m:=1) x.next rfl rfl)
 rw[iB hs]at t1
 refine aa ro (aa (av t1 aw) (aa (aV (EV.callP (aq.cons (EV.loc rfl) (aq.cons (EV.loc rfl) aq.nil)) (sW x.next (by omega))) (show(4:Nat)<6 by decide)) h))
theorem Gf (hW:10002<W) (hs:∀q,s≠'{'::q) (hb:aX false s=s) (hp:∀q,s≠'('::q):pj W t s (.ok (txt ['$'],s)):=by
 intro n H x hn
 obtain⟨n,rfl⟩:∃n',n=n'+1:=⟨n-1,by omega⟩
 have t1:=aH (b:=['(']) (cG (Φ:=ay W n) (lo:=nW t (ps t ('$'::s)) s none s none) (H:=H) (i:=4) (j:=0) (m:=1) x.next rfl rfl)
 rw[iB hp]at t1
 have t2:EV (ay W n) ⟨nW t (ps t ('$'::s)) s none s none,H⟩ (.cmp .eq (.loc 4) (.loc 2)) (.bool true) ⟨nW t (ps t ('$'::s)) s none s none,H⟩:=EV.cmp (EV.loc rfl) (EV.loc rfl) (by rw[hG];simp)
 refine aM (F:=dQ) (σ:=⟨nW t (ps t ('$'::s)) s none s none,H⟩) rfl rfl rfl (n5 hW (by omega) hs x ?_) (List.take_length ..) rfl
 rw[hb]
 exact aa (av t1 aw) (ak (aB t2 (ak (aK (EV.tup (aq.cons (EV.tup (aq.cons EV.str (aq.cons EV.str aq.nil))) (aq.cons (EV.loc rfl) aq.nil)))))))
theorem Gm {nm:Ch} (hW:10002<W) (hs:∀q,s≠'{'::q) (e1:s=nm++r) (hne:nm≠[]) (hb:aX false s=r) (hp:∀q,r≠'('::q):pj W t s (.ok (vr nm .none,r)):=by
 intro n H x hn
 obtain⟨n,rfl⟩:∃n',n=n'+1:=⟨n-1,by omega⟩
 have xr:bc t r:=x.next.of ⟨nm,e1⟩
 have xs:bc t (nm++r):=e1▸x.next
 have t1:=aH (b:=['(']) (cG (Φ:=ay W n) (lo:=nW t (ps t ('$'::s)) s none r none) (H:=H) (i:=4) (j:=0) (m:=1) xr rfl rfl)
 rw[iB hp]at t1
 have t2:EV (ay W n) ⟨nW t (ps t ('$'::s)) s none r none,H⟩ (.cmp .eq (.loc 4) (.loc 2)) (.bool false) ⟨nW t (ps t ('$'::s)) s none r none,H⟩:=EV.cmp (EV.loc rfl) (EV.loc rfl) (by
  rw[hG,AC xr x.next]
  have:=List.length_pos_iff.mpr hne
  rw[decide_eq_false]
  rw[e1,List.length_append];omega)
 have e3:EV (ay W n) ⟨nW t (ps t ('$'::s)) s none r none,H⟩ (.slc (.loc 0) (.loc 2) (.loc 4)) (.str nm) ⟨nW t (ps t ('$'::s)) s none r none,H⟩:=sY xs xr rfl (by rw[←e1];rfl) rfl
 refine aM (F:=dQ) (σ:=⟨nW t (ps t ('$'::s)) s none r none,H⟩) rfl rfl rfl (n5 hW (by omega) hs x ?_) (List.take_length ..) rfl
 rw[hb]
 exact aa (av t1 aw) (aa (av t2 aw) (ak (aK (EV.tup (aq.cons (EV.tup (aq.cons EV.str (aq.cons e3 (aq.cons EV.none aq.nil)))) (aq.cons (EV.loc rfl) aq.nil))))))
noncomputable def HX (nm:Ch):Except Ch (List V×Ch)→Except Ch (V×Ch)
 | .ok (_,[])=>.error rF
 | .ok (vs,_::e)=>.ok (vr nm (.tup vs),e)
 | .error m=>.error m
theorem DT {nm:Ch} {res:Except Ch (List V×Ch)} (hW:10002<W) (hs:∀q,s≠'{'::q) (e1:s=nm++'('::r) (hb:aX false s='('::r) (hp:pk W t .paren r res) (hr:∀vs e,res=.ok (vs,e)→Sf r e∧(e=[]∨∃e',e=')'::e')∧∃d,∀v∈vs,Rd d v):
  pj W t s (HX nm res):=by
 intro n H x hn
 obtain⟨n,rfl⟩:∃n',n=n'+1:=⟨n-1,by omega⟩
 have xp:bc t ('('::r):=x.next.of ⟨nm,e1⟩
 have xs:bc t (nm++'('::r):=e1▸x.next
 have le:=congrArg List.length e1
 simp only[List.length_append,List.length_cons]at le
 have t1:=aH (b:=['(']) (cG (Φ:=ay W n) (lo:=nW t (ps t ('$'::s)) s none ('('::r) none) (H:=H) (i:=4) (j:=0) (m:=1) xp rfl rfl)
 have hc:=hp n H xp.next (by omega)
 have args:aq (ay W n) ⟨nW t (ps t ('$'::s)) s none ('('::r) none,H⟩ (.cons (.loc 0) (.cons (.bin .add (.loc 4) (.int 1)) (.cons (.tup (.cons (.str [')']) .nil)) .nil))) [.str t,.int (ps t r),Cy .paren] ⟨nW t (ps t ('$'::s)) s none ('('::r) none,H⟩:=by
  rw[←bC (t:=t) (c:='(') (s:=r)]
  exact aq.cons (EV.loc rfl) (aq.cons (EV.bin (EV.loc rfl) EV.int rfl) (aq.cons (EV.tup (aq.cons EV.str aq.nil)) aq.nil))
 cases res with
 |error m=>
  refine d6 (F:=dQ) (σ:=⟨nW t (ps t ('$'::s)) s none ('('::r) none,H⟩) rfl rfl rfl (n5 hW (by omega) hs x ?_) (List.take_length ..)
  rw[hb]
  exact bA (aB t1 (bA (d9 (cX args hc))))
 |ok p=>
  obtain⟨vs,e⟩:=p
  obtain⟨sf,he,d,hd⟩:=hr vs e rfl
  have xe:bc t e:=xp.next.of sf
  have asg:eS (ay W n) W (.asgT [.loc 5,.loc 3] (.call .partsUntil (.cons (.loc 0) (.cons (.bin .add (.loc 4) (.int 1)) (.cons (.tup (.cons (.str [')']) .nil)) .nil))))) ⟨nW t (ps t ('$'::s)) s none ('('::r) none,H⟩=okR .next ⟨nW t (ps t ('$'::s)) s (some (.int (ps t e))) ('('::r) (some (.tup vs)),H⟩:=
   cK (EV.callP args hc) rfl (cn (show(5:Nat)<6 by decide) (show(3:Nat)<6 by decide))
  have t2:=xH (Φ:=ay W n) (lo:=nW t (ps t ('$'::s)) s (some (.int (ps t e))) ('('::r) (some (.tup vs))) (H:=H) (i:=3) (j:=0) xe rfl rfl
  rcases he with rfl|⟨e',rfl⟩
  ·refine d6 (F:=dQ) (σ:=⟨nW t (ps t ('$'::s)) s (some (.int (ps t []))) ('('::r) (some (.tup vs)),H⟩) rfl rfl rfl (n5 hW (by omega) hs x ?_) (List.take_length ..)
   rw[hb]
   exact bA (aB t1 (aa asg (bA (aB t2 (bA i7)))))
  ·have e3:EV (ay W n) ⟨nW t (ps t ('$'::s)) s (some (.int (ps t (')'::e')))) ('('::r) (some (.tup vs)),H⟩ (.slc (.loc 0) (.loc 2) (.loc 4)) (.str nm) ⟨nW t (ps t ('$'::s)) s (some (.int (ps t (')'::e')))) ('('::r) (some (.tup vs)),H⟩:=sY xs xp rfl (by rw[←e1];rfl) rfl
   have e4:EV (ay W n) ⟨nW t (ps t ('$'::s)) s (some (.int (ps t (')'::e')))) ('('::r) (some (.tup vs)),H⟩ (.bin .add (.loc 3) (.int 1)) (.int (ps t e')) ⟨nW t (ps t ('$'::s)) s (some (.int (ps t (')'::e')))) ('('::r) (some (.tup vs)),H⟩:=
    bf rfl
   have low:ii H.length (.tup [vr nm (.tup vs),.int (ps t e')])=true:=by
    show iD H.length [vr nm (.tup vs),.int (ps t e')]=true
    refine iu fun v hv=>?_
    simp only[List.mem_cons,List.not_mem_nil,or_false]at hv
    rcases hv with rfl|rfl
    ·exact(Rd.vr (Rd.tup hd):Rd (d+2) _).low
    ·rfl
   refine aM (F:=dQ) (σ:=⟨nW t (ps t ('$'::s)) s (some (.int (ps t (')'::e')))) ('('::r) (some (.tup vs)),H⟩) rfl rfl rfl (n5 hW (by omega) hs x ?_) (List.take_length ..) low
   rw[hb]
   exact ak (aB t1 (aa asg (aa (av t2 aw) (ak (aK (EV.tup (aq.cons (EV.tup (aq.cons EV.str (aq.cons e3 (aq.cons (EV.loc rfl) aq.nil)))) (aq.cons e4 aq.nil))))))))
end
end Mine
end
section
namespace Mine
open PySem (PyData)
section
variable {W n:Nat} {t s r e aT:Ch} {c:Char} {H:List O} {Φ:ci} {k:Kd} {acc vs:List V} {m:Ch} {b:Bool}
noncomputable def kq (t s:Ch) (b x:Bool) (sg:Ch) (x5 x6 x7 x8:Option V):List (Option V):=[some (.str t),some (.int (ps t s)),some (.bool b),some (.bool x),some (.str sg),x5,x6,x7,x8]
theorem ig (h:bU s=true):∃r,s='{'::'*'::'}'::r∧body s=r:=by
 unfold body
 rw[if_pos h]
 unfold bU at h
 rw[Bool.and_eq_true]at h
 have h:=h.1
 rcases s with _|⟨a,_|⟨b,_|⟨d,r⟩⟩⟩<;>simp at h
 obtain⟨rfl,rfl,rfl⟩:=h
 exact⟨r,rfl,rfl⟩
theorem fq (s:Ch):Sf s (body s):=by
 cases h:bU s with
 |true=>
  obtain⟨r,e1,e2⟩:=ig h
  exact⟨['{','*','}'],by rw[e2,e1];rfl⟩
 |false=>exact⟨[],by unfold body;rw[h];rfl⟩
theorem jE (hW:10002<W) (hn:3≤n) (x:bc t s) {ss:Ss} {res:R Fl}
  (h:bF (ay W n) W ss ⟨kq t (body s) b (bU s) ((body s).take 1) none none none none,H⟩=res):
  bF (ay W n) W (.cons (.asg 3 (.call .isExpanded (.cons (.loc 0) (.cons (.loc 1) .nil)))) (.cons (.ife (.loc 3) (.cons (.aug 1 .add (.int 3)) .nil) .nil) (.cons (.asg 4 (.slc (.loc 0) (.loc 1) (.bin .add (.loc 1) (.int 1)))) ss)))
   ⟨[some (.str t),some (.int (ps t s)),some (.bool b),none,none,none,none,none,none],H⟩=res:=by
 obtain⟨n,rfl⟩:∃n',n=n'+3:=⟨n-3,by omega⟩
 have xb:bc t (body s):=x.of (fq s)
 have fin:bF (ay W (n+3)) W (.cons (.asg 4 (.slc (.loc 0) (.loc 1) (.bin .add (.loc 1) (.int 1)))) ss) ⟨[some (.str t),some (.int (ps t (body s))),some (.bool b),some (.bool (bU s)),none,none,none,none,none],H⟩=res:=
  aa (aV (cG (i:=1) (j:=0) (m:=1) xb rfl rfl) (show(4:Nat)<9 by decide)) h
 refine aa (aV (EV.callP (aq.cons (EV.loc rfl) (aq.cons (EV.loc rfl) aq.nil)) (oC x (by omega))) (show(3:Nat)<9 by decide)) ?_
 cases he:bU s with
 |true=>
  rw[he]at fin
  obtain⟨r,e1,e2⟩:=ig he
  refine aa (aB (EV.loc rfl) (ao (d5 rfl ?_ (show(1:Nat)<9 by decide)))) fin
  rw[e2,e1];simp[ps];omega
 |false=>
  rw[he]at fin
  have:body s=s:=by unfold body;rw[he];rfl
  rw[this]at fin
  exact aa (av (EV.loc rfl) aw) fin
theorem CS (hW:10002<W) (hb:body s='{'::r):jx W t b s (match fD false 1 [] r with
  |some (i,e)=>.ok (bU s,aS [] i,e,.brace)
  |none=>.error jL):=by
 intro n H x hn
 obtain⟨n,rfl⟩:∃n',n=n'+3:=⟨n-3,by omega⟩
 have xb:bc t ('{'::r):=hb▸x.of (fq s)
 have hc:=v8 (W:=W) (n:=n) (H:=H) xb hW
 have t1:EV (ay W (n+2)) ⟨kq t ('{'::r) b (bU s) ['{'] none none none none,H⟩ (.cmp .eq (.loc 4) (.str ['{'])) (.bool true) ⟨kq t ('{'::r) b (bU s) ['{'] none none none none,H⟩:=aH (a:=['{']) (EV.loc rfl)
 cases hq:fD false 1 [] r with
 |none=>
  rw[hq]at hc
  refine d6 (F:=iL) (σ:=⟨kq t ('{'::r) b (bU s) ['{'] none none none none,H⟩) rfl rfl rfl (jE hW (by omega) x ?_) (List.take_length ..)
  rw[hb]
  exact bA (aB t1 (bA (d9 (cX (aq.cons (EV.loc rfl) (aq.cons (EV.loc rfl) aq.nil)) hc))))
 |some p=>
  obtain⟨i,e⟩:=p
  rw[hq]at hc
  have a1:eS (ay W (n+2)) W (.asgT [.loc 5,.loc 6] (.call .braces (.cons (.loc 0) (.cons (.loc 1) .nil)))) ⟨kq t ('{'::r) b (bU s) ['{'] none none none none,H⟩=okR .next ⟨kq t ('{'::r) b (bU s) ['{'] (some (.str i)) (some (.int (ps t e))) none none,H⟩:=
   cK (EV.callP (aq.cons (EV.loc rfl) (aq.cons (EV.loc rfl) aq.nil)) hc) rfl (cn (show(5:Nat)<9 by decide) (show(6:Nat)<9 by decide))
  have t2:EV (ay W (n+2)) ⟨kq t ('{'::r) b (bU s) ['{'] (some (.str i)) (some (.int (ps t e))) none none,H⟩ (.cmp .eq (.loc 5) (.str [])) (.bool (i==[])) ⟨kq t ('{'::r) b (bU s) ['{'] (some (.str i)) (some (.int (ps t e))) none none,H⟩:=aH (EV.loc rfl)
  by_cases hi:i=[]
  ·subst hi
   refine aM (F:=iL) (σ:=⟨kq t ('{'::r) b (bU s) ['{'] (some (.str [])) (some (.int (ps t e))) none none,H⟩) rfl rfl rfl (jE hW (by omega) x ?_) (List.take_length ..) rfl
   rw[hb]
   exact ak (aB t1 (aa a1 (ak (aB t2 (ak (aK (EV.tup (aq.cons (EV.tup (aq.cons (EV.loc rfl) (aq.cons (EV.tup aq.nil) aq.nil))) (aq.cons (EV.loc rfl) aq.nil)))))))))
  ·rw[show(i==[])=false by simpa using hi]at t2
   show ay W (n+3) .word _ H=some (.ok (.tup [wd (bU s) (aS [] i),.int (ps t e)]),H)
   rw[show aS [] i=[txt i] by unfold aS;rw[if_neg hi];rfl]
   refine aM (F:=iL) (σ:=⟨kq t ('{'::r) b (bU s) ['{'] (some (.str i)) (some (.int (ps t e))) none none,H⟩) rfl rfl rfl (jE hW (by omega) x ?_) (List.take_length ..) rfl
   rw[hb]
   exact ak (aB t1 (aa a1 (aa (av t2 aw) (ak (aK (EV.tup (aq.cons (EV.tup (aq.cons (EV.loc rfl) (aq.cons (EV.tup (aq.cons (EV.tup (aq.cons EV.str (aq.cons (EV.loc rfl) aq.nil))) aq.nil)) aq.nil))) (aq.cons (EV.loc rfl) aq.nil))))))))
theorem tF {x:Bool} {i:Int} {d:Nat} (h:∀v∈vs,Rd d v):ii H.length (.tup [wd x vs,.int i])=true:=by
 have:Rd (d+3) (.tup [wd x vs,.int i]):=Rd.tup (by
  intro v hv
  simp only[List.mem_cons,List.not_mem_nil,or_false]at hv
  rcases hv with rfl|rfl
  ·exact Rd.tup (by
    intro v hv
    simp only[List.mem_cons,List.not_mem_nil,or_false]at hv
    rcases hv with rfl|rfl
    ·exact Rd.bool
    ·exact Rd.tup h)
  ·exact Rd.int)
 exact this.low
noncomputable def Hn (x:Bool):Except Ch (List V×Ch)→Except Ch (Bool×List V×Ch×Cl)
 | .ok (_,[])=>.error si
 | .ok (vs,_::e)=>.ok (x,vs,e,.quote)
 | .error m=>.error m
noncomputable def HJ (x:Bool):Except Ch (List V×Ch)→Except Ch (Bool×List V×Ch×Cl)
 | .ok (vs,e)=>.ok (x,vs,e,.bare)
 | .error m=>.error m
theorem D8 {res:Except Ch (List V×Ch)} (hW:10002<W) (hb:body s='"'::r) (hp:pk W t .quote r res) (hr:∀vs e,res=.ok (vs,e)→Sf r e∧(e=[]∨∃e',e='"'::e')∧∃d,∀v∈vs,Rd d v):
  jx W t b s (Hn (bU s) res):=by
 intro n H x hn
 obtain⟨n,rfl⟩:∃n',n=n'+1:=⟨n-1,by omega⟩
 have xb:bc t ('"'::r):=hb▸x.of (fq s)
 have le:r.length+1≤s.length:=by
  obtain⟨p,hp⟩:=fq s
  rw[hb]at hp
  have:=congrArg List.length hp
  simp at this;omega
 have hc:=hp n H xb.next (by omega)
 have t0:EV (ay W n) ⟨kq t ('"'::r) b (bU s) ['"'] none none none none,H⟩ (.cmp .eq (.loc 4) (.str ['{'])) (.bool false) ⟨kq t ('"'::r) b (bU s) ['"'] none none none none,H⟩:=aH (a:=['"']) (EV.loc rfl)
 have t1:EV (ay W n) ⟨kq t ('"'::r) b (bU s) ['"'] none none none none,H⟩ (.cmp .eq (.loc 4) (.str ['"'])) (.bool true) ⟨kq t ('"'::r) b (bU s) ['"'] none none none none,H⟩:=aH (a:=['"']) (EV.loc rfl)
 have args:aq (ay W n) ⟨kq t ('"'::r) b (bU s) ['"'] none none none none,H⟩ (.cons (.loc 0) (.cons (.bin .add (.loc 1) (.int 1)) (.cons (.tup (.cons (.str ['"']) .nil)) .nil))) [.str t,.int (ps t r),Cy .quote] ⟨kq t ('"'::r) b (bU s) ['"'] none none none none,H⟩:=
  aq.cons (EV.loc rfl) (aq.cons (bf rfl) (aq.cons (EV.tup (aq.cons EV.str aq.nil)) aq.nil))
 cases res with
 |error m=>
  refine d6 (F:=iL) (σ:=⟨kq t ('"'::r) b (bU s) ['"'] none none none none,H⟩) rfl rfl rfl (jE hW (by omega) x ?_) (List.take_length ..)
  rw[hb]
  exact aa (av t0 aw) (bA (aB t1 (bA (d9 (cX args hc)))))
 |ok p=>
  obtain⟨vs,e⟩:=p
  obtain⟨sf,he,d,hd⟩:=hr vs e rfl
  have xe:bc t e:=xb.next.of sf
  have asg:eS (ay W n) W (.asgT [.loc 7,.loc 8] (.call .partsUntil (.cons (.loc 0) (.cons (.bin .add (.loc 1) (.int 1)) (.cons (.tup (.cons (.str ['"']) .nil)) .nil))))) ⟨kq t ('"'::r) b (bU s) ['"'] none none none none,H⟩=okR .next ⟨kq t ('"'::r) b (bU s) ['"'] none none (some (.tup vs)) (some (.int (ps t e))),H⟩:=
   cK (EV.callP args hc) rfl (cn (show(7:Nat)<9 by decide) (show(8:Nat)<9 by decide))
  have t2:=xH (Φ:=ay W n) (lo:=kq t ('"'::r) b (bU s) ['"'] none none (some (.tup vs)) (some (.int (ps t e)))) (H:=H) (i:=8) (j:=0) xe rfl rfl
  rcases he with rfl|⟨e',rfl⟩
  ·refine d6 (F:=iL) (σ:=⟨kq t ('"'::r) b (bU s) ['"'] none none (some (.tup vs)) (some (.int (ps t []))),H⟩) rfl rfl rfl (jE hW (by omega) x ?_) (List.take_length ..)
   rw[hb]
   exact aa (av t0 aw) (bA (aB t1 (aa asg (bA (aB t2 (bA i7))))))
  ·refine aM (F:=iL) (σ:=⟨kq t ('"'::r) b (bU s) ['"'] none none (some (.tup vs)) (some (.int (ps t ('"'::e')))),H⟩) rfl rfl rfl (jE hW (by omega) x ?_) (List.take_length ..) (tF hd)
   rw[hb]
   exact aa (av t0 aw) (ak (aB t1 (aa asg (aa (av t2 aw) (ak (aK (EV.tup (aq.cons (EV.tup (aq.cons (EV.loc rfl) (aq.cons (EV.loc rfl) aq.nil))) (aq.cons (bf rfl) aq.nil)))))))))
theorem Bz {res:Except Ch (List V×Ch)} (hW:10002<W) (hb:body s=c::r) (h1:c≠'{') (h2:c≠'"') (hp:pk W t (.bare b) (c::r) res) (hr:∀vs e,res=.ok (vs,e)→∃d,∀v∈vs,Rd d v):
  jx W t b s (HJ (bU s) res):=by
 intro n H x hn
 obtain⟨n,rfl⟩:∃n',n=n'+2:=⟨n-2,by omega⟩
 have xb:bc t (c::r):=hb▸x.of (fq s)
 have le:r.length+1≤s.length:=by
  obtain⟨p,hp⟩:=fq s
  rw[hb]at hp
  have:=congrArg List.length hp
  simp at this;omega
 have hc:=hp (n+1) H xb (by simp;omega)
 have t0:EV (ay W (n+1)) ⟨kq t (c::r) b (bU s) [c] none none none none,H⟩ (.cmp .eq (.loc 4) (.str ['{'])) (.bool ([c]==['{'])) ⟨kq t (c::r) b (bU s) [c] none none none none,H⟩:=aH (a:=[c]) (EV.loc rfl)
 rw[bz h1]at t0
 have t1:EV (ay W (n+1)) ⟨kq t (c::r) b (bU s) [c] none none none none,H⟩ (.cmp .eq (.loc 4) (.str ['"'])) (.bool ([c]==['"'])) ⟨kq t (c::r) b (bU s) [c] none none none none,H⟩:=aH (a:=[c]) (EV.loc rfl)
 rw[bz h2]at t1
 have args:aq (ay W (n+1)) ⟨kq t (c::r) b (bU s) [c] none none none none,H⟩ (.cons (.loc 0) (.cons (.loc 1) (.cons (.call .bareStops (.cons (.loc 2) .nil)) .nil))) [.str t,.int (ps t (c::r)),Cy (.bare b)] ⟨kq t (c::r) b (bU s) [c] none none none none,H⟩:=
  aq.cons (EV.loc rfl) (aq.cons (EV.loc rfl) (aq.cons (EV.callP (aq.cons (EV.loc rfl) aq.nil) qb) aq.nil))
 cases res with
 |error m=>
  refine d6 (F:=iL) (σ:=⟨kq t (c::r) b (bU s) [c] none none none none,H⟩) rfl rfl rfl (jE hW (by omega) x ?_) (List.take_length ..)
  rw[hb]
  exact aa (av t0 aw) (aa (av t1 aw) (bA (d9 (cX args hc))))
 |ok p=>
  obtain⟨vs,e⟩:=p
  obtain⟨d,hd⟩:=hr vs e rfl
  have asg:eS (ay W (n+1)) W (.asgT [.loc 7,.loc 6] (.call .partsUntil (.cons (.loc 0) (.cons (.loc 1) (.cons (.call .bareStops (.cons (.loc 2) .nil)) .nil))))) ⟨kq t (c::r) b (bU s) [c] none none none none,H⟩=okR .next ⟨kq t (c::r) b (bU s) [c] none (some (.int (ps t e))) (some (.tup vs)) none,H⟩:=
   cK (EV.callP args hc) rfl (cn (show(7:Nat)<9 by decide) (show(6:Nat)<9 by decide))
  refine aM (F:=iL) (σ:=⟨kq t (c::r) b (bU s) [c] none (some (.int (ps t e))) (some (.tup vs)) none,H⟩) rfl rfl rfl (jE hW (by omega) x ?_) (List.take_length ..) (tF hd)
  rw[hb]
  exact aa (av t0 aw) (aa (av t1 aw) (aa asg (ak (aK (EV.tup (aq.cons (EV.tup (aq.cons (EV.loc rfl) (aq.cons (EV.loc rfl) aq.nil))) (aq.cons (EV.loc rfl) aq.nil)))))))
end
end Mine
end
section
namespace Mine
open PySem (PyData)
theorem fj:∀(m:Nat) (s:Ch),s.length≤m→skipGaps (skipGaps s)=skipGaps s
 |_,[],_=>rfl
 |m+1,c::r,h=>by
  have h':r.length≤m:=by simpa using h
  by_cases hg:iy c=true
  ·rw[ey hg];exact fj m r h'
  ·by_cases h2:∃r',c='\\'∧r='\n'::r'
   ·obtain⟨r',rfl,rfl⟩:=h2
    rw[fC];exact fj m r' (by simp at h';omega)
   ·have e:=fp (by simpa using hg) h2
    rw[e,e]
theorem qx:∀(k:Nat) (s:Ch),s.length<k→skipGaps (b8 k s)=b8 k s∧∀c r,b8 k s=c::r→iM c=false
 |k+1,s,h=>by
  have hl:=dU s
  by_cases hc:∃c r,skipGaps s=c::r∧iM c=true
  ·obtain⟨c,r,e,hc⟩:=hc
   rw[e,List.length_cons]at hl
   have step:∃s',b8 (k+1) s=b8 k s'∧s'.length<k:=by
    simp only[iM,Bool.or_eq_true,beq_iff_eq]at hc
    rcases hc with(rfl|rfl)|rfl
    ·exact⟨r,by rw[b8,e];rfl,by omega⟩
    ·exact⟨r,by rw[b8,e];rfl,by omega⟩
    ·refine⟨bB ('#'::r),by rw[b8,e];rfl,?_⟩
     have:=jr r
     rw[iH];omega
   obtain⟨s',e1,e2⟩:=step
   rw[e1]
   exact qx k s' e2
  ·have st:∀c r,skipGaps s=c::r→iM c=false:=fun c r e=>by
    cases hl:iM c with
    |false=>rfl
    |true=>exact(hc ⟨c,r,e,hl⟩).elim
   rw[fe st]
   exact⟨fj _ s (Nat.le_refl _),st⟩
theorem gT (s:Ch):skipGaps (bh s)=bh s∧∀c r,bh s=c::r→iM c=false:=qx _ s (by omega)
theorem lY (s:Ch):bh (bh s)=bh s:=by
 obtain⟨h1,h2⟩:=gT s
 show b8 ((bh s).length+1) (bh s)=bh s
 rw[fe (by rw[h1];exact h2),h1]
theorem dH (s:Ch):(bh s).length≤s.length:=by
 obtain⟨p,h⟩:=bZ s
 have:=congrArg List.length h
 simp at this;omega
section
variable {W n:Nat} {t s r e a aT:Ch} {c:Char} {H:List O} {Φ:ci} {k:Kd} {acc vs ws:List V} {m:Ch} {b x:Bool} {cl:Cl}
noncomputable def m6 (t:Ch) (x1:V) (b:Bool) (s0:Ch) (j:Nat) (s:Ch) (x7 x8:Option V):List (Option V):=[some (.str t),some x1,some (.bool b),some (.int (ps t s0)),some (.int t.length),some (.ref j),some (.int (ps t s)),x7,x8]
noncomputable def kQ:Ss:=(.cons (.asgT [.loc 7,.loc 8] (.call .word (.cons (.loc 0) (.cons (.loc 6) (.cons (.loc 2) .nil)))))
 (.cons (.expr (.append (.loc 5) (.loc 7)))
 (.cons (.asg 6 (.call .skipGaps (.cons (.loc 0) (.cons (.loc 8) .nil))))
 (.cons (.ife (.cmp .ge (.loc 6) (.loc 4)) (.cons (.ret (.tup (.cons (.tuple (.loc 5)) (.cons (.loc 3) (.cons (.loc 8) (.cons (.loc 4) .nil)))))) .nil) .nil)
 (.cons (.ife (.cmp .inn (.idx (.loc 0) (.loc 6)) (.tup (.cons (.str ['\n']) (.cons (.str [';']) .nil)))) (.cons (.ret (.tup (.cons (.tuple (.loc 5)) (.cons (.loc 3) (.cons (.loc 8) (.cons (.bin .add (.loc 6) (.int 1)) .nil)))))) .nil) .nil)
 (.cons (.ife (.and (.cons (.loc 2) (.cons (.cmp .eq (.idx (.loc 0) (.loc 6)) (.str [']'])) .nil))) (.cons (.ret (.tup (.cons (.tuple (.loc 5)) (.cons (.loc 3) (.cons (.loc 8) (.cons (.loc 6) .nil)))))) .nil) .nil)
 (.cons (.ife (.cmp .eq (.loc 6) (.loc 8))
 (.cons (.ife (.cmp .eq (.idx (.loc 0) (.bin .sub (.loc 8) (.int 1))) (.str ['"'])) (.cons (.raise tv) .nil) .nil) (.cons (.raise sS) .nil)) .nil) .nil)))))))
noncomputable def DP:Ss:=match kQ with
 | .cons _ (.cons _ (.cons _ ss))=>ss
 |_=>.nil
noncomputable def nx (W:Nat) (t:Ch) (b:Bool) (ws:List V) (s:Ch) (r:Except Ch (List V×Ch×Ch)):Prop:=∀n (H:List O) m x1 s0 x7 x8,bc t s→4*s.length+12≤n→s.length<m→ws.length+s.length<9500→match r with
 | .ok (ws',e,a)=>∃lo',iter (tE (ay W n) (.bool true)) (bF (ay W n) W kQ) m ⟨m6 t x1 b s0 H.length s x7 x8,H++[.list ws]⟩=okR (.ret (.tup [.tup ws',.int (ps t s0),.int (ps t e),.int (ps t a)])) ⟨lo',H++[.list ws']⟩
 | .error m'=>∃lo' ws',iter (tE (ay W n) (.bool true)) (bF (ay W n) W kQ) m ⟨m6 t x1 b s0 H.length s x7 x8,H++[.list ws]⟩=some (.error m',⟨lo',H++[.list ws']⟩)
theorem mw (hw:jx W t b s (.ok (x,vs,e,cl))) (sf:Sf s e) {x1:V} {s0:Ch} {x7 x8:Option V} (xs:bc t s) (hn:4*s.length+12≤n) (hW:10002<W) (hl:ws.length<9500) {res:R Fl}
  (h:bF (ay W n) W DP ⟨m6 t x1 b s0 H.length (skipGaps e) (some (wd x vs)) (some (.int (ps t e))),H++[.list (ws++[wd x vs])]⟩=res):
  bF (ay W n) W kQ ⟨m6 t x1 b s0 H.length s x7 x8,H++[.list ws]⟩=res:=by
 have hw:=hw n (H++[.list ws]) xs hn
 obtain⟨n,rfl⟩:∃n',n=n'+2:=⟨n-2,by omega⟩
 refine aa (ah:=⟨m6 t x1 b s0 H.length s (some (wd x vs)) (some (.int (ps t e))),H++[.list ws]⟩) (cK (EV.callP (aq.cons (EV.loc rfl) (aq.cons (EV.loc rfl) (aq.cons (EV.loc rfl) aq.nil))) hw) rfl (cn (show(7:Nat)<9 by decide) (show(8:Nat)<9 by decide))) ?_
 refine aa (bj (EV.app rfl (EV.loc rfl) (by omega))) ?_
 exact aa (aV (EV.callP (aq.cons (EV.loc rfl) (aq.cons (EV.loc rfl) aq.nil)) (ew (xs.of sf) (by omega))) (show(6:Nat)<9 by decide)) h
theorem Sf.len (h:Sf s e):e.length≤s.length:=by
 obtain⟨p,rfl⟩:=h
 simp
theorem Sf.trans {q:Ch} (h:Sf s e) (h':Sf e q):Sf s q:=by
 obtain⟨p,rfl⟩:=h
 obtain⟨p',rfl⟩:=h'
 exact⟨p++p',by simp⟩
theorem Dj {c:Char}:dX H .inn (.str [c]) (.tup [.str ['\n'],.str [';']])=some (term c):=by
 rw[kY (ls:=[['\n'],[';']]) rfl]
 congr 1
 rw[Bool.eq_iff_iff]
 simp[term]
theorem DA (xs:bc t (c::r)) {x1:V} {s0:Ch} {x7 x8:Option V} {j:Nat}:
  EV Φ ⟨m6 t x1 b s0 j (c::r) x7 x8,H⟩ (.cmp .ge (.loc 6) (.loc 4)) (.bool false) ⟨m6 t x1 b s0 j (c::r) x7 x8,H⟩∧
  EV Φ ⟨m6 t x1 b s0 j (c::r) x7 x8,H⟩ (.cmp .inn (.idx (.loc 0) (.loc 6)) (.tup (.cons (.str ['\n']) (.cons (.str [';']) .nil)))) (.bool (term c)) ⟨m6 t x1 b s0 j (c::r) x7 x8,H⟩∧
  EV Φ ⟨m6 t x1 b s0 j (c::r) x7 x8,H⟩ (.and (.cons (.loc 2) (.cons (.cmp .eq (.idx (.loc 0) (.loc 6)) (.str [']'])) .nil))) (.bool (b&&([c]==[']']))) ⟨m6 t x1 b s0 j (c::r) x7 x8,H⟩:=
 ⟨oR (i:=6) (j:=4) xs rfl rfl,EV.cmp (dZ (i:=6) (j:=0) xs rfl rfl) (EV.tup (aq.cons EV.str (aq.cons EV.str aq.nil))) Dj,
  EV.and2 (EV.loc rfl) fun _=>aH (dZ (i:=6) (j:=0) xs rfl rfl)⟩
theorem HL (hW:10002<W) (hw:jx W t b s (.ok (x,vs,e,cl))) (sf:Sf s e) (hg:skipGaps e=[]):nx W t b ws s (.ok (ws++[wd x vs],e,[])):=by
 intro n H m x1 s0 x7 x8 xs hn hm hl
 obtain⟨m,rfl⟩:∃m',m=m'+1:=⟨m-1,by omega⟩
 have xe:bc t []:=(xs.of sf).of (hg▸bn e)
 refine⟨m6 t x1 b s0 H.length [] (some (wd x vs)) (some (.int (ps t e))),i8 EV.bool (mw hw sf xs hn hW (by omega) ?_)⟩
 rw[hg]
 refine ak (aB (oR (i:=6) (j:=4) xe rfl rfl) (ak (aK ?_)))
 rw[fU]
 exact EV.tup (aq.cons (EV.tuple (EV.loc rfl) bO (by simp;omega)) (aq.cons (EV.loc rfl) (aq.cons (EV.loc rfl) (aq.cons (EV.loc rfl) aq.nil))))
theorem GK {d:Char} (hW:10002<W) (hw:jx W t b s (.ok (x,vs,e,cl))) (sf:Sf s e) (hg:skipGaps e=d::a) (hd:term d=true):nx W t b ws s (.ok (ws++[wd x vs],e,a)):=by
 intro n H m x1 s0 x7 x8 xs hn hm hl
 obtain⟨m,rfl⟩:∃m',m=m'+1:=⟨m-1,by omega⟩
 have xe:bc t (d::a):=(xs.of sf).of (hg▸bn e)
 refine⟨m6 t x1 b s0 H.length (d::a) (some (wd x vs)) (some (.int (ps t e))),i8 EV.bool (mw hw sf xs hn hW (by omega) ?_)⟩
 rw[hg]
 obtain⟨t1,t2, -⟩:=DA (Φ:=ay W n) (H:=H++[.list (ws++[wd x vs])]) (b:=b) (x1:=x1) (s0:=s0) (x7:=some (wd x vs)) (x8:=some (.int (ps t e))) (j:=H.length) xe
 rw[hd]at t2
 exact aa (av t1 aw) (ak (aB t2 (ak (aK (EV.tup (aq.cons (EV.tuple (EV.loc rfl) bO (by simp;omega)) (aq.cons (EV.loc rfl) (aq.cons (EV.loc rfl) (aq.cons (bf rfl) aq.nil)))))))))
theorem yI (hW:10002<W) (hw:jx W t true s (.ok (x,vs,e,cl))) (sf:Sf s e) (hg:skipGaps e=']'::a):nx W t true ws s (.ok (ws++[wd x vs],e,']'::a)):=by
 intro n H m x1 s0 x7 x8 xs hn hm hl
 obtain⟨m,rfl⟩:∃m',m=m'+1:=⟨m-1,by omega⟩
 have xe:bc t (']'::a):=(xs.of sf).of (hg▸bn e)
 refine⟨m6 t x1 true s0 H.length (']'::a) (some (wd x vs)) (some (.int (ps t e))),i8 EV.bool (mw hw sf xs hn hW (by omega) ?_)⟩
 rw[hg]
 obtain⟨t1,t2,t3⟩:=DA (Φ:=ay W n) (H:=H++[.list (ws++[wd x vs])]) (b:=true) (x1:=x1) (s0:=s0) (x7:=some (wd x vs)) (x8:=some (.int (ps t e))) (j:=H.length) xe
 exact aa (av t1 aw) (aa (av t2 aw) (ak (aB t3 (ak (aK (EV.tup (aq.cons (EV.tuple (EV.loc rfl) bO (by simp;omega)) (aq.cons (EV.loc rfl) (aq.cons (EV.loc rfl) (aq.cons (EV.loc rfl) aq.nil))))))))))
theorem oa (h:¬(b=true∧c=']')):(b&&([c]==[']']))=false:=by
 rw[Bool.eq_false_iff]
 intro q
 rw[Bool.and_eq_true]at q
 exact h ⟨q.1,by simpa using q.2⟩
theorem Ff {res:Except Ch (List V×Ch×Ch)} (hW:10002<W) (hw:jx W t b s (.ok (x,vs,e,cl))) (sf:Sf s e) (hse:e.length<s.length) (hg:skipGaps e=c::r) (hlt:r.length+1<e.length) (hd:term c=false) (hb:¬(b=true∧c=']')) (h:nx W t b (ws++[wd x vs]) (c::r) res):nx W t b ws s res:=by
 intro n H m x1 s0 x7 x8 xs hn hm hl
 obtain⟨m,rfl⟩:∃m',m=m'+1:=⟨m-1,by omega⟩
 have xe:bc t (c::r):=(xs.of sf).of (hg▸bn e)
 have le:=sf.len
 have ih:=h n H m x1 s0 (some (wd x vs)) (some (.int (ps t e))) xe (by simp;omega) (by simp;omega) (by simp;omega)
 obtain⟨t1,t2,t3⟩:=DA (Φ:=ay W n) (H:=H++[.list (ws++[wd x vs])]) (b:=b) (x1:=x1) (s0:=s0) (x7:=some (wd x vs)) (x8:=some (.int (ps t e))) (j:=H.length) xe
 rw[hd]at t2
 rw[oa hb]at t3
 have t4:EV (ay W n) ⟨m6 t x1 b s0 H.length (c::r) (some (wd x vs)) (some (.int (ps t e))),H++[.list (ws++[wd x vs])]⟩ (.cmp .eq (.loc 6) (.loc 8)) (.bool false) ⟨m6 t x1 b s0 H.length (c::r) (some (wd x vs)) (some (.int (ps t e))),H++[.list (ws++[wd x vs])]⟩:=
  EV.cmp (EV.loc rfl) (EV.loc rfl) (by rw[hG,AC xe (xs.of sf),decide_eq_false];simp;omega)
 have turn:bF (ay W n) W kQ ⟨m6 t x1 b s0 H.length s x7 x8,H++[.list ws]⟩=okR .next ⟨m6 t x1 b s0 H.length (c::r) (some (wd x vs)) (some (.int (ps t e))),H++[.list (ws++[wd x vs])]⟩:=
  mw hw sf xs hn hW (by omega) (by rw[hg];exact aa (av t1 aw) (aa (av t2 aw) (aa (av t3 aw) (ao (av t4 aw)))))
 cases res with
 |ok p=>
  obtain⟨ws',e',a'⟩:=p
  obtain⟨lo',ih⟩:=ih
  exact⟨lo',ba EV.bool turn ih⟩
 |error m'=>
  obtain⟨lo',ws',ih⟩:=ih
  exact⟨lo',ws',ba EV.bool turn ih⟩
theorem Hh (hw:jx W t b s (.error m)):nx W t b ws s (.error m):=by
 intro n H k x1 s0 x7 x8 xs hn hm hl
 obtain⟨k,rfl⟩:∃m',k=m'+1:=⟨k-1,by omega⟩
 exact⟨_,_,mI EV.bool (bA (d9 (cX (aq.cons (EV.loc rfl) (aq.cons (EV.loc rfl) (aq.cons (EV.loc rfl) aq.nil))) (hw n _ xs hn))))⟩
theorem Ej {p:Ch} {q:Char} (hW:10002<W) (hw:jx W t b s (.ok (x,vs,e,cl))) (hs:s=p++q::e) (he:e=c::r) (hg:skipGaps e=e) (hd:term c=false) (hb:¬(b=true∧c=']')):nx W t b ws s (.error (if q='"' then tv else sS)):=by
 intro n H m x1 s0 x7 x8 xs hn hm hl
 obtain⟨m,rfl⟩:∃m',m=m'+1:=⟨m-1,by omega⟩
 have sf:Sf s e:=⟨p++[q],by rw[hs];simp⟩
 have xe:bc t (c::r):=he▸xs.of sf
 have xq:bc t (q::c::r):=he▸xs.of ⟨p,hs⟩
 obtain⟨t1,t2,t3⟩:=DA (Φ:=ay W n) (H:=H++[.list (ws++[wd x vs])]) (b:=b) (x1:=x1) (s0:=s0) (x7:=some (wd x vs)) (x8:=some (.int (ps t e))) (j:=H.length) xe
 rw[hd]at t2
 rw[oa hb]at t3
 have t4:EV (ay W n) ⟨m6 t x1 b s0 H.length (c::r) (some (wd x vs)) (some (.int (ps t e))),H++[.list (ws++[wd x vs])]⟩ (.cmp .eq (.loc 6) (.loc 8)) (.bool true) ⟨m6 t x1 b s0 H.length (c::r) (some (wd x vs)) (some (.int (ps t e))),H++[.list (ws++[wd x vs])]⟩:=
  EV.cmp (EV.loc rfl) (EV.loc rfl) (by rw[hG,he];simp)
 have t5:EV (ay W n) ⟨m6 t x1 b s0 H.length (c::r) (some (wd x vs)) (some (.int (ps t e))),H++[.list (ws++[wd x vs])]⟩ (.cmp .eq (.idx (.loc 0) (.bin .sub (.loc 8) (.int 1))) (.str ['"'])) (.bool ([q]==['"'])) ⟨m6 t x1 b s0 H.length (c::r) (some (wd x vs)) (some (.int (ps t e))),H++[.list (ws++[wd x vs])]⟩:=by
  have gv:=ki (H:=H++[.list (ws++[wd x vs])]) xq.at
  rw[show ps t (q::c::r)=ps t e-1 by rw[he, ←bC (t:=t) (c:=q) (s:=c::r)];omega]at gv
  exact aH (EV.idx (EV.loc rfl) (EV.bin (EV.loc rfl) EV.int rfl) gv)
 by_cases hq:q='"'
 ·subst hq
  rw[if_pos rfl]
  refine⟨m6 t x1 b s0 H.length (c::r) (some (wd x vs)) (some (.int (ps t e))),ws++[wd x vs],mI EV.bool (mw hw sf xs hn hW (by omega) ?_)⟩
  rw[hg,he]
  rw[he]at t1 t2 t3 t4 t5
  exact aa (av t1 aw) (aa (av t2 aw) (aa (av t3 aw) (bA (aB t4 (bA (aB t5 (bA i7)))))))
 ·rw[if_neg hq]
  rw[bz hq]at t5
  refine⟨m6 t x1 b s0 H.length (c::r) (some (wd x vs)) (some (.int (ps t e))),ws++[wd x vs],mI EV.bool (mw hw sf xs hn hW (by omega) ?_)⟩
  rw[hg,he]
  rw[he]at t1 t2 t3 t4 t5
  exact aa (av t1 aw) (aa (av t2 aw) (aa (av t3 aw) (bA (aB t4 (aa (av t5 aw) (bA i7))))))
end
end Mine
end
section
namespace Mine
open PySem (PyData)
section
variable {W n:Nat} {t s r e a aT w:Ch} {c:Char} {H:List O} {Φ:ci} {k:Kd} {acc vs ws:List V} {m:Ch} {b x:Bool} {cl:Cl}
noncomputable def rC (t:Ch) (w:Ch):Except Ch (List V×Ch×Ch)→Except Ch V
 | .ok (ws,e,a)=>.ok (.tup [.tup ws,.int (ps t w),.int (ps t e),.int (ps t a)])
 | .error m=>.error m
theorem w2 (hW:10002<W) (hn:3≤n) (x:bc t s) (e:bh s=w) {ss:Ss} {res:R Fl}
  (h:bF (ay W n) W ss ⟨[some (.str t),some (.int (ps t s)),some (.bool b),some (.int (ps t w)),some (.int t.length),none,none,none,none],H⟩=res):
  bF (ay W n) W (.cons (.asg 3 (.call .skipToCommand (.cons (.loc 0) (.cons (.loc 1) .nil)))) (.cons (.asg 4 (.len (.loc 0))) ss)) ⟨[some (.str t),some (.int (ps t s)),some (.bool b),none,none,none,none,none,none],H⟩=res:=by
 obtain⟨n,rfl⟩:∃n',n=n'+3:=⟨n-3,by omega⟩
 subst e
 exact aa (aV (EV.callP (aq.cons (EV.loc rfl) (aq.cons (EV.loc rfl) aq.nil)) (eA x hW)) (show(3:Nat)<9 by decide)) (aa (aV (EV.len (EV.loc rfl) x.at.lim) (show(4:Nat)<9 by decide)) h)
noncomputable def Aa:E:=(.or (.cons (.cmp .ge (.loc 3) (.loc 4)) (.cons (.and (.cons (.loc 2) (.cons (.cmp .eq (.idx (.loc 0) (.loc 3)) (.str [']'])) .nil))) .nil)))
theorem gW (hW:10002<W) (hn:4≤n) (x:bc t s) (h:bh s=[]∨(b=true∧∃e,bh s=']'::e)):ay W n .commandAt [.str t,.int (ps t s),.bool b] H=some (.ok .none,H):=by
 obtain⟨n,rfl⟩:∃n',n=n'+1:=⟨n-1,by omega⟩
 have xw:=x.of (bZ s)
 refine aM (F:=gN) (σ:=⟨[some (.str t),some (.int (ps t s)),some (.bool b),some (.int (ps t (bh s))),some (.int t.length),none,none,none,none],H⟩) rfl rfl rfl (w2 hW (by omega) x rfl (ak (aB (c:=Aa) ?_ (ak (aK EV.none))))) (List.take_length ..) rfl
 rcases h with h|⟨rfl,e,h⟩
 ·rw[h]at xw⊢
  exact EV.orT (oR (i:=3) (j:=4) xw rfl rfl)
 ·rw[h]at xw⊢
  exact EV.orF (oR (i:=3) (j:=4) xw rfl rfl) (EV.or1 (EV.andT (EV.loc rfl) (EV.and1 (aH (dZ (i:=3) (j:=0) xw rfl rfl)))))
theorem wi {res:Except Ch (List V×Ch×Ch)} (hW:10002<W) (x:bc t s) (hT:t.length<9000) (hw:bh s=c::w) (hb:¬(b=true∧c=']')) (h:nx W t b [] (c::w) res) (hr:∀ws e a,res=.ok (ws,e,a)→∃d,∀v∈ws,Rd d v) (hn:4*s.length+13≤n):
  ay W n .commandAt [.str t,.int (ps t s),.bool b] H=some (rC t (c::w) res,H):=by
 obtain⟨n,rfl⟩:∃n',n=n'+1:=⟨n-1,by omega⟩
 have xw:bc t (c::w):=hw▸x.of (bZ s)
 have lw:=dH s
 rw[hw]at lw
 have lt:=x.size
 have hl:=x.len
 have hp:=h n H W (.int (ps t s)) (c::w) none none xw (by omega) (by omega) (by simp at lw⊢;omega)
 have t1:EV (ay W n) ⟨[some (.str t),some (.int (ps t s)),some (.bool b),some (.int (ps t (c::w))),some (.int t.length),none,none,none,none],H⟩ Aa (.bool false) ⟨[some (.str t),some (.int (ps t s)),some (.bool b),some (.int (ps t (c::w))),some (.int t.length),none,none,none,none],H⟩:=by
  have:=EV.and2 (Φ:=ay W n) (σ:=⟨[some (.str t),some (.int (ps t s)),some (.bool b),some (.int (ps t (c::w))),some (.int t.length),none,none,none,none],H⟩) (EV.loc (i:=2) rfl) fun _=>aH (b:=[']']) (dZ (i:=3) (j:=0) xw rfl rfl)
  rw[oa hb]at this
  exact EV.orF (oR (i:=3) (j:=4) xw rfl rfl) (EV.or1 this)
 have key:∀res,iter (tE (ay W n) (.bool true)) (bF (ay W n) W kQ) W ⟨m6 t (.int (ps t s)) b (c::w) H.length (c::w) none none,H++[.list []]⟩=res→
   ∀res',bF (ay W n) W (.cons (.whl (.bool true) kQ) .nil) ⟨m6 t (.int (ps t s)) b (c::w) H.length (c::w) none none,H++[.list []]⟩=res'→
   bF (ay W n) W mZ ⟨[some (.str t),some (.int (ps t s)),some (.bool b),none,none,none,none,none,none],H⟩=res':=by
  intro res hi res' h'
  exact w2 hW (by omega) x hw (aa (av t1 aw) (aa (ah:=⟨[some (.str t),some (.int (ps t s)),some (.bool b),some (.int (ps t (c::w))),some (.int t.length),some (.ref H.length),none,none,none],H++[O.list []]⟩) (aV (EV.lst aq.nil) (show(5:Nat)<9 by decide)) (aa (aV (EV.loc rfl) (show(6:Nat)<9 by decide)) h')))
 cases res with
 |error m=>
  obtain⟨lo',ws',h1⟩:=hp
  exact d6 (F:=gN) rfl rfl rfl (key _ h1 _ (bA (cP h1))) (by simp)
 |ok p=>
  obtain⟨ws,e,a⟩:=p
  obtain⟨lo',h1⟩:=hp
  obtain⟨d,hd⟩:=hr ws e a rfl
  refine aM (F:=gN) rfl rfl rfl (key _ h1 _ (ak (cP h1))) (by simp) ?_
  refine(Rd.tup (d:=d+1) (vs:=[.tup ws,.int (ps t (c::w)),.int (ps t e),.int (ps t a)]) ?_).low
  intro v hv
  simp only[List.mem_cons,List.not_mem_nil,or_false]at hv
  rcases hv with rfl|rfl|rfl|rfl
  ·exact Rd.tup hd
  ·exact Rd.int
  ·exact Rd.int
  ·exact Rd.int
theorem Fz (xw:bc t []) {x1 x2:V} {x4:Option V}:EV Φ ⟨v5 t x1 x2 [] x4,H⟩ mC (.bool false) ⟨v5 t x1 x2 [] x4,H⟩:=EV.andF (je (i:=3) (j:=0) xw rfl rfl)
theorem AZ (xw:bc t (c::w)) {x1 x2:V} {x4:Option V}:EV Φ ⟨v5 t x1 x2 (c::w) x4,H⟩ mC (.bool (!([c]==[']']))) ⟨v5 t x1 x2 (c::w) x4,H⟩:=
 EV.andT (je (i:=3) (j:=0) xw rfl rfl) (EV.and1 (jy (dZ (i:=3) (j:=0) xw rfl rfl)))
theorem E7 (h:bh s=[]):pY W t s (.error kr):=by
 intro n H k x1 x2 x4 x hn hk
 obtain⟨k,rfl⟩:∃k',k=k'+1:=⟨k-1,by omega⟩
 have xw:=x.of (bZ s)
 rw[h]at xw⊢
 exact .inl ⟨rfl,x4,bK (Fz xw)⟩
theorem xP (h:bh s=']'::e):pY W t s (.ok (']'::e)):=by
 intro n H k x1 x2 x4 x hn hk
 obtain⟨k,rfl⟩:∃k',k=k'+1:=⟨k-1,by omega⟩
 have xw:=x.of (bZ s)
 rw[h]at xw⊢
 exact⟨x4,bK (AZ xw)⟩
theorem Gy {x1 x2:V} {x4:Option V} (hW:10002<W) (x:bc t s) (hT:t.length<9000) (hw:bh s=c::w) (hc:c≠']') (h:nx W t true [] (c::w) (.ok (ws,e,a))) (sa:Sf (c::w) a) {d:Nat} (hd:∀v∈ws,Rd d v) (hn:4*s.length+13≤n):
  bF (ay W n) W og ⟨v5 t x1 x2 (c::w) x4,H⟩=okR .next ⟨v5 t x1 x2 (bh a) (some (.tup [.tup ws,.int (ps t (c::w)),.int (ps t e),.int (ps t a)])),H⟩:=by
 have xw:bc t (c::w):=hw▸x.of (bZ s)
 have lw:=dH s
 rw[hw]at lw
 have hc:=wi (n:=n) (H:=H) hW xw hT (by rw[←hw];exact lY s) (fun q=>hc q.2) h (fun _ _ _ q=>by cases q;exact⟨d,hd⟩) (by omega)
 obtain⟨n,rfl⟩:∃n',n=n'+3:=⟨n-3,by omega⟩
 exact aa (aV (EV.callP (aq.cons (EV.loc rfl) (aq.cons (EV.loc rfl) (aq.cons EV.bool aq.nil))) hc) (show(4:Nat)<5 by decide))
  (ao (aV (EV.callP (aq.cons (EV.loc rfl) (aq.cons (EV.idx (EV.loc rfl) EV.int (v:=.int (ps t a)) rfl) aq.nil)) (eA (xw.of sa) hW)) (show(3:Nat)<5 by decide)))
theorem xm {res:Except Ch Ch} (hW:10002<W) (hT:t.length<9000) (hw:bh s=c::w) (hc:c≠']') (h:nx W t true [] (c::w) (.ok (ws,e,a))) (sa:Sf (c::w) a) (la:a.length<(c::w).length) {d:Nat} (hd:∀v∈ws,Rd d v) (h2:pY W t a res):pY W t s res:=by
 intro n H k x1 x2 x4 x hn hk
 obtain⟨k,rfl⟩:∃k',k=k'+1:=⟨k-1,by omega⟩
 have xw:bc t (c::w):=hw▸x.of (bZ s)
 have lw:=dH s
 rw[hw]at lw⊢
 have turn:=Gy (n:=n) (H:=H) (x1:=x1) (x2:=x2) (x4:=x4) hW x hT hw hc h sa hd hn
 have t1:=AZ (Φ:=ay W n) (H:=H) xw (x1:=x1) (x2:=x2) (x4:=x4)
 rw[bz hc]at t1
 have ih:=h2 n H k x1 x2 (some (.tup [.tup ws,.int (ps t (c::w)),.int (ps t e),.int (ps t a)])) (xw.of sa) (by omega) (by omega)
 cases res with
 |ok e'=>
  obtain⟨x4',ih⟩:=ih
  exact⟨x4',ba t1 turn ih⟩
 |error m=>
  rcases ih with⟨rfl,x4',ih⟩|⟨lo',ih⟩
  ·exact .inl ⟨rfl,x4',ba t1 turn ih⟩
  ·exact .inr ⟨lo',ba t1 turn ih⟩
theorem Hs (hW:10002<W) (hT:t.length<9000) (hw:bh s=c::w) (hc:c≠']') (h:nx W t true [] (c::w) (.error m)):pY W t s (.error m):=by
 intro n H k x1 x2 x4 x hn hk
 obtain⟨k,rfl⟩:∃k',k=k'+1:=⟨k-1,by omega⟩
 have xw:bc t (c::w):=hw▸x.of (bZ s)
 have lw:=dH s
 rw[hw]at lw⊢
 have t1:=AZ (Φ:=ay W n) (H:=H) xw (x1:=x1) (x2:=x2) (x4:=x4)
 rw[bz hc]at t1
 have hc:=wi (n:=n) (H:=H) hW xw hT (by rw[←hw];exact lY s) (fun q=>hc q.2) h (fun _ _ _ q=>by cases q) (by omega)
 exact .inr ⟨_,mI t1 (bA (im (cX (aq.cons (EV.loc rfl) (aq.cons (EV.loc rfl) (aq.cons EV.bool aq.nil))) hc)))⟩
end
end Mine
end
section
namespace Mine
open PySem (PyData)
section
variable {W n:Nat} {t s r e a aT w:Ch} {c:Char} {H:List O} {Φ:ci}
noncomputable def F3:E:=(.and (.cons (.cmp .lt (.loc 3) (.len (.loc 0))) (.cons (.cmp .inn (.idx (.loc 0) (.loc 3)) (.str [' ','\t'])) .nil)))
noncomputable def FV:Ss:=.cons (.aug 3 .add (.int 1)) .nil
noncomputable def ny (t s:Ch) (x:Option V):List (Option V):=[some (.str t),some (.int (ps t s)),some (.str fM),x]
noncomputable def D7 (t:Ch) (x y:Option V) (s:Ch) (z:Option V):List (Option V):=[some (.str t),x,y,some (.int (ps t s)),z]
theorem xC {x1 x2 x4:Option V}:∀(s:Ch) (k:Nat),s.length<k→bc t s→iter (tE Φ F3) (bF Φ W FV) k ⟨D7 t x1 x2 s x4,H⟩=okR .next ⟨D7 t x1 x2 (bJ s) x4,H⟩
 |s,k+1,hk,x=>by
  have t1:=je (Φ:=Φ) (lo:=[some (.str t),x1,x2,some (.int (ps t s)),x4]) (H:=H) (i:=3) (j:=0) x rfl rfl
  rcases s with _|⟨c,r⟩
  ·exact bK (EV.andF t1)
  ·have t2:EV Φ ⟨D7 t x1 x2 (c::r) x4,H⟩ (.cmp .inn (.idx (.loc 0) (.loc 3)) (.str [' ','\t'])) (.bool (([' ','\t']:Ch).contains c)) ⟨D7 t x1 x2 (c::r) x4,H⟩:=EV.cmp (dZ (i:=3) (j:=0) x rfl rfl) EV.str rfl
   have t3:=EV.andT t1 (EV.and1 t2)
   by_cases h:c=' '∨c='\t'
   ·rw[show([' ','\t']:Ch).contains c=true by simpa using h]at t3
    rw[bJ,if_pos h]
    exact ba t3 (ao (d5 rfl bC (show(3:Nat)<5 by decide))) (xC r k (by simp at hk;omega) x.next)
   ·rw[show([' ','\t']:Ch).contains c=false by simpa using h]at t3
    rw[bJ,if_neg h]
    exact bK t3
noncomputable def iC:List (Ch×V):=[(['a'],.int 7),(['b'],.int 8),(['t'],.int 9),(['n'],.int 10),(['v'],.int 11),(['f'],.int 12),(['r'],.int 13)]
theorem uZ:(H++[O.dict []]).set H.length x=H++[x]:=by simp
theorem fb {es:List (Ch×V)}:dictOf? (H++[.dict es]) H.length=some es:=by simp[dictOf?]
theorem mh {lo:List (Option V)} {i:Nat} {d:Char} (h:lo[i]? =some (some (.int (ps t (c::d::s))))):EV Φ ⟨lo,H⟩ (.bin .add (.loc i) (.int 2)) (.int (ps t s)) ⟨lo,H⟩:=by
 have:=EV.bin (Φ:=Φ) (op:=.add) (EV.loc (σ:=⟨lo,H⟩) h) (EV.int (i:=2)) rfl
 rwa[fN]at this
theorem qI (x:bc t ('\\'::s)) (hW:10002<W):ay W (n+1) .lBent [.str t,.int (ps t ('\\'::s))] H=some (.ok (.tup [.str (cE s).1,.int (ps t (cE s).2)]),H):=by
 have hl:=x.len
 have hs:=x.size
 have a1:eS (ay W n) W (.asg 2 (.slc (.loc 0) (.bin .add (.loc 1) (.int 1)) (.bin .add (.loc 1) (.int 2)))) ⟨mo t ('\\'::s) none none none,H⟩=okR .next ⟨mo t ('\\'::s) (some (.str (s.take 1))) none none,H⟩:=
  aV (gO x rfl rfl) (show(2:Nat)<5 by decide)
 have c1:=aH (Φ:=ay W n) (σ:=⟨mo t ('\\'::s) (some (.str (s.take 1))) none none,H⟩) (b:=[]) (EV.loc (i:=2) rfl)
 rcases s with _|⟨c,r⟩
 ·exact aM (F:=nH) rfl rfl rfl (aa a1 (ak (aB c1 (ak (aK (EV.tup (aq.cons EV.str (aq.cons (bf rfl) aq.nil)))))))) (List.take_length ..) rfl
 ·have c1':EV (ay W n) ⟨mo t ('\\'::c::r) (some (.str [c])) none none,H⟩ (.cmp .eq (.loc 2) (.str [])) (.bool false) _:=c1
  have a2:eS (ay W n) W (.asg 3 (.bin .add (.loc 1) (.int 2))) ⟨mo t ('\\'::c::r) (some (.str [c])) none none,H⟩=okR .next ⟨mo t ('\\'::c::r) (some (.str [c])) (some (.int (ps t r))) none,H⟩:=aV (mh rfl) (show(3:Nat)<5 by decide)
  have c3:=aH (Φ:=ay W n) (σ:=⟨mo t ('\\'::c::r) (some (.str [c])) (some (.int (ps t r))) none,H⟩) (b:=['\n']) (EV.loc (i:=2) rfl)
  by_cases hn:c='\n'
  ·subst hn
   rw[show cE ('\n'::r)=([' '],bJ r) by rw[cE,if_pos rfl]]
   exact aM (F:=nH) rfl rfl rfl (aa a1 (aa (av c1' aw) (aa a2 (ak (aB c3 (aa (cP (xC r W (by simp at hs;omega) x.next.next)) (ak (aK (EV.tup (aq.cons EV.str (aq.cons (EV.loc rfl) aq.nil))))))))))) (List.take_length ..) rfl
  ·rw[bz hn]at c3
   rw[show cE (c::r)=([GN c],r) by rw[cE,if_neg hn]]
   have a4:eS (ay W n) W (.asg 4 (.dct [['a'],['b'],['t'],['n'],['v'],['f'],['r']] (.cons (.int 7) (.cons (.int 8) (.cons (.int 9) (.cons (.int 10) (.cons (.int 11) (.cons (.int 12) (.cons (.int 13) .nil)))))))))
     ⟨mo t ('\\'::c::r) (some (.str [c])) (some (.int (ps t r))) none,H⟩=okR .next ⟨mo t ('\\'::c::r) (some (.str [c])) (some (.int (ps t r))) (some (.ref H.length)),H++[.dict iC]⟩:=by
    rw[←uZ (x:=.dict iC)]
    exact aV (EV.dct (aq.cons EV.int (aq.cons EV.int (aq.cons EV.int (aq.cons EV.int (aq.cons EV.int (aq.cons EV.int (aq.cons EV.int aq.nil))))))) fb) (show(4:Nat)<5 by decide)
   have tst:EV (ay W n) ⟨mo t ('\\'::c::r) (some (.str [c])) (some (.int (ps t r))) (some (.ref H.length)),H++[.dict iC]⟩ (.cmp .inn (.loc 2) (.loc 4)) (.bool (iC.any fun e=>e.1==[c])) ⟨mo t ('\\'::c::r) (some (.str [c])) (some (.int (ps t r))) (some (.ref H.length)),H++[.dict iC]⟩:=
    EV.cmp (EV.loc rfl) (EV.loc rfl) (BJ fb)
   have fin:EV (ay W n) ⟨mo t ('\\'::c::r) (some (.str [c])) (some (.int (ps t r))) (some (.ref H.length)),H++[.dict iC]⟩ (.ite (.cmp .inn (.loc 2) (.loc 4)) (.chr (.idx (.loc 4) (.loc 2))) (.loc 2)) (.str [GN c]) ⟨mo t ('\\'::c::r) (some (.str [c])) (some (.int (ps t r))) (some (.ref H.length)),H++[.dict iC]⟩:=by
    have go:∀(k:Int) (d:Char),(iC.any fun e=>e.1==[c])=true→iC.lookup [c]=some (.int k)→0≤k∧k<128→Char.ofNat k.toNat=GN c→EV (ay W n) ⟨mo t ('\\'::c::r) (some (.str [c])) (some (.int (ps t r))) (some (.ref H.length)),H++[.dict iC]⟩ (.ite (.cmp .inn (.loc 2) (.loc 4)) (.chr (.idx (.loc 4) (.loc 2))) (.loc 2)) (.str [GN c]) ⟨mo t ('\\'::c::r) (some (.str [c])) (some (.int (ps t r))) (some (.ref H.length)),H++[.dict iC]⟩:=by
     intro k _ e1 e2 e3 e4
     rw[e1]at tst
     rw[←e4]
     refine EV.iteT tst (EV.chr (EV.idx (EV.loc rfl) (EV.loc rfl) ?_) e3)
     exact nU fb e2
    by_cases he:c∈sG
    ·simp only[sG,List.mem_cons,List.not_mem_nil,or_false]at he
     rcases he with rfl|rfl|rfl|rfl|rfl|rfl|rfl
     ·exact go 7 ' ' rfl rfl (by decide) rfl
     ·exact go 8 ' ' rfl rfl (by decide) rfl
     ·exact go 12 ' ' rfl rfl (by decide) rfl
     ·exact go 10 ' ' rfl rfl (by decide) rfl
     ·exact go 13 ' ' rfl rfl (by decide) rfl
     ·exact go 9 ' ' rfl rfl (by decide) rfl
     ·exact go 11 ' ' rfl rfl (by decide) rfl
    ·have ef:(iC.any fun e=>e.1==[c])=false:=by
      simp only[sG,List.mem_cons,List.not_mem_nil,or_false,not_or]at he
      obtain⟨h1,h2,h3,h4,h5,h6,h7⟩:=he
      simp only[iC,List.any_cons,List.any_nil,bz (Ne.symm h1),bz (Ne.symm h2),bz (Ne.symm h3),bz (Ne.symm h4),bz (Ne.symm h5),bz (Ne.symm h6),bz (Ne.symm h7),Bool.or_self]
     rw[ef]at tst
     rw[qD he]
     exact EV.iteF tst (EV.loc rfl)
   exact aM (F:=nH) rfl rfl rfl (aa a1 (aa (av c1' aw) (aa a2 (aa (av c3 aw) (aa a4 (ak (aK (EV.tup (aq.cons fin (aq.cons (EV.loc rfl) aq.nil)))))))))) (by simp) rfl
noncomputable def dD:Ch→Nat
 |':'::r=>dD r+1
 |_=>0
theorem qN:∀(s:Ch),s=List.replicate (dD s) ':'++b7 s
 |[]=>rfl
 |c::r=>by
  by_cases h:c=':'
  ·subst h
   rw[b7,show dD (':'::r)=dD r+1 by rw[dD],List.replicate_succ,List.cons_append, ←qN r]
  ·have e:b7 (c::r)=c::r:=by rw[b7];intro r' q;cases q;exact h rfl
   have e2:dD (c::r)=0:=by rw[dD];intro r' q;cases q;exact h rfl
   rw[e,e2];rfl
noncomputable def vB:E:=.cmp .eq (.slc (.loc 0) (.bin .add (.loc 1) (.loc 3)) (.bin .add (.bin .add (.loc 1) (.loc 3)) (.int 1))) (.str [':'])
noncomputable def zQ:Ss:=.cons (.aug 3 .add (.int 1)) .nil
noncomputable def CE (t s:Ch) (j:Nat):List (Option V):=[some (.str t),some (.int (ps t s)),some (.str fM),some (.int j)]
theorem w3:∀(q s:Ch) (j k:Nat),q.length<k→s=List.replicate j ':'++q→bc t s→iter (tE Φ vB) (bF Φ W zQ) k ⟨CE t s j,H⟩=okR .next ⟨CE t s (j+dD q),H⟩
 |q,s,j,k+1,hk,hs,x=>by
  have xq:bc t q:=x.of ⟨_,hs⟩
  have eq1:ps t s+j=ps t q:=by have:=yn (t:=t) hs;simpa using this
  have t1:EV Φ ⟨CE t s j,H⟩ vB (.bool (q.take 1==[':'])) ⟨CE t s j,H⟩:=by
   have:=wM xq.at 1
   have e:=EV.slc (Φ:=Φ) (σ:=⟨CE t s j,H⟩) (EV.loc (i:=0) rfl) (EV.bin (op:=.add) (EV.loc (i:=1) rfl) (EV.loc (i:=3) rfl) rfl) (EV.bin (op:=.add) (EV.bin (op:=.add) (EV.loc (i:=1) rfl) (EV.loc (i:=3) rfl) rfl) (EV.int (i:=1)) rfl) x.at.lim
   rw[eq1]at e
   rw[show(cut t (ps t q) (ps t q+1))=q.take 1 from this]at e
   exact aH e
  rw[kc]at t1
  rcases q with _|⟨c,r⟩
  ·exact bK t1
  ·by_cases h:c=':'
   ·subst h
    rw[show dD (':'::r)=dD r+1 by rw[dD],show j+(dD r+1)=(j+1)+dD r by omega]
    refine ba t1 (ao (d5 (b:=((j+1:Nat):Int)) rfl (by omega) (show(3:Nat)<4 by decide))) (w3 r s (j+1) k (by simp at hk;omega) ?_ x)
    rw[hs,List.replicate_succ',List.append_assoc];rfl
   ·have e:gM (c::r)=false:=by unfold gM;split<;>first|rfl|(rename_i z;cases z;exact(h rfl).elim)
    rw[e]at t1
    have e2:dD (c::r)=0:=by rw[dD];intro r' q;cases q;exact h rfl
    rw[e2]
    exact bK t1
noncomputable def vH:E:=.cmp .lt (.loc 1) (.len (.loc 0))
noncomputable def pg:Ss:=(.cons (.asg 3 (.int 0)) (.cons (.whl vB zQ)
 (.cons (.ife (.cmp .ge (.loc 3) (.int 2)) (.cons (.aug 1 .add (.loc 3)) .nil)
 (.cons (.ife (.and (.cons (.cmp .eq (.loc 3) (.int 0)) (.cons (.cmp .inn (.idx (.loc 0) (.loc 1)) (.loc 2)) .nil))) (.cons (.aug 1 .add (.int 1)) .nil) (.cons (.ret (.loc 1)) .nil)) .nil)) .nil)))
theorem sQ (hW:10001<W):∀(m:Nat) (s:Ch) (k:Nat) (x3:Option V),s.length≤m→m<k→bc t s→(∃lo',iter (tE Φ vH) (bF Φ W pg) k ⟨ny t s x3,H⟩=okR (.ret (.int (ps t (aX false s)))) ⟨lo',H⟩)∨
  (aX false s=[]∧∃x3',iter (tE Φ vH) (bF Φ W pg) k ⟨ny t s x3,H⟩=okR .next ⟨ny t ([]) x3',H⟩)
 |m,[],k+1,x3,_,_,x=>.inr ⟨by rw[aX],_,bK (je x rfl rfl)⟩
 |m+1,c::r,k+1,x3,hm,hk,x=>by
  have hm':r.length≤m:=by simpa using hm
  have hl:=x.len
  have hz:=x.size
  have t1:EV Φ ⟨ny t (c::r) x3,H⟩ vH (.bool true) ⟨ny t (c::r) x3,H⟩:=je (i:=1) (j:=0) x rfl rfl
  have w1:=w3 (W:=W) (Φ:=Φ) (H:=H) (c::r) (c::r) 0 W (by omega) (by rfl) x
  rw[Nat.zero_add]at w1
  have ge:EV Φ ⟨CE t (c::r) (dD (c::r)),H⟩ (.cmp .ge (.loc 3) (.int 2)) (.bool (decide (((dD (c::r):Nat):Int)≥2))) ⟨CE t (c::r) (dD (c::r)),H⟩:=EV.cmp (EV.loc rfl) EV.int rfl
  have body:∀{res:R Fl},bF Φ W (.cons (.ife (.cmp .ge (.loc 3) (.int 2)) (.cons (.aug 1 .add (.loc 3)) .nil)
     (.cons (.ife (.and (.cons (.cmp .eq (.loc 3) (.int 0)) (.cons (.cmp .inn (.idx (.loc 0) (.loc 1)) (.loc 2)) .nil))) (.cons (.aug 1 .add (.int 1)) .nil) (.cons (.ret (.loc 1)) .nil)) .nil)) .nil) ⟨CE t (c::r) (dD (c::r)),H⟩=res→
    bF Φ W pg ⟨ny t (c::r) x3,H⟩=res:=fun h=>aa (aV (ah:=⟨ny t (c::r) x3,H⟩) EV.int (show(3:Nat)<4 by decide)) (aa (cP w1) h)
  by_cases h2:2≤dD (c::r)
  ·rw[decide_eq_true (by omega)]at ge
   have dr:=qN (c::r)
   obtain⟨r',hr'⟩:∃r',c::r=':'::':'::r':=by
    obtain⟨j,hj⟩:∃j,dD (c::r)=j+2:=⟨dD (c::r)-2,by omega⟩
    rw[hj,List.replicate_succ,List.replicate_succ]at dr
    exact⟨_,dr⟩
   have cl:=congrArg List.length dr
   simp only[List.length_append,List.length_replicate,List.length_cons]at cl
   have e:aX false (c::r)=aX false (b7 (c::r)):=by
    rw[hr',pJ,gZ,b7,b7]
   have xc:bc t (b7 (c::r)):=x.of ⟨_,dr⟩
   have st:bF Φ W pg ⟨ny t (c::r) x3,H⟩=okR .next ⟨ny t (b7 (c::r)) (some (.int (dD (c::r)))),H⟩:=by
    refine body (ao (aB ge (ao ?_)))
    have:=yn (t:=t) dr
    rw[List.length_replicate]at this
    rw[ny, ←this]
    exact uU (i:=1) rfl (EV.loc rfl) rfl (show(1:Nat)<4 by decide)
   rw[e]
   rcases sQ hW m (b7 (c::r)) k (some (.int (dD (c::r)))) (by omega) (by omega) xc with⟨lo',ih⟩|⟨e',x3',ih⟩
   ·exact .inl ⟨lo',ba t1 st ih⟩
   ·exact .inr ⟨e',x3',ba t1 st ih⟩
  ·rw[decide_eq_false (by omega)]at ge
   have t2:EV Φ ⟨CE t (c::r) (dD (c::r)),H⟩ (.and (.cons (.cmp .eq (.loc 3) (.int 0)) (.cons (.cmp .inn (.idx (.loc 0) (.loc 1)) (.loc 2)) .nil))) (.bool (decide (((dD (c::r):Nat):Int)=0)&&dz c)) ⟨CE t (c::r) (dD (c::r)),H⟩:=
    EV.and2 (EV.cmp (EV.loc rfl) EV.int hG) fun _=>EV.cmp (dZ (i:=1) (j:=0) x rfl rfl) (EV.loc rfl) (by rw[←wy];rfl)
   by_cases hc:c=':'
   ·subst hc
    have n1:dD (':'::r)=dD r+1:=by rw[dD]
    rw[decide_eq_false (by omega),Bool.false_and]at t2
    have:aX false (':'::r)=':'::r:=pM fun r' q=>by subst q;rw[dD,dD]at h2;omega
    rw[this]
    exact .inl ⟨_,i8 t1 (body (ao (av ge (ao (av t2 (ak (aK (EV.loc rfl))))))))⟩
   ·have n0:dD (c::r)=0:=by rw[dD];intro r' q;cases q;exact hc rfl
    rw[decide_eq_true (by omega),Bool.true_and]at t2
    by_cases hlt:dz c=true
    ·rw[hlt]at t2
     have st:bF Φ W pg ⟨ny t (c::r) x3,H⟩=okR .next ⟨ny t r (some (.int (dD (c::r)))),H⟩:=
      body (ao (av ge (ao (aB t2 (ao (d5 rfl bC (show(1:Nat)<4 by decide)))))))
     rw[d0 hlt]
     rcases sQ hW m r k (some (.int (dD (c::r)))) hm' (by omega) x.next with⟨lo',ih⟩|⟨e',x3',ih⟩
     ·exact .inl ⟨lo',ba t1 st ih⟩
     ·exact .inr ⟨e',x3',ba t1 st ih⟩
    ·have hlt':dz c=false:=by simpa using hlt
     rw[hlt']at t2
     rw[fJ hlt' hc]
     exact .inl ⟨_,i8 t1 (body (ao (av ge (ao (av t2 (ak (aK (EV.loc rfl))))))))⟩
theorem zr (x:bc t s) (hW:10001<W):ay W (n+1) .lName [.str t,.int (ps t s)] H=some (.ok (.int (ps t (aX false s))),H):=by
 have hl:=x.len
 have hs:=x.size
 rcases sQ (W:=W) (Φ:=ay W n) (H:=H) hW s.length s W none (Nat.le_refl _) (by omega) x with⟨lo',h⟩|⟨e,x3',h⟩
 ·exact aM (F:=rM) rfl rfl rfl (aa (aV (v:=.str fM) EV.str (show(2:Nat)<4 by decide)) (ak (cP h))) (List.take_length ..) rfl
 ·rw[e]
  exact aM (F:=rM) rfl rfl rfl (aa (aV (v:=.str fM) EV.str (show(2:Nat)<4 by decide)) (aa (cP h) (ak (aK (EV.loc rfl))))) (List.take_length ..) rfl
end
end Mine
end
section
namespace Mine
section
variable {a b c d e f:Nat} {l Y:List Nat} {p:Nat→Prop}
theorem lW (h:a≠b):a∉[b]:=fun q=>h (List.mem_singleton.mp q)
theorem Ew (h:a≠b) (k:a∉l):a∉b::l:=fun q=>(List.mem_cons.mp q).elim h k
theorem jj (h:a≠b∧a≠c):a∉[b,c]:=Ew h.1 (lW h.2)
theorem vb (h:a≠b∧a≠c∧a≠d):a∉[b,c,d]:=Ew h.1 (jj h.2)
theorem oh (h:a≠b∧a≠c∧a≠d∧a≠e):a∉[b,c,d,e]:=Ew h.1 (vb h.2)
theorem Jq (h:a≠b∧a≠c∧a≠d∧a≠e∧a≠f):a∉[b,c,d,e,f]:=Ew h.1 (oh h.2)
theorem vI (h:a∉[b,c,d,e]):a≠b∧a≠c∧a≠d∧a≠e:=⟨fun q=>h (q▸.head _),fun q=>h (q▸.tail _ (.head _)),fun q=>h (q▸.tail _ (.tail _ (.head _))),fun q=>h (q▸.tail _ (.tail _ (.tail _ (.head _))))⟩
theorem nX (h:a∉[b,c,d,e]):a∉[e,c,b]:=vb ⟨(vI h).2.2.2,(vI h).2.1,(vI h).1⟩
theorem sZ:∀m∈([]:List Nat),p m→m∈Y:=fun _ q=>nomatch q
theorem sC (h:a∈Y) (k:∀m∈l,p m→m∈Y):∀m∈a::l,p m→m∈Y:=fun m q r=>(List.mem_cons.mp q).elim (fun z=>z▸h) fun z=>k m z r
theorem sK {n:Nat} (h:a=b∨n≤a) (hb:b∈Y) (k:∀m∈l,m<n→m∈Y):∀m∈a::l,m<n→m∈Y:=fun m q r=>(List.mem_cons.mp q).elim (fun z=>h.elim (fun w=>z▸w▸hb) fun w=>absurd (z▸r) (Nat.not_lt_of_le w)) fun z=>k m z r
theorem GW {n:Nat} (h:b=c∨n≤b) (hc:a≠c) (hl:a<n):a≠b:=fun q=>h.elim (fun w=>hc (q.trans w)) fun w=>Nat.lt_irrefl _ (Nat.lt_of_lt_of_le hl (q▸w))
theorem sN (h:¬p a) (k:∀m∈l,p m→m∈Y):∀m∈a::l,p m→m∈Y:=fun m q r=>(List.mem_cons.mp q).elim (fun z=>(h (z▸r)).elim) fun z=>k m z r
theorem eJ:b∈a::b::l:=.tail _ (.head _)
theorem jp:c∈a::b::c::l:=.tail _ eJ
theorem mQ:d∈a::b::c::d::l:=.tail _ jp
theorem Ao:e∈a::b::c::d::e::l:=.tail _ mQ
theorem n0 {α:Type} {p:α→Prop}:∀v∈([]:List α),p v:=fun _ q=>nomatch q
theorem Dd {α:Type} {l:List α} {x:α}:l++[x]≠[]:=List.append_ne_nil_of_right_ne_nil _ (List.cons_ne_nil _ _)
theorem kT {α:Type} {L:List α} {x:α} {k:Nat} (h:L.length+1<k):(L++[x]).length<k:=by rw[List.length_append];exact h
theorem ET {α:Type} {L:List α} {x:α} {k y:Nat} (h:L.length+1+y<k):(L++[x]).length+y<k:=by rw[List.length_append];exact h
theorem B3 {α:Type} {L:List α} {x:α}:((L++[x]).length:Int)>0:=Int.natCast_pos.mpr (List.length_pos_iff.mpr Dd)
theorem iV {α:Type} {L:List α} {x:α} {i k:Nat} (h:k<L.length):k<(L.set i x).length:=by rw[List.length_set];exact h
end
end Mine
end
section
namespace Mine
open PySem (PyData)
noncomputable def kE:Ch:=['t','e','x','t']
noncomputable def kO:Ch:=['i','s','_','n','e','s','t','e','d']
noncomputable def b5:Ch:=['s','t','a','c','k']
noncomputable def n8:Ch:=['d','o','n','e']
noncomputable def kg:Ch:=['f','a','u','l','t']
noncomputable def fX:Ch:=['k','i','n','d']
noncomputable def gd:Ch:=['s','t','a','r','t']
noncomputable def nN:Ch:=['s','t','a','t','e']
noncomputable def dS:Ch:=['w','o','r','d','s']
noncomputable def rS:Ch:=['b','e','g','i','n']
noncomputable def rm:Ch:=['l','a','s','t']
noncomputable def so:Ch:=['m','o','r','e']
noncomputable def k6:Ch:=['p','a','r','t','s']
noncomputable def dK:Ch:=['n','a','m','e']
noncomputable def nO:Ch:=['d','e','p','t','h']
noncomputable def cH:Ch:=['s','c','r','i','p','t']
noncomputable def aJ:Ch:=['a','h','e','a','d']
noncomputable def fL:Ch:=['g','a','p']
noncomputable def aR:Ch:=['b','e','h','i','n','d']
noncomputable def be:Ch:=['c','o','m','m','e','n','t']
noncomputable def DF (t:Ch) (b0:Bool) (S D:Nat) (f:Ch):List (Ch×V):=[(kE,.str t),(kO,.bool b0),(b5,.ref S),(n8,.ref D),(kg,.str f)]
noncomputable def kt (aj:Int) (ai:Ch) (P:Nat) (aL ax:Int) (aQ:Bool):List (Ch×V):=[(fX,.str cH),(gd,.int aj),(nN,.str ai),(dS,.ref P),(rS,.int aL),(rm,.int ax),(so,.bool aQ)]
noncomputable def lR (kind:Ch) (aj:Int) (P:Nat) (name:Ch) (depth:Int):List (Ch×V):=[(fX,.str kind),(gd,.int aj),(k6,.ref P),(dK,.str name),(nO,.int depth)]
section
variable {W n:Nat} {t s r e a aT w:Ch} {c:Char} {H H':List O} {Φ:ci} {lo:List (Option V)} {i j:Nat} {x y:E} {v u:V} {vs:List V} {es:List (Ch×V)} {k:Ch} {o o':O}
theorem bS (h:EV Φ ⟨lo,H⟩ x (.ref i) ⟨lo,H⟩) (hd:H[i]? =some (.dict es)) (hk:es.lookup k=some v):EV Φ ⟨lo,H⟩ (.idx x (.str k)) v ⟨lo,H⟩:=
 EV.idx h EV.str (nU (tx hd) hk)
theorem nR (hv:vs.length<10000):d4 (-1)=true∧cN (-1) (vs++[v]).length=some vs.length:=by
 refine⟨by decide,?_⟩
 unfold cN
 rw[if_neg (by omega),if_pos (by simp;omega)]
 simp;omega
theorem nV (h:EV Φ ⟨lo,H⟩ x (.ref i) ⟨lo,H⟩) (hd:H[i]? =some (.list (vs++[v]))) (hv:vs.length<10000):EV Φ ⟨lo,H⟩ (.idx x (.negc 1)) v ⟨lo,H⟩:=by
 exact EV.idx h EV.negc ((w7 (nR (v:=v) hv).1 (gY hd) (nR hv).2).trans List.getElem?_concat_length)
theorem o7 (hd:H[i]? =some (.dict es)) (hl:es.length<1000):mE H (.ref i) (.str k) v=some (H.set i (.dict (qj es k v))):=by
 exact CQ (tx hd) hl
theorem AD {vs:List V} {u v:V}:(vs++[u]).set vs.length v=vs++[v]:=by rw[List.set_append_right _ _ (Nat.le_refl _),Nat.sub_self];rfl
theorem qB (hd:H[i]? =some (.list (vs++[u]))) (hv:vs.length<10000):mE H (.ref i) (.int (-1)) v=some (H.set i (.list (vs++[v]))):=by
 rw[DO (nR (v:=u) hv).1 (gY hd) (nR hv).2,AD]
theorem aE (h:H[i]? =some (.list vs)):listOf? H i=some vs:=gY h
theorem bD (h:H[i]? =some o):i<H.length:=by
 obtain⟨h,_⟩:=List.getElem?_eq_some_iff.mp h
 exact h
theorem cS (h:i<H.length):(H.set i o)[i]? =some o:=by simp[h]
theorem aO (h:i≠j):(H.set i o)[j]? =H[j]? :=List.getElem?_set_ne h
theorem bM (h:H[j]? =some o) {L:List O}:(H++L)[j]? =some o:=by
 rw[List.getElem?_append_left (bD h)];exact h
noncomputable def Ag (X:List Nat) (H H':List O):Prop:=H.length≤H'.length∧∀m,m<H.length→m∉X→H'[m]? =H[m]?
theorem Ag.refl {X:List Nat}:Ag X H H:=⟨Nat.le_refl _,fun _ _ _=>rfl⟩
theorem Ag.trans {X Y Z:List Nat} {H'':List O} (h:Ag X H H') (h':Ag Y H' H'') (hX:∀m∈X,m<H.length→m∈Z) (hY:∀m∈Y,m<H.length→m∈Z):Ag Z H H'':=
 ⟨Nat.le_trans h.1 h'.1,fun m hm hz=>by
  rw[h'.2 m (Nat.lt_of_lt_of_le hm h.1) (fun q=>hz (hY m q hm)),h.2 m hm (fun q=>hz (hX m q hm))]⟩
theorem Ag.set {X:List Nat} (h:i∈X):Ag X H (H.set i o):=⟨by simp,fun m _ hx=>aO fun q=>hx (q▸h)⟩
theorem Ag.app {X:List Nat} {L:List O}:Ag X H (H++L):=⟨by simp,fun m hm _=>List.getElem?_append_left hm⟩
theorem Ag.get {X:List Nat} (h:Ag X H H') (hi:H[i]? =some o) (hx:i∉X):H'[i]? =some o:=by rw[h.2 i (bD hi) hx,hi]
structure Bk (t:Ch) (b0:Bool) (B S D:Nat) (H:List O) (f:Ch) (st:List V):Prop where
 bk:H[B]? =some (.dict (DF t b0 S D f))
 sk:H[S]? =some (.list st)
 BS:B<S
 SD:S<D
 DH:D<H.length
 len:st.length<9000
variable {b0:Bool} {B S D F P:Nat} {f:Ch} {st:List V}
theorem Bk.SH (h:Bk t b0 B S D H f st):S<H.length:=bD h.sk
theorem Bk.stackE (h:Bk t b0 B S D H f st) (h0:lo[i]? =some (some (.ref B))):EV Φ ⟨lo,H⟩ (.idx (.loc i) (.str b5)) (.ref S) ⟨lo,H⟩:=bS (EV.loc h0) h.bk rfl
theorem Bk.textE (h:Bk t b0 B S D H f st) (h0:lo[i]? =some (some (.ref B))):EV Φ ⟨lo,H⟩ (.idx (.loc i) (.str kE)) (.str t) ⟨lo,H⟩:=bS (EV.loc h0) h.bk rfl
theorem Bk.nestE (h:Bk t b0 B S D H f st) (h0:lo[i]? =some (some (.ref B))):EV Φ ⟨lo,H⟩ (.idx (.loc i) (.str kO)) (.bool b0) ⟨lo,H⟩:=bS (EV.loc h0) h.bk rfl
theorem Bk.doneE (h:Bk t b0 B S D H f st) (h0:lo[i]? =some (some (.ref B))):EV Φ ⟨lo,H⟩ (.idx (.loc i) (.str n8)) (.ref D) ⟨lo,H⟩:=bS (EV.loc h0) h.bk rfl
theorem Bk.faultE (h:Bk t b0 B S D H f st) (h0:lo[i]? =some (some (.ref B))):EV Φ ⟨lo,H⟩ (.idx (.loc i) (.str kg)) (.str f) ⟨lo,H⟩:=bS (EV.loc h0) h.bk rfl
theorem Bk.topE (h:Bk t b0 B S D H f (st++[v])) (h0:lo[i]? =some (some (.ref B))):EV Φ ⟨lo,H⟩ (.idx (.idx (.loc i) (.str b5)) (.negc 1)) v ⟨lo,H⟩:=
 nV (h.stackE h0) h.sk (by have:=h.len;simp at this;omega)
theorem Bk.lenE (h:Bk t b0 B S D H f st) (h0:lo[i]? =some (some (.ref B))):EV Φ ⟨lo,H⟩ (.len (.idx (.loc i) (.str b5))) (.int st.length) ⟨lo,H⟩:=
 EV.lenL (h.stackE h0) (aE h.sk) (by have:=h.len;rw[dC];omega)
theorem Bk.ag {X:List Nat} (h:Bk t b0 B S D H f st) (g:Ag X H H') (hB:B∉X) (hS:S∉X):Bk t b0 B S D H' f st:=
 ⟨g.get h.bk hB,g.get h.sk hS,h.BS,h.SD,Nat.lt_of_lt_of_le h.DH g.1,h.len⟩
theorem aN {fu:Fn} {Fu:eK} {us:List V} {lo':List (Option V)} (hf:fn fu=some Fu) (hl:(Fu.full us).length=Fu.params) (hp:Fu.pure=false) (h:bF (ay W n) W Fu.body ⟨(Fu.full us).map some++List.replicate (Fu.slots-Fu.params) none,H⟩=okR (.ret v) ⟨lo',H'⟩):ay W (n+1) fu us H=some (.ok v,H'):=CP hf hl hp h
theorem du {fu:Fn} {Fu:eK} {us:List V} {lo':List (Option V)} (hf:fn fu=some Fu) (hl:(Fu.full us).length=Fu.params) (hp:Fu.pure=false) (h:bF (ay W n) W Fu.body ⟨(Fu.full us).map some++List.replicate (Fu.slots-Fu.params) none,H⟩=okR .next ⟨lo',H'⟩):ay W (n+1) fu us H=some (.ok .none,H'):=Be hf hl hp h
theorem Jk {x y z:O}:((H++[x])++[y]).set H.length z=H++[z,y]:=by simp
theorem EV.newL {x:O}:EV Φ ⟨lo,H++[x]⟩ (.lst .nil) (.ref (H.length+1)) ⟨lo,(H++[x])++[.list []]⟩:=by
 have:=EV.lst (Φ:=Φ) (σ:=⟨lo,H++[x]⟩) aq.nil
 rwa[show(H++[x]).length=H.length+1 by simp]at this
theorem vd {x:O}:dictOf? ((H++[.dict []])++[x]) H.length=some []:=by simp[dictOf?]
theorem mW {i:Int}:ay W (n+1) .lScript [.int i] H=some (.ok (.ref H.length),H++[.dict (kt i aJ (H.length+1) 0 0 false),.list []]):=by
 have e:EV (ay W n) ⟨[some (.int i)],H⟩ (.dct [fX,gd,nN,dS,rS,rm,so] (.cons (.str cH) (.cons (.loc 0) (.cons (.str aJ) (.cons (.lst .nil) (.cons (.int 0) (.cons (.int 0) (.cons (.bool false) .nil)))))))) (.ref H.length) ⟨[some (.int i)],((H++[O.dict []])++[O.list []]).set H.length (.dict (kt i aJ (H.length+1) 0 0 false))⟩:=
  EV.dct (aq.cons EV.str (aq.cons (EV.loc rfl) (aq.cons EV.str (aq.cons EV.newL (aq.cons EV.int (aq.cons EV.int (aq.cons EV.bool aq.nil))))))) vd
 rw[Jk]at e
 exact aN (Fu:=qK) rfl rfl rfl (ak (aK e))
theorem HN {x y:O}:(H++[x,y])[H.length]? =some x:=by simp
theorem G7 {x y:O}:(H++[x,y])[H.length+1]? =some y:=by simp
inductive nh (W:Nat) (n:Nat) (t:Ch) (H:List O) (b0:Bool) (B:Nat) (S:Nat) (D:Nat) (f:Ch) (st:List V) (kind:Ch) (name:Ch) (p:Int):Prop
 |mk:∀H',ay W (n+1) .lOpen [.ref B,.str kind,.int p,.str name] H=some (.ok .none,H')→Bk t b0 B S D H' f (st++[.ref H.length])→Ag [S] H H'→H'[H.length]? =some (.dict (lR kind p (H.length+1) name 1))→H'[H.length+1]? =some (.list [])→nh W n t H b0 B S D f st kind name p
theorem ix {kind name:Ch} {p:Int} (h:Bk t b0 B S D H f st) (hl:st.length<8000):nh W n t H b0 B S D f st kind name p:=by
 have hS:=h.SH
 have hB:=bD h.bk
 have bs:=h.BS
 have e:EV (ay W n) ⟨[some (.ref B),some (.str kind),some (.int p),some (.str name)],H⟩ (.dct [fX,gd,k6,dK,nO] (.cons (.loc 1) (.cons (.loc 2) (.cons (.lst .nil) (.cons (.loc 3) (.cons (.int 1) .nil)))))) (.ref H.length) ⟨[some (.ref B),some (.str kind),some (.int p),some (.str name)],((H++[O.dict []])++[O.list []]).set H.length (.dict (lR kind p (H.length+1) name 1))⟩:=
  EV.dct (aq.cons (EV.loc rfl) (aq.cons (EV.loc rfl) (aq.cons EV.newL (aq.cons (EV.loc rfl) (aq.cons EV.int aq.nil))))) vd
 rw[Jk]at e
 refine⟨_,du (Fu:=yk) rfl rfl rfl (ao (bj (EV.append (h.stackE rfl) (aE h.sk) e (aE (bM h.sk)) (by omega)))),⟨?_,?_,h.BS,h.SD,?_,(kT (by omega))⟩,?_,?_,?_⟩
 ·rw[aO (by omega)];exact bM h.bk
 ·exact cS (by simp;omega)
 ·have:=h.DH;simp;omega
 ·exact Ag.trans Ag.app (Ag.set (.head _)) (fun m q _=>q) fun m q _=>q
 ·rw[aO (by omega)];exact HN
 ·rw[aO (by omega)];exact G7
noncomputable def Ey (acc:List V):Prop:=acc=[]∨∃a c us,acc=a++[.tup (.str c::us)]∧c≠['t','e','x','t']
theorem eu {kind name l:Ch} {p d:Int} {acc:List V} (hF:H[F]? =some (.dict (lR kind p P name d))) (hP:H[P]? =some (.list (aS acc aT))) (ha:Ey acc) (hl:l≠[]) (hz:acc.length<9000) (hr:aT.length+l.length≤20000):
  ay W (n+1) .lAdd [.ref F,.str l] H=some (.ok .none,H.set P (.list (aS acc (aT++l)))):=by
 have a1:eS (ay W n) W (.asg 2 (.idx (.loc 0) (.str k6))) ⟨[some (.ref F),some (.str l),none],H⟩=okR .next ⟨[some (.ref F),some (.str l),some (.ref P)],H⟩:=aV (bS (EV.loc rfl) hF rfl) (show(2:Nat)<3 by decide)
 have fl:aS acc (aT++l)=acc++[txt (aT++l)]:=by unfold aS;rw[if_neg (by simp[hl])]
 have tl:EV (ay W n) ⟨[some (.ref F),some (.str l),some (.ref P)],H⟩ (.cmp .gt (.len (.loc 2)) (.int 0)) (.bool (decide (((aS acc aT).length:Int)>0))) ⟨[some (.ref F),some (.str l),some (.ref P)],H⟩:=
  EV.cmp (EV.lenL (EV.loc rfl) (aE hP) (by
   have:(aS acc aT).length≤acc.length+1:=by unfold aS;split<;>simp
   rw[dC];omega)) EV.int rfl
 rw[fl]
 by_cases hrun:aT=[]
 ·subst hrun
  rw[List.nil_append]
  have e0:aS acc []=acc:=by unfold aS;rw[if_pos rfl]
  rw[e0]at hP tl
  have app:bF (ay W n) W (.cons (.expr (.append (.loc 2) (.tup (.cons (.str ['t','e','x','t']) (.cons (.loc 1) .nil))))) .nil) ⟨[some (.ref F),some (.str l),some (.ref P)],H⟩=okR .next ⟨[some (.ref F),some (.str l),some (.ref P)],H.set P (.list (acc++[txt l]))⟩:=
   ao (bj (EV.append (EV.loc rfl) (aE hP) (EV.tup (aq.cons EV.str (aq.cons (EV.loc rfl) aq.nil))) (aE hP) (by omega)))
  rcases ha with rfl|⟨a,c,us,rfl,hc⟩
  ·exact du (Fu:=sD) rfl rfl rfl (aa a1 (ao (av (EV.andF tl) app)))
  ·rw[decide_eq_true B3]at tl
   have t2:=aH (Φ:=ay W n) (b:=['t','e','x','t']) (EV.idx (nV (H:=H) (lo:=[some (.ref F),some (.str l),some (.ref P)]) (EV.loc (i:=2) rfl) hP (by simp at hz;omega)) (EV.int (i:=0)) ed)
   rw[show(c==['t','e','x','t'])=false by simpa using hc]at t2
   exact du (Fu:=sD) rfl rfl rfl (aa a1 (ao (av (EV.andT tl (EV.and1 t2)) app)))
 ·have e0:aS acc aT=acc++[txt aT]:=by unfold aS;rw[if_neg hrun]
  rw[e0]at hP tl
  rw[decide_eq_true B3]at tl
  have la:=nV (Φ:=ay W n) (H:=H) (lo:=[some (.ref F),some (.str l),some (.ref P)]) (EV.loc (i:=2) rfl) hP (by omega)
  have t2:=aH (b:=['t','e','x','t']) (EV.idx la (EV.int (i:=0)) (v:=.str ['t','e','x','t']) rfl)
  refine du (Fu:=sD) (lo':=[some (.ref F),some (.str l),some (.ref P)]) rfl rfl rfl (aa a1 (ao (aB (EV.andT tl (EV.and1 t2)) (ao (rJ (v:=txt (aT++l)) (EV.tup (aq.cons EV.str (aq.cons (EV.bin (EV.idx la EV.int (v:=.str aT) rfl) (EV.loc rfl) ?_) aq.nil))) (EV.loc rfl) EV.negc (qB hP (by omega)))))))
  exact iU (by rw[dC];omega)
end
end Mine
end
section
namespace Mine
open PySem (PyData)
section
variable {W n:Nat} {t s r e a aT w:Ch} {c:Char} {H H':List O} {Φ:ci} {lo:List (Option V)} {i j:Nat} {x y:E} {v u:V} {vs ws:List V} {es:List (Ch×V)} {k:Ch} {o o':O}
 {b0:Bool} {B S D F P F' P':Nat} {f:Ch} {st done:List V}
structure Sc (t:Ch) (b0:Bool) (B S D:Nat) (H:List O) (F P:Nat) (st:List V) (aj:Int) (ai:Ch) (ws:List V) (aL ax:Int) (aQ:Bool):Prop where
 bk:Bk t b0 B S D H [] (st++[.ref F])
 fr:H[F]? =some (.dict (kt aj ai P aL ax aQ))
 wl:H[P]? =some (.list ws)
 FB:F≠B
 FS:F≠S
 FD:F≠D
 PB:P≠B
 PS:P≠S
 PD:P≠D
 PF:P≠F
structure Pt (t:Ch) (b0:Bool) (B S D:Nat) (H:List O) (F P:Nat) (st:List V) (kind:Ch) (aj:Int) (name:Ch) (depth:Int) (ps:List V):Prop where
 bk:Bk t b0 B S D H [] (st++[.ref F])
 fr:H[F]? =some (.dict (lR kind aj P name depth))
 wl:H[P]? =some (.list ps)
 FB:F≠B
 FS:F≠S
 FD:F≠D
 PB:P≠B
 PS:P≠S
 PD:P≠D
 PF:P≠F
theorem pB (h0:lo[i]? =some (some (.ref F))) (hF:H[F]? =some (.dict es)) (hl:es.length<1000):GQ Φ (.sub (.loc i) (.str k)) v ⟨lo,H⟩=okR () ⟨lo,H.set F (.dict (qj es k v))⟩:=by
 have e1:eE Φ (.loc i) ⟨lo,H⟩=okR (.ref F) ⟨lo,H⟩:=EV.loc h0
 have e2:eE Φ (.str k) ⟨lo,H⟩=okR (.str k) ⟨lo,H⟩:=EV.str
 exact(aA e1).trans ((aA e2).trans (Ih (o7 hF hl)))
theorem tw {σ:St}:dP Φ [] [] σ=okR () σ:=rfl
theorem fK {τ:T} {ts:List T} {σ ah:St} {r:R Unit} (h:GQ Φ τ v σ=okR () ah) (h':dP Φ ts vs ah=r):dP Φ (τ::ts) (v::vs) σ=r:=by
 exact(aA h).trans h'
theorem dL (he:EV Φ ⟨lo,H⟩ x v ⟨lo,H⟩) (h0:lo[i]? =some (some (.ref F))) (hF:H[F]? =some (.dict es)) (hl:es.length<1000):eS Φ W (.asgS (.loc i) (.str k) x) ⟨lo,H⟩=okR .next ⟨lo,H.set F (.dict (qj es k v))⟩:=
 rJ he (EV.loc h0) EV.str (o7 hF hl)
theorem CM (h:Bk t b0 B S D H f (st++[v])) (h0:lo[i]? =some (some (.ref B))):EV Φ ⟨lo,H⟩ (.pop (.idx (.loc i) (.str b5))) v ⟨lo,H.set S (.list st)⟩:=by
 have:=EV.pop (v:=v) (h.stackE (Φ:=Φ) h0) (aE h.sk) (by simp) (by have:=h.len;omega)
 simpa using this
theorem Bk.popped (h:Bk t b0 B S D H f (st++[v])):Bk t b0 B S D (H.set S (.list st)) f st:=
 ⟨by rw[aO (by have:=h.BS;omega)];exact h.bk,cS h.SH,h.BS,h.SD,(iV h.DH),by have:=h.len;simp at this;omega⟩
inductive iE (W:Nat) (n:Nat) (t:Ch) (H:List O) (ws:List V) (b0:Bool) (B:Nat) (S:Nat) (D:Nat) (F:Nat) (P:Nat) (st:List V) (state':Ch) (aj:Int) (aL:Int) (beh:Int) (x0:Bool) (ps:List V):Prop
 |mk:∀H',ay W (n+1) .lCloseWord [.ref B,.int beh,.str state'] H=some (.ok .none,H')→Sc t b0 B S D H' F P st aj state' (ws++[wd x0 ps]) aL beh false→Ag [S,F,P] H H'→iE W n t H ws b0 B S D F P st state' aj aL beh x0 ps
theorem ez {kind name state' ai:Ch} {p d aj aL ax beh:Int} {x0:Bool} {ps:List V} (h:Sc t b0 B S D (H.set S (.list (st++[.ref F]))) F P st aj ai ws aL ax x0) (hb:Bk t b0 B S D H [] (st++[.ref F]++[.ref F']))
  (h':H[F']? =some (.dict (lR kind p P' name d))) (hP:H[P']? =some (.list ps)) (n1:F'≠S) (n2:P'≠S) (hz:ps.length<9000) (hw:ws.length<9000):
  iE W n t H ws b0 B S D F P st state' aj aL beh x0 ps:=by
 obtain⟨bk,fr,wl,FB,FS,FD,PB,PS,PD,PF⟩:=h
 have FH:=bD fr
 have PH:=bD wl
 have h1:eS (ay W n) W (.asg 3 (.pop (.idx (.loc 0) (.str b5)))) ⟨[some (.ref B),some (.int beh),some (.str state'),none,none],H⟩=okR .next ⟨[some (.ref B),some (.int beh),some (.str state'),some (.ref F'),none],H.set S (.list (st++[.ref F]))⟩:=
  aV (CM hb rfl) (show(3:Nat)<5 by decide)
 have g':(H.set S (.list (st++[.ref F])))[F']? =some (.dict (lR kind p P' name d)):=by rw[aO (Ne.symm n1)];exact h'
 have gP:(H.set S (.list (st++[.ref F])))[P']? =some (.list ps):=by rw[aO (Ne.symm n2)];exact hP
 generalize hH:H.set S (.list (st++[.ref F]))=H1 at*
 have h2:eS (ay W n) W (.asg 4 (.idx (.idx (.loc 0) (.str b5)) (.negc 1))) ⟨[some (.ref B),some (.int beh),some (.str state'),some (.ref F'),none],H1⟩=okR .next ⟨[some (.ref B),some (.int beh),some (.str state'),some (.ref F'),some (.ref F)],H1⟩:=
  aV (bk.topE rfl) (show(4:Nat)<5 by decide)
 have h3:eS (ay W n) W (.expr (.append (.idx (.loc 4) (.str dS)) (.tup (.cons (.idx (.loc 4) (.str so)) (.cons (.tuple (.idx (.loc 3) (.str k6))) .nil))))) ⟨[some (.ref B),some (.int beh),some (.str state'),some (.ref F'),some (.ref F)],H1⟩=
   okR .next ⟨[some (.ref B),some (.int beh),some (.str state'),some (.ref F'),some (.ref F)],H1.set P (.list (ws++[wd x0 ps]))⟩:=
  bj (EV.append (bS (EV.loc rfl) fr rfl) (aE wl) (EV.tup (aq.cons (bS (EV.loc rfl) fr rfl) (aq.cons (EV.tuple (bS (EV.loc rfl) g' rfl) (aE gP) (by omega)) aq.nil))) (aE wl) (by omega))
 have f2:(H1.set P (.list (ws++[wd x0 ps])))[F]? =some (.dict (kt aj ai P aL ax x0)):=by rw[aO PF];exact fr
 have h4:eS (ay W n) W (.asgT [.sub (.loc 4) (.str so),.sub (.loc 4) (.str rm),.sub (.loc 4) (.str nN)] (.tup (.cons (.bool false) (.cons (.loc 1) (.cons (.loc 2) .nil))))) ⟨[some (.ref B),some (.int beh),some (.str state'),some (.ref F'),some (.ref F)],H1.set P (.list (ws++[wd x0 ps]))⟩=
   okR .next ⟨[some (.ref B),some (.int beh),some (.str state'),some (.ref F'),some (.ref F)],((((H1.set P (.list (ws++[wd x0 ps]))).set F (.dict (kt aj ai P aL ax false))).set F (.dict (kt aj ai P aL beh false))).set F (.dict (kt aj state' P aL beh false)))⟩:=by
  refine cK (EV.tup (aq.cons EV.bool (aq.cons (EV.loc rfl) (aq.cons (EV.loc rfl) aq.nil)))) rfl (fK (pB rfl f2 (by decide:(7:Nat)<1000)) (fK (pB (es:=kt aj ai P aL ax false) rfl (cS (iV FH)) (by decide:(7:Nat)<1000)) (fK (pB (es:=kt aj ai P aL beh false) rfl (cS (iV (iV FH))) (by decide:(7:Nat)<1000)) tw)))
 rw[List.set_set,List.set_set]at h4
 refine⟨(H1.set P (.list (ws++[wd x0 ps]))).set F (.dict (kt aj state' P aL beh false)),du (Fu:=lv) rfl rfl rfl (aa h1 (aa h2 (aa h3 (ao h4)))),⟨⟨?_,?_,bk.BS,bk.SD,(iV (iV bk.DH)),bk.len⟩,?_,?_,FB,FS,FD,PB,PS,PD,PF⟩,?_⟩
 ·rw[aO FB,aO PB];exact bk.bk
 ·rw[aO FS,aO PS];exact bk.sk
 ·exact cS (iV FH)
 ·rw[aO (Ne.symm PF)];exact cS PH
 ·subst hH
  exact Ag.trans (Ag.trans (Ag.set (X:=[S]) (.head _)) (Ag.set (X:=[P]) (.head _)) (Z:=[S,F,P]) (sC (.head _) sZ) (sC jp sZ)) (Ag.set (X:=[F]) (.head _)) (fun _ q _=>q) (sC eJ sZ)
noncomputable def cZ (ws:List V) (aL ax after:Int):V:=.tup [.tup ws,.int aL,.int ax,.int after]
inductive fZ (W:Nat) (n:Nat) (t:Ch) (H:List O) (ws:List V) (b0:Bool) (B:Nat) (S:Nat) (D:Nat) (F:Nat) (st:List V) (done:List V) (aj:Int) (aL:Int) (ax:Int) (aft:Int) (x0:Bool):Prop
 |mk:∀H' P',H.length≤P'→ay W (n+1) .lCloseCommand [.ref B,.int aft] H=some (.ok .none,H')→Sc t b0 B S D H' F P' st aj aJ [] aL ax x0→Ag [F,D] H H'→(H'[D]? =some (.list (if ws≠[]∧st=[]then done++[cZ ws aL ax aft]else done)))→fZ W n t H ws b0 B S D F st done aj aL ax aft x0
theorem dB {ai:Ch} {aj aL ax aft:Int} {x0:Bool} (h:Sc t b0 B S D H F P st aj ai ws aL ax x0) (hD:H[D]? =some (.list done)) (hw:ws.length<9000) (hd:done.length<9000):
  fZ W n t H ws b0 B S D F st done aj aL ax aft x0:=by
 obtain⟨bk,fr,wl,FB,FS,FD,PB,PS,PD,PF⟩:=h
 have FH:=bD fr
 have DH:=bk.DH
 have BS:=bk.BS
 have SD:=bk.SD
 have sl:=bk.len
 have h1:eS (ay W n) W (.asg 2 (.idx (.idx (.loc 0) (.str b5)) (.negc 1))) ⟨[some (.ref B),some (.int aft),none],H⟩=okR .next ⟨[some (.ref B),some (.int aft),some (.ref F)],H⟩:=aV (bk.topE rfl) (show(2:Nat)<3 by decide)
 have t1:EV (ay W n) ⟨[some (.ref B),some (.int aft),some (.ref F)],H⟩ (.and (.cons (.cmp .gt (.len (.idx (.loc 2) (.str dS))) (.int 0)) (.cons (.cmp .eq (.len (.idx (.loc 0) (.str b5))) (.int 1)) .nil))) (.bool (decide ((ws.length:Int)>0)&&decide (((st++[V.ref F]).length:Int)=1))) ⟨[some (.ref B),some (.int aft),some (.ref F)],H⟩:=
  EV.and2 (EV.cmp (EV.lenL (bS (EV.loc rfl) fr rfl) (aE wl) (by rw[dC];omega)) EV.int rfl) fun _=>EV.cmp (bk.lenE rfl) EV.int hG
 have tc:(decide ((ws.length:Int)>0)&&decide (((st++[V.ref F]).length:Int)=1))=decide (ws≠[]∧st=[]):=by
  rw[Bool.eq_iff_iff]
  simp only[Bool.and_eq_true,decide_eq_true_eq,List.length_append,List.length_cons,List.length_nil]
  constructor
  ·rintro⟨h1,h2⟩
   exact⟨fun q=>by subst q;simp at h1,List.length_eq_zero_iff.mp (by omega)⟩
  ·rintro⟨h1,h2⟩
   have:=List.length_pos_iff.mpr h1
   subst h2
   exact⟨by omega,by simp⟩
 rw[tc]at t1
 obtain⟨H1,hH1⟩:∃H1,H1=H.set D (.list (if ws≠[]∧st=[]then done++[cZ ws aL ax aft]else done)):=⟨_,rfl⟩
 have h2:eS (ay W n) W (.ife (.and (.cons (.cmp .gt (.len (.idx (.loc 2) (.str dS))) (.int 0)) (.cons (.cmp .eq (.len (.idx (.loc 0) (.str b5))) (.int 1)) .nil)))
   (.cons (.expr (.append (.idx (.loc 0) (.str n8)) (.tup (.cons (.tuple (.idx (.loc 2) (.str dS))) (.cons (.idx (.loc 2) (.str rS)) (.cons (.idx (.loc 2) (.str rm)) (.cons (.loc 1) .nil))))))) .nil) .nil) ⟨[some (.ref B),some (.int aft),some (.ref F)],H⟩=
   okR .next ⟨[some (.ref B),some (.int aft),some (.ref F)],H1⟩:=by
  by_cases hc:ws≠[]∧st=[]
  ·rw[decide_eq_true hc]at t1
   rw[hH1,if_pos hc]
   exact aB t1 (ao (bj (EV.append (bk.doneE rfl) (aE hD) (EV.tup (aq.cons (EV.tuple (bS (EV.loc rfl) fr rfl) (aE wl) (by omega)) (aq.cons (bS (EV.loc rfl) fr rfl) (aq.cons (bS (EV.loc rfl) fr rfl) (aq.cons (EV.loc rfl) aq.nil))))) (aE hD) (by omega))))
  ·rw[decide_eq_false hc]at t1
   rw[hH1,if_neg hc]
   have:H.set D (.list done)=H:=by
    refine List.ext_getElem? fun m=>?_
    by_cases hm:m=D
    ·subst hm;rw[cS DH,hD]
    ·exact aO (Ne.symm hm)
   rw[this]
   exact av t1 aw
 have fr1:H1[F]? =some (.dict (kt aj ai P aL ax x0)):=by rw[hH1,aO (Ne.symm FD)];exact fr
 have ln:H1.length=H.length:=by rw[hH1];simp
 have h3:eS (ay W n) W (.asgT [.sub (.loc 2) (.str dS),.sub (.loc 2) (.str nN)] (.tup (.cons (.lst .nil) (.cons (.str aJ) .nil)))) ⟨[some (.ref B),some (.int aft),some (.ref F)],H1⟩=
   okR .next ⟨[some (.ref B),some (.int aft),some (.ref F)],(((H1++[O.list []]).set F (.dict (kt aj ai H1.length aL ax x0))).set F (.dict (kt aj aJ H1.length aL ax x0)))⟩:=by
  refine cK (ah:=⟨[some (.ref B),some (.int aft),some (.ref F)],H1++[O.list []]⟩) (EV.tup (aq.cons (EV.lst aq.nil) (aq.cons EV.str aq.nil))) rfl (fK (pB rfl (bM fr1) (by decide:(7:Nat)<1000)) (fK (pB (es:=kt aj ai H1.length aL ax x0) rfl (cS (by simp;omega)) (by decide:(7:Nat)<1000)) tw))
 rw[List.set_set,ln]at h3
 refine⟨(H1++[O.list []]).set F (.dict (kt aj aJ H.length aL ax x0)),H.length,Nat.le_refl _,du (Fu:=i9) rfl rfl rfl (aa h1 (aa h2 (ao h3))),⟨⟨?_,?_,BS,SD,by simp;omega,sl⟩,?_,?_,FB,FS,FD,by omega,by omega,by omega,by omega⟩,?_,?_⟩
 ·rw[aO FB];exact bM (by rw[hH1,aO (by omega)];exact bk.bk)
 ·rw[aO FS];exact bM (by rw[hH1,aO (by omega)];exact bk.sk)
 ·exact cS (by simp;omega)
 ·rw[aO (by omega), ←ln];simp
 ·subst hH1
  exact Ag.trans (Ag.trans (Ag.set (X:=[D]) (.head _)) (Ag.app (X:=[])) (Z:=[F,D]) (sC eJ sZ) sZ) (Ag.set (X:=[F]) (.head _)) (fun _ q _=>q) (sC (.head _) sZ)
 ·rw[aO FD];exact bM (by rw[hH1];exact cS DH)
end
end Mine
end
section
namespace Mine
open PySem (PyData)
section
variable {W n:Nat} {t s r e a aT w:Ch} {c:Char} {H H':List O} {Φ:ci} {lo:List (Option V)} {i j:Nat} {v u:V} {vs ws:List V} {es:List (Ch×V)} {k:Ch} {o o':O}
 {b0:Bool} {B S D F P F' P':Nat} {f:Ch} {st done:List V}
noncomputable def Pv (d:Nat) (v:V):Prop:=Rd d v∧Sh v
theorem wO {d:Nat} {us:List V} {ds:List PyData} (h:bi (pd H d) us=some ds):pd H (d+1) (.tup us)=some (.tuple ds):=by
 unfold pd;dsimp only;rw[h];rfl
theorem CU {l m:Ch}:PyData.eqv (.tuple [.str (sx ['t','e','x','t']),.str (sx l)]) (.tuple [.str (sx ['t','e','x','t']),.str (sx m)])=(l==m):=by
 have h:PyData.eqv (.str (sx l)) (.str (sx m))=(l==m):=by
  have:=wn (H:=[]) l m
  simp only[dX,C2]at this
  exact Option.some.inj this
 simp only[PyData.eqv,PyData.eqvAll,Bool.and_true]at h⊢
 rw[h];simp
theorem uM:∀(d:Nat) (v:V) (x:PyData),pd H d v=some x→∀d',d≤d'→pd H d' v=some x:=by
 intro d
 induction d with
 |zero=>intro v x h;cases h
 |succ d ih=>
  intro v x h d' hd
  obtain⟨d',rfl⟩:∃k,d'=k+1:=⟨d'-1,by omega⟩
  have lst:∀(us:List V) (ds:List PyData),bi (pd H d) us=some ds→bi (pd H d') us=some ds:=by
   intro us
   induction us with
   |nil=>intro ds h;exact h
   |cons u us ih2=>
    intro ds h
    unfold bi at h⊢
    cases hu:pd H d u with
    |none=>rw[hu]at h;cases h
    |some y=>
     cases hl:bi (pd H d) us with
     |none=>rw[hu,hl]at h;cases h
     |some ys=>rw[hu,hl]at h;rw[ih u y hu d' (by omega),ih2 ys hl];exact h
  cases v with
  |tup us=>
   unfold pd at h⊢
   dsimp only at h⊢
   cases hu:bi (pd H d) us with
   |none=>rw[hu]at h;cases h
   |some ds=>rw[hu]at h;rw[lst us ds hu];exact h
  |ref i=>
   unfold pd at h⊢
   dsimp only at h⊢
   cases hi:listOf? H i with
   |none=>rw[hi]at h;cases h
   |some us=>
    rw[hi]at h
    dsimp only at h⊢
    cases hu:bi (pd H d) us with
    |none=>rw[hu]at h;cases h
    |some ds=>rw[hu]at h;rw[lst us ds hu];exact h
  |none=>exact h
  |bool b=>exact h
  |int i=>exact h
  |str l=>exact h
  |exc m=>exact h
inductive qS (H:List O) (vs:List V) (x:Bool):Prop
 |mk:∀q,dX H .eq (wd x vs) (wd false [txt ['*']])=some q→(q=true↔x=false∧vs=[txt ['*']])→qS H vs x
theorem Ep {x:Bool} (h:∀v∈vs,Pv 900 v):qS H vs x:=by
 obtain⟨ds,hds⟩:=gA (f:=pd H 900) (l:=vs) fun v hv=>(h v hv).1 H
 have mono:∀(d:Nat) (us:List V) (ds:List PyData),(∀v∈us,∀x,pd H 900 v=some x→pd H d v=some x)→bi (pd H 900) us=some ds→bi (pd H d) us=some ds:=by
  intro d us
  induction us with
  |nil=>intro ds _ h;exact h
  |cons u us ih=>
   intro ds hm h
   unfold bi at h⊢
   cases hu:pd H 900 u with
   |none=>rw[hu]at h;cases h
   |some y=>
    cases hl:bi (pd H 900) us with
    |none=>rw[hu,hl]at h;cases h
    |some ys=>rw[hu,hl]at h;rw[hm u (.head _) y hu,ih ys (fun v hv=>hm v (.tail _ hv)) hl];exact h
 have up:=uM (H:=H)
 have e1:pd H ji (wd x vs)=some (.tuple [.bool x,.tuple ds]):=by
  refine wO (d:=999) ?_
  have:pd H 999 (.tup vs)=some (.tuple ds):=wO (d:=998) (mono 998 vs ds (fun v _ x h=>up 900 v x h 998 (by omega)) hds)
  unfold bi;rw[show pd H 999 (.bool x)=some (.bool x) from rfl]
  unfold bi;rw[this];rfl
 have e2:pd H ji (wd false [txt ['*']])=some (.tuple [.bool false,.tuple [.tuple [.str (sx ['t','e','x','t']),.str (sx ['*'])]]]):=rfl
 refine⟨PyData.eqv (.tuple [.bool x,.tuple ds]) (.tuple [.bool false,.tuple [.tuple [.str (sx ['t','e','x','t']),.str (sx ['*'])]]]),?_,?_⟩
 ·show(match pd H ji (wd x vs),pd H ji (wd false [txt ['*']])with|some x,some y=>some (PyData.eqv x y)|_,_=>none)=_
  rw[e1,e2]
 cases x with
 |true=>simp[PyData.eqv,PyData.eqvAll]
 |false=>
  rcases vs with _|⟨v,_|⟨u,us⟩⟩
  ·cases hds;simp[PyData.eqv,PyData.eqvAll]
  ·unfold bi at hds
   rcases(h v (.head _)).2 with⟨l,rfl⟩|⟨c,us,hc,rfl⟩
   ·rw[show pd H 900 (txt l)=some (.tuple [.str (sx ['t','e','x','t']),.str (sx l)]) from rfl]at hds
    cases hds
    have:=CU (l:=l) (m:=['*'])
    have e:PyData.eqv (.tuple [.bool false,.tuple [.tuple [.str (sx ['t','e','x','t']),.str (sx l)]]]) (.tuple [.bool false,.tuple [.tuple [.str (sx ['t','e','x','t']),.str (sx ['*'])]]])=(l==['*']):=by
     rw[←this]
     simp only[PyData.eqv,PyData.eqvAll,Bool.and_true,beq_self_eq_true,Bool.true_and]
    rw[e];simp[txt]
   ·obtain⟨y,hy⟩:=(h _ (.head _)).1 H
    rw[hy]at hds
    cases hds
    unfold pd at hy
    dsimp only at hy
    cases ho:bi (pd H 899) (.str c::us)with
    |none=>rw[ho]at hy;cases hy
    |some ys=>
     rw[ho]at hy
     cases hy
     unfold bi at ho
     rw[show pd H 899 (.str c)=some (.str (sx c)) from rfl]at ho
     cases hu:bi (pd H 899) us with
     |none=>rw[hu]at ho;cases ho
     |some zs=>
      rw[hu]at ho
      cases ho
      have ne:(sx c==sx ['t','e','x','t'])=false:=by
       rw[beq_eq_false_iff_ne];exact fun q=>hc (xA q)
      have ne2:¬([V.tup (.str c::us)]=[txt ['*']]):=by simp[txt,hc]
      simp[PyData.eqv,PyData.eqvAll,ne,ne2]
  ·unfold bi at hds
   obtain⟨y,hy⟩:=(h v (.head _)).1 H
   rw[hy]at hds
   unfold bi at hds
   obtain⟨y2,hy2⟩:=(h u (.tail _ (.head _))).1 H
   rw[hy2]at hds
   cases hu:bi (pd H 900) us with
   |none=>rw[hu]at hds;cases hds
   |some zs=>
    rw[hu]at hds
    cases hds
    simp[PyData.eqv,PyData.eqvAll]
end
end Mine
end
section
namespace Mine
open PySem (PyData)
noncomputable def gu:Nat→Ss→Ss
 |0,s=>s
 |n+1,.cons _ ss=>gu n ss
 |_+1,.nil=>.nil
section
variable {W n:Nat} {t s r e a aT w:Ch} {c:Char} {H H':List O} {Φ:ci} {lo:List (Option V)} {i j:Nat} {v u:V} {vs ws:List V} {es:List (Ch×V)} {k:Ch} {o o':O}
 {b0:Bool} {B S D F P F' P':Nat} {f:Ch} {st done:List V} {aj aL ax:Int} {ai:Ch} {aQ:Bool} {res:R Fl}
theorem Sc.upd {start' beg' last':Int} {state':Ch} {more':Bool} (h:Sc t b0 B S D H F P st aj ai ws aL ax aQ):Sc t b0 B S D (H.set F (.dict (kt start' state' P beg' last' more'))) F P st start' state' ws beg' last' more':=
 ⟨⟨by rw[aO h.FB];exact h.bk.bk,by rw[aO h.FS];exact h.bk.sk,h.bk.BS,h.bk.SD,(iV h.bk.DH),h.bk.len⟩,cS (bD h.fr),by rw[aO (Ne.symm h.PF)];exact h.wl,h.FB,h.FS,h.FD,h.PB,h.PS,h.PD,h.PF⟩
theorem Sc.updW {ws':List V} (h:Sc t b0 B S D H F P st aj ai ws aL ax aQ):Sc t b0 B S D (H.set P (.list ws')) F P st aj ai ws' aL ax aQ:=
 ⟨⟨by rw[aO h.PB];exact h.bk.bk,by rw[aO h.PS];exact h.bk.sk,h.bk.BS,h.bk.SD,(iV h.bk.DH),h.bk.len⟩,by rw[aO h.PF];exact h.fr,cS (bD h.wl),h.FB,h.FS,h.FD,h.PB,h.PS,h.PD,h.PF⟩
noncomputable def dY (t:Ch) (B F:Nat) (at_:Int) (c:Char) (ai:Ch) (x6:Option V):List (Option V):=[some (.ref B),some (.int at_),some (.str t),some (.ref F),some (.str [c]),some (.str ai),x6]
theorem jR (h:Sc t b0 B S D H F P st aj ai ws aL ax aQ) (x:bc t (c::r)) (hs:bF Φ W (gu 2 cJ) ⟨dY t B F (ps t (c::r)) c ai none,H⟩=res):
  bF Φ W cJ ⟨[some (.ref B),some (.int (ps t (c::r))),none,none,none,none,none],H⟩=res:=
 aa (cK (EV.tup (aq.cons (h.bk.textE rfl) (aq.cons (h.bk.topE rfl) aq.nil))) rfl (cn (show(2:Nat)<7 by decide) (show(3:Nat)<7 by decide)))
  (aa (cK (EV.tup (aq.cons (dZ (i:=1) (j:=2) x rfl rfl) (aq.cons (bS (EV.loc rfl) h.fr rfl) aq.nil))) rfl (cn (show(4:Nat)<7 by decide) (show(5:Nat)<7 by decide))) hs)
theorem gS {l:Ch} {at_:Int} {x6:Option V}:EV Φ ⟨dY t B F at_ c ai x6,H⟩ (.cmp .eq (.loc 5) (.str l)) (.bool (ai==l)) ⟨dY t B F at_ c ai x6,H⟩:=aH (EV.loc rfl)
theorem uh {d:Char} {at_:Int} {x6:Option V}:EV Φ ⟨dY t B F at_ c ai x6,H⟩ (.cmp .eq (.loc 4) (.str [d])) (.bool ([c]==[d])) ⟨dY t B F at_ c ai x6,H⟩:=aH (EV.loc rfl)
theorem rB {at_:Int} {x6:Option V}:EV Φ ⟨dY t B F at_ c ai x6,H⟩ (.ite (.cmp .eq (.loc 4) (.str ['\\'])) (.bin .add (.loc 1) (.int 2)) (.bin .add (.loc 1) (.int 1))) (.int (if c='\\' then at_+2 else at_+1)) ⟨dY t B F at_ c ai x6,H⟩:=by
 by_cases h:c='\\'
 ·subst h;rw[if_pos rfl];exact EV.iteT uh (EV.bin (EV.loc rfl) EV.int rfl)
 ·rw[if_neg h]
  have:=uh (Φ:=Φ) (t:=t) (B:=B) (F:=F) (H:=H) (ai:=ai) (c:=c) (d:='\\') (at_:=at_) (x6:=x6)
  rw[bz h]at this
  exact EV.iteF this (EV.bin (EV.loc rfl) EV.int rfl)
theorem oX (h:Sc t b0 B S D H F P st aj be ws aL ax aQ) (x:bc t (c::r)):
  ay W (n+1) .lInScript [.ref B,.int (ps t (c::r))] H=some (.ok (.int (if c='\\' then ps t (c::r)+2 else ps t (c::r)+1)),if c='\n' then H.set F (.dict (kt aj aJ P aL ax aQ))else H):=by
 have t1:=gS (Φ:=ay W n) (t:=t) (B:=B) (F:=F) (H:=H) (ai:=be) (c:=c) (l:=be) (at_:=ps t (c::r)) (x6:=none)
 have t2:=uh (Φ:=ay W n) (t:=t) (B:=B) (F:=F) (H:=H) (ai:=be) (c:=c) (d:='\n') (at_:=ps t (c::r)) (x6:=none)
 by_cases hc:c='\n'
 ·subst hc
  rw[if_pos rfl]
  exact aN (Fu:=bQ) rfl rfl rfl (jR h x (ak (aB t1 (aa (aB t2 (ao (dL EV.str rfl h.fr (by decide:(7:Nat)<1000)))) (ak (aK rB))))))
 ·rw[if_neg hc]
  rw[bz hc]at t2
  exact aN (Fu:=bQ) rfl rfl rfl (jR h x (ak (aB t1 (aa (av t2 aw) (ak (aK rB))))))
noncomputable def mq (ai:Ch):Ch:=if ai=aJ then aJ else fL
theorem rl:([' ','\t','\x0b','\x0c','\r']:Ch).contains c=iy c:=by
 rw[Bool.eq_iff_iff];simp[iy]
theorem vt (x:bc t (c::r)):EV Φ ⟨dY t B F (ps t (c::r)) c ai none,H⟩ (.or (.cons (.cmp .inn (.loc 4) (.str [' ','\t','\x0b','\x0c','\r'])) (.cons (.cmp .eq (.slc (.loc 2) (.loc 1) (.bin .add (.loc 1) (.int 2))) (.str ['\\','\n'])) .nil))) (.bool (iy c||((c::r).take 2==['\\','\n']))) ⟨dY t B F (ps t (c::r)) c ai none,H⟩:=
 EV.or2 (EV.cmp (EV.loc rfl) EV.str (by rw[←rl];rfl)) fun _=>aH (cG (i:=1) (j:=2) (m:=2) x rfl rfl)
inductive lF (W:Nat) (n:Nat) (t:Ch) (r:Ch) (c:Char) (H:List O) (ws:List V) (b0:Bool) (B:Nat) (S:Nat) (D:Nat) (F:Nat) (P:Nat) (st:List V) (aj:Int) (aL:Int) (ax:Int) (ai:Ch) (aQ:Bool):Prop
 |mk:∀H',ay W (n+1) .lInScript [.ref B,.int (ps t (c::r))] H=some (.ok (.int (if c='\\' then ps t (c::r)+2 else ps t (c::r)+1)),H')→Sc t b0 B S D H' F P st aj (mq ai) ws aL ax aQ→Ag [F] H H'→lF W n t r c H ws b0 B S D F P st aj aL ax ai aQ
theorem oY (h:Sc t b0 B S D H F P st aj ai ws aL ax aQ) (x:bc t (c::r)) (hs:(ai==be)=false) (hg:(iy c||((c::r).take 2==['\\','\n']))=true):
  lF W n t r c H ws b0 B S D F P st aj aL ax ai aQ:=by
 have t1:=gS (Φ:=ay W n) (t:=t) (B:=B) (F:=F) (H:=H) (ai:=ai) (c:=c) (l:=be) (at_:=ps t (c::r)) (x6:=none)
 rw[hs]at t1
 have t2:=vt (Φ:=ay W n) (B:=B) (F:=F) (H:=H) (ai:=ai) x
 rw[hg]at t2
 have t3:EV (ay W n) ⟨dY t B F (ps t (c::r)) c ai none,H⟩ (.cmp .ne (.loc 5) (.str aJ)) (.bool (!(ai==aJ))) ⟨dY t B F (ps t (c::r)) c ai none,H⟩:=jy (EV.loc rfl)
 by_cases hc:ai=aJ
 ·subst hc
  refine⟨H,aN (Fu:=bQ) rfl rfl rfl (jR h x (aa (av t1 aw) (ak (aB t2 (aa (av t3 aw) (ak (aK rB))))))),?_,Ag.refl⟩
  unfold mq;rw[if_pos rfl];exact h
 ·rw[show(ai==aJ)=false by simpa using hc]at t3
  refine⟨H.set F (.dict (kt aj fL P aL ax aQ)),aN (Fu:=bQ) rfl rfl rfl (jR h x (aa (av t1 aw) (ak (aB t2 (aa (aB t3 (ao (dL EV.str rfl h.fr (by decide:(7:Nat)<1000)))) (ak (aK rB))))))),?_,Ag.set (.head _)⟩
  unfold mq;rw[if_neg hc];exact h.upd
theorem qi:(['\n',';']:Ch).contains c=term c:=by
 rw[Bool.eq_iff_iff];simp[term]
theorem xL {at_:Int}:EV Φ ⟨dY t B F at_ c ai none,H⟩ (.cmp .inn (.loc 4) (.str ['\n',';'])) (.bool (term c)) ⟨dY t B F at_ c ai none,H⟩:=EV.cmp (EV.loc rfl) EV.str (by rw[←qi];rfl)
inductive ku (W:Nat) (n:Nat) (t:Ch) (r:Ch) (c:Char) (H:List O) (ws:List V) (b0:Bool) (B:Nat) (S:Nat) (D:Nat) (F:Nat) (st:List V) (done:List V) (aj:Int) (aL:Int) (ax:Int) (aQ:Bool):Prop
 |mk:∀H' P',H.length≤P'→ay W (n+2) .lInScript [.ref B,.int (ps t (c::r))] H=some (.ok (.int (ps t r)),H')→Sc t b0 B S D H' F P' st aj aJ [] aL ax aQ→Ag [F,D] H H'→(H'[D]? =some (.list (if ws≠[]∧st=[]then done++[cZ ws aL ax (ps t r)]else done)))→ku W n t r c H ws b0 B S D F st done aj aL ax aQ
theorem mU (h:Sc t b0 B S D H F P st aj ai ws aL ax aQ) (x:bc t (c::r)) (hs:(ai==be)=false) (hc:term c=true) (hD:H[D]? =some (.list done)) (hw:ws.length<9000) (hd:done.length<9000):
  ku W n t r c H ws b0 B S D F st done aj aL ax aQ:=by
 obtain⟨H',P',hP,h1,h2,h3,h4⟩:=dB (W:=W) (n:=n) (aft:=ps t r) h hD hw hd
 have t1:=gS (Φ:=ay W (n+1)) (t:=t) (B:=B) (F:=F) (H:=H) (ai:=ai) (c:=c) (l:=be) (at_:=ps t (c::r)) (x6:=none)
 rw[hs]at t1
 have t2:=vt (Φ:=ay W (n+1)) (B:=B) (F:=F) (H:=H) (ai:=ai) x
 have hg:(iy c||((c::r).take 2==['\\','\n']))=false:=by
  unfold term at hc
  simp only[Bool.or_eq_true,beq_iff_eq]at hc
  rcases hc with rfl|rfl<;>simp[iy]
 rw[hg]at t2
 have t3:=xL (Φ:=ay W (n+1)) (t:=t) (B:=B) (F:=F) (H:=H) (ai:=ai) (c:=c) (at_:=ps t (c::r))
 rw[hc]at t3
 exact⟨H',P',hP,aN (Fu:=bQ) rfl rfl rfl (jR h x (aa (av t1 aw) (aa (av t2 aw) (ak (aB t3 (aa (bj (EV.call (aq.cons (EV.loc rfl) (aq.cons (bf rfl) aq.nil)) h1)) (ak (aK (bf rfl))))))))),h2,h3,h4⟩
theorem E2 (h:skipGaps (c::r)=c::r):(iy c||((c::r).take 2==['\\','\n']))=false:=by
 rw[Bool.eq_false_iff]
 intro q
 rw[Bool.or_eq_true]at q
 rcases q with q|q
 ·rw[ey q]at h
  have:=dU r
  have:=congrArg List.length h
  simp at this;omega
 ·obtain⟨r',rfl,rfl⟩:=eH.mp q
  rw[fC]at h
  have:=dU r'
  have:=congrArg List.length h
  simp at this;omega
noncomputable def fg:E:=(.and (.cons (.cmp .eq (.loc 5) (.str aR)) (.cons (.cmp .eq (.idx (.idx (.loc 3) (.str dS)) (.negc 1)) (.tup (.cons (.bool false) (.cons (.tup (.cons (.tup (.cons (.str ['t','e','x','t']) (.cons (.str ['*']) .nil))) .nil)) .nil)))) (.cons (.cmp .eq (.idx (.loc 2) (.bin .sub (.loc 1) (.int 1))) (.str ['}'])) .nil))))
theorem k7 {sb:Bool} (h:Sc t b0 B S D H F P st aj ai ws aL ax aQ) (x:bc t (c::r)) (hs:(ai==be)=false) (hg:skipGaps (c::r)=c::r) (hc:term c=false)
  (hst:EV Φ ⟨dY t B F (ps t (c::r)) c ai none,H⟩ fg (.bool sb) ⟨dY t B F (ps t (c::r)) c ai none,H⟩)
  (hr:bF Φ W (gu 6 cJ) ⟨dY t B F (ps t (c::r)) c ai (some (.bool sb)),H⟩=res):bF Φ W cJ ⟨[some (.ref B),some (.int (ps t (c::r))),none,none,none,none,none],H⟩=res:=by
 have t1:=gS (Φ:=Φ) (t:=t) (B:=B) (F:=F) (H:=H) (ai:=ai) (c:=c) (l:=be) (at_:=ps t (c::r)) (x6:=none)
 rw[hs]at t1
 have t2:=vt (Φ:=Φ) (B:=B) (F:=F) (H:=H) (ai:=ai) x
 rw[E2 hg]at t2
 have t3:=xL (Φ:=Φ) (t:=t) (B:=B) (F:=F) (H:=H) (ai:=ai) (c:=c) (at_:=ps t (c::r))
 rw[hc]at t3
 exact jR h x (aa (av t1 aw) (aa (av t2 aw) (aa (av t3 aw) (aa (aV hst (show(6:Nat)<7 by decide)) hr))))
theorem iR (hs:(ai==aR)=false):EV Φ ⟨dY t B F (ps t (c::r)) c ai none,H⟩ fg (.bool false) ⟨dY t B F (ps t (c::r)) c ai none,H⟩:=by
 have t1:=gS (Φ:=Φ) (t:=t) (B:=B) (F:=F) (H:=H) (ai:=ai) (c:=c) (l:=aR) (at_:=ps t (c::r)) (x6:=none)
 rw[hs]at t1
 exact EV.andF t1
inductive pR (t:Ch) (r:Ch) (c:Char) (H:List O) (Φ:ci) (vs:List V) (B:Nat) (F:Nat) (x:Bool) (q:Char):Prop
 |mk:∀sb,EV Φ ⟨dY t B F (ps t (c::r)) c aR none,H⟩ fg (.bool sb) ⟨dY t B F (ps t (c::r)) c aR none,H⟩→(sb=true↔x=false∧vs=[txt ['*']]∧q='}')→pR t r c H Φ vs B F x q
theorem lJ {ws0:List V} {x:Bool} {q:Char} (h:Sc t b0 B S D H F P st aj aR (ws0++[wd x vs]) aL ax aQ) (hv:∀v∈vs,Pv 900 v) (xq:bc t (q::c::r)) (hl:ws0.length<9000):
  pR t r c H Φ vs B F x q:=by
 obtain⟨z,e1,e2⟩:=Ep (H:=H) (x:=x) hv
 have t1:=gS (Φ:=Φ) (t:=t) (B:=B) (F:=F) (H:=H) (ai:=aR) (c:=c) (l:=aR) (at_:=ps t (c::r)) (x6:=none)
 have t2:EV Φ ⟨dY t B F (ps t (c::r)) c aR none,H⟩ (.cmp .eq (.idx (.idx (.loc 3) (.str dS)) (.negc 1)) (.tup (.cons (.bool false) (.cons (.tup (.cons (.tup (.cons (.str ['t','e','x','t']) (.cons (.str ['*']) .nil))) .nil)) .nil)))) (.bool z) ⟨dY t B F (ps t (c::r)) c aR none,H⟩:=
  EV.cmp (nV (bS (EV.loc rfl) h.fr rfl) h.wl (by omega)) (EV.tup (aq.cons EV.bool (aq.cons (EV.tup (aq.cons (EV.tup (aq.cons EV.str (aq.cons EV.str aq.nil))) aq.nil)) aq.nil))) e1
 have t3:EV Φ ⟨dY t B F (ps t (c::r)) c aR none,H⟩ (.cmp .eq (.idx (.loc 2) (.bin .sub (.loc 1) (.int 1))) (.str ['}'])) (.bool ([q]==['}'])) ⟨dY t B F (ps t (c::r)) c aR none,H⟩:=by
  have gv:=ki (H:=H) xq.at
  rw[show ps t (q::c::r)=ps t (c::r)-1 by rw[←bC (t:=t) (c:=q) (s:=c::r)];omega]at gv
  exact aH (EV.idx (EV.loc rfl) (EV.bin (EV.loc rfl) EV.int rfl) gv)
 refine⟨z&&([q]==['}']),EV.andT t1 (EV.and2 t2 fun _=>t3),?_⟩
 rw[Bool.and_eq_true,e2]
 simp[and_assoc]
end
end Mine
end
section
namespace Mine
open PySem (PyData)
section
variable {W n:Nat} {t s r e a aT w:Ch} {c:Char} {H H':List O} {Φ:ci} {lo:List (Option V)} {i j:Nat} {v u:V} {vs ws:List V} {es:List (Ch×V)} {k:Ch} {o o':O}
 {b0:Bool} {B S D F P F' P':Nat} {f:Ch} {st done:List V} {aj aL ax:Int} {ai:Ch} {aQ:Bool} {res:R Fl}
theorem oZ (h:Sc t b0 B S D H F P st aj ai ws aL ax aQ) {at_:Int} {x6:Option V}:EV Φ ⟨dY t B F at_ c ai x6,H⟩ (.and (.cons (.cmp .eq (.loc 4) (.str [']'])) (.cons (.or (.cons (.idx (.loc 0) (.str kO)) (.cons (.cmp .gt (.len (.idx (.loc 0) (.str b5))) (.int 1)) .nil))) .nil)))
  (.bool ([c]==[']']&&(b0||decide (0<st.length)))) ⟨dY t B F at_ c ai x6,H⟩:=by
 refine EV.and2 uh fun _=>EV.or2 (h.bk.nestE rfl) fun _=>EV.cmp (h.bk.lenE rfl) EV.int ?_
 show some (decide (((st++[V.ref F]).length:Int)>1))=_
 congr 1
 rw[decide_eq_decide]
 simp only[List.length_append,List.length_cons,List.length_nil];omega
theorem oK (h:Sc t b0 B S D H F P st aj ai ws aL ax aQ) {at_:Int} {x6:Option V} (hb:¬((b0||decide (0<st.length))=true∧c=']')):EV Φ ⟨dY t B F at_ c ai x6,H⟩ (.and (.cons (.cmp .eq (.loc 4) (.str [']'])) (.cons (.or (.cons (.idx (.loc 0) (.str kO)) (.cons (.cmp .gt (.len (.idx (.loc 0) (.str b5))) (.int 1)) .nil))) .nil)))
  (.bool false) ⟨dY t B F at_ c ai x6,H⟩:=by
 have:=oZ (Φ:=Φ) (c:=c) h (at_:=at_) (x6:=x6)
 rw[show([c]==[']']&&(b0||decide (0<st.length)))=false by
  rw[Bool.eq_false_iff]
  intro q
  rw[Bool.and_eq_true]at q
  exact hb ⟨q.2,by simpa using q.1⟩]at this
 exact this
noncomputable def xh:Ss:=(.cons (.ife (.loc 6) (.cons (.asgS (.idx (.loc 3) (.str dS)) (.negc 1) (.tup (.cons (.bool true) (.cons (.tup .nil) .nil)))) .nil) .nil)
 (.cons (.expr (.call .lCloseCommand (.cons (.loc 0) (.cons (.loc 1) .nil))))
 (.cons (.expr (.pop (.idx (.loc 0) (.str b5))))
 (.cons (.ife (.cmp .gt (.len (.idx (.loc 0) (.str b5))) (.int 0))
 (.cons (.expr (.append (.idx (.idx (.idx (.loc 0) (.str b5)) (.negc 1)) (.str k6)) (.tup (.cons (.str ['c','m','d']) (.cons (.slc (.loc 2) (.idx (.loc 3) (.str gd)) (.loc 1)) .nil)))))
 .nil) .nil)
 (.cons (.ret (.bin .add (.loc 1) (.int 1))) .nil)))))
noncomputable def I4 (sb:Bool) (ws0:List V) (w:V):List V:=if sb then ws0++[wd true []]else ws0++[w]
inductive qP (W:Nat) (t:Ch) (c:Char) (H:List O) (Φ:ci) (b0:Bool) (B:Nat) (S:Nat) (D:Nat) (F:Nat) (P:Nat) (st:List V) (aj:Int) (aL:Int) (ax:Int) (ai:Ch) (aQ:Bool) (sb:Bool) (ws1:List V) (at_:Int):Prop
 |mk:∀H1,eS Φ W (.ife (.loc 6) (.cons (.asgS (.idx (.loc 3) (.str dS)) (.negc 1) (.tup (.cons (.bool true) (.cons (.tup .nil) .nil)))) .nil) .nil) ⟨dY t B F at_ c ai (some (.bool sb)),H⟩=okR .next ⟨dY t B F at_ c ai (some (.bool sb)),H1⟩→Sc t b0 B S D H1 F P st aj ai ws1 aL ax aQ→Ag [P] H H1→qP W t c H Φ b0 B S D F P st aj aL ax ai aQ sb ws1 at_
theorem DK {sb:Bool} {ws1:List V} (h:Sc t b0 B S D H F P st aj ai ws aL ax aQ) (hw:ws.length<9000) (hsw:(sb=false∧ws1=ws)∨(sb=true∧∃ws0 w,ws=ws0++[w]∧ws1=ws0++[wd true []])) {at_:Int}:
  qP W t c H Φ b0 B S D F P st aj aL ax ai aQ sb ws1 at_:=by
 rcases hsw with⟨rfl,rfl⟩|⟨rfl,ws0,w,rfl,rfl⟩
 ·exact⟨H,av (EV.loc rfl) aw,h,Ag.refl⟩
 ·exact⟨_,aB (EV.loc rfl) (ao (rJ (EV.tup (aq.cons EV.bool (aq.cons (EV.tup aq.nil) aq.nil))) (bS (EV.loc rfl) h.fr rfl) EV.negc (qB h.wl (by simp at hw;omega)))),h.updW,Ag.set (.head _)⟩
inductive nb (W:Nat) (n:Nat) (t:Ch) (c:Char) (H:List O) (b0:Bool) (B:Nat) (S:Nat) (D:Nat) (F:Nat) (P:Nat) (st:List V) (done:List V) (aj:Int) (aL:Int) (ax:Int) (ai:Ch) (sb:Bool) (ws1:List V) (at_:Int):Prop
 |mk:∀H',(∀{res:R Fl},bF (ay W (n+1)) W (gu 3 xh) ⟨dY t B F at_ c ai (some (.bool sb)),H'⟩=res→bF (ay W (n+1)) W xh ⟨dY t B F at_ c ai (some (.bool sb)),H⟩=res)→Bk t b0 B S D H' [] st→(∃es,H'[F]? =some (.dict es)∧es.lookup gd=some (.int aj))→Ag [P,F,D,S] H H'→(H'[D]? =some (.list (if ws1≠[]∧st=[]then done++[cZ ws1 aL ax at_]else done)))→nb W n t c H b0 B S D F P st done aj aL ax ai sb ws1 at_
theorem qO {sb:Bool} {ws1:List V} (h:Sc t b0 B S D H F P st aj ai ws aL ax aQ) (hw:ws.length<9000) (hsw:(sb=false∧ws1=ws)∨(sb=true∧∃ws0 w,ws=ws0++[w]∧ws1=ws0++[wd true []])) {at_:Int} (hD:H[D]? =some (.list done)) (hd:done.length<9000):
  nb W n t c H b0 B S D F P st done aj aL ax ai sb ws1 at_:=by
 obtain⟨H1,h1,s1,g1⟩:=DK (Φ:=ay W (n+1)) (W:=W) (c:=c) h hw hsw (at_:=at_)
 have hw1:ws1.length<9000:=by
  rcases hsw with⟨-,rfl⟩|⟨-,ws0,w,rfl,rfl⟩
  ·exact hw
  ·simpa using hw
 have hD1:H1[D]? =some (.list done):=g1.get hD (lW (Ne.symm h.PD))
 obtain⟨H2,P2, -,h2,s2,g2,d2⟩:=dB (W:=W) (n:=n) (aft:=at_) s1 hD1 hw1 hd
 have SF:S≠F:=Ne.symm s2.FS
 have SD:=s2.bk.SD
 refine⟨H2.set S (.list st),fun hr=>aa h1 (aa (bj (EV.call (aq.cons (EV.loc rfl) (aq.cons (EV.loc rfl) aq.nil)) h2)) (aa (bj (CM s2.bk rfl)) hr)),s2.bk.popped,⟨_,by rw[aO SF];exact s2.fr,rfl⟩,?_,by rw[aO (by omega)];exact d2⟩
 exact Ag.trans (Ag.trans g1 g2 (Z:=[P,F,D]) (sC (.head _) sZ) (sC eJ (sC jp sZ))) (Ag.set (X:=[S]) (.head _)) (sC (.head _) (sC eJ (sC jp sZ))) (sC mQ sZ)
inductive jc (W:Nat) (n:Nat) (t:Ch) (r:Ch) (H:List O) (b0:Bool) (B:Nat) (S:Nat) (D:Nat) (F:Nat) (P:Nat) (done:List V) (aL:Int) (ax:Int) (ws1:List V):Prop
 |mk:∀H',ay W (n+2) .lInScript [.ref B,.int (ps t (']'::r))] H=some (.ok (.int (ps t r)),H')→Bk t b0 B S D H' [] []→Ag [P,F,D,S] H H'→H'[D]? =some (.list (if ws1≠[]then done++[cZ ws1 aL ax (ps t (']'::r))]else done))→jc W n t r H b0 B S D F P done aL ax ws1
theorem g5 {sb:Bool} {ws1:List V} (h:Sc t b0 B S D H F P [] aj ai ws aL ax aQ) (x:bc t (']'::r)) (hs:(ai==be)=false) (hst:∀{Φ:ci},EV Φ ⟨dY t B F (ps t (']'::r)) ']' ai none,H⟩ fg (.bool sb) ⟨dY t B F (ps t (']'::r)) ']' ai none,H⟩)
  (hb:b0=true) (hw:ws.length<9000) (hsw:(sb=false∧ws1=ws)∨(sb=true∧∃ws0 w,ws=ws0++[w]∧ws1=ws0++[wd true []])) (hD:H[D]? =some (.list done)) (hd:done.length<9000):
  jc W n t r H b0 B S D F P done aL ax ws1:=by
 obtain⟨H',k1,k2,k3,k4,k5⟩:=qO (W:=W) (n:=n) (c:=']') h hw hsw (at_:=ps t (']'::r)) hD hd
 have ie:=oZ (Φ:=ay W (n+1)) (c:=']') h (at_:=ps t (']'::r)) (x6:=some (.bool sb))
 subst hb
 refine⟨H',aN (Fu:=bQ) (lo':=dY t B F (ps t (']'::r)) ']' ai (some (.bool sb))) rfl rfl rfl (k7 h x hs rfl rfl hst (ak (aB ie (k1 ?_)))),k2,k4,by simpa using k5⟩
 exact aa (av (EV.cmp (k2.lenE rfl) EV.int rfl) aw) (ak (aK (bf rfl)))
inductive jb (W:Nat) (n:Nat) (t:Ch) (r:Ch) (H:List O) (b0:Bool) (B:Nat) (S:Nat) (D:Nat) (F:Nat) (P:Nat) (done:List V) (Fp:Nat) (Pp:Nat) (st':List V) (q:Ch) (qs:List V):Prop
 |mk:∀H',ay W (n+2) .lInScript [.ref B,.int (ps t (']'::r))] H=some (.ok (.int (ps t r)),H')→Bk t b0 B S D H' [] (st'++[.ref Fp])→Ag [P,F,D,S,Pp] H H'→H'[Pp]? =some (.list (qs++[cm q]))→H'[D]? =some (.list done)→jb W n t r H b0 B S D F P done Fp Pp st' q qs
theorem g9 {sb:Bool} {ws1:List V} {Fp Pp:Nat} {st':List V} {kind name q:Ch} {p0 dep:Int} {qs:List V} (h:Sc t b0 B S D H F P (st'++[.ref Fp]) (ps t s) ai ws aL ax aQ) (x:bc t (']'::r)) (hs:(ai==be)=false) (hst:∀{Φ:ci},EV Φ ⟨dY t B F (ps t (']'::r)) ']' ai none,H⟩ fg (.bool sb) ⟨dY t B F (ps t (']'::r)) ']' ai none,H⟩)
  (hw:ws.length<9000) (hsw:(sb=false∧ws1=ws)∨(sb=true∧∃ws0 w,ws=ws0++[w]∧ws1=ws0++[wd true []])) (hD:H[D]? =some (.list done)) (hd:done.length<9000)
  (hF:H[Fp]? =some (.dict (lR kind p0 Pp name dep))) (hP:H[Pp]? =some (.list qs)) (nF:Fp∉[P,F,D,S]) (nP:Pp∉[P,F,D,S]) (nB:Pp≠B) (hq:s=q++']'::r) (xs:bc t s) (hqs:qs.length<9000):
  jb W n t r H b0 B S D F P done Fp Pp st' q qs:=by
 obtain⟨H',k1,k2,⟨es,k3,k3'⟩,k4,k5⟩:=qO (W:=W) (n:=n) (c:=']') h hw hsw (at_:=ps t (']'::r)) hD hd
 rw[if_neg (by simp)]at k5
 have ie:=oZ (Φ:=ay W (n+1)) (c:=']') h (at_:=ps t (']'::r)) (x6:=some (.bool sb))
 rw[show(([']']:Ch)==[']']&&(b0||decide (0<(st'++[V.ref Fp]).length)))=true by simp]at ie
 have g1:=k4.get hF nF
 have g2:=k4.get hP nP
 have PS:Pp≠S:=fun q=>nP (by simp[q])
 have PD:Pp≠D:=fun q=>nP (by simp[q])
 have hc:EV (ay W (n+1)) ⟨dY t B F (ps t (']'::r)) ']' ai (some (.bool sb)),H'⟩ (.slc (.loc 2) (.idx (.loc 3) (.str gd)) (.loc 1)) (.str q) ⟨dY t B F (ps t (']'::r)) ']' ai (some (.bool sb)),H'⟩:=by
  have:=EV.slc (Φ:=ay W (n+1)) (σ:=⟨dY t B F (ps t (']'::r)) ']' ai (some (.bool sb)),H'⟩) (EV.loc (i:=2) rfl) (bS (EV.loc (i:=3) rfl) k3 k3') (EV.loc (i:=1) rfl) x.at.lim
  rw[hq]at xs
  rwa[hq,iZ xs x]at this
 refine⟨H'.set Pp (.list (qs++[cm q])),aN (Fu:=bQ) (lo':=dY t B F (ps t (']'::r)) ']' ai (some (.bool sb))) rfl rfl rfl (k7 h x hs rfl rfl hst (ak (aB ie (k1 ?_)))),⟨?_,?_,k2.BS,k2.SD,(iV k2.DH),k2.len⟩,?_,cS (bD g2),by rw[aO PD];exact k5⟩
 ·refine aa (aB (EV.cmp (k2.lenE rfl) EV.int ?_) (ao (bj (EV.append (bS (k2.topE rfl) g1 rfl) (aE g2) (EV.tup (aq.cons EV.str (aq.cons hc aq.nil))) (aE g2) (by omega))))) (ak (aK (bf rfl)))
  show some (decide (((st'++[V.ref Fp]).length:Int)>0))=_
  rw[decide_eq_true B3]
 ·rw[aO nB];exact k2.bk
 ·rw[aO PS];exact k2.sk
 ·exact Ag.trans k4 (Ag.set (X:=[Pp]) (.head _)) (sC (.head _) (sC eJ (sC jp (sC mQ sZ)))) (sC Ao sZ)
theorem uY (h:Sc t b0 B S D H F P st aj aJ ws aL ax aQ) (x:bc t ('#'::r)):
  ay W (n+1) .lInScript [.ref B,.int (ps t ('#'::r))] H=some (.ok (.int (ps t r)),H.set F (.dict (kt aj be P aL ax aQ))):=
 aN (Fu:=bQ) rfl rfl rfl (k7 h x rfl rfl rfl (iR rfl) (aa (av (oK h (by simp)) aw) (ak (aB gS (ak (aB uh (aa (dL EV.str rfl h.fr (by decide:(7:Nat)<1000)) (ak (aK (bf rfl))))))))))
theorem rE {q:Char} (h:Sc t b0 B S D H F P st aj aR ws aL ax aQ) (x:bc t (c::r)) (hg:skipGaps (c::r)=c::r) (hc:term c=false) (hb:¬((b0||decide (0<st.length))=true∧c=']')) (xq:bc t (q::c::r))
  (hst:EV (ay W n) ⟨dY t B F (ps t (c::r)) c aR none,H⟩ fg (.bool false) ⟨dY t B F (ps t (c::r)) c aR none,H⟩):
  ay W (n+1) .lInScript [.ref B,.int (ps t (c::r))] H=some (.ok (.int (ps t (c::r))),H.set B (.dict (DF t b0 S D (if q='"' then tv else sS)))):=by
 have t5:EV (ay W n) ⟨dY t B F (ps t (c::r)) c aR (some (.bool false)),H⟩ (.cmp .eq (.idx (.loc 2) (.bin .sub (.loc 1) (.int 1))) (.str ['"'])) (.bool ([q]==['"'])) ⟨dY t B F (ps t (c::r)) c aR (some (.bool false)),H⟩:=by
  have gv:=ki (H:=H) xq.at
  rw[show ps t (q::c::r)=ps t (c::r)-1 by rw[←bC (t:=t) (c:=q) (s:=c::r)];omega]at gv
  exact aH (EV.idx (EV.loc rfl) (EV.bin (EV.loc rfl) EV.int rfl) gv)
 have fl:EV (ay W n) ⟨dY t B F (ps t (c::r)) c aR (some (.bool false)),H⟩ (.bin .add (.str It) (.ite (.cmp .eq (.idx (.loc 2) (.bin .sub (.loc 1) (.int 1))) (.str ['"'])) (.str ['q','u','o','t','e']) (.str ['b','r','a','c','e']))) (.str (if q='"' then tv else sS)) ⟨dY t B F (ps t (c::r)) c aR (some (.bool false)),H⟩:=by
  by_cases hq:q='"'
  ·subst hq
   rw[if_pos rfl]
   exact EV.bin EV.str (EV.iteT t5 EV.str) rfl
  ·rw[bz hq]at t5
   rw[if_neg hq]
   exact EV.bin EV.str (EV.iteF t5 EV.str) rfl
 exact aN (Fu:=bQ) rfl rfl rfl (k7 h x rfl hg hc hst (aa (av (oK h hb) aw) (aa (av gS aw) (ak (av (EV.loc rfl) (ak (aB gS (aa (dL fl rfl h.bk.bk (by decide:(5:Nat)<1000)) (ak (aK (EV.loc rfl)))))))))))
end
end Mine
end
section
namespace Mine
open PySem (PyData)
noncomputable def fw:Ch:=['q','u','o','t','e']
noncomputable def bb:Ch:=['b','r','a','c','e']
noncomputable def bH:Ch:=['b','a','r','e']
noncomputable def fA:Ch:=['i','n','d','e','x']
section
variable {W n:Nat} {t s r e a aT w:Ch} {c:Char} {H H' H1:List O} {Φ:ci} {lo:List (Option V)} {i j:Nat} {v u:V} {vs ws ws0:List V} {es:List (Ch×V)} {k:Ch} {o o':O}
 {b0 sb:Bool} {B S D F P F' P':Nat} {f:Ch} {st done:List V} {aj aL ax:Int} {ai:Ch} {aQ:Bool} {res:R Fl}
noncomputable def ql (t:Ch) (B F:Nat) (at_:Int) (c:Char) (ai:Ch) (sb:Bool) (H H1:List O):Prop:=∀{Φ:ci} {W:Nat} {res:R Fl},bF Φ W (gu 9 cJ) ⟨dY t B F at_ c ai (some (.bool sb)),H1⟩=res→bF Φ W (gu 7 cJ) ⟨dY t B F at_ c ai (some (.bool sb)),H⟩=res
theorem zH {at_:Int} (h:Sc t b0 B S D H F P st aj aJ ws aL ax aQ) (hc:c≠'#'):ql t B F at_ c aJ false H (H.set F (.dict (kt aj aJ P at_ ax aQ))):=by
 intro Φ W res hr
 have t2:=uh (Φ:=Φ) (t:=t) (B:=B) (F:=F) (H:=H) (ai:=aJ) (c:=c) (d:='#') (at_:=at_) (x6:=some (.bool false))
 rw[bz hc]at t2
 exact aa (aB gS (aa (av t2 aw) (ao (dL (EV.loc rfl) rfl h.fr (by decide:(7:Nat)<1000))))) (aa (av (EV.loc rfl) (ao (av gS aw))) hr)
theorem Dw {at_:Int}:ql t B F at_ c fL false H H:=by
 intro Φ W res hr
 exact aa (av gS aw) (aa (av (EV.loc rfl) (ao (av gS aw))) hr)
theorem Bu {at_:Int} {w:V} (h:Sc t b0 B S D H F P st aj aR (ws0++[w]) aL ax aQ) (hl:ws0.length<9000):ql t B F at_ c aR true H ((H.set P (.list ws0)).set F (.dict (kt aj aR P aL ax true))):=by
 intro Φ W res hr
 have h1:eS Φ W (.expr (.pop (.idx (.loc 3) (.str dS)))) ⟨dY t B F at_ c aR (some (.bool true)),H⟩=okR .next ⟨dY t B F at_ c aR (some (.bool true)),H.set P (.list ws0)⟩:=by
  have:=bj (W:=W) (EV.pop (Φ:=Φ) (v:=w) (bS (EV.loc (σ:=⟨dY t B F at_ c aR (some (.bool true)),H⟩) (i:=3) rfl) h.fr (k:=dS) rfl) (aE h.wl) (by simp) (kT (by omega)))
  simpa using this
 exact aa (av gS aw) (aa (aB (EV.loc rfl) (aa h1 (ao (dL EV.bool rfl h.updW.fr (by decide:(7:Nat)<1000))))) hr)
theorem m8 (h:Sc t b0 B S D H F P st aj ai ws aL ax aQ) (x:bc t (c::r)) (hs:(ai==be)=false) (hg:skipGaps (c::r)=c::r) (hc:term c=false) (hb:¬((b0||decide (0<st.length))=true∧c=']'))
  (hst:∀{Φ:ci},EV Φ ⟨dY t B F (ps t (c::r)) c ai none,H⟩ fg (.bool sb) ⟨dY t B F (ps t (c::r)) c ai none,H⟩) (hp:ql t B F (ps t (c::r)) c ai sb H H1) (bk:Bk t b0 B S D H1 [] (st++[.ref F])) (hl:st.length<7000):
  ∃H',ay W (n+2) .lInScript [.ref B,.int (ps t (c::r))] H=some (.ok (.int (if c='"'∨c='{' then ps t r else ps t (c::r))),H')∧Bk t b0 B S D H' [] (st++[.ref F]++[.ref H1.length])∧Ag [S] H1 H'∧
   H'[H1.length]? =some (.dict (lR (if c='"' then fw else if c='{' then bb else bH) (if c='"'∨c='{' then ps t r else ps t (c::r)) (H1.length+1) [] 1))∧H'[H1.length+1]? =some (.list []):=by
 have q1:=uh (Φ:=ay W (n+1)) (t:=t) (B:=B) (F:=F) (H:=H1) (ai:=ai) (c:=c) (d:='"') (at_:=ps t (c::r)) (x6:=some (.bool sb))
 have q2:=uh (Φ:=ay W (n+1)) (t:=t) (B:=B) (F:=F) (H:=H1) (ai:=ai) (c:=c) (d:='{') (at_:=ps t (c::r)) (x6:=some (.bool sb))
 have head:∀{res:R Fl},bF (ay W (n+1)) W (gu 9 cJ) ⟨dY t B F (ps t (c::r)) c ai (some (.bool sb)),H1⟩=res→bF (ay W (n+1)) W cJ ⟨[some (.ref B),some (.int (ps t (c::r))),none,none,none,none,none],H⟩=res:=fun hr=>
  k7 h x hs hg hc hst (aa (av (oK h hb) aw) (hp hr))
 by_cases c1:c='"'
 ·subst c1
  obtain⟨H',o1,o2,o3,o4,o5⟩:=ix (W:=W) (n:=n) (kind:=fw) (name:=[]) (p:=ps t r) bk (kT (by omega))
  refine⟨H',aN (Fu:=bQ) rfl rfl rfl (head (ak (aB (EV.orT q1) (aa (bj (EV.call (aq.cons (EV.loc rfl) (aq.cons (EV.iteT q1 EV.str) (aq.cons (bf rfl) (aq.cons EV.str aq.nil)))) o1)) (ak (aK (bf rfl))))))),o2,o3,o4,o5⟩
 ·rw[bz c1]at q1
  by_cases c2:c='{'
  ·subst c2
   obtain⟨H',o1,o2,o3,o4,o5⟩:=ix (W:=W) (n:=n) (kind:=bb) (name:=[]) (p:=ps t r) bk (kT (by omega))
   refine⟨H',aN (Fu:=bQ) rfl rfl rfl (head (ak (aB (EV.orF q1 (EV.or1 q2)) (aa (bj (EV.call (aq.cons (EV.loc rfl) (aq.cons (EV.iteF q1 EV.str) (aq.cons (bf rfl) (aq.cons EV.str aq.nil)))) o1)) (ak (aK (bf rfl))))))),o2,o3,o4,o5⟩
  ·rw[bz c2]at q2
   have nc:¬(c='"'∨c='{'):=fun q=>q.elim c1 c2
   obtain⟨H',o1,o2,o3,o4,o5⟩:=ix (W:=W) (n:=n) (kind:=bH) (name:=[]) (p:=ps t (c::r)) bk (kT (by omega))
   rw[if_neg nc,if_neg c1,if_neg c2]
   exact⟨H',aN (Fu:=bQ) rfl rfl rfl (head (aa (av (EV.orF q1 (EV.or1 q2)) aw) (aa (bj (EV.call (aq.cons (EV.loc rfl) (aq.cons EV.str (aq.cons (EV.loc rfl) (aq.cons EV.str aq.nil)))) o1)) (ak (aK (EV.loc rfl)))))),o2,o3,o4,o5⟩
theorem Pt.upd {kind name:Ch} {p d d':Int} {us:List V} (h:Pt t b0 B S D H F P st kind p name d us):Pt t b0 B S D (H.set F (.dict (lR kind p P name d'))) F P st kind p name d' us:=
 ⟨⟨by rw[aO h.FB];exact h.bk.bk,by rw[aO h.FS];exact h.bk.sk,h.bk.BS,h.bk.SD,(iV h.bk.DH),h.bk.len⟩,cS (bD h.fr),by rw[aO (Ne.symm h.PF)];exact h.wl,h.FB,h.FS,h.FD,h.PB,h.PS,h.PD,h.PF⟩
theorem Pt.updW {kind name:Ch} {p d:Int} {us us':List V} (h:Pt t b0 B S D H F P st kind p name d us):Pt t b0 B S D (H.set P (.list us')) F P st kind p name d us':=
 ⟨⟨by rw[aO h.PB];exact h.bk.bk,by rw[aO h.PS];exact h.bk.sk,h.bk.BS,h.bk.SD,(iV h.bk.DH),h.bk.len⟩,by rw[aO h.PF];exact h.fr,cS (bD h.wl),h.FB,h.FS,h.FD,h.PB,h.PS,h.PD,h.PF⟩
noncomputable def vv (t:Ch) (B F:Nat) (at_:Int) (c:Char) (x5 x6:Option V):List (Option V):=[some (.ref B),some (.int at_),some (.str t),some (.ref F),some (.str [c]),x5,x6]
section
variable {name:Ch} {p:Int} {dep:Int}
theorem iJ {us:List V} (h:Pt t b0 B S D H F P st bb p name dep us) (x:bc t (c::r)) (hs:bF Φ W (gu 2 jn) ⟨vv t B F (ps t (c::r)) c none none,H⟩=res):
  bF Φ W jn ⟨[some (.ref B),some (.int (ps t (c::r))),none,none,none,none,none],H⟩=res:=
 aa (cK (EV.tup (aq.cons (h.bk.textE rfl) (aq.cons (h.bk.topE rfl) aq.nil))) rfl (cn (show(2:Nat)<7 by decide) (show(3:Nat)<7 by decide)))
  (aa (aV (dZ (i:=1) (j:=2) x rfl rfl) (show(4:Nat)<7 by decide)) hs)
theorem lu {d:Char} {at_:Int} {x5 x6:Option V}:EV Φ ⟨vv t B F at_ c x5 x6,H⟩ (.cmp .eq (.loc 4) (.str [d])) (.bool ([c]==[d])) ⟨vv t B F at_ c x5 x6,H⟩:=aH (EV.loc rfl)
theorem yR (h:Pt t b0 B S D H F P st bb p name dep (aS [] aT)) (x:bc t ('\\'::c::r)) (hc:c≠'\n') (hr:aT.length<9000):
  ay W (n+2) .lInBraces [.ref B,.int (ps t ('\\'::c::r))] H=some (.ok (.int (ps t r)),H.set P (.list (aS [] (aT++['\\',c])))):=by
 have ad:=eu (W:=W) (n:=n) (l:=['\\',c]) h.fr h.wl (.inl rfl) (by simp) (Nat.zero_lt_succ _) (show aT.length+2≤20000 by omega)
 have t1:EV (ay W (n+1)) ⟨vv t B F (ps t ('\\'::c::r)) '\\' none none,H⟩ (.cmp .eq (.slc (.loc 2) (.bin .add (.loc 1) (.int 1)) (.bin .add (.loc 1) (.int 2))) (.str ['\n'])) (.bool ([c]==['\n'])) ⟨vv t B F (ps t ('\\'::c::r)) '\\' none none,H⟩:=aH (gO (i:=1) (j:=2) x rfl rfl)
 rw[bz hc]at t1
 exact aN (Fu:=c7) rfl rfl rfl (iJ h x (ak (aB lu (aa (av t1 aw) (aa (bj (EV.call (aq.cons (EV.loc rfl) (aq.cons (cG (i:=1) (j:=2) (m:=2) x rfl rfl) aq.nil)) ad)) (ak (aK (mh rfl))))))))
theorem vz (h:Pt t b0 B S D H F P st bb p name dep (aS [] aT)) (x:bc t ['\\']) (hr:aT.length<9000):
  ay W (n+2) .lInBraces [.ref B,.int (ps t ['\\'])] H=some (.ok (.int (ps t ['\\']+2)),H.set P (.list (aS [] (aT++['\\'])))):=by
 have ad:=eu (W:=W) (n:=n) (l:=['\\']) h.fr h.wl (.inl rfl) (List.cons_ne_nil _ _) (Nat.zero_lt_succ _) (show aT.length+1≤20000 by omega)
 have t1:EV (ay W (n+1)) ⟨vv t B F (ps t ['\\']) '\\' none none,H⟩ (.cmp .eq (.slc (.loc 2) (.bin .add (.loc 1) (.int 1)) (.bin .add (.loc 1) (.int 2))) (.str ['\n'])) (.bool false) ⟨vv t B F (ps t ['\\']) '\\' none none,H⟩:=aH (gO (i:=1) (j:=2) x rfl rfl)
 exact aN (Fu:=c7) rfl rfl rfl (iJ h x (ak (aB lu (aa (av t1 aw) (aa (bj (EV.call (aq.cons (EV.loc rfl) (aq.cons (cG (i:=1) (j:=2) (m:=2) x rfl rfl) aq.nil)) ad)) (ak (aK (EV.bin (EV.loc rfl) EV.int rfl))))))))
theorem zf (h:Pt t b0 B S D H F P st bb p name dep (aS [] aT)) (x:bc t ('\\'::'\n'::r)) (hr:aT.length<9000) (hW:10002<W):
  ay W (n+2) .lInBraces [.ref B,.int (ps t ('\\'::'\n'::r))] H=some (.ok (.int (ps t (bJ r))),H.set P (.list (aS [] (aT++[' '])))):=by
 have ad:=eu (W:=W) (n:=n) (l:=[' ']) h.fr h.wl (.inl rfl) (List.cons_ne_nil _ _) (Nat.zero_lt_succ _) (show aT.length+1≤20000 by omega)
 have t1:EV (ay W (n+1)) ⟨vv t B F (ps t ('\\'::'\n'::r)) '\\' none none,H⟩ (.cmp .eq (.slc (.loc 2) (.bin .add (.loc 1) (.int 1)) (.bin .add (.loc 1) (.int 2))) (.str ['\n'])) (.bool true) ⟨vv t B F (ps t ('\\'::'\n'::r)) '\\' none none,H⟩:=aH (gO (i:=1) (j:=2) x rfl rfl)
 have lb:=qI (W:=W) (n:=n) (H:=H) x hW
 rw[show cE ('\n'::r)=([' '],bJ r) by rw[cE,if_pos rfl]]at lb
 have a1:eS (ay W (n+1)) W (.asgT [.loc 5,.loc 6] (.call .lBent (.cons (.loc 2) (.cons (.loc 1) .nil)))) ⟨vv t B F (ps t ('\\'::'\n'::r)) '\\' none none,H⟩=okR .next ⟨vv t B F (ps t ('\\'::'\n'::r)) '\\' (some (.str [' '])) (some (.int (ps t (bJ r)))),H⟩:=
  cK (EV.callP (aq.cons (EV.loc rfl) (aq.cons (EV.loc rfl) aq.nil)) lb) rfl (cn (show(5:Nat)<7 by decide) (show(6:Nat)<7 by decide))
 exact aN (Fu:=c7) rfl rfl rfl (iJ h x (ak (aB lu (ak (aB t1 (aa a1 (aa (bj (EV.call (aq.cons (EV.loc rfl) (aq.cons (EV.loc rfl) aq.nil)) ad)) (ak (aK (EV.loc rfl))))))))))
theorem rR (h:Pt t b0 B S D H F P st bb p name dep (aS [] aT)) (x:bc t (c::r)) (hc:ch c=true) (hr:aT.length<9000):
  ay W (n+2) .lInBraces [.ref B,.int (ps t (c::r))] H=some (.ok (.int (ps t r)),H.set P (.list (aS [] (aT++[c])))):=by
 obtain⟨h1,h2,h3⟩:=dR.mp hc
 have ad:=eu (W:=W) (n:=n) (l:=[c]) h.fr h.wl (.inl rfl) (List.cons_ne_nil _ _) (Nat.zero_lt_succ _) (show aT.length+1≤20000 by omega)
 have c1:=lu (Φ:=ay W (n+1)) (t:=t) (B:=B) (F:=F) (H:=H) (c:=c) (d:='{') (at_:=ps t (c::r)) (x5:=none) (x6:=none)
 have c2:=lu (Φ:=ay W (n+1)) (t:=t) (B:=B) (F:=F) (H:=H) (c:=c) (d:='}') (at_:=ps t (c::r)) (x5:=none) (x6:=none)
 have c3:=lu (Φ:=ay W (n+1)) (t:=t) (B:=B) (F:=F) (H:=H) (c:=c) (d:='\\') (at_:=ps t (c::r)) (x5:=none) (x6:=none)
 rw[bz h1]at c1
 rw[bz h2]at c2
 rw[bz h3]at c3
 exact aN (Fu:=c7) rfl rfl rfl (iJ h x (aa (av c3 aw) (aa (av c1 (ao (av c2 aw))) (aa (bj (EV.call (aq.cons (EV.loc rfl) (aq.cons (EV.loc rfl) aq.nil)) ad)) (ak (aK (bf rfl)))))))
theorem sA {op:m7} {d:Int} {us:List V} {at_:Int} (h:Pt t b0 B S D H F P st bb p name dep us) (hd:hK op (.int dep) (.int 1)=some (.int d)):
  eS Φ W (.augS (.loc 3) (.str nO) op (.int 1)) ⟨vv t B F at_ c none none,H⟩=okR .next ⟨vv t B F at_ c none none,H.set F (.dict (lR bb p P name d))⟩:=by
 refine FW (EV.loc rfl) EV.str (old:=.int dep) ?_ EV.int hd (o7 h.fr (by decide:(5:Nat)<1000))
 exact nU (tx h.fr) rfl
theorem uH (h:Pt t b0 B S D H F P st bb p name dep (aS [] aT)) (x:bc t ('{'::r)) (hr:aT.length<9000):
  ay W (n+2) .lInBraces [.ref B,.int (ps t ('{'::r))] H=some (.ok (.int (ps t r)),(H.set F (.dict (lR bb p P name (dep+1)))).set P (.list (aS [] (aT++['{'])))):=by
 have h':=h.upd (d':=dep+1)
 have ad:=eu (W:=W) (n:=n) (l:=['{']) h'.fr h'.wl (.inl rfl) (List.cons_ne_nil _ _) (Nat.zero_lt_succ _) (show aT.length+1≤20000 by omega)
 exact aN (Fu:=c7) rfl rfl rfl (iJ h x (aa (av lu aw) (aa (aB lu (ao (sA h rfl))) (aa (bj (EV.call (aq.cons (EV.loc rfl) (aq.cons (EV.loc rfl) aq.nil)) ad)) (ak (aK (bf rfl)))))))
theorem Ct {us:List V} {at_:Int} (h:Pt t b0 B S D H F P st bb p name dep us):EV Φ ⟨vv t B F at_ c none none,H⟩ (.cmp .eq (.idx (.loc 3) (.str nO)) (.int 0)) (.bool (decide (dep=0))) ⟨vv t B F at_ c none none,H⟩:=EV.cmp (bS (EV.loc rfl) h.fr rfl) EV.int hG
theorem rk (h:Pt t b0 B S D H F P st bb p name dep (aS [] aT)) (x:bc t ('}'::r)) (hr:aT.length<9000) (hd:dep≠1):
  ay W (n+2) .lInBraces [.ref B,.int (ps t ('}'::r))] H=some (.ok (.int (ps t r)),(H.set F (.dict (lR bb p P name (dep-1)))).set P (.list (aS [] (aT++['}'])))):=by
 have h':=h.upd (d':=dep-1)
 have ad:=eu (W:=W) (n:=n) (l:=['}']) h'.fr h'.wl (.inl rfl) (List.cons_ne_nil _ _) (Nat.zero_lt_succ _) (show aT.length+1≤20000 by omega)
 have z:=Ct (Φ:=ay W (n+1)) (c:='}') (at_:=ps t ('}'::r)) h'
 rw[decide_eq_false (by omega)]at z
 exact aN (Fu:=c7) rfl rfl rfl (iJ h x (aa (av lu aw) (aa (av lu (ao (aB lu (aa (sA h rfl) (ao (av z aw)))))) (aa (bj (EV.call (aq.cons (EV.loc rfl) (aq.cons (EV.loc rfl) aq.nil)) ad)) (ak (aK (bf rfl)))))))
inductive kA (W:Nat) (n:Nat) (t:Ch) (r:Ch) (H:List O) (ws:List V) (b0:Bool) (B:Nat) (S:Nat) (D:Nat) (F:Nat) (st:List V) (aj:Int) (aL:Int) (aQ:Bool) (Fs:Nat) (Ps:Nat) (us:List V):Prop
 |mk:∀H',ay W (n+2) .lInBraces [.ref B,.int (ps t ('}'::r))] H=some (.ok (.int (ps t r)),H')→Sc t b0 B S D H' Fs Ps st aj aR (ws++[wd aQ us]) aL (ps t r) false→Ag [F,S,Fs,Ps] H H'→kA W n t r H ws b0 B S D F st aj aL aQ Fs Ps us
theorem u9 {Fs Ps:Nat} {us:List V} (h:Pt t b0 B S D H F P (st++[.ref Fs]) bb p name 1 us) (x:bc t ('}'::r)) (hs:Sc t b0 B S D ((H.set F (.dict (lR bb p P name 0))).set S (.list (st++[.ref Fs]))) Fs Ps st aj ai ws aL ax aQ) (hz:us.length<9000) (hw:ws.length<9000):
  kA W n t r H ws b0 B S D F st aj aL aQ Fs Ps us:=by
 have h':=h.upd (d':=0)
 have z:=Ct (Φ:=ay W (n+1)) (c:='}') (at_:=ps t ('}'::r)) h'
 obtain⟨H',k1,k2,k3⟩:=ez (W:=W) (n:=n) (state':=aR) (beh:=ps t r) hs h'.bk h'.fr h'.wl h.FS h.PS hz hw
 refine⟨H',aN (Fu:=c7) rfl rfl rfl (iJ h x (aa (av lu aw) (ak (av lu (ak (aB lu (aa (sA h rfl) (ak (aB z (aa (bj (EV.call (aq.cons (EV.loc rfl) (aq.cons (bf rfl) (aq.cons EV.str aq.nil))) k1)) (ak (aK (bf rfl))))))))))))),k2,?_⟩
 exact Ag.trans (Ag.set (X:=[F]) (.head _)) k3 (sC (.head _) sZ) (sC eJ (sC jp (sC mQ sZ)))
theorem lL {us:List V} {kind:Ch} (h:Pt t b0 B S D H F P st kind p name dep us) (x:bc t (c::r)) (hc:c≠'}'):ay W (n+1) .lInName [.ref B,.int (ps t (c::r))] H=some (.ok (.int (ps t r)),H):=by
 have t1:EV (ay W n) ⟨[some (.ref B),some (.int (ps t (c::r))),none],H⟩ (.cmp .eq (.idx (.idx (.loc 0) (.str kE)) (.loc 1)) (.str ['}'])) (.bool ([c]==['}'])) ⟨[some (.ref B),some (.int (ps t (c::r))),none],H⟩:=aH (EV.idx (h.bk.textE rfl) (EV.loc rfl) (ki x.at))
 rw[bz hc]at t1
 exact aN (Fu:=mT) rfl rfl rfl (aa (av t1 aw) (ak (aK (bf rfl))))
theorem sU {us qs:List V} {kind kind' name' q:Ch} {Fp Pp:Nat} {p' dep':Int} (h:Pt t b0 B S D H F P (st++[.ref Fp]) kind (ps t s) name dep us) (x:bc t ('}'::r)) (hq:s=q++'}'::r) (xs:bc t s)
  (hF:H[Fp]? =some (.dict (lR kind' p' Pp name' dep'))) (hP:H[Pp]? =some (.list qs)) (n1:Fp≠S) (n2:Pp≠S) (n3:Pp≠B) (n4:Pp≠D) (hqs:qs.length<9000):
  ay W (n+1) .lInName [.ref B,.int (ps t ('}'::r))] H=some (.ok (.int (ps t r)),(H.set S (.list (st++[.ref Fp]))).set Pp (.list (qs++[vr q .none]))):=by
 have t1:EV (ay W n) ⟨[some (.ref B),some (.int (ps t ('}'::r))),none],H⟩ (.cmp .eq (.idx (.idx (.loc 0) (.str kE)) (.loc 1)) (.str ['}'])) (.bool true) ⟨[some (.ref B),some (.int (ps t ('}'::r))),none],H⟩:=aH (EV.idx (h.bk.textE rfl) (EV.loc rfl) (ki x.at))
 have bp:=h.bk.popped
 have g1:(H.set S (.list (st++[.ref Fp])))[Fp]? =some (.dict (lR kind' p' Pp name' dep')):=by rw[aO (Ne.symm n1)];exact hF
 have g2:(H.set S (.list (st++[.ref Fp])))[Pp]? =some (.list qs):=by rw[aO (Ne.symm n2)];exact hP
 have g3:(H.set S (.list (st++[.ref Fp])))[F]? =some (.dict (lR kind (ps t s) P name dep)):=by rw[aO (Ne.symm h.FS)];exact h.fr
 have hc:EV (ay W n) ⟨[some (.ref B),some (.int (ps t ('}'::r))),some (.ref F)],H.set S (.list (st++[.ref Fp]))⟩ (.slc (.idx (.loc 0) (.str kE)) (.idx (.loc 2) (.str gd)) (.loc 1)) (.str q) ⟨[some (.ref B),some (.int (ps t ('}'::r))),some (.ref F)],H.set S (.list (st++[.ref Fp]))⟩:=by
  have:=EV.slc (Φ:=ay W n) (σ:=⟨[some (.ref B),some (.int (ps t ('}'::r))),some (.ref F)],H.set S (.list (st++[.ref Fp]))⟩) (bp.textE (i:=0) rfl) (bS (EV.loc (i:=2) rfl) g3 (k:=gd) rfl) (EV.loc (i:=1) rfl) x.at.lim
  rw[hq]at xs
  rwa[hq,iZ xs x]at this
 exact aN (Fu:=mT) rfl rfl rfl (aa (aB t1 (aa (aV (CM h.bk rfl) (show(2:Nat)<3 by decide)) (ao (bj (EV.append (bS (bp.topE rfl) g1 rfl) (aE g2) (EV.tup (aq.cons EV.str (aq.cons hc (aq.cons EV.none aq.nil)))) (aE g2) (by omega)))))) (ak (aK (bf rfl))))
end
end
end Mine
end
section
namespace Mine
open PySem (PyData)
noncomputable def Kd.name:Kd→Ch
 | .bare _=>bH
 | .quote=>fw
 | .paren=>fA
section
variable {W n:Nat} {t s r e a aT w:Ch} {c:Char} {H H' H1:List O} {Φ:ci} {lo:List (Option V)} {i j:Nat} {v u:V} {vs ws us acc:List V} {es:List (Ch×V)} {k:Kd} {o o':O}
 {b0 sb:Bool} {B S D F P F' P':Nat} {f nm:Ch} {st done:List V} {aj aL ax p dep:Int} {ai:Ch} {aQ:Bool} {res:R Fl}
noncomputable def zd (t:Ch) (B F:Nat) (at_:Int) (c:Char) (kn:Ch) (x6 x7 x8:Option V):List (Option V):=[some (.ref B),some (.int at_),some (.str t),some (.ref F),some (.str [c]),some (.str kn),x6,x7,x8]
noncomputable def qe (b0:Bool) (st:List V):Kd→Prop
 | .bare b=>b=(b0||decide (1<st.length))
 |_=>True
theorem jY (h:Pt t b0 B S D H F P st k.name p nm dep us) (x:bc t (c::r)) (hs:bF Φ W (gu 2 gy) ⟨zd t B F (ps t (c::r)) c k.name none none none,H⟩=res):
  bF Φ W gy ⟨[some (.ref B),some (.int (ps t (c::r))),none,none,none,none,none,none,none],H⟩=res:=
 aa (cK (EV.tup (aq.cons (h.bk.textE rfl) (aq.cons (h.bk.topE rfl) aq.nil))) rfl (cn (show(2:Nat)<9 by decide) (show(3:Nat)<9 by decide)))
  (aa (cK (EV.tup (aq.cons (dZ (i:=1) (j:=2) x rfl rfl) (aq.cons (bS (EV.loc rfl) h.fr rfl) aq.nil))) rfl (cn (show(4:Nat)<9 by decide) (show(5:Nat)<9 by decide))) hs)
theorem mf {d:Char} {at_:Int} {kn:Ch} {x6 x7 x8:Option V}:EV Φ ⟨zd t B F at_ c kn x6 x7 x8,H⟩ (.cmp .eq (.loc 4) (.str [d])) (.bool ([c]==[d])) ⟨zd t B F at_ c kn x6 x7 x8,H⟩:=aH (EV.loc rfl)
theorem kS {l:Ch} {at_:Int} {kn:Ch} {x6 x7 x8:Option V}:EV Φ ⟨zd t B F at_ c kn x6 x7 x8,H⟩ (.cmp .eq (.loc 5) (.str l)) (.bool (kn==l)) ⟨zd t B F at_ c kn x6 x7 x8,H⟩:=aH (EV.loc rfl)
noncomputable def eI (b:Bool) (c:Char) (r:Ch):Bool:=(gw b).contains [c]||((c::r).take 2==['\\','\n'])
noncomputable def F8:E:=(.or (.cons (.cmp .inn (.loc 4) (.str [' ','\t','\x0b','\x0c','\r','\n',';'])) (.cons (.cmp .eq (.slc (.loc 2) (.loc 1) (.bin .add (.loc 1) (.int 2))) (.str ['\\','\n'])) (.cons (.and (.cons (.cmp .eq (.loc 4) (.str [']'])) (.cons (.loc 6) .nil))) .nil))))
theorem Jt {σ:St} {x y z:E} {p q r:Bool} (h1:EV Φ σ x (.bool p) σ) (h2:EV Φ σ y (.bool q) σ) (h3:EV Φ σ z (.bool r) σ):EV Φ σ (.or (.cons x (.cons y (.cons z .nil)))) (.bool (p||(q||r))) σ:=by
 cases p with
 |true=>exact EV.orT h1
 |false=>cases q with
  |true=>exact EV.orF h1 (EV.orT h2)
  |false=>exact EV.orF h1 (EV.orF h2 (EV.or1 h3))
theorem HU:∀(l:Ch),(l.map fun d=>[d]).contains [c]=l.contains c
 |[]=>rfl
 |d::l=>by rw[List.map_cons,List.contains_cons,List.contains_cons,HU l];exact congrArg (· ||_) (Bool.and_true _)
theorem xB {b:Bool} {kn:Ch} {x7 x8:Option V} (x:bc t (c::r)):EV Φ ⟨zd t B F (ps t (c::r)) c kn (some (.bool b)) x7 x8,H⟩ F8 (.bool (eI b c r)) ⟨zd t B F (ps t (c::r)) c kn (some (.bool b)) x7 x8,H⟩:=by
 have h:=Jt (Φ:=Φ) (σ:=⟨zd t B F (ps t (c::r)) c kn (some (.bool b)) x7 x8,H⟩) (EV.cmp (op:=.inn) (x:=.str [c]) (y:=.str [' ','\t','\x0b','\x0c','\r','\n',';']) (r:=([' ','\t','\x0b','\x0c','\r','\n',';']:Ch).contains c) (EV.loc (i:=4) rfl) EV.str rfl) (aH (b:=['\\','\n']) (cG (i:=1) (j:=2) (m:=2) x rfl rfl)) (EV.and2 (mf (d:=']')) fun _=>EV.loc (i:=6) rfl)
 have e:(([' ','\t','\x0b','\x0c','\r','\n',';']:Ch).contains c||(((c::r).take 2==['\\','\n'])||([c]==[']']&&b)))=eI b c r:=by
  have hs:(gw b).contains [c]=(([' ','\t','\x0b','\x0c','\r','\n',';']:Ch).contains c||([c]==[']']&&b)):=by
   rw[gw,List.contains_append]
   refine congr (congrArg or (HU [' ','\t','\x0b','\x0c','\r','\n',';'])) ?_
   cases b with
   |false=>exact(Bool.and_false _).symm
   |true=>exact(Bool.or_false _).trans (Bool.and_true _).symm
  rw[eI,hs,Bool.or_assoc,Bool.or_comm (_&&b)]
 rwa[e]at h
theorem uR (h:Pt t b0 B S D H F P st bH p nm dep us) {at_:Int} {x6 x7 x8:Option V}:eS Φ W (.asg 6 (.or (.cons (.idx (.loc 0) (.str kO)) (.cons (.cmp .gt (.len (.idx (.loc 0) (.str b5))) (.int 2)) .nil)))) ⟨zd t B F at_ c bH x6 x7 x8,H⟩=okR .next ⟨zd t B F at_ c bH (some (.bool (b0||decide (1<st.length)))) x7 x8,H⟩:=by
 refine aV (EV.or2 (h.bk.nestE rfl) fun _=>EV.cmp (h.bk.lenE rfl) EV.int ?_) (show(6:Nat)<9 by decide)
 show some (decide (((st++[V.ref F]).length:Int)>2))=_
 congr 1
 rw[decide_eq_decide]
 simp only[List.length_append,List.length_cons,List.length_nil];omega
inductive kB (W:Nat) (n:Nat) (t:Ch) (r:Ch) (c:Char) (H:List O) (ws:List V) (us:List V) (b0:Bool) (B:Nat) (S:Nat) (D:Nat) (st:List V) (aj:Int) (aL:Int) (aQ:Bool) (Fs:Nat) (Ps:Nat):Prop
 |mk:∀H',ay W (n+2) .lInParts [.ref B,.int (ps t (c::r))] H=some (.ok (.int (ps t (c::r))),H')→Sc t b0 B S D H' Fs Ps st aj fL (ws++[wd aQ us]) aL (ps t (c::r)) false→Ag [S,Fs,Ps] H H'→kB W n t r c H ws us b0 B S D st aj aL aQ Fs Ps
theorem uI {b:Bool} {Fs Ps:Nat} (h:Pt t b0 B S D H F P (st++[.ref Fs]) bH p nm dep us) (hb:b=(b0||decide (0<st.length))) (x:bc t (c::r)) (hc:eI b c r=true) (hs:Sc t b0 B S D (H.set S (.list (st++[.ref Fs]))) Fs Ps st aj ai ws aL ax aQ) (hz:us.length<9000) (hw:ws.length<9000):
  kB W n t r c H ws us b0 B S D st aj aL aQ Fs Ps:=by
 obtain⟨H',k1,k2,k3⟩:=ez (W:=W) (n:=n) (state':=fL) (beh:=ps t (c::r)) hs h.bk h.fr h.wl h.FS h.PS hz hw
 have t1:=xB (Φ:=ay W (n+1)) (B:=B) (F:=F) (H:=H) (b:=b) (kn:=bH) (x7:=none) (x8:=none) x
 rw[hc]at t1
 have hb':(b0||decide (1<(st++[V.ref Fs]).length))=b:=by
  rw[hb];congr 1;rw[decide_eq_decide];simp only[List.length_append,List.length_cons,List.length_nil];omega
 have inn:=uR (Φ:=ay W (n+1)) (W:=W) (c:=c) h (at_:=ps t (c::r)) (x6:=none) (x7:=none) (x8:=none)
 rw[hb']at inn
 exact⟨H',aN (Fu:=dN) rfl rfl rfl (jY (k:=.bare b) h x (ak (aB kS (aa inn (ak (aB t1 (aa (bj (EV.call (aq.cons (EV.loc rfl) (aq.cons (EV.loc rfl) (aq.cons EV.str aq.nil))) k1)) (ak (aK (EV.loc rfl)))))))))),k2,k3⟩
inductive jA (W:Nat) (n:Nat) (t:Ch) (r:Ch) (H:List O) (ws:List V) (us:List V) (b0:Bool) (B:Nat) (S:Nat) (D:Nat) (st:List V) (aj:Int) (aL:Int) (aQ:Bool) (Fs:Nat) (Ps:Nat):Prop
 |mk:∀H',ay W (n+2) .lInParts [.ref B,.int (ps t ('"'::r))] H=some (.ok (.int (ps t r)),H')→Sc t b0 B S D H' Fs Ps st aj aR (ws++[wd aQ us]) aL (ps t r) false→Ag [S,Fs,Ps] H H'→jA W n t r H ws us b0 B S D st aj aL aQ Fs Ps
theorem sm {Fs Ps:Nat} (h:Pt t b0 B S D H F P (st++[.ref Fs]) fw p nm dep us) (x:bc t ('"'::r)) (hs:Sc t b0 B S D (H.set S (.list (st++[.ref Fs]))) Fs Ps st aj ai ws aL ax aQ) (hz:us.length<9000) (hw:ws.length<9000):
  jA W n t r H ws us b0 B S D st aj aL aQ Fs Ps:=by
 obtain⟨H',k1,k2,k3⟩:=ez (W:=W) (n:=n) (state':=aR) (beh:=ps t r) hs h.bk h.fr h.wl h.FS h.PS hz hw
 exact⟨H',aN (Fu:=dN) rfl rfl rfl (jY (k:=.quote) h x (aa (av kS aw) (ak (aB (EV.andT kS (EV.and1 mf)) (aa (bj (EV.call (aq.cons (EV.loc rfl) (aq.cons (bf rfl) (aq.cons EV.str aq.nil))) k1)) (ak (aK (bf rfl)))))))),k2,k3⟩
theorem th {Fp Pp:Nat} {kind' name':Ch} {p' dep':Int} {qs:List V} (h:Pt t b0 B S D H F P (st++[.ref Fp]) fA p nm dep us) (x:bc t (')'::r))
  (hF:H[Fp]? =some (.dict (lR kind' p' Pp name' dep'))) (hP:H[Pp]? =some (.list qs)) (n1:Fp≠S) (n2:Pp≠S) (hz:us.length<9000) (hqs:qs.length<9000):
  ay W (n+1) .lInParts [.ref B,.int (ps t (')'::r))] H=some (.ok (.int (ps t r)),(H.set S (.list (st++[.ref Fp]))).set Pp (.list (qs++[vr nm (.tup us)]))):=by
 have bp:=h.bk.popped
 have g1:(H.set S (.list (st++[.ref Fp])))[Fp]? =some (.dict (lR kind' p' Pp name' dep')):=by rw[aO (Ne.symm n1)];exact hF
 have g2:(H.set S (.list (st++[.ref Fp])))[Pp]? =some (.list qs):=by rw[aO (Ne.symm n2)];exact hP
 have g3:(H.set S (.list (st++[.ref Fp])))[F]? =some (.dict (lR fA p P nm dep)):=by rw[aO (Ne.symm h.FS)];exact h.fr
 have g4:(H.set S (.list (st++[.ref Fp])))[P]? =some (.list us):=by rw[aO (Ne.symm h.PS)];exact h.wl
 exact aN (Fu:=dN) rfl rfl rfl (jY (k:=.paren) h x (aa (av kS aw) (aa (av (EV.andF kS) aw) (ak (aB (EV.andT kS (EV.and1 mf)) (aa (bj (CM h.bk rfl)) (aa (bj (EV.append (bS (bp.topE rfl) g1 rfl) (aE g2) (EV.tup (aq.cons EV.str (aq.cons (bS (EV.loc rfl) g3 rfl) (aq.cons (EV.tuple (bS (EV.loc rfl) g3 rfl) (aE g4) (by omega)) aq.nil)))) (aE g2) (by omega))) (ak (aK (bf rfl))))))))))
noncomputable def jG (k:Kd) (c:Char) (r:Ch):Bool:=match k with
 | .bare b=>eI b c r
 |k=>k.stops.contains [c]
theorem yv (h:Pt t b0 B S D H F P st k.name p nm dep us) (hk:qe b0 st k) (x:bc t (c::r)) (hc:jG k c r=false):
  ∃x6,∀{res:R Fl},bF Φ W (gu 5 gy) ⟨zd t B F (ps t (c::r)) c k.name x6 none none,H⟩=res→bF Φ W gy ⟨[some (.ref B),some (.int (ps t (c::r))),none,none,none,none,none,none,none],H⟩=res:=by
 rcases k with b|_|_
 ·have t1:=xB (Φ:=Φ) (B:=B) (F:=F) (H:=H) (b:=b) (kn:=bH) (x7:=none) (x8:=none) x
  rw[show eI b c r=false from hc]at t1
  have inn:=uR (Φ:=Φ) (W:=W) (c:=c) h (at_:=ps t (c::r)) (x6:=none) (x7:=none) (x8:=none)
  rw[show(b0||decide (1<st.length))=b from Eq.symm hk]at inn
  exact⟨some (.bool b),fun hr=>jY (k:=.bare b) h x (aa (aB kS (aa inn (ao (av t1 aw)))) (aa (av (EV.andF kS) aw) (aa (av (EV.andF kS) aw) hr)))⟩
 ·have hq:([c]==['"'])=false:=bz fun q=>by subst q;exact absurd hc (by simp[jG,Kd.stops])
  have t1:=mf (Φ:=Φ) (t:=t) (B:=B) (F:=F) (H:=H) (c:=c) (d:='"') (at_:=ps t (c::r)) (kn:=fw) (x6:=none) (x7:=none) (x8:=none)
  rw[hq]at t1
  exact⟨none,fun hr=>jY (k:=.quote) h x (aa (av kS aw) (aa (av (EV.andT kS (EV.and1 t1)) aw) (aa (av (EV.andF kS) aw) hr)))⟩
 ·have hq:([c]==[')'])=false:=bz fun q=>by subst q;exact absurd hc (by simp[jG,Kd.stops])
  have t1:=mf (Φ:=Φ) (t:=t) (B:=B) (F:=F) (H:=H) (c:=c) (d:=')') (at_:=ps t (c::r)) (kn:=fA) (x6:=none) (x7:=none) (x8:=none)
  rw[hq]at t1
  exact⟨none,fun hr=>jY (k:=.paren) h x (aa (av kS aw) (aa (av (EV.andF kS) aw) (aa (av (EV.andT kS (EV.and1 t1)) aw) hr)))⟩
theorem r9 (h:Pt t b0 B S D H F P st k.name p nm dep (aS acc aT)) (hk:qe b0 st k) (x:bc t (c::r)) (hc:jG k c r=false) (h1:c≠'$') (h2:c≠'[') (h3:c≠'\\') (ha:Ey acc) (hz:acc.length<9000) (hr:aT.length<9000):
  ay W (n+2) .lInParts [.ref B,.int (ps t (c::r))] H=some (.ok (.int (ps t r)),H.set P (.list (aS acc (aT++[c])))):=by
 have ad:=eu (W:=W) (n:=n) (l:=[c]) h.fr h.wl ha (List.cons_ne_nil _ _) hz (show aT.length+1≤20000 by omega)
 obtain⟨x6,go⟩:=yv (Φ:=ay W (n+1)) (W:=W) h hk x hc
 have c1:=mf (Φ:=ay W (n+1)) (t:=t) (B:=B) (F:=F) (H:=H) (c:=c) (d:='$') (at_:=ps t (c::r)) (kn:=k.name) (x6:=x6) (x7:=none) (x8:=none)
 have c2:=mf (Φ:=ay W (n+1)) (t:=t) (B:=B) (F:=F) (H:=H) (c:=c) (d:='[') (at_:=ps t (c::r)) (kn:=k.name) (x6:=x6) (x7:=none) (x8:=none)
 have c3:=mf (Φ:=ay W (n+1)) (t:=t) (B:=B) (F:=F) (H:=H) (c:=c) (d:='\\') (at_:=ps t (c::r)) (kn:=k.name) (x6:=x6) (x7:=none) (x8:=none)
 rw[bz h1]at c1
 rw[bz h2]at c2
 rw[bz h3]at c3
 exact aN (Fu:=dN) rfl rfl rfl (go (aa (av c1 aw) (aa (av c2 aw) (aa (av c3 aw) (aa (bj (EV.call (aq.cons (EV.loc rfl) (aq.cons (EV.loc rfl) aq.nil)) ad)) (ak (aK (bf rfl))))))))
theorem Db (s:Ch):(cE s).1≠[]∧(cE s).1.length≤1:=by
 unfold cE
 split
 ·simp
 ·split<;>simp
theorem uu (h:Pt t b0 B S D H F P st k.name p nm dep (aS acc aT)) (hk:qe b0 st k) (x:bc t ('\\'::r)) (hc:jG k '\\' r=false) (ha:Ey acc) (hz:acc.length<9000) (hr:aT.length<9000) (hW:10002<W):
  ay W (n+2) .lInParts [.ref B,.int (ps t ('\\'::r))] H=some (.ok (.int (ps t (cE r).2)),H.set P (.list (aS acc (aT++(cE r).1)))):=by
 obtain⟨b1,b2⟩:=Db r
 have ad:=eu (W:=W) (n:=n) (l:=(cE r).1) h.fr h.wl ha b1 hz (by omega)
 obtain⟨x6,go⟩:=yv (Φ:=ay W (n+1)) (W:=W) h hk x hc
 have lb:=qI (W:=W) (n:=n) (H:=H) x hW
 have a1:eS (ay W (n+1)) W (.asgT [.loc 7,.loc 8] (.call .lBent (.cons (.loc 2) (.cons (.loc 1) .nil)))) ⟨zd t B F (ps t ('\\'::r)) '\\' k.name x6 none none,H⟩=okR .next ⟨zd t B F (ps t ('\\'::r)) '\\' k.name x6 (some (.str (cE r).1)) (some (.int (ps t (cE r).2))),H⟩:=
  cK (EV.callP (aq.cons (EV.loc rfl) (aq.cons (EV.loc rfl) aq.nil)) lb) rfl (cn (show(7:Nat)<9 by decide) (show(8:Nat)<9 by decide))
 exact aN (Fu:=dN) rfl rfl rfl (go (aa (av mf aw) (aa (av mf aw) (ak (aB mf (aa a1 (aa (bj (EV.call (aq.cons (EV.loc rfl) (aq.cons (EV.loc rfl) aq.nil)) ad)) (ak (aK (EV.loc rfl))))))))))
inductive kX (W:Nat) (n:Nat) (t:Ch) (r:Ch) (H:List O) (b0:Bool) (B:Nat) (S:Nat) (D:Nat) (F:Nat) (st:List V):Prop
 |mk:∀H',ay W (n+2) .lInParts [.ref B,.int (ps t ('['::r))] H=some (.ok (.int (ps t r)),H')→Sc t b0 B S D H' H.length (H.length+1) (st++[.ref F]) (ps t r) aJ [] 0 0 false→Ag [S] H H'→kX W n t r H b0 B S D F st
theorem wB (h:Pt t b0 B S D H F P st k.name p nm dep us) (hk:qe b0 st k) (x:bc t ('['::r)) (hc:jG k '[' r=false) (hl:st.length<8000):
  kX W n t r H b0 B S D F st:=by
 obtain⟨x6,go⟩:=yv (Φ:=ay W (n+1)) (W:=W) h hk x hc
 have hS:=h.bk.SH
 have hB:=bD h.bk.bk
 have bs:=h.bk.BS
 have sd:=h.bk.SD
 have dh:=h.bk.DH
 refine⟨(H++[O.dict (kt (ps t r) aJ (H.length+1) 0 0 false),O.list []]).set S (O.list ((st++[V.ref F])++[V.ref H.length])),aN (Fu:=dN) rfl rfl rfl (go (aa (av mf aw) (ak (aB mf (aa (bj (EV.append (h.bk.stackE rfl) (aE h.bk.sk) (EV.call (aq.cons (bf rfl) aq.nil) mW) (aE (bM h.bk.sk)) (kT (by omega)))) (ak (aK (bf rfl)))))))),⟨⟨?_,?_,bs,sd,?_,?_⟩,?_,?_,?_,?_,?_,?_,?_,?_,?_⟩,?_⟩
 ·rw[aO (by omega)];exact bM h.bk.bk
 ·exact cS (by simp;omega)
 ·simp;omega
 ·simp;omega
 ·rw[aO (by omega)];exact HN
 ·rw[aO (by omega)];exact G7
 all_goals first|omega|exact Ag.trans Ag.app (Ag.set (.head _)) (fun m q _=>q) fun m q _=>q
noncomputable def xM (t:Ch) (B:Nat) (at_:Int) (x3 x4:Option V):List (Option V):=[some (.ref B),some (.int at_),some (.str t),x3,x4]
theorem gr {H':List O} {y:Int} (h:Pt t b0 B S D H F P st k.name p nm dep us) (hk:qe b0 st k) (x:bc t ('$'::r)) (hd:ay W n .lDollar [.ref B,.int (ps t ('$'::r))] H=some (.ok (.int y),H')):
  ay W (n+1) .lInParts [.ref B,.int (ps t ('$'::r))] H=some (.ok (.int y),H'):=by
 have hc:jG k '$' r=false:=by rcases k with b|_|_<;>first|rfl|(cases b<;>rfl)
 obtain⟨x6,go⟩:=yv (Φ:=ay W n) (W:=W) h hk x hc
 exact aN (Fu:=dN) rfl rfl rfl (go (ak (aB mf (ak (aK (EV.call (aq.cons (EV.loc rfl) (aq.cons (EV.loc rfl) aq.nil)) hd))))))
inductive js (W:Nat) (n:Nat) (t:Ch) (r:Ch) (H:List O) (b0:Bool) (B:Nat) (S:Nat) (D:Nat) (F:Nat) (st:List V):Prop
 |mk:∀H',ay W (n+2) .lDollar [.ref B,.int (ps t ('$'::'{'::r))] H=some (.ok (.int (ps t r)),H')→Bk t b0 B S D H' [] (st++[.ref F]++[.ref H.length])→Ag [S] H H'→H'[H.length]? =some (.dict (lR dK (ps t r) (H.length+1) [] 1))→H'[H.length+1]? =some (.list [])→js W n t r H b0 B S D F st
theorem mi (h:Pt t b0 B S D H F P st k.name p nm dep us) (x:bc t ('$'::'{'::r)) (hl:st.length<7000):
  js W n t r H b0 B S D F st:=by
 obtain⟨H',o1,o2,o3,o4,o5⟩:=ix (W:=W) (n:=n) (kind:=dK) (name:=[]) (p:=ps t r) h.bk (kT (by omega))
 refine⟨H',aN (Fu:=iq) rfl rfl rfl (aa (aV (h.bk.textE rfl) (show(2:Nat)<5 by decide)) (ak (aB (ah:=⟨xM t B (ps t ('$'::'{'::r)) none none,H⟩) (aH (gO (i:=1) (j:=2) x rfl rfl)) (aa (bj (EV.call (aq.cons (EV.loc rfl) (aq.cons EV.str (aq.cons (mh rfl) (aq.cons EV.str aq.nil)))) o1)) (ak (aK (mh rfl))))))),o2,o3,o4,o5⟩
theorem ri {q:Ch} (h:Pt t b0 B S D H F P st k.name p nm dep us) (x:bc t ('$'::s)) (hs:∀q,s≠'{'::q) (hq:s=q++aX false s) (hW:10002<W) (hr:bF (ay W (n+1)) W (gu 4 my) ⟨xM t B (ps t ('$'::s)) (some (.int (ps t (aX false s)))) (some (.str q)),H⟩=res):
  bF (ay W (n+1)) W my ⟨[some (.ref B),some (.int (ps t ('$'::s))),none,none,none],H⟩=res:=by
 have t1:EV (ay W (n+1)) ⟨xM t B (ps t ('$'::s)) none none,H⟩ (.cmp .eq (.slc (.loc 2) (.bin .add (.loc 1) (.int 1)) (.bin .add (.loc 1) (.int 2))) (.str ['{'])) (.bool (s.take 1==['{'])) ⟨xM t B (ps t ('$'::s)) none none,H⟩:=aH (gO (i:=1) (j:=2) x rfl rfl)
 rw[iB hs]at t1
 have xn:bc t (aX false s):=x.next.of ⟨q,hq⟩
 have e3:EV (ay W (n+1)) ⟨xM t B (ps t ('$'::s)) (some (.int (ps t (aX false s)))) none,H⟩ (.slc (.loc 2) (.bin .add (.loc 1) (.int 1)) (.loc 3)) (.str q) ⟨xM t B (ps t ('$'::s)) (some (.int (ps t (aX false s)))) none,H⟩:=by
  have:=EV.slc (Φ:=ay W (n+1)) (σ:=⟨xM t B (ps t ('$'::s)) (some (.int (ps t (aX false s)))) none,H⟩) (EV.loc (i:=2) rfl) (bf (i:=1) rfl) (EV.loc (i:=3) rfl) x.at.lim
  have e:=iZ (t:=t) (s:=aX false s) (mid:=q) (by rw[←hq];exact x.next) xn
  rw[←hq]at e
  rwa[e]at this
 exact aa (aV (h.bk.textE rfl) (show(2:Nat)<5 by decide)) (aa (av t1 aw) (aa (aV (EV.callP (aq.cons (EV.loc rfl) (aq.cons (bf rfl) aq.nil)) (zr x.next (by omega))) (show(3:Nat)<5 by decide)) (aa (aV e3 (show(4:Nat)<5 by decide)) hr)))
inductive jJ (W:Nat) (n:Nat) (t:Ch) (s:Ch) (r:Ch) (H:List O) (b0:Bool) (B:Nat) (S:Nat) (D:Nat) (F:Nat) (st:List V) (q:Ch):Prop
 |mk:∀H',ay W (n+2) .lDollar [.ref B,.int (ps t ('$'::s))] H=some (.ok (.int (ps t r)),H')→Bk t b0 B S D H' [] (st++[.ref F]++[.ref H.length])→Ag [S] H H'→H'[H.length]? =some (.dict (lR fA (ps t r) (H.length+1) q 1))→H'[H.length+1]? =some (.list [])→jJ W n t s r H b0 B S D F st q
theorem rn {q:Ch} (h:Pt t b0 B S D H F P st k.name p nm dep us) (x:bc t ('$'::s)) (hs:∀q,s≠'{'::q) (hq:s=q++'('::r) (hn:aX false s='('::r) (hl:st.length<7000) (hW:10002<W):
  jJ W n t s r H b0 B S D F st q:=by
 obtain⟨H',o1,o2,o3,o4,o5⟩:=ix (W:=W) (n:=n) (kind:=fA) (name:=q) (p:=ps t r) h.bk (kT (by omega))
 have xn:bc t ('('::r):=x.next.of ⟨q,hq⟩
 refine⟨H',aN (Fu:=iq) (lo':=xM t B (ps t ('$'::s)) (some (.int (ps t ('('::r)))) (some (.str q))) rfl rfl rfl (ri (n:=n) h x hs (by rw[hn];exact hq) hW ?_),o2,o3,o4,o5⟩
 rw[hn]
 exact ak (aB (aH (cG (i:=3) (j:=2) (m:=1) xn rfl rfl)) (aa (bj (EV.call (aq.cons (EV.loc rfl) (aq.cons EV.str (aq.cons (bf rfl) (aq.cons (EV.loc rfl) aq.nil)))) o1)) (ak (aK (bf rfl)))))
theorem tD (h:Pt t b0 B S D H F P st k.name p nm dep (aS acc aT)) (x:bc t ('$'::s)) (hs:∀q,s≠'{'::q) (hn:aX false s=s) (hp:∀q,s≠'('::q) (ha:Ey acc) (hz:acc.length<9000) (hr:aT.length<9000) (hW:10002<W):
  ay W (n+2) .lDollar [.ref B,.int (ps t ('$'::s))] H=some (.ok (.int (ps t s)),H.set P (.list (aS acc (aT++['$'])))):=by
 have ad:=eu (W:=W) (n:=n) (l:=['$']) h.fr h.wl ha (List.cons_ne_nil _ _) hz (show aT.length+1≤20000 by omega)
 have t1:=aH (b:=['(']) (cG (Φ:=ay W (n+1)) (lo:=xM t B (ps t ('$'::s)) (some (.int (ps t s))) (some (.str []))) (H:=H) (i:=3) (j:=2) (m:=1) x.next rfl rfl)
 rw[iB hp]at t1
 refine aN (Fu:=iq) (lo':=xM t B (ps t ('$'::s)) (some (.int (ps t s))) (some (.str []))) rfl rfl rfl (ri (n:=n) (q:=[]) h x hs (by rw[hn];rfl) hW ?_)
 rw[hn]
 exact aa (av t1 aw) (aa (aB (aH (a:=[]) (EV.loc rfl)) (ao (bj (EV.call (aq.cons (h.bk.topE rfl) (aq.cons EV.str aq.nil)) ad)))) (ak (aK (EV.loc rfl))))
theorem ut {q:Ch} (h:Pt t b0 B S D H F P st k.name p nm dep us) (x:bc t ('$'::s)) (hs:∀q,s≠'{'::q) (hq:s=q++r) (hne:q≠[]) (hn:aX false s=r) (hp:∀q,r≠'('::q) (hz:us.length<9000) (hW:10002<W):
  ay W (n+2) .lDollar [.ref B,.int (ps t ('$'::s))] H=some (.ok (.int (ps t r)),H.set P (.list (us++[vr q .none]))):=by
 have xr:bc t r:=x.next.of ⟨q,hq⟩
 have t1:=aH (b:=['(']) (cG (Φ:=ay W (n+1)) (lo:=xM t B (ps t ('$'::s)) (some (.int (ps t r))) (some (.str q))) (H:=H) (i:=3) (j:=2) (m:=1) xr rfl rfl)
 rw[iB hp]at t1
 have t2:EV (ay W (n+1)) ⟨xM t B (ps t ('$'::s)) (some (.int (ps t r))) (some (.str q)),H⟩ (.cmp .eq (.loc 4) (.str [])) (.bool (q==[])) ⟨xM t B (ps t ('$'::s)) (some (.int (ps t r))) (some (.str q)),H⟩:=aH (EV.loc rfl)
 rw[show(q==[])=false by simpa using hne]at t2
 refine aN (Fu:=iq) (lo':=xM t B (ps t ('$'::s)) (some (.int (ps t r))) (some (.str q))) rfl rfl rfl (ri (n:=n) (q:=q) h x hs (by rw[hn];exact hq) hW ?_)
 rw[hn]
 exact aa (av t1 aw) (aa (av t2 (ao (bj (EV.append (bS (h.bk.topE rfl) h.fr rfl) (aE h.wl) (EV.tup (aq.cons EV.str (aq.cons (EV.loc rfl) (aq.cons EV.none aq.nil)))) (aE h.wl) (by omega))))) (ak (aK (EV.loc rfl))))
end
end Mine
end
section
namespace Mine
open PySem (PyData)
section
variable {W n:Nat} {t s r e a aT w:Ch} {c:Char} {H H' H1 Hf:List O} {Φ:ci} {lo:List (Option V)} {i j k:Nat} {v u:V} {vs ws us acc:List V} {es:List (Ch×V)} {o o':O}
 {b0 sb:Bool} {B S D F P F' P':Nat} {f nm kind m:Ch} {st done:List V} {aj aL ax p dep:Int} {ai:Ch} {aQ:Bool} {res:R Fl}
noncomputable def eM:List (Ch×V):=[(bb,.str jL),(fw,.str si),(fA,.str rF),(dK,.str rI)]
noncomputable def vN (t:Ch) (B:Nat) (kind:Ch) (d:Int) (L:Nat):List (Option V):=[some (.ref B),some (.int t.length),some (.str kind),some (.int d),some (.ref L)]
theorem nQ (bk:Bk t b0 B S D H [] (st++[.ref F])) (hk:H[F]? =some (.dict es)) (hk':es.lookup fX=some (.str kind)) (ht:t.length≤10000)
  (hs:bF Φ W (gu 2 vh) ⟨vN t B kind (st++[V.ref F]).length H.length,H++[.dict eM]⟩=res):
  bF Φ W vh ⟨[some (.ref B),none,none,none,none],H⟩=res:=by
 have l3:∀{x y z:V} {lo:List (Option V)},1<lo.length→2<lo.length→3<lo.length→dP Φ [.loc 1,.loc 2,.loc 3] [x,y,z] ⟨lo,H⟩=okR () ⟨setL (setL (setL lo 1 x) 2 y) 3 z,H⟩:=by
  intro x y z lo h1 h2 h3
  exact fK (if_pos h1) (fK (if_pos (Nat.lt_of_lt_of_eq h2 List.length_set.symm)) (fK (if_pos (Nat.lt_of_lt_of_eq h3 (List.length_set.trans List.length_set).symm)) tw))
 have d:EV Φ ⟨[some (.ref B),some (.int t.length),some (.str kind),some (.int (st++[V.ref F]).length),none],H⟩ (.dct [bb,fw,fA,dK] (.cons (.str jL) (.cons (.str si) (.cons (.str rF) (.cons (.str rI) .nil))))) (.ref H.length) ⟨[some (.ref B),some (.int t.length),some (.str kind),some (.int (st++[V.ref F]).length),none],(H++[O.dict []]).set H.length (.dict eM)⟩:=
  EV.dct (aq.cons EV.str (aq.cons EV.str (aq.cons EV.str (aq.cons EV.str aq.nil)))) fb
 rw[uZ]at d
 exact aa (cK (EV.tup (aq.cons (EV.len (bk.textE rfl) (by rw[dC];omega)) (aq.cons (bS (bk.topE rfl) hk hk') (aq.cons (bk.lenE rfl) aq.nil)))) rfl (l3 (show(1:Nat)<5 by decide) (show(2:Nat)<5 by decide) (show(3:Nat)<5 by decide))) (aa (aV d (show(4:Nat)<5 by decide)) hs)
theorem tn {d:Int}:EV Φ ⟨vN t B kind d H.length,H++[.dict eM]⟩ (.cmp .inn (.loc 2) (.loc 4)) (.bool (eM.any fun e=>e.1==kind)) ⟨vN t B kind d H.length,H++[.dict eM]⟩:=
 EV.cmp (EV.loc rfl) (EV.loc rfl) (BJ fb)
theorem Bk.app {L:List O} (h:Bk t b0 B S D H f st):Bk t b0 B S D (H++L) f st:=h.ag (X:=[]) Ag.app List.not_mem_nil List.not_mem_nil
theorem Sc.app {L:List O} (h:Sc t b0 B S D H F P st aj ai ws aL ax aQ):Sc t b0 B S D (H++L) F P st aj ai ws aL ax aQ:=
 ⟨h.bk.app,bM h.fr,bM h.wl,h.FB,h.FS,h.FD,h.PB,h.PS,h.PD,h.PF⟩
theorem Bk.fault (h:Bk t b0 B S D H f st) (hB:B≠D):Bk t b0 B S D (H.set B (.dict (DF t b0 S D m))) m st:=
 ⟨cS (bD h.bk),by rw[aO (by have:=h.BS;omega)];exact h.sk,h.BS,h.SD,(iV h.DH),h.len⟩
theorem ug (bk:Bk t b0 B S D H [] (st++[.ref F])) (hk:H[F]? =some (.dict es)) (hk':es.lookup fX=some (.str kind)) (ht:t.length≤10000) (hm:eM.lookup kind=some (.str m)) (ha:(eM.any fun e=>e.1==kind)=true):
  ay W (n+1) .lEnd [.ref B] H=some (.ok .none,(H++[O.dict eM]).set B (.dict (DF t b0 S D m))):=by
 have t1:=tn (Φ:=ay W n) (t:=t) (B:=B) (H:=H) (kind:=kind) (d:=(st++[V.ref F]).length)
 rw[ha]at t1
 have g:EV (ay W n) ⟨vN t B kind (st++[V.ref F]).length H.length,H++[.dict eM]⟩ (.idx (.loc 4) (.loc 2)) (.str m) ⟨vN t B kind (st++[V.ref F]).length H.length,H++[.dict eM]⟩:=EV.idx (EV.loc rfl) (EV.loc rfl) (nU fb hm)
 exact du (Fu:=oA) rfl rfl rfl (nQ bk hk hk' ht (ao (aB t1 (ao (dL g rfl (bM bk.bk) (by decide:(5:Nat)<1000))))))
theorem rT {d:Int} {q:Bool} (hq:(kind==bH)=q):EV Φ ⟨vN t B kind d H.length,H++[.dict eM]⟩ (.cmp .gt (.loc 3) (.ite (.cmp .eq (.loc 2) (.str bH)) (.int 2) (.int 1))) (.bool (decide (d>(if q then 2 else 1)))) ⟨vN t B kind d H.length,H++[.dict eM]⟩:=by
 have t1:EV Φ ⟨vN t B kind d H.length,H++[.dict eM]⟩ (.cmp .eq (.loc 2) (.str bH)) (.bool (kind==bH)) ⟨vN t B kind d H.length,H++[.dict eM]⟩:=aH (EV.loc rfl)
 rw[hq]at t1
 cases q with
 |true=>exact EV.cmp (EV.loc rfl) (EV.iteT t1 EV.int) rfl
 |false=>exact EV.cmp (EV.loc rfl) (EV.iteF t1 EV.int) rfl
theorem vW {q:Bool} (bk:Bk t b0 B S D H [] (st++[.ref F])) (hk:H[F]? =some (.dict es)) (hk':es.lookup fX=some (.str kind)) (ht:t.length≤10000) (ha:(eM.any fun e=>e.1==kind)=false) (hq:(kind==bH)=q) (hd:(if q then 2 else 1)≤st.length):
  ay W (n+1) .lEnd [.ref B] H=some (.ok .none,(H++[O.dict eM]).set B (.dict (DF t b0 S D kr))):=by
 have t1:=tn (Φ:=ay W n) (t:=t) (B:=B) (H:=H) (kind:=kind) (d:=(st++[V.ref F]).length)
 rw[ha]at t1
 have t2:=rT (Φ:=ay W n) (t:=t) (B:=B) (H:=H) (d:=(st++[V.ref F]).length) hq
 rw[decide_eq_true (by cases q<;>simp at hd⊢ <;>omega)]at t2
 exact du (Fu:=oA) rfl rfl rfl (nQ bk hk hk' ht (ao (av t1 (ao (aB t2 (ao (dL EV.str rfl (bM bk.bk) (by decide:(5:Nat)<1000))))))))
inductive mY (W:Nat) (n:Nat) (t:Ch) (H:List O) (ws:List V) (b0:Bool) (B:Nat) (S:Nat) (D:Nat) (done:List V) (aL:Int) (ax:Int):Prop
 |mk:∀H',ay W (n+2) .lEnd [.ref B] H=some (.ok .none,H')→(∃F'',Bk t b0 B S D H' [] [.ref F''])→H'[D]? =some (.list (if ws≠[]then done++[cZ ws aL ax t.length]else done))→mY W n t H ws b0 B S D done aL ax
theorem yM (h:Sc t b0 B S D H F P [] aj ai ws aL ax aQ) (ht:t.length≤10000) (hD:H[D]? =some (.list done)) (hw:ws.length<9000) (hd:done.length<9000):
  mY W n t H ws b0 B S D done aL ax:=by
 have t1:=tn (Φ:=ay W (n+1)) (t:=t) (B:=B) (H:=H) (kind:=cH) (d:=1)
 have t2:=rT (Φ:=ay W (n+1)) (t:=t) (B:=B) (H:=H) (d:=1) (kind:=cH) (q:=false) rfl
 have t3:EV (ay W (n+1)) ⟨vN t B cH 1 H.length,H++[.dict eM]⟩ (.cmp .eq (.loc 2) (.str bH)) (.bool false) ⟨vN t B cH 1 H.length,H++[.dict eM]⟩:=aH (a:=cH) (EV.loc rfl)
 obtain⟨H',P', -,k1,k2,k3,k4⟩:=dB (W:=W) (n:=n) (aft:=t.length) (h.app (L:=[.dict eM])) (bM hD) hw hd
 refine⟨H',du (Fu:=oA) (lo':=vN t B cH 1 H.length) rfl rfl rfl (nQ (st:=[]) h.bk h.fr rfl ht (ao (av t1 (ao (av t2 (aa (av t3 aw) (ao (bj (EV.call (aq.cons (EV.loc rfl) (aq.cons (EV.loc rfl) aq.nil)) k1)))))))))
  ,⟨F,k2.bk⟩,by simpa using k4⟩
inductive kC (W:Nat) (n:Nat) (t:Ch) (H:List O) (ws:List V) (us:List V) (b0:Bool) (B:Nat) (S:Nat) (D:Nat) (done:List V) (aL:Int) (aQ:Bool):Prop
 |mk:∀H',ay W (n+2) .lEnd [.ref B] H=some (.ok .none,H')→(∃F'',Bk t b0 B S D H' [] [.ref F''])→H'[D]? =some (.list (done++[cZ (ws++[wd aQ us]) aL t.length t.length]))→kC W n t H ws us b0 B S D done aL aQ
theorem ur {Fs Ps:Nat} (h:Pt t b0 B S D H F P [.ref Fs] bH p nm dep us) (hs:Sc t b0 B S D (H.set S (.list [.ref Fs])) Fs Ps [] aj ai ws aL ax aQ) (ht:t.length≤10000) (hD:H[D]? =some (.list done)) (hw:ws.length<8000) (hz:us.length<9000) (hd:done.length<9000):
  kC W n t H ws us b0 B S D done aL aQ:=by
 have t1:=tn (Φ:=ay W (n+1)) (t:=t) (B:=B) (H:=H) (kind:=bH) (d:=2)
 have t2:=rT (Φ:=ay W (n+1)) (t:=t) (B:=B) (H:=H) (d:=2) (kind:=bH) (q:=true) rfl
 have t3:EV (ay W (n+1)) ⟨vN t B bH 2 H.length,H++[.dict eM]⟩ (.cmp .eq (.loc 2) (.str bH)) (.bool true) ⟨vN t B bH 2 H.length,H++[.dict eM]⟩:=aH (a:=bH) (EV.loc rfl)
 have hs':Sc t b0 B S D ((H++[O.dict eM]).set S (O.list ([]++[V.ref Fs]))) Fs Ps [] aj ai ws aL ax aQ:=by
  have:(H++[O.dict eM]).set S (O.list ([]++[V.ref Fs]))=H.set S (.list [.ref Fs])++[O.dict eM]:=List.set_append_left S _ h.bk.SH
  rw[this];exact hs.app
 obtain⟨H1,c1,c2,c3⟩:=ez (W:=W) (n:=n) (state':=fL) (beh:=t.length) (F':=F) (P':=P) hs' h.bk.app (bM h.fr) (bM h.wl) h.FS h.PS hz (by omega)
 have hD1:H1[D]? =some (.list done):=c3.get (bM hD) (by
  have:=h.bk.SD
  simp only[List.mem_cons,List.not_mem_nil,or_false,not_or]
  exact⟨by omega,Ne.symm hs.FD,Ne.symm hs.PD⟩)
 obtain⟨H',P', -,k1,k2,k3,k4⟩:=dB (W:=W) (n:=n) (aft:=t.length) c2 hD1 (kT (by omega)) hd
 refine⟨H',du (Fu:=oA) (lo':=vN t B bH 2 H.length) rfl rfl rfl (nQ (st:=[.ref Fs]) h.bk h.fr rfl ht (ao (av t1 (ao (av t2 (aa (aB t3 (ao (bj (EV.call (aq.cons (EV.loc rfl) (aq.cons (EV.loc rfl) (aq.cons EV.str aq.nil))) c1)))) (ao (bj (EV.call (aq.cons (EV.loc rfl) (aq.cons (EV.loc rfl) aq.nil)) k1)))))))))
  ,⟨Fs,k2.bk⟩,by simpa using k4⟩
end
end Mine
end
section
namespace Mine
open PySem (PyData)
section
variable {W n:Nat} {t s s' r e a aT w:Ch} {c:Char} {H H' H1 H2 Hf:List O} {Φ:ci} {lo:List (Option V)} {i j j1 j2 j' k:Nat} {v u:V} {vs ws us acc:List V} {es:List (Ch×V)} {o o':O}
 {b0 sb:Bool} {B S D F P F' P':Nat} {f nm kind m:Ch} {st done:List V} {aj aL ax p dep:Int} {ai:Ch} {aQ:Bool} {res:R Fl} {x y z:Int}
noncomputable def kl (t:Ch) (b0:Bool) (B:Nat) (x:Int) (x4:Option V):List (Option V):=[some (.str t),some (.bool b0),some (.ref B),some (.int x),x4]
noncomputable def oM:E:=(.and (.cons (.cmp .lt (.loc 3) (.len (.loc 0))) (.cons (.cmp .eq (.idx (.loc 2) (.str kg)) (.str [])) (.cons (.cmp .gt (.len (.idx (.loc 2) (.str b5))) (.int 0)) .nil))))
noncomputable def wG:Ss:=(.cons (.asg 4 (.idx (.idx (.idx (.loc 2) (.str b5)) (.negc 1)) (.str fX)))
 (.cons (.ife (.cmp .eq (.loc 4) (.str cH)) (.cons (.asg 3 (.call .lInScript (.cons (.loc 2) (.cons (.loc 3) .nil)))) .nil)
 (.cons (.ife (.cmp .eq (.loc 4) (.str bb)) (.cons (.asg 3 (.call .lInBraces (.cons (.loc 2) (.cons (.loc 3) .nil)))) .nil)
 (.cons (.ife (.cmp .eq (.loc 4) (.str dK)) (.cons (.asg 3 (.call .lInName (.cons (.loc 2) (.cons (.loc 3) .nil)))) .nil)
 (.cons (.asg 3 (.call .lInParts (.cons (.loc 2) (.cons (.loc 3) .nil)))) .nil)) .nil)) .nil)) .nil))
noncomputable def Al:Ss:=gu 3 nT
noncomputable def RD (W n:Nat) (t:Ch) (b0:Bool) (B:Nat) (k:Nat) (x:Int) (x4:Option V) (H:List O):R Fl:=cW (iter (tE (ay W (n+3)) oM) (bF (ay W (n+3)) W wG) k ⟨kl t b0 B x x4,H⟩) fun f σ=>match f with
 | .next=>bF (ay W (n+3)) W Al σ
 |f=>okR f σ
noncomputable def GV (W n:Nat) (t:Ch) (b0:Bool) (B:Nat) (k:Nat) (x:Int) (H:List O) (v:V) (Hf:List O):Prop:=∀x4,∃lo',RD W n t b0 B k x x4 H=okR (.ret v) ⟨lo',Hf⟩
noncomputable def Go (W n:Nat) (t:Ch) (b0:Bool) (B:Nat) (j:Nat) (x:Int) (H:List O) (y:Int) (H':List O):Prop:=∀k k' v Hf,k'=k+j→GV W n t b0 B k y H' v Hf→GV W n t b0 B k' x H v Hf
noncomputable def CB (W n:Nat) (t:Ch) (b0:Bool) (B:Nat) (H:List O) (v:V) (Hf:List O):Prop:=∀x x4,∃lo',bF (ay W (n+3)) W Al ⟨kl t b0 B x x4,H⟩=okR (.ret v) ⟨lo',Hf⟩
noncomputable def CD (W n:Nat) (t:Ch) (b0:Bool) (B:Nat) (j:Nat) (x:Int) (H:List O) (H':List O):Prop:=∀k k' v Hf,k'=k+j→CB W n t b0 B H' v Hf→GV W n t b0 B k' x H v Hf
theorem Go.refl:Go W n t b0 B 0 x H x H:=fun k k' v Hf e h=>by rw[e];exact h
theorem Go.trans (h:Go W n t b0 B j1 x H y H1) (h':Go W n t b0 B j2 y H1 z H2) (e:j=j1+j2):Go W n t b0 B j x H z H2:=fun k k' v Hf ek ho=>h (k+j2) k' v Hf (by omega) (h' k _ v Hf rfl ho)
theorem Go.transE (h:Go W n t b0 B j1 x H y H1) (h':CD W n t b0 B j2 y H1 H2) (e:j=j1+j2):CD W n t b0 B j x H H2:=fun k k' v Hf ek ho=>h (k+j2) k' v Hf (by omega) (h' k _ v Hf rfl ho)
theorem nD (hc:∀x4,EV (ay W (n+3)) ⟨kl t b0 B x x4,H⟩ oM (.bool true) ⟨kl t b0 B x x4,H⟩) (hb:∀x4,∃x4',bF (ay W (n+3)) W wG ⟨kl t b0 B x x4,H⟩=okR .next ⟨kl t b0 B y x4',H'⟩):Go W n t b0 B 1 x H y H':=by
 intro k k' v Hf ek ho x4
 obtain⟨x4',hb⟩:=hb x4
 obtain⟨lo',ho⟩:=ho x4'
 refine⟨lo',?_⟩
 unfold RD at ho⊢
 rw[ek,ba (hc x4) hb rfl]
 exact ho
theorem rA (hc:∀x4,EV (ay W (n+3)) ⟨kl t b0 B x x4,H⟩ oM (.bool false) ⟨kl t b0 B x x4,H⟩):CD W n t b0 B 1 x H H:=by
 intro k k' v Hf ek ho x4
 obtain⟨lo',ho⟩:=ho x x4
 refine⟨lo',?_⟩
 unfold RD
 rw[ek,bK (hc x4)]
 exact ho
theorem rq (bk:Bk t b0 B S D H [] (st++[v])) (xs:bc t (c::r)) (x4:Option V):EV Φ ⟨kl t b0 B (ps t (c::r)) x4,H⟩ oM (.bool true) ⟨kl t b0 B (ps t (c::r)) x4,H⟩:=by
 refine EV.andT (je (i:=3) (j:=0) xs rfl rfl) (EV.andT (aH (a:=[]) (bk.faultE rfl)) (EV.and1 (EV.cmp (bk.lenE rfl) EV.int ?_)))
 show some (decide (((st++[v]).length:Int)>0))=_
 rw[decide_eq_true B3]
theorem lZ (bk:Bk t b0 B S D H [] (st++[.ref F])) (hk:H[F]? =some (.dict es)) (hk':es.lookup fX=some (.str kind)) {x4:Option V}:eS Φ W (.asg 4 (.idx (.idx (.idx (.loc 2) (.str b5)) (.negc 1)) (.str fX))) ⟨kl t b0 B x x4,H⟩=okR .next ⟨kl t b0 B x (some (.str kind)),H⟩:=
 aV (bS (bk.topE rfl) hk hk') (show(4:Nat)<5 by decide)
theorem eN (h:Sc t b0 B S D H F P st aj ai ws aL ax aQ) (xs:bc t (c::r)) (hc:ay W (n+3) .lInScript [.ref B,.int (ps t (c::r))] H=some (.ok (.int y),H')):Go W n t b0 B 1 (ps t (c::r)) H y H':=
 nD (rq h.bk xs) fun x4=>⟨some (.str cH),aa (lZ h.bk h.fr rfl) (ao (aB (aH (a:=cH) (EV.loc rfl)) (ao (aV (EV.call (aq.cons (EV.loc rfl) (aq.cons (EV.loc rfl) aq.nil)) hc) (show(3:Nat)<5 by decide)))))⟩
theorem pq (h:Pt t b0 B S D H F P st bb p nm dep us) (xs:bc t (c::r)) (hc:ay W (n+3) .lInBraces [.ref B,.int (ps t (c::r))] H=some (.ok (.int y),H')):Go W n t b0 B 1 (ps t (c::r)) H y H':=
 nD (rq h.bk xs) fun x4=>⟨some (.str bb),aa (lZ h.bk h.fr rfl) (ao (av (aH (a:=bb) (EV.loc rfl)) (ao (aB (aH (a:=bb) (EV.loc rfl)) (ao (aV (EV.call (aq.cons (EV.loc rfl) (aq.cons (EV.loc rfl) aq.nil)) hc) (show(3:Nat)<5 by decide)))))))⟩
theorem Cu (h:Pt t b0 B S D H F P st dK p nm dep us) (xs:bc t (c::r)) (hc:ay W (n+3) .lInName [.ref B,.int (ps t (c::r))] H=some (.ok (.int y),H')):Go W n t b0 B 1 (ps t (c::r)) H y H':=
 nD (rq h.bk xs) fun x4=>⟨some (.str dK),aa (lZ h.bk h.fr rfl) (ao (av (aH (a:=dK) (EV.loc rfl)) (ao (av (aH (a:=dK) (EV.loc rfl)) (ao (aB (aH (a:=dK) (EV.loc rfl)) (ao (aV (EV.call (aq.cons (EV.loc rfl) (aq.cons (EV.loc rfl) aq.nil)) hc) (show(3:Nat)<5 by decide)))))))))⟩
theorem k8 {kd:Kd} (h:Pt t b0 B S D H F P st kd.name p nm dep us) (xs:bc t (c::r)) (hc:ay W (n+3) .lInParts [.ref B,.int (ps t (c::r))] H=some (.ok (.int y),H')):Go W n t b0 B 1 (ps t (c::r)) H y H':=
 nD (rq h.bk xs) fun x4=>⟨some (.str kd.name),aa (lZ h.bk h.fr rfl) (by
  have e1:EV (ay W (n+3)) ⟨kl t b0 B (ps t (c::r)) (some (.str kd.name)),H⟩ (.cmp .eq (.loc 4) (.str cH)) (.bool false) ⟨kl t b0 B (ps t (c::r)) (some (.str kd.name)),H⟩:=by
   have:=aH (Φ:=ay W (n+3)) (σ:=⟨kl t b0 B (ps t (c::r)) (some (.str kd.name)),H⟩) (b:=cH) (EV.loc (i:=4) rfl)
   rwa[show(kd.name==cH)=false by rcases kd with _|_|_<;>rfl]at this
  have e2:EV (ay W (n+3)) ⟨kl t b0 B (ps t (c::r)) (some (.str kd.name)),H⟩ (.cmp .eq (.loc 4) (.str bb)) (.bool false) ⟨kl t b0 B (ps t (c::r)) (some (.str kd.name)),H⟩:=by
   have:=aH (Φ:=ay W (n+3)) (σ:=⟨kl t b0 B (ps t (c::r)) (some (.str kd.name)),H⟩) (b:=bb) (EV.loc (i:=4) rfl)
   rwa[show(kd.name==bb)=false by rcases kd with _|_|_<;>rfl]at this
  have e3:EV (ay W (n+3)) ⟨kl t b0 B (ps t (c::r)) (some (.str kd.name)),H⟩ (.cmp .eq (.loc 4) (.str dK)) (.bool false) ⟨kl t b0 B (ps t (c::r)) (some (.str kd.name)),H⟩:=by
   have:=aH (Φ:=ay W (n+3)) (σ:=⟨kl t b0 B (ps t (c::r)) (some (.str kd.name)),H⟩) (b:=dK) (EV.loc (i:=4) rfl)
   rwa[show(kd.name==dK)=false by rcases kd with _|_|_<;>rfl]at this
  exact ao (av e1 (ao (av e2 (ao (av e3 (ao (aV (EV.call (aq.cons (EV.loc rfl) (aq.cons (EV.loc rfl) aq.nil)) hc) (show(3:Nat)<5 by decide)))))))))⟩
theorem fm (ht:t.length≤10000) (hx:(t.length:Int)≤x):CD W n t b0 B 1 x H H:=
 rA fun x4=>EV.andF (EV.cmp (EV.loc rfl) (EV.len (EV.loc rfl) (by rw[dC];omega)) (by
  show some (decide (x<(t.length:Int)))=_
  rw[decide_eq_false (by omega)]))
theorem y5 (bk:Bk t b0 B S D H f st) (hf:f≠[]) (xs:bc t (c::r)):CD W n t b0 B 1 (ps t (c::r)) H H:=
 rA fun x4=>by
  have e:=aH (Φ:=ay W (n+3)) (b:=[]) (bk.faultE (lo:=kl t b0 B (ps t (c::r)) x4) (i:=2) rfl)
  rw[show(f==[])=false by simpa using hf]at e
  exact EV.andT (je (i:=3) (j:=0) xs rfl rfl) (EV.andF e)
theorem qu (bk:Bk t b0 B S D H [] []) (xs:bc t s):CD W n t b0 B 1 (ps t s) H H:=
 rA fun x4=>by
  have e:=je (Φ:=ay W (n+3)) (lo:=kl t b0 B (ps t s) x4) (H:=H) (i:=3) (j:=0) xs rfl rfl
  rcases s with _|⟨c,s⟩
  ·exact EV.andF e
  ·exact EV.andT e (EV.andT (aH (a:=[]) (bk.faultE rfl)) (EV.and1 (EV.cmp (bk.lenE rfl) EV.int rfl)))
noncomputable def jq (D:Nat) (m:Ch):V:=.tup [.ref D,.tup [.int 1,.str m,.tup [.str ['N','O','N','E']]]]
noncomputable def oj (D:Nat):V:=.tup [.ref D,.none]
theorem rc (bk:Bk t b0 B S D H m st) (hm:m≠[]) {x4:Option V}:bF Φ W (gu 4 nT) ⟨kl t b0 B x x4,H⟩=okR (.ret (jq D m)) ⟨kl t b0 B x x4,H⟩:=by
 have e:=jy (Φ:=Φ) (b:=[]) (bk.faultE (lo:=kl t b0 B x x4) (i:=2) rfl)
 rw[show(m==[])=false by simpa using hm]at e
 exact ak (aK (EV.tup (aq.cons (bk.doneE rfl) (aq.cons (EV.iteT e (EV.tup (aq.cons EV.int (aq.cons (bk.faultE rfl) (aq.cons (EV.tup (aq.cons EV.str aq.nil)) aq.nil))))) aq.nil))))
theorem tV (bk:Bk t b0 B S D H [] st) {x4:Option V}:bF Φ W (gu 4 nT) ⟨kl t b0 B x x4,H⟩=okR (.ret (oj D)) ⟨kl t b0 B x x4,H⟩:=by
 have e:=jy (Φ:=Φ) (b:=[]) (bk.faultE (lo:=kl t b0 B x x4) (i:=2) rfl)
 exact ak (aK (EV.tup (aq.cons (bk.doneE rfl) (aq.cons (EV.iteF e EV.none) aq.nil))))
theorem yS (bk:Bk t b0 B S D H m st) (hm:m≠[]):CB W n t b0 B H (jq D m) H:=fun x x4=>by
 have e:=aH (Φ:=ay W (n+3)) (b:=[]) (bk.faultE (lo:=kl t b0 B x x4) (i:=2) rfl)
 rw[show(m==[])=false by simpa using hm]at e
 exact⟨_,aa (av (EV.andF e) aw) (rc bk hm)⟩
theorem qU (bk:Bk t b0 B S D H [] []):CB W n t b0 B H (oj D) H:=fun x x4=>
 ⟨_,aa (av (EV.andT (aH (a:=[]) (bk.faultE rfl)) (EV.and1 (EV.cmp (bk.lenE rfl) EV.int rfl))) aw) (tV bk)⟩
theorem yH (bk:Bk t b0 B S D H [] (st++[v])) {x4:Option V}:EV Φ ⟨kl t b0 B x x4,H⟩ (.and (.cons (.cmp .eq (.idx (.loc 2) (.str kg)) (.str [])) (.cons (.cmp .gt (.len (.idx (.loc 2) (.str b5))) (.int 0)) .nil))) (.bool true) ⟨kl t b0 B x x4,H⟩:=by
 refine EV.andT (aH (a:=[]) (bk.faultE rfl)) (EV.and1 (EV.cmp (bk.lenE rfl) EV.int ?_))
 show some (decide (((st++[v]).length:Int)>0))=_
 rw[decide_eq_true B3]
theorem uj (bk:Bk t b0 B S D H [] (st++[v])) (hm:m≠[]) (he:ay W (n+3) .lEnd [.ref B] H=some (.ok .none,H')) (bk':Bk t b0 B S D H' m (st++[v])):CB W n t b0 B H (jq D m) H':=fun x x4=>
 ⟨_,aa (aB (yH bk) (ao (bj (EV.call (aq.cons (EV.loc rfl) aq.nil) he)))) (rc bk' hm)⟩
theorem vc {st':List V} (bk:Bk t b0 B S D H [] (st++[v])) (he:ay W (n+3) .lEnd [.ref B] H=some (.ok .none,H')) (bk':Bk t b0 B S D H' [] st'):CB W n t b0 B H (oj D) H':=fun x x4=>
 ⟨_,aa (aB (yH bk) (ao (bj (EV.call (aq.cons (EV.loc rfl) aq.nil) he)))) (tV bk')⟩
theorem BL (bk:Bk t b0 B S D H [] st):((H++[O.dict eM]).set B (.dict (DF t b0 S D m)))[D]? =H[D]? :=by
 have:=bk.BS
 have:=bk.SD
 rw[aO (by omega),List.getElem?_append_left bk.DH]
theorem jt (bk:Bk t b0 B S D H [] (st++[.ref F])) (hk:H[F]? =some (.dict es)) (hk':es.lookup fX=some (.str kind)) (ht:t.length≤10000) (hm:eM.lookup kind=some (.str m)) (ha:(eM.any fun e=>e.1==kind)=true) (h0:m≠[]):
  ∃Hf,CB W n t b0 B H (jq D m) Hf∧Hf[D]? =H[D]? :=
 ⟨_,uj bk h0 (ug bk hk hk' ht hm ha) (bk.app.fault (by have:=bk.BS;have:=bk.SD;omega)),BL bk⟩
theorem nG {q:Bool} (bk:Bk t b0 B S D H [] (st++[.ref F])) (hk:H[F]? =some (.dict es)) (hk':es.lookup fX=some (.str kind)) (ht:t.length≤10000) (ha:(eM.any fun e=>e.1==kind)=false) (hq:(kind==bH)=q) (hd:(if q then 2 else 1)≤st.length):
  ∃Hf,CB W n t b0 B H (jq D kr) Hf∧Hf[D]? =H[D]? :=
 ⟨_,uj bk (by decide) (vW bk hk hk' ht ha hq hd) (bk.app.fault (by have:=bk.BS;have:=bk.SD;omega)),BL bk⟩
inductive uv (W:Nat) (n:Nat) (t:Ch) (H:List O) (ws:List V) (b0:Bool) (B:Nat) (D:Nat) (done:List V) (aL:Int) (ax:Int):Prop
 |mk:∀Hf,CB W n t b0 B H (oj D) Hf→Hf[D]? =some (.list (if ws≠[]then done++[cZ ws aL ax t.length]else done))→uv W n t H ws b0 B D done aL ax
theorem vn (h:Sc t b0 B S D H F P [] aj ai ws aL ax aQ) (ht:t.length≤10000) (hD:H[D]? =some (.list done)) (hw:ws.length<9000) (hd:done.length<9000):
  uv W n t H ws b0 B D done aL ax:=by
 obtain⟨H',h1,⟨F'',h2⟩,h3⟩:=yM (W:=W) (n:=n+1) h ht hD hw hd
 exact⟨H',vc (st:=[]) h.bk h1 h2,h3⟩
inductive oN (W:Nat) (n:Nat) (t:Ch) (H:List O) (ws:List V) (us:List V) (b0:Bool) (B:Nat) (D:Nat) (done:List V) (aL:Int) (aQ:Bool):Prop
 |mk:∀Hf,CB W n t b0 B H (oj D) Hf→Hf[D]? =some (.list (done++[cZ (ws++[wd aQ us]) aL t.length t.length]))→oN W n t H ws us b0 B D done aL aQ
theorem Cb {Fs Ps:Nat} (h:Pt t b0 B S D H F P [.ref Fs] bH p nm dep us) (hs:Sc t b0 B S D (H.set S (.list [.ref Fs])) Fs Ps [] aj ai ws aL ax aQ) (ht:t.length≤10000) (hD:H[D]? =some (.list done)) (hw:ws.length<8000) (hz:us.length<9000) (hd:done.length<9000):
  oN W n t H ws us b0 B D done aL aQ:=by
 obtain⟨H',h1,⟨F'',h2⟩,h3⟩:=ur (W:=W) (n:=n+1) h hs ht hD hw hz hd
 exact⟨H',vc (st:=[.ref Fs]) h.bk h1 h2,h3⟩
inductive dq (W n:Nat) (t:Ch) (b0:Bool) (B D:Nat) (ex:Nat) (s:Ch) (H:List O) (m:Ch):Prop
 |mk (j:Nat) (Hf:List O):j≤3*s.length+ex→(∀k k',k'=k+j→GV W n t b0 B k' (ps t s) H (jq D m) Hf)→Hf[D]? =H[D]? →dq W n t b0 B D ex s H m
theorem dq.of {ex:Nat} (h:Go W n t b0 B j (ps t s) H (ps t s') H') (hj:j+3*s'.length≤3*s.length) (hD:H'[D]? =H[D]?) (hf:dq W n t b0 B D ex s' H' m):dq W n t b0 B D ex s H m:=by
 obtain⟨j',Hf,h1,h2,h3⟩:=hf
 exact⟨j+j',Hf,by omega,fun k k' e=>h (k+j') k' _ _ (by omega) (h2 k _ rfl),by rw[h3,hD]⟩
theorem dq.ofE {ex:Nat} (h:CD W n t b0 B j (ps t s) H H') (hj:j≤3*s.length+ex) (hD:H'[D]? =H[D]?) (hf:∃Hf,CB W n t b0 B H' (jq D m) Hf∧Hf[D]? =H'[D]?):dq W n t b0 B D ex s H m:=by
 obtain⟨Hf,h1,h2⟩:=hf
 exact⟨j,Hf,hj,fun k k' e=>h k k' _ _ e h1,by rw[h2,hD]⟩
end
end Mine
end
section
namespace Mine
open PySem (PyData)
section
variable {W n:Nat} {t s s' r e a aT w:Ch} {c:Char} {H H' H1 H2 Hf:List O} {Φ:ci} {lo:List (Option V)} {i j j1 j2 j' j0:Nat} {v u:V} {vs ws us acc:List V} {es:List (Ch×V)} {o o':O}
 {b0 sb:Bool} {B S D F P F' P':Nat} {f nm kind m q:Ch} {st done:List V} {aj aL ax p dep:Int} {ai:Ch} {aQ:Bool} {x y z:Int} {k:Kd} {res:Except Ch (List V×Ch)}
inductive DL (D:Nat) (H:List O):Prop
 |mk (done:List V):H[D]? =some (.list done)→done.length<8900→DL D H
theorem DL.ag {X:List Nat} (h:DL D H) (g:Ag X H H') (hx:D∉X):DL D H':=by
 obtain⟨done,h1,h2⟩:=h
 exact⟨done,g.get h1 hx,h2⟩
theorem IA (h1:S≠D) (h2:P≠D):D∉[S,P]:=by simp;exact⟨Ne.symm h1,Ne.symm h2⟩
noncomputable def Bd (j:Nat) (s e:Ch):Prop:=j+3*e.length≤3*s.length∧(e.length<s.length→j+3*e.length+2≤3*s.length)
theorem Bd.two (h:j+3*e.length+2≤3*s.length):Bd j s e:=⟨Nat.le_of_add_right_le h,fun _=>h⟩
theorem Bd.zero:Bd 0 s s:=⟨Nat.le_of_eq (Nat.zero_add _),fun h=>absurd h (Nat.lt_irrefl _)⟩
theorem Bd.then (hj:j0+3*e.length+2≤3*s.length) (h:Bd j e a):Bd (j0+j) s a:=.two (by have:=h.1;omega)
inductive I5 (W n:Nat) (t:Ch) (b0:Bool) (B S D:Nat) (H:List O) (F P:Nat) (st:List V) (kind:Ch) (p:Int) (nm:Ch) (dep:Int) (s:Ch) (vs:List V) (e:Ch):Prop
 |mk (j:Nat) (H':List O):Bd j s e→Go W n t b0 B j (ps t s) H (ps t e) H'→Ag [S,P] H H'→Pt t b0 B S D H' F P st kind p nm dep vs→I5 W n t b0 B S D H F P st kind p nm dep s vs e
noncomputable def Bj (W n:Nat) (t:Ch) (b0:Bool) (B S D:Nat) (H:List O) (F P:Nat) (st:List V) (kind:Ch) (p:Int) (nm:Ch) (dep:Int) (s:Ch):Except Ch (List V×Ch)→Prop
 | .ok (vs,e)=>I5 W n t b0 B S D H F P st kind p nm dep s vs e
 | .error m=>dq W n t b0 B D 3 s H m
noncomputable def dm (W n:Nat) (t:Ch) (b0:Bool) (B S D:Nat) (k:Kd) (acc:List V) (aT s:Ch) (res:Except Ch (List V×Ch)):Prop:=∀H F P st p nm dep,Pt t b0 B S D H F P st k.name p nm dep (aS acc aT)→qe b0 st k→bc t s→Ey acc→
 acc.length+aT.length+s.length<9000→st.length+2*s.length<6000→DL D H→Bj W n t b0 B S D H F P st k.name p nm dep s res
noncomputable def tL (W n:Nat) (t:Ch) (b0:Bool) (B S D:Nat) (s:Ch) (res:Except Ch (V×Ch)):Prop:=∀k H F P st p nm dep us,Pt t b0 B S D H F P st (Kd.name k) p nm dep us→qe b0 st k→bc t ('$'::s)→
 us.length+s.length<8999→st.length+2*s.length<5998→DL D H→Bj W n t b0 B S D H F P st (Kd.name k) p nm dep ('$'::s) (res.map fun q=>(us++[q.1],q.2))
noncomputable def Gg (W n:Nat) (t:Ch) (b0:Bool) (B S D:Nat) (s:Ch) (res:Except Ch (Ch×Ch)):Prop:=∀k H F P st p nm dep us,Pt t b0 B S D H F P st (Kd.name k) p nm dep us→qe b0 st k→bc t ('['::s)→
 us.length+s.length<8999→st.length+2*s.length<5998→DL D H→Bj W n t b0 B S D H F P st (Kd.name k) p nm dep ('['::s) (res.map fun q=>(us++[cm q.1],q.2))
theorem wc {kind:Ch} (hg:Go W n t b0 B j0 (ps t s) H (ps t e) H1) (hj:j0+3*e.length+2≤3*s.length) (ag:Ag [S,P] H H1) (hP:P≠D) (hS:S≠D) (hH:D<H.length) (h:Bj W n t b0 B S D H1 F P st kind p nm dep e res):Bj W n t b0 B S D H F P st kind p nm dep s res:=by
 cases res with
 |ok q=>
  obtain⟨vs,e'⟩:=q
  obtain⟨j,H',h1,h2,h3,h4⟩:=h
  exact⟨j0+j,H',h1.then hj,hg.trans h2 rfl,ag.trans h3 (fun _ q _=>q) (fun _ q _=>q),h4⟩
 |error m=>exact dq.of hg (by omega) (ag.2 D hH (jj ⟨Ne.symm hS,Ne.symm hP⟩)) h
theorem ww:dm W n t b0 B S D k acc aT s (.ok (aS acc aT,s)):=fun H F P st p nm dep h hk x ha hl hs dl=>⟨0,H,Bd.zero,Go.refl,Ag.refl,h⟩
theorem Pt.SD' (h:Pt t b0 B S D H F P st kind p nm dep us):S≠D:=Nat.ne_of_lt h.bk.SD
theorem vS {run':Ch} {acc':List V} (hc:∀H F P st p nm dep,Pt t b0 B S D H F P st k.name p nm dep (aS acc aT)→qe b0 st k→bc t (c::s)→Ey acc→acc.length+aT.length+(c::s).length<9000→
   ay W (n+3) .lInParts [.ref B,.int (ps t (c::s))] H=some (.ok (.int (ps t e)),H.set P (.list (aS acc' run')))) (ha':Ey acc→Ey acc') (he:e.length≤s.length) (hsf:Sf s e) (hal:acc'.length+run'.length+e.length≤acc.length+aT.length+(c::s).length)
  (h:dm W n t b0 B S D k acc' run' e res):dm W n t b0 B S D k acc aT (c::s) res:=by
 intro H F P st p nm dep hp hk x ha hl hs dl
 have h1:=h (H.set P (.list (aS acc' run'))) F P st p nm dep hp.updW hk (x.next.of hsf) (ha' ha) (by omega) (by simp at hs;omega) (dl.ag (Ag.set (X:=[S,P]) eJ) (IA hp.SD' hp.PD))
 exact wc (k8 hp x (hc H F P st p nm dep hp hk x ha hl)) (show 1+3*e.length+2≤3*(s.length+1) by omega) (Ag.set eJ) hp.PD hp.SD' hp.bk.DH h1
theorem wt (h:c='$'∨c='['):jG k c r=false:=by
 rcases h with rfl|rfl<;>rcases k with b|_|_<;>first|rfl|(cases b<;>rfl)
theorem FJ (hW:10002<W) (hs:∀q,s≠'{'::q) (hn:aX false s=s) (hp:∀q,s≠'('::q) (h:dm W n t b0 B S D k acc (aT++['$']) s res):dm W n t b0 B S D k acc aT ('$'::s) res:=
 vS (fun H F P st p nm dep h hk x ha hl=>gr h hk x (tD (n:=n) h x hs hn hp ha (by omega) (by omega) hW)) id (Nat.le_refl _) ⟨[],rfl⟩ (by simp;omega) h
theorem u4 (hv:∃c us,c≠['t','e','x','t']∧v=.tup (.str c::us)):Ey (acc++[v]):=by
 obtain⟨c,us,h,rfl⟩:=hv
 exact .inr ⟨acc,c,us,rfl,h⟩
theorem jS:aS acc []=acc:=by unfold aS;rw[if_pos rfl]
theorem Hx (hv:tL W n t b0 B S D s (.ok (v,e))) (hsf:Sf s e) (ht:∃c vs,c≠['t','e','x','t']∧v=.tup (.str c::vs)) (h:dm W n t b0 B S D k (aS acc aT++[v]) [] e res):dm W n t b0 B S D k acc aT ('$'::s) res:=by
 intro H F P st p nm dep hp hk x ha hl hs dl
 have fl:=b6 (acc:=acc) (aT:=aT)
 have le:=hsf.len
 simp only[List.length_cons]at hl hs
 obtain⟨j,H1,h1,h2,h3,h4⟩:=hv k H F P st p nm dep _ hp hk x (by omega) (by omega) dl
 have h5:=h H1 F P st p nm dep (by rw[jS];exact h4) hk (x.next.of hsf) (u4 ht) (by simp;omega) (by omega) (dl.ag h3 (IA hp.SD' hp.PD))
 exact wc h2 (h1.2 (Nat.lt_succ_of_le le)) h3 hp.PD hp.SD' hp.bk.DH h5
theorem AU (hv:tL W n t b0 B S D s (.error m)):dm W n t b0 B S D k acc aT ('$'::s) (.error m):=by
 intro H F P st p nm dep hp hk x ha hl hs dl
 have fl:=b6 (acc:=acc) (aT:=aT)
 simp only[List.length_cons]at hl hs
 exact hv k H F P st p nm dep _ hp hk x (by omega) (by omega) dl
theorem Ic (hv:Gg W n t b0 B S D s (.ok (q,e))) (hsf:Sf s e) (h:dm W n t b0 B S D k (aS acc aT++[cm q]) [] e res):dm W n t b0 B S D k acc aT ('['::s) res:=by
 intro H F P st p nm dep hp hk x ha hl hs dl
 have fl:=b6 (acc:=acc) (aT:=aT)
 have le:=hsf.len
 simp only[List.length_cons]at hl hs
 obtain⟨j,H1,h1,h2,h3,h4⟩:=hv k H F P st p nm dep _ hp hk x (by omega) (by omega) dl
 have h5:=h H1 F P st p nm dep (by rw[jS];exact h4) hk (x.next.of hsf) (u4 ⟨_,_,by decide,rfl⟩) (by simp;omega) (by omega) (dl.ag h3 (IA hp.SD' hp.PD))
 exact wc h2 (h1.2 (Nat.lt_succ_of_le le)) h3 hp.PD hp.SD' hp.bk.DH h5
theorem Bm (hv:Gg W n t b0 B S D s (.error m)):dm W n t b0 B S D k acc aT ('['::s) (.error m):=by
 intro H F P st p nm dep hp hk x ha hl hs dl
 have fl:=b6 (acc:=acc) (aT:=aT)
 simp only[List.length_cons]at hl hs
 exact hv k H F P st p nm dep _ hp hk x (by omega) (by omega) dl
theorem FP (hW:10002<W) (hf:k.isBare=true→∀r,s≠'\n'::r) (h:dm W n t b0 B S D k acc (aT++(cE s).1) (cE s).2 res):dm W n t b0 B S D k acc aT ('\\'::s) res:=by
 obtain⟨b1,b2⟩:=ow s
 refine vS (fun H F P st p nm dep h hk x ha hl=>uu (n:=n+1) h hk x ?_ ha (by omega) (by omega) hW) id b2 (lG s) (by simp;omega) h
 rcases k with b|_|_
 ·have:(('\\'::s).take 2==['\\','\n'])=false:=by
   rw[Bool.eq_false_iff]
   intro q
   obtain⟨r', -,e⟩:=eH.mp q
   exact hf rfl r' e
  show((gw b).contains ['\\']||_)=false
  rw[this]
  cases b<;>rfl
 ·rfl
 ·rfl
theorem w9:∀(p:Ch) (aT:Ch),(∀d∈p,dy k d=true)→dm W n t b0 B S D k acc (aT++p) s res→dm W n t b0 B S D k acc aT (p++s) res
 |[],aT,_,h=>by rwa[List.append_nil]at h
 |c::p,aT,hp,h=>by
  have pc:=hp c (.head _)
  unfold dy at pc
  simp only[Bool.and_eq_true,Bool.not_eq_true',List.contains_cons,List.contains_nil,Bool.or_eq_false_iff,beq_eq_false_iff_ne]at pc
  obtain⟨⟨h1,h2,h3, -⟩,hst⟩:=pc
  have ih:=w9 p (aT++[c]) (fun d hd=>hp d (.tail _ hd)) (by rw[List.append_assoc];exact h)
  refine vS (fun H F P st p' nm dep h hk x ha hl=>r9 (n:=n+1) h hk x ?_ h1 h2 h3 ha (by omega) (by omega)) id (Nat.le_refl _) ⟨[],rfl⟩ (by simp;omega) ih
  rcases k with b|_|_
  ·show((gw b).contains [c]||_)=false
   rw[show(gw b).contains [c]=false from hst,Bool.false_or,Bool.eq_false_iff]
   intro q
   obtain⟨r',e, -⟩:=eH.mp q
   exact h3 e
  ·exact hst
  ·exact hst
theorem uN {x0 y0:Nat} (bk:Bk t b0 B S D H1 [] (st++[.ref x0])) (fr:H1[x0]? =some (.dict (lR kind p y0 nm dep))) (wl:H1[y0]? =some (.list us)) (hx:D<x0) (hy:x0<y0):Pt t b0 B S D H1 x0 y0 st kind p nm dep us:=by
 have:=bk.BS
 have:=bk.SD
 exact⟨bk,fr,wl,by omega,by omega,by omega,by omega,by omega,by omega,by omega⟩
theorem Pt.under {P2:Nat} (h:Pt t b0 B S D H F P st kind p nm dep us) (ag:Ag [S] H H1) (h2:Ag [S,P2] H1 H2) (hP:H.length≤P2) (hl:H.length≤H1.length):H2[F]? =some (.dict (lR kind p P nm dep))∧H2[P]? =some (.list us):=by
 have fF:=bD h.fr
 have fP:=bD h.wl
 have a:=ag.get h.fr (lW (h.FS))
 have b:=ag.get h.wl (lW (h.PS))
 exact⟨h2.get a (jj ⟨h.FS,by omega⟩),h2.get b (jj ⟨h.PS,by omega⟩)⟩
theorem Pt.back (h:Pt t b0 B S D H F P st kind p nm dep us) (bk:Bk t b0 B S D H2 [] (st++[.ref F])) (fr:H2[F]? =some (.dict (lR kind p P nm dep))) (wl:H2[P]? =some (.list vs)):Pt t b0 B S D H2 F P st kind p nm dep vs:=
 ⟨bk,fr,wl,h.FB,h.FS,h.FD,h.PB,h.PS,h.PD,h.PF⟩
theorem xV {F1 P1:Nat}:∀(q r:Ch),'}'∉q→bc t (q++'}'::r)→Pt t b0 B S D H F1 P1 st dK p nm dep us→Go W n t b0 B q.length (ps t (q++'}'::r)) H (ps t ('}'::r)) H
 |[],r,_,_,_=>Go.refl
 |c::q,r,hq,x,h=>by
  have hc:c≠'}':=fun z=>hq (z▸.head _)
  exact Go.trans (Cu h x (lL (n:=n+2) h x hc)) (xV q r (fun z=>hq (.tail _ z)) x.next h) (show(q.length+1)=1+q.length by omega)
theorem oy {F1 P1:Nat}:∀(r:Ch),'}'∉r→bc t r→Pt t b0 B S D H F1 P1 st dK p nm dep us→Go W n t b0 B r.length (ps t r) H (ps t []) H
 |[],_,_,_=>Go.refl
 |c::r,hq,x,h=>by
  have hc:c≠'}':=fun z=>hq (z▸.head _)
  exact Go.trans (Cu h x (lL (n:=n+2) h x hc)) (oy r (fun z=>hq (.tail _ z)) x.next h) (show(r.length+1)=1+r.length by omega)
theorem zS {r:Ch} (hq:'}'∉q):tL W n t b0 B S D ('{'::(q++'}'::r)) (.ok (vr q .none,r)):=by
 intro k H F P st p nm dep us h hk x hl hs dl
 simp only[List.length_cons,List.length_append]at hl hs
 obtain⟨H1,k1,k2,k3,k4,k5⟩:=mi (W:=W) (n:=n) h x (by omega)
 have hP:=h.bk.DH
 have pt:=uN k2 k4 k5 hP (Nat.lt_succ_self _)
 have xq:bc t (q++'}'::r):=x.next.next
 have xr:bc t ('}'::r):=xq.of ⟨q,rfl⟩
 obtain⟨u1,u2⟩:=h.under k3 (Ag.refl (X:=[S,H.length])) (Nat.le_refl _) k3.1
 have cl:=sU (n:=n+2) (W:=W) pt xr rfl xq u1 u2 h.FS h.PS h.PB h.PD (by omega)
 have PH1:=bD u2
 have bp:=pt.bk.popped
 refine⟨1+(q.length+1),_,.two (by simp;omega),(k8 h x (gr h hk x k1)).trans ((xV q r hq xq pt).trans (Cu pt xr cl) rfl) rfl,?_,h.back ⟨?_,?_,bp.BS,bp.SD,(iV (iV pt.bk.DH)),bp.len⟩ ?_ ?_⟩
 ·exact(k3.trans (Ag.set (X:=[S]) (.head _)) (fun _ q _=>q) (fun _ q _=>q)).trans (Ag.set (X:=[P]) (.head _)) (sC (.head _) sZ) (sC eJ sZ)
 ·rw[aO h.PB];exact bp.bk
 ·rw[aO h.PS];exact bp.sk
 ·rw[aO h.PF,aO (Ne.symm h.FS)];exact u1
 ·exact cS (iV PH1)
theorem tX {r:Ch} (hT:t.length≤10000) (hq:'}'∉r):tL W n t b0 B S D ('{'::r) (.error rI):=by
 intro k H F P st p nm dep us h hk x hl hs dl
 simp only[List.length_cons]at hl hs
 obtain⟨H1,k1,k2,k3,k4,k5⟩:=mi (W:=W) (n:=n) h x (by omega)
 have hP:=h.bk.DH
 have pt:=uN k2 k4 k5 hP (Nat.lt_succ_self _)
 refine dq.ofE ((k8 h x (gr h hk x k1)).transE ((oy r hq x.next.next pt).transE (fm hT (by rw[fU];exact Int.le_refl _)) rfl) rfl) (show 1+(r.length+1)≤3*(r.length+2)+3 by omega) (k3.2 D hP (lW (Ne.symm h.SD'))) (jt pt.bk pt.fr rfl hT rfl rfl (by decide))
theorem Hz {r:Ch} (hW:10002<W) (hs:∀q,s≠'{'::q) (e1:s=q++r) (hne:q≠[]) (hn:aX false s=r) (hp:∀q,r≠'('::q):tL W n t b0 B S D s (.ok (vr q .none,r)):=by
 intro k H F P st p nm dep us h hk x hl hs' dl
 have le:=congrArg List.length e1
 simp only[List.length_append]at le
 exact⟨1,_,.two (by simp;omega),k8 h x (gr h hk x (ut (n:=n) h x hs e1 hne hn hp (by omega) hW)),Ag.set eJ,h.updW⟩
theorem B7 {r:Ch} {res:Except Ch (List V×Ch)} (hW:10002<W) (hT:t.length≤10000) (hs:∀q,s≠'{'::q) (e1:s=q++'('::r) (hn:aX false s='('::r) (hp:dm W n t b0 B S D .paren [] [] r res) (hr:∀vs e,res=.ok (vs,e)→Sf r e∧(e=[]∨∃e',e=')'::e')∧vs.length<9000):
  tL W n t b0 B S D s (HX q res):=by
 intro k H F P st p nm dep us h hk x hl hs' dl
 have le:=congrArg List.length e1
 simp only[List.length_append,List.length_cons]at le
 obtain⟨H1,k1,k2,k3,k4,k5⟩:=rn (W:=W) (n:=n) h x hs e1 hn (by omega) hW
 have hP:=h.bk.DH
 have pt:=uN k2 k4 k5 hP (Nat.lt_succ_self _)
 have xr:bc t r:=x.next.of ⟨q++['('],by rw[e1];simp⟩
 have D1:=k3.2 D hP (lW (Ne.symm h.SD'))
 have g0:=k8 h x (gr h hk x k1)
 have q1:=hp H1 H.length (H.length+1) (st++[.ref F]) (ps t r) q 1 pt trivial xr (.inl rfl) (show 0+0+r.length<9000 by omega) (ET (by omega)) (dl.ag k3 (lW (Ne.symm h.SD')))
 cases res with
 |error m=>exact dq.of g0 (show 1+3*r.length≤3*(s.length+1) by omega) D1 q1
 |ok z=>
  obtain⟨vs,e⟩:=z
  obtain⟨sf,he,hv⟩:=hr vs e rfl
  obtain⟨j,H2,q2,q3,q4,q5⟩:=q1
  have le2:=sf.len
  rcases he with rfl|⟨e',rfl⟩
  ·have D2:H2[D]? =H1[D]? :=q4.2 D pt.bk.DH (jj ⟨Ne.symm h.SD',by omega⟩)
   exact dq.ofE (g0.transE (q3.transE (fm hT (by rw[fU];exact Int.le_refl _)) rfl) rfl) (by have:=q2.1;simp at this⊢;omega) (by rw[D2,D1]) (jt q5.bk q5.fr rfl hT rfl rfl (by decide))
  ·obtain⟨u1,u2⟩:=h.under k3 q4 (by omega) k3.1
   have PH2:=bD u2
   have bp:=q5.bk.popped
   have cl:=th (n:=n+2) (W:=W) q5 (xr.of sf) u1 u2 h.FS h.PS hv (by omega)
   refine⟨1+(j+1),_,.two (by have:=q2.1;simp at this⊢;omega),g0.trans (q3.trans (k8 (kd:=.paren) q5 (xr.of sf) cl) rfl) rfl,?_,h.back ⟨?_,?_,bp.BS,bp.SD,(iV (iV q5.bk.DH)),bp.len⟩ ?_ ?_⟩
   ·exact((k3.trans q4 (Z:=[S,P]) (sC (.head _) sZ) (by simp;omega)).trans (Ag.set (X:=[S]) (.head _)) (Z:=[S,P]) (fun _ q _=>q) (sC (.head _) sZ)).trans (Ag.set (X:=[P]) (.head _)) (fun _ q _=>q) (sC eJ sZ)
   ·rw[aO h.PB];exact bp.bk
   ·rw[aO h.PS];exact bp.sk
   ·rw[aO h.PF,aO (Ne.symm h.FS)];exact u1
   ·exact cS (iV PH2)
end
end Mine
end
section
namespace Mine
open PySem (PyData)
section
variable {W n:Nat} {t s s' r e a w:Ch} {c:Char} {H H' H1 H2 Hf:List O} {Φ:ci} {lo:List (Option V)} {i j j1 j2 j' j0:Nat} {v u:V} {vs ws us acc:List V} {es:List (Ch×V)} {o o':O}
 {b0 sb:Bool} {B S D F P F' P':Nat} {f nm kind m q:Ch} {st done:List V} {aj aL ax p dep:Int} {ai:Ch} {aQ:Bool} {x y z:Int} {k:Kd}
theorem lT:(mq ai==be)=false:=by
 unfold mq;split<;>rfl
theorem yV:mq (mq ai)=mq ai:=by
 unfold mq
 split
 ·rw[if_pos rfl]
 ·rw[if_neg (by decide)]
inductive uz (W n:Nat) (t:Ch) (b0:Bool) (B S D F P:Nat) (st:List V) (aj:Int) (ws:List V) (aL ax:Int) (aQ:Bool) (s g:Ch) (H:List O) (ai:Ch):Prop
 |mk (j:Nat) (H':List O) (state':Ch):j+g.length≤s.length→Go W n t b0 B j (ps t s) H (ps t g) H'→Sc t b0 B S D H' F P st aj state' ws aL ax aQ→Ag [F] H H'→((g=s∧state'=ai)∨(g.length<s.length∧state'=mq ai))→uz W n t b0 B S D F P st aj ws aL ax aQ s g H ai
theorem lH {α:Type} {X:List α} {p:α→Prop}:∀m∈X,p m→m∈X:=fun _ q _=>q
theorem uz.step {g:Ch} (k:Go W n t b0 B 1 (ps t s) H (ps t r) H1) (k3:Ag [F] H H1) (hl:r.length<s.length) (ih:uz W n t b0 B S D F P st aj ws aL ax aQ r g H1 (mq ai)):uz W n t b0 B S D F P st aj ws aL ax aQ s g H ai:=by
 obtain⟨j,H2,st2,i1,i2,i3,i4,i5⟩:=ih
 refine⟨1+j,H2,st2,by omega,k.trans i2 rfl,i3,k3.trans i4 lH lH,.inr ⟨by omega,?_⟩⟩
 exact i5.elim (fun q=>q.2) fun q=>q.2.trans yV
theorem nJ:∀(l:Nat) (s:Ch) (H:List O) (ai:Ch),s.length≤l→Sc t b0 B S D H F P st aj ai ws aL ax aQ→(ai==be)=false→bc t s→
  uz W n t b0 B S D F P st aj ws aL ax aQ s (skipGaps s) H ai
 |_,[],H,ai,_,h,_,_=>⟨0,H,ai,Nat.le_refl _,Go.refl,h,Ag.refl,.inl ⟨rfl,rfl⟩⟩
 |l+1,c::r,H,ai,hl,h,hs,x=>by
  have hl':r.length≤l:=Nat.le_of_succ_le_succ hl
  by_cases hg:iy c=true
  ·obtain⟨H1,k1,k2,k3⟩:=oY (W:=W) (n:=n+2) h x hs (by rw[hg];rfl)
   rw[if_neg (fun q:c='\\'=>by subst q;exact absurd hg (by decide)),bC]at k1
   rw[ey hg]
   exact .step (eN h x k1) k3 (Nat.lt_succ_self _) (nJ l r H1 (mq ai) hl' k2 lT x.next)
  ·by_cases h2:∃r',c='\\'∧r='\n'::r'
   ·have t2:=eH.mpr h2
    obtain⟨r',rfl,rfl⟩:=h2
    obtain⟨H1,k1,k2,k3⟩:=oY (W:=W) (n:=n+2) h x hs (by rw[t2,Bool.or_true])
    rw[if_pos rfl,fN]at k1
    rw[fC]
    exact .step (eN h x k1) k3 (Nat.lt_succ_of_lt (Nat.lt_succ_self _)) (nJ l r' H1 (mq ai) (Nat.le_of_succ_le hl') k2 lT x.next.next)
   ·rw[fp (eq_false_of_ne_true hg) h2]
    exact⟨0,H,ai,Nat.le_of_eq (Nat.zero_add _),Go.refl,h,Ag.refl,.inl ⟨rfl,rfl⟩⟩
inductive zb (W n:Nat) (t:Ch) (b0:Bool) (B S D F P:Nat) (st:List V) (aj:Int) (ws:List V) (aL ax:Int) (aQ:Bool) (s g:Ch) (H:List O):Prop
 |ok (j:Nat) (H':List O):j+g.length≤s.length→Go W n t b0 B j (ps t s) H (ps t g) H'→Sc t b0 B S D H' F P st aj aJ ws aL ax aQ→Ag [F] H H'→zb W n t b0 B S D F P st aj ws aL ax aQ s g H
 |off (e:g=[]) (j:Nat):j≤s.length+1→CD W n t b0 B j (ps t s) H H→zb W n t b0 B S D F P st aj ws aL ax aQ s g H
theorem zb.step {g:Ch} (k:Go W n t b0 B 1 (ps t s) H (ps t r) H) (hl:r.length<s.length) (ih:zb W n t b0 B S D F P st aj ws aL ax aQ r g H):zb W n t b0 B S D F P st aj ws aL ax aQ s g H:=by
 cases ih with
 |ok j H' i1 i2 i3 i4=>exact .ok (1+j) H' (by omega) (k.trans i2 rfl) i3 i4
 |off e j i1 i2=>exact .off e (1+j) (by omega) (k.transE i2 rfl)
theorem kN (hT:t.length≤10000):∀(l:Nat) (s:Ch),s.length≤l→Sc t b0 B S D H F P st aj be ws aL ax aQ→bc t s→zb W n t b0 B S D F P st aj ws aL ax aQ s (bB s) H
 |_,[],_,h,_=>.off rfl 1 (Nat.le_refl _) (fm hT (by rw[fU];exact Int.le_refl _))
 |l+1,c::r,hl,h,x=>by
  have hl':r.length≤l:=Nat.le_of_succ_le_succ hl
  have k1:=oX (W:=W) (n:=n+2) h x
  by_cases h1:c='\\'
  ·subst h1
   rw[if_pos rfl,if_neg (by decide)]at k1
   rcases r with _|⟨d,r⟩
   ·refine .off rfl (1+1) (Nat.le_refl _) ((eN h x k1).transE (fm hT ?_) rfl)
    have:ps t ['\\']=(t.length:Int)-1:=rfl
    omega
   ·rw[fN]at k1
    rw[show bB ('\\'::d::r)=bB r by rw[bB]]
    exact .step (eN h x k1) (Nat.lt_succ_of_lt (Nat.lt_succ_self _)) (kN hT l r (Nat.le_of_succ_le hl') h x.next.next)
  ·rw[if_neg h1,bC]at k1
   by_cases h2:c='\n'
   ·subst h2
    rw[if_pos rfl]at k1
    exact .ok 1 _ (by rw[bB,Nat.add_comm];exact Nat.le_refl _) (eN h x k1) h.upd (Ag.set (.head _))
   ·rw[if_neg h2]at k1
    rw[fh h1 h2]
    exact .step (eN h x k1) (Nat.lt_succ_self _) (kN hT l r hl' h x.next)
inductive Ar (W n:Nat) (t:Ch) (b0:Bool) (B S D F:Nat) (st:List V) (aj aL ax:Int) (aQ:Bool) (done:List V) (s g:Ch) (H:List O) (P:Nat):Prop
 |ok (j:Nat) (H':List O) (P':Nat):(P'=P∨H.length≤P')→j+g.length≤s.length→Go W n t b0 B j (ps t s) H (ps t g) H'→Sc t b0 B S D H' F P' st aj aJ [] aL ax aQ→Ag [F,D] H H'→H'[D]? =some (.list done)→Ar W n t b0 B S D F st aj aL ax aQ done s g H P
 |off (e:g=[]) (j:Nat) (H':List O) (P':Nat) (state':Ch):j≤s.length+1→CD W n t b0 B j (ps t s) H H'→Sc t b0 B S D H' F P' st aj state' [] aL ax aQ→Ag [F,D] H H'→H'[D]? =some (.list done)→Ar W n t b0 B S D F st aj aL ax aQ done s g H P
theorem Ar.step {g:Ch} {P2:Nat} (p1:P2=P∨H.length≤P2) (e3:j2+r.length≤s.length) (k:Go W n t b0 B j2 (ps t s) H (ps t r) H2) (a2:Ag [F,D] H H2) (ih:Ar W n t b0 B S D F st aj aL ax aQ done r g H2 P2):Ar W n t b0 B S D F st aj aL ax aQ done s g H P:=by
 cases ih with
 |ok j3 H3 P3 kp k1 k2 k3 k4 k5=>exact .ok (j2+j3) H3 P3 (kp.elim (fun q=>q▸p1) (fun q=>.inr (Nat.le_trans a2.1 q))) (by omega) (k.trans k2 rfl) k3 (a2.trans k4 lH lH) k5
 |off k0 j3 H3 P3 st3 k1 k2 k3 k4 k5=>exact .off k0 (j2+j3) H3 P3 st3 (by omega) (k.transE k2 rfl) k3 (a2.trans k4 lH lH) k5
theorem IL {a b:Nat} (h:a≠b):a∉[b]:=fun q=>h (List.mem_singleton.mp q)
theorem Jr {a b c:Nat} (h:a≠b) (h':a≠c):a∉[b,c]:=fun q=>(List.mem_cons.mp q).elim h (IL h')
theorem Ag.wide {X Y:List Nat} (h:Ag X H H') (k:∀m∈X,m∈Y):Ag Y H H':=⟨h.1,fun m hm hy=>h.2 m hm fun q=>hy (k m q)⟩
theorem A9 {a:Nat} {X:List Nat} (h:a∈X):∀m∈[a],m∈X:=fun _ q=>List.mem_singleton.mp q▸h
theorem IG {a b:Nat} {X:List Nat} (h:a∈X) (h':b∈X):∀m∈[a,b],m∈X:=fun _ q=>(List.mem_cons.mp q).elim (fun q=>q▸h) (A9 h' _)
theorem lX (hT:t.length≤10000) (hd:done.length<9000):∀(l:Nat) (s:Ch) (H:List O) (P:Nat),s.length<l→Sc t b0 B S D H F P st aj aJ [] aL ax aQ→bc t s→H[D]? =some (.list done)→
  Ar W n t b0 B S D F st aj aL ax aQ done s (b8 l s) H P
 |l+1,s,H,P,hl,h,x,hD=>by
  obtain⟨j,H1,st1,i1,i2,i3,i4,i5⟩:=nJ (W:=W) (n:=n) s.length s H aJ (Nat.le_refl _) h rfl x
  have e1:st1=aJ:=i5.elim (fun q=>q.2) fun q=>q.2
  rw[e1]at i3
  have hD1:H1[D]? =some (.list done):=i4.get hD (IL (Ne.symm h.FD))
  have xs:=x.of (bn s)
  have a0:Ag [F,D] H H1:=i4.wide (A9 (.head _))
  cases e:skipGaps s with
  |nil=>
   rw[fe (fun c r q=>by rw[e]at q;cases q),e]
   rw[e]at i1 i2
   exact .ok j H1 P (.inl rfl) i1 i2 i3 a0 hD1
  |cons c r=>
   rw[e]at i1 i2 xs
   have i1:j+(r.length+1)≤s.length:=i1
   by_cases hc:iM c=true
   ·refine Ar.step (.inl rfl) i1 i2 a0 ?_
    rcases Bool.or_eq_true_iff.mp hc with hc'|hc'
    ·have hc2:term c=true:=by
      rcases Bool.or_eq_true_iff.mp hc' with q|q<;>(rw[eq_of_beq q];rfl)
     obtain⟨H2,P2,kp,k1,k2,k3,k4⟩:=mU (W:=W) (n:=n+1) i3 xs rfl hc2 hD1 (Nat.zero_lt_succ _) hd
     rw[if_neg (fun q=>q.1 rfl)]at k4
     have e2:b8 (l+1) s=b8 l r:=by
      rw[b8,e]
      rcases Bool.or_eq_true_iff.mp hc' with q|q<;>(rw[eq_of_beq q];rfl)
     rw[e2]
     exact Ar.step (.inr kp) (Nat.le_of_eq (Nat.add_comm _ _)) (eN i3 xs k1) k3 (lX hT hd l r H2 P2 (by omega) k2 xs.next k4)
    ·have hc':c='#':=eq_of_beq hc'
     subst hc'
     have s1:Sc t b0 B S D (H1.set F (.dict (kt aj be P aL ax aQ))) F P st aj be [] aL ax aQ:=i3.upd
     have d1:(H1.set F (.dict (kt aj be P aL ax aQ)))[D]? =some (.list done):=(aO h.FD).trans hD1
     have bl:=jr r
     have e2:b8 (l+1) s=b8 l (bB r):=by
      rw[b8,e]
      show b8 l (bB ('#'::r))=_
      rw[iH]
     rw[e2]
     refine Ar.step (P2:=P) (.inl rfl) (Nat.le_of_eq (Nat.add_comm _ _)) (eN i3 xs (uY (W:=W) (n:=n+2) i3 xs)) (Ag.set (.head _)) ?_
     cases kN (W:=W) (n:=n) hT r.length r (Nat.le_refl _) s1 xs.next with
     |ok j2 H2 k1 k2 k3 k4=>exact Ar.step (.inl rfl) k1 k2 (k4.wide (A9 (.head _))) (lX hT hd l (bB r) H2 P (by omega) k3 (xs.next.of (eh _ r (Nat.le_refl _))) (k4.get d1 (IL (Ne.symm h.FD))))
     |off k0 j2 k1 k2=>
      rw[k0]
      exact .off (by cases l<;>rfl) j2 _ P be k1 k2 s1 Ag.refl d1
   ·have st:∀d r',skipGaps s=d::r'→iM d=false:=fun d r' q=>by rw[e]at q;cases q;exact eq_false_of_ne_true hc
    rw[fe st,e]
    exact .ok j H1 P (.inl rfl) i1 i2 i3 a0 hD1
structure Un (B S D:Nat) (H:List O) (F P:Nat) (aj:Int) (ai:Ch) (ws:List V) (aL ax:Int) (aQ:Bool):Prop where
 fr:H[F]? =some (.dict (kt aj ai P aL ax aQ))
 wl:H[P]? =some (.list ws)
 FB:F≠B
 FS:F≠S
 FD:F≠D
 PB:P≠B
 PS:P≠S
 PD:P≠D
 PF:P≠F
theorem Un.ag {X:List Nat} (h:Un B S D H F P aj ai ws aL ax aQ) (g:Ag X H H') (h1:F∉X) (h2:P∉X):Un B S D H' F P aj ai ws aL ax aQ:=⟨g.get h.fr h1,g.get h.wl h2,h.FB,h.FS,h.FD,h.PB,h.PS,h.PD,h.PF⟩
theorem Sc.un (h:Sc t b0 B S D H F P st aj ai ws aL ax aQ):Un B S D H F P aj ai ws aL ax aQ:=⟨h.fr,h.wl,h.FB,h.FS,h.FD,h.PB,h.PS,h.PD,h.PF⟩
theorem Un.sc (h:Un B S D H F P aj ai ws aL ax aQ) (bk:Bk t b0 B S D H [] (st++[.ref F]++[v])):Sc t b0 B S D (H.set S (.list (st++[.ref F]))) F P st aj ai ws aL ax aQ:=
 ⟨bk.popped,by rw[aO (Ne.symm h.FS)];exact h.fr,by rw[aO (Ne.symm h.PS)];exact h.wl,h.FB,h.FS,h.FD,h.PB,h.PS,h.PD,h.PF⟩
inductive Hu (W n:Nat) (t:Ch) (b0:Bool) (B S D F P:Nat) (st:List V) (Fs Ps:Nat) (aj:Int) (ws:List V) (aL:Int) (aQ:Bool) (s:Ch) (H:List O) (i e:Ch):Prop
 |mk (j:Nat) (H':List O):j+3*e.length≤3*s.length→Go W n t b0 B j (ps t s) H (ps t e) H'→Sc t b0 B S D H' Fs Ps st aj aR (ws++[wd aQ (aS [] i)]) aL (ps t e) false→Ag [F,P,S,Fs,Ps] H H'→Hu W n t b0 B S D F P st Fs Ps aj ws aL aQ s H i e
noncomputable def GT (W n:Nat) (t:Ch) (b0:Bool) (B S D F P:Nat) (st:List V) (Fs Ps:Nat) (aj:Int) (ws:List V) (aL:Int) (aQ:Bool) (s:Ch) (H:List O):Option (Ch×Ch)→Prop
 |some (i,e)=>Hu W n t b0 B S D F P st Fs Ps aj ws aL aQ s H i e
 |none=>dq W n t b0 B D 3 s H jL
theorem GT.step {Fs Ps:Nat} {res:Option (Ch×Ch)} (g:Go W n t b0 B 1 (ps t s) H (ps t e) H1) (hl:e.length<s.length) (ag:Ag [F,P] H H1) (hD:H1[D]? =H[D]?) (ih:GT W n t b0 B S D F P st Fs Ps aj ws aL aQ e H1 res):GT W n t b0 B S D F P st Fs Ps aj ws aL aQ s H res:=by
 cases res with
 |none=>exact dq.of g (by omega) hD ih
 |some q=>
  obtain⟨i,e'⟩:=q
  obtain⟨j,H2,k1,k2,k3,k4⟩:=ih
  exact⟨1+j,H2,by omega,g.trans k2 rfl,k3,ag.trans k4 (fun m q _=>IG (.head _) (.tail _ (.head _)) m q) lH⟩
theorem mL {Fs Ps:Nat} (hW:10002<W) (hT:t.length≤10000):∀(l:Nat) (s:Ch) (H:List O) (d:Nat) (acc:Ch),s.length≤l→Pt t b0 B S D H F P (st++[.ref Fs]) bb p nm d (aS [] acc)→Un B S D H Fs Ps aj ai ws aL ax aQ→Fs∉[F,P]→Ps∉[F,P]→bc t s→1≤d→acc.length+s.length<8900→ws.length<8900→
  GT W n t b0 B S D F P st Fs Ps aj ws aL aQ s H (fD false d acc s)
 |_,[],H,d,acc,_,h,un,n1,n2,x,hd,hl,hw=>by
  show dq W n t b0 B D 3 [] H jL
  exact dq.ofE (fm hT (by rw[fU];exact Int.le_refl _)) (by omega) rfl (jt h.bk h.fr rfl hT rfl rfl (by decide))
 |l+1,c::r,H,d,acc,hm,h,un,n1,n2,x,hd,hl,hw=>by
  have hm':r.length≤l:=Nat.le_of_succ_le_succ hm
  have hl:acc.length+(r.length+1)<8900:=hl
  have fin:∀{e:Ch} {H1:List O} {d':Nat} {acc':Ch},fD false d acc (c::r)=fD false d' acc' e→e.length≤r.length→Go W n t b0 B 1 (ps t (c::r)) H (ps t e) H1→Pt t b0 B S D H1 F P (st++[.ref Fs]) bb p nm d' (aS [] acc')→Ag [F,P] H H1→bc t e→1≤d'→acc'.length+e.length≤acc.length+(r.length+1)→
    GT W n t b0 B S D F P st Fs Ps aj ws aL aQ (c::r) H (fD false d acc (c::r)):=fun {e H1 d' acc'} e1 e2 g hp ag xe hd' hl'=>
   e1▸GT.step g (Nat.lt_succ_of_le e2) ag (ag.2 D h.bk.DH (Jr (Ne.symm h.FD) (Ne.symm h.PD))) (mL hW hT l e H1 d' acc' (Nat.le_trans e2 hm') hp (un.ag ag n1 n2) n1 n2 xe hd' (Nat.lt_of_le_of_lt hl' hl) hw)
  have hr:acc.length<9000:=by omega
  have one:∀(z:Char),(acc++[z]).length+r.length≤acc.length+(r.length+1):=fun z=>by rw[List.length_append];exact Nat.le_of_eq (Nat.add_right_comm _ _ _)
  have agP:∀{o:O},Ag [F,P] H (H.set P o):=Ag.set (.tail _ (.head _))
  have agFP:∀{o o':O},Ag [F,P] H ((H.set F o).set P o'):=(Ag.set (X:=[F,P]) (.head _)).trans (Ag.set (X:=[F,P]) (.tail _ (.head _))) lH lH
  by_cases h1:c='{'
  ·subst h1
   have hp:Pt t b0 B S D ((H.set F (.dict (lR bb p P nm (d+1)))).set P (.list (aS [] (acc++['{'])))) F P (st++[.ref Fs]) bb p nm ((d+1:Nat):Int) (aS [] (acc++['{'])):=h.upd.updW
   exact fin ia (Nat.le_refl _) (pq h x (uH (n:=n+1) h x hr)) hp agFP x.next (Nat.le_succ_of_le hd) (one _)
  ·by_cases h2:c='}'
   ·subst h2
    by_cases hd1:d=1
    ·subst hd1
     rw[gB]
     have bk0:=(h.upd (d':=0)).bk
     have un0:=un.ag (Ag.set (H:=H) (o:=.dict (lR bb p P nm 0)) (X:=[F]) (.head _)) (fun q=>n1 (A9 (.head _) _ q)) (fun q=>n2 (A9 (.head _) _ q))
     have fz:(aS [] acc).length<9000:=Nat.lt_of_le_of_lt (b6 (acc:=[]) (aT:=acc)) (by rw[List.length_nil];omega)
     obtain⟨H',k1,k2,k3⟩:=u9 (W:=W) (n:=n+1) h x (un0.sc bk0) fz (by omega)
     exact⟨1,H',by rw[List.length_cons];omega,pq h x k1,k2,k3.wide fun m q=>(List.mem_cons.mp q).elim (fun q=>q▸.head _) fun q=>.tail _ (.tail _ q)⟩
    ·have hp:Pt t b0 B S D ((H.set F (.dict (lR bb p P nm ((d:Int)-1)))).set P (.list (aS [] (acc++['}'])))) F P (st++[.ref Fs]) bb p nm ((d-1:Nat):Int) (aS [] (acc++['}'])):=by
      rw[show((d-1:Nat):Int)=(d:Int)-1 by omega]
      exact h.upd.updW
     exact fin (kh hd1) (Nat.le_refl _) (pq h x (rk (n:=n+1) h x hr (by omega))) hp agFP x.next (by omega) (one _)
   ·by_cases h3:c='\\'
    ·subst h3
     rcases r with _|⟨d',r⟩
     ·rw[jW]
      refine dq.ofE ((pq h x (vz (n:=n+1) h x hr)).transE (fm hT ?_) rfl) (show 1+1≤3*1+3 by decide) (aO h.PD) (jt h.updW.bk h.updW.fr rfl hT rfl rfl (by decide))
      have:ps t ['\\']=(t.length:Int)-1:=rfl
      omega
     ·by_cases hn:d'='\n'
      ·subst hn
       have bl:(bJ r).length≤r.length:=Sf.len (dj r)
       exact fin (by rw[mO,d8]) (Nat.le_succ_of_le bl) (pq h x (zf (n:=n+1) h x hr hW)) h.updW agP (x.next.next.of (dj r)) hd (by rw[List.length_append];exact Nat.le_trans (Nat.add_le_add_left bl _) (Nat.le_succ_of_le (Nat.le_of_eq (Nat.add_right_comm _ 1 _))))
      ·exact fin (mP hn) (Nat.le_succ _) (pq h x (yR (n:=n+1) h x hn hr)) h.updW agP x.next.next hd (by rw[List.length_append];exact Nat.le_of_eq (Nat.add_right_comm _ 2 _))
    ·have hp:=dR.mpr ⟨h1,h2,h3⟩
     exact fin (eU hp) (Nat.le_refl _) (pq h x (rR (n:=n+1) h x hp hr)) h.updW agP x.next hd (one _)
end
end Mine
end
section
namespace Mine
open PySem (PyData)
section
variable {W n:Nat} {t s s' r e a w:Ch} {c:Char} {H H' H1 H2 Hf:List O} {Φ:ci} {lo:List (Option V)} {i j j1 j2 j' j0:Nat} {v u:V} {vs ws us acc:List V} {es:List (Ch×V)} {o o':O}
 {b b0 sb:Bool} {B S D F P F' P':Nat} {f nm kind m q:Ch} {st done:List V} {aj aL ax p dep bg:Int} {ai:Ch} {aQ x:Bool} {y z:Int} {k:Kd}
inductive WS (b:Bool) (s:Ch):Prop
 |mk (c:Char) (r:Ch):s=c::r→skipGaps s=s→term c=false→¬(b=true∧c=']')→WS b s
inductive Ig (W n:Nat) (t:Ch) (b0:Bool) (B S D:Nat) (s:Ch) (H:List O) (F P:Nat) (st:List V) (aj:Int) (ws:List V) (bg:Int) (x:Bool):Prop
 |mk (j0:Nat) (Hp H1:List O) (mK:Ch) (ws1:List V) (beg1 last1:Int) (more1 sb:Bool) (st2:Ch) (last2:Int):Go W n t b0 B j0 (ps t s) H (ps t (body s)) Hp→j0+3*(body s).length≤3*s.length→Ag [S,F,P] H Hp→Sc t b0 B S D Hp F P st aj mK ws1 beg1 last1 more1→(mK==be)=false→
  (∀c r,body s=c::r→(∀{Φ:ci},EV Φ ⟨dY t B F (ps t (c::r)) c mK none,Hp⟩ fg (.bool sb) ⟨dY t B F (ps t (c::r)) c mK none,Hp⟩)∧ql t B F (ps t (c::r)) c mK sb Hp H1)→
  Sc t b0 B S D H1 F P st aj st2 ws bg last2 x→Ag [F,P] Hp H1→Ig W n t b0 B S D s H F P st aj ws bg x
inductive oo (W:Nat) (n:Nat) (t:Ch) (s:Ch) (r:Ch) (c:Char) (H:List O) (ws:List V) (b0:Bool) (B:Nat) (S:Nat) (D:Nat) (F:Nat) (P:Nat) (st:List V) (aj:Int) (bg:Int) (x:Bool):Prop
 |mk:∀j H2 F1 st2 last2,(Go W n t b0 B j (ps t s) H (if c='"'∨c='{' then ps t r else ps t (c::r)) H2)→j+3*r.length+2≤3*s.length→(Pt t b0 B S D H2 F1 (F1+1) (st++[.ref F]) (if c='"' then fw else if c='{' then bb else bH) (if c='"'∨c='{' then ps t r else ps t (c::r)) [] 1 [])→Un B S D H2 F P aj st2 ws bg last2 x→Ag [S,F,P] H H2→H.length≤F1→oo W n t s r c H ws b0 B S D F P st aj bg x
theorem Ig.open (h:Ig W n t b0 B S D s H F P st aj ws bg x) (hw:body s=c::r) (hb:b=(b0||decide (0<st.length))) (hs:WS b (c::r)) (xs:bc t (c::r)) (hl:st.length<6000):
  oo W n t s r c H ws b0 B S D F P st aj bg x:=by
 obtain⟨j0,Hp,H1,mK,ws1,beg1,last1,more1,sb,st2,last2,g,hj,ag,sc,hc,hst,sc1,ag1⟩:=h
 obtain⟨st',pre⟩:=hst c r hw
 obtain⟨c',r',e1,ng,tm,inn⟩:=hs
 cases e1
 rw[hw]at g hj
 simp only[List.length_cons]at hj
 obtain⟨H2,k1,k2,k3,k4,k5⟩:=m8 (W:=W) (n:=n+1) sc xs hc ng tm (fun q=>inn ⟨hb▸q.1,q.2⟩) st' pre sc1.bk (by omega)
 have dh:=sc1.bk.DH
 refine⟨j0+1,H2,H1.length,st2,last2,g.trans (eN sc xs k1) rfl,by omega,uN k2 k4 k5 dh (Nat.lt_succ_self _),sc1.un.ag k3 (lW (sc1.FS)) (lW (sc1.PS)),?_,Nat.le_trans ag.1 ag1.1⟩
 exact(ag.trans ag1 (fun _ q _=>q) (sC eJ (sC jp sZ))).trans k3 (fun _ q _=>q) (sC (.head _) sZ)
inductive q9 (t:Ch) (s:Ch) (H:List O) (ws:List V) (b0:Bool) (B:Nat) (S:Nat) (D:Nat) (F:Nat) (P:Nat) (st:List V) (aj:Int) (aL:Int) (ax:Int) (ai:Ch) (c:Char) (r:Ch):Prop
 |mk:∀H1,ql t B F (ps t (c::r)) c ai false H H1→Sc t b0 B S D H1 F P st aj ai ws (if ai=aJ then ps t s else aL) ax false→Ag [F,P] H H1→q9 t s H ws b0 B S D F P st aj aL ax ai c r
theorem yB (h:Sc t b0 B S D H F P st aj ai ws aL ax false) (hst:(ai=aJ∧∀q,s≠'#'::q)∨ai=fL) (c:Char) (r:Ch) (e:s=c::r):q9 t s H ws b0 B S D F P st aj aL ax ai c r:=by
 rcases hst with⟨rfl,hh⟩|rfl
 ·exact⟨_,zH h (fun q=>hh r (by rw[e,q])),by rw[if_pos rfl,e];exact h.upd,Ag.set (.head _)⟩
 ·exact⟨H,Dw,by rw[if_neg (by decide)];exact h,Ag.refl⟩
inductive px (W:Nat) (n:Nat) (t:Ch) (H:List O) (ws:List V) (b0:Bool) (B:Nat) (S:Nat) (D:Nat) (F:Nat) (P:Nat) (st:List V) (aj:Int) (aL:Int) (ai:Ch) (r:Ch):Prop
 |mk:∀j H3,Go W n t b0 B j (ps t ('{'::'*'::'}'::r)) H (ps t r) H3→j+3*r.length≤3*('{'::'*'::'}'::r).length→Ag [S,F,P] H H3→Sc t b0 B S D H3 F P st aj aR (ws++[wd false [txt ['*']]]) (if ai=aJ then ps t ('{'::'*'::'}'::r)else aL) (ps t r) false→px W n t H ws b0 B S D F P st aj aL ai r
theorem ui {r:Ch} (hW:10002<W) (hT:t.length≤10000) (h:Sc t b0 B S D H F P st aj ai ws aL ax false) (hst:(ai=aJ∧∀q,'{'::'*'::'}'::r≠'#'::q)∨ai=fL) (hb:b=(b0||decide (0<st.length))) (hs:WS b ('{'::'*'::'}'::r)) (x:bc t ('{'::'*'::'}'::r)) (hl:r.length<7997) (hw:ws.length<8000) (hd:st.length<5999):
  px W n t H ws b0 B S D F P st aj aL ai r:=by
 obtain⟨H1,p1,p2,p3⟩:=yB h hst '{' ('*'::'}'::r) rfl
 have sno:∀{c r} {Φ:ci},EV Φ ⟨dY t B F (ps t (c::r)) c ai none,H⟩ fg (.bool false) ⟨dY t B F (ps t (c::r)) c ai none,H⟩:=by
  intro c r Φ
  exact iR (by rcases hst with⟨rfl, -⟩|rfl<;>rfl)
 have scm:(ai==be)=false:=by rcases hst with⟨rfl, -⟩|rfl<;>rfl
 obtain⟨c',r',e',ng,tm,inn⟩:=hs
 cases e'
 obtain⟨H2,k1,k2,k3,k4,k5⟩:=m8 (W:=W) (n:=n+1) h x scm ng tm (fun q=>inn ⟨hb▸q.1,q.2⟩) sno p1 p2.bk (by omega)
 have pt:=uN k2 k4 k5 p2.bk.DH (Nat.lt_succ_self _)
 rw[if_pos (.inr rfl)]at k1
 have un:=p2.un.ag k3 (lW (h.FS)) (lW (h.PS))
 have FH:=bD p2.fr
 have PH:=bD p2.wl
 have br:=mL (n:=n) hW hT ('*'::'}'::r).length ('*'::'}'::r) H2 1 [] (Nat.le_refl _) (by rw[jS];exact pt) un (jj (by omega)) (jj (by omega)) x.next (Nat.le_refl _) (show 0+(r.length+2)<8900 by omega) (by omega)
 rw[eU (by rfl),gB]at br
 obtain⟨j,H3,b1,b2,b3,b4⟩:=br
 simp only[List.length_cons]at b1
 rw[show aS [] ([]++['*'])=[txt ['*']] from rfl]at b3
 refine⟨1+j,H3,(eN h x k1).trans b2 rfl,(show 1+j+3*r.length≤3*(r.length+3) by omega),?_,b3⟩
 exact((p3.trans k3 (Z:=[S,F,P]) (sC eJ (sC jp sZ)) (sC (.head _) sZ)).trans b4 (fun _ q _=>q) (by
  have l1:=p3.1
  simp only[List.mem_cons,List.not_mem_nil,or_false]
  rintro m (rfl|rfl|rfl|rfl|rfl) hm<;>first|omega|simp))
theorem IP (hW:10002<W) (hT:t.length≤10000) (h:Sc t b0 B S D H F P st aj ai ws aL ax false) (hst:(ai=aJ∧∀q,s≠'#'::q)∨ai=fL) (hb:b=(b0||decide (0<st.length))) (hs:WS b s) (x:bc t s) (hl:s.length<8000) (hw:ws.length<8000) (hd:st.length<5999):
  Ig W n t b0 B S D s H F P st aj ws (if ai=aJ then ps t s else aL) (bU s):=by
 have sno:∀{c r} {Φ:ci},EV Φ ⟨dY t B F (ps t (c::r)) c ai none,H⟩ fg (.bool false) ⟨dY t B F (ps t (c::r)) c ai none,H⟩:=by
  intro c r Φ
  exact iR (by rcases hst with⟨rfl, -⟩|rfl<;>rfl)
 have scm:(ai==be)=false:=by rcases hst with⟨rfl, -⟩|rfl<;>rfl
 cases he:bU s with
 |false=>
  have hbs:body s=s:=by unfold body;rw[he];rfl
  obtain⟨c,r,e1,ng,tm,inn⟩:=hs
  obtain⟨H1,p1,p2,p3⟩:=yB h hst c r e1
  refine⟨0,H,H1,ai,ws,aL,ax,false,false,ai,ax,by rw[hbs];exact Go.refl,by rw[hbs];omega,Ag.refl,h,scm,?_,p2,p3⟩
  intro c' r' e'
  rw[hbs,e1]at e'
  cases e'
  exact⟨sno,p1⟩
 |true=>
  obtain⟨r,e1,e2⟩:=ig he
  subst e1
  simp only[List.length_cons]at hl
  obtain⟨j,H3,g3,j3,a3,b3⟩:=ui (n:=n) hW hT h hst hb hs x (by omega) hw hd
  have xr:bc t r:=x.next.next.next
  refine⟨j,H3,(H3.set P (.list ws)).set F (.dict (kt aj aR P _ (ps t r) true)),aR,ws++[wd false [txt ['*']]],_,ps t r,false,true,aR,ps t r,by rw[e2];exact g3,by rw[e2];exact j3,a3,b3,rfl,?_,b3.updW.upd,?_⟩
  ·intro c r' e'
   rw[e2]at e'
   subst e'
   refine⟨fun {Φ}=>?_,Bu b3 (by omega)⟩
   have pv:∀v∈[txt ['*']],Pv 900 v:=by
    intro v hv
    simp only[List.mem_cons,List.not_mem_nil,or_false]at hv
    subst hv
    exact⟨Rd.txt,.inl ⟨_,rfl⟩⟩
   obtain⟨sb,s1,s2⟩:=lJ (Φ:=Φ) (c:=c) (r:=r') (q:='}') b3 pv x.next.next (by omega)
   have:sb=true:=s2.mpr ⟨rfl,rfl,rfl⟩
   rwa[this]at s1
  ·exact(Ag.set (X:=[F,P]) eJ).trans (Ag.set (X:=[F,P]) (.head _)) (fun _ q _=>q) (fun _ q _=>q)
end
end Mine
end
section
namespace Mine
open PySem (PyData)
section
variable {W n:Nat} {t s s' r e a w:Ch} {c:Char} {H H' H1 H2 Hf:List O} {Φ:ci} {lo:List (Option V)} {i j j1 j2 j' j0:Nat} {v u:V} {vs ws us acc:List V} {es:List (Ch×V)} {o o':O}
 {b b0 sb:Bool} {B S D F P F' P':Nat} {f nm kind m q:Ch} {st done:List V} {aj aL ax p dep bg:Int} {ai:Ch} {aQ x:Bool} {y z:Int} {k:Kd}
noncomputable def GU:Cl→Ch
 | .bare=>fL
 |_=>aR
inductive GZ (W n:Nat) (t:Ch) (b0:Bool) (B S D:Nat) (H:List O) (F P:Nat) (st:List V) (aj:Int) (ws:List V) (bg:Int) (s:Ch) (x:Bool) (vs:List V) (e:Ch) (cl:Cl):Prop
 |mk (j:Nat) (H':List O):j+3*e.length≤3*s.length→Go W n t b0 B j (ps t s) H (ps t e) H'→Sc t b0 B S D H' F P st aj (GU cl) (ws++[wd x vs]) bg (ps t e) false→Ag [S,F,P] H H'→GZ W n t b0 B S D H F P st aj ws bg s x vs e cl
inductive Gj (W n:Nat) (t:Ch) (b0:Bool) (B S D:Nat) (H:List O) (F P:Nat) (st:List V) (aj:Int) (ws:List V) (bg:Int) (s:Ch) (x:Bool) (vs:List V):Prop
 |mk (j:Nat) (H':List O) (F1 P1:Nat) (p:Int) (nm:Ch) (dep:Int) (st2:Ch) (last2:Int):j≤3*s.length→Go W n t b0 B j (ps t s) H (ps t []) H'→Pt t b0 B S D H' F1 P1 (st++[.ref F]) bH p nm dep vs→Un B S D H' F P aj st2 ws bg last2 x→Ag [S,F,P] H H'→Gj W n t b0 B S D H F P st aj ws bg s x vs
noncomputable def Iq (W n:Nat) (t:Ch) (b0:Bool) (B S D:Nat) (H:List O) (F P:Nat) (st:List V) (aj:Int) (ws:List V) (bg:Int) (s:Ch):Except Ch (Bool×List V×Ch×Cl)→Prop
 | .ok (x,vs,e,cl)=>GZ W n t b0 B S D H F P st aj ws bg s x vs e cl∨(cl=.bare∧e=[]∧Gj W n t b0 B S D H F P st aj ws bg s x vs)
 | .error m=>dq W n t b0 B D 4 s H m
noncomputable def jv (W n:Nat) (t:Ch) (b0:Bool) (B S D:Nat) (b:Bool) (s:Ch) (res:Except Ch (Bool×List V×Ch×Cl)):Prop:=∀H F P st aj ai ws aL ax,Sc t b0 B S D H F P st aj ai ws aL ax false→((ai=aJ∧∀q,s≠'#'::q)∨ai=fL)→b=(b0||decide (0<st.length))→bc t s→
 s.length<8000→ws.length<8000→st.length+2*s.length<5999→DL D H→Iq W n t b0 B S D H F P st aj ws (if ai=aJ then ps t s else aL) s res
theorem C4 (h:bU s=true):∃c r,body s=c::r∧skipGaps (c::r)=c::r∧term c=false:=by
 obtain⟨r,e1,e2⟩:=ig h
 unfold bU at h
 rw[Bool.and_eq_true]at h
 have h:=h.2
 rw[e1]at h
 rw[e2]
 rcases r with _|⟨c,r⟩
 ·cases h
 ·have h:zt (c::r)=true:=h
  unfold zt at h
  rw[Bool.and_eq_true]at h
  refine⟨c,r,rfl,?_,by simpa [term] using h.1⟩
  obtain⟨p,hp⟩:=bn (c::r)
  have:=of_decide_eq_true h.2
  have l:=congrArg List.length hp
  rw[List.length_append,this]at l
  have:p=[]:=List.length_eq_zero_iff.mp (by omega)
  rw[this]at hp
  exact hp.symm
theorem ll (hs:WS b s) (hx:¬(bU s=true∧b=true∧∃r,body s=']'::r)):WS b (body s):=by
 cases he:bU s with
 |false=>
  have:body s=s:=by unfold body;rw[he];rfl
  rw[this];exact hs
 |true=>
  obtain⟨c,r,e1,e2,e3⟩:=C4 he
  exact⟨c,r,e1,by rw[e1];exact e2,e3,fun q=>hx ⟨he,q.1,r,by rw[e1,q.2]⟩⟩
theorem dq.up (h:dq W n t b0 B D 3 s H m):dq W n t b0 B D 4 s H m:=by
 obtain⟨j,Hf,h1,h2,h3⟩:=h
 exact⟨j,Hf,by omega,h2,h3⟩
theorem zL (hW:10002<W) (hT:t.length≤8000) (hs:WS b s) (hb:body s='{'::r):jv W n t b0 B S D b s (match fD false 1 [] r with
  |some (i,e)=>.ok (bU s,aS [] i,e,.brace)
  |none=>.error jL):=by
 intro H F P st aj ai ws aL ax h hst hbb x hl hw hd dl
 have xb:bc t ('{'::r):=hb▸x.of (fq s)
 have ws':WS b ('{'::r):=hb▸ll hs (fun q=>by obtain⟨-, -,r',e⟩:=q;rw[hb]at e;cases e)
 obtain⟨j,H2,F1,st2,last2,g,hj,pt,un,ag,hF⟩:=(IP (n:=n) hW (by omega) h hst hbb hs x hl hw (by omega)).open hb hbb ws' xb (by omega)
 have hz:=xb.size
 simp only[List.length_cons]at hz
 have FH:=bD h.fr
 have PH:=bD h.wl
 have DH:=h.bk.DH
 have SH:=h.bk.SH
 have br:=mL (n:=n) hW (by omega) r.length r H2 1 [] (Nat.le_refl _) (by rw[jS];exact pt) un (jj (by omega)) (jj (by omega)) xb.next (Nat.le_refl _) (show 0+r.length<8900 by omega) (by omega)
 have D2:H2[D]? =H[D]? :=ag.2 D DH (vb ⟨Ne.symm (Nat.ne_of_lt h.bk.SD),Ne.symm h.FD,Ne.symm h.PD⟩)
 cases hq:fD false 1 [] r with
 |none=>
  rw[hq]at br
  exact dq.up (dq.of g (by omega) D2 br)
 |some z=>
  obtain⟨i,e⟩:=z
  rw[hq]at br
  obtain⟨j2,H3,b1,b2,b3,b4⟩:=br
  refine .inl ⟨j+j2,H3,by omega,g.trans b2 rfl,b3,ag.trans b4 (fun _ q _=>q) ?_⟩
  simp only[List.mem_cons,List.not_mem_nil,or_false]
  rintro m (rfl|rfl|rfl|rfl|rfl) hm<;>first|omega|simp
theorem Cn {res:Except Ch (List V×Ch)} (hW:10002<W) (hT:t.length≤8000) (hs:WS b s) (hb:body s='"'::r) (hp:dm W n t b0 B S D .quote [] [] r res) (hr:∀vs e,res=.ok (vs,e)→Sf r e∧(e=[]∨∃e',e='"'::e')∧vs.length<9000):
  jv W n t b0 B S D b s (Hn (bU s) res):=by
 intro H F P st aj ai ws aL ax h hst hbb x hl hw hd dl
 have xb:bc t ('"'::r):=hb▸x.of (fq s)
 have ws':WS b ('"'::r):=hb▸ll hs (fun q=>by obtain⟨-, -,r',e⟩:=q;rw[hb]at e;cases e)
 obtain⟨j,H2,F1,st2,last2,g,hj,pt,un,ag,hF⟩:=(IP (n:=n) hW (by omega) h hst hbb hs x hl hw (by omega)).open hb hbb ws' xb (by omega)
 have hz:=xb.size
 simp only[List.length_cons]at hz
 have FH:=bD h.fr
 have PH:=bD h.wl
 have DH:=h.bk.DH
 have SH:=h.bk.SH
 have D2:H2[D]? =H[D]? :=ag.2 D DH (vb ⟨Ne.symm (Nat.ne_of_lt h.bk.SD),Ne.symm h.FD,Ne.symm h.PD⟩)
 have q1:=hp H2 F1 (F1+1) (st++[.ref F]) _ _ _ pt trivial xb.next (.inl rfl) (show 0+0+r.length<9000 by omega) (ET (by omega)) (dl.ag ag (vb ⟨Ne.symm (Nat.ne_of_lt h.bk.SD),Ne.symm h.FD,Ne.symm h.PD⟩))
 cases res with
 |error m=>exact dq.up (dq.of g (by omega) D2 q1)
 |ok z=>
  obtain⟨vs,e⟩:=z
  obtain⟨sf,he,hv⟩:=hr vs e rfl
  obtain⟨j2,H3,b1,b2,b3,b4⟩:=q1
  rcases he with rfl|⟨e',rfl⟩
  ·have D3:H3[D]? =H2[D]? :=b3.2 D pt.bk.DH (jj ⟨by have:=h.bk.SD;omega,by omega⟩)
   exact dq.ofE (g.transE (b2.transE (fm (by omega) (by rw[fU];exact Int.le_refl _)) rfl) rfl) (by have:=b1.1;simp at this;omega) (by rw[D3,D2]) (jt b4.bk b4.fr rfl (by omega) rfl rfl (by decide))
  ·have un3:=un.ag b3 (jj ⟨h.FS,by omega⟩) (jj ⟨h.PS,by omega⟩)
   obtain⟨H4,k1,k2,k3⟩:=sm (W:=W) (n:=n+1) b4 (xb.next.of sf) (un3.sc b4.bk) hv (by omega)
   refine .inl ⟨j+j2+1,H4,by have:=b1.1;simp at this;omega,(g.trans b2 rfl).trans (k8 (kd:=.quote) b4 (xb.next.of sf) k1) rfl,k2,(ag.trans b3 (Z:=[S,F,P]) (fun _ q _=>q) ?_).trans k3 (fun _ q _=>q) (fun _ q _=>q)⟩
   simp only[List.mem_cons,List.not_mem_nil,or_false]
   rintro m (rfl|rfl) hm<;>first|omega|simp
theorem D6 {res:Except Ch (List V×Ch)} (hW:10002<W) (hT:t.length≤8000) (hs:WS b s) (hb:body s=c::r) (h1:c≠'{') (h2:c≠'"') (hx:¬(bU s=true∧b=true∧c=']')) (hp:dm W n t b0 B S D (.bare b) [] [] (c::r) res)
  (hr:∀vs e,res=.ok (vs,e)→Sf (c::r) e∧(e=[]∨∃d e',e=d::e'∧eI b d e'=true)∧vs.length<9000) (hlt:∀vs e,res=.ok (vs,e)→e.length≤r.length):
  jv W n t b0 B S D b s (HJ (bU s) res):=by
 intro H F P st aj ai ws aL ax h hst hbb x hl hw hd dl
 have xb:bc t (c::r):=hb▸x.of (fq s)
 have ws':WS b (c::r):=hb▸ll hs (fun q=>by obtain⟨q1,q2,r',e⟩:=q;rw[hb]at e;cases e;exact hx ⟨q1,q2,rfl⟩)
 obtain⟨j,H2,F1,st2,last2,g,hj,pt,un,ag,hF⟩:=(IP (n:=n) hW (by omega) h hst hbb hs x hl hw (by omega)).open hb hbb ws' xb (by omega)
 have nc:¬(c='"'∨c='{'):=fun q=>q.elim h2 h1
 rw[if_neg nc]at g
 rw[if_neg h2,if_neg h1]at pt
 have hz:=xb.size
 simp only[List.length_cons]at hz
 have FH:=bD h.fr
 have PH:=bD h.wl
 have DH:=h.bk.DH
 have SH:=h.bk.SH
 have D2:H2[D]? =H[D]? :=ag.2 D DH (vb ⟨Ne.symm (Nat.ne_of_lt h.bk.SD),Ne.symm h.FD,Ne.symm h.PD⟩)
 have kd:qe b0 (st++[V.ref F]) (.bare b):=by
  show b=_
  rw[hbb];congr 1;rw[decide_eq_decide];simp
 have q1:=hp H2 F1 (F1+1) (st++[.ref F]) _ _ _ pt kd xb (.inl rfl) (show 0+0+(r.length+1)<9000 by omega) (by simp;omega) (dl.ag ag (vb ⟨Ne.symm (Nat.ne_of_lt h.bk.SD),Ne.symm h.FD,Ne.symm h.PD⟩))
 cases res with
 |error m=>
  obtain⟨j',Hf,f1,f2,f3⟩:=q1
  simp only[List.length_cons]at f1
  exact⟨j+j',Hf,by omega,fun k k' ek=>g (k+j') k' _ _ (by omega) (f2 k _ rfl),by rw[f3,D2]⟩
 |ok z=>
  obtain⟨vs,e⟩:=z
  obtain⟨sf,he,hv⟩:=hr vs e rfl
  have hlt:=hlt vs e rfl
  obtain⟨j2,H3,b1,b2,b3,b4⟩:=q1
  have un3:=un.ag b3 (jj ⟨h.FS,by omega⟩) (jj ⟨h.PS,by omega⟩)
  have ag3:Ag [S,F,P] H H3:=ag.trans b3 (fun _ q _=>q) (by
   simp only[List.mem_cons,List.not_mem_nil,or_false]
   rintro m (rfl|rfl) hm<;>first|omega|simp)
  rcases he with rfl|⟨d,e',rfl,hd'⟩
  ·exact .inr ⟨rfl,rfl,j+j2,H3,F1,F1+1,_,_,_,st2,last2,by have:=b1.2 (Nat.lt_succ_of_le hlt);simp at this;omega,g.trans b2 rfl,b4,un3,ag3⟩
  ·obtain⟨H4,k1,k2,k3⟩:=uI (W:=W) (n:=n+1) (b:=b) b4 hbb (xb.of sf) hd' (un3.sc b4.bk) hv (by omega)
   exact .inl ⟨j+j2+1,H4,by have:=b1.2 (Nat.lt_succ_of_le hlt);simp only[List.length_cons]at this⊢;omega,(g.trans b2 rfl).trans (k8 (kd:=.bare b) b4 (xb.of sf) k1) rfl,k2,ag3.trans k3 (fun _ q _=>q) (fun _ q _=>q)⟩
end
end Mine
end
section
set_option genInjectivity false
set_option genSizeOfSpec false
namespace Mine
open PySem (PyData)
inductive qd where
 |fin (ws:List V) (e:Ch)
 |term (ws:List V) (e a:Ch)
 |close (ws:List V) (e a:Ch)
 |err (m:Ch)
section
variable {W n:Nat} {t s s' r e a w:Ch} {c:Char} {H H' H1 H2 Hf:List O} {Φ:ci} {lo:List (Option V)} {i j j1 j2 j' j0:Nat} {v u:V} {vs ws us acc:List V} {es:List (Ch×V)} {o o':O}
 {b b0 sb:Bool} {B S D F P F' P':Nat} {f nm kind m q:Ch} {st done:List V} {aj aL ax p dep bg:Int} {ai:Ch} {aQ x:Bool} {y z:Int} {k:Kd} {cl:Cl}
inductive HS (W n:Nat) (t:Ch) (b0:Bool) (B D:Nat) (H:List O) (bg:Int) (done:List V) (s:Ch) (ws:List V) (e:Ch):Prop
 |mk (j:Nat) (Hf:List O):j≤3*s.length+4→(∀k k',k'=k+j→GV W n t b0 B k' (ps t s) H (oj D) Hf)→Hf[D]? =some (.list (done++[cZ ws bg (ps t e) (ps t [])]))→HS W n t b0 B D H bg done s ws e
inductive EQ (W n:Nat) (t:Ch) (b0:Bool) (B S D:Nat) (H:List O) (F P:Nat) (st:List V) (aj bg:Int) (done:List V) (s:Ch) (ws:List V) (e a:Ch):Prop
 |mk (j:Nat) (H':List O) (P':Nat) (last':Int):(P'=P∨H.length≤P')→j+3*a.length≤3*s.length→Go W n t b0 B j (ps t s) H (ps t a) H'→Sc t b0 B S D H' F P' st aj aJ [] bg last' false→Ag [S,F,P,D] H H'→H'[D]? =some (.list (if st=[]then done++[cZ ws bg (ps t e) (ps t a)]else done))→EQ W n t b0 B S D H F P st aj bg done s ws e a
inductive HW (W n:Nat) (t:Ch) (b0:Bool) (B S D:Nat) (H:List O) (bg:Int) (done:List V) (s:Ch) (ws:List V) (e a:Ch):Prop
 |mk (j:Nat) (H':List O):j+3*a.length≤3*s.length→Go W n t b0 B j (ps t s) H (ps t a) H'→Bk t b0 B S D H' [] []→H'[D]? =some (.list (done++[cZ ws bg (ps t e) (ps t (']'::a))]))→HW W n t b0 B S D H bg done s ws e a
inductive Ix (W n:Nat) (t:Ch) (b0:Bool) (B S D:Nat) (H:List O) (F P Pp:Nat) (st qs done:List V) (q s a:Ch):Prop
 |mk (j:Nat) (H':List O):j+3*a.length≤3*s.length→Go W n t b0 B j (ps t s) H (ps t a) H'→Bk t b0 B S D H' [] st→Ag [P,F,D,S,Pp] H H'→H'[Pp]? =some (.list (qs++[cm q]))→H'[D]? =some (.list done)→Ix W n t b0 B S D H F P Pp st qs done q s a
noncomputable def CR (W n:Nat) (t:Ch) (b0:Bool) (B S D:Nat) (H:List O) (F P:Nat) (st:List V) (aj bg:Int) (done:List V) (s:Ch):qd→Prop
 | .err m=>dq W n t b0 B D 4 s H m
 | .fin ws' e=>(st=[]→HS W n t b0 B D H bg done s ws' e)∧(st≠[]→dq W n t b0 B D 4 s H kr)
 | .term ws' e a=>EQ W n t b0 B S D H F P st aj bg done s ws' e a
 | .close ws' e a=>(st=[]→HW W n t b0 B S D H bg done s ws' e a)∧
   (∀st' Fp Pp kind p0 name dep qs s0 q,st=st'++[.ref Fp]→aj=ps t s0→s0=q++']'::a→bc t s0→H[Fp]? =some (.dict (lR kind p0 Pp name dep))→H[Pp]? =some (.list qs)→Fp∉[P,F,D,S]→Pp∉[P,F,D,S]→Pp≠B→qs.length<9000→Ix W n t b0 B S D H F P Pp st qs done q s a)
noncomputable def qf (W n:Nat) (t:Ch) (b0:Bool) (B S D:Nat) (b:Bool) (ws:List V) (s:Ch) (res:qd):Prop:=∀H F P st aj ai aL ax done,Sc t b0 B S D H F P st aj ai ws aL ax false→((ai=aJ∧∀q,s≠'#'::q)∨ai=fL)→b=(b0||decide (0<st.length))→bc t s→H[D]? =some (.list done)→
 ws.length+s.length<8000→st.length+2*s.length<5999→done.length<8900→CR W n t b0 B S D H F P st aj (if ai=aJ then ps t s else aL) done s res
noncomputable def xy (s e:Ch) (cl:Cl):Prop:=(cl=.quote→∃p,s=p++'"'::e)∧(cl=.brace→∃p,s=p++'}'::e)
noncomputable def to (x:Bool) (vs:List V) (e:Ch) (cl:Cl):Prop:=cl=.brace→(∃c r,e=c::r∧skipGaps e=e∧term c=false)→¬(x=false∧vs=[txt ['*']])
inductive HG (W:Nat) (n:Nat) (t:Ch) (s:Ch) (e:Ch) (H:List O) (vs:List V) (ws:List V) (b0:Bool) (B:Nat) (S:Nat) (D:Nat) (F:Nat) (P:Nat) (st:List V) (aj:Int) (aL:Int) (ai:Ch) (x:Bool) (cl:Cl):Prop
 |mk:∀j H2 st2,j+3*(skipGaps e).length≤3*s.length→Go W n t b0 B j (ps t s) H (ps t (skipGaps e)) H2→Sc t b0 B S D H2 F P st aj st2 (ws++[wd x vs]) (if ai=aJ then ps t s else aL) (ps t e) false→Ag [S,F,P] H H2→((skipGaps e=e∧st2=GU cl)∨st2=fL)→HG W n t s e H vs ws b0 B S D F P st aj aL ai x cl
theorem cw (hW:10002<W) (hq:jv W n t b0 B S D b s (.ok (x,vs,e,cl))) (he:skipGaps e≠[]∨¬(cl=.bare∧e=[])) (sf:Sf s e) (h:Sc t b0 B S D H F P st aj ai ws aL ax false) (hst:(ai=aJ∧∀q,s≠'#'::q)∨ai=fL) (hb:b=(b0||decide (0<st.length))) (xs:bc t s)
  (hl:ws.length+s.length<8000) (hd:st.length+2*s.length<5999) (hlt:e.length<s.length) (dl:DL D H):
  HG W n t s e H vs ws b0 B S D F P st aj aL ai x cl:=by
 have hlen:=xs.size
 rcases hq H F P st aj ai ws aL ax h hst hb xs (by omega) (by omega) hd dl with⟨j,H1,g1,g2,g3,g4⟩|⟨rfl,rfl, -⟩
 ·have cc:(GU cl==be)=false:=by cases cl<;>rfl
  obtain⟨j2,H2,st2,i1,i2,i3,i4,i5⟩:=nJ (W:=W) (n:=n) e.length e H1 (GU cl) (Nat.le_refl _) g3 cc (xs.of sf)
  refine⟨j+j2,H2,st2,by have:=dU e;omega,g2.trans i2 rfl,i3,g4.trans i4 (fun _ q _=>q) (sC eJ sZ),?_⟩
  rcases i5 with⟨q1,q2⟩|⟨-,q2⟩
  ·exact .inl ⟨q1,q2⟩
  ·refine .inr ?_
   rw[q2]
   cases cl<;>rfl
 ·rcases he with he|he
  ·exact(he rfl).elim
  ·exact(he ⟨rfl,rfl⟩).elim
theorem wP {st2:Ch} {beg' last':Int} (h:Sc t b0 B S D H F P st aj st2 (ws++[wd x vs]) beg' last' false) (hv:∀v∈vs,Pv 900 v) (hs:(skipGaps e=e∧st2=GU cl)∨st2=fL) (hlc:xy s e cl) (hns:to x vs e cl) (he:skipGaps e=c::r) (hc:term c=false) (xs:bc t s) (hl:ws.length<9000):
  ∀{Φ:ci},EV Φ ⟨dY t B F (ps t (c::r)) c st2 none,H⟩ fg (.bool false) ⟨dY t B F (ps t (c::r)) c st2 none,H⟩:=by
 intro Φ
 rcases hs with⟨h1,h2⟩|rfl
 ·rw[h1]at he
  subst he
  cases cl with
  |bare=>subst h2;exact iR rfl
  |quote=>
   subst h2
   obtain⟨p,hp⟩:=hlc.1 rfl
   obtain⟨sb,s1,s2⟩:=lJ (Φ:=Φ) h hv (xs.of ⟨p,hp⟩) hl
   have:sb=false:=by cases sb with|false=>rfl|true=>exact absurd (s2.mp rfl).2.2 (by decide)
   rwa[this]at s1
  |brace=>
   subst h2
   obtain⟨p,hp⟩:=hlc.2 rfl
   obtain⟨sb,s1,s2⟩:=lJ (Φ:=Φ) h hv (xs.of ⟨p,hp⟩) hl
   have:sb=false:=by
    cases sb with
    |false=>rfl
    |true=>
     obtain⟨z1,z2, -⟩:=s2.mp rfl
     exact(hns rfl ⟨c,r,rfl,h1,hc⟩ ⟨z1,z2⟩).elim
   rwa[this]at s1
 ·exact iR rfl
theorem o8 (h:Sc t b0 B S D H F P st aj ai ws aL ax aQ) (ag:Ag [S,F,P] H H') (hD:H[D]? =some (.list done)):H'[D]? =some (.list done):=
 ag.get hD (vb ⟨Ne.symm (Nat.ne_of_lt h.bk.SD),Ne.symm h.FD,Ne.symm h.PD⟩)
theorem F5 (hW:10002<W) (hT:t.length≤8000) (hq:jv W n t b0 B S D b s (.ok (x,vs,e,cl))) (sf:Sf s e) (hlt:e.length<s.length) (hz:vs.length<9000) (hg:skipGaps e=[]):qf W n t b0 B S D b ws s (.fin (ws++[wd x vs]) e):=by
 intro H F P st aj ai aL ax done h hst hb xs hD hl hd hdn
 have key:(∃j H2 st2,j≤3*s.length∧Go W n t b0 B j (ps t s) H (ps t []) H2∧Sc t b0 B S D H2 F P st aj st2 (ws++[wd x vs]) (if ai=aJ then ps t s else aL) (ps t e) false∧Ag [S,F,P] H H2)∨
   (e=[]∧Gj W n t b0 B S D H F P st aj ws (if ai=aJ then ps t s else aL) s x vs):=by
  by_cases ho:cl=.bare∧e=[]
  ·obtain⟨rfl,rfl⟩:=ho
   rcases hq H F P st aj ai ws aL ax h hst hb xs (by omega) (by omega) hd ⟨done,hD,hdn⟩with⟨j,H1,g1,g2,g3,g4⟩|⟨-, -,z⟩
   ·exact .inl ⟨j,H1,_,by simp at g1;omega,g2,g3,g4⟩
   ·exact .inr ⟨rfl,z⟩
  ·obtain⟨j,H2,st2,k1,k2,k3,k4, -⟩:=cw hW hq (.inr ho) sf h hst hb xs hl hd hlt ⟨done,hD,hdn⟩
   rw[hg]at k1 k2
   exact .inl ⟨j,H2,st2,by simp at k1;omega,k2,k3,k4⟩
 have ge:∀{H:List O},CD W n t b0 B 1 (ps t []) H H:=fun {H}=>fm (W:=W) (n:=n) (t:=t) (b0:=b0) (B:=B) (x:=ps t []) (by omega) (by rw[fU];exact Int.le_refl _)
 rcases key with⟨j,H2,st2,k1,k2,k3,k4⟩|⟨rfl,j,H2,F1,P1,p,nm,dep,st2,last2,k1,k2,k3,k4,k5⟩
 ·have D2:=o8 h k4 hD
  refine⟨fun hs=>?_,fun hs=>?_⟩
  ·subst hs
   obtain⟨Hf,a1,a2⟩:=vn (W:=W) (n:=n) k3 (by omega) D2 (kT (by omega)) (by omega)
   rw[if_pos (by simp)]at a2
   refine⟨j+1,Hf,by omega,fun k k' ek=>(k2.transE ge rfl) k k' _ _ ek a1,by rw[fU];exact a2⟩
  ·exact dq.ofE (k2.transE ge rfl) (by omega) (by rw[D2,hD]) (nG (q:=false) k3.bk k3.fr rfl (by omega) rfl rfl (by have:=List.length_pos_iff.mpr hs;simp;omega))
 ·have D2:=o8 h k5 hD
  refine⟨fun hs=>?_,fun hs=>?_⟩
  ·subst hs
   obtain⟨Hf,a1,a2⟩:=Cb (W:=W) (n:=n) k3 (k4.sc (st:=[]) k3.bk) (by omega) D2 (by omega) hz (by omega)
   refine⟨j+1,Hf,by omega,fun k k' ek=>(k2.transE ge rfl) k k' _ _ ek a1,by rw[fU];exact a2⟩
  ·exact dq.ofE (k2.transE ge rfl) (by omega) (by rw[D2,hD]) (nG (q:=true) k3.bk k3.fr rfl (by omega) rfl rfl (by have:=List.length_pos_iff.mpr hs;simp;omega))
theorem CY {d:Char} (hW:10002<W) (hq:jv W n t b0 B S D b s (.ok (x,vs,e,cl))) (sf:Sf s e) (hlt:e.length<s.length) (hg:skipGaps e=d::a) (hd':term d=true):qf W n t b0 B S D b ws s (.term (ws++[wd x vs]) e a):=by
 intro H F P st aj ai aL ax done h hst hb xs hD hl hd hdn
 obtain⟨j,H2,st2,k1,k2,k3,k4,k5⟩:=cw hW hq (.inl (by rw[hg];simp)) sf h hst hb xs hl hd hlt ⟨done,hD,hdn⟩
 rw[hg]at k1 k2
 have xd:bc t (d::a):=(xs.of sf).of (hg▸bn e)
 have cc:(st2==be)=false:=by
  rcases k5 with⟨-,q⟩|q
  ·rw[q];cases cl<;>rfl
  ·rw[q];rfl
 obtain⟨H3,P3,kp,c1,c2,c3,c4⟩:=mU (W:=W) (n:=n+1) k3 xd cc hd' (o8 h k4 hD) (kT (by omega)) (by omega)
 refine⟨j+1,H3,P3,_,.inr (Nat.le_trans k4.1 kp),by simp at k1;omega,k2.trans (eN k3 xd c1) rfl,c2,(k4.trans c3 (Z:=[S,F,P,D]) (sC (.head _) (sC eJ (sC jp sZ))) (sC eJ (sC mQ sZ))),?_⟩
 rw[c4]
 simp
theorem A5 (hW:10002<W) (hq:jv W n t b0 B S D true s (.ok (x,vs,e,cl))) (sf:Sf s e) (hlt:e.length<s.length) (hv:∀v∈vs,Pv 900 v) (hlc:xy s e cl) (hns:to x vs e cl) (hg:skipGaps e=']'::a):qf W n t b0 B S D true ws s (.close (ws++[wd x vs]) e a):=by
 intro H F P st aj ai aL ax done h hst hb xs hD hl hd hdn
 obtain⟨j,H2,st2,k1,k2,k3,k4,k5⟩:=cw hW hq (.inl (by rw[hg];simp)) sf h hst hb xs hl hd hlt ⟨done,hD,hdn⟩
 have xd:bc t (']'::a):=(xs.of sf).of (hg▸bn e)
 have cc:(st2==be)=false:=by
  rcases k5 with⟨-,q⟩|q
  ·rw[q];cases cl<;>rfl
  ·rw[q];rfl
 have D2:=o8 h k4 hD
 have ns:=fun {Φ}=>wP (Φ:=Φ) k3 hv k5 hlc hns hg rfl xs (by omega)
 rw[hg]at k1 k2
 simp only[List.length_cons]at k1
 refine⟨fun hs=>?_,?_⟩
 ·subst hs
  obtain⟨H3,c1,c2,c3,c4⟩:=g5 (W:=W) (n:=n+1) (sb:=false) (ws1:=ws++[wd x vs]) k3 xd cc ns (by simpa using hb.symm) (kT (by omega)) (.inl ⟨rfl,rfl⟩) D2 (by omega)
  rw[if_pos (by simp)]at c4
  exact⟨j+1,H3,by omega,k2.trans (eN k3 xd c1) rfl,c2,c4⟩
 ·intro st' Fp Pp kind p0 name dep qs s0 q e1 e2 e3 xs0 hF hP nF nP nB hqs
  subst e1 e2
  have gF:=k4.get hF (nX nF)
  have gP:=k4.get hP (nX nP)
  obtain⟨H3,c1,c2,c3,c4,c5⟩:=g9 (W:=W) (n:=n+1) (sb:=false) (ws1:=ws++[wd x vs]) k3 xd cc ns (kT (by omega)) (.inl ⟨rfl,rfl⟩) D2 (by omega) gF gP nF nP nB e3 xs0 hqs
  exact⟨j+1,H3,by omega,k2.trans (eN k3 xd c1) rfl,c2,k4.trans c3 (sC mQ (sC eJ (sC (.head _) sZ))) (fun _ q _=>q),c4,c5⟩
theorem BZ {pre:Ch} {l:Char} (hW:10002<W) (hq:jv W n t b0 B S D b s (.ok (x,vs,e,cl))) (hs:s=pre++l::e) (hv:∀v∈vs,Pv 900 v) (hlc:xy s e cl) (hns:to x vs e cl) (hcl:cl≠ .bare) (he:e=c::r) (hg:skipGaps e=e) (hc:term c=false) (hb':¬(b=true∧c=']')):qf W n t b0 B S D b ws s (.err (if l='"' then tv else sS)):=by
 intro H F P st aj ai aL ax done h hst hb xs hD hl hd hdn
 have sf:Sf s e:=⟨pre++[l],by rw[hs];simp⟩
 have hlt:e.length<s.length:=by rw[hs];simp;omega
 obtain⟨j,H2,st2,k1,k2,k3,k4,k5⟩:=cw hW hq (.inl (by rw[hg,he];simp)) sf h hst hb xs hl hd hlt ⟨done,hD,hdn⟩
 have ns:=fun {Φ}=>wP (Φ:=Φ) k3 hv k5 hlc hns (by rw[hg,he]) hc xs (by omega)
 have xe:bc t (c::r):=he▸xs.of sf
 have xl:bc t (l::c::r):=he▸xs.of ⟨pre,hs⟩
 rcases hq H F P st aj ai ws aL ax h hst hb xs (by omega) (by omega) hd ⟨done,hD,hdn⟩with⟨j',H1,g1,g2,g3,g4⟩|⟨z, -⟩
 ·have hcs:GU cl=aR:=by cases cl with|bare=>exact(hcl rfl).elim|quote=>rfl|brace=>rfl
  have ns1:=fun {Φ}=>wP (Φ:=Φ) g3 hv (.inl ⟨hg,rfl⟩) hlc hns (by rw[hg,he]) hc xs (by omega)
  rw[hcs]at g3
  have ns1:∀{Φ:ci},EV Φ ⟨dY t B F (ps t (c::r)) c aR none,H1⟩ fg (.bool false) ⟨dY t B F (ps t (c::r)) c aR none,H1⟩:=by
   intro Φ
   have:=ns1 (Φ:=Φ)
   rwa[hcs]at this
  have ft:=rE (W:=W) (n:=n+2) g3 xe (by rw[←he];exact hg) hc (fun q=>hb' ⟨hb▸q.1,q.2⟩) xl ns1
  have bk':Bk t b0 B S D (H1.set B (.dict (DF t b0 S D (if l='"' then tv else sS)))) (if l='"' then tv else sS) (st++[.ref F]):=g3.bk.fault (Nat.ne_of_lt (Nat.lt_trans h.bk.BS h.bk.SD))
  have mne:(if l='"' then tv else sS)≠[]:=by split<;>decide
  rw[he]at g1 g2
  refine dq.ofE ((g2.trans (eN g3 xe ft) rfl).transE (y5 bk' mne xe) rfl) (by simp at g1;omega) ?_ ⟨_,yS bk' mne,rfl⟩
  rw[aO (Nat.ne_of_lt (Nat.lt_trans h.bk.BS h.bk.SD)),o8 h g4 hD,hD]
 ·exact(hcl z).elim
theorem C6 {res:qd} (hW:10002<W) (hq:jv W n t b0 B S D b s (.ok (x,vs,e,cl))) (sf:Sf s e) (hlt:e.length<s.length) (hg:skipGaps e=c::r) (hgl:r.length+1<e.length) (h2:qf W n t b0 B S D b (ws++[wd x vs]) (c::r) res):qf W n t b0 B S D b ws s res:=by
 intro H F P st aj ai aL ax done h hst hb xs hD hl hd hdn
 obtain⟨j,H2,st2,k1,k2,k3,k4,k5⟩:=cw hW hq (.inl (by rw[hg];simp)) sf h hst hb xs hl hd hlt ⟨done,hD,hdn⟩
 have xd:bc t (c::r):=(xs.of sf).of (hg▸bn e)
 have e2:st2=fL:=by
  rcases k5 with⟨q, -⟩|q
  ·rw[q]at hg;rw[hg]at hgl;simp at hgl
  ·exact q
 subst e2
 rw[hg]at k1 k2
 have D2:=o8 h k4 hD
 have D3:H2[D]? =H[D]? :=by rw[D2,hD]
 simp only[List.length_cons]at k1
 have ih:=h2 H2 F P st aj fL _ _ done k3 (.inr rfl) hb xd D2 (by simp;omega) (show st.length+2*(r.length+1)<5999 by omega) hdn
 rw[if_neg (by decide)]at ih
 cases res with
 |err m=>
  exact dq.of k2 (show j+3*(r.length+1)≤3*s.length by omega) D3 ih
 |fin ws' e'=>
  refine⟨fun hs=>?_,fun hs=>dq.of k2 (show j+3*(r.length+1)≤3*s.length by omega) D3 (ih.2 hs)⟩
  obtain⟨j2,Hf,i1,i2,i3⟩:=ih.1 hs
  exact⟨j+j2,Hf,by simp at i1;omega,fun k k' ek=>k2 (k+j2) k' _ _ (by omega) (i2 k _ rfl),i3⟩
 |term ws' e' a=>
  obtain⟨j2,H3,P3,l3,ip,i1,i2,i3,i4,i5⟩:=ih
  exact⟨j+j2,H3,P3,l3,ip.imp id (Nat.le_trans k4.1),by simp at i1;omega,k2.trans i2 rfl,i3,k4.trans i4 (sC (.head _) (sC eJ (sC jp sZ))) (fun _ q _=>q),i5⟩
 |close ws' e' a=>
  refine⟨fun hs=>?_,?_⟩
  ·obtain⟨j2,H3,i1,i2,i3,i4⟩:=ih.1 hs
   exact⟨j+j2,H3,by simp at i1;omega,k2.trans i2 rfl,i3,i4⟩
  ·intro st' Fp Pp kind p0 name dep qs s0 q e1 e2 e3 xs0 hF hP nF nP nB hqs
   obtain⟨j2,H3,i1,i2,i3,i4,i5,i6⟩:=ih.2 st' Fp Pp kind p0 name dep qs s0 q e1 e2 e3 xs0 (k4.get hF (nX nF)) (k4.get hP (nX nP)) nF nP nB hqs
   exact⟨j+j2,H3,by simp at i1;omega,k2.trans i2 rfl,i3,k4.trans i4 (sC mQ (sC eJ (sC (.head _) sZ))) (fun _ q _=>q),i5,i6⟩
theorem Fv (hq:jv W n t b0 B S D b s (.error m)):qf W n t b0 B S D b ws s (.err m):=by
 intro H F P st aj ai aL ax done h hst hb xs hD hl hd hdn
 exact hq H F P st aj ai ws aL ax h hst hb xs (by omega) (by omega) hd ⟨done,hD,hdn⟩
end
end Mine
end
section
namespace Mine
open PySem (PyData)
section
variable {W n:Nat} {t s s' s0 r e a w:Ch} {c:Char} {H H' H1 H2 Hf:List O} {Φ:ci} {lo:List (Option V)} {i j j1 j2 j' j0:Nat} {v u:V} {vs ws us acc qs:List V} {es:List (Ch×V)} {o o':O}
 {b b0 sb:Bool} {B S D F P F' P' Fp Pp:Nat} {f nm kind m q:Ch} {st st' done:List V} {aj aL ax p dep bg:Int} {ai:Ch} {aQ x:Bool} {y z:Int} {k:Kd} {cl:Cl}
theorem En (hW:10002<W) (hT:t.length≤8000):qf W n t b0 B S D true ws ('{'::'*'::'}'::']'::r) (.close (ws++[wd true []]) (']'::r) r):=by
 intro H F P st aj ai aL ax done h hst hb xs hD hl hd hdn
 have hs:WS true ('{'::'*'::'}'::']'::r):=⟨'{',_,rfl,rfl,rfl,by simp⟩
 simp only[List.length_cons]at hl hd
 obtain⟨j,H2,k2,k1,k4,k3⟩:=ui (n:=n) hW (by omega) h hst hb hs xs (show(r.length+1)<7997 by omega) (by omega) (by omega)
 have xd:bc t (']'::r):=xs.next.next.next
 have D2:=o8 h k4 hD
 have pv:∀v∈[txt ['*']],Pv 900 v:=by
  intro v hv
  simp only[List.mem_cons,List.not_mem_nil,or_false]at hv
  subst hv
  exact⟨Rd.txt,.inl ⟨_,rfl⟩⟩
 have ns:∀{Φ:ci},EV Φ ⟨dY t B F (ps t (']'::r)) ']' aR none,H2⟩ fg (.bool true) ⟨dY t B F (ps t (']'::r)) ']' aR none,H2⟩:=by
  intro Φ
  obtain⟨sb,s1,s2⟩:=lJ (Φ:=Φ) (c:=']') (r:=r) (q:='}') k3 pv xs.next.next (by omega)
  have:sb=true:=s2.mpr ⟨rfl,rfl,rfl⟩
  rwa[this]at s1
 simp only[List.length_cons]at k1
 refine⟨fun hs=>?_,?_⟩
 ·subst hs
  obtain⟨H3,c1,c2,c3,c4⟩:=g5 (W:=W) (n:=n+1) (sb:=true) (ws1:=ws++[wd true []]) k3 xd rfl ns (by simpa using hb.symm) (kT (by omega)) (.inr ⟨rfl,ws,_,rfl,rfl⟩) D2 (by omega)
  rw[if_pos (by simp)]at c4
  exact⟨j+1,H3,(show j+1+3*r.length≤3*(r.length+4) by omega),k2.trans (eN k3 xd c1) rfl,c2,c4⟩
 ·intro st' Fp Pp kind p0 name dep qs s0 q e1 e2 e3 xs0 hF hP nF nP nB hqs
  subst e1 e2
  have gF:=k4.get hF (nX nF)
  have gP:=k4.get hP (nX nP)
  obtain⟨H3,c1,c2,c3,c4,c5⟩:=g9 (W:=W) (n:=n+1) (sb:=true) (ws1:=ws++[wd true []]) k3 xd rfl ns (kT (by omega)) (.inr ⟨rfl,ws,_,rfl,rfl⟩) D2 (by omega) gF gP nF nP nB e3 xs0 hqs
  exact⟨j+1,H3,(show j+1+3*r.length≤3*(r.length+4) by omega),k2.trans (eN k3 xd c1) rfl,c2,k4.trans c3 (sC mQ (sC eJ (sC (.head _) sZ))) (fun _ q _=>q),c4,c5⟩
noncomputable def SR (W n:Nat) (t:Ch) (b0:Bool) (B S D:Nat) (H:List O) (F P:Nat) (st':List V) (Fp Pp:Nat) (qs done:List V) (s0 s:Ch):Except Ch Ch→Prop
 | .ok e=>∀q,s0=q++']'::e→Ix W n t b0 B S D H F P Pp (st'++[.ref Fp]) qs done q s e
 | .error m=>dq W n t b0 B D 4 s H m
noncomputable def wE (W n:Nat) (t:Ch) (b0:Bool) (B S D:Nat) (s0 s:Ch) (res:Except Ch Ch):Prop:=∀H F P st' Fp Pp kind p0 name dep qs aL ax done,Sc t b0 B S D H F P (st'++[.ref Fp]) (ps t s0) aJ [] aL ax false→bc t s0→bc t s→H[D]? =some (.list done)→done.length<8900→
 H[Fp]? =some (.dict (lR kind p0 Pp name dep))→H[Pp]? =some (.list qs)→Fp∉[P,F,D,S]→Pp∉[P,F,D,S]→Pp≠B→qs.length<9000→s.length<7900→st'.length+1+2*s.length<5999→SR W n t b0 B S D H F P st' Fp Pp qs done s0 s res
inductive w8 (W:Nat) (n:Nat) (t:Ch) (s:Ch) (w:Ch) (c:Char) (H:List O) (b0:Bool) (B:Nat) (S:Nat) (D:Nat) (F:Nat) (P:Nat) (st:List V) (done:List V) (aj:Int) (aL:Int) (ax:Int):Prop
 |mk:∀j H' P',(P'=P∨H.length≤P')→j+(w.length+1)≤s.length→Go W n t b0 B j (ps t s) H (ps t (c::w)) H'→Sc t b0 B S D H' F P' st aj aJ [] aL ax false→Ag [F,D] H H'→H'[D]? =some (.list done)→w8 W n t s w c H b0 B S D F P st done aj aL ax
theorem w5 (hT:t.length≤8000) (hw:bh s=c::w) (h:Sc t b0 B S D H F P st aj aJ [] aL ax false) (x:bc t s) (hD:H[D]? =some (.list done)) (hdn:done.length<8900):
  w8 W n t s w c H b0 B S D F P st done aj aL ax:=by
 have sk:=lX (W:=W) (n:=n) (by omega) (by omega) (s.length+1) s H P (Nat.lt_succ_self _) h x hD
 rw[show b8 (s.length+1) s=bh s from rfl,hw]at sk
 cases sk with
 |ok j H' P' q1 q2 q3 q4 q5 q6=>exact⟨j,H',P',q1,q2,q3,q4,q5,q6⟩
 |off q=>cases q
theorem FC (hT:t.length≤8000) (hw:bh s=[]):wE W n t b0 B S D s0 s (.error kr):=by
 intro H F P st' Fp Pp kind p0 name dep qs aL ax done h xs0 x hD hdn hF hP nF nP nB hqs hl hd
 have sk:=lX (W:=W) (n:=n) (by omega) (by omega) (s.length+1) s H P (Nat.lt_succ_self _) h x hD
 rw[show b8 (s.length+1) s=bh s from rfl,hw]at sk
 rcases sk with⟨j,H1,P1, -,k1,k2,k3,k4,k5⟩|⟨-,j,H1,P1,st1,k1,k2,k3,k4,k5⟩
 ·exact dq.ofE (k2.transE (fm (by omega) (by rw[fU];exact Int.le_refl _)) rfl) (by simp at k1;omega) (by rw[k5,hD]) (nG (q:=false) k3.bk k3.fr rfl (by omega) rfl rfl (by simp))
 ·exact dq.ofE k2 (by omega) (by rw[k5,hD]) (nG (q:=false) k3.bk k3.fr rfl (by omega) rfl rfl (by simp))
theorem AQ (hT:t.length≤8000) (hw:bh s=']'::e):wE W n t b0 B S D s0 s (.ok e):=by
 intro H F P st' Fp Pp kind p0 name dep qs aL ax done h xs0 x hD hdn hF hP nF nP nB hqs hl hd q hq
 obtain⟨j,H1,P1,kp,k1,k2,k3,k4,k5⟩:=w5 (W:=W) (n:=n) hT hw h x hD hdn
 have xd:bc t (']'::e):=x.of (hw▸bZ s)
 have l1:=bD hF
 have l2:=bD hP
 have nF':=vI nF
 have nP':=vI nP
 have fP:=GW kp nF'.1 l1
 have pP:=GW kp nP'.1 l2
 have gF:=k4.get hF (jj ⟨nF'.2.1,nF'.2.2.1⟩)
 have gP:=k4.get hP (jj ⟨nP'.2.1,nP'.2.2.1⟩)
 obtain⟨H3,c1,c2,c3,c4,c5⟩:=g9 (W:=W) (n:=n+1) (sb:=false) (ws1:=[]) k3 xd rfl (iR rfl) (Nat.zero_lt_succ _) (.inl ⟨rfl,rfl⟩) k5 (by omega) gF gP (oh ⟨fP,nF'.2⟩) (oh ⟨pP,nP'.2⟩) nB hq xs0 hqs
 refine⟨j+1,H3,by omega,k2.trans (eN k3 xd c1) rfl,c2,k4.trans c3 (sC eJ (sC jp sZ)) (sK kp (.head _) (sC eJ (sC jp (sC mQ (sC Ao sZ))))),c4,c5⟩
theorem pI {res:qd} {res':Except Ch Ch} (hT:t.length≤8000) (hw:bh s=c::w) (hq:qf W n t b0 B S D true [] (c::w) res)
  (hr:match res with
   | .err m=>res'=.error m
   | .fin _ _=>res'=.error kr
   | .close _ _ a=>res'=.ok a
   | .term _ _ a=>wE W n t b0 B S D s0 a res'∧Sf (c::w) a):wE W n t b0 B S D s0 s res':=by
 intro H F P st' Fp Pp kind p0 name dep qs aL ax done h xs0 x hD hdn hF hP nF nP nB hqs hl hd
 obtain⟨j,H1,P1,kp,k1,k2,k3,k4,k5⟩:=w5 (W:=W) (n:=n) hT hw h x hD hdn
 have xd:bc t (c::w):=x.of (hw▸bZ s)
 have l1:=bD hF
 have l2:=bD hP
 have nF':=vI nF
 have nP':=vI nP
 have fP:=GW kp nF'.1 l1
 have pP:=GW kp nP'.1 l2
 have gF:=k4.get hF (jj ⟨nF'.2.1,nF'.2.2.1⟩)
 have gP:=k4.get hP (jj ⟨nP'.2.1,nP'.2.2.1⟩)
 have hh:∀q,c::w≠'#'::q:=fun q e=>by
  have:=(gT s).2 c w hw
  cases e
  exact absurd this (by decide)
 have D1:H1[D]? =H[D]? :=by rw[k5,hD]
 have lw:=dH s
 rw[hw]at lw
 simp only[List.length_cons]at lw
 have cr:=hq H1 F P1 (st'++[.ref Fp]) (ps t s0) aJ aL ax done k3 (.inl ⟨rfl,hh⟩) (by simp) xd k5 (show 0+(w.length+1)<8000 by omega) (by simp;omega) hdn
 have agX:∀{X:List Nat} {H':List O},Ag [P1,F,D,S,Pp] H1 H'→Ag [P,F,D,S,Pp] H H':=fun {X H'} g=>k4.trans g (sC eJ (sC jp sZ)) (sK kp (.head _) (sC eJ (sC jp (sC mQ (sC Ao sZ)))))
 cases res with
 |err m=>
  subst hr
  exact dq.of k2 (show j+3*(w.length+1)≤3*s.length by omega) D1 cr
 |fin ws e=>
  subst hr
  exact dq.of k2 (show j+3*(w.length+1)≤3*s.length by omega) D1 (cr.2 (by simp))
 |close ws e a=>
  subst hr
  intro q hq
  obtain⟨j2,H3,i1,i2,i3,i4,i5,i6⟩:=cr.2 st' Fp Pp kind p0 name dep qs s0 q rfl rfl hq xs0 gF gP (oh ⟨fP,nF'.2⟩) (oh ⟨pP,nP'.2⟩) nB hqs
  simp only[List.length_cons]at i1
  exact⟨j+j2,H3,by omega,k2.trans i2 rfl,i3,agX (X:=[]) i4,i5,i6⟩
 |term ws e a=>
  obtain⟨hs,sa⟩:=hr
  obtain⟨j2,H3,P3,l3,ip,i1,i2,i3,i4,i5⟩:=cr
  rw[if_neg (by simp)]at i5
  simp only[List.length_cons]at i1
  have la:=sa.len
  simp only[List.length_cons]at la
  have g3F:=i4.get gF (oh ⟨nF'.2.2.2,nF'.2.1,fP,nF'.2.2.1⟩)
  have g3P:=i4.get gP (oh ⟨nP'.2.2.2,nP'.2.1,pP,nP'.2.2.1⟩)
  have ih:=hs H3 F P3 st' Fp Pp kind p0 name dep qs _ _ done i3 xs0 (xd.of sa) i5 hdn g3F g3P (oh ⟨GW ip fP (Nat.lt_of_lt_of_le l1 k4.1),nF'.2⟩) (oh ⟨GW ip pP (Nat.lt_of_lt_of_le l2 k4.1),nP'.2⟩) nB hqs (by omega) (by omega)
  have D3:H3[D]? =H1[D]? :=by rw[i5,k5]
  cases res' with
  |error m=>exact dq.of (k2.trans i2 rfl) (by omega) (by rw[D3,D1]) ih
  |ok e'=>
   intro q hq
   obtain⟨j4,H4,r1,r2,r3,r4,r5,r6⟩:=ih q hq
   refine⟨j+j2+j4,H4,by omega,(k2.trans i2 rfl).trans r2 rfl,r3,agX (X:=[]) (i4.trans r4 (sC mQ (sC eJ (sC (.head _) (sC jp sZ)))) (sK ip (.head _) (sC eJ (sC jp (sC mQ (sC Ao sZ)))))),r5,r6⟩
theorem Ag.drop {X Y:List Nat} (h:Ag X H H') (hy:∀m∈X,m∈Y∨H.length≤m∨H'[m]? =H[m]?):Ag Y H H':=⟨h.1,fun m hm hx=>by
 by_cases hX:m∈X
 ·rcases hy m hX with q|q|q
  ·exact(hx q).elim
  ·omega
  ·exact q
 ·exact h.2 m hm hX⟩
theorem EB {res:Except Ch Ch} (hT:t.length≤7000) (h:wE W n t b0 B S D s s res) (hq:∀e,res=.ok e→s=q++']'::e):Gg W n t b0 B S D s (res.map fun e=>(q,e)):=by
 intro k H F P st p nm dep us hp hk x hl hs dl
 obtain⟨done,hD,hdn⟩:=dl
 obtain⟨H1,k1,k2,k3⟩:=wB (W:=W) (n:=n+1) hp hk x (wt (.inr rfl)) (by omega)
 have hx:=x.size
 simp only[List.length_cons]at hx
 have g0:=k8 hp x k1
 have SD':=hp.SD'
 have D1:H1[D]? =some (.list done):=k3.get hD (lW (Ne.symm SD'))
 have FH:=bD hp.fr
 have PH:=bD hp.wl
 have FS:=hp.FS
 have FD:=hp.FD
 have PS:=hp.PS
 have PD:=hp.PD
 have gF:=k3.get hp.fr (lW (FS))
 have gP:=k3.get hp.wl (lW (PS))
 have sr:=h H1 H.length (H.length+1) st F P _ _ _ _ us 0 0 done k2 x.next x.next D1 hdn gF gP (oh (by omega)) (oh (by omega)) hp.PB (by omega) (by omega) (by omega)
 cases res with
 |error m=>
  obtain⟨j',Hf,f1,f2,f3⟩:=sr
  exact⟨1+j',Hf,(show 1+j'≤3*(s.length+1)+3 by omega),fun k k' ek=>g0 (k+j') k' _ _ (by omega) (f2 k _ rfl),by rw[f3,D1,hD]⟩
 |ok e=>
  obtain⟨j,H2,r1,r2,r3,r4,r5,r6⟩:=sr q (hq e rfl)
  have le:=congrArg List.length (hq e rfl)
  simp only[List.length_append,List.length_cons]at le
  refine⟨1+j,H2,.two (by simp;omega),g0.trans r2 rfl,(k3.trans r4 (Z:=[S,P,D,H.length,H.length+1]) (sC (.head _) sZ) (sC Ao (sC mQ (sC jp (sC (.head _) (sC eJ sZ)))))).drop ?_,hp.back r3 ?_ r5⟩
  ·simp only[List.mem_cons,List.not_mem_nil,or_false]
   rintro m (rfl|rfl|rfl|rfl|rfl)
   ·simp
   ·simp
   ·exact .inr (.inr (by rw[r6,hD]))
   ·exact .inr (.inl (Nat.le_refl _))
   ·exact .inr (.inl (Nat.le_succ _))
  ·exact r4.get gF (by have:=hp.PF;simp;omega)
end
end Mine
end
section
namespace Mine
open PySem (PyData)
theorem Rd.up {d d':Nat} {v:V} (h:Rd d v) (hd:d≤d'):Rd d' v:=fun H=>by
 obtain⟨x,hx⟩:=h H
 exact⟨x,uM d v x hx d' hd⟩
noncomputable def Ib (k:Kd) (e:Ch):Prop:=e=[]∨∃c r,e=c::r∧jG k c r=true
noncomputable def pK (v:V):Prop:=∃c vs,c≠['t','e','x','t']∧v=.tup (.str c::vs)
noncomputable def TL (vs:List V):Prop:=∀l,txt l∈vs→l.length≤9000
noncomputable def vT (acc:List V) (n:Nat):Prop:=(acc=[]∨∃v∈acc,pK v)∧TL acc∧n≤9000
noncomputable def GG (vs:List V):Prop:=(vs.length≤1∨∃v∈vs,pK v)∧TL vs
structure PK (k:Kd) (acc:List V) (aT s:Ch) (vs:List V) (e:Ch):Prop where
 sf:Sf s e
 en:Ib k e
 pv:∀d,2*s.length+2≤d→(∀v∈acc,Pv d v)→∀v∈vs,Pv d v
 ln:vs.length≤acc.length+aT.length+s.length
 al:vT acc (aT.length+s.length)→GG vs
noncomputable def Ij (k:Kd) (acc:List V) (aT s:Ch) (res:Except Ch (List V×Ch)):Prop:=∀vs e,res=.ok (vs,e)→PK k acc aT s vs e
noncomputable def QA (W:Nat) (t:Ch) (k:Kd) (acc:List V) (aT s:Ch) (res:Except Ch (List V×Ch)):Prop:=∀n b0 B S D,dm W n t b0 B S D k acc aT s res
inductive Jg (W:Nat) (t:Ch) (k:Kd) (acc:List V) (aT s:Ch):Prop
 |mk (res:Except Ch (List V×Ch)):cR W t k acc aT s res→QA W t k acc aT s res→Ij k acc aT s res→Jg W t k acc aT s
noncomputable def TP (W:Nat) (t s:Ch):Prop:=∀k acc aT,Jg W t k acc aT s
inductive Je (W:Nat) (t s:Ch):Prop
 |mk (v:V) (e:Ch):Sf s e→pK v→Rd (2*s.length+4) v→pj W t s (.ok (v,e))→(∀n b0 B S D,tL W n t b0 B S D s (.ok (v,e)))→Je W t s
inductive I0 (W:Nat) (t s:Ch):Prop
 |mk (m:Ch):pj W t s (.error m)→(∀n b0 B S D,tL W n t b0 B S D s (.error m))→I0 W t s
inductive Jh (W:Nat) (t s:Ch):Prop
 |mk (e:Ch):Sf s (']'::e)→pY W t s (.ok (']'::e))→(∀n b0 B S D s0,wE W n t b0 B S D s0 s (.ok e))→Jh W t s
inductive I9 (W:Nat) (t s:Ch):Prop
 |mk (m:Ch):pY W t s (.error m)→(∀n b0 B S D s0,wE W n t b0 B S D s0 s (.error m))→I9 W t s
noncomputable def TV (W:Nat) (t s:Ch):Prop:=((∀q,s≠'{'::q)∧aX false s=s∧∀q,s≠'('::q)∨Je W t s∨I0 W t s
noncomputable def TS (W:Nat) (t s:Ch):Prop:=Jh W t s∨I9 W t s
section
variable {W n:Nat} {t s s' s0 r e a w aT:Ch} {c:Char} {k:Kd} {acc vs:List V} {v:V}
theorem oS {d:Nat} (h:∀v∈acc,Pv d v) (hd:2≤d):∀v∈aS acc aT,Pv d v:=by
 intro v hv
 unfold aS at hv
 split at hv
 ·exact h v hv
 ·rcases List.mem_append.mp hv with hv|hv
  ·exact h v hv
  ·simp only[List.mem_cons,List.not_mem_nil,or_false]at hv
   subst hv
   exact⟨Rd.txt.up hd,.inl ⟨aT,rfl⟩⟩
theorem oP (h:TL acc) (hr:aT.length≤9000):TL (aS acc aT):=by
 intro l hl
 unfold aS at hl
 split at hl
 ·exact h l hl
 ·rcases List.mem_append.mp hl with hl|hl
  ·exact h l hl
  ·simp only[txt,List.mem_cons,V.tup.injEq,List.cons.injEq,V.str.injEq,and_true,true_and,List.not_mem_nil,or_false]at hl
   subst hl;exact hr
theorem s8:TL []:=fun l h=>nomatch h
theorem o9 {m m':Nat} (h:m'≤m) (q:vT acc m):vT acc m':=⟨q.1,q.2.1,Nat.le_trans h q.2.2⟩
theorem re {m:Nat} (h:pK v) (hm:e.length≤m) (q:vT acc (aT.length+m)):vT (aS acc aT++[v]) (([]:Ch).length+e.length):=by
 obtain⟨-,q2,q3⟩:=q
 refine⟨.inr ⟨v,by simp,h⟩,fun l hl=>?_,(show 0+e.length≤9000 by omega)⟩
 rcases List.mem_append.mp hl with hl|hl
 ·exact oP q2 (by omega) l hl
 ·simp only[List.mem_cons,List.not_mem_nil,or_false]at hl
  obtain⟨c,vs,h1,h2⟩:=h
  rw[←hl]at h2
  cases h2
  exact absurd rfl h1
theorem pN (he:Ib k s):Ij k acc aT s (.ok (aS acc aT,s)):=by
 intro vs e h
 cases h
 have:=b6 (acc:=acc) (aT:=aT)
 refine⟨⟨[],rfl⟩,he,fun d hd ha=>oS ha (by omega),by omega,fun⟨h,tl,hn⟩=>⟨?_,oP tl (by omega)⟩⟩
 unfold aS
 rcases h with rfl|⟨v,h1,h2⟩
 ·split<;>exact .inl (by simp)
 ·split
  ·exact .inr ⟨v,h1,h2⟩
  ·exact .inr ⟨v,List.mem_append_left _ h1,h2⟩
theorem lU {run':Ch} {acc':List V} {res:Except Ch (List V×Ch)} (h:Ij k acc' run' e res) (sf:Sf s e) (hl:acc'.length+run'.length+e.length≤acc.length+aT.length+s.length) (ha:∀d,2*s.length+2≤d→(∀v∈acc,Pv d v)→∀v∈acc',Pv d v) (hq:vT acc (aT.length+s.length)→vT acc' (run'.length+e.length)):Ij k acc aT s res:=by
 intro vs e' hr
 obtain⟨h1,h2,h3,h4,h5⟩:=h vs e' hr
 have:=sf.len
 exact⟨sf.trans h1,h2,fun d hd hv=>h3 d (by omega) (ha d hd hv),by omega,fun q=>h5 (hq q)⟩
theorem qT (hW:10002<W) (hok:∀c∈t,c∉tq) (ihP:∀r,r.length<s.length→TP W t r) (ihV:∀r,r.length<s.length→TV W t r) (ihS:∀r,r.length<s.length→TS W t r) (hT:t.length≤400):TP W t s:=by
 intro k acc aT
 have snoc:∀{v:V} {d:Nat},(∀v∈acc,Pv d v)→2≤d→Pv d v→∀u∈aS acc aT++[v],Pv d u:=by
  intro v d h hd hv u hu
  rcases List.mem_append.mp hu with hu|hu
  ·exact oS h hd u hu
  ·simp only[List.mem_cons,List.not_mem_nil,or_false]at hu
   subst hu;exact hv
 rcases s with _|⟨c,r⟩
 ·exact⟨_,HO,fun _ _ _ _ _=>ww,pN (.inl rfl)⟩
 ·by_cases hst:k.stops.contains [c]=true
  ·refine⟨_,BK hst,fun _ _ _ _ _=>ww,pN (.inr ⟨c,r,rfl,?_⟩)⟩
   rcases k with b|_|_
   ·show((gw b).contains [c]||_)=true
    rw[show(gw b).contains [c]=true from hst];rfl
   ·exact hst
   ·exact hst
  ·have hst':k.stops.contains [c]=false:=by simpa using hst
   by_cases h1:c='$'
   ·subst h1
    rcases ihV r (Nat.lt_succ_self _)with⟨v1,v2,v3⟩|⟨v,e,sf,nt,rd,pv,qv⟩|⟨m,pv,qv⟩
    ·obtain⟨res,p,q,o⟩:=ihP r (Nat.lt_succ_self _) k acc (aT++['$'])
     exact⟨res,GJ (Gf hW v1 v2 v3) p,fun n b0 B S D=>FJ hW v1 v2 v3 (q n b0 B S D),lU o ⟨['$'],rfl⟩ (by simp;omega) (fun _ _ h=>h) (o9 (by simp;omega))⟩
    ·have le:=sf.len
     obtain⟨res,p,q,o⟩:=ihP e (show e.length<(r.length+1) by omega) k (aS acc aT++[v]) []
     have fl:=b6 (acc:=acc) (aT:=aT)
     refine⟨res,Hd pv sf nt p,fun n b0 B S D=>Hx (qv n b0 B S D) sf nt (q n b0 B S D),lU o (Sf.trans ⟨['$'],rfl⟩ sf) (by simp;omega) (fun d hd h=>?_) (re nt (show e.length≤(r.length+1) by omega))⟩
     simp only[List.length_cons]at hd
     exact snoc h (by omega) ⟨rd.up (by omega),.inr nt⟩
    ·exact⟨.error m,AH pv,fun n b0 B S D=>AU (qv n b0 B S D),fun _ _ h=>by cases h⟩
   ·by_cases h2:c='['
    ·subst h2
     rcases ihS r (Nat.lt_succ_self _)with⟨e,sf,pb,qs⟩|⟨m,pb,qs⟩
     ·obtain⟨q0,hq⟩:=sf
      have le:=congrArg List.length hq
      simp only[List.length_append,List.length_cons]at le
      obtain⟨res,p,q,o⟩:=ihP e (show e.length<(r.length+1) by omega) k (aS acc aT++[cm q0]) []
      have fl:=b6 (acc:=acc) (aT:=aT)
      have sf':Sf r e:=⟨q0++[']'],by rw[hq];simp⟩
      refine⟨res,Hr hW pb hq p,fun n b0 B S D=>Ic (EB (q:=q0) (by omega) (qs n b0 B S D r) (fun e' h=>by cases h;exact hq)) sf' (q n b0 B S D),lU o (Sf.trans ⟨['['],rfl⟩ sf') (by simp;omega) (fun d hd h=>?_) (re ⟨_,_,by decide,rfl⟩ (show e.length≤(r.length+1) by omega))⟩
      simp only[List.length_cons]at hd
      exact snoc h (by omega) ⟨Rd.cm.up (by omega),.inr ⟨_,_,by decide,rfl⟩⟩
     ·exact⟨.error m,AV hW pb,fun n b0 B S D=>Bm (EB (q:=[]) (by omega) (qs n b0 B S D r) (fun e' h=>by cases h)),fun _ _ h=>by cases h⟩
    ·by_cases h3:c='\\'
     ·subst h3
      by_cases hf:k.isBare=true∧∃r',r='\n'::r'
      ·obtain⟨hb,r',rfl⟩:=hf
       obtain⟨b,rfl⟩:∃b,k=.bare b:=by
        rcases k with b|_|_
        ·exact⟨b,rfl⟩
        ·cases hb
        ·cases hb
       refine⟨_,Gd,fun _ _ _ _ _=>ww,pN (.inr ⟨_,_,rfl,?_⟩)⟩
       show(_||_)=true
       rw[eH.mpr ⟨r',rfl,rfl⟩,Bool.or_true]
      ·have hf':k.isBare=true→∀q,r≠'\n'::q:=fun hb q e=>hf ⟨hb,q,e⟩
       obtain⟨b1,b2⟩:=ow r
       obtain⟨res,p,q,o⟩:=ihP (cE r).2 (by simp;omega) k acc (aT++(cE r).1)
       exact⟨res,F4 hW hok hf' p,fun n b0 B S D=>FP hW hf' (q n b0 B S D),lU o (Sf.trans ⟨['\\'],rfl⟩ (lG r)) (by simp;omega) (fun _ _ h=>h) (o9 (by simp;omega))⟩
     ·have pc:dy k c=true:=by
       unfold dy
       rw[hst']
       simp[h1,h2,h3]
      have e1:c::r=(c::r).takeWhile (dy k)++(c::r).dropWhile (dy k):=List.takeWhile_append_dropWhile.symm
      obtain⟨p,hp⟩:∃p,(c::r).takeWhile (dy k)=c::p:=⟨_,List.takeWhile_cons_of_pos pc⟩
      have all:∀d∈c::p,dy k d=true:=by
       rw[←hp];exact fun d hd=>List.all_eq_true.mp List.all_takeWhile d hd
      have stop:∀d r',(c::r).dropWhile (dy k)=d::r'→dy k d=false:=by
       intro d r' h
       have:=List.head?_dropWhile_not (dy k) (c::r)
       rw[h]at this
       simpa using this
      rw[hp]at e1
      obtain⟨rest,hrest⟩:∃rest,rest=(c::r).dropWhile (dy k):=⟨_,rfl⟩
      rw[←hrest]at e1 stop
      have le:=congrArg List.length e1
      simp only[List.length_append,List.length_cons]at le
      obtain⟨res,pp,q,o⟩:=ihP rest (show rest.length<(r.length+1) by omega) k acc (aT++c::p)
      rw[e1]
      exact⟨res,Di hW all stop pp,fun n b0 B S D=>w9 (c::p) aT all (q n b0 B S D),lU o ⟨c::p,rfl⟩ (by simp;omega) (fun _ _ h=>h) (o9 (by simp;omega))⟩
theorem CX (hW:10002<W) (ihP:∀r,r.length<s.length→TP W t r) (hT:t.length≤400) (hz:s.length≤400):TV W t s:=by
 by_cases h0:∃r,s='{'::r
 ·obtain⟨r,rfl⟩:=h0
  by_cases hc:'}'∈r
  ·obtain⟨q,r',rfl,hq⟩:=List.eq_append_cons_of_mem hc
   exact .inr (.inl ⟨_,r',⟨'{'::(q++['}']),by simp⟩,⟨_,_,by decide,rfl⟩,(Rd.vr (d:=0) Rd.none).up (by omega),DB hq,fun _ _ _ _ _=>zS hq⟩)
  ·exact .inr (.inr ⟨_,wu hc,fun _ _ _ _ _=>tX (by omega) hc⟩)
 ·have hs:∀q,s≠'{'::q:=fun q e=>h0 ⟨q,e⟩
  obtain⟨q,hq⟩:=iN s.length false s (Nat.le_refl _)
  by_cases hp:∃r,aX false s='('::r
  ·obtain⟨r,hr⟩:=hp
   have e1:s=q++'('::r:=by rw[←hr];exact hq
   have le:=congrArg List.length e1
   simp only[List.length_append,List.length_cons]at le
   obtain⟨res,p,qq,o⟩:=ihP r (by omega) .paren [] []
   have fin:∀vs e,res=.ok (vs,e)→Sf r e∧(e=[]∨∃e',e=')'::e')∧(∀v∈vs,Rd (2*r.length+2) v)∧vs.length<9000:=by
    intro vs e h
    obtain⟨o1,o2,o3,o4, -⟩:=o vs e h
    refine⟨o1,?_,fun v hv=>(o3 _ (Nat.le_refl _) n0 v hv).1,?_⟩
    ·rcases o2 with o2|⟨c,r',o2,o5⟩
     ·exact .inl o2
     ·refine .inr ⟨r',?_⟩
      have:c=')':=by simpa [jG,Kd.stops] using o5
      rw[o2,this]
    ·simp at o4;omega
   have pu:=kb p (fun us e h=>⟨_,(fin us e h).2.2.1⟩) hW (by omega)
   have pv:=DT hW hs e1 hr pu fun vs e h=>⟨(fin vs e h).1,(fin vs e h).2.1,_,(fin vs e h).2.2.1⟩
   have qv:=fun n b0 B S D=>B7 hW (by omega) hs e1 hr (qq n b0 B S D) fun vs e h=>⟨(fin vs e h).1,(fin vs e h).2.1,(fin vs e h).2.2.2⟩
   cases res with
   |error m=>exact .inr (.inr ⟨m,pv,qv⟩)
   |ok z=>
    obtain⟨vs,e⟩:=z
    obtain⟨f1,f2,f3,f4⟩:=fin vs e rfl
    rcases f2 with rfl|⟨e',rfl⟩
    ·exact .inr (.inr ⟨_,pv,qv⟩)
    ·exact .inr (.inl ⟨_,e',Sf.trans ⟨q++['('],by rw[e1];simp⟩ (f1.trans ⟨[')'],rfl⟩),⟨_,_,by decide,rfl⟩,(Rd.vr (Rd.tup f3):Rd (2*r.length+2+2) _).up (by omega),pv,qv⟩)
  ·have hp':∀q,aX false s≠'('::q:=fun q e=>hp ⟨q,e⟩
   by_cases hq0:q=[]
   ·subst hq0
    have hn:aX false s=s:=hq.symm
    exact .inl ⟨hs,hn,by rw[←hn];exact hp'⟩
   ·exact .inr (.inl ⟨_,_,⟨q,hq⟩,⟨_,_,by decide,rfl⟩,(Rd.vr (d:=0) Rd.none).up (by omega),Gm hW hs hq hq0 rfl hp',fun _ _ _ _ _=>Hz hW hs hq hq0 rfl hp'⟩)
end
end Mine
end
section
namespace Mine
open PySem (PyData)
section
variable {W n:Nat} {t s s' s0 r e a w aT:Ch} {c:Char} {k:Kd} {acc vs ws:List V} {v:V} {b:Bool}
theorem ea:∀(m:Nat) (s:Ch) (d:Nat) (acc i e:Ch),s.length≤m→fD false d acc s=some (i,e)→(∃p,i=acc++p)∧∃p,s=p++'}'::e
 |_,[],d,acc,i,e,_,h=>by cases h
 |m+1,c::r,d,acc,i,e,hm,h=>by
  have hm':r.length≤m:=by simpa using hm
  by_cases h1:c='{'
  ·subst h1
   rw[ia]at h
   obtain⟨⟨p,hp⟩,q,hq⟩:=ea m r _ _ i e hm' h
   exact⟨⟨['{']++p,by rw[hp,List.append_assoc]⟩,'{'::q,by rw[hq];rfl⟩
  ·by_cases h2:c='}'
   ·subst h2
    by_cases hd:d=1
    ·subst hd
     rw[gB]at h
     cases h
     exact⟨⟨[],(List.append_nil _).symm⟩,[],rfl⟩
    ·rw[kh hd]at h
     obtain⟨⟨p,hp⟩,q,hq⟩:=ea m r _ _ i e hm' h
     exact⟨⟨['}']++p,by rw[hp,List.append_assoc]⟩,'}'::q,by rw[hq];rfl⟩
   ·by_cases h3:c='\\'
    ·subst h3
     rcases r with _|⟨x,r⟩
     ·rw[jW]at h;cases h
     ·by_cases hx:x='\n'
      ·subst hx
       rw[mO,d8]at h
       obtain⟨z,hz⟩:=dj r
       have:=congrArg List.length hz
       simp at this hm'
       obtain⟨⟨p,hp⟩,q,hq⟩:=ea m (bJ r) _ _ i e (by omega) h
       exact⟨⟨[' ']++p,by rw[hp,List.append_assoc]⟩,'\\'::'\n'::(z++q),by rw[hz,hq];simp⟩
      ·rw[mP hx]at h
       simp at hm'
       obtain⟨⟨p,hp⟩,q,hq⟩:=ea m r _ _ i e (by omega) h
       exact⟨⟨['\\',x]++p,by rw[hp,List.append_assoc]⟩,'\\'::x::q,by rw[hq];rfl⟩
    ·rw[eU (dR.mpr ⟨h1,h2,h3⟩)]at h
     obtain⟨⟨p,hp⟩,q,hq⟩:=ea m r _ _ i e hm' h
     exact⟨⟨[c]++p,by rw[hp,List.append_assoc]⟩,c::q,by rw[hq];rfl⟩
theorem ma {d:Nat} {acc i:Ch} (h:fD false d acc s=some (i,e)):acc.length≤i.length:=by
 obtain⟨⟨p,rfl⟩, -⟩:=ea _ s d acc i e (Nat.le_refl _) h
 simp
theorem mz:∀(m:Nat) (s:Ch) (d:Nat) (acc i e:Ch),s.length≤m→fD false d acc s=some (i,e)→i.length+e.length≤acc.length+s.length
 |_,[],d,acc,i,e,_,h=>by cases h
 |m+1,c::r,d,acc,i,e,hm,h=>by
  have hm':r.length≤m:=by simpa using hm
  by_cases h1:c='{'
  ·subst h1
   rw[ia]at h
   have:=mz m r _ _ i e hm' h
   simp at this⊢;omega
  ·by_cases h2:c='}'
   ·subst h2
    by_cases hd:d=1
    ·subst hd
     rw[gB]at h
     cases h
     simp
    ·rw[kh hd]at h
     have:=mz m r _ _ i e hm' h
     simp at this⊢;omega
   ·by_cases h3:c='\\'
    ·subst h3
     rcases r with _|⟨x,r⟩
     ·rw[jW]at h;cases h
     ·by_cases hx:x='\n'
      ·subst hx
       rw[mO,d8]at h
       obtain⟨z,hz⟩:=dj r
       have hl:=congrArg List.length hz
       simp at hl hm'
       have:=mz m (bJ r) _ _ i e (by omega) h
       simp at this⊢;omega
      ·rw[mP hx]at h
       simp at hm'
       have:=mz m r _ _ i e (by omega) h
       simp at this⊢;omega
    ·rw[eU (dR.mpr ⟨h1,h2,h3⟩)]at h
     have:=mz m r _ _ i e hm' h
     simp at this⊢;omega
theorem Bo (h:fD false 1 [] s=some (['*'],e)):s='*'::'}'::e:=by
 have pre:∀{d:Nat} {acc q:Ch},fD false d acc q=some (['*'],e)→∃p,['*']=acc++p:=fun {d acc q} h=>(ea _ q d acc _ e (Nat.le_refl _) h).1
 rcases s with _|⟨c,r⟩
 ·cases h
 ·by_cases h1:c='{'
  ·subst h1
   rw[ia]at h
   obtain⟨p,hp⟩:=pre h
   cases hp
  ·by_cases h2:c='}'
   ·subst h2;rw[gB]at h;cases h
   ·by_cases h3:c='\\'
    ·subst h3
     rcases r with _|⟨x,r⟩
     ·rw[jW]at h;cases h
     ·by_cases hx:x='\n'
      ·subst hx
       rw[mO,d8]at h
       obtain⟨p,hp⟩:=pre h
       cases hp
      ·rw[mP hx]at h
       have:=ma h
       simp at this
    ·rw[eU (dR.mpr ⟨h1,h2,h3⟩)]at h
     obtain⟨p,hp⟩:=pre h
     have hc:c='*':=by simp at hp;exact hp.1.symm
     subst hc
     rcases r with _|⟨x,r⟩
     ·cases h
     ·by_cases k1:x='{'
      ·subst k1
       rw[ia]at h
       have:=ma h
       simp at this
      ·by_cases k2:x='}'
       ·subst k2
        rw[gB]at h
        cases h
        rfl
       ·by_cases k3:x='\\'
        ·subst k3
         rcases r with _|⟨y,r⟩
         ·rw[jW]at h;cases h
         ·by_cases hy:y='\n'
          ·subst hy
           rw[mO,d8]at h
           have:=ma h
           simp at this
          ·rw[mP hy]at h
           have:=ma h
           simp at this
        ·rw[eU (dR.mpr ⟨k1,k2,k3⟩)]at h
         have:=ma h
         simp at this
theorem yF (h:WS b (c::r)):eI b c r=false:=by
 obtain⟨c',r',e1,ng,tm,inn⟩:=h
 cases e1
 have g:=E2 ng
 simp only[Bool.or_eq_false_iff]at g
 unfold eI
 rw[g.2,Bool.or_false]
 have g1:¬(c=' '∨c='\t'∨c='\x0b'∨c='\x0c'∨c='\r'):=fun q=>by rw[IE.mpr q]at g;exact absurd g.1 (by decide)
 unfold term at tm
 simp only[Bool.or_eq_false_iff,beq_eq_false_iff_ne]at tm
 rw[Bool.eq_false_iff]
 intro q
 unfold gw at q
 cases b
 ·simp at q
  grind
 ·simp at q inn
  grind
structure WK (b:Bool) (s:Ch) (x:Bool) (vs:List V) (e:Ch) (cl:Cl):Prop where
 sf:Sf s e
 ln:e.length<s.length
 pv:∀v∈vs,Pv 900 v
 lc:xy s e cl
 ns:to x vs e cl
 al:vs.length<9000∧GG vs
 br:cl=.bare→skipGaps e=e→e=[]∨∃c r,e=c::r∧(term c=true∨(b=true∧c=']'))
noncomputable def Jn (b:Bool) (s:Ch) (res:Except Ch (Bool×List V×Ch×Cl)):Prop:=∀x vs e cl,res=.ok (x,vs,e,cl)→WK b s x vs e cl
inductive TW (W:Nat) (t:Ch) (b:Bool) (s:Ch):Prop
 |mk (res:Except Ch (Bool×List V×Ch×Cl)):jx W t b s res→(∀n b0 B S D,jv W n t b0 B S D b s res)→Jn b s res→TW W t b s
theorem Ai (hW:10002<W) (ihP:∀r,r.length≤s.length→TP W t r) (hT:t.length≤400) (hz:s.length≤400) (hs:WS b s) (hx:¬(bU s=true∧b=true∧∃r,body s=']'::r)):TW W t b s:=by
 have hb:=ll hs hx
 have sfb:=fq s
 have lb:=sfb.len
 obtain⟨c,r,e1,ng,tm,inn⟩:=hb
 rw[e1]at sfb lb
 simp only[List.length_cons]at lb
 by_cases h1:c='{'
 ·subst h1
  refine⟨_,CS hW e1,fun n b0 B S D=>zL hW (by omega) hs e1,?_⟩
  intro x vs e cl h
  cases hq:fD false 1 [] r with
  |none=>rw[hq]at h;cases h
  |some z=>
   obtain⟨i,e'⟩:=z
   rw[hq]at h
   cases h
   obtain⟨-,p,hp⟩:=ea _ r 1 [] i e (Nat.le_refl _) hq
   have le:=congrArg List.length hp
   simp only[List.length_append,List.length_cons]at le
   have sf:Sf s ('}'::e):=sfb.trans ⟨'{'::p,by rw[hp];rfl⟩
   refine⟨sf.trans ⟨['}'],rfl⟩,by omega,oS (d:=900) n0 (by omega),⟨by simp,fun _=>sf⟩,?_,?_,by simp⟩
   ·rintro-⟨c',r',he,hg,ht⟩ ⟨hx0,hf⟩
    have hi:i=['*']:=by
     unfold aS at hf
     split at hf
     ·cases hf
     ·simpa [txt] using hf
    subst hi
    have:=Bo hq
    have hbs:body s=s:=by unfold body;rw[hx0];rfl
    have hs':s='{'::'*'::'}'::e:=by rw[←hbs,e1,this]
    have:bU s=true:=by
     rw[hs']
     show(true&&zt e)=true
     rw[Bool.true_and,he]
     show(!(c'=='\n'||c'==';')&&decide ((skipGaps (c'::r')).length=(c'::r').length))=true
     rw[←he,hg]
     simp only[term]at ht
     rw[ht];simp
    rw[this]at hx0
    cases hx0
   ·have bl:=mz _ r 1 [] i e (Nat.le_refl _) hq
    simp only[List.length_nil]at bl
    refine⟨by unfold aS;split<;>simp,?_,oP s8 (by omega)⟩
    unfold aS
    split<;>exact .inl (by simp)
 ·by_cases h2:c='"'
  ·subst h2
   obtain⟨res,p,q,o⟩:=ihP r (by omega) .quote [] []
   have fin:∀vs e,res=.ok (vs,e)→Sf r e∧(e=[]∨∃e',e='"'::e')∧(∀v∈vs,Pv 900 v)∧vs.length<9000∧GG vs:=by
    intro vs e h
    obtain⟨o1,o2,o3,o4,o5⟩:=o vs e h
    refine⟨o1,?_,o3 900 (by omega) n0,by simp at o4;omega,o5 ⟨.inl rfl,s8,(show 0+r.length≤9000 by omega)⟩⟩
    rcases o2 with o2|⟨c,r',o2,o5⟩
    ·exact .inl o2
    ·refine .inr ⟨r',?_⟩
     have:c='"':=by simpa [jG,Kd.stops] using o5
     rw[o2,this]
   have pu:=kb p (fun us e h=>⟨900,fun v hv=>((fin us e h).2.2.1 v hv).1⟩) hW (by omega)
   refine⟨_,D8 hW e1 pu fun vs e h=>⟨(fin vs e h).1,(fin vs e h).2.1,900,fun v hv=>((fin vs e h).2.2.1 v hv).1⟩,fun n b0 B S D=>Cn hW (by omega) hs e1 (q n b0 B S D) fun vs e h=>⟨(fin vs e h).1,(fin vs e h).2.1,(fin vs e h).2.2.2.1⟩,?_⟩
   intro x vs e cl h
   cases res with
   |error m=>cases h
   |ok z=>
    obtain⟨vs',e'⟩:=z
    obtain⟨f1,f2,f3,f4⟩:=fin vs' e' rfl
    rcases f2 with rfl|⟨e'',rfl⟩
    ·cases h
    ·cases h
     have sf:Sf s ('"'::e):=sfb.trans (Sf.trans ⟨['"'],rfl⟩ f1)
     have le:=f1.len
     simp only[List.length_cons]at le
     exact⟨sf.trans ⟨['"'],rfl⟩,by omega,f3,⟨fun _=>sf,by simp⟩,(fun q=>nomatch q),f4,by simp⟩
  ·obtain⟨res,p,q,o⟩:=ihP (c::r) (show(r.length+1)≤s.length by omega) (.bare b) [] []
   have hstop:eI b c r=false:=yF (ll hs hx|>(e1▸ ·))
   have fin:∀vs e,res=.ok (vs,e)→Sf (c::r) e∧(e=[]∨∃d e',e=d::e'∧eI b d e'=true)∧(∀v∈vs,Pv 900 v)∧(vs.length<9000∧GG vs)∧e.length≤r.length:=by
    intro vs e h
    obtain⟨o1,o2,o3,o4,o5⟩:=o vs e h
    simp only[List.length_cons]at o3 o4
    refine⟨o1,o2,o3 900 (by omega) n0,⟨by simp at o4;omega,o5 ⟨.inl rfl,s8,(show 0+(r.length+1)≤9000 by omega)⟩⟩,?_⟩
    obtain⟨pp,hpp⟩:=o1
    have l:=congrArg List.length hpp
    simp only[List.length_append,List.length_cons]at l
    by_cases hpe:pp=[]
    ·subst hpe
     rcases o2 with o2|⟨d,e',o2,o6⟩
     ·rw[o2]at hpp;cases hpp
     ·rw[o2]at hpp
      cases hpp
      exact absurd (hstop.symm.trans o6) (by decide)
    ·have:=List.length_pos_iff.mpr hpe
     omega
   have pu:=kb p (fun us e h=>⟨900,fun v hv=>((fin us e h).2.2.1 v hv).1⟩) hW (by omega)
   have hx':¬(bU s=true∧b=true∧c=']'):=fun z=>hx ⟨z.1,z.2.1,r,by rw[e1,z.2.2]⟩
   refine⟨_,Bz hW e1 h1 h2 pu fun vs e h=>⟨900,fun v hv=>((fin vs e h).2.2.1 v hv).1⟩,fun n b0 B S D=>D6 hW (by omega) hs e1 h1 h2 hx' (q n b0 B S D) (fun vs e h=>⟨(fin vs e h).1,(fin vs e h).2.1,(fin vs e h).2.2.2.1.1⟩) (fun vs e h=>(fin vs e h).2.2.2.2),?_⟩
   intro x vs e cl h
   cases res with
   |error m=>cases h
   |ok z=>
    obtain⟨vs',e'⟩:=z
    obtain⟨f1,f2,f3,f4,f5⟩:=fin vs' e' rfl
    cases h
    refine⟨sfb.trans f1,by omega,f3,⟨by simp,by simp⟩,(fun q=>nomatch q),f4,fun _ hg=>?_⟩
    rcases f2 with f2|⟨d,e',rfl,hd⟩
    ·exact .inl f2
    ·refine .inr ⟨d,e',rfl,?_⟩
     by_cases ht:term d=true
     ·exact .inl ht
     ·by_cases hi:b=true∧d=']'
      ·exact .inr hi
      ·have:=yF (b:=b) ⟨d,e',rfl,hg,by simpa using ht,hi⟩
       rw[this]at hd;cases hd
end
end Mine
end
section
namespace Mine
open PySem (PyData)
noncomputable def qd.p:qd→Except Ch (List V×Ch×Ch)
 | .fin ws e=>.ok (ws,e,[])
 | .term ws e a=>.ok (ws,e,a)
 | .close ws e a=>.ok (ws,e,']'::a)
 | .err m=>.error m
inductive fY (v:V):Prop
 |mk (x:Bool) (vs:List V):v=wd x vs→(∀u∈vs,Pv 900 u)→vs.length<9000→GG vs→fY v
theorem fY.rd {v:V} (h:fY v):Rd 903 v:=by
 obtain⟨x,vs,rfl,h, -⟩:=h
 refine Rd.tup (d:=902) ?_
 intro u hu
 simp only[List.mem_cons,List.not_mem_nil,or_false]at hu
 rcases hu with rfl|rfl
 ·exact Rd.bool
 ·exact Rd.tup (d:=901) fun v hv=>(h v hv).1.up (by omega)
structure Hb (ws:List V) (s:Ch) (ws':List V) (a:Ch):Prop where
 sf:Sf s a
 ln:a.length<s.length
 ok:(∀w∈ws,fY w)→∀w∈ws',fY w
 wl:ws'.length≤ws.length+s.length
structure Fa (b:Bool) (ws:List V) (s:Ch) (ws':List V) (a:Ch):Prop where
 eb:b=true
 sf:Sf s (']'::a)
 ln:a.length+1<s.length
 ok:(∀w∈ws,fY w)→∀w∈ws',fY w
 wl:ws'.length≤ws.length+s.length
noncomputable def IK (b:Bool) (ws:List V) (s:Ch):qd→Prop
 | .err _=>True
 | .fin ws' _=>((∀w∈ws,fY w)→∀w∈ws',fY w)∧ws'.length≤ws.length+s.length
 | .term ws' _ a=>Hb ws s ws' a
 | .close ws' _ a=>Fa b ws s ws' a
section
variable {W n:Nat} {t s s' s0 r e a w aT:Ch} {c:Char} {k:Kd} {acc vs ws:List V} {v:V} {b:Bool}
inductive II (W:Nat) (t:Ch) (b:Bool) (ws:List V) (s:Ch):Prop
 |mk (res:qd):nx W t b ws s res.p→(∀n b0 B S D,qf W n t b0 B S D b ws s res)→IK b ws s res→II W t b ws s
noncomputable def TC (W:Nat) (t:Ch) (b:Bool) (s:Ch):Prop:=∀ws,II W t b ws s
theorem yo {x:Bool} (hw:∀w∈ws,fY w) (hv:∀v∈vs,Pv 900 v) (hl:vs.length<9000∧GG vs):∀w∈ws++[wd x vs],fY w:=by
 intro w h
 rcases List.mem_append.mp h with h|h
 ·exact hw w h
 ·simp only[List.mem_cons,List.not_mem_nil,or_false]at h
  subst h
  exact⟨x,vs,rfl,hv,hl.1,hl.2⟩
theorem BI {res:qd} {ws':List V} (h:IK b ws' w res) (sf:Sf s w) (hlt:w.length<s.length) (hw:(∀w∈ws,fY w)→∀w∈ws',fY w) (hl:ws'.length≤ws.length+1):IK b ws s res:=by
 have l:=sf.len
 cases res with
 |err m=>trivial
 |fin u e=>exact⟨fun q=>h.1 (hw q),by have:=h.2;omega⟩
 |term u e a=>exact⟨sf.trans h.1,by have:=h.2;omega,fun q=>h.3 (hw q),by have:=h.4;omega⟩
 |close u e a=>exact⟨h.1,sf.trans h.2,by have:=h.3;omega,fun q=>h.4 (hw q),by have:=h.5;omega⟩
theorem sM (hW:10002<W) (hT:t.length≤400):∀(m:Nat) (s:Ch),s.length≤m→s.length≤400→(∀r,r.length≤s.length→TP W t r)→WS b s→TC W t b s
 |0,s,hm,_,_,hs=>by
  obtain⟨c,r,rfl, -⟩:=hs
  simp at hm
 |m+1,s,hm,hz,ihP,hs=>by
  intro ws
  by_cases hx:bU s=true∧b=true∧∃r,body s=']'::r
  ·obtain⟨he,rfl,r,hr⟩:=hx
   obtain⟨r',e1,e2⟩:=ig he
   rw[e2]at hr
   subst hr
   have pu:pk W t (.bare true) (']'::r) (.ok (aS [] [],']'::r)):=kb (BK rfl) (fun us e h=>by cases h;exact⟨0,by simp[aS]⟩) hW (by omega)
   have pw:=Bz (b:=true) hW e2 (by decide) (by decide) pu fun vs e h=>by cases h;exact⟨0,by simp[aS]⟩
   rw[he]at pw
   have sf:Sf s (']'::r):=⟨['{','*','}'],by rw[e1];rfl⟩
   refine⟨.close (ws++[wd true []]) (']'::r) r,yI hW pw sf rfl,fun n b0 B S D=>by rw[e1];exact En hW (by omega),rfl,sf,by rw[e1];simp,fun q=>yo q n0 ⟨(Nat.zero_lt_succ _),.inl (Nat.zero_le _),s8⟩,by rw[e1];simp⟩
  ·obtain⟨res,pw,qw,ok⟩:=Ai hW ihP hT hz hs hx
   cases res with
   |error m=>exact⟨.err m,Hh pw,fun n b0 B S D=>Fv (qw n b0 B S D),trivial⟩
   |ok z=>
    obtain⟨x,vs,e,cl⟩:=z
    obtain⟨sf,hlt,hv,hlc,hns,hvl,hbare⟩:=ok x vs e cl rfl
    have lg:=dU e
    have snoc:(∀w∈ws,fY w)→∀w∈ws++[wd x vs],fY w:=fun q=>yo q hv hvl
    have hs0:0<s.length:=by omega
    cases hg:skipGaps e with
    |nil=>exact⟨.fin (ws++[wd x vs]) e,HL hW pw sf hg,fun n b0 B S D=>F5 hW (by omega) (qw n b0 B S D) sf hlt hvl.1 hg,snoc,by simp;omega⟩
    |cons d a=>
     rw[hg]at lg
     simp only[List.length_cons]at lg
     have sfg:Sf s (d::a):=sf.trans (hg▸bn e)
     by_cases ht:term d=true
     ·exact⟨.term (ws++[wd x vs]) e a,GK hW pw sf hg ht,fun n b0 B S D=>CY hW (qw n b0 B S D) sf hlt hg ht,sfg.trans ⟨[d],rfl⟩,by omega,snoc,by simp;omega⟩
     ·have ht':term d=false:=by simpa using ht
      by_cases hb:b=true∧d=']'
      ·obtain⟨rfl,rfl⟩:=hb
       exact⟨.close (ws++[wd x vs]) e a,yI hW pw sf hg,fun n b0 B S D=>A5 hW (qw n b0 B S D) sf hlt hv hlc hns hg,rfl,sfg,by omega,snoc,by simp;omega⟩
      ·by_cases hl:a.length+1<e.length
       ·have ng:skipGaps (d::a)=d::a:=by rw[←hg];exact fj _ e (Nat.le_refl _)
        obtain⟨res,p,q,o⟩:=sM hW hT m (d::a) (show(a.length+1)≤m by omega) (show(a.length+1)≤400 by omega) (fun r hr=>ihP r (by simp at hr;omega)) ⟨d,a,rfl,ng,ht',hb⟩ (ws++[wd x vs])
        exact⟨res,Ff hW pw sf hlt hg hl ht' hb p,fun n b0 B S D=>C6 hW (qw n b0 B S D) sf hlt hg hl (q n b0 B S D),BI o sfg (show(a.length+1)<s.length by omega) snoc (by simp)⟩
       ·have he:e=d::a:=by
         obtain⟨p,hp⟩:=bn e
         rw[hg]at hp
         have l:=congrArg List.length hp
         simp only[List.length_append,List.length_cons]at l
         have:p=[]:=List.length_eq_zero_iff.mp (by omega)
         rw[this]at hp
         exact hp
        have hge:skipGaps e=e:=by rw[hg,he]
        have fin:∀(l:Char),cl≠ .bare→Sf s (l::e)→II W t b ws s:=by
         intro l hcl hp
         obtain⟨p,hp⟩:=hp
         exact⟨.err (if l='"' then tv else sS),Ej hW pw hp he hge ht' hb,fun n b0 B S D=>BZ hW (qw n b0 B S D) hp hv hlc hns hcl he hge ht' hb,trivial⟩
        cases cl with
        |bare=>
         rcases hbare rfl hge with q|⟨c,r,q,hq⟩
         ·rw[q]at he;cases he
         ·rw[he]at q
          cases q
          exact(hq.elim ht hb).elim
        |quote=>exact fin '"' (by simp) (hlc.1 rfl)
        |brace=>exact fin '}' (by simp) (hlc.2 rfl)
theorem xF (hW:10002<W) (hT:t.length≤400):∀(m:Nat) (s:Ch),s.length≤m→s.length≤400→(∀r,r.length≤s.length→TP W t r)→TS W t s
 |m,s,hm,hz,ihP=>by
  have lw:=dH s
  cases hw:bh s with
  |nil=>exact .inr ⟨_,E7 hw,fun _ _ _ _ _ _=>FC (by omega) hw⟩
  |cons c w=>
   have sfw:Sf s (c::w):=hw▸bZ s
   rw[hw]at lw
   simp only[List.length_cons]at lw
   by_cases hc:c=']'
   ·subst hc
    exact .inl ⟨w,sfw,xP hw,fun _ _ _ _ _ _=>AQ (by omega) hw⟩
   ·obtain⟨f1,f2⟩:=gT s
    rw[hw]at f1
    have ht:term c=false:=by
     have:=f2 c w hw
     unfold iM at this
     simp only[Bool.or_eq_false_iff]at this
     unfold term
     rw[this.1.1,this.1.2];rfl
    obtain⟨res,p,q,o⟩:=sM (b:=true) hW hT (c::w).length (c::w) (Nat.le_refl _) (show(w.length+1)≤400 by omega) (fun r hr=>ihP r (by simp at hr;omega)) ⟨c,w,rfl,f1,ht,fun z=>hc z.2⟩ []
    have rd:∀{ws:List V},((∀w∈([]:List V),fY w)→∀w∈ws,fY w)→∀v∈ws,Rd 903 v:=fun h v hv=>(h n0 v hv).rd
    cases res with
    |err m=>exact .inr ⟨m,Hs hW (by omega) hw hc p,fun n b0 B S D s0=>pI (by omega) hw (q n b0 B S D) rfl⟩
    |fin ws e=>exact .inr ⟨kr,xm hW (by omega) hw hc p ⟨c::w,(List.append_nil _).symm⟩ (by simp) (rd o.1) (E7 rfl),fun n b0 B S D s0=>pI (by omega) hw (q n b0 B S D) rfl⟩
    |close ws e a=>
     obtain⟨-,o2,o3,o4, -⟩:=o
     exact .inl ⟨a,sfw.trans o2,xm hW (by omega) hw hc p o2 (by simpa using o3) (rd o4) (xP rfl),fun n b0 B S D s0=>pI (by omega) hw (q n b0 B S D) rfl⟩
    |term ws e a=>
     obtain⟨o2,o3,o4, -⟩:=o
     simp only[List.length_cons]at o3
     cases m with
     |zero=>omega
     |succ m=>
      rcases xF hW hT m a (by omega) (by omega) (fun r hr=>ihP r (by omega))with⟨e',s1,s2,s3⟩|⟨m',s2,s3⟩
      ·exact .inl ⟨e',(sfw.trans o2).trans s1,xm hW (by omega) hw hc p o2 (by simpa using o3) (rd o4) s2,fun n b0 B S D s0=>pI (by omega) hw (q n b0 B S D) ⟨s3 n b0 B S D s0,o2⟩⟩
      ·exact .inr ⟨m',xm hW (by omega) hw hc p o2 (by simpa using o3) (rd o4) s2,fun n b0 B S D s0=>pI (by omega) hw (q n b0 B S D) ⟨s3 n b0 B S D s0,o2⟩⟩
theorem Jf (hW:10002<W) (hok:∀c∈t,c∉tq) (hT:t.length≤400):∀(m:Nat) (s:Ch),s.length<m→s.length≤400→TP W t s∧TV W t s∧TS W t s
 |0,_,h,_=>absurd h (Nat.not_lt_zero _)
 |m+1,s,hm,hz=>by
  have ih:∀r,r.length<s.length→TP W t r∧TV W t r∧TS W t r:=fun r hr=>Jf hW hok hT m r (by omega) (by omega)
  have hp:TP W t s:=qT hW hok (fun r h=>(ih r h).1) (fun r h=>(ih r h).2.1) (fun r h=>(ih r h).2.2) hT
  refine⟨hp,CX hW (fun r h=>(ih r h).1) hT hz,xF hW hT s.length s (Nat.le_refl _) hz fun r hr=>?_⟩
  by_cases h:r.length<s.length
  ·exact(ih r h).1
  ·exact qT hW hok (fun q h=>(ih q (by omega)).1) (fun q h=>(ih q (by omega)).2.1) (fun q h=>(ih q (by omega)).2.2) hT
theorem HQ (hW:10002<W) (hok:∀c∈t,c∉tq) (hT:t.length≤400) (hz:s.length≤400) (hs:WS b s):TC W t b s:=
 sM hW hT s.length s (Nat.le_refl _) hz (fun r hr=>(Jf hW hok hT (r.length+1) r (Nat.lt_succ_self _) (by omega)).1) hs
end
end Mine
end
section
namespace Mine
open PySem (PyData)
noncomputable def CA (W:Nat) (t:Ch) (b:Bool) (s:Ch) (r:Except Ch V):Prop:=∀n H,4*s.length+13≤n→ay W n .commandAt [.str t,.int (ps t s),.bool b] H=some (r,H)
inductive zo (W:Nat) (t:Ch) (b:Bool):Ch→List V→Option Ch→Prop where
 |nil {s:Ch}:CA W t b s (.ok .none)→zo W t b s [] none
 |err {s m:Ch}:CA W t b s (.error m)→zo W t b s [] (some m)
 |cons {s e a:Ch} {ws cs:List V} {aL:Int} {o:Option Ch}:CA W t b s (.ok (cZ ws aL (ps t e) (ps t a)))→Sf s a→a.length<s.length→(∀w∈ws,fY w)→ws.length<9000→zo W t b a cs o→zo W t b s (cZ ws aL (ps t e) (ps t a)::cs) o
noncomputable def sP (D:Nat):Option Ch→V
 |none=>oj D
 |some m=>jq D m
inductive IZ (W n:Nat) (t:Ch) (b:Bool) (B D:Nat) (H:List O) (s:Ch) (done cs:List V) (o:Option Ch):Prop
 |mk (j:Nat) (Hf:List O):j≤3*s.length+4→(∀k k',k'=k+j→GV W n t b B k' (ps t s) H (sP D o) Hf)→Hf[D]? =some (.list (done++cs))→IZ W n t b B D H s done cs o
noncomputable def HT (W:Nat) (t:Ch) (b:Bool) (s:Ch) (cs:List V) (o:Option Ch):Prop:=∀n B S D H F P aL ax done,Sc t b B S D H F P [] 0 aJ [] aL ax false→bc t s→H[D]? =some (.list done)→done.length+s.length<8000→IZ W n t b B D H s done cs o
inductive HP (W:Nat) (t:Ch) (b:Bool) (s:Ch):Prop
 |mk (cs:List V) (o:Option Ch):zo W t b s cs o→HT W t b s cs o→HP W t b s
inductive I1 (W n:Nat) (t:Ch) (b:Bool) (B S D:Nat) (H:List O) (F:Nat) (done:List V) (s:Ch) (c:Char) (w:Ch) (res:qd):Prop
 |mk (j:Nat) (H1:List O) (P1:Nat):j+(w.length+1)≤s.length→Go W n t b B j (ps t s) H (ps t (c::w)) H1→H1[D]? =some (.list done)→CR W n t b B S D H1 F P1 [] 0 (ps t (c::w)) done (c::w) res→I1 W n t b B S D H F done s c w res
section
variable {W n:Nat} {t s s' s0 r e a w aT:Ch} {c:Char} {k:Kd} {acc vs ws:List V} {v:V} {b:Bool}
theorem xY (hW:10002<W) (hok:∀c∈t,c∉tq) (hT:t.length≤400):∀(m:Nat) (s:Ch),s.length<m→bc t s→HP W t b s
 |m+1,s,hm,x=>by
  have hz:=x.size
  have lw:=dH s
  cases hw:bh s with
  |nil=>
   refine⟨[],none,.nil fun n H hn=>gW hW (by omega) x (.inl hw),?_⟩
   intro n B S D H F P aL ax done h x hD hl
   have sk:=lX (W:=W) (n:=n) (by omega) (by omega) (s.length+1) s H P (Nat.lt_succ_self _) h x hD
   unfold Ar at sk
   rw[show b8 (s.length+1) s=bh s from rfl,hw]at sk
   rcases sk with⟨j,H1,P1, -,k1,k2,k3,k4,k5⟩|⟨-,j,H1,P1,st1,k1,k2,k3,k4,k5⟩
   ·obtain⟨Hf,a1,a2⟩:=vn (W:=W) (n:=n) k3 (by omega) k5 (Nat.zero_lt_succ _) (by omega)
    exact⟨j+1,Hf,by simp at k1;omega,fun k k' ek=>(k2.transE (fm (by omega) (by rw[fU];exact Int.le_refl _)) rfl) k k' _ _ ek a1,by simpa using a2⟩
   ·obtain⟨Hf,a1,a2⟩:=vn (W:=W) (n:=n) k3 (by omega) k5 (Nat.zero_lt_succ _) (by omega)
    exact⟨j,Hf,by omega,fun k k' ek=>k2 k k' _ _ ek a1,by simpa using a2⟩
  |cons c w=>
   have sfw:Sf s (c::w):=hw▸bZ s
   rw[hw]at lw
   simp only[List.length_cons]at lw
   by_cases hc:b=true∧c=']'
   ·obtain⟨rfl,rfl⟩:=hc
    refine⟨[],none,.nil fun n H hn=>gW hW (by omega) x (.inr ⟨rfl,w,hw⟩),?_⟩
    intro n B S D H F P aL ax done h x hD hl
    obtain⟨j,H1,P1, -,k1,k2,k3,k4,k5⟩:=w5 (W:=W) (n:=n) (by omega) hw h x hD (by omega)
    have xd:bc t (']'::w):=x.of sfw
    obtain⟨H3,c1,c2,c3,c4⟩:=g5 (W:=W) (n:=n+1) (sb:=false) (ws1:=[]) k3 xd rfl (iR rfl) rfl (Nat.zero_lt_succ _) (.inl ⟨rfl,rfl⟩) k5 (by omega)
    refine⟨j+1+1,H3,by omega,fun k k' ek=>((k2.trans (eN k3 xd c1) rfl).transE (qu c2 xd.next) rfl) k k' _ _ ek (qU c2),by simpa using c4⟩
   ·obtain⟨f1,f2⟩:=gT s
    rw[hw]at f1
    have hlead:=f2 c w hw
    have ht:term c=false:=by
     unfold iM at hlead
     simp only[Bool.or_eq_false_iff]at hlead
     unfold term
     rw[hlead.1.1,hlead.1.2];rfl
    have hh:∀q,c::w≠'#'::q:=fun q e=>by cases e;exact absurd hlead (by decide)
    obtain⟨res,p,q,o⟩:=HQ (b:=b) (s:=c::w) hW hok hT (show(w.length+1)≤400 by omega) ⟨c,w,rfl,f1,ht,hc⟩ []
    have xd:bc t (c::w):=x.of sfw
    have go:∀n B S D H F P aL ax done,Sc t b B S D H F P [] 0 aJ [] aL ax false→H[D]? =some (.list done)→done.length+s.length<8000→I1 W n t b B S D H F done s c w res:=by
     intro n B S D H F P aL ax done h hD hl
     obtain⟨j,H1,P1, -,k1,k2,k3,k4,k5⟩:=w5 (W:=W) (n:=n) (by omega) hw h x hD (by omega)
     exact⟨j,H1,P1,k1,k2,k5,q n b B S D H1 F P1 [] 0 aJ aL ax done k3 (.inl ⟨rfl,hh⟩) (by simp) xd k5 (show 0+(w.length+1)<8000 by omega) (show 0+2*(w.length+1)<5999 by omega) (by omega)⟩
    have ca:(∀ws e a,res.p=.ok (ws,e,a)→∃d,∀v∈ws,Rd d v)→CA W t b s (rC t (c::w) res.p):=fun h n H hn=>wi hW x (by omega) hw hc p h hn
    cases res with
    |err m'=>
     refine⟨[],some m',.err (ca fun _ _ _ h=>by cases h),?_⟩
     intro n B S D H F P aL ax done h x hD hl
     obtain⟨j,H1,P1,g1,g2,g3,j',Hf,f1,f2,f3⟩:=go n B S D H F P aL ax done h hD hl
     simp only[List.length_cons]at f1
     exact⟨j+j',Hf,by omega,fun k k' ek=>g2 (k+j') k' _ _ (by omega) (f2 k _ rfl),by rw[f3,g3,List.append_nil]⟩
    |fin ws e=>
     have wo:=o.1 n0
     have wl:=o.2
     simp only[List.length_nil,List.length_cons]at wl
     refine⟨[cZ ws (ps t (c::w)) (ps t e) (ps t [])],none,.cons (ca fun _ _ _ h=>by cases h;exact⟨903,fun v hv=>(wo v hv).rd⟩) ⟨s,(List.append_nil _).symm⟩ (show 0<s.length by omega) wo (by omega) (.nil fun n H hn=>gW hW (by simp at hn;omega) (x.of ⟨s,(List.append_nil _).symm⟩) (.inl rfl)),?_⟩
     intro n B S D H F P aL ax done h x hD hl
     obtain⟨j,H1,P1,g1,g2,g3,cr⟩:=go n B S D H F P aL ax done h hD hl
     obtain⟨j',Hf,f1,f2,f3⟩:=cr.1 rfl
     simp only[List.length_cons]at f1
     exact⟨j+j',Hf,by omega,fun k k' ek=>g2 (k+j') k' _ _ (by omega) (f2 k _ rfl),f3⟩
    |close ws e a=>
     obtain⟨o1,o2,o3,o4,o5⟩:=o
     subst o1
     have wo:=o4 n0
     simp only[List.length_nil,List.length_cons]at o3 o5
     refine⟨[cZ ws (ps t (c::w)) (ps t e) (ps t (']'::a))],none,.cons (ca fun _ _ _ h=>by cases h;exact⟨903,fun v hv=>(wo v hv).rd⟩) (sfw.trans o2) (show(a.length+1)<s.length by omega) wo (by omega) (.nil fun n H hn=>gW hW (by simp at hn;omega) (xd.of o2) (.inr ⟨rfl,a,rfl⟩)),?_⟩
     intro n B S D H F P aL ax done h x hD hl
     obtain⟨j,H1,P1,g1,g2,g3,cr⟩:=go n B S D H F P aL ax done h hD hl
     obtain⟨j',H3,f1,f2,f3,f4⟩:=cr.1 rfl
     simp only[List.length_cons]at f1
     exact⟨j+j'+1,H3,by omega,fun k k' ek=>((g2.trans f2 rfl).transE (qu f3 (xd.of o2).next) rfl) k k' _ _ ek (qU f3),f4⟩
    |term ws e a=>
     obtain⟨o2,o3,o4,o5⟩:=o
     have wo:=o4 n0
     simp only[List.length_nil,List.length_cons]at o3 o5
     obtain⟨cs,oc,sq,qt⟩:=xY hW hok hT m a (by omega) (xd.of o2)
     refine⟨cZ ws (ps t (c::w)) (ps t e) (ps t a)::cs,oc,.cons (ca fun _ _ _ h=>by cases h;exact⟨903,fun v hv=>(wo v hv).rd⟩) (sfw.trans o2) (by omega) wo (by omega) sq,?_⟩
     intro n B S D H F P aL ax done h x hD hl
     obtain⟨j,H1,P1,g1,g2,g3,j2,H3,P3,l3,ip,i1,i2,i3,i4,i5⟩:=go n B S D H F P aL ax done h hD hl
     rw[if_pos rfl]at i5
     simp only[List.length_cons]at i1
     obtain⟨j',Hf,f1,f2,f3⟩:=qt n B S D H3 F P3 _ _ _ i3 (xd.of o2) i5 (by simp;omega)
     refine⟨j+j2+j',Hf,by omega,fun k k' ek=>(g2.trans i2 rfl) (k+j') k' _ _ (by omega) (f2 k _ rfl),?_⟩
     rw[f3,List.append_assoc];rfl
inductive nf (W:Nat) (n:Nat) (t:Ch) (b:Bool) (cs:List V) (o:Option Ch) (H:List O):Prop
 |mk:∀Hf D,ay W (n+4) .lRead [.str t,.bool b] H=some (.ok (sP D o),Hf)→Hf[D]? =some (.list cs)→nf W n t b cs o H
theorem y1 {cs:List V} {o:Option Ch} {H:List O} (hW:10002<W) (hT:t.length≤400) (h:HT W t b t cs o):
  nf W n t b cs o H:=by
 have x:bc t t:=⟨by omega,[],rfl⟩
 obtain⟨B,hB⟩:∃B,B=H.length:=⟨_,rfl⟩
 let H0:List O:=H++[.dict (DF t b (B+3) (B+4) []),.dict (kt 0 aJ (B+2) 0 0 false),.list [],.list [.ref (B+1)],.list []]
 have e1:EV (ay W (n+3)) ⟨[some (.str t),some (.bool b),none,none,none],H⟩ (.dct [kE,kO,b5,n8,kg] (.cons (.loc 0) (.cons (.loc 1) (.cons (.lst (.cons (.call .lScript (.cons (.int 0) .nil)) .nil)) (.cons (.lst .nil) (.cons (.str []) .nil)))))) (.ref B) ⟨[some (.str t),some (.bool b),none,none,none],H0⟩:=by
  have l1:(H++[O.dict []]).length=B+1:=by simp[hB]
  have c1:EV (ay W (n+3)) ⟨[some (.str t),some (.bool b),none,none,none],H++[O.dict []]⟩ (.call .lScript (.cons (.int 0) .nil)) (.ref (B+1)) ⟨[some (.str t),some (.bool b),none,none,none],(H++[O.dict []])++[O.dict (kt 0 aJ (B+2) 0 0 false),O.list []]⟩:=by
   have:=EV.call (Φ:=ay W (n+3)) (σ:=⟨[some (.str t),some (.bool b),none,none,none],H++[O.dict []]⟩) (aq.cons (EV.int (i:=0)) aq.nil) (mW (W:=W) (n:=n+2) (i:=0))
   rwa[l1]at this
  have c2:=EV.lst (aq.cons c1 aq.nil)
  have l2:((H++[O.dict []])++[O.dict (kt 0 aJ (B+2) 0 0 false),O.list []]).length=B+3:=by simp[hB]
  rw[l2]at c2
  have c3:=EV.lst (Φ:=ay W (n+3)) (σ:=⟨[some (.str t),some (.bool b),none,none,none],((H++[O.dict []])++[O.dict (kt 0 aJ (B+2) 0 0 false),O.list []])++[O.list [.ref (B+1)]]⟩) aq.nil
  have l3:(((H++[O.dict []])++[O.dict (kt 0 aJ (B+2) 0 0 false),O.list []])++[O.list [V.ref (B+1)]]).length=B+4:=by simp[hB]
  rw[l3]at c3
  have d:=EV.dct (ks:=[kE,kO,b5,n8,kg]) (Φ:=ay W (n+3)) (σ:=⟨[some (.str t),some (.bool b),none,none,none],H⟩) (aq.cons (EV.loc (i:=0) rfl) (aq.cons (EV.loc (i:=1) rfl) (aq.cons c2 (aq.cons c3 (aq.cons (EV.str (l:=[])) aq.nil))))) (by simp[dictOf?])
  have hset:((((H++[O.dict []])++[O.dict (kt 0 aJ (B+2) 0 0 false),O.list []])++[O.list [V.ref (B+1)]])++[O.list []]).set H.length (.dict (DF t b (B+3) (B+4) []))=H0:=by simp[H0]
  rw[←hB]at d hset
  exact hset▸d
 have bk:Bk t b B (B+3) (B+4) H0 [] ([]++[.ref (B+1)]):=⟨by simp[H0,hB],by simp[H0,hB],by omega,by omega,by simp[H0,hB],by simp⟩
 have sc:Sc t b B (B+3) (B+4) H0 (B+1) (B+2) [] 0 aJ [] 0 0 false:=⟨bk,by simp[H0,hB],by simp[H0,hB],by omega,by omega,by omega,by omega,by omega,by omega,by omega⟩
 obtain⟨j,Hf,h1,h2,h3⟩:=h n B (B+3) (B+4) H0 (B+1) (B+2) 0 0 [] sc x (by simp[H0,hB]) (show 0+t.length<8000 by omega)
 obtain⟨k,hk⟩:∃k,W=k+j:=⟨W-j,by omega⟩
 obtain⟨lo',out⟩:=h2 k W hk none
 rw[rK]at out
 refine⟨Hf,B+4,aN (Fu:=yh) (lo':=lo') rfl rfl rfl (aa (aV e1 (show(2:Nat)<5 by decide)) (aa (aV EV.int (show(3:Nat)<5 by decide)) ?_)),by simpa using h3⟩
 unfold RD at out
 show bF (ay W (n+3)) W (.cons (.whl oM wG) Al) ⟨kl t b B 0 none,H0⟩=_
 exact out
end
end Mine
end
section
namespace Mine
open PySem (PyData)
section
variable {W n:Nat} {t s a:Ch} {H:List O} {Φ:ci} {lo:List (Option V)} {b:Bool} {cs ws:List V} {o:Option Ch} {v u:V} {σ σ' σ'':St} {i j:Nat}
theorem Dm:∀(d:Nat) (v:V) (x:PyData),pd H d v=some x→PyData.eqv x x=true:=by
 intro d
 induction d with
 |zero=>intro v x h;cases h
 |succ d ih=>
  intro v x h
  have lst:∀(us:List V) (ds:List PyData),bi (pd H d) us=some ds→PyData.eqvAll ds ds=true:=by
   intro us
   induction us with
   |nil=>intro ds h;cases h;rfl
   |cons u us ih2=>
    intro ds h
    unfold bi at h
    cases hu:pd H d u with
    |none=>rw[hu]at h;cases h
    |some y=>
     cases hl:bi (pd H d) us with
     |none=>rw[hu,hl]at h;cases h
     |some ys=>
      rw[hu,hl]at h;cases h
      simp only[PyData.eqvAll,ih u y hu,ih2 ys hl,Bool.and_self]
  cases v with
  |tup us=>
   unfold pd at h
   dsimp only at h
   cases hu:bi (pd H d) us with
   |none=>rw[hu]at h;cases h
   |some ds=>rw[hu]at h;cases h;simp only[PyData.eqv,lst us ds hu]
  |ref i=>
   unfold pd at h
   dsimp only at h
   cases hi:listOf? H i with
   |none=>rw[hi]at h;cases h
   |some us=>
    rw[hi]at h
    dsimp only at h
    cases hu:bi (pd H d) us with
    |none=>rw[hu]at h;cases h
    |some ds=>rw[hu]at h;cases h;simp only[PyData.eqv,lst us ds hu]
  |none=>cases h;rfl
  |bool b=>cases h;simp[PyData.eqv]
  |int i=>cases h;simp[PyData.eqv]
  |str l=>cases h;simp[PyData.eqv]
  |exc m=>cases h
theorem xx {x:PyData} (hu:pd H ji u=some x) (hv:pd H ji v=some x):dX H .eq u v=some true:=by
 show(match pd H ji u,pd H ji v with|some x,some y=>some (PyData.eqv x y)|_,_=>none)=_
 rw[hu,hv]
 show some (PyData.eqv x x)=_
 rw[Dm _ _ _ hu]
theorem yt (h:dX H .eq u v=some true):dX H .ne u v=some false:=by
 have h':C2 H u v=some true:=h
 show(C2 H u v).map (!·)=_
 rw[h'];rfl
theorem wQ {d:Nat} {ds:List PyData} (hi:listOf? H i=some cs) (h:bi (pd H d) cs=some ds):pd H (d+1) (.ref i)=some (.list ds):=by
 unfold pd;dsimp only;rw[hi];dsimp only;rw[h];rfl
theorem Cr {d:Nat} (hd:d<ji) (hi:listOf? H i=some cs) (hj:listOf? H j=some cs) (hr:∀c∈cs,Rd d c):dX H .eq (.ref i) (.ref j)=some true:=by
 obtain⟨ds,h⟩:=gA (f:=pd H d) (l:=cs) fun v hv=>hr v hv H
 exact xx (uM _ _ _ (wQ hi h) _ hd) (uM _ _ _ (wQ hj h) _ hd)
noncomputable def fV (m:Ch):V:=.tup [.int 1,.str m,.tup [.str ['N','O','N','E']]]
noncomputable def oV:Option Ch→V
 |none=>.none
 |some m=>fV m
theorem wZ:sP i o=.tup [.ref i,oV o]:=by cases o<;>rfl
theorem H6:Rd 4 (oV o):=by
 cases o with
 |none=>exact Rd.none
 |some m=>
  refine Rd.tup (d:=3) fun v hv=>?_
  simp only[List.mem_cons,List.not_mem_nil,or_false]at hv
  rcases hv with rfl|rfl|rfl
  ·exact Rd.int
  ·exact Rd.str
  ·refine Rd.tup (d:=2) fun v hv=>?_
   simp only[List.mem_cons,List.not_mem_nil,or_false]at hv
   subst hv;exact Rd.str
theorem B5 (hi:listOf? H i=some cs) (hj:listOf? H j=some cs) (hr:∀c∈cs,Rd 905 c):dX H .eq (sP i o) (.tup [.ref j,oV o])=some true:=by
 obtain⟨ds,h⟩:=gA (f:=pd H 905) (l:=cs) fun v hv=>hr v hv H
 obtain⟨x,hx⟩:=(H6 (o:=o)).up (show 4≤906 by decide) H
 have k:∀{p},listOf? H p=some cs→pd H ji (.tup [.ref p,oV o])=some (.tuple [.list ds,x]):=fun {p} hp=>
  uM 907 _ _ (wO (d:=906) (by simp only[bi,wQ hp h,hx])) _ (by decide)
 rw[wZ]
 exact xx (k hi) (k hj)
noncomputable def uO (v:V):Prop:=∃ws aL ax aft,v=cZ ws aL ax aft∧(∀w∈ws,fY w)∧ws.length<9000
theorem uO.rd (h:uO v):Rd 905 v:=by
 obtain⟨ws,aL,ax,aft,rfl,h, -⟩:=h
 refine Rd.tup (d:=904) fun v hv=>?_
 simp only[List.mem_cons,List.not_mem_nil,or_false]at hv
 rcases hv with rfl|rfl|rfl|rfl
 ·exact Rd.tup (d:=903) fun w hw=>(h w hw).rd
 ·exact Rd.int
 ·exact Rd.int
 ·exact Rd.int
theorem zo.ok (h:zo W t b s cs o):∀c∈cs,uO c:=by
 induction h with
 |nil _=>simp
 |err _=>simp
 |cons _ _ _ hw hl _ ih=>
  intro c hc
  rcases List.mem_cons.mp hc with rfl|hc
  ·exact⟨_,_,_,_,rfl,hw,hl⟩
  ·exact ih c hc
theorem zo.len (h:zo W t b s cs o):cs.length≤s.length:=by
 induction h with
 |nil _=>simp
 |err _=>simp
 |cons _ _ hl _ _ _ ih=>simp;omega
theorem tZ {cnd:E} {bod:Ss} {lf:V→List (Option V)} (hn:4*t.length+13≤n) (hT:t.length≤400)
  (h0:∀acc,acc.length≤t.length→EV Φ ⟨lf .none,H++[.list acc]⟩ cnd (.bool false) ⟨lf .none,H++[.list acc]⟩)
  (h1:∀acc ws aL ax aft,acc.length≤t.length→EV Φ ⟨lf (cZ ws aL ax aft),H++[.list acc]⟩ cnd (.bool true) ⟨lf (cZ ws aL ax aft),H++[.list acc]⟩)
  (h2:∀(acc:List V) ws aL ax a r,acc.length≤t.length→(∀H,ay W n .commandAt [.str t,.int (ps t a),.bool b] H=some (r,H))→bF Φ W bod ⟨lf (cZ ws aL ax (ps t a)),H++[.list acc]⟩=match r with
   | .ok v=>okR .next ⟨lf v,H++[.list (acc++[cZ ws aL ax (ps t a)])]⟩
   | .error m=>some (.error m,⟨lf (cZ ws aL ax (ps t a)),H++[.list (acc++[cZ ws aL ax (ps t a)])]⟩))
  (h:zo W t b s cs o) (hs:s.length≤t.length):∃r,CA W t b s r∧(∀m,r=.error m→cs=[]∧o=some m)∧∀v,r=.ok v→∀k (acc:List V),s.length<k→acc.length+s.length≤t.length→
   match o with
   |none=>iter (tE Φ cnd) (bF Φ W bod) k ⟨lf v,H++[.list acc]⟩=okR .next ⟨lf .none,H++[.list (acc++cs)]⟩
   |some m=>∃x,iter (tE Φ cnd) (bF Φ W bod) k ⟨lf v,H++[.list acc]⟩=some (.error m,⟨lf x,H++[.list (acc++cs)]⟩):=by
 induction h with
 |nil ca=>
  refine⟨_,ca,(fun _ q=>nomatch q),fun v hv k acc hk hl=>?_⟩
  cases hv
  obtain⟨k,rfl⟩:∃q,k=q+1:=⟨k-1,by omega⟩
  rw[List.append_nil]
  exact bK (h0 acc (by omega))
 |err ca=>exact⟨_,ca,fun _ q=>by cases q;exact⟨rfl,rfl⟩,fun v hv=>by cases hv⟩
 |@cons s e a ws cs aL o ca sf hl hw hwl sq ih=>
  refine⟨_,ca,(fun _ q=>nomatch q),fun v hv k acc hk hac=>?_⟩
  cases hv
  obtain⟨k,rfl⟩:∃q,k=q+1:=⟨k-1,by omega⟩
  obtain⟨r,ca2,herr,hok⟩:=ih (by omega)
  have bd:=h2 acc ws aL (ps t e) a r (by omega) (fun H=>ca2 n H (by omega))
  cases r with
  |error m=>
   obtain⟨rfl,rfl⟩:=herr m rfl
   exact⟨_,mI (h1 acc _ _ _ _ (by omega)) bd⟩
  |ok v=>
   have:=hok v rfl k (acc++[cZ ws aL (ps t e) (ps t a)]) (by omega) (by simp;omega)
   cases o with
   |none=>
    dsimp only at this⊢
    rw[show acc++cZ ws aL (ps t e) (ps t a)::cs=acc++[cZ ws aL (ps t e) (ps t a)]++cs by simp]
    exact ba (h1 acc _ _ _ _ (by omega)) bd this
   |some m=>
    dsimp only at this⊢
    obtain⟨x,this⟩:=this
    rw[show acc++cZ ws aL (ps t e) (ps t a)::cs=acc++[cZ ws aL (ps t e) (ps t a)]++cs by simp]
    exact⟨x,ba (h1 acc _ _ _ _ (by omega)) bd this⟩
theorem nM {x y:V}:ay W (n+1) .commandAt [x,y] H=ay W (n+1) .commandAt [x,y,.bool false] H:=rfl
theorem xO {s:Ss} {i:Nat} {x:E} {f:Fl} (h:bF Φ W s σ=okR f σ'):eS Φ W (.tryR s i x) σ=okR f σ':=G1 (g:=fun m σ'=>cW (eE Φ x σ') fun v σ''=>okR (Fl.ret (.tup [v,.tup [.int 1,.str m,.tup [.str "NONE".toList]]])) σ'') h
theorem ol {s:Ss} {i:Nat} {x:E} {m:Ch} (h:bF Φ W s σ=some (.error m,σ')) (hi:σ'.loc[i]? =some none) (hx:EV Φ σ' x v σ''):eS Φ W (.tryR s i x) σ=okR (.ret (.tup [v,fV m])) σ'':=
 (Gk (g:=fun m σ'=>cW (eE Φ x σ') fun v σ''=>okR (Fl.ret (.tup [v,.tup [.int 1,.str m,.tup [.str "NONE".toList]]])) σ'') h hi).trans (aA hx)
theorem za {e:E} {m:Ch} (h:eE Φ e σ=some (.error m,σ')):eS Φ W (.ret e) σ=some (.error m,σ'):=iK h
theorem C9 {e:E} {es:Es} {m:Ch} (h:eE Φ e σ=some (.error m,σ')):eE Φ (.tup (.cons e es)) σ=some (.error m,σ'):=iK (iK h)
theorem t8 {fu:Fn} {Fu:eK} {us:List V} {m:Ch} (hf:fn fu=some Fu) (hl:(Fu.full us).length=Fu.params) (hp:Fu.pure=false) (h:bF (ay W n) W Fu.body ⟨(Fu.full us).map some++List.replicate (Fu.slots-Fu.params) none,H⟩=some (.error m,σ)):ay W (n+1) fu us H=some (.error m,σ.hp):=
 (lh hf hl).trans ((congrArg (vq Fu H) h).trans (if_neg (hp▸Bool.false_ne_true)))
theorem Ia {ws:List V} {aL ax aft:Int}:iG H (cZ ws aL ax aft) (.int 3)=some (.int aft):=by
 exact ry (i:=3) rfl rfl
noncomputable def Gw:E:=.cmp .isn (.loc 2) .none
noncomputable def Fj:Ss:=(.cons (.expr (.append (.loc 1) (.loc 2))) (.cons (.asg 2 (.call .commandAt (.cons (.loc 0) (.cons (.idx (.loc 2) (.int 3)) .nil)))) .nil))
theorem pi (hW:10002<W) (hT:t.length≤400) (hn:4*t.length+13≤n+1) (h:zo W t false t cs o):ay W (n+2) .commandsOf [.str t] H=some (match o with
  |none=>.ok (.ref H.length)
  |some m=>.error m,H++[.list cs]):=by
 obtain⟨r,ca,herr,hok⟩:=tZ (Φ:=ay W (n+1)) (H:=H) (n:=n+1) (cnd:=Gw) (bod:=Fj) (lf:=fun v=>[some (.str t),some (.ref H.length),some v]) hn hT
  (fun acc _=>EV.cmp (EV.loc rfl) EV.none rfl) (fun acc ws aL ax aft _=>EV.cmp (EV.loc rfl) EV.none rfl)
  (fun acc ws aL ax a r hl hc=>by
   have e1:=EV.app (Φ:=ay W (n+1)) (acc:=acc) (b:=.loc 2) (lo:=[some (.str t),some (.ref H.length),some (cZ ws aL ax (ps t a))]) (i:=1) (H:=H) rfl (EV.loc rfl) (by omega)
   have e2:∀H',aq (ay W (n+1)) ⟨[some (.str t),some (.ref H.length),some (cZ ws aL ax (ps t a))],H'⟩ (.cons (.loc 0) (.cons (.idx (.loc 2) (.int 3)) .nil)) [.str t,.int (ps t a)] ⟨[some (.str t),some (.ref H.length),some (cZ ws aL ax (ps t a))],H'⟩:=fun H'=>
    aq.cons (EV.loc rfl) (aq.cons (EV.idx (EV.loc rfl) EV.int Ia) aq.nil)
   cases r with
   |ok v=>exact aa (bj e1) (ao (aV (EV.callP (e2 _) (nM.trans (hc _))) (show(2:Nat)<3 by decide)))
   |error m=>exact aa (bj e1) (ao (im (cX (e2 _) (nM.trans (hc _)))))) h (Nat.le_refl _)
 have c0:=ca (n+1) (H++[.list []]) hn
 rw[rK]at c0
 have a1:eS (ay W (n+1)) W (.asg 1 (.lst .nil)) ⟨[some (.str t),none,none],H⟩=okR .next ⟨[some (.str t),some (.ref H.length),none],H++[.list []]⟩:=aV (EV.lst aq.nil) (show(1:Nat)<3 by decide)
 have e2:aq (ay W (n+1)) ⟨[some (.str t),some (.ref H.length),none],H++[.list []]⟩ (.cons (.loc 0) (.cons (.int 0) .nil)) [.str t,.int 0] ⟨[some (.str t),some (.ref H.length),none],H++[.list []]⟩:=aq.cons (EV.loc rfl) (aq.cons EV.int aq.nil)
 cases r with
 |error m=>
  obtain⟨rfl,rfl⟩:=herr m rfl
  exact t8 (Fu:=gf) rfl rfl rfl (aa a1 (bA (im (cX e2 (nM.trans c0)))))
 |ok v=>
  have a2:=aV (W:=W) (i:=2) (EV.callP e2 (nM.trans c0)) (show(2:Nat)<3 by decide)
  have lp:=hok v rfl W [] (by omega) (by simp)
  cases o with
  |none=>exact aN (Fu:=gf) rfl rfl rfl (aa a1 (aa a2 (aa (cP lp) (ak (aK (EV.loc rfl))))))
  |some m=>
   obtain⟨x,lp⟩:=lp
   exact t8 (Fu:=gf) rfl rfl rfl (aa a1 (aa a2 (bA (cP lp))))
theorem AX (hW:10002<W) (hT:t.length≤400) (hn:4*t.length+13≤n+1) (h:zo W t false t cs o):ay W (n+3) .lAll [.str t] H=some (match o with
  |none=>(.ok (sP H.length none),H++[.list cs])
  |some m=>(.ok (sP (H.length+1) (some m)),H++[.list cs]++[.list []])):=by
 have c:=pi (H:=H) hW hT hn h
 have e:aq (ay W (n+2)) ⟨[some (.str t),none],H⟩ (.cons (.loc 0) .nil) [.str t] ⟨[some (.str t),none],H⟩:=aq.cons (EV.loc rfl) aq.nil
 cases o with
 |none=>exact aN (Fu:=v9) rfl rfl rfl (ak (xO (ak (aK (EV.tup (aq.cons (EV.call e c) (aq.cons EV.none aq.nil)))))))
 |some m=>
  refine aN (Fu:=v9) (lo':=[some (.str t),none]) rfl rfl rfl (ak (ol (m:=m) (σ':=⟨[some (.str t),none],H++[.list cs]⟩) (v:=.ref (H.length+1)) (bA (za (C9 (cX e c)))) rfl ?_))
  ·have:=EV.lst (Φ:=ay W (n+2)) (σ:=⟨[some (.str t),none],H++[.list cs]⟩) aq.nil
   rwa[show(H++[O.list cs]).length=H.length+1 by simp]at this
noncomputable def Gn:E:=(.and (.cons (.cmp .isn (.loc 3) .none) (.cons (.cmp .le (.len (.loc 2)) (.len (.loc 0))) .nil)))
noncomputable def Fy:Ss:=(.cons (.expr (.append (.loc 2) (.loc 3))) (.cons (.asg 3 (.call .commandAt (.cons (.loc 0) (.cons (.idx (.loc 3) (.int 3)) (.cons (.loc 1) .nil))))) .nil))
theorem pX (hW:10002<W) (hT:t.length≤400) (hn:4*t.length+13≤n) (h:zo W t b t cs o):ay W (n+1) .lOneByOne [.str t,.bool b] H=some (.ok (sP H.length o),H++[.list cs]):=by
 obtain⟨r,ca,herr,hok⟩:=tZ (Φ:=ay W n) (H:=H) (n:=n) (cnd:=Gn) (bod:=Fy) (lf:=fun v=>[some (.str t),some (.bool b),some (.ref H.length),some v,none]) hn hT
  (fun acc _=>EV.andF (EV.cmp (EV.loc rfl) EV.none rfl))
  (fun acc ws aL ax aft hl=>EV.andT (EV.cmp (EV.loc rfl) EV.none rfl) (EV.and1 (EV.cmp (EV.lenL (EV.loc rfl) bO (by rw[dC];omega)) (EV.len (EV.loc rfl) (by rw[dC];omega)) (by
   show some (decide ((acc.length:Int)≤(t.length:Int)))=_
   rw[decide_eq_true (by omega)]))))
  (fun acc ws aL ax a r hl hc=>by
   have e1:=EV.app (Φ:=ay W n) (acc:=acc) (b:=.loc 3) (lo:=[some (.str t),some (.bool b),some (.ref H.length),some (cZ ws aL ax (ps t a)),none]) (i:=2) (H:=H) rfl (EV.loc rfl) (by omega)
   have e2:∀H',aq (ay W n) ⟨[some (.str t),some (.bool b),some (.ref H.length),some (cZ ws aL ax (ps t a)),none],H'⟩ (.cons (.loc 0) (.cons (.idx (.loc 3) (.int 3)) (.cons (.loc 1) .nil))) [.str t,.int (ps t a),.bool b] ⟨[some (.str t),some (.bool b),some (.ref H.length),some (cZ ws aL ax (ps t a)),none],H'⟩:=fun H'=>
    aq.cons (EV.loc rfl) (aq.cons (EV.idx (EV.loc rfl) EV.int Ia) (aq.cons (EV.loc rfl) aq.nil))
   cases r with
   |ok v=>exact aa (bj e1) (ao (aV (EV.callP (e2 _) (hc _)) (show(3:Nat)<5 by decide)))
   |error m=>exact aa (bj e1) (ao (im (cX (e2 _) (hc _))))) h (Nat.le_refl _)
 have c0:=ca n (H++[.list []]) hn
 rw[rK]at c0
 have a1:eS (ay W n) W (.asg 2 (.lst .nil)) ⟨[some (.str t),some (.bool b),none,none,none],H⟩=okR .next ⟨[some (.str t),some (.bool b),some (.ref H.length),none,none],H++[.list []]⟩:=aV (EV.lst aq.nil) (show(2:Nat)<5 by decide)
 have e2:aq (ay W n) ⟨[some (.str t),some (.bool b),some (.ref H.length),none,none],H++[.list []]⟩ (.cons (.loc 0) (.cons (.int 0) (.cons (.loc 1) .nil))) [.str t,.int 0,.bool b] ⟨[some (.str t),some (.bool b),some (.ref H.length),none,none],H++[.list []]⟩:=
  aq.cons (EV.loc rfl) (aq.cons EV.int (aq.cons (EV.loc rfl) aq.nil))
 cases r with
 |error m=>
  obtain⟨rfl,rfl⟩:=herr m rfl
  exact aN (Fu:=gQ) rfl rfl rfl (aa a1 (ak (ol (bA (im (cX e2 c0))) rfl (EV.loc rfl))))
 |ok v=>
  have a2:=aV (W:=W) (i:=3) (EV.callP e2 c0) (show(3:Nat)<5 by decide)
  have lp:=hok v rfl W [] (by omega) (by simp)
  cases o with
  |none=>exact aN (Fu:=gQ) rfl rfl rfl (aa a1 (aa (xO (aa a2 (ao (cP lp)))) (ak (aK (EV.tup (aq.cons (EV.loc rfl) (aq.cons EV.none aq.nil)))))))
  |some m=>
   obtain⟨x,lp⟩:=lp
   exact aN (Fu:=gQ) rfl rfl rfl (aa a1 (ak (ol (aa a2 (ao (cP lp))) rfl (EV.loc rfl))))
end
end Mine
end
section
namespace Mine
open PySem (PyData)
section
variable {W n:Nat} {t s a:Ch} {H:List O} {Φ:ci} {lo:List (Option V)} {b x:Bool} {vs ws:List V} {v u w:V} {σ ah:St} {i j:Nat}
theorem jT {a b:V} {us:List V}:iG H (.tup (a::b::us)) (.int 1)=some b:=by
 exact ry (i:=1) rfl (A8 (i:=1) (Nat.succ_lt_succ (Nat.succ_pos _)))
theorem aq.one {e:E} (h:EV Φ σ e v ah):aq Φ σ (.cons e .nil) [v] ah:=aq.cons h aq.nil
theorem oq {l:Ch}:¬pK (txt l):=by
 rintro⟨c,vs,h,e⟩
 cases e
 exact h rfl
open Classical in
noncomputable def wC (v:V):V:=if h:∃l,v=txt l then .str h.choose else .none
theorem zK {l:Ch}:wC (txt l)=.str l:=by
 have h:∃l',txt l=txt l':=⟨l,rfl⟩
 unfold wC
 rw[dif_pos h]
 exact congrArg V.str (V.str.inj (List.cons.inj (List.cons.inj (V.tup.inj h.choose_spec)).2).1).symm
theorem AA {v:V} (h:pK v):wC v=.none:=dif_neg fun⟨_,e⟩=>oq (e▸h)
noncomputable def Jm:List V→V
 |[]=>.str []
 |v::vs=>match vs with
  |[]=>wC v
  |_=>.none
noncomputable def uG:Bool→List V→V
 |true,_=>.none
 |false,vs=>Jm vs
theorem ym {l:Ch}:uG false [txt l]=.str l:=zK
theorem EJ:uG true vs=.none:=rfl
theorem xS (h:∃v∈vs,pK v):uG x vs=.none:=by
 cases x with
 |true=>rfl
 |false=>
  cases vs with
  |nil=>exact h.elim fun _ h=>nomatch h.1
  |cons u vs=>cases vs with
   |nil=>exact h.elim fun v h=>AA (List.mem_singleton.mp h.1▸h.2)
   |cons _ _=>rfl
theorem Cs:uG x vs=.none∨∃l,uG x vs=.str l:=by
 cases x with
 |true=>exact .inl rfl
 |false=>
  cases vs with
  |nil=>exact .inr ⟨_,rfl⟩
  |cons u vs=>cases vs with
   |nil=>
    show wC u=.none∨∃l,wC u=.str l
    unfold wC
    split
    ·exact .inr ⟨_,rfl⟩
    ·exact .inl rfl
   |cons _ _=>exact .inl rfl
theorem Bl:Rd 1 (uG x vs):=by
 rcases Cs (x:=x) (vs:=vs)with h|⟨l,h⟩<;>rw[h]
 ·exact Rd.none
 ·exact Rd.str
theorem Dg {k:Nat}:ii k (uG x vs)=true:=Bl.low
theorem fY.cases (h:∀u∈vs,Pv 900 u) (ha:GG vs):vs=[]∨(∃l,vs=[txt l]∧l.length≤9000)∨∃v∈vs,pK v:=by
 rcases ha.1 with q|q
 ·rcases vs with _|⟨u,_|⟨u2,vs⟩⟩
  ·exact .inl rfl
  ·rcases(h u (.head _)).2 with⟨l,rfl⟩|z
   ·exact .inr (.inl ⟨l,rfl,ha.2 l (.head _)⟩)
   ·exact .inr (.inr ⟨u,.head _,z⟩)
  ·simp at q
 ·exact .inr (.inr q)
theorem u6 (h:fY (wd x vs)):ay W (n+1) .plainOf [wd x vs] H=some (.ok (uG x vs),H):=by
 obtain⟨x',vs',e,hp,hl,ha⟩:=h
 cases e
 have a1:eS (ay W n) W (.asgT [.loc 1,.loc 2] (.loc 0)) ⟨[some (wd x vs),none,none],H⟩=okR .next ⟨[some (wd x vs),some (.bool x),some (.tup vs)],H⟩:=
  cK (EV.loc rfl) rfl (cn (show(1:Nat)<3 by decide) (show(2:Nat)<3 by decide))
 have ln:EV (ay W n) ⟨[some (wd x vs),some (.bool x),some (.tup vs)],H⟩ (.len (.loc 2)) (.int vs.length) ⟨[some (wd x vs),some (.bool x),some (.tup vs)],H⟩:=EV.lenT (EV.loc rfl) (by rw[dC];omega)
 have c1:EV (ay W n) ⟨[some (wd x vs),some (.bool x),some (.tup vs)],H⟩ (.or (.cons (.loc 1) (.cons (.cmp .gt (.len (.loc 2)) (.int 1)) .nil))) (.bool (x||decide ((vs.length:Int)>1))) ⟨[some (wd x vs),some (.bool x),some (.tup vs)],H⟩:=
  EV.or2 (EV.loc rfl) fun _=>EV.cmp ln EV.int rfl
 have c2:EV (ay W n) ⟨[some (wd x vs),some (.bool x),some (.tup vs)],H⟩ (.cmp .eq (.len (.loc 2)) (.int 0)) (.bool (decide ((vs.length:Int)=0))) ⟨[some (wd x vs),some (.bool x),some (.tup vs)],H⟩:=EV.cmp ln EV.int hG
 have none_:x=true∨1<vs.length→uG x vs=.none→ay W (n+1) .plainOf [wd x vs] H=some (.ok (uG x vs),H):=fun q e=>by
  have hb:(x||decide ((vs.length:Int)>1))=true:=by
   rcases q with rfl|q
   ·rfl
   ·rw[decide_eq_true (by omega),Bool.or_true]
  rw[hb]at c1
  rw[e]
  exact aM (F:=ib) rfl rfl rfl (aa a1 (ak (aB c1 (ak (aK EV.none))))) (List.take_length ..) rfl
 cases x with
 |true=>exact none_ (.inl rfl) EJ
 |false=>
  by_cases h1:1<vs.length
  ·refine none_ (.inr h1) ?_
   rcases vs with _|⟨u,_|⟨u2,vs⟩⟩
   ·exact absurd h1 (Nat.not_lt_zero _)
   ·exact absurd h1 (Nat.lt_irrefl _)
   ·rfl
  ·rw[show(false||decide ((vs.length:Int)>1))=false by rw[decide_eq_false (by omega)];rfl]at c1
   rcases vs with _|⟨u,_|⟨u2,vs⟩⟩
   ·exact aM (F:=ib) rfl rfl rfl (aa a1 (aa (av c1 aw) (ak (aB c2 (ak (aK EV.str)))))) (List.take_length ..) rfl
   ·have c3:∀{c:Ch} {us:List V},u=.tup (.str c::us)→EV (ay W n) ⟨[some (wd false [u]),some (.bool false),some (.tup [u])],H⟩ (.cmp .eq (.idx (.idx (.loc 2) (.int 0)) (.int 0)) (.str ['t','e','x','t'])) (.bool (c==['t','e','x','t'])) ⟨[some (wd false [u]),some (.bool false),some (.tup [u])],H⟩:=fun {c us} e=>
     aH (EV.idx (EV.idx (EV.loc rfl) EV.int ed) EV.int (by subst e;exact ed))
    rcases(hp u (.head _)).2 with⟨l,rfl⟩|⟨c,us,hc,rfl⟩
    ·have c4:=c3 rfl
     rw[ym]
     exact aM (F:=ib) rfl rfl rfl (aa a1 (aa (av c1 aw) (aa (av c2 aw) (ak (aB c4 (ak (aK (EV.idx (EV.idx (EV.loc rfl) EV.int ed) EV.int jT)))))))) (List.take_length ..) rfl
    ·have c4:=c3 rfl
     rw[show(c==['t','e','x','t'])=false by simpa using hc]at c4
     rw[xS ⟨_,.head _,c,us,hc,rfl⟩]
     exact aM (F:=ib) rfl rfl rfl (aa a1 (aa (av c1 aw) (aa (av c2 aw) (aa (av c4 aw) (ak (aK EV.none)))))) (List.take_length ..) rfl
   ·simp at h1
theorem jo {src:V} {items:List V} {f:V→St→R Fl}:hZ src items f [] σ=okR .next σ:=rfl
theorem io {src:V} {items us:List V} {f:V→St→R Fl} {r:R Fl} (h:f u σ=okR .next ah) (hs:bW ah.hp src=some items) (hr:hZ src items f us ah=r):hZ src items f (u::us) σ=r:=(E1 h).trans ((if_pos hs).trans hr)
theorem Aj {src:V} {items us:List V} {f:V→St→R Fl} (h:f u σ=okR (.ret v) ah):hZ src items f (u::us) σ=okR (.ret v) ah:=E1 h
noncomputable def fB (Φ:ci) (W i:Nat) (s:Ss):V→St→R Fl:=fun v σ=>if i<σ.loc.length then bF Φ W s {σ with loc:=setL σ.loc i v} else none
theorem mS {i:Nat} {it:E} {s:Ss} {src:V} {items:List V} {r:R Fl} (hi:EV Φ σ it src ah) (hs:bW ah.hp src=some items) (hl:items.length<10000)
  (h:hZ src items (fB Φ W i s) items ah=r):eS Φ W (.for1 i it s) σ=r:=by
 exact(aA hi).trans ((lk hs).trans ((if_pos hl).trans h))
theorem ej {src:V} {items:List V} {L:List O} (h:bW H src=some items):bW (H++L) src=some items:=by
 exact me (P:=fun src=>bW (H++L) src=some items) h rfl fun _ l=>gY (bM (gp l))
theorem uQ {src:V} {items:List V} {f:V→List O→R V} {g:V→V} (hs:bW H src=some items):∀(us acc:List V),(∀u∈us,∀acc,∃lo,f u (H++[.list acc])=some (.ok (g u),⟨lo,H++[.list acc]⟩))→
  jD H.length src items f us acc (H++[.list acc])=some (H++[.list (acc++us.map g)])
 |[],acc,_=>by rw[List.map_nil,List.append_nil];rfl
 |u::us,acc,h=>by
  obtain⟨lo,hu⟩:=h u (.head _) acc
  have ih:=uQ hs us (acc++[g u]) fun u' hu'=>h u' (.tail _ hu')
  refine(E9 hu).trans ((if_pos ⟨ej hs,bO⟩).trans ?_)
  rw[tN,ih,List.map_cons,List.append_assoc];rfl
theorem EV.comp {elt it:E} {frees:List Nat} {src:V} {items:List V} {g:V→V} (hf:∀i∈frees,((σ.loc[i]?).join).isSome=true) (hi:EV Φ σ it src ah) (hs:bW ah.hp src=some items) (hl:items.length<10000)
  (h:∀u∈items,∀acc,EV Φ ⟨Option.none::some u::frees.map (fun i=>(σ.loc[i]?).join),ah.hp++[.list acc]⟩ elt (g u) ⟨Option.none::some u::frees.map (fun i=>(σ.loc[i]?).join),ah.hp++[.list acc]⟩):
  EV Φ σ (.comp elt it frees) (.ref ah.hp.length) {ah with hp:=ah.hp++[.list (items.map g)]}:=by
 have e:=uQ (f:=fun v H=>eE Φ elt ⟨Option.none::some v::frees.map (fun i=>(σ.loc[i]?).join),H⟩) (g:=g) hs items [] fun u hu acc=>⟨_,h u hu acc⟩
 rw[List.nil_append]at e
 exact(if_pos (List.all_eq_true.mpr hf)).trans ((aA hi).trans ((lk hs).trans ((if_pos hl).trans (Ih e))))
theorem EV.join {e1:E} {i:Nat} {us:List V} {ls:List Ch} (ha:EV Φ σ e1 (.ref i) ah) (h1:listOf? ah.hp i=some us) (h2:dW us=some ls) (hl:ls.length<10000∧ls.flatten.length≤100000):EV Φ σ (.join (.str []) e1) (.str ls.flatten) ah:=by
 exact(aA (EV.str (l:=[]))).trans ((aA ha).trans ((Ip (by rw[h1];exact h2)).trans (if_pos hl)))
noncomputable def o0:Ss:=.cons (.ife (.cmp .ne (.idx (.loc 1) (.int 0)) (.str ['t','e','x','t'])) (.cons (.ret .none) .nil) .nil) .nil
theorem yb {u0:Option V} (hu:Sh u):(∃l,u=txt l)∧fB Φ W 1 o0 u ⟨[some w,u0],H⟩=okR .next ⟨[some w,some u],H⟩∨
  pK u∧fB Φ W 1 o0 u ⟨[some w,u0],H⟩=okR (.ret .none) ⟨[some w,some u],H⟩:=by
 have c:∀{c:Ch} {us:List V},u=.tup (.str c::us)→EV Φ ⟨[some w,some u],H⟩ (.cmp .ne (.idx (.loc 1) (.int 0)) (.str ['t','e','x','t'])) (.bool (!(c==['t','e','x','t']))) ⟨[some w,some u],H⟩:=fun {c us} e=>
  jy (EV.idx (EV.loc rfl) EV.int (by subst e;exact ed))
 rcases hu with⟨l,rfl⟩|⟨q,us,hq,rfl⟩
 ·exact .inl ⟨⟨l,rfl⟩,show bF Φ W o0 ⟨[some w,some (txt l)],H⟩=_ from ao (av (c rfl) aw)⟩
 ·have:=c rfl
  rw[show(q==['t','e','x','t'])=false by simpa using hq]at this
  exact .inr ⟨⟨q,us,hq,rfl⟩,ak (aB this (ak (aK EV.none)))⟩
theorem AJ {items:List V}:∀(us:List V) (u0:Option V),(∀u∈us,Sh u)→(∃u∈us,pK u)→∃u1,hZ (.tup items) items (fB Φ W 1 o0) us ⟨[some w,u0],H⟩=okR (.ret .none) ⟨[some w,u1],H⟩
 |[],_,_,h=>by obtain⟨u,hu, -⟩:=h;cases hu
 |u::us,u0,hs,h=>by
  rcases yb (W:=W) (Φ:=Φ) (H:=H) (w:=w) (u0:=u0) (hs u (.head _))with⟨⟨l,rfl⟩,e⟩|⟨-,e⟩
  ·have h':∃u∈us,pK u:=by
    obtain⟨v,hv,q⟩:=h
    rcases List.mem_cons.mp hv with rfl|hv
    ·exact absurd q oq
    ·exact⟨v,hv,q⟩
   obtain⟨u1,r⟩:=AJ us (some (txt l)) (fun u hu=>hs u (.tail _ hu)) h'
   exact⟨u1,io e rfl r⟩
  ·exact⟨_,Aj e⟩
theorem vm (h:fY (wd x vs)):ay W (n+1) .lPlain [wd x vs] H=some (.ok (uG x vs),H):=by
 obtain⟨x',vs',e,hp,hl,ha⟩:=h
 cases e
 have it:EV (ay W n) ⟨[some (wd x vs),none],H⟩ (.idx (.loc 0) (.int 1)) (.tup vs) ⟨[some (wd x vs),none],H⟩:=EV.idx (EV.loc rfl) EV.int jT
 have ax:∀{u1:Option V} {ls:List Ch},dW (vs.map fun u=>match u with| .tup [_,y]=>y|_=>.none)=some ls→(∀u∈vs,∃a y,u=.tup [a,y])→ls.length<10000∧ls.flatten.length≤100000→uG false vs=.str ls.flatten→
   ∃lo H',eS (ay W n) W (.ret (.ite (.idx (.loc 0) (.int 0)) .none (.join (.str []) (.comp (.idx (.loc 1) (.int 1)) (.idx (.loc 0) (.int 1)) [])))) ⟨[some (wd x vs),u1],H⟩=okR (.ret (uG x vs)) ⟨lo,H++H'⟩:=by
  intro u1 ls h1 h2 h3 h4
  have i0:EV (ay W n) ⟨[some (wd x vs),u1],H⟩ (.idx (.loc 0) (.int 0)) (.bool x) ⟨[some (wd x vs),u1],H⟩:=EV.idx (EV.loc rfl) EV.int ed
  cases x with
  |true=>exact⟨_,[],by rw[EJ,List.append_nil];exact aK (EV.iteT i0 EV.none)⟩
  |false=>
   rw[h4]
   refine⟨_,_,aK (EV.iteF i0 (EV.join (EV.comp (σ:=⟨[some (wd false vs),u1],H⟩) (frees:=[]) (g:=fun u=>match u with| .tup [_,y]=>y|_=>.none) n0 (EV.idx (EV.loc rfl) EV.int jT) rfl (by omega) fun u hu acc=>?_) bO h1 h3))⟩
   obtain⟨a,y,rfl⟩:=h2 u hu
   exact EV.idx (EV.loc rfl) EV.int jT
 have fin:∀{u1:Option V},eS (ay W n) W (.for1 1 (.idx (.loc 0) (.int 1)) o0) ⟨[some (wd x vs),none],H⟩=okR .next ⟨[some (wd x vs),u1],H⟩→
   (∃lo H',eS (ay W n) W (.ret (.ite (.idx (.loc 0) (.int 0)) .none (.join (.str []) (.comp (.idx (.loc 1) (.int 1)) (.idx (.loc 0) (.int 1)) [])))) ⟨[some (wd x vs),u1],H⟩=okR (.ret (uG x vs)) ⟨lo,H++H'⟩)→ay W (n+1) .lPlain [wd x vs] H=some (.ok (uG x vs),H):=by
  rintro u1 h1 ⟨lo,H',h2⟩
  exact aM (F:=oW) rfl rfl rfl (aa h1 (ak h2)) (by simp) Dg
 rcases fY.cases hp ha with rfl|⟨l,rfl,hll⟩|hn
 ·exact fin (mS it rfl (by omega) jo) (ax (ls:=[]) rfl n0 (by simp) rfl)
 ·rcases yb (W:=W) (Φ:=ay W n) (H:=H) (w:=wd x [txt l]) (u0:=none) (hp _ (.head _)).2 with⟨-,e⟩|⟨q, -⟩
  ·exact fin (mS it rfl (by omega) (io e rfl jo)) (ax (ls:=[l]) rfl (by
    intro u hu
    simp only[List.mem_cons,List.not_mem_nil,or_false]at hu
    exact⟨_,_,hu⟩) (by simp;omega) (by rw[ym];simp))
  ·exact absurd q oq
 ·obtain⟨u1,r⟩:=AJ (W:=W) (Φ:=ay W n) (H:=H) (w:=wd x vs) (items:=vs) vs none (fun u hu=>(hp u hu).2) hn
  rw[xS hn]
  exact aM (F:=oW) rfl rfl rfl (ak (mS it rfl (by omega) r)) (by simp) rfl
end
end Mine
end
section
namespace Mine
mutual
noncomputable def fQ (k:Nat):V→Prop
 | .tup vs=>fy k vs
 | .ref i=>k≤i
 |_=>True
noncomputable def fy (k:Nat):List V→Prop
 |[]=>True
 |v::vs=>fQ k v∧fy k vs
end
section
variable {α β:Type} {K:Nat} {H0 H:List O} {Φ:ci} {W:Nat} {v u:V} {vs us:List V} {σ:St}
theorem cC:∀{vs:List V},fy K vs↔∀v∈vs,fQ K v
 |[]=>by simp[fy]
 |v::vs=>by simp[fy,cC (vs:=vs)]
noncomputable def Ir (k:Nat):O→Prop
 | .list vs=>fy k vs
 | .dict es=>∀e∈es,fQ k e.2
structure mX (K:Nat) (H0 H:List O):Prop where
 len:K≤H.length
 low:∀m,m<K→H[m]? =H0[m]?
 hi:∀m o,K≤m→H[m]? =some o→Ir K o
noncomputable def kL (K:Nat) (H0:List O) (σ:St):Prop:=mX K H0 σ.hp∧∀(i:Nat) (v:V),σ.loc[i]? =some (some v)→fQ K v
noncomputable def RK (K:Nat) (H0:List O) (P:α→Prop):R α→Prop
 |none=>True
 |some (.ok a,σ)=>P a∧kL K H0 σ
 |some (.error _,σ)=>kL K H0 σ
noncomputable def TK (K:Nat) (H0:List O):Option (Except Ch V×List O)→Prop
 |none=>True
 |some (.ok v,H)=>fQ K v∧mX K H0 H
 |some (.error _,H)=>mX K H0 H
theorem aP {P:α→Prop} {Q:β→Prop} {m:R α} {f:α→St→R β} (h:RK K H0 P m) (hf:∀a σ,P a→kL K H0 σ→RK K H0 Q (f a σ)):RK K H0 Q (cW m f):=by
 unfold cW
 rcases m with _|⟨_|a,σ⟩
 ·trivial
 ·exact h
 ·exact hf a σ h.1 h.2
theorem mX.app (h:mX K H0 H) {o:O} (ho:Ir K o):mX K H0 (H++[o]):=by
 refine⟨by have:=h.len;simp;omega,fun m hm=>by rw[List.getElem?_append_left (Nat.lt_of_lt_of_le hm h.len)];exact h.low m hm,fun m o' hm e=>?_⟩
 by_cases q:m<H.length
 ·rw[List.getElem?_append_left q]at e;exact h.hi m o' hm e
 ·rw[List.getElem?_append_right (by omega)]at e
  cases hq:m-H.length with
  |zero=>rw[hq]at e;cases e;exact ho
  |succ z=>rw[hq]at e;cases e
theorem mX.set (h:mX K H0 H) {i:Nat} {o:O} (hi:K≤i) (ho:Ir K o):mX K H0 (H.set i o):=by
 refine⟨by simp;exact h.len,fun m hm=>by rw[List.getElem?_set_ne (by omega)];exact h.low m hm,fun m o' hm e=>?_⟩
 rw[List.getElem?_set]at e
 split at e
 ·split at e
  ·cases e;exact ho
  ·cases e
 ·exact h.hi m o' hm e
theorem mX.list (h:mX K H0 H) {i:Nat} (hi:K≤i) (e:listOf? H i=some vs):fy K vs:=h.hi i _ hi (gp e)
theorem mX.dict (h:mX K H0 H) {i:Nat} {es:List (Ch×V)} (hi:K≤i) (e:dictOf? H i=some es):∀e∈es,fQ K e.2:=h.hi i _ hi (tS e)
theorem kL.hp (h:kL K H0 σ) {H:List O} (hH:mX K H0 H):kL K H0 {σ with hp:=H}:=⟨hH,h.2⟩
theorem kL.setL (h:kL K H0 σ) {i:Nat} (hv:fQ K v):kL K H0 {σ with loc:=setL σ.loc i v}:=by
 refine⟨h.1,fun j u e=>?_⟩
 simp only[Mine.setL,List.getElem?_set]at e
 split at e
 ·split at e
  ·cases e;exact hv
  ·cases e
 ·exact h.2 j u e
theorem E8 (h:fy K vs) {i:Nat} (e:vs[i]? =some v):fQ K v:=cC.mp h v (List.mem_of_getElem? e)
theorem qL:∀{es:List (Ch×V)} {k:Ch},(∀e∈es,fQ K e.2)→es.lookup k=some v→fQ K v
 |[],_,_,h=>nomatch h
 |(a,b)::es,k,hs,h=>by
  rw[List.lookup_cons]at h
  cases hk:k==a with
  |true=>rw[hk]at h;exact Option.some.inj h▸hs _ (.head _)
  |false=>rw[hk]at h;exact qL (fun e he=>hs e (.tail _ he)) h
theorem C1 (h:mX K H0 H) (hu:fQ K u) {y:V} (e:iG H u y=some v):fQ K v:=
 tI (P:=fun u _ v=>fQ K u→fQ K v) e (fun _ _ _ _ _ _ _ _=>trivial) (fun _ _ _ _ _ _ q hu=>E8 hu q) (fun _ _ _ _ _ _ l _ q hu=>E8 (h.list hu l) q) (fun _ _ _ _ d q hu=>qL (h.dict hu d) q) hu
theorem Dr {es:List (Ch×V)} {k:Ch} (hd:∀e∈es,fQ K e.2) (hv:fQ K v):∀e∈qj es k v,fQ K e.2:=fun q hq=>by
 unfold qj at hq
 by_cases c:es.any (·.1==k)=true
 ·rw[if_pos c]at hq
  obtain⟨p,hp,rfl⟩:=List.mem_map.mp hq
  by_cases c2:(p.1==k)=true
  ·rw[if_pos c2];exact hv
  ·rw[if_neg c2];exact hd p hp
 ·rw[if_neg c]at hq
  exact(List.mem_append.mp hq).elim (hd q) fun hq=>List.mem_singleton.mp hq▸hv
theorem yq (h:mX K H0 H) (hu:fQ K u) (hv:fQ K v) {y:V} {H':List O} (e:mE H u y v=some H'):mX K H0 H':=
 tK (P:=fun u _ H'=>fQ K u→mX K H0 H') e (fun _ _ us _ _ hl _ hj=>h.set hj (cC.mpr fun w hw=>(List.mem_or_eq_of_mem_set hw).elim (cC.mp (h.list hj hl) w) fun q=>q▸hv)) (fun _ _ _ hl _ hj=>h.set hj (Dr (h.dict hj hl) hv)) hu
theorem rO {op:m7} {a b:V} (e:hK op a b=some v):fQ K v:=lK (P:=fun _ _ _ v=>fQ K v) e (fun _ _=>trivial) (fun _ _=>trivial) (fun _ _ _=>trivial) (fun _ _ _=>trivial) (fun _ _ _=>trivial)
theorem wR (h:mX K H0 H) (hu:fQ K u) (e:bW H u=some vs):fy K vs:=me (P:=fun u=>fQ K u→fy K vs) e id (fun _ l hu=>h.list hu l) hu
theorem Dp (h:fy K vs) {n:Nat}:fy K (vs.take n):=cC.mpr fun v hv=>cC.mp h v (List.mem_of_mem_take hv)
theorem sX (h:fy K vs) (hv:fQ K v):fy K (vs++[v]):=cC.mpr fun w hw=>by
 rcases List.mem_append.mp hw with hw|hw
 ·exact cC.mp h w hw
 ·simp only[List.mem_cons,List.not_mem_nil,or_false]at hw
  subst hw;exact hv
theorem Cw:∀{ks:List Ch} {vs:List V},fy K vs→∀e∈yQ ks vs,fQ K e.2
 |[],_,_,_,h=>nomatch h
 |_::_,[],_,_,h=>nomatch h
 |k::ks,v::vs,hv,e,h=>(List.mem_cons.mp (show e∈(k,v)::yQ ks vs from h)).elim (fun q=>q▸hv.1) (Cw hv.2 e)
theorem xt {D:Nat} {src:V} {items:List V} {f:V→List O→R V} (hD:K≤D) (hf:∀v H,fQ K v→mX K H0 H→RK K H0 (fQ K) (f v H)):∀(us acc:List V) (H H':List O),fy K us→fy K acc→mX K H0 H→jD D src items f us acc H=some H'→mX K H0 H'
 |[],acc,H,H',_,_,h,e=>Option.some.inj e▸h
 |u::us,acc,H,H',hu,ha,h,e=>qz e fun r' σ' hr _ _ e=>by
  have r:=hf u H hu.1 h
  rw[hr]at r
  exact xt hD hf us _ _ _ hu.2 (sX ha r.1) (r.2.1.set (o:=.list (acc++[r'])) hD (sX ha r.1)) e
theorem C0 {f:Fn} {vs:List V} (hΦ:∀f vs H,fy K vs→mX K H0 H→TK K H0 (Φ f vs H)) (h:kL K H0 σ) (hv:fy K vs):RK K H0 (fQ K) (match Φ f vs σ.hp with
  |some (.ok v,H)=>some (.ok v,{σ with hp:=H})
  |some (.error m,H)=>some (.error m,{σ with hp:=H})
  |Option.none=>Option.none):=by
 have:=hΦ f vs σ.hp hv h.1
 revert this
 generalize Φ f vs σ.hp=o
 intro this
 cases o with
 |none=>trivial
 |some r=>obtain⟨r,H⟩:=r;cases r with
  |ok v=>exact⟨this.1,h.hp this.2⟩
  |error m=>exact h.hp this
section
variable {P:β→Prop} {x y z:V}
theorem gc {c:Prop} [Decidable c] {m:R β} (h:c→RK K H0 P m):RK K H0 P (if c then m else none):=by
 by_cases hc:c
 ·rw[if_pos hc];exact h hc
 ·rw[if_neg hc];trivial
theorem Dc {o:Option (List V)} {k:List V→R β} (h:∀vs,o=some vs→RK K H0 P (k vs)):RK K H0 P (match(generalizing:=false) o with|some vs=>k vs|none=>none):=by
 cases o with
 |none=>trivial
 |some vs=>exact h vs rfl
theorem Il {o:Option V} {k:V→R β} (h:∀v,o=some v→RK K H0 P (k v)):RK K H0 P (match(generalizing:=false) o with|some v=>k v|none=>none):=by
 cases o with
 |none=>trivial
 |some vs=>exact h vs rfl
theorem IS {o:Option (List O)} {k:List O→R β} (h:∀v,o=some v→RK K H0 P (k v)):RK K H0 P (match(generalizing:=false) o with|some v=>k v|none=>none):=by
 cases o with
 |none=>trivial
 |some vs=>exact h vs rfl
theorem IX {o:Option (List Ch)} {k:List Ch→R β} (h:∀v,RK K H0 P (k v)):RK K H0 P (match(generalizing:=false) o with|some v=>k v|none=>none):=by
 cases o with
 |none=>trivial
 |some vs=>exact h vs
theorem IJ {o:Option Bool} {m m':R β} (h:RK K H0 P m) (h':RK K H0 P m'):RK K H0 P (match(generalizing:=false) o with|some true=>m|some false=>m'|none=>none):=by
 cases o with
 |none=>trivial
 |some b=>cases b with
  |true=>exact h
  |false=>exact h'
theorem Ju {o:Option (List (Ch×V))} {m:R β} (h:RK K H0 P m):RK K H0 P (match(generalizing:=false) o with|some []=>m|_=>none):=by
 cases o with
 |none=>trivial
 |some l=>cases l with
  |nil=>exact h
  |cons _ _=>trivial
theorem EY {o:Option (Option V)} {k:V→R β} (h:∀v,o=some (some v)→RK K H0 P (k v)):RK K H0 P (match(generalizing:=false) o with|some (some v)=>k v|_=>none):=by
 cases o with
 |none=>trivial
 |some b=>cases b with
  |none=>trivial
  |some v=>exact h v rfl
theorem rQ {o:Option β} (hs:kL K H0 σ) (h:∀a,o=some a→P a):RK K H0 P (qc o σ):=by
 cases o with
 |none=>trivial
 |some a=>exact⟨h a rfl,hs⟩
theorem Ie {k:Bool→R β} (h:∀b,RK K H0 P (k b)):RK K H0 P (match(generalizing:=false) x with| .bool b=>k b|_=>none):=by
 cases x with
 |bool b=>exact h b
 |_=>trivial
theorem GY {m m':R β} (h:RK K H0 P m) (h':RK K H0 P m'):RK K H0 P (match(generalizing:=false) x with| .bool true=>m| .bool false=>m'|_=>none):=by
 cases x with
 |bool b=>cases b with
  |true=>exact h
  |false=>exact h'
 |_=>trivial
theorem G8 {m m':R β} (h:RK K H0 P m) (h':RK K H0 P m'):RK K H0 P (match(generalizing:=false) x with| .bool false=>m'| .bool true=>m|_=>none):=by
 cases x with
 |bool b=>cases b with
  |true=>exact h
  |false=>exact h'
 |_=>trivial
theorem Jv {k:Int→R β} (h:∀b,RK K H0 P (k b)):RK K H0 P (match(generalizing:=false) x with| .int b=>k b|_=>none):=by
 cases x with
 |int b=>exact h b
 |_=>trivial
theorem Hm {k:Ch→R β} (h:∀b,RK K H0 P (k b)):RK K H0 P (match(generalizing:=false) x with| .str b=>k b|_=>none):=by
 cases x with
 |str b=>exact h b
 |_=>trivial
theorem I6 {k:Char→R β} (h:∀b,RK K H0 P (k b)):RK K H0 P (match(generalizing:=false) x with| .str [b]=>k b|_=>none):=by
 cases x with
 |str b=>cases b with
  |nil=>trivial
  |cons c l=>cases l with
   |nil=>exact h c
   |cons _ _=>trivial
 |_=>trivial
theorem JB {m:R β} (h:RK K H0 P m):RK K H0 P (match(generalizing:=false) x with| .str []=>m|_=>none):=by
 cases x with
 |str b=>cases b with
  |nil=>exact h
  |cons _ _=>trivial
 |_=>trivial
theorem Ik {k:Nat→R β} (hx:fQ K x) (h:∀b,K≤b→RK K H0 P (k b)):RK K H0 P (match(generalizing:=false) x with| .ref b=>k b|_=>none):=by
 cases x with
 |ref b=>exact h b hx
 |_=>trivial
theorem HM {k:List V→R β} (hx:fQ K x) (h:∀b,fy K b→RK K H0 P (k b)):RK K H0 P (match(generalizing:=false) x with| .tup b=>k b|_=>none):=by
 cases x with
 |tup b=>exact h b hx
 |_=>trivial
theorem Hy {k:Ch→Int→Int→R β} (h:∀a b c,RK K H0 P (k a b c)):RK K H0 P (match(generalizing:=false) x,y,z with| .str t,.int p,.int q=>k t p q|_,_,_=>none):=by
 cases x with
 |str a=>cases y with
  |int b=>cases z with
   |int c=>exact h a b c
   |_=>trivial
  |_=>trivial
 |_=>trivial
theorem Io {k:Ch→Int→R β} (h:∀a b,RK K H0 P (k a b)):RK K H0 P (match(generalizing:=false) x,y with| .str t,.int p=>k t p|_,_=>none):=by
 cases x with
 |str a=>cases y with
  |int b=>exact h a b
  |_=>trivial
 |_=>trivial
theorem Iv {k:Ch→Int→R β} {k':Nat→Int→R β} (hx:fQ K x) (h:∀a b,RK K H0 P (k a b)) (h':∀a b,K≤a→RK K H0 P (k' a b)):RK K H0 P (match(generalizing:=false) x,y with| .str t,.int p=>k t p| .ref i,.int p=>k' i p|_,_=>none):=by
 cases x with
 |str a=>cases y with
  |int b=>exact h a b
  |_=>trivial
 |ref a=>cases y with
  |int b=>exact h' a b hx
  |_=>trivial
 |_=>trivial
theorem IY {k:Char→Int→R β} (h:∀a b,RK K H0 P (k a b)):RK K H0 P (match(generalizing:=false) x,y with| .str [t],.int p=>k t p|_,_=>none):=by
 cases x with
 |str t=>cases t with
  |nil=>cases y<;>trivial
  |cons c t=>cases t with
   |nil=>cases y with
    |int p=>exact h c p
    |_=>trivial
   |cons d t=>cases y<;>trivial
 |_=>trivial
theorem G2 {k1:Ch→R β} {k2:List V→R β} {k3:Nat→R β} (h1:∀a,RK K H0 P (k1 a)) (h2:∀a,RK K H0 P (k2 a)) (h3:∀a,RK K H0 P (k3 a)):RK K H0 P (match(generalizing:=false) x with
  | .str l=>k1 l
  | .tup vs=>k2 vs
  | .ref i=>k3 i
  |_=>none):=by
 cases x with
 |str l=>exact h1 l
 |tup l=>exact h2 l
 |ref l=>exact h3 l
 |_=>trivial
end
end
section
variable {K:Nat} {H0:List O} {Φ:ci} {W:Nat} (hΦ:∀f vs H,fy K vs→mX K H0 H→TK K H0 (Φ f vs H))
include hΦ
omit hΦ in
theorem Gh {op:m7} {x y:V} {σ:St} (h:kL K H0 σ) (hx:fQ K x) (hy:fQ K y):RK K H0 (fQ K) (qg op x y σ):=
 xK (P:=fun op x y=>fQ K x→fQ K y→RK K H0 (fQ K) (qg op x y σ)) (fun i j e hx hy=>e▸uq (P:=RK K H0 (fQ K)) trivial fun xs ys e1 e2 _=>⟨h.1.len,h.hp (h.1.app (cC.mpr fun w hw=>(List.mem_append.mp hw).elim (cC.mp (h.1.list hx e1) w) (cC.mp (h.1.list hy e2) w)))⟩)
  (fun _ _ _ e _ _=>e▸rQ h fun _ e=>rO e) hx hy
omit hΦ in
theorem BM {frees:List Nat} {σ:St} {i:Nat} {u:V} (h:kL K H0 σ) (q:(frees.map fun i=>(σ.loc[i]?).join)[i]? =some (some u)):fQ K u:=by
 rw[List.getElem?_map]at q
 cases hf:frees[i]? with
 |none=>rw[hf]at q;cases q
 |some j=>
  rw[hf]at q
  cases hj:σ.loc[j]? with
  |none=>rw[Option.map_some,hj]at q;cases q
  |some z=>rw[Option.map_some,hj]at q;exact h.2 j u (hj.trans q)
theorem wU:∀(e:E) (σ:St),kL K H0 σ→RK K H0 (fQ K) (eE Φ e σ):=
 E.rec (motive_1:=fun e=>∀σ,kL K H0 σ→RK K H0 (fQ K) (eE Φ e σ)) (motive_2:=fun es=>(∀σ,kL K H0 σ→RK K H0 (fy K) (B0 Φ es σ))∧(∀σ,kL K H0 σ→RK K H0 (fQ K) (Gs Φ es σ))∧∀σ,kL K H0 σ→RK K H0 (fQ K) (Iz Φ es σ))
  (fun _ h=>⟨trivial,h⟩)
  (fun _ _ h=>⟨trivial,h⟩)
  (fun _ _ h=>⟨trivial,h⟩)
  (fun _ _ h=>⟨trivial,h⟩)
  (fun _ _ h=>⟨trivial,h⟩)
  (fun i σ h=>EY fun v q=>⟨h.2 i v q,h⟩)
  (fun op a b ha hb σ h=>aP (ha σ h) fun x σ hx h=>aP (hb σ h) fun y σ hy h=>Gh h hx hy)
  (fun a ha σ h=>aP (ha σ h) fun x σ hx h=>Ie fun _=>⟨trivial,h⟩)
  (fun op a b ha hb σ h=>aP (ha σ h) fun x σ hx h=>aP (hb σ h) fun y σ hy h=>rQ h fun _ e=>map_some (P:=fQ K) e fun _ _=>trivial)
  (fun o1 o2 a b c ha hb hc σ h=>aP (ha σ h) fun x σ hx h=>aP (hb σ h) fun y σ hy h=>IJ (aP (hc σ h) fun z σ hz h=>rQ h fun _ e=>map_some (P:=fQ K) e fun _ _=>trivial) ⟨trivial,h⟩)
  (fun es hs=>hs.2.1)
  (fun es hs=>hs.2.2)
  (fun c a b hc ha hb σ h=>aP (hc σ h) fun x σ hx h=>GY (ha σ h) (hb σ h))
  (fun a b ha hb σ h=>aP (ha σ h) fun x σ hx h=>aP (hb σ h) fun y σ hy h=>rQ h fun _ e=>C1 h.1 hx e)
  (fun a lo hi ha hl hh σ h=>aP (ha σ h) fun x σ hx h=>aP (hl σ h) fun y σ hy h=>aP (hh σ h) fun z σ hz h=>Hy fun _ _ _=>gc fun _=>⟨trivial,h⟩)
  (fun a lo ha hl σ h=>aP (ha σ h) fun x σ hx h=>aP (hl σ h) fun y σ hy h=>Io fun _ _=>gc fun _=>⟨trivial,h⟩)
  (fun a hi ha hh σ h=>aP (ha σ h) fun x σ hx h=>aP (hh σ h) fun y σ hy h=>Iv hx (fun _ _=>gc fun _=>⟨trivial,h⟩) fun _ _ hk=>Dc fun _ e=>gc fun _=>⟨h.1.len,h.hp (h.1.app (Dp (h.1.list hk e)))⟩)
  (fun es hs σ h=>aP (hs.1 σ h) fun vs σ hv h=>⟨hv,h⟩)
  (fun es hs σ h=>aP (hs.1 σ h) fun vs σ hv h=>⟨h.1.len,h.hp (h.1.app hv)⟩)
  (fun ks es hs σ h=>aP (hs.1 _ (h.hp (h.1.app (o:=.dict []) fun _ he=>nomatch he))) fun vs σ' hv h'=>Ju ⟨h.1.len,h'.hp (h'.1.set h.1.len (Cw hv))⟩)
  (fun f es hs σ h=>aP (hs.1 σ h) fun vs σ hv h=>C0 hΦ h hv)
  (fun a ha σ h=>aP (ha σ h) fun x σ hx h=>G2 (fun _=>gc fun _=>⟨trivial,h⟩) (fun _=>gc fun _=>⟨trivial,h⟩) fun _=>Dc fun _ _=>gc fun _=>⟨trivial,h⟩)
  (fun a ha σ h=>aP (ha σ h) fun x σ hx h=>I6 fun _=>⟨trivial,h⟩)
  (fun a ha σ h=>aP (ha σ h) fun x σ hx h=>Jv fun _=>gc fun _=>⟨trivial,h⟩)
  (fun a ha σ h=>aP (ha σ h) fun x σ hx h=>Ik hx fun _ hk=>Dc fun _ e=>gc fun _=>⟨h.1.list hk e,h⟩)
  (fun a b ha hb σ h=>aP (ha σ h) fun x σ hx h=>Hm fun _=>aP (hb σ h) fun y σ hy h=>I6 fun _=>⟨trivial,h⟩)
  (fun a b c ha hb hc σ h=>aP (ha σ h) fun x σ hx h=>Hm fun _=>aP (hb σ h) fun y σ hy h=>aP (hc σ h) fun z σ hz h=>IY fun _ _=>gc fun _=>⟨trivial,h⟩)
  (fun a b ha hb σ h=>aP (ha σ h) fun x σ hx h=>JB (aP (hb σ h) fun y σ hy h=>Ik hy fun _ _=>IX fun _=>gc fun _=>⟨trivial,h⟩))
  (fun a b ha hb σ h=>aP (ha σ h) fun x σ hx h=>Ik hx fun _ hk=>Dc fun _ _=>aP (hb σ h) fun y σ hy h=>Dc fun _ e=>gc fun _=>⟨trivial,h.hp (h.1.set hk (sX (h.1.list hk e) hy))⟩)
  (fun a ha σ h=>aP (ha σ h) fun x σ hx h=>Ik hx fun _ hk=>Dc fun _ e=>Il fun _ e2=>gc fun _=>⟨cC.mp (h.1.list hk e) _ (List.mem_of_getLast? e2),h.hp (h.1.set hk (cC.mpr fun w hw=>cC.mp (h.1.list hk e) w (List.dropLast_subset _ hw)))⟩)
  (fun elt it frees he hi σ h=>gc fun _=>aP (hi σ h) fun src ah hx au=>Dc fun items hs=>gc fun _=>IS fun H' e=>⟨au.1.len,au.hp (xt au.1.len (fun v H hv hH=>he _ ⟨hH,fun i u q=>match i,q with
   |1,q=>Option.some.inj (Option.some.inj q)▸hv
   |i+2,q=>BM h (i:=i) q⟩) _ [] _ _ (wR au.1 hx hs) trivial (au.1.app (o:=.list []) trivial) e)⟩)
  ⟨fun _ h=>⟨trivial,h⟩,fun _ _=>trivial,fun _ _=>trivial⟩
  (fun e es he hs=>⟨fun σ h=>aP (he σ h) fun v σ hv h=>aP (hs.1 σ h) fun vs σ hs h=>⟨⟨hv,hs⟩,h⟩,
   match es,hs with
   | .nil,_=>fun σ h=>aP (he σ h) fun x σ hx h=>Ie fun _=>⟨trivial,h⟩
   | .cons _ _,hs=>fun σ h=>aP (he σ h) fun x σ hx h=>G8 (hs.2.1 σ h) ⟨trivial,h⟩,
   match es,hs with
   | .nil,_=>fun σ h=>aP (he σ h) fun x σ hx h=>Ie fun _=>⟨trivial,h⟩
   | .cons _ _,hs=>fun σ h=>aP (he σ h) fun x σ hx h=>GY ⟨trivial,h⟩ (hs.2.2 σ h)⟩)
noncomputable def zI (K:Nat):Fl→Prop
 | .ret v=>fQ K v
 |_=>True
omit hΦ in
theorem GP {σ:St} {i:Nat} {v:V} (h:kL K H0 σ) (hv:fQ K v):RK K H0 (fun _=>True) (if i<σ.loc.length then okR () {σ with loc:=setL σ.loc i v} else none):=gc fun _=>⟨trivial,h.setL hv⟩
theorem Jd:∀(t:T) (v:V) (σ:St),kL K H0 σ→fQ K v→RK K H0 (fun _=>True) (GQ Φ t v σ)
 | .loc i,v,σ,h,hv=>GP h hv
 | .sub a b,v,σ,h,hv=>aP (wU hΦ a σ h) fun x σ hx h=>aP (wU hΦ b σ h) fun y σ hy h=>IS fun _ e=>⟨trivial,h.hp (yq h.1 hx hv e)⟩
theorem GE:∀(ts:List T) (vs:List V) (σ:St),kL K H0 σ→fy K vs→RK K H0 (fun _=>True) (dP Φ ts vs σ)
 |[],[],σ,h,_=>⟨trivial,h⟩
 |t::ts,v::vs,σ,h,hv=>aP (Jd hΦ t v σ h hv.1) fun _ σ _ h=>GE ts vs σ h hv.2
 |[],_::_,σ,h,_=>trivial
 |_::_,[],σ,h,_=>trivial
theorem EX {c:E} {σ:St} (h:kL K H0 σ):RK K H0 (fun _=>True) (tE Φ c σ):=aP (wU hΦ c σ h) fun x σ hx h=>Ie fun _=>⟨trivial,h⟩
omit hΦ in
theorem xD {t:St→R Bool} {b:St→R Fl} (ht:∀σ,kL K H0 σ→RK K H0 (fun _=>True) (t σ)) (hb:∀σ,kL K H0 σ→RK K H0 (zI K) (b σ)):∀(k:Nat) (σ:St),kL K H0 σ→RK K H0 (zI K) (iter t b k σ)
 |0,σ,h=>trivial
 |k+1,σ,h=>aP (ht σ h) fun c σ _ h=>match c with
  |true=>aP (hb σ h) fun f σ hf h=>match f,hf with
   | .next,_=>xD ht hb k σ h
   | .brk,_=>⟨trivial,h⟩
   | .ret _,hf=>⟨hf,h⟩
  |false=>⟨trivial,h⟩
open Classical in
omit hΦ in
theorem ru {src:V} {items:List V} {f:V→St→R Fl} (hf:∀v σ,fQ K v→kL K H0 σ→RK K H0 (zI K) (f v σ)):∀(us:List V) (σ:St),fy K us→kL K H0 σ→RK K H0 (zI K) (hZ src items f us σ)
 |[],σ,_,h=>⟨trivial,h⟩
 |u::us,σ,hu,h=>by
  have r:=hf u σ hu.1 h
  rw[hZ]
  revert r
  generalize f u σ=o
  intro r
  cases o with
  |none=>trivial
  |some o=>obtain⟨o,σ'⟩:=o;cases o with
   |error m=>trivial
   |ok fl=>cases fl with
    |next=>exact gc fun _=>ru hf us _ hu.2 r.2
    |brk=>exact⟨trivial,r.2⟩
    |ret v=>exact r
omit hΦ in
theorem Gz {m:R Fl} {i:Nat} {g:Ch→St→R Fl} (r:RK K H0 (zI K) m) (h:∀m σ',kL K H0 σ'→RK K H0 (zI K) (g m σ')):RK K H0 (zI K) (match(generalizing:=false) m with
  |some (.error m,σ')=>match σ'.loc[i]? with
   |some none=>g m σ'
   |_=>none
  |r=>r):=by
 cases m with
 |none=>trivial
 |some o=>obtain⟨o,σ'⟩:=o;cases o with
  |ok f=>exact r
  |error m=>
   show RK K H0 (zI K) (match σ'.loc[i]? with|some none=>g m σ'|_=>none)
   generalize σ'.loc[i]? =o
   cases o with
   |none=>trivial
   |some o=>cases o with
    |none=>exact h m σ' r
    |some v=>trivial
theorem IT:∀(ss:Ss) (σ:St),kL K H0 σ→RK K H0 (zI K) (bF Φ W ss σ):=
 Ss.rec (motive_1:=fun s=>∀σ,kL K H0 σ→RK K H0 (zI K) (eS Φ W s σ)) (motive_2:=fun ss=>∀σ,kL K H0 σ→RK K H0 (zI K) (bF Φ W ss σ))
  (fun i e σ h=>aP (wU hΦ e σ h) fun v σ hv h=>gc fun _=>⟨trivial,h.setL hv⟩)
  (fun ts e σ h=>aP (wU hΦ e σ h) fun v σ hv h=>HM hv fun _ hv=>gc fun _=>aP (GE hΦ ts _ σ h hv) fun _ σ _ h=>⟨trivial,h⟩)
  (fun a b e σ h=>aP (wU hΦ e σ h) fun v σ hv h=>aP (Jd hΦ (.sub a b) v σ h hv) fun _ σ _ h=>⟨trivial,h⟩)
  (fun i op e σ h=>EY fun _ _=>aP (wU hΦ e σ h) fun v σ hv h=>Il fun _ q=>gc fun _=>⟨trivial,h.setL (rO q)⟩)
  (fun a b op e σ h=>aP (wU hΦ a σ h) fun x σ hx h=>aP (wU hΦ b σ h) fun y σ hy h=>Il fun _ _=>aP (wU hΦ e σ h) fun v σ hv h=>Il fun _ q=>IS fun _ q2=>⟨trivial,h.hp (yq h.1 hx (rO q) q2)⟩)
  (fun c s t hs ht σ h=>aP (EX hΦ h) fun b σ _ h=>match b with
   |true=>hs σ h
   |false=>ht σ h)
  (fun c s hs σ h=>xD (fun σ h=>EX hΦ h) hs W σ h)
  (fun i it s hs σ h=>aP (wU hΦ it σ h) fun src σ hx h=>Dc fun _ q=>gc fun _=>ru (fun v σ hv h=>gc fun _=>hs _ (h.setL hv)) _ σ (wR h.1 hx q) h)
  (fun is it s hs σ h=>aP (wU hΦ it σ h) fun src σ hx h=>Dc fun _ q=>gc fun _=>ru (fun v σ hv h=>HM hv fun _ hv=>gc fun _=>aP (GE hΦ _ _ σ h hv) fun _ σ _ h=>hs σ h) _ σ (wR h.1 hx q) h)
  (fun e σ h=>aP (wU hΦ e σ h) fun v σ hv h=>⟨hv,h⟩)
  (fun m σ h=>h)
  (fun e σ h=>aP (wU hΦ e σ h) fun v σ hv h=>⟨trivial,h⟩)
  (fun σ h=>⟨trivial,h⟩)
  (fun s i x hs σ h=>Gz (hs σ h) fun m σ' r=>aP (f:=fun v σ''=>okR (Fl.ret (.tup [v,.tup [.int 1,.str m,.tup [.str "NONE".toList]]])) σ'') (wU hΦ x _ r) fun v σ hv h=>⟨⟨hv,⟨trivial,trivial,⟨trivial,trivial⟩,trivial⟩,trivial⟩,h⟩)
  (fun σ h=>⟨trivial,h⟩)
  (fun s ss hs hss σ h=>aP (hs σ h) fun f σ hf h=>match f,hf with
   | .next,_=>hss σ h
   | .brk,hf=>⟨hf,h⟩
   | .ret _,hf=>⟨hf,h⟩)
end
section
variable {K:Nat} {H0:List O} {W:Nat}
theorem DJ (f:Fn):(match fn f with|some F=>F.dflt.all BD|none=>true)=true:=by cases f<;>rfl
theorem D5 (f:Fn) (F:eK) (h:fn f=some F) (v:V) (hv:v∈F.dflt):fQ K v:=by
 have:=DJ f
 rw[h]at this
 have:=List.all_eq_true.mp this v hv
 cases v<;>first|trivial|cases this
open Classical in
theorem Gq {F:eK} {Φ:ci} {W:Nat} {vs:List V} {H:List O} (hH:mX K H0 H) (r:RK K H0 (zI K) (bF Φ W F.body ⟨(F.full vs).map some++List.replicate (F.slots-F.params) none,H⟩)):TK K H0 (aT F Φ W vs H):=by
 have tIf:∀{c:Prop} [Decidable c] {m:Option (Except Ch V×List O)},(c→TK K H0 m)→TK K H0 (if c then m else none):=fun {c} _ {m} f=>by
  by_cases hc:c
  ·rw[if_pos hc];exact f hc
  ·rw[if_neg hc];trivial
 unfold aT
 refine tIf fun _=>?_
 revert r
 generalize bF Φ W F.body ⟨(F.full vs).map some++List.replicate (F.slots-F.params) none,H⟩=o
 intro r
 cases o with
 |none=>trivial
 |some o=>
  obtain⟨o,σ⟩:=o
  cases o with
  |ok fl=>
   have fin:∀v,fQ K v→TK K H0 (if F.pure=true then(if σ.hp.take H.length=H∧ii H.length v=true then some (Except.ok v,H)else none)else some (Except.ok v,σ.hp)):=fun v hf=>by
    by_cases hp:F.pure=true
    ·rw[if_pos hp];exact tIf fun _=>⟨hf,hH⟩
    ·rw[if_neg hp];exact⟨hf,r.2.1⟩
   cases fl with
   |ret v=>exact fin v r.1
   |next=>exact fin .none trivial
   |brk=>exact fin .none trivial
  |error m=>
   show TK K H0 (if F.pure=true then(if σ.hp.take H.length=H then some (Except.error m,H)else none)else some (Except.error m,σ.hp))
   by_cases hp:F.pure=true
   ·rw[if_pos hp];exact tIf fun _=>hH
   ·rw[if_neg hp];exact r.1
open Classical in
theorem An:∀(n:Nat) (f:Fn) (vs:List V) (H:List O),fy K vs→mX K H0 H→TK K H0 (ay W n f vs H)
 |0,_,_,_,_,_=>trivial
 |n+1,f,vs,H,hv,hH=>by
  show TK K H0 (match fn f with|some F=>aT F (ay W n) W vs H|none=>none)
  generalize e:fn f=o
  cases o with
  |none=>trivial
  |some F=>
   refine Gq hH (IT (W:=W) (An n) F.body _ ⟨hH,fun i v q=>(List.mem_append.mp (List.mem_of_getElem? q)).elim (fun q=>?_) fun q=>nomatch (List.mem_replicate.mp q).2⟩)
   obtain⟨u,hu,z⟩:=List.mem_map.mp q
   cases z
   exact(List.mem_append.mp (show v∈vs++F.dflt.drop _ from hu)).elim (cC.mp hv v) fun hu=>D5 f F e v (List.mem_of_mem_drop hu)
theorem yY {n:Nat} {f:Fn} {vs:List V} {H Hf:List O} {r:Except Ch V} (h:ay W n f vs H=some (r,Hf)) (hv:∀k,fy k vs):H.length≤Hf.length∧∀m,m<H.length→Hf[m]? =H[m]? :=by
 have c:=An (K:=H.length) (H0:=H) (W:=W) n f vs H (hv _) ⟨Nat.le_refl _,fun _ _=>rfl,fun m o hm e=>by
  rw[List.getElem?_eq_none hm]at e;cases e⟩
 rw[h]at c
 cases r with
 |ok v=>exact⟨c.2.len,c.2.low⟩
 |error m=>exact⟨c.len,c.low⟩
end
end Mine
end
section
namespace Mine
section
variable {W n D:Nat} {t:Ch} {H:List O} {Φ:ci} {b:Bool} {cs ws:List V} {o:Option Ch} {v w:V}
noncomputable def EI:V→V
 | .tup [.bool x,.tup vs]=>uG x vs
 |_=>.none
noncomputable def wD:Ss:=.cons (.ife (.cmp .ne (.comp (.call .plainOf (.cons (.loc 1) .nil)) (.idx (.loc 4) (.int 0)) []) (.comp (.call .lPlain (.cons (.loc 1) .nil)) (.idx (.loc 4) (.int 0)) [])) (.cons (.ret (.bool false)) .nil) .nil) .nil
theorem yw {lo:List (Option V)} {f:Fn} (h4:lo[4]? =some (some v)) (hv:v=cZ ws b1 b2 b3) (hw:∀w∈ws,fY w) (hl:ws.length<9000) (hf:∀x vs H,fY (wd x vs)→ay W n f [wd x vs] H=some (.ok (uG x vs),H)):
  EV (ay W n) ⟨lo,H⟩ (.comp (.call f (.cons (.loc 1) .nil)) (.idx (.loc 4) (.int 0)) []) (.ref H.length) ⟨lo,H++[.list (ws.map EI)]⟩:=by
 subst hv
 refine EV.comp (σ:=⟨lo,H⟩) (frees:=[]) n0 (EV.idx (EV.loc h4) EV.int ed) rfl (by omega) fun u hu acc=>?_
 obtain⟨x,vs,rfl,q1,q2,q3⟩:=hw u hu
 exact EV.callP (aq.one (EV.loc rfl)) (hf x vs _ ⟨x,vs,rfl,q1,q2,q3⟩)
theorem D4 {x4:Option V} {a b c d:V} (hc:uO v):∃H',fB (ay W (n+1)) W 4 wD v ⟨[some a,some b,some c,some d,x4],H⟩=okR .next ⟨[some a,some b,some c,some d,some v],H++H'⟩:=by
 obtain⟨ws,aL,ax,aft,rfl,hw,hl⟩:=hc
 have e1:=yw (W:=W) (n:=n+1) (H:=H) (lo:=[some a,some b,some c,some d,some (cZ ws aL ax aft)]) (f:=.plainOf) rfl rfl hw hl fun x vs H h=>u6 h
 have e2:=yw (W:=W) (n:=n+1) (H:=H++[.list (ws.map EI)]) (lo:=[some a,some b,some c,some d,some (cZ ws aL ax aft)]) (f:=.lPlain) rfl rfl hw hl fun x vs H h=>vm h
 have q:dX (H++[.list (ws.map EI)]++[.list (ws.map EI)]) .eq (.ref H.length) (.ref (H++[O.list (ws.map EI)]).length)=some true:=
  Cr (d:=1) (cs:=ws.map EI) (by decide) (by simp[listOf?]) bO fun u hu=>by
   obtain⟨w,hw',rfl⟩:=List.mem_map.mp hu
   obtain⟨x,vs,rfl, -⟩:=hw w hw'
   exact Bl
 refine⟨[.list (ws.map EI)]++[.list (ws.map EI)],?_⟩
 rw[←List.append_assoc]
 exact show bF (ay W (n+1)) W wD ⟨[some a,some b,some c,some d,some (cZ ws aL ax aft)],H⟩=_ from ao (av (EV.cmp e1 e2 (yt q)) aw)
theorem vj {a b c d:V}:∀(us:List V) (x4:Option V) (H:List O),(∀u∈us,uO u)→listOf? H D=some cs→∃x4' H',hZ (.ref D) cs (fB (ay W (n+1)) W 4 wD) us ⟨[some a,some b,some c,some d,x4],H⟩=okR .next ⟨[some a,some b,some c,some d,x4'],H++H'⟩
 |[],x4,H,_,_=>⟨x4,[],by rw[List.append_nil];exact jo⟩
 |u::us,x4,H,hu,hD=>by
  obtain⟨H1,h1⟩:=D4 (W:=W) (n:=n) (H:=H) (x4:=x4) (a:=a) (b:=b) (c:=c) (d:=d) (hu u (.head _))
  have hs:bW (H++H1) (.ref D)=some cs:=ej hD
  obtain⟨x4',H2,h2⟩:=vj us (some u) (H++H1) (fun u hu'=>hu u (.tail _ hu')) hs
  exact⟨x4',H1++H2,by rw[←List.append_assoc];exact io h1 hs h2⟩
theorem vo (hW:10002<W) (hT:t.length≤400) (hok:∀c∈t,c∉tq) (hn:4*t.length+13≤n):∃Hf,ay W (n+4) .lRight [.str t,.bool b] H=some (.ok (.bool true),Hf):=by
 obtain⟨n,rfl⟩:∃m,n=m+1:=⟨n-1,by omega⟩
 obtain⟨cs,o,sq,qt⟩:=xY (W:=W) (b:=b) hW hok hT (t.length+1) t (by omega) ⟨by omega,[],rfl⟩
 obtain⟨H1,D,rd,hD⟩:=y1 (W:=W) (n:=n) (H:=H) hW hT qt
 have hDl:=aE hD
 have rds:∀c∈cs,Rd 905 c:=fun c hc=>(sq.ok c hc).rd
 have sl:=sq.len
 rw[wZ]at rd
 have a1:eS (ay W (n+4)) W (.asgT [.loc 2,.loc 3] (.call .lRead (.cons (.loc 0) (.cons (.loc 1) .nil)))) ⟨[some (.str t),some (.bool b),none,none,none],H⟩=okR .next ⟨[some (.str t),some (.bool b),some (.ref D),some (oV o),none],H1⟩:=
  cK (EV.call (aq.cons (EV.loc rfl) (aq.one (EV.loc rfl))) rd) rfl (cn (show(2:Nat)<5 by decide) (show(3:Nat)<5 by decide))
 have ob:∀H2,EV (ay W (n+4)) ⟨[some (.str t),some (.bool b),some (.ref D),some (oV o),none],H2⟩ (.call .lOneByOne (.cons (.loc 0) (.cons (.bool b) .nil))) (sP H2.length o) ⟨[some (.str t),some (.bool b),some (.ref D),some (oV o),none],H2++[.list cs]⟩:=fun H2=>
  EV.call (aq.cons (EV.loc rfl) (aq.one EV.bool)) (pX (n:=n+3) hW hT (by omega) sq)
 have pr:∀{H2},EV (ay W (n+4)) ⟨[some (.str t),some (.bool b),some (.ref D),some (oV o),none],H2⟩ (.tup (.cons (.loc 2) (.cons (.loc 3) .nil))) (.tup [.ref D,oV o]) ⟨[some (.str t),some (.bool b),some (.ref D),some (oV o),none],H2⟩:=EV.tup (aq.cons (EV.loc rfl) (aq.one (EV.loc rfl)))
 have obq:∀{H2},listOf? H2 D=some cs→dX (H2++[.list cs]) .eq (sP H2.length o) (.tup [.ref D,oV o])=some true:=fun {H2} h2=>B5 bO (ej (src:=.ref D) h2) rds
 cases b with
 |true=>exact⟨_,aN (Fu:=lE) rfl rfl rfl (aa a1 (ak (aB (EV.loc rfl) (ak (aK (EV.cmp (ob H1) pr (obq hDl)))))))⟩
 |false=>
  have al:=AX (n:=n+1) (H:=H1) hW hT (by omega) sq
  cases o with
  |none=>
   have c1:EV (ay W (n+4)) ⟨[some (.str t),some (.bool false),some (.ref D),some .none,none],H1⟩ (.cmp .ne (.call .lAll (.cons (.loc 0) .nil)) (.ite (.cmp .is (.loc 3) .none) (.tup (.cons (.loc 2) (.cons .none .nil))) (.tup (.cons (.lst .nil) (.cons (.loc 3) .nil))))) (.bool false) ⟨[some (.str t),some (.bool false),some (.ref D),some .none,none],H1++[.list cs]⟩:=
    EV.cmp (EV.call (aq.one (EV.loc rfl)) al) (EV.iteT (EV.cmp (EV.loc rfl) EV.none rfl) (EV.tup (aq.cons (EV.loc rfl) (aq.one EV.none)))) (yt (obq hDl))
   have hs:bW (H1++[.list cs]) (.ref D)=some cs:=ej hDl
   obtain⟨x4',H',lp⟩:=vj (W:=W) (n:=n+3) (D:=D) (a:=.str t) (b:=.bool false) (c:=.ref D) (d:=.none) cs none (H1++[O.list cs]) sq.ok hs
   exact⟨_,aN (Fu:=lE) rfl rfl rfl (aa a1 (aa (av (EV.loc rfl) aw) (aa (av c1 aw) (aa (av (EV.andF (EV.cmp (EV.loc rfl) EV.none rfl)) aw) (aa (mS (EV.loc rfl) hs (by omega) lp) (ak (aK EV.bool)))))))⟩
  |some m=>
   have hs1:bW (H1++[.list cs]++[.list []]) (.ref D)=some cs:=ej (ej hDl)
   have hs2:bW (H1++[.list cs]++[.list []]++[.list []]) (.ref D)=some cs:=ej hs1
   have nl:=EV.lst (Φ:=ay W (n+4)) (σ:=⟨[some (.str t),some (.bool false),some (.ref D),some (oV (some m)),none],H1++[.list cs]++[.list []]⟩) aq.nil
   have c1:EV (ay W (n+4)) ⟨[some (.str t),some (.bool false),some (.ref D),some (oV (some m)),none],H1⟩ (.cmp .ne (.call .lAll (.cons (.loc 0) .nil)) (.ite (.cmp .is (.loc 3) .none) (.tup (.cons (.loc 2) (.cons .none .nil))) (.tup (.cons (.lst .nil) (.cons (.loc 3) .nil))))) (.bool false) ⟨[some (.str t),some (.bool false),some (.ref D),some (oV (some m)),none],H1++[.list cs]++[.list []]++[.list []]⟩:=
    EV.cmp (EV.call (aq.one (EV.loc rfl)) al) (EV.iteF (EV.cmp (EV.loc rfl) EV.none rfl) (EV.tup (aq.cons nl (aq.one (EV.loc rfl))))) (yt (B5 (cs:=[]) (by simp[listOf?]) bO n0))
   have hs3:bW (H1++[.list cs]++[.list []]++[.list []]++[.list cs]) (.ref D)=some cs:=ej hs2
   obtain⟨x4',H',lp⟩:=vj (W:=W) (n:=n+3) (D:=D) (a:=.str t) (b:=.bool false) (c:=.ref D) (d:=oV (some m)) cs none _ sq.ok hs3
   exact⟨_,aN (Fu:=lE) rfl rfl rfl (aa a1 (aa (av (EV.loc rfl) aw) (aa (av c1 aw) (aa (av (EV.andT (EV.cmp (EV.loc rfl) EV.none rfl) (EV.and1 (EV.cmp (ob _) pr (yt (obq hs2))))) aw) (aa (mS (EV.loc rfl) hs3 (by omega) lp) (ak (aK EV.bool)))))))⟩
end
end Mine
end
section
namespace Mine
noncomputable def yZ:Ss→Es
 | .cons (.ret (.lst es)) .nil=>es
 |_=>.nil
noncomputable def He:E→Ch
 | .str l=>l
 |_=>[]
noncomputable def E6:E→Bool
 | .str _=>true
 |_=>false
noncomputable def qm:Es→List Ch
 | .nil=>[]
 | .cons e es=>He e::qm es
noncomputable def ve:Es→Bool
 | .nil=>true
 | .cons e es=>E6 e&&ve es
noncomputable def jh:List Ch:=qm (yZ qJ)
noncomputable def tf:List Ch:=qm (yZ oH)
noncomputable def AT:List Ch:=qm (yZ qA)
noncomputable def Cz (t:Ch):Bool:=t.all fun c=> !tq.contains c
noncomputable def hM (m:Nat) (t:Ch):Prop:=t.length≤m∧Cz t=true
theorem hM.bad {m:Nat} {t:Ch} (h:hM m t):∀c∈t,c∉tq:=fun c hc q=>by
 have:=List.all_eq_true.mp h.2 c hc
 rw[List.contains_iff_mem.mpr q]at this;cases this
theorem hM.up {m m':Nat} {t:Ch} (h:hM m t) (hm:m≤m'):hM m' t:=⟨Nat.le_trans h.1 hm,h.2⟩
theorem w4:jh.length=40:=by decide +kernel
theorem Eu:tf.length=3:=by decide +kernel
theorem l9:AT.length=8:=by decide +kernel
theorem vE {l:List Ch} {m:Nat} (h:l.all (fun t=>decide (t.length≤m)&&Cz t)=true):∀t∈l,hM m t:=fun t ht=>by
 have:=List.all_eq_true.mp h t ht
 rw[Bool.and_eq_true,decide_eq_true_eq]at this;exact this
theorem zU:∀t∈jh,hM 3 t:=vE (by decide +kernel)
theorem Gp:∀t∈tf,hM 90 t:=vE (by decide +kernel)
theorem FU:∀t∈AT,hM 90 t:=vE (by decide +kernel)
section
variable {W n D T Pc S6:Nat} {t p:Ch} {H H':List O} {Φ:ci} {cs ws us:List V} {v w:V} {σ ah:St} {xs:List Int} {ts:List Ch} {a b:V} {m:Nat} {x:Int}
theorem GA {e:E} (h:E6 e=true):EV Φ σ e (.str (He e)) σ:=by
 cases e with
 |str l=>exact EV.str
 |_=>exact Bool.noConfusion (show false=true from h)
theorem tQ:∀{es:Es},ve es=true→aq Φ σ es ((qm es).map .str) σ
 | .nil,_=>aq.nil
 | .cons e es,h=>aq.cons (GA (Bool.and_eq_true_iff.mp h).1) (tQ (es:=es) (Bool.and_eq_true_iff.mp h).2)
theorem sv {f:Fn} {F:eK} (hf:fn f=some F) (hp:F.pure=false) (h0:(F.full []).length=F.params) (hb:F.body=.cons (.ret (.lst (yZ F.body))) .nil) (ha:ve (yZ F.body)=true):ay W (n+1) f [] H=some (.ok (.ref H.length),H++[.list ((qm (yZ F.body)).map .str)]):=
 aN hf h0 hp (by rw[hb];exact ak (aK (EV.lst (tQ ha))))
theorem tM:ay W (n+1) .lFaulty [] H=some (.ok (.ref H.length),H++[.list (AT.map .str)]):=sv (F:=qo) rfl rfl rfl rfl rfl
theorem uw:ay W (n+1) .lPieces [] H=some (.ok (.ref H.length),H++[.list (jh.map .str)]):=sv (F:=qG) rfl rfl rfl rfl rfl
theorem tr:ay W (n+1) .lScripts [] H=some (.ok (.ref H.length),H++[.list (tf.map .str)]):=sv (F:=oi) rfl rfl rfl rfl rfl
theorem rW {q r:Ch} (h:Cz q=true) (h':Cz r=true):Cz (q++r)=true:=by
 unfold Cz at*
 rw[List.all_append,h,h'];rfl
theorem Eg {q:Ch} (h:Cz t=true) (hs:∀c∈q,c∈t):Cz q=true:=List.all_eq_true.mpr fun c hc=>List.all_eq_true.mp h c (hs c hc)
theorem Ab {i j:Int} (h:Cz t=true):Cz (cut t i j)=true:=Eg h fun c hc=>List.mem_of_mem_drop (List.mem_of_mem_take hc)
inductive jI (W:Nat) (n:Nat) (t:Ch) (p:Ch) (H:List O) (m:Nat) (x:Int):Prop
 |mk:∀r,hM (m+3) r→ay W (n+1) .lChanged [.str t,.str p,.int x] H=some (.ok (.str r),H)→jI W n t p H m x
theorem oU (x:Int) {n:Nat} (h:0<n):∃a:Nat,x.fmod n=a∧a<n:=
 (Int.eq_ofNat_of_zero_le (Int.fmod_nonneg_of_pos x (Int.ofNat_lt.mpr h))).elim fun a e=>⟨a,e,Int.ofNat_lt.mp (e▸Int.fmod_lt_of_pos x (Int.ofNat_lt.mpr h))⟩
theorem tu (ht:hM m t) (hm:m≤400) (hp:hM 3 p):jI W n t p H m x:=by
 obtain⟨a,ha,hal'⟩:∃a:Nat,x.fmod ((t.length:Int)+1)=a∧a<t.length+1:=oU x (Nat.zero_lt_succ _)
 have hal:a≤t.length:=Nat.le_of_lt_succ hal'
 obtain⟨d,hd⟩:∃d:Nat,d=if(p==([]:Ch))=true then 1 else 0:=⟨_,rfl⟩
 have hm':=Nat.le_trans ht.1 hm
 have tl:t.length≤nu:=Nat.le_trans hm' (by decide)
 have c1:(cut t 0 a).length≤a:=Nat.le_trans (List.length_take_le ..) (Nat.le_trans (Nat.sub_le ..) (by rw[gH];exact Nat.min_le_left ..))
 have c2:(cut t (a+d) t.length).length≤t.length-a:=by
  have e:iW ((a:Int)+d) t.length=min (a+d) t.length:=gH (a+d) _
  rw[cut,e,gH,Nat.min_self]
  exact Nat.le_trans (List.length_take_le ..) (Nat.sub_le_sub_left (Nat.le_min.mpr ⟨Nat.le_add_right ..,hal⟩) _)
 have c3:(cut t 0 a).length+p.length≤a+3:=Nat.add_le_add c1 hp.1
 have c4:(cut t 0 a).length+p.length+(cut t (a+d) t.length).length≤m+3:=
  Nat.le_trans (Nat.add_le_add c3 c2) (by rw[Nat.add_right_comm,Nat.add_sub_cancel' hal];exact Nat.add_le_add_right ht.1 3)
 have a1:eS (ay W n) W (.asg 3 (.bin .mod (.loc 2) (.bin .add (.len (.loc 0)) (.int 1)))) ⟨[some (.str t),some (.str p),some (.int x),none],H⟩=okR .next ⟨[some (.str t),some (.str p),some (.int x),some (.int a)],H⟩:=
  aV (EV.bin (EV.loc rfl) (EV.bin (EV.len (EV.loc rfl) tl) EV.int rfl) (by
   rw[yD ⟨by omega,by omega⟩,ha])) (show(3:Nat)<4 by decide)
 have e1:EV (ay W n) ⟨[some (.str t),some (.str p),some (.int x),some (.int a)],H⟩ (.bin .add (.slt (.loc 0) (.loc 3)) (.loc 1)) (.str (cut t 0 a++p)) ⟨[some (.str t),some (.str p),some (.int x),some (.int a)],H⟩:=
  EV.bin (EV.slt (EV.loc rfl) (EV.loc rfl) tl) (EV.loc rfl) (iU (Nat.le_trans c3 (Nat.le_trans (Nat.add_le_add_right (Nat.le_trans hal hm') 3) (by decide))))
 have e2:EV (ay W n) ⟨[some (.str t),some (.str p),some (.int x),some (.int a)],H⟩ (.ite (.cmp .eq (.loc 1) (.str [])) (.int 1) (.int 0)) (.int d) ⟨[some (.str t),some (.str p),some (.int x),some (.int a)],H⟩:=by
  have q:=aH (Φ:=ay W n) (σ:=⟨[some (.str t),some (.str p),some (.int x),some (.int a)],H⟩) (b:=[]) (EV.loc (i:=1) rfl)
  subst hd
  cases hq:(p==([]:Ch))with
  |true=>rw[hq]at q;exact EV.iteT q EV.int
  |false=>rw[hq]at q;exact EV.iteF q EV.int
 have e3:EV (ay W n) ⟨[some (.str t),some (.str p),some (.int x),some (.int a)],H⟩ (.slf (.loc 0) (.bin .add (.loc 3) (.ite (.cmp .eq (.loc 1) (.str [])) (.int 1) (.int 0)))) (.str (cut t (a+d) t.length)) ⟨[some (.str t),some (.str p),some (.int x),some (.int a)],H⟩:=
  EV.slf (EV.loc rfl) (EV.bin (EV.loc rfl) e2 rfl) tl
 refine⟨cut t 0 a++p++cut t (a+d) t.length,⟨by rw[List.length_append,List.length_append];exact c4,rW (rW (Ab ht.2) hp.2) (Ab ht.2)⟩,?_⟩
 exact aM (F:=pO) rfl rfl rfl (aa a1 (ak (aK (EV.bin e1 e3 (iU (by rw[List.length_append];exact Nat.le_trans c4 (Nat.le_trans (Nat.add_le_add_right hm 3) (by decide)))))))) (List.take_length ..) rfl
structure LH (H:List O) (S Pc T:Nat) (xs:List Int) (ts:List Ch) (m:Nat):Prop where
 s:H[S]? =some (.list (xs.map .int))
 p:H[Pc]? =some (.list (jh.map .str))
 t:H[T]? =some (.list (ts.map .str))
 tl:ts.length=3
 tk:∀t∈ts,hM m t
 sT:S≠T
 pT:Pc≠T
 xl:xs.length<10000
theorem sj {k:Int} {us:List V} {j i:Nat} (hk:k=i) (hi:i<us.length) (hl:us.length<10000) (h:listOf? H j=some us):iG H (.ref j) (.int k)=us[i]? :=by
 subst hk
 exact w7 (pA (Int.le_trans (by decide) (Int.natCast_nonneg i)) (Int.ofNat_le.mpr (Nat.le_trans (Nat.le_of_lt (Nat.lt_trans hi hl)) (by decide)))) h (A8 hi)
inductive om (Pc:Nat) (H:List O) (x:Int):Prop
 |mk:∀p,p∈jh→p=jh.getD (x.fmod 40).toNat []→iG H (.ref Pc) (.int (x.fmod 40))=some (.str p)→om Pc H x
theorem tH (h:listOf? H Pc=some (jh.map .str)) (x:Int):om Pc H x:=by
 obtain⟨i,hi,hl'⟩:∃i:Nat,x.fmod 40=i∧i<40:=oU x (by decide:0<40)
 have hl:i<jh.length:=by rw[w4];exact hl'
 have e:=sj (j:=Pc) hi (by rw[List.length_map];exact hl) (by rw[List.length_map,w4];decide) h
 exact⟨jh[i],List.getElem_mem hl,by rw[hi];simp[List.getD,hl],by rw[e];simp[hl]⟩
noncomputable def vG:Ss:=(.cons (.asg 4 (.bin .mod (.bin .fdiv (.loc 3) (.int 40)) (.int 3)))
 (.cons (.asgS (.loc 2) (.loc 4) (.call .lChanged (.cons (.idx (.loc 2) (.loc 4)) (.cons (.idx (.loc 1) (.bin .mod (.loc 3) (.int 40))) (.cons (.bin .fdiv (.loc 3) (.int 120)) .nil))))) .nil))
noncomputable def mr (S Pc T:Nat) (x3 x4 x5 x6 x7 x8:Option V):List (Option V):=[some (.ref S),some (.ref Pc),some (.ref T),x3,x4,x5,x6,x7,x8]
theorem rj {x y:Int} (h:0<y) (h':y<65536):hK .mod (.int x) (.int y)=some (.int (x.fmod y)):=yD ⟨h,h'⟩
theorem yu {x y:Int} (h:0<y) (h':y<65536):hK .fdiv (.int x) (.int y)=some (.int (x.fdiv y)):=Cf ⟨h,h'⟩
inductive qM (W:Nat) (n:Nat) (T:Nat) (Pc:Nat) (H:List O) (xs:List Int) (m:Nat) (S:Nat) (x:Int) (x3:Option V) (x4:Option V):Prop
 |mk:∀H' ts' x4',LH H' S Pc T xs ts' (m+3)→H'.length=H.length→(∀j,j≠T→H'[j]? =H[j]?)→fB (ay W (n+1)) W 3 vG (.int x) ⟨mr S Pc T x3 x4 none none none none,H⟩=okR .next ⟨mr S Pc T (some (.int x)) x4' none none none none,H'⟩→qM W n T Pc H xs m S x x3 x4
theorem Dh {S:Nat} (h:LH H S Pc T xs ts m) (hm:m≤400) (x:Int) {x3 x4:Option V}:qM W n T Pc H xs m S x x3 x4:=by
 obtain⟨i,hi,hl'⟩:∃i:Nat,(x.fdiv 40).fmod 3=i∧i<3:=oU _ (by decide:0<3)
 have hl:i<ts.length:=by rw[h.tl];exact hl'
 obtain⟨p,hp, -,ep⟩:=tH (aE h.p) x
 have tm:ts[i]∈ts:=List.getElem_mem hl
 obtain⟨r,hr,er⟩:=tu (W:=W) (n:=n) (H:=H) (x:=x.fdiv 120) (h.tk _ tm) hm (zU p hp)
 have TH:=bD h.t
 refine⟨H.set T (.list ((ts.set i r).map .str)),ts.set i r,some (.int i),⟨by rw[aO (Ne.symm h.sT)];exact h.s,by rw[aO (Ne.symm h.pT)];exact h.p,cS TH,by simp[h.tl],fun t ht=>?_,h.sT,h.pT,h.xl⟩,by simp,fun j hj=>aO (Ne.symm hj),?_⟩
 ·rcases List.mem_or_eq_of_mem_set ht with ht|rfl
  ·exact(h.tk t ht).up (by omega)
  ·exact hr
 ·have a1:eS (ay W (n+1)) W (.asg 4 (.bin .mod (.bin .fdiv (.loc 3) (.int 40)) (.int 3))) ⟨mr S Pc T (some (.int x)) x4 none none none none,H⟩=okR .next ⟨mr S Pc T (some (.int x)) (some (.int i)) none none none none,H⟩:=
   aV (EV.bin (EV.bin (EV.loc rfl) EV.int (yu (by decide) (by decide))) EV.int (by rw[←hi];exact rj (by decide) (by decide))) (show(4:Nat)<9 by decide)
  have gt:iG H (.ref T) (.int i)=some (.str ts[i]):=by rw[sj rfl (by rw[List.length_map];exact hl) (by rw[List.length_map,h.tl];decide) (aE h.t)];simp[hl]
  have st:mE H (.ref T) (.int i) (.str r)=some (H.set T (.list ((ts.set i r).map .str))):=by
   simp only[mE,pA (show-20000≤(i:Int) from Int.le_trans (by decide) (Int.natCast_nonneg i)) (show(i:Int)≤20000 from Int.ofNat_le.mpr (Nat.le_trans (Nat.le_of_lt hl') (by decide))),if_true,aE h.t,Option.bind_some,cN]
   rw[if_pos (Int.natCast_nonneg i),if_pos (by rw[List.length_map];exact Int.ofNat_lt.mpr hl)]
   simp[List.map_set]
  have l:∀{j:Nat} {v:V},(mr S Pc T (some (.int x)) (some (.int i)) none none none none)[j]? =some (some v)→EV (ay W (n+1)) ⟨mr S Pc T (some (.int x)) (some (.int i)) none none none none,H⟩ (.loc j) v ⟨mr S Pc T (some (.int x)) (some (.int i)) none none none none,H⟩:=fun h=>EV.loc h
  have l2:=l (j:=2) rfl
  have l3:=l (j:=3) rfl
  have l4:=l (j:=4) rfl
  have as:=aq.cons (EV.idx l2 l4 gt) (aq.cons (EV.idx (l (j:=1) rfl) (EV.bin l3 EV.int (rj (y:=40) (by decide) (by decide))) ep) (aq.one (EV.bin l3 EV.int (yu (y:=120) (by decide) (by decide)))))
  exact show bF (ay W (n+1)) W vG ⟨mr S Pc T (some (.int x)) x4 none none none none,H⟩=_ from aa a1 (ao (rJ (EV.callP as er) l2 l4 st))
inductive ua (W:Nat) (n:Nat) (T:Nat) (Pc:Nat) (S6:Nat) (xs:List Int) (S:Nat) (items:List V) (us:List Int) (H:List O) (m:Nat) (x3:Option V) (x4:Option V):Prop
 |mk:∀H' ts' x3' x4',LH H' S Pc T xs ts' (m+3*us.length)→hZ (.ref S6) items (fB (ay W (n+1)) W 3 vG) (us.map .int) ⟨mr S Pc T x3 x4 none none none none,H⟩=okR .next ⟨mr S Pc T x3' x4' none none none none,H'⟩→ua W n T Pc S6 xs S items us H m x3 x4
theorem Ce {S:Nat} {items:List V}:∀(us:List Int) (H:List O) (ts:List Ch) (m:Nat) (x3 x4:Option V),LH H S Pc T xs ts m→m+3*us.length≤400→S6≠T→H[S6]? =some (.list items)→
  ua W n T Pc S6 xs S items us H m x3 x4
 |[],H,ts,m,x3,x4,h,_,_,_=>⟨H,ts,x3,x4,h,jo⟩
 |u::us,H,ts,m,x3,x4,h,hm,h6,hi=>by
  simp only[List.length_cons]at hm
  obtain⟨H1,ts1,x4',h1,l1,k1,e1⟩:=Dh (W:=W) (n:=n) h (by omega) u (x3:=x3) (x4:=x4)
  have hi1:H1[S6]? =some (.list items):=by rw[k1 S6 h6];exact hi
  obtain⟨H2,ts2,x3',x4'',h2,e2⟩:=Ce us H1 ts1 (m+3) (some (.int u)) x4' h1 (by omega) h6 hi1
  refine⟨H2,ts2,x3',x4'',?_,io e1 (aE hi1) e2⟩
  rwa[show m+3*(u::us).length=m+3+3*us.length by simp;omega]
theorem tJ:∀(l:List Ch),dW (l.map .str)=some l
 |[]=>rfl
 |x::l=>by rw[List.map_cons,dW,tJ l];rfl
noncomputable def Jc:V→V
 | .int x=>.str (jh.getD (x.fmod 40).toNat [])
 |_=>.none
theorem HA (x:Int):hM 3 (jh.getD (x.fmod 40).toNat []):=by
 by_cases h:(x.fmod 40).toNat<jh.length
 ·refine zU _ ?_
  simp[List.getD,h]
 ·rw[List.getD,List.getElem?_eq_none (by omega)];exact⟨by simp,rfl⟩
theorem xE:∀(xs:List Int),hM (3*xs.length) ((xs.map fun x=>jh.getD (x.fmod 40).toNat []).flatten)
 |[]=>⟨by simp,rfl⟩
 |x::xs=>by
  have h1:=HA x
  have h2:=xE xs
  rw[List.map_cons,List.flatten_cons]
  exact⟨by rw[List.length_append,List.length_cons,Nat.add_comm,Nat.mul_succ];exact Nat.add_le_add h2.1 h1.1,rW h1.2 h2.2⟩
noncomputable def IF:E:=.join (.str []) (.comp (.idx (.loc 2) (.bin .mod (.loc 1) (.int 40))) (.slt (.loc 0) (.int 14)) [1])
inductive pf (T:Nat) (Pc:Nat) (H:List O) (Φ:ci) (S:Nat) (x3:Option V) (x4:Option V):Prop
 |mk:∀H' d,hM 42 d→EV Φ ⟨mr S Pc T x3 x4 none none none none,H⟩ IF (.str d) ⟨mr S Pc T x3 x4 none none none none,H++H'⟩→pf T Pc H Φ S x3 x4
theorem Am {S:Nat} (h:LH H S Pc T xs ts m) {x3 x4:Option V}:pf T Pc H Φ S x3 x4:=by
 have e1:=EV.sltL (Φ:=Φ) (σ:=⟨mr S Pc T x3 x4 none none none none,H⟩) (q:=14) (EV.loc (i:=0) rfl) EV.int (aE h.s) ⟨by simpa using h.xl,by decide⟩
 have hs:bW (H++[.list ((xs.map V.int).take (14:Int).toNat)]) (.ref H.length)=some ((xs.map V.int).take 14):=bO
 have e2:=EV.comp (elt:=.idx (.loc 2) (.bin .mod (.loc 1) (.int 40))) (frees:=[1]) (g:=Jc) (by
   intro i hi
   simp only[List.mem_cons,List.not_mem_nil,or_false]at hi
   subst hi;rfl) e1 hs (by simp;omega) fun u hu acc=>by
  rw[←List.map_take]at hu
  obtain⟨x, -,rfl⟩:=List.mem_map.mp hu
  obtain⟨p, -,hp,e⟩:=tH (H:=H++[.list ((xs.map V.int).take (14:Int).toNat)]++[.list acc]) (Pc:=Pc) (aE (bM (bM h.p))) x
  exact EV.idx (EV.loc rfl) (EV.bin (EV.loc rfl) EV.int (rj (by decide) (by decide))) (by rw[e,hp];rfl)
 have fk:=xE (xs.take 14)
 have fl:=fk.1
 have tl:(xs.take 14).length≤14:=by simp;omega
 have e3:=EV.join e2 bO (ls:=(xs.take 14).map fun x=>jh.getD (x.fmod 40).toNat []) (by
  rw[←List.map_take,List.map_map, ←tJ,List.map_map];rfl) ⟨by simp;omega,by omega⟩
 refine⟨[.list ((xs.map V.int).take (14:Int).toNat)]++[.list (((xs.map V.int).take 14).map Jc)],_,fk.up (by omega),?_⟩
 rw[←List.append_assoc]
 exact e3
noncomputable def EO (v:V):Prop:=∃t b,v=.tup [.str t,.bool b]∧hM 110 t
noncomputable def Jo (v:V):V:=.tup [v,.bool false]
noncomputable def IB:E:=(.bin .add (.comp (.tup (.cons (.loc 1) (.cons (.bool false) .nil))) (.bin .add (.bin .add (.loc 2) (.call .lFaulty .nil)) (.lst (.cons (.loc 5) .nil))) []) (.lst (.cons (.tup (.cons (.idx (.loc 2) (.int 2)) (.cons (.bool true) .nil))) (.cons (.tup (.cons (.loc 5) (.cons (.bool true) .nil))) .nil))))
noncomputable def LE (Φ:ci) (lo:List (Option V)) (H:List O) (e:E) (us:List V):Prop:=∃r L,EV Φ ⟨lo,H⟩ e (.ref r) ⟨lo,H++L⟩∧(H++L)[r]? =some (.list us)
variable {lo:List (Option V)} {e1 e2:E}
theorem LE.sum (A:LE Φ lo H e1 us) (B:∀L,LE Φ lo (H++L) e2 vs) (hl:us.length+vs.length<10000):LE Φ lo H (.bin .add e1 e2) (us++vs):=by
 obtain⟨r,L,a1,a2⟩:=A
 obtain⟨q,M,b1,b2⟩:=B L
 have s:=EV.lsum a1 b1 (aE (bM a2)) (aE b2) hl
 exact⟨(H++L++M).length,L++(M++[.list (us++vs)]),by rw[←List.append_assoc, ←List.append_assoc];exact s,by simp⟩
theorem LE.lst {es:Es} (h:aq Φ ⟨lo,H⟩ es us ⟨lo,H⟩):LE Φ lo H (.lst es) us:=⟨H.length,[.list us],EV.lst h,by simp⟩
theorem LE.comp {elt it:E} {g:V→V} (A:LE Φ lo H it us) (hl:us.length<10000) (h:∀u∈us,∀H',EV Φ ⟨[none,some u],H'⟩ elt (g u) ⟨[none,some u],H'⟩):LE Φ lo H (.comp elt it []) (us.map g):=by
 obtain⟨r,L,a1,a2⟩:=A
 have s:=EV.comp (σ:=⟨lo,H⟩) (frees:=[]) n0 a1 (aE a2) hl fun u hu acc=>h u hu _
 exact⟨(H++L).length,L++[.list (us.map g)],by rw[←List.append_assoc];exact s,by simp⟩
inductive qp (W:Nat) (n:Nat) (H:List O) (lo:List (Option V)):Prop
 |mk:∀H' R rows,EV (ay W (n+1)) ⟨lo,H⟩ IB (.ref R) ⟨lo,H'⟩→H'[R]? =some (.list rows)→rows.length<10000→(∀v∈rows,EO v)→qp W n H lo
theorem DZ {d:Ch} (hd:hM 110 d) (hts:∀t∈ts,hM 110 t) (htl:ts.length=3) (h2:lo[2]? =some (some (.ref T))) (h5:lo[5]? =some (some (.str d))) (hT:H[T]? =some (.list (ts.map .str))):
  qp W n H lo:=by
 have g2:∀L:List O,iG (H++L) (.ref T) (.int 2)=some (.str ts[2]):=fun L=>by
  have:=sj (k:=2) (i:=2) (us:=ts.map V.str) (j:=T) (H:=H++L) rfl (by simp[htl]) (by simp[htl]) (aE (bM hT))
  rw[this];simp[htl]
 have s1:LE (ay W (n+1)) lo H (.loc 2) (ts.map .str):=⟨T,[],by rw[List.append_nil];exact EV.loc h2,by rw[List.append_nil];exact hT⟩
 have s2:∀L,LE (ay W (n+1)) lo (H++L) (.call .lFaulty .nil) (AT.map .str):=fun L=>⟨(H++L).length,[.list (AT.map .str)],EV.call aq.nil tM,by simp⟩
 have s3:=LE.comp (elt:=.tup (.cons (.loc 1) (.cons (.bool false) .nil))) (g:=Jo) ((s1.sum s2 (by simp[htl,l9])).sum (fun L=>LE.lst (aq.one (EV.loc h5))) (by simp[htl,l9])) (by simp[htl,l9]) fun u hu H'=>EV.tup (aq.cons (EV.loc rfl) (aq.one EV.bool))
 obtain⟨R,L,s4,s5⟩:=s3.sum (fun L=>LE.lst (aq.cons (EV.tup (aq.cons (EV.idx (EV.loc h2) EV.int (g2 L)) (aq.one EV.bool))) (aq.one (EV.tup (aq.cons (EV.loc h5) (aq.one EV.bool)))))) (by simp[htl,l9])
 refine⟨_,R,_,s4,s5,by simp[htl,l9],fun v hv=>?_⟩
 have h3:hM 110 ts[2]:=hts _ (List.getElem_mem _)
 simp only[List.map_append,List.map_map,List.mem_append,List.mem_map,List.mem_cons,List.not_mem_nil,or_false,List.map_cons,List.map_nil,Function.comp]at hv
 rcases hv with((⟨t,ht,rfl⟩|⟨t,ht,rfl⟩)|rfl)|rfl|rfl
 ·exact⟨t,false,rfl,hts t ht⟩
 ·exact⟨t,false,rfl,(FU t ht).up (by omega)⟩
 ·exact⟨d,false,rfl,hd⟩
 ·exact⟨_,true,rfl,h3⟩
 ·exact⟨d,true,rfl,hd⟩
noncomputable def vl:Ss:=(.cons (.ife (.not (.call .lRight (.cons (.loc 6) (.cons (.loc 8) .nil)))) (.cons (.ret (.bool false)) .nil) .nil) .nil)
noncomputable def fT (Φ:ci) (W:Nat) (is:List Nat) (s:Ss):V→St→R Fl:=fun v σ=>match v with
 | .tup vs=>if vs.length=is.length then cW (dP Φ (is.map Mine.T.loc) vs σ) fun _ σ=>bF Φ W s σ else none
 |_=>none
theorem Fq {σ ah:St} {is:List Nat} {it:E} {s:Ss} {src:V} {items:List V} {r:R Fl} (hi:EV Φ σ it src ah) (hs:bW ah.hp src=some items) (hl:items.length<10000) (h:hZ src items (fT Φ W is s) items ah=r):eS Φ W (.forT is it s) σ=r:=
 (aA hi).trans ((lk hs).trans ((if_pos hl).trans h))
theorem Ck {R S:Nat} {x3 x4 x5 x7:Option V} {rows:List V} (hW:10002<W) (hn:453≤n):∀(us:List V) (H:List O) (x6 x8:Option V),(∀v∈us,EO v)→H[R]? =some (.list rows)→
  ∃H' x6' x8',hZ (.ref R) rows (fT (ay W (n+4)) W [6,8] vl) us ⟨mr S Pc T x3 x4 x5 x6 x7 x8,H⟩=okR .next ⟨mr S Pc T x3 x4 x5 x6' x7 x8',H'⟩
 |[],H,x6,x8,_,_=>⟨H,x6,x8,jo⟩
 |u::us,H,x6,x8,hu,hR=>by
  obtain⟨t,b,rfl,ht⟩:=hu u (.head _)
  have hl:=ht.1
  obtain⟨Hf,e⟩:=vo (W:=W) (n:=n) (H:=H) (b:=b) hW (by omega) ht.bad (by omega)
  have kp:=yY e (fun k=>⟨trivial,trivial,trivial⟩)
  have hR1:Hf[R]? =some (.list rows):=by rw[kp.2 R (bD hR)];exact hR
  obtain⟨H',x6',x8',r⟩:=Ck (S:=S) hW hn us Hf (some (.str t)) (some (.bool b)) (fun v hv=>hu v (.tail _ hv)) hR1
  refine⟨H',x6',x8',io (ah:=⟨mr S Pc T x3 x4 x5 (some (.str t)) x7 (some (.bool b)),Hf⟩) ?_ (aE hR1) r⟩
  show cW (dP (ay W (n+4)) [Mine.T.loc 6,Mine.T.loc 8] [.str t,.bool b] ⟨mr S Pc T x3 x4 x5 x6 x7 x8,H⟩) (fun _ σ=>bF (ay W (n+4)) W vl σ)=_
  rw[cn (show(6:Nat)<9 by decide) (show(8:Nat)<9 by decide)]
  have as:aq (ay W (n+4)) ⟨mr S Pc T x3 x4 x5 (some (.str t)) x7 (some (.bool b)),H⟩ (.cons (.loc 6) (.cons (.loc 8) .nil)) [.str t,.bool b] ⟨mr S Pc T x3 x4 x5 (some (.str t)) x7 (some (.bool b)),H⟩:=aq.cons (EV.loc rfl) (aq.one (EV.loc rfl))
  exact show bF (ay W (n+4)) W vl ⟨mr S Pc T x3 x4 x5 (some (.str t)) x7 (some (.bool b)),H⟩=_ from ao (av (EV.not (EV.call as e)) aw)
theorem zB {S:Nat} (hW:10002<W) (hn:453≤n) (h:LH H S Pc T xs tf 90):∃lo' H',bF (ay W (n+4)) W pz ⟨mr S Pc T none none none none none none,H⟩=okR (.ret (.bool true)) ⟨lo',H'⟩:=by
 have e1:=EV.sltL (Φ:=ay W (n+4)) (σ:=⟨mr S Pc T none none none none none none,H⟩) (q:=6) (EV.loc (i:=0) rfl) EV.int (aE h.s) ⟨by simpa using h.xl,by decide⟩
 have hp:∀{L:List O},LH (H++L) S Pc T xs tf 90:=⟨bM h.s,bM h.p,bM h.t,h.tl,h.tk,h.sT,h.pT,h.xl⟩
 have tk6:(xs.map V.int).take (6:Int).toNat=(xs.take 6).map V.int:=List.map_take.symm
 rw[tk6]at e1
 have l6:(xs.take 6).length≤6:=by simp;omega
 obtain⟨H1,ts,x3,x4,h1,f1⟩:=Ce (W:=W) (n:=n+3) (S6:=H.length) (items:=(xs.take 6).map V.int) (xs.take 6) (H++[.list ((xs.take 6).map V.int)]) tf 90 none none hp (by omega) (by have:=bD h.t;omega) (by simp)
 have t1:∀t∈ts,hM 110 t:=fun t ht=>(h1.tk t ht).up (by omega)
 obtain⟨H2,d,hd,e2⟩:=Am (Φ:=ay W (n+4)) h1 (x3:=x3) (x4:=x4)
 obtain⟨H3,R,rows,e3,hR,hl,hr⟩:=DZ (W:=W) (n:=n+3) (H:=H1++H2) (lo:=mr S Pc T x3 x4 (some (.str d)) none none none) (hd.up (by omega)) t1 h1.tl rfl rfl (bM h1.t)
 obtain⟨H4,x6,x8,f2⟩:=Ck (W:=W) (n:=n) (S:=S) (Pc:=Pc) (T:=T) (x3:=x3) (x4:=x4) (x5:=some (.str d)) (x7:=some (.ref R)) hW hn rows H3 none none hr hR
 refine⟨mr S Pc T x3 x4 (some (.str d)) x6 (some (.ref R)) x8,H4,aa (mS e1 bO (by simp;omega) f1) (aa (aV e2 (show(5:Nat)<9 by decide)) (aa (aV e3 (show(7:Nat)<9 by decide)) (aa ?_ (ak (aK EV.bool)))))⟩
 have e4:eE (ay W (n+4)) (.loc 7) ⟨mr S Pc T x3 x4 (some (.str d)) none (some (.ref R)) none,H3⟩=okR (.ref R) ⟨mr S Pc T x3 x4 (some (.str d)) none (some (.ref R)) none,H3⟩:=EV.loc rfl
 have hs:bW H3 (.ref R)=some rows:=aE hR
 exact Fq e4 hs hl f2
end
end Mine
end
section
namespace Mine
open PySem PyProof.Rows
section
variable {ae:Program} {w:World} {ac:Heap} {env:Env} {l:List Env} {ids:List Addr} {σ:St} {h h':Heap} {mg mb:Str→Option Value} {fa:Fn→Addr} {C fI fE ec:Addr}
theorem c6.cell {i:Nat} {id:Str} {c:Addr} {v:V} {val:Value} {v0:Option Value} (S:c6 ae w ac env l ids σ h) (hone:∀(j:Nat) (id:Str) (k:NameKind),env.scope.names[j]? =some (id,k)→k=.cell∨k=.free→j=i)
  (hi:env.scope.names[i]? =some (id,.cell)) (hc:env.cells.lookup id=some c) (low:ac.get? c=none) (old:h.IsCell c v0) (new:h'.IsCell c (some val)) (k:Heap.SameBut c h h') (r:bL h ids val v):
  c6 ae w ac env l ids {σ with loc:=setL σ.loc i v} h':=by
 have b:tC c h h':=fun b o hb e=>(k.2 b hb).trans e
 have tup:∀items n,h.get? c≠some (kW items n):=fun items n e=>by
  obtain⟨o,e',d⟩:=old
  rw[e]at e';cases e';cases d
 have out:c∉ids:=S.hp.noCell old
 refine⟨⟨S.hp.len,S.hp.nodup,fun j a o e1 e2=>?_,S.hp.above,fun a o e=>b a o (fun q=>by rw[q,low]at e;cases e) (S.hp.base a o e),S.hp.sys⟩,fun e he=>?_,S.lo.out,?_,fun j jd kd u e1 e2 e3=>?_⟩
 ·have ha:a≠c:=fun q=>out (q▸List.mem_of_getElem? e1)
  have:=S.hp.obj j a o e1 e2
  cases o with
  |list vs=>
   obtain⟨items,n,e,r⟩:=this
   exact⟨items,n,b _ _ ha e,r.but b tup⟩
  |dict es=>
   obtain⟨kvs,⟨o,en,ep,e,z⟩,r⟩:=this
   exact⟨kvs,⟨o,en,ep,b _ _ ha e,z⟩,r.but b tup⟩
 ·obtain⟨kk,L,o,es,n,h1,h2,h3,h4,h5⟩:=S.fr e he
  refine⟨kk,L,o,es,n,h1,h2,h3,b L o (fun q=>?_) h4,h5⟩
  obtain⟨o',e',d⟩:=old
  subst q
  rw[h4]at e';cases e';rw[d]at h5;cases h5
 ·obtain⟨m,hn,q⟩:=S.lo.ns
  obtain⟨o,es,ep,e,d,z⟩:=hn
  have hL:env.locals≠c:=fun q=>by
   obtain⟨o',e',d'⟩:=old
   subst q
   rw[e]at e';cases e';rw[d]at d';cases d'
  refine⟨m,⟨o,es,ep,b _ _ hL e,d,z⟩,fun j jd u e1 e2=>?_⟩
  have hj:i≠j:=fun q=>by subst q;rw[hi]at e1;cases e1
  rw[setL,List.getElem?_set_ne hj]at e2
  obtain⟨x,h1,h2⟩:=q j jd u e1 e2
  exact⟨x,h1,h2.but b tup⟩
 ·obtain rfl:=hone j jd kd e1 e2
  rw[hi]at e1;cases e1
  have hlt:j<σ.loc.length:=by have:=(List.getElem?_eq_some_iff.mp e3).1;simpa [setL] using this
  rw[setL,List.getElem?_set_self hlt]at e3
  cases e3
  exact⟨c,val,hc,new,r.but b tup⟩
theorem nZ {ids:List Addr}:∀{items:List Value} {xs:List Int},IntsAre items xs→bo h ids items (xs.map .int)
 |_,_,.nil=>.nil
 |_,_,.cons n t r=>.cons (.int n t) (nZ r)
noncomputable def GR:E:=.tup (.cons (.call .lPieces .nil) (.cons (.call .lScripts .nil) .nil))
theorem HY {W n:Nat} {lo:List (Option V)} {H:List O}:EV (ay W (n+1)) ⟨lo,H⟩ GR (.tup [.ref H.length,.ref (H++[O.list (jh.map .str)]).length]) ⟨lo,H++[.list (jh.map .str)]++[.list (tf.map .str)]⟩:=
 EV.tup (aq.cons (EV.call aq.nil uw) (aq.one (EV.call aq.nil tr)))
theorem vK {n:Nat} (h:n≤690):Fw callerA [] (n+1):=⟨rfl,rfl,by show 1+claimMargin+(n+1)+3<recursionLimit;unfold claimMargin recursionLimit;omega,by show 4+3*(n+1)+ji+10<cLine;unfold ji cLine;omega⟩
theorem um:∀(r:List (Str×NameKind)) (n:Nat) (acc:List (Str×Addr)),(∀x∈r,x.2≠ .cell)→cellsFrom n r acc=acc
 |[],_,_,_=>rfl
 |(a,k)::r,n,acc,h=>by
  have hk:k≠ .cell:=h (a,k) (.head _)
  have:(k== .cell)=false:=by cases k<;>first|rfl|exact absurd rfl hk
  simp only[cellsFrom,this,Bool.false_eq_true,if_false]
  exact um r n acc fun x hx=>h x (.tail _ hx)
noncomputable def Cg:List (Option V):=List.replicate 9 none
noncomputable def Hl:List (Option V):=[some (.ref 0),none,none,none,none,none,none,none,none]
theorem qZ {i:Nat} {v:V} (e:Cg[i]? =some (some v)):False:=by
 unfold Cg at e
 rw[List.getElem?_replicate]at e
 split at e<;>cases e
theorem mx {F M:List Addr} {c:Addr} {v:Option Value} (hc:h.IsCell c v) (x:gh F M h h') (h1:c∉M) (h2:c∉F):h'.IsCell c v:=by
 obtain⟨o,e,d⟩:=hc
 exact⟨o,x.exact c o h1 h2 e (.inl fun vs q=>by rw[d]at q;cases q),d⟩
section
variable {A:Around} {X:List Addr→Heap→Value→Ch→Prop} {Q:Flow→Shared→Prop} {E:Value→Shared→Prop} {s:Shared} {c S:Addr}
theorem CJ {Φ:ci} {n0:Str} {k:Expr} {p1 p2 p3 p4 p5:Pos} {tl:List Stmt} {m:Str→Option Value} {items:List Value} {xs:List Int} (Cx:gb ac A env mg mb fa) (hC:dO ae w ac A [env] fa Φ X) (S0:c6 ae w ac env [env] [] ⟨Cg,[]⟩ s.heap)
  (hns:s.heap.Ns env.locals m) (hb0:m n0=some (.ref S)) (k0:bN env.scope 0 n0=true) (kd0:env.scope.names.lookup n0=some .local) (hk:bw env.scope (.int 63) k=true) (hL:ac.IsList S items.toArray) (hI:IntsAre items xs) (hx:xs.length≤63)
  (cell:s.heap.IsCell c none) (cL:c≠env.locals) (cF:c∉frs [env])
  (next:∀tB h5 tk5,c6 ae w ac env [env] tB ⟨Hl,[.list (xs.map .int)]⟩ h5→h5.IsCell c none→wpAny (model ae w) A (execs tl env) Q E {s with heap:=h5,toks:=tk5}):
  wpAny (model ae w) A (execs (.Assign [.Name n0 p1] (.Subscript (.Name n0 p2) (.Slice none (some k) none p3) p4) p5::tl) env) Q E s:=by
 have l0:=k0
 unfold bN at l0
 simp only[Bool.and_eq_true,Bool.not_eq_true']at l0
 refine wpAny_execs_cons (wpAny_Assign_Name (Subscript_ (wpAny_Name (wpAny_loadName_local Cx.kind kd0 hns hb0 ?_) l0.2)) (dJ rfl _ _ _))
 refine wpAny_Slice ?_
 rw[evalPart_none]
 refine wpAny_pure ((hV hC (.int 63) env Cx _ hk).1 ⟨Cg,[]⟩ [] _ _ _ S0 (show KV _ _ _ _ _ _ _ _ _ _ from fun val aI h2 tk2 st2 S2 r2=>?_))
 refine wpAny_pure ?_
 cases r2 with
 |int _ ti=>
  have g:=cg.push h2 {cls:=.type "slice",data:=.fields #[.none,.int 63 ti,.none]}
  have S3:=S2.grow g
  obtain⟨lo,le,lc,ln,ld⟩:=hL
  have le3:=S3.hp.base _ _ le
  have hlen:items.length=xs.length:=((nZ (h:=h2) (ids:=[]) hI).length).trans (List.length_map _)
  have h63:items.length≤63:=hlen▸hx
  refine tail_any (T:="list") ⟨_,le3,lc⟩ slot_list_getitem.lookup (wpAny_getItem_list_slice ⟨_,le3,lc,ln,ld⟩ (Heap.IsSliceOf.new ..) .none (.int 63 ti) .none (by simp) ?_ (by rw[sizeLine_eq];simp;omega)) rfl
  rw[pE (by decide)]
  have g2:=cg.push (h2.push {cls:=.type "slice",data:=.fields #[.none,.int 63 ti,.none]}) {cls:=.type "list",data:=.seq (items.toArray.toList.take (63:Int).toNat).toArray}
  have hid:aI=[]:=List.eq_nil_of_length_eq_zero (by rw[S2.hp.len];rfl)
  subst hid
  have S4:=S3.new (o:=.list (xs.map .int)) g2 (cb _) ⟨_,0,Heap.get?_push_size _ rfl,by
   have:items.toArray.toList.take (63:Int).toNat=items:=List.take_of_length_le h63
   simp only[this]
   exact nZ hI⟩
  have cell4:=(mx cell st2.keep List.not_mem_nil cF).keeps fun b o e=>g2.keep b o (g.keep b o e)
  exact dG Cx k0 S4 (v:=.ref 0) (.ref rfl) fun tB h5 tk5 st5 S5=>next tB h5 tk5 S5 (mx cell4 st5.keep (fun q=>(List.mem_cons.mp q).elim cL (S4.hp.noCell cell4)) cF)
theorem Da {n0 n1 n2:Str} {r:List (Str×NameKind)} {v:Expr} {p6 p7 p8 p9:Pos} {cc:Nat} {rest:List Stmt} {xs:List Int} (B:wI ac mg mb fa C fI fE ec) (Cx:gb ac A env mg mb fa) (hA:Fw A [env] 460) (hC:dO ae w ac A [env] fa (ay 10003 460) (XL ac C ec (frs [env]) env.locals))
  (S5:c6 ae w ac env [env] ids ⟨Hl,[.list (xs.map .int)]⟩ s.heap) (cell5:s.heap.IsCell c none) (cF:c∉frs [env]) (low:ac.get? c=none) (hfr:env.frame=some env.locals) (hLm:env.locals∈frs [env])
  (hn:env.scope.names=(n0,.local)::(n1,.cell)::(n2,.local)::r) (hr:∀x∈r,x.2≠ .cell∧x.2≠ .free) (cl:env.cells.lookup n1=some c) (kd1:env.scope.names.lookup n1=some .cell)
  (k2:bN env.scope 2 n2=true) (hv:bw env.scope GR v=true) (hnv:eR v=true) (hsw:ub env.scope [.Name n1 p6,.Name n2 p7] v=some none) (hrest:f8 env.scope pz rest=true) (hx:xs.length≤63)
  (fin:∀h' tk,ac.StaysIn h'→Q (.ret (.bool true)) {s with heap:=h',toks:=tk}):
  wpAny (model ae w) A (execs (.Assign [.Tuple [.Name n1 p6,.Name n2 p7] cc p8] v p9::rest) env) Q E s:=by
 refine wpAny_execs_cons ?_
 rw[exec_Assign_arm]
 refine wpAny_bind (wpAny_standAt ?_)
 refine wpAny_bind (wpAny_of_eq (a:=false) (show swapsWithSole [.Tuple [.Name n1 p6,.Name n2 p7] cc p8] v p9.line env=pure false from dJ hnv (some (.Tuple [.Name n1 p6,.Name n2 p7] cc p8)) p9.line env) ?_)
 rw[if_neg (by decide)]
 refine wpAny_bind ((hV hC GR env Cx _ hv).1 _ ids _ _ _ S5 ?_)
 rw[show eE (ay 10003 460) GR _=_ from HY]
 refine(show KV _ _ _ _ _ _ _ _ _ _ from fun val Fx h6 tk6 st6 S6 r6=>?_)
 cases r6 with
 |@tup a items6 n6 _ e6 rs6=>
  refine wpAny_bind (wpAny_of_eq (B1 Cx.kind hsw) ?_)
  dsimp only[assignStores]
  show wpAny _ _ (assign (.Tuple [.Name n1 p6,.Name n2 p7] cc p8) env (.ref a)>>= fun _=>pure Flow.next) _ _ _
  rw[arm_assign_Tuple]
  obtain⟨l6⟩:=items6
  cases rs6 with
  |@cons x1 _ _ _ q1 rs6=>
   cases rs6 with
   |@cons x2 _ _ _ q2 rs6=>
    cases rs6
    refine wpAny_bind (wpAny_bind (wpAny_standAt (wpAny_unpack_tuple Cx.hd ⟨_,e6,rfl,n6,rfl⟩ rfl rfl fun h7 eb=>?_)))
    have g7:cg h6 h7:=⟨fun b o eo=>eb b o (xi (.inl (Heap.lt_size eo))) eo⟩
    have S7:=S6.grow g7
    have cell7:=(mx cell5 st6.keep (S5.hp.noCell cell5) cF).keeps g7.keep
    have q1':=q1.step (F:=frs [env]) g7.step S6.noTup
    have q2':=q2.step (F:=frs [env]) g7.step S6.noTup
    have hone:∀(j:Nat) (id:Str) (k:NameKind),env.scope.names[j]? =some (id,k)→k=.cell∨k=.free→j=1:=fun j id k e hk=>by
     rw[hn]at e
     rcases j with _|_|_|j
     ·cases e;rcases hk with q|q<;>cases q
     ·rfl
     ·cases e;rcases hk with q|q<;>cases q
     ·have:=hr _ (List.mem_of_getElem? (show r[j]? =some (id,k) from e))
      exact(hk.elim this.1 this.2).elim
    refine wpAny_assignInOrder_more (wpAny_assign_Name (wpAny_storeName_cell Cx.kind kd1 cl cell7 fun h8 new8 sb8=>?_))
    have S8:=S7.cell hone (by rw[hn];rfl) cl low cell7 new8 sb8 q1'
    have q2'':bL h8 Fx x2 (.ref 2):=q2'.but (I:=c) (fun b o hb e=>(sb8.2 b hb).trans e) fun items n e=>by
     obtain⟨o,e',d⟩:=cell7
     rw[e]at e';cases e';cases d
    refine wpAny_assignInOrder_more (wpAny_assign_Name (dG Cx k2 S8 q2'' fun BB h9 tk9 st9 S9'=>wpAny_assignInOrder_none (wpAny_pure ?_)))
    have S9:c6 ae w ac env [env] BB ⟨mr 0 1 2 none none none none none none,[.list (xs.map .int),.list (jh.map .str),.list (tf.map .str)]⟩ h9:=S9'
    obtain⟨lo',H',ev⟩:=zB (W:=10003) (n:=456) (S:=0) (Pc:=1) (T:=2) (H:=[.list (xs.map .int),.list (jh.map .str),.list (tf.map .str)]) (xs:=xs) (by decide) (by decide)
     ⟨rfl,rfl,rfl,Eu,Gp,by decide,by decide,by omega⟩
    refine EL (W:=10003) Cx hC hLm (u7 hA.fr hfr) (uP B.exc Cx (by have:=hA.depth;omega) _) (zX B.exc Cx hA.fr hfr hLm) pz _ hrest _ BB _ _ _ S9 ?_
    rw[ev]
    refine(show KF _ _ _ _ _ _ _ _ _ _ from fun fl ids' h' tk' st' S' fr=>?_)
    cases fr with
    |ret r=>
     cases r
     exact fin h' tk' S'.1.base
end
theorem zO {S f:Addr} {o:Obj} {fd:FuncData} {n0 n1 n2:Str} {r:List (Str×NameKind)} {k v:Expr} {p1 p2 p3 p4 p5 p6 p7 p8 p9:Pos} {c:Nat} {rest:List Stmt} {s:Shared} {sc:Scope} {items:List Value} {xs:List Int} {R:Result→Shared→Prop}
  (B:wI s.heap mg mb fa C fI fE ec) (sys:∃o,s.heap.get? sysModules=some o) (ho:s.heap.get? f=some o) (hd:o.data=.func fd) (hcd:s.heap.CodeRec fd.code fd.qualname)
  (hb:fd.body=.stmts (.Assign [.Name n0 p1] (.Subscript (.Name n0 p2) (.Slice none (some k) none p3) p4) p5::.Assign [.Tuple [.Name n1 p6,.Name n2 p7] c p8] v p9::rest))
  (hbind:bindArgs fd ⟨[.ref S],[]⟩=pure [(n0,.ref S)]) (hclo:fd.closure=[]) (hgl:fd.globals=mainGlobals) (hbl:fd.builtins=builtinsNs)
  (hsc:fd.scope=sc)
  (hn:sc.names=(n0,.local)::(n1,.cell)::(n2,.local)::r) (hr:∀x∈r,x.2≠ .cell∧x.2≠ .free) (nd:(sc.names.map (·.1)).Nodup)
  (k0:bN sc 0 n0=true) (k2:bN sc 2 n2=true) (hk:bw sc (.int 63) k=true) (hv:bw sc GR v=true) (hnv:eR v=true) (hsw:ub sc [.Name n1 p6,.Name n2 p7] v=some none) (hrest:f8 sc pz rest=true)
  (hco:sc.isCoroutine=false) (hgen:sc.isGenerator=false) (hkd:sc.kind=.function)
  (hL:s.heap.IsList S items.toArray) (hI:IntsAre items xs) (hx:xs.length≤63)
  (fin:∀h' tk,s.heap.StaysIn h'→R (.ok (.ret (.bool true))) {s with heap:=h',toks:=tk}):
  codeAny (model ae w) callerA (.call (.ref f) ⟨[.ref S],[]⟩) R s:=by
 subst hsc
 have kd0:fd.scope.names.lookup n0=some .local:=dg nd (i:=0) (by rw[hn];rfl)
 have kd1:fd.scope.names.lookup n1=some .cell:=dg nd (i:=1) (by rw[hn];rfl)
 have hA:=(vK (n:=460) (by decide)).deeper (callEnvC fd s.heap.objs.size f)
 refine codeAny_call_cells (fd:=fd) (binds:=[(n0,.ref S)]) (by decide) ho hd B.exc.nolimit hcd hb hbind hclo (fun x hx=>.inl ?_) (fun rY X=>?_) hco hgen hkd
 ·simp only[List.mem_cons,List.not_mem_nil,or_false]at hx
  subst hx
  exact kd0
 obtain⟨au,tk,rfl,keep⟩:=X.done
 have hns:=X.toInCall.ns
 have hb0:bindL (callEnvC fd s.heap.objs.size f).kindOf [(n0,.ref S)] (fun _=>none) n0=some (.ref S):=by
  show(if fd.scope.names.lookup n0=some .local then fun y=>if y=n0 then some (Value.ref S)else none else fun _=>none) n0=_
  rw[if_pos kd0];simp
 generalize bindL (callEnvC fd s.heap.objs.size f).kindOf [(n0,.ref S)] (fun _=>none)=m at hns hb0
 have cl:(callEnvC fd s.heap.objs.size f).cells.lookup n1=some (s.heap.objs.size+1):=by
  show(cellsFrom (s.heap.objs.size+1) fd.scope.names []).lookup n1=_
  rw[hn]
  simp only[cellsFrom,show(NameKind.local==NameKind.cell)=false by decide,show(NameKind.cell==NameKind.cell)=true by decide,if_true,Bool.false_eq_true,if_false]
  rw[um r _ _ fun x hx=>(hr x hx).1]
  simp
 have hcell:=X.cell n1 _ cl
 have hc0:bindC (callEnvC fd s.heap.objs.size f).kindOf [(n0,.ref S)] (fun _=>none) n1=none:=by
  show(if fd.scope.names.lookup n0=some .local then fun _=>none else fun y=>if y=n0 then some (Value.ref S)else none) n1=_
  rw[if_pos kd0]
 rw[hc0]at hcell
 have d7:∀{a:Addr},s.heap.objs.size≤a→s.heap.get? a=none:=fun {a} ha=>by
  cases z:s.heap.get? a with
  |none=>rfl
  |some o=>exact absurd (Heap.lt_size z) (Nat.not_lt.mpr ha)
 have e1:(callEnvC fd s.heap.objs.size f).scope=fd.scope:=rfl
 have e2:(callEnvC fd s.heap.objs.size f).locals=s.heap.objs.size:=rfl
 have e3:(callEnvC fd s.heap.objs.size f).globals=mainGlobals:=hgl
 have e4:(callEnvC fd s.heap.objs.size f).builtins=builtinsNs:=hbl
 have e5:(callEnvC fd s.heap.objs.size f).frame=some s.heap.objs.size:=rfl
 clear X
 generalize callEnvC fd s.heap.objs.size f=env at*
 have hfr:env.frame=some env.locals:=by rw[e5,e2]
 have hLm:env.locals∈frs [env]:=List.mem_filterMap.mpr ⟨env,.head _,hfr⟩
 have Cx:gb s.heap (callerA.deeper env) env mg mb fa:=B.ctx hA (by rw[e1];exact hkd) (by rw[e1];exact nd) (by rw[e2];exact d7 (Nat.le_refl _)) e3 e4
 have hC:dO ae w s.heap (callerA.deeper env) [env] fa (ay 10003 460) (XL s.heap C ec (frs [env]) env.locals):=(xu B 10003 460 _ _ hA).mono fun _ _ _ _=>XO.l
 have S0:c6 ae w s.heap env [env] [] ⟨Cg,[]⟩ au:=by
  refine⟨⟨rfl,List.nodup_nil,fun i a o e=>by simp at e,fun a ha=>by simp at ha,keep,sys⟩,fun e he=>?_,by simp,⟨m,hns,fun i id v _ e=>(qZ e).elim⟩,fun i id k v _ _ e=>(qZ e).elim⟩
  obtain rfl:=List.mem_singleton.mp he
  obtain⟨o,es,ep,q1,q2,_⟩:=hns
  exact⟨by rw[e1,hkd];decide,_,o,es,ep,e5,d7 (Nat.le_refl _),by simp,e2▸q1,q2⟩
 have cF:s.heap.objs.size+1∉frs [env]:=fun q=>by
  obtain⟨e,he,q'⟩:=List.mem_filterMap.mp q
  rw[List.mem_singleton.mp he,e5]at q'
  exact absurd (Option.some.inj q') (Nat.ne_of_lt (Nat.lt_succ_self _))
 have cL:s.heap.objs.size+1≠env.locals:=by rw[e2];exact Nat.ne_of_gt (Nat.lt_succ_self _)
 exact CJ Cx hC S0 hns hb0 (by rw[e1];exact k0) (by rw[e1];exact kd0) (by rw[e1];exact hk) hL hI hx hcell cL cF fun tB h5 tk5 S5 c5=>
  Da B Cx hA hC S5 c5 cF (d7 (Nat.le_succ _)) hfr hLm (by rw[e1];exact hn) hr cl (by rw[e1];exact kd1) (by rw[e1];exact k2) (by rw[e1];exact hv) hnv (by rw[e1];exact hsw) (by rw[e1];exact hrest) hx fin
theorem vY {S f:Addr} {o:Obj} {d:DefRec} {pm cd doc:Value} {n0 n1 n2:Str} {r:List (Str×NameKind)} {k v:Expr} {p1 p2 p3 p4 p5 p6 p7 p8 p9:Pos} {c:Nat} {rest:List Stmt} {s:Shared} {items:List Value} {xs:List Int} {R:Result→Shared→Prop}
  (B:wI s.heap mg mb fa C fI fE ec) (sys:∃o,s.heap.get? sysModules=some o) (ho:s.heap.get? f=some o) (hd:o.data=.func {Calls.docDef d.name d.params d.body d.scope pm cd doc with defaults:=.none,kwdefaults:=.none}) (hcd:s.heap.CodeRec cd d.name)
  (hb:d.body=(.Assign [.Name n0 p1] (.Subscript (.Name n0 p2) (.Slice none (some k) none p3) p4) p5::.Assign [.Tuple [.Name n1 p6,.Name n2 p7] c p8] v p9::rest))
  (hbind:bindArgs {Calls.docDef d.name d.params d.body d.scope pm cd doc with defaults:=.none,kwdefaults:=.none} ⟨[.ref S],[]⟩=pure [(n0,.ref S)])
  (hn:d.scope.names=(n0,.local)::(n1,.cell)::(n2,.local)::r) (hr:∀x∈r,x.2≠ .cell∧x.2≠ .free) (nd:(d.scope.names.map (·.1)).Nodup)
  (k0:bN d.scope 0 n0=true) (k2:bN d.scope 2 n2=true) (hk:bw d.scope (.int 63) k=true) (hv:bw d.scope GR v=true) (hnv:eR v=true) (hsw:ub d.scope [.Name n1 p6,.Name n2 p7] v=some none) (hrest:f8 d.scope pz rest=true)
  (hco:d.scope.isCoroutine=false) (hgen:d.scope.isGenerator=false) (hkd:d.scope.kind=.function)
  (hL:s.heap.IsList S items.toArray) (hI:IntsAre items xs) (hx:xs.length≤63)
  (fin:∀h' tk,s.heap.StaysIn h'→R (.ok (.ret (.bool true))) {s with heap:=h',toks:=tk}):
  codeAny (model ae w) callerA (.call (.ref f) ⟨[.ref S],[]⟩) R s:=
 zO (fd:={Calls.docDef d.name d.params d.body d.scope pm cd doc with defaults:=.none,kwdefaults:=.none}) B sys ho hd hcd (congrArg _ hb) hbind rfl rfl rfl rfl hn hr nd k0 k2 hk hv hnv hsw hrest hco hgen hkd hL hI hx fin
end
end Mine
end
end
open PySem PySem.W PyProof.Rows
open Mine
set_option maxHeartbeats 4000000 in
theorem PySem.Challenge.cw_oj0052_01_holds : PySem.Challenge.rw_oj0052_01.Holds := by
 refine holds_law (by decide +kernel) fun said=>?_
 refine holds_open (q:=q) (loose:=lz) (Xt:=fun s=>xlAt q [] s&&recOk (RowW.records PySem.Challenge.rw_oj0052_01.row.toRowW) s) (XP:=PySem.W.XL q []) (Yf:=Hook.obs wA) (Ya:=Hook.val wA) (YP:=Hook.says wA) (N:=3426) hl (Hook.of wA) (Hook.keeps wA) (fun s e=>xl_of s (Bool.and_eq_true_iff.mp e).1) XL.keeps (by rfl) (by rfl) (by rfl) (fun s e=>recFacts_of (Bool.and_eq_true_iff.mp e).2) (by rfl) (by decide +kernel) (by decide +kernel) ⟨rfl,rfl,rfl,rfl,rfl,by decide +kernel⟩ ?hw ?hc
 case hw=>w_witness2
 case hc=>
  intro w Js rY mg mb G Y fa o pm cd doc dV kV ho hd hcd hD hmg hg args vals as hpre hlay hrd hwl hlo
  obtain⟨mg',mb',fn',C,fI,fE,ec, -, -,hB⟩:=Y
  have B:=hB rY.heap (fun _ _ e=>e) G.T.nolimit
  have sys:∃o,rY.heap.get? sysModules=some o:=by
   obtain⟨mm,⟨o,_,_,e,_⟩,_⟩:=(G.T.seer (by decide +kernel)).mods
   exact⟨o,e⟩
  obtain⟨pos,kw⟩:=hD
  clear G hmg hB
  obtain⟨-,rfl⟩|⟨h, -⟩:=pos
  case inr=>exact(h rfl).elim
  obtain⟨-,rfl⟩|⟨h, -⟩:=kw
  case inr=>exact(h rfl).elim
  wrow_args hpre hlay hrd hwl hlo
  refine enter_call ?_
  refine vY B sys ho hd hcd rfl rfl rfl (by decide) (by decide +kernel) (by decide) (by decide) (by decide +kernel) (by decide +kernel) rfl rfl (by decide +kernel) rfl rfl rfl (by assumption) (by assumption) (by omega) fun h' tk st=>?_
  exact⟨.inl ⟨_,ofPy (.bool true),[],rfl,fun _=>rfl,.bool true,by wrow_post,fun _=>⟨List.nodup_nil,by simp⟩⟩,.of_keep st,rfl,.of_eq hg⟩
