import PyProof.Rows.All
import Wide.All
import OpenK.AllK
import Wide.FinOn
import Lean
import PySem.Challenge.RW_nt0452_01
set_option Elab.async false
set_option linter.all false
set_option compiler.extract_closed false
set_option maxRecDepth 100000
set_option maxHeartbeats 4000000
set_option tactic.hygienic false
set_option genSizeOf false
namespace Mob
open PySem (Builtin)
noncomputable def gen {α:Type} (i:Nonempty α) (P:α->Prop):α := @Classical.epsilon α i fun x=>¬ P x
theorem gen_s {α:Type} {i:Nonempty α} {P:α->Prop} (h:P (gen i P)):∀ x,P x:=fun x=>Classical.byContradiction fun n=>Classical.epsilon_spec (p:=fun x=>¬ P x) ⟨x,n⟩ h
noncomputable def gen2 {α β:Type} (i:Nonempty α) (j:Nonempty β) (P:α->β->Prop):α × β:=gen ⟨Classical.choice i,Classical.choice j⟩ fun p=>P p.1 p.2
noncomputable def gen4 {α β γ δ:Type} (i:Nonempty α) (j:Nonempty β) (k:Nonempty γ) (l:Nonempty δ) (P:α->β->γ->δ->Prop):α × β × γ × δ:=gen ⟨Classical.choice i,Classical.choice j,Classical.choice k,Classical.choice l⟩ fun p=>P p.1 p.2.1 p.2.2.1 p.2.2.2
noncomputable def gen8 {α β γ δ α' β' γ' δ':Type} (i:Nonempty α) (j:Nonempty β) (k:Nonempty γ) (l:Nonempty δ) (i':Nonempty α') (j':Nonempty β') (k':Nonempty γ') (l':Nonempty δ') (P:α->β->γ->δ->α'->β'->γ'->δ'->Prop):α × β × γ × δ × α' × β' × γ' × δ' :=
 gen ⟨Classical.choice i,Classical.choice j,Classical.choice k,Classical.choice l,Classical.choice i',Classical.choice j',Classical.choice k',Classical.choice l'⟩ fun p=>P p.1 p.2.1 p.2.2.1 p.2.2.2.1 p.2.2.2.2.1 p.2.2.2.2.2.1 p.2.2.2.2.2.2.1 p.2.2.2.2.2.2.2
theorem eps1 {α:Type} {i:Nonempty α} {P:α->Prop} (h:P (gen i P)):∀ x,P x:=gen_s h
theorem eps2 {α β:Type} {i:Nonempty α} {j:Nonempty β} {P:α->β->Prop} (h:P (gen2 i j P).1 (gen2 i j P).2):∀ x y,P x y:=fun x y=>gen_s (P:=fun p=>P p.1 p.2) h (x,y)
theorem eps4 {α β γ δ:Type} {i:Nonempty α} {j:Nonempty β} {k:Nonempty γ} {l:Nonempty δ} {P:α->β->γ->δ->Prop} (h:P (gen4 i j k l P).1 (gen4 i j k l P).2.1 (gen4 i j k l P).2.2.1 (gen4 i j k l P).2.2.2):∀ x y z u,P x y z u:=fun x y z u=>gen_s (P:=fun p=>P p.1 p.2.1 p.2.2.1 p.2.2.2) h (x,y,z,u)
theorem eps8 {α β γ δ α' β' γ' δ':Type} {i:Nonempty α} {j:Nonempty β} {k:Nonempty γ} {l:Nonempty δ} {i':Nonempty α'} {j':Nonempty β'} {k':Nonempty γ'} {l':Nonempty δ'} {P:α->β->γ->δ->α'->β'->γ'->δ'->Prop}
  (h:P (gen8 i j k l i' j' k' l' P).1 (gen8 i j k l i' j' k' l' P).2.1 (gen8 i j k l i' j' k' l' P).2.2.1 (gen8 i j k l i' j' k' l' P).2.2.2.1 (gen8 i j k l i' j' k' l' P).2.2.2.2.1 (gen8 i j k l i' j' k' l' P).2.2.2.2.2.1 (gen8 i j k l i' j' k' l' P).2.2.2.2.2.2.1 (gen8 i j k l i' j' k' l' P).2.2.2.2.2.2.2):∀ x y z u x' y' z' u',P x y z u x' y' z' u' :=
 fun x y z u x' y' z' u'=>gen_s (P:=fun p=>P p.1 p.2.1 p.2.2.1 p.2.2.2.1 p.2.2.2.2.1 p.2.2.2.2.2.1 p.2.2.2.2.2.2.1 p.2.2.2.2.2.2.2) h (x,y,z,u,x',y',z',u')
inductive A where
 | none | int (i:Int) | ref (a:Nat)
 deriving DecidableEq,Inhabited
inductive V where
 | undef | none | bool (b:Bool) | int (i:Int) | ref (a:Nat) | tup (xs:List A) | rng (lo hi st:Int)
 deriving DecidableEq,Inhabited
inductive O where
 | list (fz:Bool) (xs:List V) | inst (c:Nat) (fs:List (Nat × V))
 deriving Inhabited
abbrev H:=List O
inductive Op where
 | add | sub | mul | fdiv | mod | band | bor | bxor | shl | shr
inductive Cm where
 | eq | ne | lt | le | gt | ge | inn | nin
inductive Bi where
 | len | range | min | max | abs | list
inductive Me where
 | append | index | count
set_option genCtorIdx false
set_option genInjectivity false
mutual
inductive E where
 | var (i:Nat) | glob (k:Nat) | int (i:Int) | bool (b:Bool) | none
 | bin (op:Op) (a b:E)
 | neg (a:E) | inv (a:E) | not (a:E)
 | cmp (op:Cm) (a b:E)
 | cmp2 (op op':Cm) (a b c:E)
 | and (es:Es) | or (es:Es)
 | ife (t a b:E)
 | attr (e:E) (f:Nat)
 | sub (e i:E)
 | slice (e lo:E) | slice2 (e lo hi:E)
 | list (es:Es) | tup (es:Es)
 | call (f:Nat) (es:Es)
 | new (c:Nat) (es:Es)
 | bi (b:Bi) (es:Es)
 | meth (m:Me) (o x:E)
 | comp (elt:E) (ts:List Nat) (it:E) (ifs:Es) (rest:Gs)
inductive Es where
 | nil | cons (e:E) (es:Es)
inductive Gs where
 | nil | cons (ts:List Nat) (it:E) (ifs:Es) (rest:Gs)
end
mutual
inductive S where
 | asg (i:Nat) (e:E)
 | asgT (is:List Nat) (e:E)
 | setA (o:E) (f:Nat) (e:E)
 | setI (o i e:E)
 | augV (i:Nat) (op:Op) (e:E)
 | augA (o:E) (f:Nat) (op:Op) (e:E)
 | augI (o i:E) (op:Op) (e:E)
 | expr (e:E)
 | ite (t:E) (a b:Ss)
 | whl (t:E) (b:Ss)
 | for_ (ts:List Nat) (e:E) (b:Ss)
 | ret (e:E)
 | brk | cont | fail
inductive Ss where
 | nil | cons (s:S) (ss:Ss)
end
set_option genInjectivity true
set_option genCtorIdx true
inductive Fl where
 | next | brk | cont | ret (v:V)
 deriving Inhabited
theorem ne_sh:Nonempty PySem.Shared:=⟨{}⟩
theorem ne_ar:Nonempty PySem.Around:=⟨{}⟩
theorem ne_w:Nonempty PySem.World:=⟨⟨fun _ _=>0,{ strHash:=fun _=>0,shareClass:=fun _=>0,mergeTok:=id,idOf:=fun _=>0,idOfShared:=fun _ _=>0,followText:=fun _=>true,idOfImm:=fun _=>0 }⟩⟩
theorem ne_E:Nonempty E:=⟨.none⟩
theorem ne_Es:Nonempty Es:=⟨.nil⟩
theorem ne_Gs:Nonempty Gs:=⟨.nil⟩
theorem ne_S:Nonempty S:=⟨.brk⟩
theorem ne_Ss:Nonempty Ss:=⟨.nil⟩
theorem ne_Op:Nonempty Op:=⟨.add⟩
theorem ne_Cm:Nonempty Cm:=⟨.eq⟩
theorem ne_Bi:Nonempty Bi:=⟨.len⟩
theorem ne_Me:Nonempty Me:=⟨.append⟩
theorem ne_md:Nonempty PySem.Model:=ne_w.elim fun w=>⟨PySem.model default w⟩
noncomputable def LIM:Nat:=1048576
noncomputable def WFUEL:Nat:=200
noncomputable def A.toV:A->V
 | .none => .none | .int i => .int i | .ref a => .ref a
noncomputable def V.toA:V->Option A
 | .none=>some .none | .int i=>some (.int i) | .ref a=>some (.ref a) | _=>Option.none
noncomputable def toAs:List V->Option (List A)
 | []=>some []
 | v::vs=>match v.toA,toAs vs with
  | some a,some as=>some (a::as)
  | _,_=>Option.none
noncomputable def V.toI:V->Option Int
 | .int i=>some i | _=>Option.none
noncomputable def toIs:List V->Option (List Int)
 | []=>some []
 | v::vs=>match v.toI,toIs vs with
  | some a,some as=>some (a::as)
  | _,_=>Option.none
noncomputable def A.toI:A->Option Int
 | .int i=>some i | _=>Option.none
noncomputable def atoIs:List A->Option (List Int)
 | []=>some []
 | v::vs=>match v.toI,atoIs vs with
  | some a,some as=>some (a::as)
  | _,_=>Option.none
noncomputable def binI:Op->Int->Int->Option Int
 | .add,a,b=>some (a+b)
 | .sub,a,b=>some (a - b)
 | .mul,a,b=>if a.natAbs<2^64 then some (a*b) else none
 | .fdiv,a,b=>if b≠0/\b.natAbs<1073741824 then some (a.fdiv b) else none
 | .mod,a,b=>if b≠0/\b.natAbs<1073741824 then some (a.fmod b) else none
 | .band,a,b=>some (PySem.Builtin.bitAnd a b)
 | .bor,a,b=>some (PySem.Builtin.bitOr a b)
 | .bxor,a,b=>some (PySem.Builtin.bitXor a b)
 | .shl,a,b=>if 0<=b/\b<=1000/\a.natAbs<2^64 then some (a*2^b.toNat) else none
 | .shr,a,b=>if 0<=b then some (a.fdiv (2^b.toNat)) else none
noncomputable def binV (op:Op) (v w:V) (σ:H):Option (V × H) :=
 match v,w with
 | .int a,.int b=>(binI op a b).map fun i=>(.int i,σ)
 | .ref a,.ref b=>match op,σ[a]?,σ[b]? with
  | .add,some (.list false xs),some (.list false ys)=>if xs.length+ys.length<=LIM then some (.ref σ.length,σ++[.list false (xs++ys)]) else none
  | _,_,_=>none
 | .ref a,.int n=>match op,σ[a]? with
  | .mul,some (.list false [x])=>if 0<=n/\n<=1000 then some (.ref σ.length,σ++[.list false (List.replicate n.toNat x)]) else none
  | _,_=>none
 | _,_=>none
noncomputable def augO (op:Op) (v w:V) (σ:H):Option (V × H) :=
 match v,w with
 | .int a,.int b=>(binI op a b).map fun i=>(.int i,σ)
 | .ref a,.ref b=>match op,σ[a]?,σ[b]? with
  | .add,some (.list false xs),some (.list false ys)=>if xs.length+ys.length<=LIM/\a≠b then some (.ref a,σ.set a (.list false (xs++ys))) else none
  | _,_,_=>none
 | _,_=>none
noncomputable def eqV (σ:H) (v w:V):Option Bool :=
 match v,w with
 | .int a,.int b=>some (a==b)
 | .ref a,.ref b=>match σ[a]?,σ[b]? with
  | some (.list _ xs),some (.list _ ys)=>match toIs xs,toIs ys with
   | some is,some js=>some (is==js)
   | _,_=>none
  | _,_=>none
 | .tup xs,.tup ys=>match atoIs xs,atoIs ys with
  | some is,some js=>some (is==js)
  | _,_=>none
 | _,_=>none
noncomputable def inV (σ:H) (v w:V):Option Bool :=
 match v,w with
 | .int a,.ref b=>match σ[b]? with
  | some (.list _ xs)=>(toIs xs).map fun is=>is.contains a
  | _=>none
 | _,_=>none
noncomputable def cmpV (op:Cm) (σ:H) (v w:V):Option Bool :=
 match op with
 | .eq=>eqV σ v w
 | .ne=>(eqV σ v w).map (!·)
 | .inn=>inV σ v w
 | .nin=>(inV σ v w).map (!·)
 | .lt=>match v,w with | .int a,.int b=>some (decide (a<b)) | _,_=>none
 | .le=>match v,w with | .int a,.int b=>some (decide (a<=b)) | _,_=>none
 | .gt=>match v,w with | .int a,.int b=>some (decide (b<a)) | _,_=>none
 | .ge=>match v,w with | .int a,.int b=>some (decide (b<=a)) | _,_=>none
noncomputable def truth (σ:H) (v:V):Option Bool :=
 match v with
 | .bool b=>some b
 | .int i=>some (i != 0)
 | .ref a=>match σ[a]? with
  | some (.list _ xs)=>some (!xs.isEmpty)
  | _=>none
 | _=>none
noncomputable def attrOf (σ:H) (v:V) (f:Nat):Option V :=
 match v with
 | .ref a=>match σ[a]? with
  | some (.inst _ fs)=>fs.lookup f
  | _=>none
 | _=>none
noncomputable def putF (fs:List (Nat × V)) (f:Nat) (v:V):List (Nat × V) :=
 match fs with
 | []=>[(f,v)]
 | (g,w)::r=>if g=f then (g,v)::r else (g,w)::putF r f v
noncomputable def attrSet (σ:H) (v:V) (f:Nat) (w:V):Option H :=
 match v with
 | .ref a=>match σ[a]? with
  | some (.inst c fs)=>if fs.length<100 then some (σ.set a (.inst c (putF fs f w))) else none
  | _=>none
 | _=>none
noncomputable def getI (σ:H) (v i:V):Option V :=
 match v,i with
 | .ref a,.int k=>if k<0 then none else match σ[a]? with
  | some (.list _ xs)=>xs[k.toNat]?
  | _=>none
 | .tup xs,.int k=>if k<0 then none else (xs[k.toNat]?).map A.toV
 | _,_=>none
noncomputable def setI (σ:H) (v i w:V):Option H :=
 match v,i with
 | .ref a,.int k=>if k<0 then none else match σ[a]? with
  | some (.list false xs)=>if k.toNat<xs.length then some (σ.set a (.list false (xs.set k.toNat w))) else none
  | _=>none
 | _,_=>none
noncomputable def sliceXs (xs:List V) (l:Nat):Option V->Option (List V)
 | none=>some (xs.drop l)
 | some (.int h)=>if l<=h.toNat/\0<=h then some ((xs.drop l).take (h.toNat - l)) else none
 | _=>none
noncomputable def sliceV (σ:H) (v lo:V) (hi:Option V):Option (V × H) :=
 match v,lo with
 | .ref a,.int l=>match σ[a]? with
  | some (.list _ xs)=>if 0<=l then (sliceXs xs l.toNat hi).map fun ys=>(.ref σ.length,σ++[.list false ys]) else none
  | _=>none
 | _,_=>none
noncomputable def upFrom:Nat->Int->List Int
 | 0,_=>[]
 | n+1,lo=>lo::upFrom n (lo+1)
noncomputable def downFrom:Nat->Int->List Int
 | 0,_=>[]
 | n+1,hi=>hi::downFrom n (hi - 1)
noncomputable def rngItems (lo hi st:Int):Option (List Int) :=
 if st=1 then some (upFrom (hi - lo).toNat lo) else if st = -1 then some (downFrom (lo - hi).toNat lo) else none
noncomputable def items (σ:H) (v:V):Option (List V) :=
 match v with
 | .rng lo hi st=>if lo.natAbs<=LIM/\hi.natAbs<=LIM then (rngItems lo hi st).map (·.map V.int) else none
 | .tup xs=>some (xs.map A.toV)
 | .ref a=>match σ[a]? with
  | some (.list _ xs)=>some xs
  | _=>none
 | _=>none
noncomputable def still (v:V) (xs:List V) (σ:H):Bool :=
 match v with
 | .ref a=>match σ[a]? with
  | some (.list _ ys)=>decide (ys=xs)
  | _=>false
 | _=>true
noncomputable def biR:List Int->Option V
 | [n]=>some (.rng 0 n 1)
 | [a,b]=>some (.rng a b 1)
 | [a,b,c]=>if c=1\/c = -1 then some (.rng a b c) else none
 | _=>none
noncomputable def bi2 (f:Int->Int->Int):List Int->Option V
 | [a,b]=>some (.int (f a b))
 | _=>none
noncomputable def bi1:List Int->Option V
 | [a]=>some (.int a.natAbs)
 | _=>none
noncomputable def biL (vs:List V) (σ:H):Option (V × H) :=
 match vs with
 | [.ref a]=>match σ[a]? with
  | some (.list _ xs)=>some (.int xs.length,σ)
  | _=>none
 | _=>none
noncomputable def biC (vs:List V) (σ:H):Option (V × H) :=
 match vs with
 | [.rng lo hi st]=>match items σ (.rng lo hi st) with
  | some xs=>if xs.length<=LIM then some (.ref σ.length,σ++[.list false xs]) else none
  | none=>none
 | _=>none
noncomputable def biV (b:Bi) (vs:List V) (σ:H):Option (V × H) :=
 match b with
 | .len=>biL vs σ
 | .range=>((toIs vs).bind biR).map fun v=>(v,σ)
 | .min=>((toIs vs).bind (bi2 min)).map fun v=>(v,σ)
 | .max=>((toIs vs).bind (bi2 max)).map fun v=>(v,σ)
 | .abs=>((toIs vs).bind bi1).map fun v=>(v,σ)
 | .list=>biC vs σ
noncomputable def findI (i:Int):List Int->Nat->Option Nat
 | [],_=>none
 | j::r,n=>if j=i then some n else findI i r (n+1)
noncomputable def methV (m:Me) (o x:V) (σ:H):Option (V × H) :=
 match o with
 | .ref a=>match m,σ[a]? with
  | .append,some (.list false xs)=>if xs.length<LIM then some (.none,σ.set a (.list false (xs++[x]))) else none
  | .index,some (.list false xs)=>match x,toIs xs with
   | .int i,some is=>(findI i is 0).map fun (n:Nat)=>(V.int (n:Int),σ)
   | _,_=>none
  | .count,some (.list false xs)=>match x,toIs xs with
   | .int i,some is=>some (.int (is.count i),σ)
   | _,_=>none
  | _,_=>none
 | _=>none
noncomputable def bindAll:List Nat->List V->List V->List V
 | i::is,v::vs,loc=>bindAll is vs (loc.set i v)
 | _,_,loc=>loc
noncomputable def bindT (ts:List Nat) (v:V) (σ:H) (loc:List V):Option (List V) :=
 match ts with
 | [i]=>some (loc.set i v)
 | ts=>match items σ v with
  | some vs=>if vs.length=ts.length then some (bindAll ts vs loc) else none
  | none=>none
noncomputable def isLst (σ:H) (v:V):Bool :=
 match v with
 | .ref a=>match σ[a]? with
  | some (.list false _)=>true
  | _=>false
 | _=>false
abbrev Φt:=Nat->List V->H->Option (V × H)
noncomputable def whileN (t:List V->H->Option (V × H)) (b:List V->H->Option (Fl × List V × H)):Nat->List V->H->Option (Fl × List V × H)
 | 0,_,_=>none
 | n+1,loc,σ=>match t loc σ with
  | none=>none
  | some (v,σ)=>match truth σ v with
   | none=>none
   | some false=>some (.next,loc,σ)
   | some true=>match b loc σ with
    | none=>none
    | some (.brk,loc,σ)=>some (.next,loc,σ)
    | some (.ret v,loc,σ)=>some (.ret v,loc,σ)
    | some (_,loc,σ)=>whileN t b n loc σ
noncomputable def forN (ts:List Nat) (ok:H->Bool) (b:List V->H->Option (Fl × List V × H)):List V->List V->H->Option (Fl × List V × H)
 | [],loc,σ=>if ok σ then some (.next,loc,σ) else none
 | v::vs,loc,σ=>if ok σ then (match bindT ts v σ loc with
  | none=>none
  | some loc=>match b loc σ with
   | none=>none
   | some (.brk,loc,σ)=>some (.next,loc,σ)
   | some (.ret v,loc,σ)=>some (.ret v,loc,σ)
   | some (_,loc,σ)=>forN ts ok b vs loc σ) else none
noncomputable def compN (ts:List Nat) (ok:H->Bool) (b:List V->H->Option H):List V->List V->H->Option H
 | [],_,σ=>if ok σ then some σ else none
 | v::vs,loc,σ=>if ok σ then (match bindT ts v σ loc with
  | none=>none
  | some loc'=>match b loc' σ with
   | none=>none
   | some σ=>compN ts ok b vs loc σ) else none
noncomputable def rdV:V->Option V
 | .undef=>none
 | v=>some v
noncomputable def evC (p:List V->H->Option (Bool × H)) (k:List V->H->Option H) (loc:List V) (σ:H):Option H :=
 match p loc σ with
 | none=>none
 | some (false,σ)=>some σ
 | some (true,σ)=>k loc σ
noncomputable def evM (e:List V->H->Option (V × H)) (acc:Nat) (loc:List V) (σ:H):Option H :=
 match e loc σ with
 | none=>none
 | some (v,σ)=>(methV .append (.ref acc) v σ).map (·.2)
mutual
noncomputable def evE (Φ:Φt) (G:Nat->V):E->List V->H->Option (V × H)
 | .var i,loc,σ=>match loc[i]? with
  | none=>none
  | some v=>(rdV v).map fun v=>(v,σ)
 | .glob k,_,σ=>(rdV (G k)).map fun v=>(v,σ)
 | .int i,_,σ=>some (.int i,σ)
 | .bool b,_,σ=>some (.bool b,σ)
 | .none,_,σ=>some (.none,σ)
 | .bin op a b,loc,σ=>match evE Φ G a loc σ with
  | none=>none
  | some (v,σ)=>match evE Φ G b loc σ with
   | none=>none
   | some (w,σ)=>binV op v w σ
 | .neg a,loc,σ=>match evE Φ G a loc σ with
  | some (.int i,σ)=>some (.int (-i),σ)
  | _=>none
 | .inv a,loc,σ=>match evE Φ G a loc σ with
  | some (.int i,σ)=>some (.int (PySem.Builtin.bitNot i),σ)
  | _=>none
 | .not a,loc,σ=>match evE Φ G a loc σ with
  | none=>none
  | some (v,σ)=>(truth σ v).map fun b=>(.bool (!b),σ)
 | .cmp op a b,loc,σ=>match evE Φ G a loc σ with
  | none=>none
  | some (v,σ)=>match evE Φ G b loc σ with
   | none=>none
   | some (w,σ)=>(cmpV op σ v w).map fun b=>(.bool b,σ)
 | .cmp2 op op' a b c,loc,σ=>match evE Φ G a loc σ with
  | none=>none
  | some (v,σ)=>match evE Φ G b loc σ with
   | none=>none
   | some (w,σ)=>match cmpV op σ v w with
    | none=>none
    | some false=>some (.bool false,σ)
    | some true=>match evE Φ G c loc σ with
     | none=>none
     | some (u,σ)=>(cmpV op' σ w u).map fun b=>(.bool b,σ)
 | .and es,loc,σ=>evAnd Φ G es loc σ
 | .or es,loc,σ=>evOr Φ G es loc σ
 | .ife t a b,loc,σ=>match evE Φ G t loc σ with
  | none=>none
  | some (v,σ)=>match truth σ v with
   | none=>none
   | some true=>evE Φ G a loc σ
   | some false=>evE Φ G b loc σ
 | .attr e f,loc,σ=>match evE Φ G e loc σ with
  | none=>none
  | some (v,σ)=>(attrOf σ v f).map fun w=>(w,σ)
 | .sub e i,loc,σ=>match evE Φ G e loc σ with
  | none=>none
  | some (v,σ)=>match evE Φ G i loc σ with
   | none=>none
   | some (w,σ)=>(getI σ v w).map fun u=>(u,σ)
 | .slice e lo,loc,σ=>match evE Φ G e loc σ with
  | none=>none
  | some (v,σ)=>match evE Φ G lo loc σ with
   | none=>none
   | some (w,σ)=>sliceV σ v w none
 | .slice2 e lo hi,loc,σ=>match evE Φ G e loc σ with
  | none=>none
  | some (v,σ)=>match evE Φ G lo loc σ with
   | none=>none
   | some (w,σ)=>match evE Φ G hi loc σ with
    | none=>none
    | some (u,σ)=>sliceV σ v w (some u)
 | .list es,loc,σ=>match evEs Φ G es loc σ with
  | none=>none
  | some (vs,σ)=>if vs.length<=LIM then some (.ref σ.length,σ++[.list false vs]) else none
 | .tup es,loc,σ=>match evEs Φ G es loc σ with
  | none=>none
  | some (vs,σ)=>if vs.length<=LIM then (toAs vs).map fun as=>(.tup as,σ) else none
 | .call f es,loc,σ=>match evEs Φ G es loc σ with
  | none=>none
  | some (vs,σ)=>Φ f vs σ
 | .new c es,loc,σ=>match evEs Φ G es loc σ with
  | none=>none
  | some (vs,σ)=>match Φ (1000+c) (.ref σ.length::vs) (σ++[.inst c []]) with
   | some (.none,σ')=>some (.ref σ.length,σ')
   | _=>none
 | .bi b es,loc,σ=>match evEs Φ G es loc σ with
  | none=>none
  | some (vs,σ)=>biV b vs σ
 | .meth m o x,loc,σ=>match evE Φ G o loc σ with
  | none=>none
  | some (v,σ)=>if isLst σ v then (match evE Φ G x loc σ with
   | none=>none
   | some (w,σ)=>methV m v w σ) else none
 | .comp elt ts it ifs rest,loc,σ=>match evE Φ G it loc σ with
  | none=>none
  | some (v,σ)=>match items σ v with
   | none=>none
   | some xs=>(compN ts (still v xs) (evC (evIf Φ G ifs) (evG Φ G rest (evM (evE Φ G elt) σ.length))) xs loc (σ++[.list false []])).map fun σ'=>(.ref σ.length,σ')
noncomputable def evEs (Φ:Φt) (G:Nat->V):Es->List V->H->Option (List V × H)
 | .nil,_,σ=>some ([],σ)
 | .cons e es,loc,σ=>match evE Φ G e loc σ with
  | none=>none
  | some (v,σ)=>match evEs Φ G es loc σ with
   | none=>none
   | some (vs,σ)=>some (v::vs,σ)
noncomputable def evAnd (Φ:Φt) (G:Nat->V):Es->List V->H->Option (V × H)
 | .nil,_,_=>none
 | .cons e .nil,loc,σ=>evE Φ G e loc σ
 | .cons e es,loc,σ=>match evE Φ G e loc σ with
  | none=>none
  | some (v,σ)=>match truth σ v with
   | none=>none
   | some true=>evAnd Φ G es loc σ
   | some false=>some (v,σ)
noncomputable def evOr (Φ:Φt) (G:Nat->V):Es->List V->H->Option (V × H)
 | .nil,_,_=>none
 | .cons e .nil,loc,σ=>evE Φ G e loc σ
 | .cons e es,loc,σ=>match evE Φ G e loc σ with
  | none=>none
  | some (v,σ)=>match truth σ v with
   | none=>none
   | some false=>evOr Φ G es loc σ
   | some true=>some (v,σ)
noncomputable def evIf (Φ:Φt) (G:Nat->V):Es->List V->H->Option (Bool × H)
 | .nil,_,σ=>some (true,σ)
 | .cons t ts,loc,σ=>match evE Φ G t loc σ with
  | none=>none
  | some (v,σ)=>match truth σ v with
   | none=>none
   | some false=>some (false,σ)
   | some true=>evIf Φ G ts loc σ
noncomputable def evG (Φ:Φt) (G:Nat->V):Gs->(List V->H->Option H)->List V->H->Option H
 | .nil,em,loc,σ=>em loc σ
 | .cons ts it ifs rest,em,loc,σ=>match evE Φ G it loc σ with
  | none=>none
  | some (v,σ)=>match items σ v with
   | none=>none
   | some xs=>compN ts (still v xs) (evC (evIf Φ G ifs) (evG Φ G rest em)) xs loc σ
end
mutual
noncomputable def evS (Φ:Φt) (G:Nat->V):S->List V->H->Option (Fl × List V × H)
 | .asg i e,loc,σ=>match evE Φ G e loc σ with
  | none=>none
  | some (v,σ)=>some (.next,loc.set i v,σ)
 | .asgT is e,loc,σ=>match evE Φ G e loc σ with
  | none=>none
  | some (v,σ)=>(bindT is v σ loc).map fun loc=>(.next,loc,σ)
 | .setA o f e,loc,σ=>match evE Φ G e loc σ with
  | none=>none
  | some (v,σ)=>match evE Φ G o loc σ with
   | none=>none
   | some (w,σ)=>(attrSet σ w f v).map fun σ=>(.next,loc,σ)
 | .setI o i e,loc,σ=>match evE Φ G e loc σ with
  | none=>none
  | some (v,σ)=>match evE Φ G o loc σ with
   | none=>none
   | some (w,σ)=>match evE Φ G i loc σ with
    | none=>none
    | some (u,σ)=>(setI σ w u v).map fun σ=>(.next,loc,σ)
 | .augV i op e,loc,σ=>match (loc[i]?).bind rdV with
  | none=>none
  | some v=>match evE Φ G e loc σ with
   | none=>none
   | some (w,σ)=>(augO op v w σ).map fun (u,σ)=>(.next,loc.set i u,σ)
 | .augA o f op e,loc,σ=>match evE Φ G o loc σ with
  | none=>none
  | some (v,σ)=>match attrOf σ v f with
   | none=>none
   | some w=>match evE Φ G e loc σ with
    | none=>none
    | some (u,σ)=>match augO op w u σ with
     | none=>none
     | some (x,σ)=>(attrSet σ v f x).map fun σ=>(.next,loc,σ)
 | .augI o i op e,loc,σ=>match evE Φ G o loc σ with
  | none=>none
  | some (v,σ)=>match evE Φ G i loc σ with
   | none=>none
   | some (k,σ)=>match getI σ v k with
    | none=>none
    | some w=>match evE Φ G e loc σ with
     | none=>none
     | some (u,σ)=>match augO op w u σ with
      | none=>none
      | some (x,σ)=>(setI σ v k x).map fun σ=>(.next,loc,σ)
 | .expr e,loc,σ=>match evE Φ G e loc σ with
  | some (.none,σ)=>some (.next,loc,σ)
  | _=>none
 | .ite t a b,loc,σ=>match evE Φ G t loc σ with
  | none=>none
  | some (v,σ)=>match truth σ v with
   | none=>none
   | some true=>evSs Φ G a loc σ
   | some false=>evSs Φ G b loc σ
 | .whl t b,loc,σ=>whileN (evE Φ G t) (evSs Φ G b) WFUEL loc σ
 | .for_ ts e b,loc,σ=>match evE Φ G e loc σ with
  | none=>none
  | some (v,σ)=>match items σ v with
   | none=>none
   | some xs=>forN ts (still v xs) (evSs Φ G b) xs loc σ
 | .ret e,loc,σ=>match evE Φ G e loc σ with
  | none=>none
  | some (v,σ)=>some (.ret v,loc,σ)
 | .brk,loc,σ=>some (.brk,loc,σ)
 | .cont,loc,σ=>some (.cont,loc,σ)
 | .fail,_,_=>none
noncomputable def evSs (Φ:Φt) (G:Nat->V):Ss->List V->H->Option (Fl × List V × H)
 | .nil,loc,σ=>some (.next,loc,σ)
 | .cons s ss,loc,σ=>match evS Φ G s loc σ with
  | none=>none
  | some (.next,loc,σ)=>evSs Φ G ss loc σ
  | some (f,loc,σ)=>some (f,loc,σ)
end
structure Fn where
 np:Nat
 nv:Nat
 body:Ss
theorem ne_Fn:Nonempty Fn:=⟨⟨0,0,.nil⟩⟩
noncomputable def runFn (Φ:Φt) (G:Nat->V) (d:Fn) (vs:List V) (σ:H):Option (V × H) :=
 if vs.length=d.np/\d.np<=d.nv then
  match evSs Φ G d.body (vs++List.replicate (d.nv - d.np) V.undef) σ with
  | some (.ret v,_,σ)=>some (v,σ)
  | some (.next,_,σ)=>some (.none,σ)
  | _=>none
 else none
noncomputable def callN (P:Nat->Option Fn) (G:Nat->V):Nat->Φt
 | 0,_,_,_=>none
 | n+1,f,vs,σ=>match P f with
  | none=>none
  | some d=>runFn (callN P G n) G d vs σ
end Mob
namespace Mob
namespace Z
theorem na {n m K:Nat} (h:n<=m) (k:m<K):(n:Int).natAbs<K:=Nat.lt_of_le_of_lt h k
theorem na1 {n m K:Nat} (h:n<m) (k:m<=K):(n:Int).natAbs<K:=Nat.lt_of_lt_of_le h k
theorem nas {n m K:Nat} (h:n<=m) (k:m+1<K):((n:Int) - 1).natAbs<K:=Nat.lt_of_le_of_lt (Nat.le_trans (Int.natAbs_sub_le n 1) (Nat.add_le_add_right h 1)) k
theorem nax {x:Int} {m K:Nat} (h0:0<=x) (h:x<=m) (k:m<K):x.natAbs<K:=by lia
theorem nay {x:Int} {m K:Nat} (h0:0<=x) (h:x<m) (k:m<=K):x.natAbs<K:=by lia
theorem nat {x:Int} {m K:Nat} (h:x.natAbs<m) (k:m<=K):x.natAbs<K:=Nat.lt_of_lt_of_le h k
theorem cs1 {n:Nat} (h:1<=n):(n:Int) - 1=((n - 1:Nat):Int):=(Int.ofNat_sub h).symm
theorem csn {a b:Nat} (h:b<=a):(a:Int) - b=((a - b:Nat):Int):=(Int.ofNat_sub h).symm
theorem csr {R r:Nat} (h:r<R):(R:Int) - 1 - r=((R - 1 - r:Nat):Int):=(congrArg (fun x:Int=>x - r) (cs1 (Nat.zero_lt_of_lt h))).trans (csn (Nat.le_sub_one_of_lt h))
theorem csa {a b:Nat} (h:b<=a):(a:Int) + -b=((a - b:Nat):Int):=Int.sub_eq_add_neg.symm.trans (csn h)
theorem cst {x:Int} (h:0<=x):x=(x.toNat:Int):=(Int.toNat_of_nonneg h).symm
theorem tlt0 {x:Int} {n:Nat} (h:0<=x) (k:x<n):x.toNat<n:=(Int.toNat_lt h).mpr k
theorem lt_t {x:Int} {n:Nat} (k:(n:Int)<x):n<x.toNat:=Int.lt_toNat.mpr k
theorem ieq {a b:Nat}:(a:Int)=b↔a=b:=Int.ofNat_inj
theorem iltr {k a:Nat}:(a:Int)<(OfNat.ofNat k:Int)↔a<k:=Int.ofNat_lt
theorem iml {k l a:Nat}:(OfNat.ofNat l:Int)<=(a:Int)%(OfNat.ofNat k:Int)↔l<=a%k:=Int.ofNat_le
theorem imr {k l a:Nat}:(a:Int)%(OfNat.ofNat k:Int)<=(OfNat.ofNat l:Int)↔a%k<=l:=Int.ofNat_le
theorem c0 {n:Nat}:(0:Int)<=n:=Int.natCast_nonneg n
theorem cle {n m:Nat} (h:n<=m):(n:Int)<=m:=Int.ofNat_le.mpr h
theorem cltl {n k:Nat} (h:k<n):(OfNat.ofNat k:Int)<(n:Int):=Int.ofNat_lt.mpr h
theorem ucl {n m:Nat} (h:(n:Int)<m):n<m:=Int.ofNat_lt.mp h
theorem ule {n m:Nat} (h:(n:Int)<=m):n<=m:=Int.ofNat_le.mp h
theorem ueq {n m:Nat} (h:(n:Int)=m):n=m:=Int.ofNat_inj.mp h
theorem or16 {k:Nat} (h:1<=k/\k<=6):k=1\/k=2\/k=3\/k=4\/k=5\/k=6:=(by decide:∀ k<7,1<=k->k=1\/k=2\/k=3\/k=4\/k=5\/k=6) k (Nat.lt_succ_of_le h.2) h.1
theorem ro16 {k:Nat} (h:k=1\/k=2\/k=3\/k=4\/k=5\/k=6):1<=k/\k<=6:=by lia
theorem ro17 {k:Nat} (h:k=1\/k=2\/k=3\/k=4\/k=5\/k=6):k<7:=Nat.lt_succ_of_le (ro16 h).2
theorem or16' {k:Nat} (h:1<=k/\k<=6):k=1\/k=2\/k=6\/k=3\/k=4\/k=5:=(by decide:∀ k<7,1<=k->k=1\/k=2\/k=6\/k=3\/k=4\/k=5) k (Nat.lt_succ_of_le h.2) h.1
theorem or25 {k:Nat} (h:2<=k) (h':k<=5):k=2\/k=3\/k=4\/k=5:=(by decide:∀ k<6,2<=k->k=2\/k=3\/k=4\/k=5) k (Nat.lt_succ_of_le h') h
theorem or35 {k:Nat} (h:2<=k/\k<=5) (h':¬ k=2):k=3\/k=4\/k=5:=(or25 h.1 h.2).resolve_left h'
theorem or8 {d:Nat} (h:d<8):d=0\/d=1\/d=2\/d=3\/d=4\/d=5\/d=6\/d=7:=(by decide:∀ d<8,d=0\/d=1\/d=2\/d=3\/d=4\/d=5\/d=6\/d=7) d h
theorem ro8 {d:Nat} (h:d=0\/d=1\/d=2\/d=3\/d=4\/d=5\/d=6\/d=7):d<8:=by lia
theorem ro8a {d:Nat} (h:d=0\/d=1\/d=2\/d=3):d<8:=by lia
theorem ro8b {d:Nat} (h:d=4\/d=5\/d=6\/d=7):d<8:=by lia
theorem or7 {d:Nat} (h:d<7):d=0\/d=1\/d=2\/d=3\/d=4\/d=5\/d=6:=(by decide:∀ d<7,d=0\/d=1\/d=2\/d=3\/d=4\/d=5\/d=6) d h
theorem or26 {F:Nat} (h:2<=F) (h':F<=6):F=2\/F=3\/F=4\/F=5\/F=6:=(by decide:∀ F<7,2<=F->F=2\/F=3\/F=4\/F=5\/F=6) F (Nat.lt_succ_of_le h') h
theorem or04 {i:Nat} (h:¬ 4<=i):i=0\/i=1\/i=2\/i=3:=(by decide:∀ i<4,i=0\/i=1\/i=2\/i=3) i (Nat.lt_of_not_le h)
theorem nz {n k:Nat} (h:k<=n) (h':0<k):¬ n=0:=Nat.ne_of_gt (Nat.lt_of_lt_of_le h' h)
theorem pz {n:Nat} (h:0<n):¬ n=0:=Nat.ne_of_gt h
theorem zp {n:Nat} (h:¬ n=0):0<n:=Nat.pos_of_ne_zero h
theorem eqk {n k:Nat} (h:k=n) (h':n<7):k<7:=h ▸ h'
theorem sb {c:Nat}:1 - c<2:=Nat.lt_of_le_of_lt (Nat.sub_le 1 c) (by decide)
theorem s1 {n:Nat} (h:1<=n):n - 1<n:=Nat.sub_lt h (by decide)
theorem s2 {n:Nat} (h:2<=n):n - 2<n:=Nat.sub_lt (Nat.lt_of_lt_of_le (by decide) h) (by decide)
theorem ltR {a b c:Nat} (h:a<b) (h':b<=c):a<c:=Nat.lt_of_lt_of_le h h'
theorem nle {a b:Nat} (h:¬ a<b):b<=a:=Nat.le_of_not_lt h
theorem nlt {a b:Nat} (h:¬ a<=b):b<a:=Nat.lt_of_not_le h
theorem ne_gt {a b:Nat} (h:b<a):¬ a=b:=Nat.ne_of_gt h
theorem ne_lt {a b:Nat} (h:a<b):¬ a=b:=Nat.ne_of_lt h
theorem lt1 {i n:Nat} (h:i<n+1) (h':¬ i=n):i<n:=Nat.lt_of_le_of_ne (Nat.le_of_lt_succ h) h'
theorem le_lt {i n:Nat} (h:i<n):i+1<=n:=h
theorem ltn {a b:Nat} (h:a+1<=b):a<b:=h
theorem en {c k:Nat} {x:Nat} (h:x / 8=c) (h':k=x%8):x=8*c+k:=h ▸ h' ▸ (Nat.div_add_mod x 8).symm
theorem lz {a b:Nat} (h:a - b=0):a<=b:=Nat.le_of_sub_eq_zero h
theorem pl {τ τ1:Nat} (h:τ1=τ+1) {k:Nat}:τ+1+k - τ1=k:=by rw [h,Nat.add_sub_cancel_left]
theorem rb {x:Int} (h:x.natAbs<=LIM) : -2^63<=x/\x<2^63:=by unfold LIM at h; lia
theorem rs {x y:Int} (h:x.natAbs<=LIM) (h':y.natAbs<=LIM) : -2^63<=x - y/\x - y<2^63:=by unfold LIM at h h'; lia
theorem ra {x:Int} (h:x.natAbs<=LIM) : -2^63<=x+(-1+1)/\x+(-1+1)<2^63:=by unfold LIM at h; lia
theorem rl {x:Int} (h:x.natAbs<=LIM) : -2^62<=x:=by unfold LIM at h; lia
theorem ru {x:Int} (h:x.natAbs<=LIM):x<2^62:=by unfold LIM at h; lia
theorem rt {x y:Int} (h:x.natAbs<=LIM) (h':y.natAbs<=LIM):(y - x).toNat<=2*LIM:=Nat.le_trans (Int.toNat_le.mpr Int.le_natAbs) (Nat.le_trans (Int.natAbs_sub_le y x) (Nat.le_trans (Nat.add_le_add h' h) (Nat.le_of_eq (Nat.two_mul LIM).symm)))
theorem pu {a:Int} (h:a.natAbs<2^64):a<2^64:=by lia
theorem pd {a:Int} (h:a.natAbs<2^64) : -2^64<a:=by lia
theorem nde {x y:Int} (h:x.natAbs<1000) (h':y.natAbs<1000):(x - y).natAbs<18446744073709551616:=Nat.lt_of_le_of_lt (Int.natAbs_sub_le x y) (Nat.lt_trans (Nat.add_lt_add h h') (by decide))
theorem mnl {n m l L:Nat} (h:l<=L):min ((n:Int).toNat - m) (l - m)<=L:=Nat.le_trans (Nat.min_le_right _ _) (Nat.le_trans (Nat.sub_le _ _) h)
theorem sk {k:Nat} (h:2<=k/\k<=5):k - 2<4:=Nat.lt_of_le_of_lt (Nat.sub_le_sub_right h.2 2) (by decide)
theorem sbn {c:Nat}:((1 - c:Nat):Int).natAbs<18446744073709551616:=Nat.lt_of_le_of_lt (Nat.sub_le 1 c) (by decide)
theorem nam {n m K d:Nat} (h:n<=m) (k:m<K):((n - d:Nat):Int).natAbs<K:=Nat.lt_of_le_of_lt (Nat.sub_le _ _) (Nat.lt_of_le_of_lt h k)
theorem nam5 {n K:Nat} (h:n<=30) (k:150<K):((n*5:Nat):Int).natAbs<K:=Nat.lt_of_le_of_lt (Nat.mul_le_mul_right 5 h) k
theorem nad {n m K d:Nat} (h:n<m) (k:m<=K):((n / d:Nat):Int).natAbs<K:=Nat.lt_of_le_of_lt (Nat.div_le_self _ _) (Nat.lt_of_lt_of_le h k)
theorem ed {c k x:Nat} (h:1<=k/\k<=6) (h':x=8*c+k):x / 8=c:=by rw [h',Nat.mul_add_div (by decide),Nat.div_eq_of_lt (Nat.lt_of_le_of_lt h.2 (by decide))]; rfl
theorem em {c k x:Nat} (h:1<=k/\k<=6) (h':x=8*c+k):x%8=k:=by rw [h',Nat.mul_add_mod,Nat.mod_eq_of_lt (Nat.lt_of_le_of_lt h.2 (by decide))]
theorem e8m {c k:Nat} (h:1<=k/\k<=6):((8*c+k:Nat):Int)%8=k:=congrArg Nat.cast (em h rfl)
theorem e8d {c k:Nat} (h:1<=k/\k<=6):((8*c+k:Nat):Int) / 8=c:=congrArg Nat.cast (ed h rfl)
theorem lk {l k x:Nat} (hk:k=x%8):l+1+k<l+9:=by rw [Nat.add_assoc]; exact Nat.add_lt_add_left (Nat.add_lt_add_left (hk ▸ Nat.mod_lt x (by decide)) 1) l
theorem lkx {l k a x:Nat} (hk:k=x%8) (h1:l+11<=a):l+1+k≠a:=Nat.ne_of_lt (Nat.lt_of_lt_of_le (lk hk) (Nat.le_trans (Nat.add_le_add_left (by decide) l) h1))
theorem lka {l k a u x:Nat} (hk:k=x%8) (h1:l+11<=u) (h2:u<=a):l+1+k≠a:=lkx hk (Nat.le_trans h1 h2)
theorem lk8 {l k x:Nat} (hk:k=x%8) (h:x%8<=6):l+1+k≠l+8:=by lia
theorem lk10 {l k x:Nat} (hk:k=x%8):l+1+k≠l+10:=Nat.ne_of_lt (Nat.lt_trans (lk hk) (Nat.add_lt_add_left (by decide) l))
theorem lki {l k i:Nat} (h:¬ i=k):l+1+k≠l+1+i:=fun z=>h (Nat.add_left_cancel z).symm
theorem isk {i K L:Nat} (h:i<K+L) (h':¬ i<K):i - K<L:=Nat.sub_lt_left_of_lt_add (Nat.le_of_not_lt h') h
theorem s36 {n i:Nat} (h:i+n<32):36 - (n+4)<36 - n:=Nat.sub_lt_sub_left (Nat.lt_of_le_of_lt (Nat.le_add_left n i) (Nat.lt_trans h (by decide))) (Nat.lt_add_of_pos_right (by decide))
theorem s36a {n m i:Nat} (h:n<=m) (h':i+m<32):36 - (m+1)<36 - n:=Nat.sub_lt_sub_left (Nat.lt_of_le_of_lt (Nat.le_trans h (Nat.le_add_left m i)) (Nat.lt_trans h' (by decide))) (Nat.lt_succ_of_le h)
theorem s36b {n:Nat}:36 - n<200:=Nat.lt_of_le_of_lt (Nat.sub_le _ _) (by decide)
theorem i4 {i n:Nat} (h:4<=i):i - 4+(n+4)=i+n:=by rw [Nat.add_comm n 4,<- Nat.add_assoc,Nat.sub_add_cancel h]
theorem i4a {j n:Nat} (h:n<=j) (h':j<n+4):j=0+n\/j=1+n\/j=2+n\/j=3+n:=by lia
theorem i4b {n i:Nat} (h:i+n<32):n+4<=36:=Nat.le_trans (Nat.add_le_add_right (Nat.le_of_lt (Nat.lt_of_le_of_lt (Nat.le_add_left n i) h)) 4) (by decide)
theorem i1b {n i:Nat} (h:i+n<32):n+1<=36:=Nat.le_trans (Nat.succ_le_of_lt (Nat.lt_of_le_of_lt (Nat.le_add_left n i) h)) (by decide)
theorem i1c {n i:Nat}:i+1+n=i+(n+1):=by rw [Nat.add_assoc,Nat.add_comm 1 n]
theorem or21 {a:Nat}:2<=a\/1<=a↔2<=a+1:=⟨fun h=>h.elim Nat.le_succ_of_le Nat.succ_le_succ,fun h => .inr (Nat.le_of_succ_le_succ h)⟩
theorem lo1 {a j:Nat}:a<j\/a=j↔a<j+1:=Nat.lt_succ_iff_lt_or_eq.symm
theorem ln1 {a j:Nat} (h:¬ a=j):a<j↔a<j+1:=⟨Nat.lt_succ_of_lt,fun x=>lt1 x h⟩
theorem r58 {R:Nat}:R*5 / 8<=R:=Nat.div_le_of_le_mul (Nat.mul_comm R 5 ▸ Nat.mul_le_mul_right R (by decide))
theorem r58a {R j:Nat} (h:j<R*5 / 8):j<R:=Nat.lt_of_lt_of_le h r58
theorem r58b {R:Nat} (h:R<=5):R*5 / 8<=1048576:=Nat.le_trans r58 (Nat.le_trans h (by decide))
theorem rr {R r:Nat} (h:r<R):R - 1 - r<R:=Nat.lt_of_le_of_lt (Nat.sub_le _ _) (Nat.sub_lt (Nat.zero_lt_of_lt h) (by decide))
theorem or01 {x:Nat} (h:1<=x%8/\x%8<=6/\x<16):x / 8=0\/x / 8=1:=(by decide:∀ x<16,x / 8=0\/x / 8=1) x h.2.2
theorem c2 {x c:Nat} (h:x / 8=c) (h':x<16):c<2:=h ▸ Nat.div_lt_of_lt_mul h'
theorem c2a {x c:Nat} (h:c=x / 8) (h':x<16):c<2:=h ▸ Nat.div_lt_of_lt_mul h'
theorem or1256 {k:Nat} (h:1<=k/\k<=6) (h3:¬ k=3) (h4:¬ k=4):k=1\/k=2\/k=5\/k=6:=by lia
theorem r25 {k:Nat} (h:1<=k/\k<=6) (h1:((k:Int)==1)=false) (h6:((k:Int)==6)=false):2<=k/\k<=5:=by lia
theorem nk2 {k:Nat} (h:((k:Int)==2)=false):¬ k=2:=by lia
theorem j9 {x j F m:Nat} (h:(x:Int)+j<F) (h':F<=m) (h'':m<=9):j<9:=by lia
theorem j9a {x j F m:Nat} (h:0<=(x:Int) + -(j:Int)) (h':x<F) (h1:F<=m) (h'':m<=9):j<9:=by lia
theorem yf {x y F R:Nat} (h:x<F) (h':y*F+1*F<=F*R):y*F+x<F*R:=Nat.lt_of_lt_of_le (Nat.add_lt_add_left (Nat.lt_of_lt_of_eq h (Nat.one_mul F).symm) _) h'
theorem wu {w u n:Nat} (h:u<n - 1) (h':w+1+u - n=w) (h2:¬ w+1+u<n):False:=have q:w+n=w+(1+u):=(Nat.add_assoc w 1 u) ▸ (congrArg (· + n) h').symm.trans (Nat.sub_add_cancel (Nat.le_of_not_lt h2))
 Nat.lt_irrefl u (Nat.lt_of_lt_of_eq h (by rw [Nat.add_left_cancel q,Nat.add_sub_cancel_left]))
theorem wua {w u n:Nat} (h:w<n) (h':u<n - 1):w+1+u - n<n:=Nat.lt_of_le_of_lt (Nat.le_trans (Nat.sub_le_sub_right (Nat.add_le_add_right h u) n) (Nat.le_of_eq (Nat.add_sub_cancel_left ..))) (Nat.lt_of_lt_of_le h' (Nat.sub_le n 1))
theorem pad2 {n:Nat} (h:n<=100):2<=n+(2 - n)/\n+(2 - n)<=102:=⟨Nat.sub_le_iff_le_add'.mp (Nat.le_refl (2 - n)),Nat.add_le_add h (Nat.sub_le 2 n)⟩
theorem pad2a {n:Nat} (h:n<=100):n+(2 - n)<=1048576:=Nat.le_trans (pad2 h).2 (by decide)
theorem mn2 {a:Nat}:min (a:Int) 2=((min a 2:Nat):Int):=by lia
theorem a3 {R r:Nat} (h:R=3+r):3<=R:=h ▸ Nat.le_add_right 3 r
theorem a5 {R r:Nat} (h:R=3+r) (h':r<3):R<=5:=h ▸ Nat.add_le_add_left (Nat.le_of_lt_succ h') 3
theorem tb {t n:Nat} (h:t<n) (h':n<=30):0<=(t:Int)/\(t:Int)<=1000:=⟨c0,Int.ofNat_le.mpr (Nat.le_of_lt (Nat.lt_of_lt_of_le h (Nat.le_trans h' (by decide))))⟩
theorem tbt {x:Int} {n:Nat} (h:x<n) (h':n<=30):0<=(x.toNat:Int)/\(x.toNat:Int)<=1000:=by lia
theorem st15 {x:Nat} (h:x<15) (h':¬ x=0):(¬ x=5/\¬ x=13↔¬ x%8=5):=(by decide:∀ x<15,¬ x=0->(¬ x=5/\¬ x=13↔¬ x%8=5)) x h h'
theorem up8 {k d:Nat} (h:1<=k/\k<=5) (h':d<2):1<=(k+8*d)%8/\(k+8*d)%8<=6/\k+8*d<16:=(by decide:∀ k<6,∀ d<2,1<=k->1<=(k+8*d)%8/\(k+8*d)%8<=6/\k+8*d<16) k (Nat.lt_succ_of_le h.2) d h' h.1
theorem m25 {y:Nat} (h:1<=y/\y<=6):(¬ y=1/\¬ y=6↔2<=y/\y<=5):=(by decide:∀ y<7,1<=y->(¬ y=1/\¬ y=6↔2<=y/\y<=5)) y (Nat.lt_succ_of_le h.2) h.1
theorem l25 {y:Nat} (h:1<=y) (h':y<=6) (h1:¬ y=1/\¬ y=6):2<=y/\y<=5:=(m25 ⟨h,h'⟩).mp h1
theorem k16 {k y:Nat} (h:k=y) (h':1<=y) (h2:y<=6):1<=k/\k<=6:=h ▸ ⟨h',h2⟩
theorem k25 {k y:Nat} (h:k=y) (h':2<=y/\y<=5):2<=k/\k<=5:=h ▸ h'
theorem k7 {k y:Nat} (h:k=y%8) (h':y%8<=6):k<7:=h ▸ Nat.lt_succ_of_le h'
theorem k75 {k:Nat} (h':2<=k/\k<=5):k<7:=Nat.lt_of_le_of_lt h'.2 (by decide)
theorem m81 {k d:Nat} (h:1<=k/\k<=5) (h':(k+8*d)%8=1):k=1:=by rwa [Nat.add_mul_mod_self_left,Nat.mod_eq_of_lt (Nat.lt_of_le_of_lt h.2 (by decide))] at h'
theorem b15 {x:Nat} (h:x<16) (h':x%8<=6):x<15:=(by decide:∀ x<16,x%8<=6->x<15) x h h'
theorem p0 {n:Nat} (h:6<=n):0<n - 1:=Nat.sub_pos_of_lt (Nat.lt_of_lt_of_le (by decide) h)
theorem m100 {x:Int} (h:0<=x/\x<2^32):x.natAbs<2^64:=nay h.1 h.2 (by decide)
theorem z1 {x:Int} {n:Nat} (h:1<=x/\x<=(n:Int) - 2) (h':n<100):x.natAbs<100:=nay (Int.le_trans (by decide) h.1) (Int.lt_of_le_of_lt h.2 (Int.sub_lt_self n (by decide))) (Nat.le_of_lt h')
theorem hl {n:Nat} {x:Int} (h:0<=x / 2/\x / 2<2^n):0<=x/\x<2^n*2:=by lia
theorem kl1 {k:Int} {n:Nat} (h:¬ k<0) (h':k.toNat<n):k<n:=(Int.toNat_lt (Int.not_lt.mp h)).mp h'
theorem kl {k:Int} {n:Nat} (h:¬ k<0) (h':k.toNat<n):0<=k/\k<n:=⟨Int.not_lt.mp h,kl1 h h'⟩
theorem kl2 {k:Int} {n:Nat} (h:¬ k<0) (h':k.toNat<n) (h2:n<=LIM):k<2^63:=Int.lt_of_lt_of_le (kl1 h h') (Int.le_trans (Int.ofNat_le.mpr h2) (by decide))
theorem kl3 {k:Int} {n m:Nat} (h:¬ k<0) (h':k.toNat<m) (e:n=m) (h2:n<=LIM):k<2^63:=kl2 h (e ▸ h') h2
theorem ab {a:Int}:(if a<0 then -a else a)=(a.natAbs:Int):=by split <;> lia
theorem c11 {c:Int} (h:c=1\/c = -1):c.natAbs<1073741824:=by rcases h with rfl | rfl <;> decide
theorem lt3 {a b c:Nat} (h:a<b) (h':b<=c) (c32:c<=30):a<32:=Nat.lt_of_lt_of_le h (Nat.le_trans h' (Nat.le_trans c32 (by decide)))
theorem fr {f R:Nat} (h:f≠0/\f≠R - 1) (h':f<R):1<=f/\f+1<R:=⟨Nat.pos_of_ne_zero h.1,Nat.lt_of_le_of_ne h' fun e=>h.2 (e ▸ (Nat.add_sub_cancel (n:=f) (m:=1)).symm)⟩
theorem s3 {a b c:Nat} (h1:a<=1) (h2:b<=1) (h3:c<=1):a+(b+(c+0))<=10:=Nat.le_trans (Nat.add_le_add h1 (Nat.add_le_add h2 h3)) (by decide)
theorem p8 {a b c j:Nat} (h:a<=100) (h':b<=8*j) (h2:c<=8) (h3:j<8):a+b+c<=1048576:=by lia
theorem q32 {b c j n:Nat} (h':b<=32*j) (h2:c<=32) (h3:j<n) (h4:n<=30):b+c<=1048576:=by lia
theorem q32b {b c j:Nat} (h':b<=32*j) (h2:c<=32):c+b<=32*(j+1):=by lia
theorem mpr1 {a b:Nat} (h:a<=b):a<=b+1:=Nat.le_succ_of_le h
theorem k11 {k:Nat} (h:k=1\/k=2\/5<=k/\k<=10):k<11:=h.elim (fun e=>e ▸ (by decide)) fun h=>h.elim (fun e=>e ▸ (by decide)) fun h=>Nat.lt_succ_of_le h.2
theorem k13 {k:Nat} (h:k=1\/k=2\/5<=k/\k<=10):k<13:=Nat.lt_trans (k11 h) (by decide)
theorem kne {k d:Nat} (h:k=1\/k=2\/5<=k/\k<=10):¬ k=13+2*d:=Nat.ne_of_lt (Nat.lt_of_lt_of_le (k13 h) (Nat.le_add_right _ _))
theorem kne1 {k d:Nat} (h:k=1\/k=2\/5<=k/\k<=10):¬ k=14+2*d:=Nat.ne_of_lt (Nat.lt_of_lt_of_le (k13 h) (Nat.le_trans (by decide) (Nat.le_add_right _ _)))
theorem kne2 {k d:Nat} (h:k=1\/k=2\/5<=k/\k<=10):¬ k=13+2*d+1:=Nat.ne_of_lt (Nat.lt_of_lt_of_le (k13 h) (Nat.le_succ_of_le (Nat.le_add_right _ _)))
theorem kne3 {k:Nat} (h:k=1\/k=2\/5<=k/\k<=10):¬ k=11:=Nat.ne_of_lt (k11 h)
theorem kne4 {k:Nat} (h:k=1\/k=2\/5<=k/\k<=10):¬ k=12:=Nat.ne_of_lt (Nat.lt_of_lt_of_le (k11 h) (by decide))
theorem a1c {a b:Int} (h:0<=b/\b<=1000/\a.natAbs<2^64):a<2^64:=pu h.2.2
theorem ik {i k:Nat} (h:¬ i=k) (h':k<=i):¬ i - k=0:=fun z=>h (Nat.le_antisymm (Nat.le_of_sub_eq_zero z) h')
theorem fn {F j i:Nat} (h:¬ i<j):¬ i+F<j:=fun z=>h (Nat.lt_of_le_of_lt (Nat.le_add_right i F) z)
theorem ev {x y:Int} (h:x%2=1↔y%2=1):x%2=y%2:=by lia
theorem nm2 {x:Int} (h:¬ x%2=1):(x - 1) / 2=x / 2 - 1:=by lia
theorem nm1 {x:Int} (h:x%2=1):(x - 1) / 2=x / 2:=by lia
theorem ng2 {x:Int}:(-x - 1) / 2 = -(x / 2) - 1:=by lia
theorem ng1 {x:Int} (h:¬ x%2=1):(-x - 1)%2=1:=by lia
theorem ng0 {x:Int} (h:x%2=1):¬ (-x - 1)%2=1:=by lia
theorem cti {x y:Int}:(if x<y then y - x else 0)=((y - x).toNat:Int):=by
 split
 ·rename_i h; exact (Int.toNat_of_nonneg (Int.sub_nonneg_of_le (Int.le_of_lt h))).symm
 ·rename_i h; exact (congrArg Nat.cast (Int.toNat_eq_zero.mpr (Int.sub_nonpos_of_le (Int.not_lt.mp h)))).symm
theorem st15b {x:Nat} {P:Prop} (h:x<15):¬ x=0/\¬ x=5/\¬ x=13/\P↔(¬ x=0/\¬ x%8=5)/\P :=
 ⟨fun a=>⟨⟨a.1,(st15 h a.1).mp ⟨a.2.1,a.2.2.1⟩⟩,a.2.2.2⟩,fun a=>have q:=(st15 h a.1.1).mpr a.1.2; ⟨a.1.1,q.1,q.2,a.2⟩⟩
theorem n345 {k m:Nat} (h:k=3\/k=4\/k=5) (z:m≠3/\m≠4/\m≠5) (q:(k:Int)=(OfNat.ofNat m:Int)):False :=
 have q:=Int.ofNat_inj.mp q
 h.elim (fun e=>z.1 (q.symm.trans e)) fun h=>h.elim (fun e=>z.2.1 (q.symm.trans e)) fun e=>z.2.2 (q.symm.trans e)
theorem or2 {c:Nat} (h:c<2):c=0\/c=1:=(by decide:∀ c<2,c=0\/c=1) c h
end Z
end Mob
namespace Mob
theorem an2 {p0 p1 G:Prop} (h:p0/\p1) (k:p0->p1->G):G:=k h.1 h.2
theorem an3 {p0 p1 p2 G:Prop} (h:p0/\p1/\p2) (k:p0->p1->p2->G):G:=k h.1 h.2.1 h.2.2
theorem an4 {p0 p1 p2 p3 G:Prop} (h:p0/\p1/\p2/\p3) (k:p0->p1->p2->p3->G):G:=k h.1 h.2.1 h.2.2.1 h.2.2.2
theorem an8 {p0 p1 p2 p3 p4 p5 p6 p7 G:Prop} (h:p0/\p1/\p2/\p3/\p4/\p5/\p6/\p7) (k:p0->p1->p2->p3->p4->p5->p6->p7->G):G:=k h.1 h.2.1 h.2.2.1 h.2.2.2.1 h.2.2.2.2.1 h.2.2.2.2.2.1 h.2.2.2.2.2.2.1 h.2.2.2.2.2.2.2
theorem ea1_2.{u0} {α0:Sort u0} {P0 P1:α0->Prop} {G:Prop} (h:∃ a0,P0 a0/\P1 a0) (k:∀ a0,P0 a0->P1 a0->G):G:=h.elim fun a0 h0=>k a0 h0.1 h0.2
theorem ea1_3.{u0} {α0:Sort u0} {P0 P1 P2:α0->Prop} {G:Prop} (h:∃ a0,P0 a0/\P1 a0/\P2 a0) (k:∀ a0,P0 a0->P1 a0->P2 a0->G):G:=h.elim fun a0 h0=>k a0 h0.1 h0.2.1 h0.2.2
theorem ea1_4.{u0} {α0:Sort u0} {P0 P1 P2 P3:α0->Prop} {G:Prop} (h:∃ a0,P0 a0/\P1 a0/\P2 a0/\P3 a0) (k:∀ a0,P0 a0->P1 a0->P2 a0->P3 a0->G):G:=h.elim fun a0 h0=>k a0 h0.1 h0.2.1 h0.2.2.1 h0.2.2.2
theorem ea1_5.{u0} {α0:Sort u0} {P0 P1 P2 P3 P4:α0->Prop} {G:Prop} (h:∃ a0,P0 a0/\P1 a0/\P2 a0/\P3 a0/\P4 a0) (k:∀ a0,P0 a0->P1 a0->P2 a0->P3 a0->P4 a0->G):G:=h.elim fun a0 h0=>k a0 h0.1 h0.2.1 h0.2.2.1 h0.2.2.2.1 h0.2.2.2.2
theorem ea2_2.{u0,u1} {α0:Sort u0} {α1:Sort u1} {P0 P1:α0->α1->Prop} {G:Prop} (h:∃ a0 a1,P0 a0 a1/\P1 a0 a1) (k:∀ a0 a1,P0 a0 a1->P1 a0 a1->G):G:=h.elim fun a0 h0=>h0.elim fun a1 h1=>k a0 a1 h1.1 h1.2
theorem ea2_3.{u0,u1} {α0:Sort u0} {α1:Sort u1} {P0 P1 P2:α0->α1->Prop} {G:Prop} (h:∃ a0 a1,P0 a0 a1/\P1 a0 a1/\P2 a0 a1) (k:∀ a0 a1,P0 a0 a1->P1 a0 a1->P2 a0 a1->G):G:=h.elim fun a0 h0=>h0.elim fun a1 h1=>k a0 a1 h1.1 h1.2.1 h1.2.2
theorem ea2_4.{u0,u1} {α0:Sort u0} {α1:Sort u1} {P0 P1 P2 P3:α0->α1->Prop} {G:Prop} (h:∃ a0 a1,P0 a0 a1/\P1 a0 a1/\P2 a0 a1/\P3 a0 a1) (k:∀ a0 a1,P0 a0 a1->P1 a0 a1->P2 a0 a1->P3 a0 a1->G):G:=h.elim fun a0 h0=>h0.elim fun a1 h1=>k a0 a1 h1.1 h1.2.1 h1.2.2.1 h1.2.2.2
theorem ea2_5.{u0,u1} {α0:Sort u0} {α1:Sort u1} {P0 P1 P2 P3 P4:α0->α1->Prop} {G:Prop} (h:∃ a0 a1,P0 a0 a1/\P1 a0 a1/\P2 a0 a1/\P3 a0 a1/\P4 a0 a1) (k:∀ a0 a1,P0 a0 a1->P1 a0 a1->P2 a0 a1->P3 a0 a1->P4 a0 a1->G):G:=h.elim fun a0 h0=>h0.elim fun a1 h1=>k a0 a1 h1.1 h1.2.1 h1.2.2.1 h1.2.2.2.1 h1.2.2.2.2
theorem ea2_6.{u0,u1} {α0:Sort u0} {α1:Sort u1} {P0 P1 P2 P3 P4 P5:α0->α1->Prop} {G:Prop} (h:∃ a0 a1,P0 a0 a1/\P1 a0 a1/\P2 a0 a1/\P3 a0 a1/\P4 a0 a1/\P5 a0 a1) (k:∀ a0 a1,P0 a0 a1->P1 a0 a1->P2 a0 a1->P3 a0 a1->P4 a0 a1->P5 a0 a1->G):G:=h.elim fun a0 h0=>h0.elim fun a1 h1=>k a0 a1 h1.1 h1.2.1 h1.2.2.1 h1.2.2.2.1 h1.2.2.2.2.1 h1.2.2.2.2.2
theorem ea2_7.{u0,u1} {α0:Sort u0} {α1:Sort u1} {P0 P1 P2 P3 P4 P5 P6:α0->α1->Prop} {G:Prop} (h:∃ a0 a1,P0 a0 a1/\P1 a0 a1/\P2 a0 a1/\P3 a0 a1/\P4 a0 a1/\P5 a0 a1/\P6 a0 a1) (k:∀ a0 a1,P0 a0 a1->P1 a0 a1->P2 a0 a1->P3 a0 a1->P4 a0 a1->P5 a0 a1->P6 a0 a1->G):G:=h.elim fun a0 h0=>h0.elim fun a1 h1=>k a0 a1 h1.1 h1.2.1 h1.2.2.1 h1.2.2.2.1 h1.2.2.2.2.1 h1.2.2.2.2.2.1 h1.2.2.2.2.2.2
theorem ea3_2.{u0,u1,u2} {α0:Sort u0} {α1:Sort u1} {α2:Sort u2} {P0 P1:α0->α1->α2->Prop} {G:Prop} (h:∃ a0 a1 a2,P0 a0 a1 a2/\P1 a0 a1 a2) (k:∀ a0 a1 a2,P0 a0 a1 a2->P1 a0 a1 a2->G):G:=h.elim fun a0 h0=>h0.elim fun a1 h1=>h1.elim fun a2 h2=>k a0 a1 a2 h2.1 h2.2
theorem ea3_3.{u0,u1,u2} {α0:Sort u0} {α1:Sort u1} {α2:Sort u2} {P0 P1 P2:α0->α1->α2->Prop} {G:Prop} (h:∃ a0 a1 a2,P0 a0 a1 a2/\P1 a0 a1 a2/\P2 a0 a1 a2) (k:∀ a0 a1 a2,P0 a0 a1 a2->P1 a0 a1 a2->P2 a0 a1 a2->G):G:=h.elim fun a0 h0=>h0.elim fun a1 h1=>h1.elim fun a2 h2=>k a0 a1 a2 h2.1 h2.2.1 h2.2.2
theorem ea3_4.{u0,u1,u2} {α0:Sort u0} {α1:Sort u1} {α2:Sort u2} {P0 P1 P2 P3:α0->α1->α2->Prop} {G:Prop} (h:∃ a0 a1 a2,P0 a0 a1 a2/\P1 a0 a1 a2/\P2 a0 a1 a2/\P3 a0 a1 a2) (k:∀ a0 a1 a2,P0 a0 a1 a2->P1 a0 a1 a2->P2 a0 a1 a2->P3 a0 a1 a2->G):G:=h.elim fun a0 h0=>h0.elim fun a1 h1=>h1.elim fun a2 h2=>k a0 a1 a2 h2.1 h2.2.1 h2.2.2.1 h2.2.2.2
theorem ea3_5.{u0,u1,u2} {α0:Sort u0} {α1:Sort u1} {α2:Sort u2} {P0 P1 P2 P3 P4:α0->α1->α2->Prop} {G:Prop} (h:∃ a0 a1 a2,P0 a0 a1 a2/\P1 a0 a1 a2/\P2 a0 a1 a2/\P3 a0 a1 a2/\P4 a0 a1 a2) (k:∀ a0 a1 a2,P0 a0 a1 a2->P1 a0 a1 a2->P2 a0 a1 a2->P3 a0 a1 a2->P4 a0 a1 a2->G):G:=h.elim fun a0 h0=>h0.elim fun a1 h1=>h1.elim fun a2 h2=>k a0 a1 a2 h2.1 h2.2.1 h2.2.2.1 h2.2.2.2.1 h2.2.2.2.2
theorem ea3_6.{u0,u1,u2} {α0:Sort u0} {α1:Sort u1} {α2:Sort u2} {P0 P1 P2 P3 P4 P5:α0->α1->α2->Prop} {G:Prop} (h:∃ a0 a1 a2,P0 a0 a1 a2/\P1 a0 a1 a2/\P2 a0 a1 a2/\P3 a0 a1 a2/\P4 a0 a1 a2/\P5 a0 a1 a2) (k:∀ a0 a1 a2,P0 a0 a1 a2->P1 a0 a1 a2->P2 a0 a1 a2->P3 a0 a1 a2->P4 a0 a1 a2->P5 a0 a1 a2->G):G:=h.elim fun a0 h0=>h0.elim fun a1 h1=>h1.elim fun a2 h2=>k a0 a1 a2 h2.1 h2.2.1 h2.2.2.1 h2.2.2.2.1 h2.2.2.2.2.1 h2.2.2.2.2.2
theorem ea3_7.{u0,u1,u2} {α0:Sort u0} {α1:Sort u1} {α2:Sort u2} {P0 P1 P2 P3 P4 P5 P6:α0->α1->α2->Prop} {G:Prop} (h:∃ a0 a1 a2,P0 a0 a1 a2/\P1 a0 a1 a2/\P2 a0 a1 a2/\P3 a0 a1 a2/\P4 a0 a1 a2/\P5 a0 a1 a2/\P6 a0 a1 a2) (k:∀ a0 a1 a2,P0 a0 a1 a2->P1 a0 a1 a2->P2 a0 a1 a2->P3 a0 a1 a2->P4 a0 a1 a2->P5 a0 a1 a2->P6 a0 a1 a2->G):G:=h.elim fun a0 h0=>h0.elim fun a1 h1=>h1.elim fun a2 h2=>k a0 a1 a2 h2.1 h2.2.1 h2.2.2.1 h2.2.2.2.1 h2.2.2.2.2.1 h2.2.2.2.2.2.1 h2.2.2.2.2.2.2
theorem ea4_2.{u0,u1,u2,u3} {α0:Sort u0} {α1:Sort u1} {α2:Sort u2} {α3:Sort u3} {P0 P1:α0->α1->α2->α3->Prop} {G:Prop} (h:∃ a0 a1 a2 a3,P0 a0 a1 a2 a3/\P1 a0 a1 a2 a3) (k:∀ a0 a1 a2 a3,P0 a0 a1 a2 a3->P1 a0 a1 a2 a3->G):G:=h.elim fun a0 h0=>h0.elim fun a1 h1=>h1.elim fun a2 h2=>h2.elim fun a3 h3=>k a0 a1 a2 a3 h3.1 h3.2
theorem ea4_3.{u0,u1,u2,u3} {α0:Sort u0} {α1:Sort u1} {α2:Sort u2} {α3:Sort u3} {P0 P1 P2:α0->α1->α2->α3->Prop} {G:Prop} (h:∃ a0 a1 a2 a3,P0 a0 a1 a2 a3/\P1 a0 a1 a2 a3/\P2 a0 a1 a2 a3) (k:∀ a0 a1 a2 a3,P0 a0 a1 a2 a3->P1 a0 a1 a2 a3->P2 a0 a1 a2 a3->G):G:=h.elim fun a0 h0=>h0.elim fun a1 h1=>h1.elim fun a2 h2=>h2.elim fun a3 h3=>k a0 a1 a2 a3 h3.1 h3.2.1 h3.2.2
theorem ea4_4.{u0,u1,u2,u3} {α0:Sort u0} {α1:Sort u1} {α2:Sort u2} {α3:Sort u3} {P0 P1 P2 P3:α0->α1->α2->α3->Prop} {G:Prop} (h:∃ a0 a1 a2 a3,P0 a0 a1 a2 a3/\P1 a0 a1 a2 a3/\P2 a0 a1 a2 a3/\P3 a0 a1 a2 a3) (k:∀ a0 a1 a2 a3,P0 a0 a1 a2 a3->P1 a0 a1 a2 a3->P2 a0 a1 a2 a3->P3 a0 a1 a2 a3->G):G:=h.elim fun a0 h0=>h0.elim fun a1 h1=>h1.elim fun a2 h2=>h2.elim fun a3 h3=>k a0 a1 a2 a3 h3.1 h3.2.1 h3.2.2.1 h3.2.2.2
theorem ea4_7.{u0,u1,u2,u3} {α0:Sort u0} {α1:Sort u1} {α2:Sort u2} {α3:Sort u3} {P0 P1 P2 P3 P4 P5 P6:α0->α1->α2->α3->Prop} {G:Prop} (h:∃ a0 a1 a2 a3,P0 a0 a1 a2 a3/\P1 a0 a1 a2 a3/\P2 a0 a1 a2 a3/\P3 a0 a1 a2 a3/\P4 a0 a1 a2 a3/\P5 a0 a1 a2 a3/\P6 a0 a1 a2 a3) (k:∀ a0 a1 a2 a3,P0 a0 a1 a2 a3->P1 a0 a1 a2 a3->P2 a0 a1 a2 a3->P3 a0 a1 a2 a3->P4 a0 a1 a2 a3->P5 a0 a1 a2 a3->P6 a0 a1 a2 a3->G):G:=h.elim fun a0 h0=>h0.elim fun a1 h1=>h1.elim fun a2 h2=>h2.elim fun a3 h3=>k a0 a1 a2 a3 h3.1 h3.2.1 h3.2.2.1 h3.2.2.2.1 h3.2.2.2.2.1 h3.2.2.2.2.2.1 h3.2.2.2.2.2.2
theorem ea5_11.{u0,u1,u2,u3,u4} {α0:Sort u0} {α1:Sort u1} {α2:Sort u2} {α3:Sort u3} {α4:Sort u4} {P0 P1 P2 P3 P4 P5 P6 P7 P8 P9 P10:α0->α1->α2->α3->α4->Prop} {G:Prop} (h:∃ a0 a1 a2 a3 a4,P0 a0 a1 a2 a3 a4/\P1 a0 a1 a2 a3 a4/\P2 a0 a1 a2 a3 a4/\P3 a0 a1 a2 a3 a4/\P4 a0 a1 a2 a3 a4/\P5 a0 a1 a2 a3 a4/\P6 a0 a1 a2 a3 a4/\P7 a0 a1 a2 a3 a4/\P8 a0 a1 a2 a3 a4/\P9 a0 a1 a2 a3 a4/\P10 a0 a1 a2 a3 a4) (k:∀ a0 a1 a2 a3 a4,P0 a0 a1 a2 a3 a4->P1 a0 a1 a2 a3 a4->P2 a0 a1 a2 a3 a4->P3 a0 a1 a2 a3 a4->P4 a0 a1 a2 a3 a4->P5 a0 a1 a2 a3 a4->P6 a0 a1 a2 a3 a4->P7 a0 a1 a2 a3 a4->P8 a0 a1 a2 a3 a4->P9 a0 a1 a2 a3 a4->P10 a0 a1 a2 a3 a4->G):G:=h.elim fun a0 h0=>h0.elim fun a1 h1=>h1.elim fun a2 h2=>h2.elim fun a3 h3=>h3.elim fun a4 h4=>k a0 a1 a2 a3 a4 h4.1 h4.2.1 h4.2.2.1 h4.2.2.2.1 h4.2.2.2.2.1 h4.2.2.2.2.2.1 h4.2.2.2.2.2.2.1 h4.2.2.2.2.2.2.2.1 h4.2.2.2.2.2.2.2.2.1 h4.2.2.2.2.2.2.2.2.2.1 h4.2.2.2.2.2.2.2.2.2.2
theorem ea5_2.{u0,u1,u2,u3,u4} {α0:Sort u0} {α1:Sort u1} {α2:Sort u2} {α3:Sort u3} {α4:Sort u4} {P0 P1:α0->α1->α2->α3->α4->Prop} {G:Prop} (h:∃ a0 a1 a2 a3 a4,P0 a0 a1 a2 a3 a4/\P1 a0 a1 a2 a3 a4) (k:∀ a0 a1 a2 a3 a4,P0 a0 a1 a2 a3 a4->P1 a0 a1 a2 a3 a4->G):G:=h.elim fun a0 h0=>h0.elim fun a1 h1=>h1.elim fun a2 h2=>h2.elim fun a3 h3=>h3.elim fun a4 h4=>k a0 a1 a2 a3 a4 h4.1 h4.2
theorem ea5_5.{u0,u1,u2,u3,u4} {α0:Sort u0} {α1:Sort u1} {α2:Sort u2} {α3:Sort u3} {α4:Sort u4} {P0 P1 P2 P3 P4:α0->α1->α2->α3->α4->Prop} {G:Prop} (h:∃ a0 a1 a2 a3 a4,P0 a0 a1 a2 a3 a4/\P1 a0 a1 a2 a3 a4/\P2 a0 a1 a2 a3 a4/\P3 a0 a1 a2 a3 a4/\P4 a0 a1 a2 a3 a4) (k:∀ a0 a1 a2 a3 a4,P0 a0 a1 a2 a3 a4->P1 a0 a1 a2 a3 a4->P2 a0 a1 a2 a3 a4->P3 a0 a1 a2 a3 a4->P4 a0 a1 a2 a3 a4->G):G:=h.elim fun a0 h0=>h0.elim fun a1 h1=>h1.elim fun a2 h2=>h2.elim fun a3 h3=>h3.elim fun a4 h4=>k a0 a1 a2 a3 a4 h4.1 h4.2.1 h4.2.2.1 h4.2.2.2.1 h4.2.2.2.2
theorem ea6_4.{u0,u1,u2,u3,u4,u5} {α0:Sort u0} {α1:Sort u1} {α2:Sort u2} {α3:Sort u3} {α4:Sort u4} {α5:Sort u5} {P0 P1 P2 P3:α0->α1->α2->α3->α4->α5->Prop} {G:Prop} (h:∃ a0 a1 a2 a3 a4 a5,P0 a0 a1 a2 a3 a4 a5/\P1 a0 a1 a2 a3 a4 a5/\P2 a0 a1 a2 a3 a4 a5/\P3 a0 a1 a2 a3 a4 a5) (k:∀ a0 a1 a2 a3 a4 a5,P0 a0 a1 a2 a3 a4 a5->P1 a0 a1 a2 a3 a4 a5->P2 a0 a1 a2 a3 a4 a5->P3 a0 a1 a2 a3 a4 a5->G):G:=h.elim fun a0 h0=>h0.elim fun a1 h1=>h1.elim fun a2 h2=>h2.elim fun a3 h3=>h3.elim fun a4 h4=>h4.elim fun a5 h5=>k a0 a1 a2 a3 a4 a5 h5.1 h5.2.1 h5.2.2.1 h5.2.2.2
theorem ea7_4.{u0,u1,u2,u3,u4,u5,u6} {α0:Sort u0} {α1:Sort u1} {α2:Sort u2} {α3:Sort u3} {α4:Sort u4} {α5:Sort u5} {α6:Sort u6} {P0 P1 P2 P3:α0->α1->α2->α3->α4->α5->α6->Prop} {G:Prop} (h:∃ a0 a1 a2 a3 a4 a5 a6,P0 a0 a1 a2 a3 a4 a5 a6/\P1 a0 a1 a2 a3 a4 a5 a6/\P2 a0 a1 a2 a3 a4 a5 a6/\P3 a0 a1 a2 a3 a4 a5 a6) (k:∀ a0 a1 a2 a3 a4 a5 a6,P0 a0 a1 a2 a3 a4 a5 a6->P1 a0 a1 a2 a3 a4 a5 a6->P2 a0 a1 a2 a3 a4 a5 a6->P3 a0 a1 a2 a3 a4 a5 a6->G):G:=h.elim fun a0 h0=>h0.elim fun a1 h1=>h1.elim fun a2 h2=>h2.elim fun a3 h3=>h3.elim fun a4 h4=>h4.elim fun a5 h5=>h5.elim fun a6 h6=>k a0 a1 a2 a3 a4 a5 a6 h6.1 h6.2.1 h6.2.2.1 h6.2.2.2
theorem ea7_6.{u0,u1,u2,u3,u4,u5,u6} {α0:Sort u0} {α1:Sort u1} {α2:Sort u2} {α3:Sort u3} {α4:Sort u4} {α5:Sort u5} {α6:Sort u6} {P0 P1 P2 P3 P4 P5:α0->α1->α2->α3->α4->α5->α6->Prop} {G:Prop} (h:∃ a0 a1 a2 a3 a4 a5 a6,P0 a0 a1 a2 a3 a4 a5 a6/\P1 a0 a1 a2 a3 a4 a5 a6/\P2 a0 a1 a2 a3 a4 a5 a6/\P3 a0 a1 a2 a3 a4 a5 a6/\P4 a0 a1 a2 a3 a4 a5 a6/\P5 a0 a1 a2 a3 a4 a5 a6) (k:∀ a0 a1 a2 a3 a4 a5 a6,P0 a0 a1 a2 a3 a4 a5 a6->P1 a0 a1 a2 a3 a4 a5 a6->P2 a0 a1 a2 a3 a4 a5 a6->P3 a0 a1 a2 a3 a4 a5 a6->P4 a0 a1 a2 a3 a4 a5 a6->P5 a0 a1 a2 a3 a4 a5 a6->G):G:=h.elim fun a0 h0=>h0.elim fun a1 h1=>h1.elim fun a2 h2=>h2.elim fun a3 h3=>h3.elim fun a4 h4=>h4.elim fun a5 h5=>h5.elim fun a6 h6=>k a0 a1 a2 a3 a4 a5 a6 h6.1 h6.2.1 h6.2.2.1 h6.2.2.2.1 h6.2.2.2.2.1 h6.2.2.2.2.2
theorem ea8_3.{u0,u1,u2,u3,u4,u5,u6,u7} {α0:Sort u0} {α1:Sort u1} {α2:Sort u2} {α3:Sort u3} {α4:Sort u4} {α5:Sort u5} {α6:Sort u6} {α7:Sort u7} {P0 P1 P2:α0->α1->α2->α3->α4->α5->α6->α7->Prop} {G:Prop} (h:∃ a0 a1 a2 a3 a4 a5 a6 a7,P0 a0 a1 a2 a3 a4 a5 a6 a7/\P1 a0 a1 a2 a3 a4 a5 a6 a7/\P2 a0 a1 a2 a3 a4 a5 a6 a7) (k:∀ a0 a1 a2 a3 a4 a5 a6 a7,P0 a0 a1 a2 a3 a4 a5 a6 a7->P1 a0 a1 a2 a3 a4 a5 a6 a7->P2 a0 a1 a2 a3 a4 a5 a6 a7->G):G:=h.elim fun a0 h0=>h0.elim fun a1 h1=>h1.elim fun a2 h2=>h2.elim fun a3 h3=>h3.elim fun a4 h4=>h4.elim fun a5 h5=>h5.elim fun a6 h6=>h6.elim fun a7 h7=>k a0 a1 a2 a3 a4 a5 a6 a7 h7.1 h7.2.1 h7.2.2
theorem ea8_7.{u0,u1,u2,u3,u4,u5,u6,u7} {α0:Sort u0} {α1:Sort u1} {α2:Sort u2} {α3:Sort u3} {α4:Sort u4} {α5:Sort u5} {α6:Sort u6} {α7:Sort u7} {P0 P1 P2 P3 P4 P5 P6:α0->α1->α2->α3->α4->α5->α6->α7->Prop} {G:Prop} (h:∃ a0 a1 a2 a3 a4 a5 a6 a7,P0 a0 a1 a2 a3 a4 a5 a6 a7/\P1 a0 a1 a2 a3 a4 a5 a6 a7/\P2 a0 a1 a2 a3 a4 a5 a6 a7/\P3 a0 a1 a2 a3 a4 a5 a6 a7/\P4 a0 a1 a2 a3 a4 a5 a6 a7/\P5 a0 a1 a2 a3 a4 a5 a6 a7/\P6 a0 a1 a2 a3 a4 a5 a6 a7) (k:∀ a0 a1 a2 a3 a4 a5 a6 a7,P0 a0 a1 a2 a3 a4 a5 a6 a7->P1 a0 a1 a2 a3 a4 a5 a6 a7->P2 a0 a1 a2 a3 a4 a5 a6 a7->P3 a0 a1 a2 a3 a4 a5 a6 a7->P4 a0 a1 a2 a3 a4 a5 a6 a7->P5 a0 a1 a2 a3 a4 a5 a6 a7->P6 a0 a1 a2 a3 a4 a5 a6 a7->G):G:=h.elim fun a0 h0=>h0.elim fun a1 h1=>h1.elim fun a2 h2=>h2.elim fun a3 h3=>h3.elim fun a4 h4=>h4.elim fun a5 h5=>h5.elim fun a6 h6=>h6.elim fun a7 h7=>k a0 a1 a2 a3 a4 a5 a6 a7 h7.1 h7.2.1 h7.2.2.1 h7.2.2.2.1 h7.2.2.2.2.1 h7.2.2.2.2.2.1 h7.2.2.2.2.2.2
theorem ex1.{u0} {α0:Sort u0} {P:α0->Prop} {G:Prop} (h:∃ a0,P a0) (k:∀ a0,P a0->G):G:=h.elim fun a0 h0=>k a0 h0
theorem ex2.{u0,u1} {α0:Sort u0} {α1:Sort u1} {P:α0->α1->Prop} {G:Prop} (h:∃ a0 a1,P a0 a1) (k:∀ a0 a1,P a0 a1->G):G:=h.elim fun a0 h0=>h0.elim fun a1 h1=>k a0 a1 h1
theorem ex4.{u0,u1,u2,u3} {α0:Sort u0} {α1:Sort u1} {α2:Sort u2} {α3:Sort u3} {P:α0->α1->α2->α3->Prop} {G:Prop} (h:∃ a0 a1 a2 a3,P a0 a1 a2 a3) (k:∀ a0 a1 a2 a3,P a0 a1 a2 a3->G):G:=h.elim fun a0 h0=>h0.elim fun a1 h1=>h1.elim fun a2 h2=>h2.elim fun a3 h3=>k a0 a1 a2 a3 h3
theorem ex5.{u0,u1,u2,u3,u4} {α0:Sort u0} {α1:Sort u1} {α2:Sort u2} {α3:Sort u3} {α4:Sort u4} {P:α0->α1->α2->α3->α4->Prop} {G:Prop} (h:∃ a0 a1 a2 a3 a4,P a0 a1 a2 a3 a4) (k:∀ a0 a1 a2 a3 a4,P a0 a1 a2 a3 a4->G):G:=h.elim fun a0 h0=>h0.elim fun a1 h1=>h1.elim fun a2 h2=>h2.elim fun a3 h3=>h3.elim fun a4 h4=>k a0 a1 a2 a3 a4 h4
theorem ex8.{u0,u1,u2,u3,u4,u5,u6,u7} {α0:Sort u0} {α1:Sort u1} {α2:Sort u2} {α3:Sort u3} {α4:Sort u4} {α5:Sort u5} {α6:Sort u6} {α7:Sort u7} {P:α0->α1->α2->α3->α4->α5->α6->α7->Prop} {G:Prop} (h:∃ a0 a1 a2 a3 a4 a5 a6 a7,P a0 a1 a2 a3 a4 a5 a6 a7) (k:∀ a0 a1 a2 a3 a4 a5 a6 a7,P a0 a1 a2 a3 a4 a5 a6 a7->G):G:=h.elim fun a0 h0=>h0.elim fun a1 h1=>h1.elim fun a2 h2=>h2.elim fun a3 h3=>h3.elim fun a4 h4=>h4.elim fun a5 h5=>h5.elim fun a6 h6=>h6.elim fun a7 h7=>k a0 a1 a2 a3 a4 a5 a6 a7 h7
@[elab_as_elim] theorem rwm.{u} {α:Sort u} {a b:α} {motive:α->Prop} (h:a=b) (m:motive b):motive a:=by subst h; exact m
@[elab_as_elim] theorem rwn.{u} {α:Sort u} {a b:α} {motive:α->Prop} (h:b=a) (m:motive b):motive a:=by subst h; exact m
theorem ix2.{u0,u1} {α0:Sort u0} {α1:Sort u1} {P:α0->α1->Prop} (a0:α0) (a1:α1) (h:P a0 a1):∃ a0 a1,P a0 a1:=⟨a0,⟨a1,h⟩⟩
theorem ix3.{u0,u1,u2} {α0:Sort u0} {α1:Sort u1} {α2:Sort u2} {P:α0->α1->α2->Prop} (a0:α0) (a1:α1) (a2:α2) (h:P a0 a1 a2):∃ a0 a1 a2,P a0 a1 a2:=⟨a0,⟨a1,⟨a2,h⟩⟩⟩
theorem ix4.{u0,u1,u2,u3} {α0:Sort u0} {α1:Sort u1} {α2:Sort u2} {α3:Sort u3} {P:α0->α1->α2->α3->Prop} (a0:α0) (a1:α1) (a2:α2) (a3:α3) (h:P a0 a1 a2 a3):∃ a0 a1 a2 a3,P a0 a1 a2 a3:=⟨a0,⟨a1,⟨a2,⟨a3,h⟩⟩⟩⟩
theorem ix5.{u0,u1,u2,u3,u4} {α0:Sort u0} {α1:Sort u1} {α2:Sort u2} {α3:Sort u3} {α4:Sort u4} {P:α0->α1->α2->α3->α4->Prop} (a0:α0) (a1:α1) (a2:α2) (a3:α3) (a4:α4) (h:P a0 a1 a2 a3 a4):∃ a0 a1 a2 a3 a4,P a0 a1 a2 a3 a4:=⟨a0,⟨a1,⟨a2,⟨a3,⟨a4,h⟩⟩⟩⟩⟩
theorem ix7.{u0,u1,u2,u3,u4,u5,u6} {α0:Sort u0} {α1:Sort u1} {α2:Sort u2} {α3:Sort u3} {α4:Sort u4} {α5:Sort u5} {α6:Sort u6} {P:α0->α1->α2->α3->α4->α5->α6->Prop} (a0:α0) (a1:α1) (a2:α2) (a3:α3) (a4:α4) (a5:α5) (a6:α6) (h:P a0 a1 a2 a3 a4 a5 a6):∃ a0 a1 a2 a3 a4 a5 a6,P a0 a1 a2 a3 a4 a5 a6:=⟨a0,⟨a1,⟨a2,⟨a3,⟨a4,⟨a5,⟨a6,h⟩⟩⟩⟩⟩⟩⟩
theorem nos {β:Type} {r:β} {G:Prop} (h:(none:Option β)=some r):G:=by cases h
section
variable {σ σ':H} {β:Type} {r:V × H} {G:Prop} {v x u:V}
theorem if_s {c:Prop} [d:Decidable c] {a:Option β} {r:β} (h:(if c then a else none)=some r) (k:c->a=some r->G):G:=by
 by_cases z:c
 ·exact k z ((if_pos z).symm.trans h)
 ·exact nos ((if_neg z).symm.trans h)
theorem if_n {c:Prop} [d:Decidable c] {a:Option β} {r:β} (h:(if c then none else a)=some r) (k:¬ c->a=some r->G):G:=by
 by_cases z:c
 ·exact nos ((if_pos z).symm.trans h)
 ·exact k z ((if_neg z).symm.trans h)
theorem mp_s {α:Type} {o:Option α} {f:α->β} {r:β} (h:o.map f=some r) (k:∀ a,o=some a->f a=r->G):G:=by
 induction o with
 | none=>exact nos h
 | some a=>exact k a rfl (Option.some.inj h)
theorem mp_b {α:Type} {o:Option α} {f:α->Option β} {r:β} (h:o.bind f=some r) (k:∀ a,o=some a->f a=some r->G):G:=by
 induction o with
 | none=>exact nos h
 | some a=>exact k a rfl h
theorem lstF {o:Option O} {f:List V->Option β} {r:β} (e:(match o with | some (.list false xs)=>f xs | _=>none)=some r) (k:∀ xs,o=some (.list false xs)->f xs=some r->G):G:=by
 induction o with
 | none=>exact nos e
 | some q=>induction q with
  | list fz xs=>induction fz with
   | false=>exact k xs rfl e
   | true=>exact nos e
  | inst=>exact nos e
theorem lstA {o:Option O} {f:List V->Option β} {r:β} (e:(match o with | some (.list _ xs)=>f xs | _=>none)=some r) (k:∀ fz xs,o=some (.list fz xs)->f xs=some r->G):G:=by
 induction o with
 | none=>exact nos e
 | some q=>induction q with
  | list fz xs=>exact k fz xs rfl e
  | inst=>exact nos e
theorem insA {o:Option O} {f:Nat->List (Nat × V)->Option β} {r:β} (e:(match o with | some (.inst c fs)=>f c fs | _=>none)=some r) (k:∀ c fs,o=some (.inst c fs)->f c fs=some r->G):G:=by
 induction o with
 | none=>exact nos e
 | some q=>induction q with
  | inst c fs=>exact k c fs rfl e
  | list=>exact nos e
theorem two {o o':Option (List Int)} {f:List Int->List Int->Option β} {r:β} (e:(match o,o' with | some a,some b=>f a b | _,_=>none)=some r) (k:∀ a b,o=some a->o'=some b->f a b=some r->G):G:=by
 induction o with
 | none=>exact nos e
 | some a=>induction o' with
  | none=>exact nos e
  | some b=>exact k a b rfl rfl e
theorem addF {op:Op} {o o':Option O} {f:List V->List V->Option β} {r:β} (e:(match op,o,o' with | .add,some (.list false xs),some (.list false ys)=>f xs ys | _,_,_=>none)=some r)
  (k:∀ xs ys,op = .add->o=some (.list false xs)->o'=some (.list false ys)->f xs ys=some r->G):G:=by
 induction op with
 | add=>induction o with
  | none=>exact nos e
  | some q=>induction q with
   | inst=>exact nos e
   | list fz xs=>induction fz with
    | true=>exact nos e
    | false=>induction o' with
     | none=>exact nos e
     | some q=>induction q with
      | inst=>exact nos e
      | list fz ys=>induction fz with
       | true=>exact nos e
       | false=>exact k xs ys rfl rfl rfl e
 | _=>exact nos e
theorem mulF {op:Op} {o:Option O} {f:V->Option β} {r:β} (e:(match op,o with | .mul,some (.list false [x])=>f x | _,_=>none)=some r) (k:∀ x,op = .mul->o=some (.list false [x])->f x=some r->G):G:=by
 induction op with
 | mul=>induction o with
  | none=>exact nos e
  | some q=>induction q with
   | inst=>exact nos e
   | list fz xs=>induction fz with
    | true=>exact nos e
    | false=>cases xs with
     | nil=>exact nos e
     | cons y xs=>cases xs with
      | nil=>exact k y rfl rfl e
      | cons=>exact nos e
 | _=>exact nos e
theorem binV_i {op:Op} (e:binV op v x σ=some r) (k1:∀ a b,v = .int a->x = .int b->(binI op a b).map (fun i=>(V.int i,σ))=some r->G)
  (k2:∀ a b xs ys,v = .ref a->x = .ref b->op = .add->σ[a]? = some (.list false xs)->σ[b]? = some (.list false ys)->xs.length+ys.length<=LIM->some (V.ref σ.length,σ++[.list false (xs++ys)])=some r->G)
  (k3:∀ a n y,v = .ref a->x = .int n->op = .mul->σ[a]? = some (.list false [y])->0<=n/\n<=1000->some (V.ref σ.length,σ++[.list false (List.replicate n.toNat y)])=some r->G):G:=by
 induction v with
 | int a=>induction x with
  | int b=>exact k1 a b rfl rfl e
  | _=>exact nos e
 | ref a=>induction x with
  | ref b=>exact addF e fun xs ys h1 h2 h3 e=>if_s e fun z e=>k2 a b xs ys rfl rfl h1 h2 h3 z e
  | int n=>exact mulF e fun y h1 h2 e=>if_s e fun z e=>k3 a n y rfl rfl h1 h2 z e
  | _=>exact nos e
 | _=>exact nos e
theorem augO_i {op:Op} (e:augO op v x σ=some r) (k1:∀ a b,v = .int a->x = .int b->(binI op a b).map (fun i=>(V.int i,σ))=some r->G)
  (k2:∀ a b xs ys,v = .ref a->x = .ref b->op = .add->σ[a]? = some (.list false xs)->σ[b]? = some (.list false ys)->xs.length+ys.length<=LIM/\a≠b->some (V.ref a,σ.set a (.list false (xs++ys)))=some r->G):G:=by
 induction v with
 | int a=>induction x with
  | int b=>exact k1 a b rfl rfl e
  | _=>exact nos e
 | ref a=>induction x with
  | ref b=>exact addF e fun xs ys h1 h2 h3 e=>if_s e fun z e=>k2 a b xs ys rfl rfl h1 h2 h3 z e
  | _=>exact nos e
 | _=>exact nos e
theorem lst2 {o o':Option O} {f:List V->List V->Option β} {r:β} (e:(match o,o' with | some (.list _ xs),some (.list _ ys)=>f xs ys | _,_=>none)=some r)
  (k:∀ fz xs fy ys,o=some (.list fz xs)->o'=some (.list fy ys)->f xs ys=some r->G):G:=by
 induction o with
 | none=>exact nos e
 | some q=>induction q with
  | inst=>exact nos e
  | list fz xs=>induction o' with
   | none=>exact nos e
   | some q=>induction q with
    | inst=>exact nos e
    | list fy ys=>exact k fz xs fy ys rfl rfl e
theorem eqV_i {b:Bool} (e:eqV σ v x=some b) (k1:∀ i j,v = .int i->x = .int j->some (i==j)=some b->G)
  (k2:∀ a c fz xs fy ys is js,v = .ref a->x = .ref c->σ[a]? = some (.list fz xs)->σ[c]? = some (.list fy ys)->toIs xs=some is->toIs ys=some js->some (is==js)=some b->G)
  (k3:∀ xs ys is js,v = .tup xs->x = .tup ys->atoIs xs=some is->atoIs ys=some js->some (is==js)=some b->G):G:=by
 induction v with
 | int i=>induction x with
  | int j=>exact k1 i j rfl rfl e
  | _=>exact nos e
 | ref a=>induction x with
  | ref c=>exact lst2 e fun fz xs fy ys h1 h2 e=>two e fun is js h3 h4 e=>k2 a c fz xs fy ys is js rfl rfl h1 h2 h3 h4 e
  | _=>exact nos e
 | tup xs=>induction x with
  | tup ys=>exact two e fun is js h1 h2 e=>k3 xs ys is js rfl rfl h1 h2 e
  | _=>exact nos e
 | _=>exact nos e
theorem inV_i {b:Bool} (e:inV σ v x=some b) (k:∀ i a fz xs is,v = .int i->x = .ref a->σ[a]? = some (.list fz xs)->toIs xs=some is->is.contains i=b->G):G:=by
 induction v with
 | int i=>induction x with
  | ref a=>exact lstA e fun fz xs h1 e=>mp_s e fun is h2 e=>k i a fz xs is rfl rfl h1 h2 e
  | _=>exact nos e
 | _=>exact nos e
theorem ii {f:Int->Int->β} {r:β} (e:(match v,x with | .int a,.int b=>some (f a b) | _,_=>none)=some r) (k:∀ a b,v = .int a->x = .int b->f a b=r->G):G:=by
 induction v with
 | int i=>induction x with
  | int j=>exact k i j rfl rfl (Option.some.inj e)
  | _=>exact nos e
 | _=>exact nos e
theorem truth_i {b:Bool} (e:truth σ v=some b) (k1:v = .bool b->G) (k2:∀ i,v = .int i->(i != 0)=b->G) (k3:∀ a fz xs,v = .ref a->σ[a]? = some (.list fz xs)->(!xs.isEmpty)=b->G):G:=by
 induction v with
 | bool c=>exact k1 (congrArg V.bool (Option.some.inj e))
 | int i=>exact k2 i rfl (Option.some.inj e)
 | ref a=>exact lstA e fun fz xs h e=>k3 a fz xs rfl h (Option.some.inj e)
 | _=>exact nos e
theorem getI_i (e:getI σ v x=some u) (k1:∀ a n fz xs,v = .ref a->x = .int n->¬ n<0->σ[a]? = some (.list fz xs)->xs[n.toNat]? = some u->G)
  (k2:∀ xs n z,v = .tup xs->x = .int n->¬ n<0->xs[n.toNat]? = some z->z.toV=u->G):G:=by
 induction v with
 | ref a=>induction x with
  | int n=>exact if_n e fun z e=>lstA e fun fz xs h e=>k1 a n fz xs rfl rfl z h e
  | _=>exact nos e
 | tup xs=>induction x with
  | int n=>exact if_n e fun z e=>mp_s e fun y h e=>k2 xs n y rfl rfl z h e
  | _=>exact nos e
 | _=>exact nos e
theorem setI_i {r:H} (e:setI σ v x u=some r) (k:∀ a n xs,v = .ref a->x = .int n->¬ n<0->σ[a]? = some (.list false xs)->n.toNat<xs.length->some (σ.set a (.list false (xs.set n.toNat u)))=some r->G):G:=by
 induction v with
 | ref a=>induction x with
  | int n=>exact if_n e fun z e=>lstF e fun xs h e=>if_s e fun z' e=>k a n xs rfl rfl z h z' e
  | _=>exact nos e
 | _=>exact nos e
theorem attrOf_i {f:Nat} (e:attrOf σ v f=some u) (k:∀ a c fs,v = .ref a->σ[a]? = some (.inst c fs)->fs.lookup f=some u->G):G:=by
 induction v with
 | ref a=>exact insA e fun c fs h e=>k a c fs rfl h e
 | _=>exact nos e
theorem attrSet_i {f:Nat} {r:H} (e:attrSet σ v f u=some r) (k:∀ a c fs,v = .ref a->σ[a]? = some (.inst c fs)->fs.length<100->some (σ.set a (.inst c (putF fs f u)))=some r->G):G:=by
 induction v with
 | ref a=>exact insA e fun c fs h e=>if_s e fun z e=>k a c fs rfl h z e
 | _=>exact nos e
theorem sliceV_i {z:Option V} (e:sliceV σ v x z=some r) (k:∀ a l fz xs ys,v = .ref a->x = .int l->σ[a]? = some (.list fz xs)->0<=l->sliceXs xs l.toNat z=some ys->(V.ref σ.length,σ++[.list false ys])=r->G):G:=by
 induction v with
 | ref a=>induction x with
  | int l=>exact lstA e fun fz xs h e=>if_s e fun z e=>mp_s e fun ys h' e=>k a l fz xs ys rfl rfl h z h' e
  | _=>exact nos e
 | _=>exact nos e
theorem sliceXs_i {xs ys:List V} {l:Nat} {z:Option V} (e:sliceXs xs l z=some ys) (k1:z=none->xs.drop l=ys->G) (k2:∀ h,z=some (.int h)->l<=h.toNat/\0<=h->(xs.drop l).take (h.toNat - l)=ys->G):G:=by
 induction z with
 | none=>exact k1 rfl (Option.some.inj e)
 | some w=>induction w with
  | int h=>exact if_s e fun z e=>k2 h rfl z (Option.some.inj e)
  | _=>exact nos e
theorem items_i {xs:List V} (e:items σ v=some xs) (k1:∀ lo hi st is,v = .rng lo hi st->lo.natAbs<=LIM/\hi.natAbs<=LIM->rngItems lo hi st=some is->is.map V.int=xs->G)
  (k2:∀ as,v = .tup as->as.map A.toV=xs->G) (k3:∀ a fz,v = .ref a->σ[a]? = some (.list fz xs)->G):G:=by
 induction v with
 | rng lo hi st=>exact if_s e fun z e=>mp_s e fun is h e=>k1 lo hi st is rfl z h e
 | tup as=>exact k2 as rfl (Option.some.inj e)
 | ref a=>exact lstA e fun fz ys h e=>k3 a fz rfl (by cases e; exact h)
 | _=>exact nos e
theorem meF {m:Me} {o:Option O} {f1 f2 f3:List V->Option β} {r:β} (e:(match m,o with | .append,some (.list false xs)=>f1 xs | .index,some (.list false xs)=>f2 xs | .count,some (.list false xs)=>f3 xs | _,_=>none)=some r)
  (k:∀ xs,o=some (.list false xs)->(match m with | .append=>f1 xs | .index=>f2 xs | .count=>f3 xs)=some r->G):G:=by
 induction o with
 | none=>cases m <;> exact nos e
 | some q=>induction q with
  | inst=>cases m <;> exact nos e
  | list fz xs=>induction fz with
   | true=>cases m <;> exact nos e
   | false=>cases m <;> exact k xs rfl e
theorem xi {o:Option (List Int)} {f:Int->List Int->Option β} {r:β} (e:(match x,o with | .int i,some is=>f i is | _,_=>none)=some r) (k:∀ i is,x = .int i->o=some is->f i is=some r->G):G:=by
 induction x with
 | int i=>induction o with
  | none=>exact nos e
  | some is=>exact k i is rfl rfl e
 | _=>exact nos e
theorem methV_i {m:Me} (e:methV m v x σ=some r) (k1:∀ a xs,v = .ref a->σ[a]? = some (.list false xs)->m = .append->xs.length<LIM->some (V.none,σ.set a (.list false (xs++[x])))=some r->G)
  (k2:∀ a xs i is,v = .ref a->σ[a]? = some (.list false xs)->m = .index->x = .int i->toIs xs=some is->(findI i is 0).map (fun (n:Nat)=>(V.int (n:Int),σ))=some r->G)
  (k3:∀ a xs i is,v = .ref a->σ[a]? = some (.list false xs)->m = .count->x = .int i->toIs xs=some is->some (V.int (is.count i),σ)=some r->G):G:=by
 induction v with
 | ref a =>
  refine meF e fun xs h e => ?_
  induction m with
   | append=>exact if_s e fun z e=>k1 a xs rfl h rfl z e
   | index=>exact xi e fun i is h1 h2 e=>k2 a xs i is rfl h rfl h1 h2 e
   | count=>exact xi e fun i is h1 h2 e=>k3 a xs i is rfl h rfl h1 h2 e
 | _=>exact nos e
theorem toIs_map:∀ {vs:List V} {is:List Int},toIs vs=some is->vs=is.map V.int
 | [],is,e=>by cases e; rfl
 | v::vs,is,e=>by
  have e:(match v.toI,toIs vs with | some a,some as=>some (a::as) | _,_=>none)=some is:=e
  cases h:toIs vs with
  | none=>rw [h] at e; cases q:v.toI <;> (rw [q] at e; exact nos e)
  | some js =>
   rw [h] at e
   cases v with
   | int i=>cases e; rw [toIs_map h]; rfl
   | _=>exact nos e
theorem bi_i {f:List Int->Option V} {vs:List V} (e:((toIs vs).bind f).map (fun v=>(v,σ))=some r) (k:∀ is w,vs=is.map V.int->f is=some w->(w,σ)=r->G):G :=
 mp_s e fun w h e=>mp_b h fun is h h'=>k is w (toIs_map h) h' e
theorem bi2_i {f:Int->Int->Int} {is:List Int} (e:bi2 f is=some u) (k:∀ a b,is=[a,b]->V.int (f a b)=u->G):G:=by
 rcases is with _ | ⟨a,_ | ⟨b,_ | _⟩⟩ <;> first | exact nos e | exact k a b rfl (Option.some.inj e)
theorem bi1_i {is:List Int} (e:bi1 is=some u) (k:∀ a,is=[a]->V.int a.natAbs=u->G):G:=by
 rcases is with _ | ⟨a,_ | _⟩ <;> first | exact nos e | exact k a rfl (Option.some.inj e)
theorem biR_i {is:List Int} (e:biR is=some u) (k1:∀ a,is=[a]->V.rng 0 a 1=u->G) (k2:∀ a b,is=[a,b]->V.rng a b 1=u->G) (k3:∀ a b c,is=[a,b,c]->c=1\/c = -1->V.rng a b c=u->G):G:=by
 rcases is with _ | ⟨a,_ | ⟨b,_ | ⟨c,_ | _⟩⟩⟩
 ·exact nos e
 ·exact k1 a rfl (Option.some.inj e)
 ·exact k2 a b rfl (Option.some.inj e)
 ·exact if_s e fun z e=>k3 a b c rfl z (Option.some.inj e)
 ·exact nos e
theorem biL_i {vs:List V} (e:biL vs σ=some r) (k:∀ a fz xs,vs=[.ref a]->σ[a]? = some (.list fz xs)->(V.int xs.length,σ)=r->G):G:=by
 rcases vs with _ | ⟨v,vs⟩
 ·exact nos e
 ·induction v with
  | ref a=>cases vs with
   | nil=>exact lstA e fun fz xs h e=>k a fz xs rfl h (Option.some.inj e)
   | cons=>exact nos e
  | _=>exact nos e
theorem biC_i {vs:List V} (e:biC vs σ=some r) (k:∀ lo hi st xs,vs=[.rng lo hi st]->items σ (.rng lo hi st)=some xs->xs.length<=LIM->(V.ref σ.length,σ++[.list false xs])=r->G):G:=by
 rcases vs with _ | ⟨v,vs⟩
 ·exact nos e
 ·induction v with
  | rng lo hi st=>cases vs with
   | nil =>
    have e:(match items σ (.rng lo hi st) with | some xs=>if xs.length<=LIM then some (V.ref σ.length,σ++[.list false xs]) else none | none=>none)=some r:=e
    cases q:items σ (.rng lo hi st) with
    | none=>rw [q] at e; exact nos e
    | some xs=>rw [q] at e; exact if_s e fun z e=>k lo hi st xs rfl q z (Option.some.inj e)
   | cons=>exact nos e
  | _=>exact nos e
theorem atoIs_map:∀ {vs:List A} {is:List Int},atoIs vs=some is->vs=is.map A.int
 | [],is,e=>by cases e; rfl
 | v::vs,is,e=>by
  have e:(match v.toI,atoIs vs with | some a,some as=>some (a::as) | _,_=>none)=some is:=e
  cases h:atoIs vs with
  | none=>rw [h] at e; cases q:v.toI <;> (rw [q] at e; exact nos e)
  | some js =>
   rw [h] at e
   cases v with
   | int i=>cases e; rw [atoIs_map h]; rfl
   | _=>exact nos e
theorem toAs_map:∀ {vs:List V} {as:List A},toAs vs=some as->vs=as.map A.toV
 | [],as,e=>by cases e; rfl
 | v::vs,as,e=>by
  have e:(match v.toA,toAs vs with | some a,some as=>some (a::as) | _,_=>none)=some as:=e
  cases h:toAs vs with
  | none=>rw [h] at e; cases q:v.toA <;> (rw [q] at e; exact nos e)
  | some js =>
   rw [h] at e
   cases v with
   | none=>cases e; rw [toAs_map h]; rfl
   | int i=>cases e; rw [toAs_map h]; rfl
   | ref i=>cases e; rw [toAs_map h]; rfl
   | _=>exact nos e
end
end Mob
section
local macro_rules | `(tactic| exists $xs,*)=>do
 let ws:=[`ne_sh,`ne_ar,`ne_w,`ne_wd,`ne_E,`ne_Es,`ne_Gs,`ne_S,`ne_Ss,`ne_Op,`ne_Cm,`ne_Bi,`ne_Me,`ne_md,`ne_Fn].toArray.map fun n=>Lean.mkIdent (`Mob++n)
 let ni <- `(tactic| first | infer_instance $[| exact $ws]*)
 let us <- `(_)
 let uh <- `(?_)
 let mut L:Array Lean.Ident:=xs.getElems.map fun x=>⟨x⟩
 let mut ts:Array (Lean.TSyntax `tactic) := #[]
 for n in [8,8,8,4,2,1] do
  if n<=L.size then
   let s:=if n==1 then "" else toString n
   let e <- `(@$(Lean.mkIdent (.str `Mob ("eps" ++ toString n))))
   let ap:=Lean.Syntax.mkApp e (Array.replicate n us++Array.replicate n uh)
   let mut g:=Lean.Syntax.mkApp (Lean.mkIdent (.str `Mob ("gen" ++ s))) (Array.replicate (n+1) us)
   let mut gs:Array (Lean.TSyntax `tactic):=Array.replicate n ni
   let mut os:Array (Lean.TSyntax `tactic) := #[]
   for k in [0:n] do
    let x:=L[k]!
    let t <- if k+1==n then pure g else `(Prod.fst $g)
    gs:=gs.push (<- `(tactic| generalize $t = $x:ident))
    g <- `(Prod.snd $g)
    os:=os.push (<- `(tactic| exists $x))
   if n==1 then os := #[<- `(tactic| intro $(L[0]!):ident)]
   ts:=ts.push (<- `(tactic| first | (apply $ap; rotate_left; ($[$gs]*)) | ($[$os]*)))
   L:=L.extract n L.size
 `(tactic| ($[$ts]*))
local macro_rules | `(tactic| rw [$rs,*])=>do
 let m:=Lean.mkIdent `Mob.rwm
 let n:=Lean.mkIdent `Mob.rwn
 let ts <- rs.getElems.mapM fun r=>do
  let mut as:Array (Lean.TSyntax `tactic) := #[]
  let back:=r.raw[0].getNumArgs != 0
  let f:=if back then n else m
  let mut t:Lean.Term:=⟨r.raw[1]⟩
  for _ in [0:4] do
   as:=as.push (<- `(tactic| refine $f $t ?_))
   t <- `($t _)
  `(tactic| first $[| $as:tactic]* | rewrite [$r])
 `(tactic| ($[$ts]*; with_reducible try rfl))
namespace Mob
noncomputable def b_side_of:Ss:=(.cons (.ret (.bin .shr (.var 0) (.int 3)))
 .nil)
noncomputable def f_side_of:Fn:=⟨1,1,b_side_of⟩
noncomputable def b_kind_of:Ss:=(.cons (.ret (.bin .band (.var 0) (.int 7)))
 .nil)
noncomputable def f_kind_of:Fn:=⟨1,1,b_kind_of⟩
noncomputable def b_count_bits:Ss:=(.cons (.asg 1 (.int 0))
 (.cons (.whl (.var 0) (.cons (.augV 0 .band (.bin .sub (.var 0) (.int 1)))
 (.cons (.augV 1 .add (.int 1))
 .nil)))
 (.cons (.ret (.var 1))
 .nil)))
noncomputable def f_count_bits:Fn:=⟨1,2,b_count_bits⟩
noncomputable def b_more_than_one:Ss:=(.cons (.ret (.cmp .ne (.bin .band (.var 0) (.bin .sub (.var 0) (.int 1))) (.int 0)))
 .nil)
noncomputable def f_more_than_one:Fn:=⟨1,1,b_more_than_one⟩
noncomputable def b_highest:Ss:=(.cons (.ite (.cmp .eq (.var 0) (.int 0)) (.cons (.ret (.neg (.int 1)))
 .nil) .nil)
 (.cons (.asg 1 (.int 1))
 (.cons (.whl (.bin .shr (.var 0) (.var 1)) (.cons (.augV 1 .mul (.int 2))
 .nil))
 (.cons (.asg 2 (.int 0))
 (.cons (.whl (.cmp .gt (.var 1) (.int 1)) (.cons (.augV 1 .fdiv (.int 2))
 (.cons (.ite (.bin .shr (.var 0) (.var 1)) (.cons (.augV 0 .shr (.var 1))
 (.cons (.augV 2 .add (.var 1))
 .nil)) .nil)
 .nil)))
 (.cons (.ret (.var 2))
 .nil))))))
noncomputable def f_highest:Fn:=⟨1,3,b_highest⟩
noncomputable def b_lowest:Ss:=(.cons (.ret (.call 4 (.cons (.bin .band (.var 0) (.neg (.var 0))) .nil)))
 .nil)
noncomputable def f_lowest:Fn:=⟨1,1,b_lowest⟩
noncomputable def b_squares_of:Ss:=(.cons (.asg 1 (.list .nil))
 (.cons (.asg 2 (.int 0))
 (.cons (.whl (.var 0) (.cons (.whl (.not (.bin .band (.var 0) (.int 15))) (.cons (.augV 0 .shr (.int 4))
 (.cons (.augV 2 .add (.int 4))
 .nil)))
 (.cons (.ite (.bin .band (.var 0) (.int 1)) (.cons (.expr (.meth .append (.var 1) (.var 2)))
 .nil) .nil)
 (.cons (.augV 0 .shr (.int 1))
 (.cons (.augV 2 .add (.int 1))
 .nil)))))
 (.cons (.ret (.var 1))
 .nil))))
noncomputable def f_squares_of:Fn:=⟨1,3,b_squares_of⟩
noncomputable def b_direction:Ss:=(.cons (.for_ [3] (.bi .range (.cons (.int 8) .nil)) (.cons (.ite (.bin .band (.bin .shr (.sub (.sub (.attr (.var 0) 0) (.var 3)) (.var 1)) (.var 2)) (.int 1)) (.cons (.ret (.var 3))
 .nil) .nil)
 .nil))
 (.cons (.ret (.neg (.int 1)))
 .nil))
noncomputable def f_direction:Fn:=⟨3,4,b_direction⟩
noncomputable def b_between:Ss:=(.cons (.asg 3 (.call 7 (.cons (.var 0) (.cons (.var 1) (.cons (.var 2) .nil)))))
 (.cons (.ite (.cmp .lt (.var 3) (.int 0)) (.cons (.ret (.int 0))
 .nil) .nil)
 (.cons (.ret (.bin .band (.sub (.sub (.attr (.var 0) 0) (.var 3)) (.var 1)) (.sub (.sub (.attr (.var 0) 0) (.bin .bxor (.var 3) (.int 2))) (.var 2))))
 .nil)))
noncomputable def f_between:Fn:=⟨3,4,b_between⟩
noncomputable def b_line:Ss:=(.cons (.asg 3 (.call 7 (.cons (.var 0) (.cons (.var 1) (.cons (.var 2) .nil)))))
 (.cons (.ite (.cmp .lt (.var 3) (.int 0)) (.cons (.ret (.int 0))
 .nil) .nil)
 (.cons (.ret (.bin .bor (.bin .bor (.sub (.sub (.attr (.var 0) 0) (.var 3)) (.var 1)) (.sub (.sub (.attr (.var 0) 0) (.bin .bxor (.var 3) (.int 2))) (.var 1))) (.bin .shl (.int 1) (.var 1))))
 .nil)))
noncomputable def f_line:Fn:=⟨3,4,b_line⟩
noncomputable def b_is_growing:Ss:=(.cons (.ret (.or (.cons (.cmp .gt (.sub (.glob 10) (.var 0)) (.int 0)) (.cons (.cmp .eq (.var 0) (.int 1)) .nil))))
 .nil)
noncomputable def f_is_growing:Fn:=⟨1,1,b_is_growing⟩
noncomputable def b_add_masks:Ss:=(.cons (.asg 1 (.bin .sub (.bin .shl (.int 1) (.attr (.var 0) 1)) (.int 1)))
 (.cons (.asg 2 (.int 0))
 (.cons (.for_ [3] (.bi .range (.cons (.attr (.var 0) 2) .nil)) (.cons (.expr (.meth .append (.attr (.var 0) 3) (.bin .shl (.var 1) (.bin .mul (.var 3) (.attr (.var 0) 1)))))
 (.cons (.augV 2 .bor (.bin .shl (.int 1) (.bin .mul (.var 3) (.attr (.var 0) 1))))
 .nil)))
 (.cons (.for_ [4] (.bi .range (.cons (.attr (.var 0) 1) .nil)) (.cons (.expr (.meth .append (.attr (.var 0) 4) (.bin .shl (.var 2) (.var 4))))
 .nil))
 .nil))))
noncomputable def f_add_masks:Fn:=⟨1,5,b_add_masks⟩
noncomputable def b_inner_squares:Ss:=(.cons (.asg 2 (.int 0))
 (.cons (.ite (.cmp .gt (.sub (.glob 9) (.var 1)) (.int 0)) (.cons (.augV 2 .bor (.sub (.attr (.var 0) 4) (.bin .sub (.attr (.var 0) 1) (.int 1))))
 .nil) .nil)
 (.cons (.ite (.cmp .lt (.sub (.glob 9) (.var 1)) (.int 0)) (.cons (.augV 2 .bor (.sub (.attr (.var 0) 4) (.int 0)))
 .nil) .nil)
 (.cons (.ite (.cmp .gt (.sub (.glob 10) (.var 1)) (.int 0)) (.cons (.augV 2 .bor (.sub (.attr (.var 0) 3) (.bin .sub (.attr (.var 0) 2) (.int 1))))
 .nil) .nil)
 (.cons (.ite (.cmp .lt (.sub (.glob 10) (.var 1)) (.int 0)) (.cons (.augV 2 .bor (.sub (.attr (.var 0) 3) (.int 0)))
 .nil) .nil)
 (.cons (.ret (.bin .band (.attr (.var 0) 5) (.inv (.var 2))))
 .nil))))))
noncomputable def f_inner_squares:Fn:=⟨2,3,b_inner_squares⟩
noncomputable def b_add_rays:Ss:=(.cons (.setA (.var 0) 7 (.bin .mul (.list (.cons (.int 0) .nil)) (.attr (.var 0) 6)))
 (.cons (.for_ [1] (.bi .range (.cons (.int 8) .nil)) (.cons (.asg 2 (.call 12 (.cons (.var 0) (.cons (.var 1) .nil))))
 (.cons (.asg 3 (.bin .add (.bin .mul (.sub (.glob 10) (.var 1)) (.attr (.var 0) 1)) (.sub (.glob 9) (.var 1))))
 (.cons (.asg 4 (.bin .mul (.list (.cons (.int 0) .nil)) (.attr (.var 0) 6)))
 (.cons (.asg 5 (.bi .range (.cons (.attr (.var 0) 6) .nil)))
 (.cons (.ite (.call 10 (.cons (.var 1) .nil)) (.cons (.asg 5 (.bi .range (.cons (.bin .sub (.attr (.var 0) 6) (.int 1)) (.cons (.neg (.int 1)) (.cons (.neg (.int 1)) .nil)))))
 .nil) .nil)
 (.cons (.for_ [6] (.var 5) (.cons (.ite (.bin .band (.bin .shr (.var 2) (.var 6)) (.int 1)) (.cons (.asg 7 (.bin .add (.var 6) (.var 3)))
 (.cons (.setI (.var 4) (.var 6) (.bin .bor (.sub (.var 4) (.var 7)) (.bin .shl (.int 1) (.var 7))))
 (.cons (.augI (.attr (.var 0) 7) (.var 6) .bor (.bin .shl (.int 1) (.var 7)))
 .nil))) .nil)
 .nil))
 (.cons (.expr (.meth .append (.attr (.var 0) 0) (.var 4)))
 .nil))))))))
 .nil))
noncomputable def f_add_rays:Fn:=⟨1,8,b_add_rays⟩
noncomputable def b_add_pawns:Ss:=(.cons (.for_ [1] (.bi .range (.cons (.attr (.var 0) 6) .nil)) (.cons (.expr (.meth .append (.sub (.attr (.var 0) 8) (.int 0)) (.bin .band (.sub (.attr (.var 0) 7) (.var 1)) (.bin .bor (.sub (.sub (.attr (.var 0) 0) (.int 4)) (.var 1)) (.sub (.sub (.attr (.var 0) 0) (.int 7)) (.var 1))))))
 (.cons (.expr (.meth .append (.sub (.attr (.var 0) 8) (.int 1)) (.bin .band (.sub (.attr (.var 0) 7) (.var 1)) (.bin .bor (.sub (.sub (.attr (.var 0) 0) (.int 5)) (.var 1)) (.sub (.sub (.attr (.var 0) 0) (.int 6)) (.var 1))))))
 .nil)))
 .nil)
noncomputable def f_add_pawns:Fn:=⟨1,2,b_add_pawns⟩
noncomputable def b_add_knights:Ss:=(.cons (.asg 1 (.attr (.var 0) 1))
 (.cons (.asg 2 (.bin .band (.attr (.var 0) 5) (.inv (.sub (.attr (.var 0) 4) (.int 0)))))
 (.cons (.asg 3 (.bin .band (.attr (.var 0) 5) (.inv (.sub (.attr (.var 0) 4) (.bin .sub (.var 1) (.int 1))))))
 (.cons (.asg 4 (.bin .band (.var 2) (.inv (.sub (.attr (.var 0) 4) (.int 1)))))
 (.cons (.asg 5 (.bin .band (.var 3) (.inv (.sub (.attr (.var 0) 4) (.bin .sub (.var 1) (.int 2))))))
 (.cons (.for_ [6] (.bi .range (.cons (.attr (.var 0) 6) .nil)) (.cons (.asg 7 (.bin .shl (.int 1) (.var 6)))
 (.cons (.asg 8 (.bin .bor (.bin .band (.bin .shl (.var 7) (.int 1)) (.var 2)) (.bin .band (.bin .shr (.var 7) (.int 1)) (.var 3))))
 (.cons (.asg 9 (.bin .bor (.bin .band (.bin .shl (.var 7) (.int 2)) (.var 4)) (.bin .band (.bin .shr (.var 7) (.int 2)) (.var 5))))
 (.cons (.asg 10 (.bin .bor (.bin .bor (.bin .bor (.bin .shl (.var 8) (.bin .mul (.int 2) (.var 1))) (.bin .shr (.var 8) (.bin .mul (.int 2) (.var 1)))) (.bin .shl (.var 9) (.var 1))) (.bin .shr (.var 9) (.var 1))))
 (.cons (.expr (.meth .append (.attr (.var 0) 9) (.bin .band (.var 10) (.attr (.var 0) 5))))
 .nil))))))
 .nil))))))
noncomputable def f_add_knights:Fn:=⟨1,11,b_add_knights⟩
noncomputable def b_add_castles:Ss:=(.cons (.setA (.var 0) 10 (.bin .mul (.list (.cons (.int 0) .nil)) (.attr (.var 0) 6)))
 (.cons (.asg 1 (.bin .fdiv (.attr (.var 0) 1) (.int 2)))
 (.cons (.for_ [2] (.bi .range (.cons (.int 4) .nil)) (.cons (.asg 3 (.bin .mul (.bin .mul (.bin .shr (.var 2) (.int 1)) (.bin .sub (.attr (.var 0) 2) (.int 1))) (.attr (.var 0) 1)))
 (.cons (.asg 4 (.bin .sub (.attr (.var 0) 1) (.int 1)))
 (.cons (.asg 5 (.int 1))
 (.cons (.ite (.bin .band (.var 2) (.int 1)) (.cons (.asg 4 (.int 0))
 (.cons (.asg 5 (.neg (.int 1)))
 .nil)) .nil)
 (.cons (.asg 6 (.bin .add (.var 1) (.bin .mul (.int 2) (.var 5))))
 (.cons (.ite (.and (.cons (.attr (.var 0) 11) (.cons (.cmp .gt (.bin .mul (.bin .sub (.var 4) (.var 6)) (.var 5)) (.int 0)) .nil))) (.cons (.expr (.meth .append (.attr (.var 0) 12) (.tup (.cons (.bin .add (.var 3) (.var 1)) (.cons (.bin .add (.var 3) (.var 6)) (.cons (.bin .add (.var 3) (.var 4)) (.cons (.bin .sub (.bin .add (.var 3) (.var 6)) (.var 5)) .nil)))))))
 (.cons (.augI (.attr (.var 0) 10) (.bin .add (.var 3) (.var 1)) .bor (.bin .shl (.int 1) (.var 2)))
 (.cons (.augI (.attr (.var 0) 10) (.bin .add (.var 3) (.var 4)) .bor (.bin .shl (.int 1) (.var 2)))
 .nil))) (.cons (.expr (.meth .append (.attr (.var 0) 12) .none))
 .nil))
 .nil)))))))
 .nil)))
noncomputable def f_add_castles:Fn:=⟨1,7,b_add_castles⟩
noncomputable def b_make_geometry:Ss:=(.cons (.ite (.or (.cons (.cmp .lt (.var 0) (.int 2)) (.cons (.cmp .gt (.var 0) (.int 8)) (.cons (.cmp .lt (.var 1) (.int 3)) (.cons (.cmp .gt (.var 1) (.int 8)) .nil))))) (.cons .fail
 .nil) .nil)
 (.cons (.asg 4 (.new 1 (.cons (.var 0) (.cons (.var 1) (.cons (.var 2) (.cons (.var 3) .nil))))))
 (.cons (.expr (.call 11 (.cons (.var 4) .nil)))
 (.cons (.expr (.call 13 (.cons (.var 4) .nil)))
 (.cons (.expr (.call 14 (.cons (.var 4) .nil)))
 (.cons (.expr (.call 15 (.cons (.var 4) .nil)))
 (.cons (.expr (.call 16 (.cons (.var 4) .nil)))
 (.cons (.ret (.var 4))
 .nil))))))))
noncomputable def f_make_geometry:Fn:=⟨4,5,b_make_geometry⟩
noncomputable def b_ray_attacks:Ss:=(.cons (.asg 4 (.sub (.sub (.attr (.var 0) 0) (.var 1)) (.var 2)))
 (.cons (.asg 5 (.bin .band (.var 4) (.var 3)))
 (.cons (.ite (.cmp .eq (.var 5) (.int 0)) (.cons (.ret (.var 4))
 .nil) .nil)
 (.cons (.ite (.call 10 (.cons (.var 1) .nil)) (.cons (.ret (.bin .band (.var 4) (.bin .bxor (.var 5) (.bin .sub (.var 5) (.int 1)))))
 .nil) .nil)
 (.cons (.asg 6 (.bin .shr (.var 5) (.int 1)))
 (.cons (.augV 6 .bor (.bin .shr (.var 6) (.int 1)))
 (.cons (.augV 6 .bor (.bin .shr (.var 6) (.int 2)))
 (.cons (.augV 6 .bor (.bin .shr (.var 6) (.int 4)))
 (.cons (.augV 6 .bor (.bin .shr (.var 6) (.int 8)))
 (.cons (.augV 6 .bor (.bin .shr (.var 6) (.int 16)))
 (.cons (.augV 6 .bor (.bin .shr (.var 6) (.int 32)))
 (.cons (.ret (.bin .band (.var 4) (.inv (.var 6))))
 .nil))))))))))))
noncomputable def f_ray_attacks:Fn:=⟨4,7,b_ray_attacks⟩
noncomputable def b_rook_attacks:Ss:=(.cons (.asg 3 (.int 0))
 (.cons (.for_ [4] (.bi .range (.cons (.int 4) .nil)) (.cons (.augV 3 .bor (.call 18 (.cons (.var 0) (.cons (.var 4) (.cons (.var 1) (.cons (.var 2) .nil))))))
 .nil))
 (.cons (.ret (.var 3))
 .nil)))
noncomputable def f_rook_attacks:Fn:=⟨3,5,b_rook_attacks⟩
noncomputable def b_bishop_attacks:Ss:=(.cons (.asg 3 (.int 0))
 (.cons (.for_ [4] (.bi .range (.cons (.int 4) (.cons (.int 8) .nil))) (.cons (.augV 3 .bor (.call 18 (.cons (.var 0) (.cons (.var 4) (.cons (.var 1) (.cons (.var 2) .nil))))))
 .nil))
 (.cons (.ret (.var 3))
 .nil)))
noncomputable def f_bishop_attacks:Fn:=⟨3,5,b_bishop_attacks⟩
noncomputable def b_queen_attacks:Ss:=(.cons (.ret (.bin .bor (.call 19 (.cons (.var 0) (.cons (.var 1) (.cons (.var 2) .nil)))) (.call 20 (.cons (.var 0) (.cons (.var 1) (.cons (.var 2) .nil))))))
 .nil)
noncomputable def f_queen_attacks:Fn:=⟨3,3,b_queen_attacks⟩
noncomputable def b_slider_attacks:Ss:=(.cons (.ite (.cmp .eq (.var 1) (.glob 4)) (.cons (.ret (.call 20 (.cons (.var 0) (.cons (.var 2) (.cons (.var 3) .nil)))))
 .nil) .nil)
 (.cons (.ite (.cmp .eq (.var 1) (.glob 5)) (.cons (.ret (.call 19 (.cons (.var 0) (.cons (.var 2) (.cons (.var 3) .nil)))))
 .nil) .nil)
 (.cons (.ite (.cmp .eq (.var 1) (.glob 6)) (.cons (.ret (.call 21 (.cons (.var 0) (.cons (.var 2) (.cons (.var 3) .nil)))))
 .nil) .nil)
 (.cons (.ret (.int 0))
 .nil))))
noncomputable def f_slider_attacks:Fn:=⟨4,4,b_slider_attacks⟩
noncomputable def b_piece_attacks:Ss:=(.cons (.ite (.cmp .eq (.var 2) (.glob 2)) (.cons (.ret (.sub (.sub (.attr (.var 0) 8) (.var 1)) (.var 3)))
 .nil) .nil)
 (.cons (.ite (.cmp .eq (.var 2) (.glob 3)) (.cons (.ret (.sub (.attr (.var 0) 9) (.var 3)))
 .nil) .nil)
 (.cons (.ite (.cmp .eq (.var 2) (.glob 7)) (.cons (.ret (.sub (.attr (.var 0) 7) (.var 3)))
 .nil) .nil)
 (.cons (.ret (.call 22 (.cons (.var 0) (.cons (.var 2) (.cons (.var 3) (.cons (.var 4) .nil))))))
 .nil))))
noncomputable def f_piece_attacks:Fn:=⟨5,5,b_piece_attacks⟩
noncomputable def b_put_piece:Ss:=(.cons (.asg 3 (.bin .shl (.int 1) (.var 2)))
 (.cons (.setI (.attr (.var 0) 13) (.var 2) (.var 1))
 (.cons (.augI (.attr (.var 0) 14) (.call 1 (.cons (.var 1) .nil)) .bor (.var 3))
 (.cons (.augI (.attr (.var 0) 15) (.call 0 (.cons (.var 1) .nil)) .bor (.var 3))
 (.cons (.augA (.var 0) 16 .bxor (.sub (.sub (.attr (.attr (.var 0) 17) 18) (.var 1)) (.var 2)))
 .nil)))))
noncomputable def f_put_piece:Fn:=⟨3,4,b_put_piece⟩
noncomputable def b_occupied:Ss:=(.cons (.ret (.bin .bor (.sub (.attr (.var 0) 15) (.glob 0)) (.sub (.attr (.var 0) 15) (.glob 1))))
 .nil)
noncomputable def f_occupied:Fn:=⟨1,1,b_occupied⟩
noncomputable def b_pieces:Ss:=(.cons (.ret (.bin .band (.sub (.attr (.var 0) 15) (.var 1)) (.sub (.attr (.var 0) 14) (.var 2))))
 .nil)
noncomputable def f_pieces:Fn:=⟨3,3,b_pieces⟩
noncomputable def b_king_square:Ss:=(.cons (.ret (.call 5 (.cons (.bin .band (.sub (.attr (.var 0) 15) (.var 1)) (.sub (.attr (.var 0) 14) (.glob 7))) .nil)))
 .nil)
noncomputable def f_king_square:Fn:=⟨2,2,b_king_square⟩
noncomputable def b_straight_sliders:Ss:=(.cons (.ret (.bin .bor (.sub (.attr (.var 0) 14) (.glob 5)) (.sub (.attr (.var 0) 14) (.glob 6))))
 .nil)
noncomputable def f_straight_sliders:Fn:=⟨1,1,b_straight_sliders⟩
noncomputable def b_slanting_sliders:Ss:=(.cons (.ret (.bin .bor (.sub (.attr (.var 0) 14) (.glob 4)) (.sub (.attr (.var 0) 14) (.glob 6))))
 .nil)
noncomputable def f_slanting_sliders:Fn:=⟨1,1,b_slanting_sliders⟩
noncomputable def b_snipers_of:Ss:=(.cons (.asg 2 (.call 27 (.cons (.var 0) (.cons (.var 1) .nil))))
 (.cons (.asg 3 (.bin .band (.call 19 (.cons (.attr (.var 0) 19) (.cons (.var 2) (.cons (.int 0) .nil)))) (.call 28 (.cons (.var 0) .nil))))
 (.cons (.augV 3 .bor (.bin .band (.call 20 (.cons (.attr (.var 0) 19) (.cons (.var 2) (.cons (.int 0) .nil)))) (.call 29 (.cons (.var 0) .nil))))
 (.cons (.ret (.bin .band (.var 3) (.sub (.attr (.var 0) 15) (.bin .sub (.int 1) (.var 1)))))
 .nil))))
noncomputable def f_snipers_of:Fn:=⟨2,4,b_snipers_of⟩
noncomputable def b_blockers:Ss:=(.cons (.asg 2 (.call 27 (.cons (.var 0) (.cons (.var 1) .nil))))
 (.cons (.asg 3 (.call 30 (.cons (.var 0) (.cons (.var 1) .nil))))
 (.cons (.asg 4 (.bin .bxor (.bin .bor (.sub (.attr (.var 0) 15) (.glob 0)) (.sub (.attr (.var 0) 15) (.glob 1))) (.var 3)))
 (.cons (.asg 5 (.int 0))
 (.cons (.asg 6 (.int 0))
 (.cons (.for_ [7] (.call 6 (.cons (.var 3) .nil)) (.cons (.asg 8 (.bin .band (.call 8 (.cons (.attr (.var 0) 19) (.cons (.var 2) (.cons (.var 7) .nil)))) (.var 4)))
 (.cons (.ite (.and (.cons (.var 8) (.cons (.not (.call 3 (.cons (.var 8) .nil))) .nil))) (.cons (.augV 5 .bor (.var 8))
 (.cons (.ite (.bin .band (.var 8) (.sub (.attr (.var 0) 15) (.var 1))) (.cons (.augV 6 .bor (.bin .shl (.int 1) (.var 7)))
 .nil) .nil)
 .nil)) .nil)
 .nil)))
 (.cons (.ret (.tup (.cons (.var 5) (.cons (.var 6) .nil))))
 .nil)))))))
noncomputable def f_blockers:Fn:=⟨2,9,b_blockers⟩
noncomputable def b_shift_up:Ss:=(.cons (.ite (.cmp .eq (.var 2) (.glob 0)) (.cons (.ret (.bin .band (.bin .shl (.var 1) (.attr (.var 0) 1)) (.attr (.var 0) 5)))
 .nil) .nil)
 (.cons (.ret (.bin .shr (.var 1) (.attr (.var 0) 1)))
 .nil))
noncomputable def f_shift_up:Fn:=⟨3,3,b_shift_up⟩
noncomputable def b_neighbours:Ss:=(.cons (.asg 2 (.bin .shl (.bin .band (.var 1) (.inv (.sub (.attr (.var 0) 4) (.bin .sub (.attr (.var 0) 1) (.int 1))))) (.int 1)))
 (.cons (.asg 3 (.bin .shr (.bin .band (.var 1) (.inv (.sub (.attr (.var 0) 4) (.int 0)))) (.int 1)))
 (.cons (.ret (.bin .band (.bin .bor (.var 2) (.var 3)) (.attr (.var 0) 5)))
 .nil)))
noncomputable def f_neighbours:Fn:=⟨2,4,b_neighbours⟩
noncomputable def b_pawn_attacks:Ss:=(.cons (.ret (.call 32 (.cons (.var 0) (.cons (.call 33 (.cons (.var 0) (.cons (.var 1) .nil))) (.cons (.var 2) .nil)))))
 .nil)
noncomputable def f_pawn_attacks:Fn:=⟨3,3,b_pawn_attacks⟩
noncomputable def b_make_score:Ss:=(.cons (.ret (.bin .add (.bin .shl (.var 1) (.int 16)) (.var 0)))
 .nil)
noncomputable def f_make_score:Fn:=⟨2,2,b_make_score⟩
noncomputable def b_rank_board:Ss:=(.cons (.ite (.cmp .eq (.var 1) (.glob 0)) (.cons (.ret (.sub (.attr (.var 0) 3) (.var 2)))
 .nil) .nil)
 (.cons (.ret (.sub (.attr (.var 0) 3) (.bin .sub (.bin .sub (.attr (.var 0) 2) (.int 1)) (.var 2))))
 .nil))
noncomputable def f_rank_board:Fn:=⟨3,3,b_rank_board⟩
noncomputable def b_seen_stops:Ss:=(.cons (.asg 3 (.call 25 (.cons (.var 0) .nil)))
 (.cons (.ite (.or (.cons (.cmp .eq (.var 2) (.glob 4)) (.cons (.cmp .eq (.var 2) (.glob 5)) .nil))) (.cons (.augV 3 .band (.inv (.sub (.attr (.var 0) 14) (.glob 6))))
 .nil) .nil)
 (.cons (.ite (.cmp .eq (.var 2) (.glob 5)) (.cons (.augV 3 .band (.inv (.call 26 (.cons (.var 0) (.cons (.var 1) (.cons (.glob 5) .nil))))))
 .nil) .nil)
 (.cons (.ret (.var 3))
 .nil))))
noncomputable def f_seen_stops:Fn:=⟨3,4,b_seen_stops⟩
noncomputable def b_piece_reach:Ss:=(.cons (.asg 5 (.call 23 (.cons (.attr (.var 0) 19) (.cons (.var 1) (.cons (.var 2) (.cons (.var 3) (.cons (.call 37 (.cons (.var 0) (.cons (.var 1) (.cons (.var 2) .nil)))) .nil)))))))
 (.cons (.ite (.and (.cons (.cmp .ne (.var 2) (.glob 2)) (.cons (.cmp .ne (.var 2) (.glob 7)) (.cons (.bin .band (.bin .shr (.var 4) (.var 3)) (.int 1)) .nil)))) (.cons (.augV 5 .band (.call 9 (.cons (.attr (.var 0) 19) (.cons (.call 27 (.cons (.var 0) (.cons (.var 1) .nil))) (.cons (.var 3) .nil)))))
 .nil) .nil)
 (.cons (.ret (.var 5))
 .nil)))
noncomputable def f_piece_reach:Fn:=⟨5,6,b_piece_reach⟩
noncomputable def b_attack_map:Ss:=(.cons (.asg 2 (.sub (.call 31 (.cons (.var 0) (.cons (.var 1) .nil))) (.int 0)))
 (.cons (.asg 3 (.bin .mul (.list (.cons (.int 0) .nil)) (.int 7)))
 (.cons (.asg 4 (.int 0))
 (.cons (.asg 5 (.list .nil))
 (.cons (.for_ [6] (.tup (.cons (.glob 2) (.cons (.glob 3) (.cons (.glob 4) (.cons (.glob 5) (.cons (.glob 6) (.cons (.glob 7) .nil))))))) (.cons (.for_ [7] (.call 6 (.cons (.call 26 (.cons (.var 0) (.cons (.var 1) (.cons (.var 6) .nil)))) .nil)) (.cons (.asg 8 (.call 38 (.cons (.var 0) (.cons (.var 1) (.cons (.var 6) (.cons (.var 7) (.cons (.var 2) .nil)))))))
 (.cons (.augV 4 .bor (.bin .band (.sub (.var 3) (.int 0)) (.var 8)))
 (.cons (.augI (.var 3) (.var 6) .bor (.var 8))
 (.cons (.augI (.var 3) (.int 0) .bor (.var 8))
 (.cons (.ite (.and (.cons (.cmp .ne (.var 6) (.glob 2)) (.cons (.cmp .ne (.var 6) (.glob 7)) .nil))) (.cons (.expr (.meth .append (.var 5) (.tup (.cons (.var 6) (.cons (.var 8) .nil)))))
 .nil) .nil)
 .nil))))))
 .nil))
 (.cons (.ret (.new 3 (.cons (.call 27 (.cons (.var 0) (.cons (.var 1) .nil))) (.cons (.var 3) (.cons (.var 4) (.cons (.var 5) (.cons (.var 2) .nil)))))))
 .nil))))))
noncomputable def f_attack_map:Fn:=⟨2,9,b_attack_map⟩
noncomputable def b_attack_maps:Ss:=(.cons (.ret (.list (.cons (.call 39 (.cons (.var 0) (.cons (.glob 0) .nil))) (.cons (.call 39 (.cons (.var 0) (.cons (.glob 1) .nil))) .nil))))
 .nil)
noncomputable def f_attack_maps:Fn:=⟨1,1,b_attack_maps⟩
noncomputable def b_area_of:Ss:=(.cons (.asg 3 (.attr (.var 0) 19))
 (.cons (.asg 4 (.bin .bor (.call 36 (.cons (.var 3) (.cons (.var 1) (.cons (.int 1) .nil)))) (.call 36 (.cons (.var 3) (.cons (.var 1) (.cons (.int 2) .nil))))))
 (.cons (.asg 5 (.bin .band (.call 26 (.cons (.var 0) (.cons (.var 1) (.cons (.glob 2) .nil)))) (.bin .bor (.var 4) (.call 32 (.cons (.var 3) (.cons (.call 25 (.cons (.var 0) .nil)) (.cons (.bin .sub (.int 1) (.var 1)) .nil)))))))
 (.cons (.augV 5 .bor (.bin .bor (.bin .bor (.call 26 (.cons (.var 0) (.cons (.var 1) (.cons (.glob 7) .nil)))) (.call 26 (.cons (.var 0) (.cons (.var 1) (.cons (.glob 6) .nil))))) (.var 2)))
 (.cons (.ret (.bin .band (.bin .band (.attr (.var 3) 5) (.inv (.var 5))) (.inv (.call 34 (.cons (.var 3) (.cons (.call 26 (.cons (.var 0) (.cons (.bin .sub (.int 1) (.var 1)) (.cons (.glob 2) .nil)))) (.cons (.bin .sub (.int 1) (.var 1)) .nil)))))))
 .nil)))))
noncomputable def f_area_of:Fn:=⟨3,6,b_area_of⟩
noncomputable def b_mobility_area:Ss:=(.cons (.ret (.call 41 (.cons (.var 0) (.cons (.var 1) (.cons (.sub (.call 31 (.cons (.var 0) (.cons (.var 1) .nil))) (.int 0)) .nil)))))
 .nil)
noncomputable def f_mobility_area:Fn:=⟨2,2,b_mobility_area⟩
noncomputable def b_mobility:Ss:=(.cons (.asg 2 (.call 42 (.cons (.var 0) (.cons (.var 1) .nil))))
 (.cons (.asg 3 (.bin .mul (.list (.cons (.int 0) .nil)) (.int 7)))
 (.cons (.for_ [4,5] (.attr (.call 39 (.cons (.var 0) (.cons (.var 1) .nil))) 20) (.cons (.augI (.var 3) (.var 4) .add (.call 2 (.cons (.bin .band (.var 5) (.var 2)) .nil)))
 .nil))
 (.cons (.ret (.var 3))
 .nil))))
noncomputable def f_mobility:Fn:=⟨2,6,b_mobility⟩
noncomputable def b_mobility_bonus:Ss:=(.cons (.asgT [2,3,4,5,6] (.sub (.glob 11) (.var 0)))
 (.cons (.asg 7 (.bin .mul (.var 1) (.bin .sub (.bin .mul (.int 2) (.var 6)) (.var 1))))
 (.cons (.asg 8 (.bin .add (.var 2) (.bin .fdiv (.bin .mul (.bin .sub (.var 3) (.var 2)) (.var 7)) (.bin .mul (.var 6) (.var 6)))))
 (.cons (.asg 9 (.bin .add (.var 4) (.bin .fdiv (.bin .mul (.bin .sub (.var 5) (.var 4)) (.var 7)) (.bin .mul (.var 6) (.var 6)))))
 (.cons (.ret (.call 35 (.cons (.var 8) (.cons (.var 9) .nil))))
 .nil)))))
noncomputable def f_mobility_bonus:Fn:=⟨2,10,b_mobility_bonus⟩
noncomputable def b_mobility_score:Ss:=(.cons (.asg 3 (.call 41 (.cons (.var 0) (.cons (.var 1) (.cons (.attr (.sub (.var 2) (.var 1)) 21) .nil)))))
 (.cons (.asg 4 (.int 0))
 (.cons (.for_ [5,6] (.attr (.sub (.var 2) (.var 1)) 20) (.cons (.augV 4 .add (.call 44 (.cons (.var 5) (.cons (.call 2 (.cons (.bin .band (.var 6) (.var 3)) .nil)) .nil))))
 .nil))
 (.cons (.ret (.var 4))
 .nil))))
noncomputable def f_mobility_score:Fn:=⟨3,7,b_mobility_score⟩
noncomputable def b_off_edge:Ss:=(.cons (.ite (.cmp .lt (.var 1) (.int 3)) (.cons (.ret (.var 0))
 .nil) .nil)
 (.cons (.ret (.bi .min (.cons (.bi .max (.cons (.var 0) (.cons (.int 1) .nil))) (.cons (.bin .sub (.var 1) (.int 2)) .nil))))
 .nil))
noncomputable def f_off_edge:Fn:=⟨2,2,b_off_edge⟩
noncomputable def b_king_ring:Ss:=(.cons (.asg 2 (.bin .add (.bin .mul (.call 46 (.cons (.bin .fdiv (.var 1) (.attr (.var 0) 1)) (.cons (.attr (.var 0) 2) .nil))) (.attr (.var 0) 1)) (.call 46 (.cons (.bin .mod (.var 1) (.attr (.var 0) 1)) (.cons (.attr (.var 0) 1) .nil)))))
 (.cons (.ret (.bin .bor (.sub (.attr (.var 0) 7) (.var 2)) (.bin .shl (.int 1) (.var 2))))
 .nil))
noncomputable def f_king_ring:Fn:=⟨2,3,b_king_ring⟩
noncomputable def b_guarded_ring:Ss:=(.cons (.asg 3 (.int 0))
 (.cons (.asg 4 (.int 0))
 (.cons (.for_ [5] (.call 6 (.cons (.call 26 (.cons (.var 0) (.cons (.var 1) (.cons (.glob 2) .nil)))) .nil)) (.cons (.augV 4 .bor (.bin .band (.var 3) (.sub (.sub (.attr (.attr (.var 0) 19) 8) (.var 1)) (.var 5))))
 (.cons (.augV 3 .bor (.sub (.sub (.attr (.attr (.var 0) 19) 8) (.var 1)) (.var 5)))
 .nil)))
 (.cons (.ret (.bin .band (.call 47 (.cons (.attr (.var 0) 19) (.cons (.var 2) .nil))) (.inv (.var 4))))
 .nil))))
noncomputable def f_guarded_ring:Fn:=⟨3,6,b_guarded_ring⟩
noncomputable def b_ring_attackers:Ss:=(.cons (.asg 4 (.sub (.var 2) (.bin .sub (.int 1) (.var 1))))
 (.cons (.asg 5 (.sub (.attr (.sub (.var 2) (.var 1)) 22) (.glob 7)))
 (.cons (.asg 6 (.call 2 (.cons (.bin .band (.call 47 (.cons (.var 0) (.cons (.attr (.sub (.var 2) (.var 1)) 7) .nil))) (.sub (.attr (.var 4) 22) (.glob 2))) .nil)))
 (.cons (.asg 7 (.int 0))
 (.cons (.asg 8 (.int 0))
 (.cons (.for_ [9,10] (.attr (.var 4) 20) (.cons (.ite (.bin .band (.var 10) (.var 3)) (.cons (.augV 6 .add (.int 1))
 (.cons (.augV 7 .add (.sub (.glob 12) (.var 9)))
 (.cons (.augV 8 .add (.call 2 (.cons (.bin .band (.var 10) (.var 5)) .nil)))
 .nil))) .nil)
 .nil))
 (.cons (.ret (.tup (.cons (.var 6) (.cons (.var 7) (.cons (.var 8) .nil)))))
 .nil)))))))
noncomputable def f_ring_attackers:Fn:=⟨4,11,b_ring_attackers⟩
noncomputable def b_weak_squares:Ss:=(.cons (.asg 2 (.sub (.var 1) (.var 0)))
 (.cons (.ret (.bin .band (.bin .band (.sub (.attr (.sub (.var 1) (.bin .sub (.int 1) (.var 0))) 22) (.int 0)) (.inv (.attr (.var 2) 23))) (.bin .bor (.bin .bor (.inv (.sub (.attr (.var 2) 22) (.int 0))) (.sub (.attr (.var 2) 22) (.glob 7))) (.sub (.attr (.var 2) 22) (.glob 6)))))
 .nil))
noncomputable def f_weak_squares:Fn:=⟨2,3,b_weak_squares⟩
noncomputable def b_flank_files:Ss:=(.cons (.asg 2 (.int 0))
 (.cons (.for_ [3] (.bi .range (.cons (.attr (.var 0) 1) .nil)) (.cons (.ite (.cmp .le (.bi .abs (.cons (.bin .sub (.var 3) (.bin .mod (.var 1) (.attr (.var 0) 1))) .nil)) (.int 2)) (.cons (.augV 2 .bor (.sub (.attr (.var 0) 4) (.var 3)))
 .nil) .nil)
 .nil))
 (.cons (.ret (.var 2))
 .nil)))
noncomputable def f_flank_files:Fn:=⟨2,4,b_flank_files⟩
noncomputable def b_flank_squares:Ss:=(.cons (.asg 3 (.int 0))
 (.cons (.for_ [4] (.bi .range (.cons (.bin .fdiv (.bin .mul (.attr (.var 0) 2) (.int 5)) (.int 8)) .nil)) (.cons (.augV 3 .bor (.call 36 (.cons (.var 0) (.cons (.var 1) (.cons (.var 4) .nil)))))
 .nil))
 (.cons (.ret (.bin .band (.var 3) (.call 51 (.cons (.var 0) (.cons (.var 2) .nil)))))
 .nil)))
noncomputable def f_flank_squares:Fn:=⟨3,5,b_flank_squares⟩
noncomputable def b_storm_count:Ss:=(.cons (.asg 3 (.call 52 (.cons (.var 0) (.cons (.var 1) (.cons (.attr (.sub (.var 2) (.var 1)) 7) .nil)))))
 (.cons (.ret (.bin .add (.call 2 (.cons (.bin .band (.sub (.attr (.sub (.var 2) (.bin .sub (.int 1) (.var 1))) 22) (.int 0)) (.var 3)) .nil)) (.call 2 (.cons (.bin .band (.attr (.sub (.var 2) (.bin .sub (.int 1) (.var 1))) 23) (.var 3)) .nil))))
 .nil))
noncomputable def f_storm_count:Fn:=⟨3,4,b_storm_count⟩
noncomputable def b_law_board:Ss:=(.cons (.asg 3 (.bin .mul (.var 0) (.var 1)))
 (.cons (.asg 2 (.bin .add (.var 2) (.slice (.list (.cons (.int 0) (.cons (.int 9) .nil))) (.bi .len (.cons (.var 2) .nil)))))
 (.cons (.asg 4 (.bin .mul (.list (.cons (.int 0) .nil)) (.var 3)))
 (.cons (.asg 5 (.bin .mod (.sub (.var 2) (.int 0)) (.var 3)))
 (.cons (.setI (.var 4) (.var 5) (.int 6))
 (.cons (.setI (.var 4) (.bin .mod (.bin .add (.bin .add (.var 5) (.int 1)) (.bin .mod (.sub (.var 2) (.int 1)) (.bin .sub (.var 3) (.int 1)))) (.var 3)) (.int 14))
 (.cons (.for_ [6] (.slice (.var 2) (.int 2)) (.cons (.asg 7 (.bin .mod (.var 6) (.var 3)))
 (.cons (.asg 8 (.bin .add (.int 1) (.bin .mod (.bin .fdiv (.var 6) (.var 3)) (.int 5))))
 (.cons (.asg 9 (.or (.cons (.cmp .eq (.bin .fdiv (.var 7) (.var 0)) (.int 0)) (.cons (.cmp .eq (.bin .fdiv (.var 7) (.var 0)) (.bin .sub (.var 1) (.int 1))) .nil))))
 (.cons (.ite (.and (.cons (.cmp .eq (.sub (.var 4) (.var 7)) (.int 0)) (.cons (.not (.and (.cons (.cmp .eq (.var 8) (.int 1)) (.cons (.var 9) .nil)))) .nil))) (.cons (.setI (.var 4) (.var 7) (.bin .add (.var 8) (.bin .mul (.bin .mod (.bin .fdiv (.var 6) (.bin .mul (.var 3) (.int 5))) (.int 2)) (.int 8))))
 .nil) .nil)
 .nil)))))
 (.cons (.ret (.var 4))
 .nil))))))))
noncomputable def f_law_board:Fn:=⟨3,10,b_law_board⟩
noncomputable def b_law_position:Ss:=(.cons (.asg 3 (.comp (.bin .mul (.list (.cons (.int 0) .nil)) (.attr (.var 0) 6)) [6] (.bi .range (.cons (.int 15) .nil)) .nil .nil))
 (.cons (.asg 4 (.new 2 (.cons (.var 0) (.cons (.new 4 (.cons (.var 3) (.cons (.bin .mul (.list (.cons (.int 0) .nil)) (.attr (.var 0) 1)) (.cons (.bin .mul (.list (.cons (.int 0) .nil)) (.int 16)) (.cons (.int 0) .nil))))) .nil))))
 (.cons (.for_ [5] (.bi .range (.cons (.attr (.var 0) 6) .nil)) (.cons (.ite (.sub (.var 1) (.var 5)) (.cons (.expr (.call 24 (.cons (.var 4) (.cons (.sub (.var 1) (.var 5)) (.cons (.var 5) .nil)))))
 .nil) .nil)
 .nil))
 (.cons (.setA (.var 4) 24 (.var 2))
 (.cons (.ret (.var 4))
 .nil)))))
noncomputable def f_law_position:Fn:=⟨3,7,b_law_position⟩
noncomputable def b_law_bits:Ss:=(.cons (.asg 1 (.int 0))
 (.cons (.for_ [2] (.var 0) (.cons (.augV 1 .bor (.bin .shl (.int 1) (.var 2)))
 .nil))
 (.cons (.ret (.var 1))
 .nil)))
noncomputable def f_law_bits:Fn:=⟨1,3,b_law_bits⟩
noncomputable def b_law_ray:Ss:=(.cons (.asg 6 (.list .nil))
 (.cons (.asg 7 (.bin .add (.bin .mod (.var 3) (.var 0)) (.sub (.var 4) (.int 0))))
 (.cons (.asg 8 (.bin .add (.bin .fdiv (.var 3) (.var 0)) (.sub (.var 4) (.int 1))))
 (.cons (.whl (.and (.cons (.cmp2 .le .lt (.int 0) (.var 7) (.var 0)) (.cons (.cmp2 .le .lt (.int 0) (.var 8) (.var 1)) .nil))) (.cons (.expr (.meth .append (.var 6) (.bin .add (.bin .mul (.var 8) (.var 0)) (.var 7))))
 (.cons (.ite (.cmp .nin (.sub (.var 2) (.bin .add (.bin .mul (.var 8) (.var 0)) (.var 7))) (.var 5)) (.cons .brk
 .nil) .nil)
 (.cons (.augV 7 .add (.sub (.var 4) (.int 0)))
 (.cons (.augV 8 .add (.sub (.var 4) (.int 1)))
 .nil)))))
 (.cons (.ret (.var 6))
 .nil)))))
noncomputable def f_law_ray:Fn:=⟨6,9,b_law_ray⟩
noncomputable def b_law_hops:Ss:=(.cons (.asg 4 (.list .nil))
 (.cons (.for_ [5,6] (.var 3) (.cons (.asg 7 (.bin .add (.bin .mod (.var 2) (.var 0)) (.var 5)))
 (.cons (.asg 8 (.bin .add (.bin .fdiv (.var 2) (.var 0)) (.var 6)))
 (.cons (.ite (.and (.cons (.cmp2 .le .lt (.int 0) (.var 7) (.var 0)) (.cons (.cmp2 .le .lt (.int 0) (.var 8) (.var 1)) .nil))) (.cons (.expr (.meth .append (.var 4) (.bin .add (.bin .mul (.var 8) (.var 0)) (.var 7))))
 .nil) .nil)
 .nil))))
 (.cons (.ret (.var 4))
 .nil)))
noncomputable def f_law_hops:Fn:=⟨4,9,b_law_hops⟩
noncomputable def b_law_shields:Ss:=(.cons (.asg 4 (.meth .index (.var 2) (.bin .add (.bin .mul (.var 3) (.int 8)) (.int 6))))
 (.cons (.asg 5 (.list .nil))
 (.cons (.for_ [6] (.bi .range (.cons (.int 8) .nil)) (.cons (.asg 7 (.list (.cons (.bin .add (.ife (.cmp .lt (.var 6) (.int 4)) (.int 4) (.int 3)) (.bin .mul (.bin .sub (.int 1) (.var 3)) (.int 8))) (.cons (.bin .add (.int 5) (.bin .mul (.bin .sub (.int 1) (.var 3)) (.int 8))) .nil))))
 (.cons (.asg 8 (.list .nil))
 (.cons (.for_ [9] (.call 57 (.cons (.var 0) (.cons (.var 1) (.cons (.var 2) (.cons (.var 4) (.cons (.sub (.glob 15) (.var 6)) (.cons (.bi .list (.cons (.bi .range (.cons (.int 15) .nil)) .nil)) .nil))))))) (.cons (.ite (.cmp .inn (.sub (.var 2) (.var 9)) (.var 7)) (.cons (.ite (.and (.cons (.cmp .eq (.bi .len (.cons (.var 8) .nil)) (.int 1)) (.cons (.cmp .nin (.sub (.var 8) (.int 0)) (.var 5)) .nil))) (.cons (.expr (.meth .append (.var 5) (.sub (.var 8) (.int 0))))
 .nil) .nil)
 .nil) (.cons (.ite (.sub (.var 2) (.var 9)) (.cons (.expr (.meth .append (.var 8) (.var 9)))
 .nil) .nil)
 .nil))
 .nil))
 .nil))))
 (.cons (.ret (.var 5))
 .nil))))
noncomputable def f_law_shields:Fn:=⟨4,10,b_law_shields⟩
noncomputable def b_law_reach:Ss:=(.cons (.asg 5 (.bin .fdiv (.sub (.var 2) (.var 3)) (.int 8)))
 (.cons (.asg 6 (.bin .mod (.sub (.var 2) (.var 3)) (.int 8)))
 (.cons (.ite (.cmp .eq (.var 6) (.int 1)) (.cons (.ret (.call 58 (.cons (.var 0) (.cons (.var 1) (.cons (.var 3) (.cons (.list (.cons (.tup (.cons (.neg (.int 1)) (.cons (.bin .sub (.int 1) (.bin .mul (.int 2) (.var 5))) .nil))) (.cons (.tup (.cons (.int 1) (.cons (.bin .sub (.int 1) (.bin .mul (.int 2) (.var 5))) .nil))) .nil))) .nil))))))
 .nil) .nil)
 (.cons (.ite (.cmp .eq (.var 6) (.int 6)) (.cons (.ret (.call 58 (.cons (.var 0) (.cons (.var 1) (.cons (.var 3) (.cons (.glob 15) .nil))))))
 .nil) .nil)
 (.cons (.asg 7 (.list .nil))
 (.cons (.ite (.cmp .eq (.var 6) (.int 2)) (.cons (.asg 7 (.call 58 (.cons (.var 0) (.cons (.var 1) (.cons (.var 3) (.cons (.glob 16) .nil))))))
 .nil) .nil)
 (.cons (.asg 8 (.sub (.list (.cons (.list (.cons (.int 0) (.cons (.int 5) (.cons (.int 13) .nil)))) (.cons (.list (.cons (.int 0) (.cons (.int 5) (.cons (.int 13) (.cons (.bin .add (.bin .mul (.var 5) (.int 8)) (.int 4)) .nil))))) (.cons (.list (.cons (.int 0) .nil)) .nil)))) (.bin .sub (.bi .max (.cons (.var 6) (.cons (.int 3) .nil))) (.int 3))))
 (.cons (.for_ [9] (.bi .range (.cons (.int 8) .nil)) (.cons (.ite (.or (.cons (.cmp .eq (.var 6) (.int 5)) (.cons (.and (.cons (.cmp .eq (.var 6) (.int 4)) (.cons (.cmp .lt (.var 9) (.int 4)) .nil))) (.cons (.and (.cons (.cmp .eq (.var 6) (.int 3)) (.cons (.cmp .gt (.var 9) (.int 3)) .nil))) .nil)))) (.cons (.augV 7 .add (.call 57 (.cons (.var 0) (.cons (.var 1) (.cons (.var 2) (.cons (.var 3) (.cons (.sub (.glob 15) (.var 9)) (.cons (.var 8) .nil))))))))
 .nil) .nil)
 .nil))
 (.cons (.ite (.cmp .inn (.var 3) (.var 4)) (.cons (.asg 10 (.meth .index (.var 2) (.bin .add (.bin .mul (.var 5) (.int 8)) (.int 6))))
 (.cons (.asg 11 (.bin .sub (.bin .mod (.var 3) (.var 0)) (.bin .mod (.var 10) (.var 0))))
 (.cons (.asg 12 (.bin .sub (.bin .fdiv (.var 3) (.var 0)) (.bin .fdiv (.var 10) (.var 0))))
 (.cons (.asg 7 (.comp (.var 13) [13] (.var 7) (.cons (.cmp .eq (.bin .mul (.bin .sub (.bin .mod (.var 13) (.var 0)) (.bin .mod (.var 10) (.var 0))) (.var 12)) (.bin .mul (.bin .sub (.bin .fdiv (.var 13) (.var 0)) (.bin .fdiv (.var 10) (.var 0))) (.var 11))) .nil) .nil))
 .nil)))) .nil)
 (.cons (.ret (.var 7))
 .nil))))))))))
noncomputable def f_law_reach:Fn:=⟨5,14,b_law_reach⟩
noncomputable def b_law_looks:Ss:=(.cons (.asg 4 (.call 59 (.cons (.var 0) (.cons (.var 1) (.cons (.var 2) (.cons (.var 3) .nil))))))
 (.cons (.asg 5 (.list .nil))
 (.cons (.asg 6 (.list (.cons (.list .nil) (.cons (.list .nil) (.cons (.list .nil) (.cons (.list .nil) (.cons (.list .nil) (.cons (.list .nil) (.cons (.list .nil) .nil)))))))))
 (.cons (.asg 7 (.bin .mul (.list (.cons (.int 0) .nil)) (.bi .len (.cons (.var 2) .nil))))
 (.cons (.for_ [8] (.bi .range (.cons (.bi .len (.cons (.var 2) .nil)) .nil)) (.cons (.ite (.and (.cons (.sub (.var 2) (.var 8)) (.cons (.cmp .eq (.bin .fdiv (.sub (.var 2) (.var 8)) (.int 8)) (.var 3)) .nil))) (.cons (.asg 9 (.call 60 (.cons (.var 0) (.cons (.var 1) (.cons (.var 2) (.cons (.var 8) (.cons (.var 4) .nil)))))))
 (.cons (.expr (.meth .append (.var 5) (.tup (.cons (.bin .mod (.sub (.var 2) (.var 8)) (.int 8)) (.cons (.var 9) .nil)))))
 (.cons (.augI (.var 6) (.bin .mod (.sub (.var 2) (.var 8)) (.int 8)) .add (.var 9))
 (.cons (.for_ [10] (.var 9) (.cons (.augI (.var 7) (.var 10) .add (.int 1))
 .nil))
 .nil)))) .nil)
 .nil))
 (.cons (.ret (.tup (.cons (.var 4) (.cons (.var 5) (.cons (.var 6) (.cons (.var 7) .nil))))))
 .nil))))))
noncomputable def f_law_looks:Fn:=⟨4,11,b_law_looks⟩
noncomputable def b_law_area:Ss:=(.cons (.asg 6 (.list .nil))
 (.cons (.for_ [7] (.bi .range (.cons (.bi .len (.cons (.var 2) .nil)) .nil)) (.cons (.asg 8 (.ife (.cmp .eq (.var 3) (.int 0)) (.bin .fdiv (.var 7) (.var 0)) (.bin .sub (.bin .sub (.var 1) (.int 1)) (.bin .fdiv (.var 7) (.var 0)))))
 (.cons (.ite (.and (.cons (.cmp .eq (.sub (.var 2) (.var 7)) (.bin .add (.bin .mul (.var 3) (.int 8)) (.int 1))) (.cons (.or (.cons (.cmp .lt (.var 8) (.int 3)) (.cons (.sub (.var 2) (.bin .add (.var 7) (.bin .mul (.var 0) (.bin .sub (.int 1) (.bin .mul (.int 2) (.var 3)))))) .nil))) .nil))) (.cons .cont
 .nil) .nil)
 (.cons (.ite (.and (.cons (.cmp .ne (.sub (.var 2) (.var 7)) (.bin .add (.bin .mul (.var 3) (.int 8)) (.int 5))) (.cons (.cmp .ne (.sub (.var 2) (.var 7)) (.bin .add (.bin .mul (.var 3) (.int 8)) (.int 6))) (.cons (.cmp .nin (.var 7) (.var 4)) (.cons (.cmp .nin (.var 7) (.var 5)) .nil))))) (.cons (.expr (.meth .append (.var 6) (.var 7)))
 .nil) .nil)
 .nil))))
 (.cons (.ret (.var 6))
 .nil)))
noncomputable def f_law_area:Fn:=⟨6,9,b_law_area⟩
noncomputable def b_law_ring:Ss:=(.cons (.asg 3 (.bin .mod (.var 2) (.var 0)))
 (.cons (.ite (.cmp .gt (.var 0) (.int 2)) (.cons (.asg 3 (.bi .min (.cons (.bi .max (.cons (.var 3) (.cons (.int 1) .nil))) (.cons (.bin .sub (.var 0) (.int 2)) .nil))))
 .nil) .nil)
 (.cons (.asg 4 (.bi .min (.cons (.bi .max (.cons (.bin .fdiv (.var 2) (.var 0)) (.cons (.int 1) .nil))) (.cons (.bin .sub (.var 1) (.int 2)) .nil))))
 (.cons (.ret (.comp (.bin .add (.bin .mul (.var 5) (.var 0)) (.var 6)) [5] (.tup (.cons (.bin .sub (.var 4) (.int 1)) (.cons (.var 4) (.cons (.bin .add (.var 4) (.int 1)) .nil)))) .nil (.cons [6] (.tup (.cons (.bin .sub (.var 3) (.int 1)) (.cons (.var 3) (.cons (.bin .add (.var 3) (.int 1)) .nil)))) (.cons (.cmp2 .le .lt (.int 0) (.var 6) (.var 0)) .nil) .nil)))
 .nil))))
noncomputable def f_law_ring:Fn:=⟨3,7,b_law_ring⟩
noncomputable def b_law_into:Ss:=(.cons (.asg 4 (.sub (.sub (.var 0) (.int 2)) (.int 6)))
 (.cons (.asg 5 (.bi .len (.cons (.comp (.var 10) [10] (.var 2) (.cons (.cmp .inn (.var 10) (.sub (.sub (.var 1) (.int 2)) (.int 1))) .nil) .nil) .nil)))
 (.cons (.asg 6 (.int 0))
 (.cons (.asg 7 (.int 0))
 (.cons (.for_ [8,9] (.sub (.var 1) (.int 1)) (.cons (.ite (.and (.cons (.cmp2 .le .le (.int 2) (.var 8) (.int 5)) (.cons (.comp (.var 11) [11] (.var 9) (.cons (.cmp .inn (.var 11) (.var 3)) .nil) .nil) .nil))) (.cons (.augV 5 .add (.int 1))
 (.cons (.augV 6 .add (.sub (.glob 13) (.var 8)))
 (.cons (.augV 7 .add (.bi .len (.cons (.comp (.var 12) [12] (.var 9) (.cons (.cmp .inn (.var 12) (.var 4)) .nil) .nil) .nil)))
 .nil))) .nil)
 .nil))
 (.cons (.ret (.tup (.cons (.var 5) (.cons (.var 6) (.cons (.var 7) .nil)))))
 .nil))))))
noncomputable def f_law_into:Fn:=⟨4,13,b_law_into⟩
noncomputable def b_law_side:Ss:=(.cons (.asgT [8,9,10,11] (.var 6))
 (.cons (.asg 12 (.bi .range (.cons (.bi .len (.cons (.var 2) .nil)) .nil)))
 (.cons (.ite (.cmp .ne (.attr (.sub (.var 4) (.var 5)) 22) (.bin .add (.list (.cons (.call 56 (.cons (.comp (.var 31) [31] (.var 12) (.cons (.sub (.var 11) (.var 31)) .nil) .nil) .nil)) .nil)) (.comp (.call 56 (.cons (.sub (.var 10) (.var 32)) .nil)) [32] (.bi .range (.cons (.int 1) (.cons (.int 7) .nil))) .nil .nil))) (.cons (.ret (.bool false))
 .nil) .nil)
 (.cons (.ite (.cmp .ne (.attr (.sub (.var 4) (.var 5)) 23) (.call 56 (.cons (.comp (.var 33) [33] (.var 12) (.cons (.cmp .gt (.sub (.var 11) (.var 33)) (.int 1)) .nil) .nil) .nil))) (.cons (.ret (.bool false))
 .nil) .nil)
 (.cons (.asg 13 (.call 62 (.cons (.var 0) (.cons (.var 1) (.cons (.var 2) (.cons (.var 5) (.cons (.var 8) (.cons (.sub (.sub (.var 7) (.int 2)) (.int 1)) .nil))))))))
 (.cons (.asg 14 (.bin .mul (.list (.cons (.int 0) .nil)) (.int 7)))
 (.cons (.asg 15 (.int 0))
 (.cons (.for_ [16,17] (.var 9) (.cons (.ite (.cmp2 .le .le (.int 2) (.var 16) (.int 5)) (.cons (.asgT [19,20,21,22,23] (.sub (.glob 14) (.var 16)))
 (.cons (.asg 18 (.bin .sub (.var 23) (.bi .len (.cons (.comp (.var 34) [34] (.var 17) (.cons (.cmp .inn (.var 34) (.var 13)) .nil) .nil) .nil))))
 (.cons (.augI (.var 14) (.var 16) .add (.bin .sub (.var 23) (.var 18)))
 (.cons (.augV 15 .add (.bin .add (.var 19) (.bin .fdiv (.bin .mul (.bin .sub (.var 20) (.var 19)) (.bin .sub (.bin .mul (.var 23) (.var 23)) (.bin .mul (.var 18) (.var 18)))) (.bin .mul (.var 23) (.var 23)))))
 (.cons (.augV 15 .add (.bin .mul (.int 65536) (.bin .add (.var 21) (.bin .fdiv (.bin .mul (.bin .sub (.var 22) (.var 21)) (.bin .sub (.bin .mul (.var 23) (.var 23)) (.bin .mul (.var 18) (.var 18)))) (.bin .mul (.var 23) (.var 23))))))
 .nil))))) .nil)
 .nil))
 (.cons (.ite (.cmp .ne (.call 45 (.cons (.var 3) (.cons (.var 5) (.cons (.var 4) .nil)))) (.var 15)) (.cons (.ret (.bool false))
 .nil) .nil)
 (.cons (.ite (.or (.cons (.cmp .ne (.call 42 (.cons (.var 3) (.cons (.var 5) .nil))) (.call 56 (.cons (.var 13) .nil))) (.cons (.cmp .ne (.call 43 (.cons (.var 3) (.cons (.var 5) .nil))) (.var 14)) .nil))) (.cons (.ret (.bool false))
 .nil) .nil)
 (.cons (.asg 24 (.meth .index (.var 2) (.bin .add (.bin .mul (.var 5) (.int 8)) (.int 6))))
 (.cons (.asg 25 (.call 63 (.cons (.var 0) (.cons (.var 1) (.cons (.var 24) .nil)))))
 (.cons (.asg 26 (.comp (.var 35) [35] (.var 25) (.cons (.cmp .lt (.meth .count (.sub (.var 10) (.int 1)) (.var 35)) (.int 2)) .nil) .nil))
 (.cons (.ite (.or (.cons (.cmp .ne (.attr (.sub (.var 4) (.var 5)) 7) (.var 24)) (.cons (.cmp .ne (.call 48 (.cons (.var 3) (.cons (.var 5) (.cons (.var 24) .nil)))) (.call 56 (.cons (.var 26) .nil))) .nil))) (.cons (.ret (.bool false))
 .nil) .nil)
 (.cons (.ite (.cmp .ne (.call 49 (.cons (.attr (.var 3) 19) (.cons (.var 5) (.cons (.var 4) (.cons (.call 56 (.cons (.var 26) .nil)) .nil))))) (.call 64 (.cons (.var 6) (.cons (.var 7) (.cons (.var 25) (.cons (.var 26) .nil)))))) (.cons (.ret (.bool false))
 .nil) .nil)
 (.cons (.asg 27 (.comp (.var 36) [36] (.var 12) (.cons (.and (.cons (.sub (.sub (.var 7) (.int 3)) (.var 36)) (.cons (.or (.cons (.cmp .eq (.sub (.var 11) (.var 36)) (.int 0)) (.cons (.and (.cons (.cmp .eq (.sub (.var 11) (.var 36)) (.int 1)) (.cons (.or (.cons (.cmp .inn (.var 36) (.sub (.var 10) (.int 5))) (.cons (.cmp .inn (.var 36) (.sub (.var 10) (.int 6))) .nil))) .nil))) .nil))) .nil))) .nil) .nil))
 (.cons (.asg 28 (.int 0))
 (.cons (.for_ [29] (.var 12) (.cons (.asg 30 (.ife (.cmp .eq (.var 5) (.int 0)) (.bin .fdiv (.var 29) (.var 0)) (.bin .sub (.bin .sub (.var 1) (.int 1)) (.bin .fdiv (.var 29) (.var 0)))))
 (.cons (.ite (.and (.cons (.cmp .lt (.bi .abs (.cons (.bin .sub (.bin .mod (.var 29) (.var 0)) (.bin .mod (.var 24) (.var 0))) .nil)) (.int 3)) (.cons (.cmp .lt (.var 30) (.bin .fdiv (.bin .mul (.var 1) (.int 5)) (.int 8))) .nil))) (.cons (.augV 28 .add (.bi .min (.cons (.sub (.sub (.var 7) (.int 3)) (.var 29)) (.cons (.int 2) .nil))))
 .nil) .nil)
 .nil)))
 (.cons (.ret (.and (.cons (.cmp .eq (.call 50 (.cons (.var 5) (.cons (.var 4) .nil))) (.call 56 (.cons (.var 27) .nil))) (.cons (.cmp .eq (.call 53 (.cons (.attr (.var 3) 19) (.cons (.var 5) (.cons (.var 4) .nil)))) (.var 28)) .nil))))
 .nil)))))))))))))))))))
noncomputable def f_law_side:Fn:=⟨8,37,b_law_side⟩
noncomputable def b_law:Ss:=(.cons (.asg 1 (.ife (.var 0) (.sub (.var 0) (.int 0)) (.int 11)))
 (.cons (.asg 2 (.bin .add (.int 2) (.bin .mod (.var 1) (.int 5))))
 (.cons (.asg 3 (.bin .add (.int 3) (.bin .mod (.bin .fdiv (.var 1) (.int 5)) (.int 3))))
 (.cons (.asg 4 (.call 54 (.cons (.var 2) (.cons (.var 3) (.cons (.slice2 (.var 0) (.int 1) (.int 10)) .nil)))))
 (.cons (.asg 5 (.call 17 (.cons (.var 2) (.cons (.var 3) (.cons (.bool true) (.cons (.bool false) .nil))))))
 (.cons (.asg 6 (.call 55 (.cons (.var 5) (.cons (.var 4) (.cons (.bin .mod (.bin .fdiv (.var 1) (.int 15)) (.int 2)) .nil)))))
 (.cons (.asg 7 (.call 40 (.cons (.var 6) .nil)))
 (.cons (.asg 8 (.list (.cons (.call 61 (.cons (.var 2) (.cons (.var 3) (.cons (.var 4) (.cons (.int 0) .nil))))) (.cons (.call 61 (.cons (.var 2) (.cons (.var 3) (.cons (.var 4) (.cons (.int 1) .nil))))) .nil))))
 (.cons (.for_ [9] (.bi .range (.cons (.attr (.var 5) 6) .nil)) (.cons (.ite (.cmp .ne (.call 47 (.cons (.var 5) (.cons (.var 9) .nil))) (.call 56 (.cons (.call 63 (.cons (.var 2) (.cons (.var 3) (.cons (.var 9) .nil)))) .nil))) (.cons (.ret (.bool false))
 .nil) .nil)
 .nil))
 (.cons (.for_ [10] (.tup (.cons (.int 0) (.cons (.int 1) .nil))) (.cons (.ite (.not (.call 65 (.cons (.var 2) (.cons (.var 3) (.cons (.var 4) (.cons (.var 6) (.cons (.var 7) (.cons (.var 10) (.cons (.sub (.var 8) (.var 10)) (.cons (.sub (.var 8) (.bin .sub (.int 1) (.var 10))) .nil)))))))))) (.cons (.ret (.bool false))
 .nil) .nil)
 .nil))
 (.cons (.ret (.bool true))
 .nil)))))))))))
noncomputable def f_law:Fn:=⟨1,11,b_law⟩
noncomputable def b_new_Geometry:Ss:=(.cons (.setA (.var 0) 1 (.var 1))
 (.cons (.setA (.var 0) 2 (.var 2))
 (.cons (.setA (.var 0) 6 (.bin .mul (.var 1) (.var 2)))
 (.cons (.setA (.var 0) 5 (.bin .sub (.bin .shl (.int 1) (.bin .mul (.var 1) (.var 2))) (.int 1)))
 (.cons (.setA (.var 0) 25 (.and (.cons (.var 3) (.cons (.cmp .ge (.var 2) (.int 5)) .nil))))
 (.cons (.setA (.var 0) 11 (.var 4))
 (.cons (.setA (.var 0) 4 (.list .nil))
 (.cons (.setA (.var 0) 3 (.list .nil))
 (.cons (.setA (.var 0) 0 (.list .nil))
 (.cons (.setA (.var 0) 7 (.list .nil))
 (.cons (.setA (.var 0) 9 (.list .nil))
 (.cons (.setA (.var 0) 8 (.list (.cons (.list .nil) (.cons (.list .nil) .nil))))
 (.cons (.setA (.var 0) 12 (.list .nil))
 (.cons (.setA (.var 0) 10 (.list .nil))
 .nil))))))))))))))
noncomputable def f_new_Geometry:Fn:=⟨5,5,b_new_Geometry⟩
noncomputable def b_new_Position:Ss:=(.cons (.setA (.var 0) 19 (.var 1))
 (.cons (.setA (.var 0) 17 (.var 2))
 (.cons (.setA (.var 0) 13 (.bin .mul (.list (.cons (.glob 8) .nil)) (.attr (.var 1) 6)))
 (.cons (.setA (.var 0) 14 (.bin .mul (.list (.cons (.int 0) .nil)) (.int 7)))
 (.cons (.setA (.var 0) 15 (.list (.cons (.int 0) (.cons (.int 0) .nil))))
 (.cons (.setA (.var 0) 24 (.glob 0))
 (.cons (.setA (.var 0) 26 (.int 0))
 (.cons (.setA (.var 0) 27 (.neg (.int 1)))
 (.cons (.setA (.var 0) 28 (.int 0))
 (.cons (.setA (.var 0) 5 (.int 1))
 (.cons (.setA (.var 0) 16 (.int 0))
 (.cons (.setA (.var 0) 29 (.list .nil))
 .nil))))))))))))
noncomputable def f_new_Position:Fn:=⟨3,3,b_new_Position⟩
noncomputable def b_new_AttackMap:Ss:=(.cons (.setA (.var 0) 7 (.var 1))
 (.cons (.setA (.var 0) 22 (.var 2))
 (.cons (.setA (.var 0) 23 (.var 3))
 (.cons (.setA (.var 0) 20 (.var 4))
 (.cons (.setA (.var 0) 21 (.var 5))
 .nil)))))
noncomputable def f_new_AttackMap:Fn:=⟨6,6,b_new_AttackMap⟩
noncomputable def b_new_Zobrist:Ss:=(.cons (.setA (.var 0) 18 (.var 1))
 (.cons (.setA (.var 0) 27 (.var 2))
 (.cons (.setA (.var 0) 26 (.var 3))
 (.cons (.setA (.var 0) 24 (.var 4))
 .nil))))
noncomputable def f_new_Zobrist:Fn:=⟨5,5,b_new_Zobrist⟩
noncomputable def progA:List Fn:=[f_side_of,f_kind_of,f_count_bits,f_more_than_one,f_highest,f_lowest,f_squares_of,f_direction,f_between,f_line,f_is_growing,f_add_masks,f_inner_squares,f_add_rays,f_add_pawns,f_add_knights,f_add_castles,f_make_geometry,f_ray_attacks,f_rook_attacks,f_bishop_attacks,f_queen_attacks,f_slider_attacks,f_piece_attacks,f_put_piece,f_occupied,f_pieces,f_king_square,f_straight_sliders,f_slanting_sliders,f_snipers_of,f_blockers,f_shift_up,f_neighbours,f_pawn_attacks,f_make_score,f_rank_board,f_seen_stops,f_piece_reach,f_attack_map,f_attack_maps,f_area_of,f_mobility_area,f_mobility,f_mobility_bonus,f_mobility_score,f_off_edge,f_king_ring,f_guarded_ring,f_ring_attackers,f_weak_squares,f_flank_files,f_flank_squares,f_storm_count,f_law_board,f_law_position,f_law_bits,f_law_ray,f_law_hops,f_law_shields,f_law_reach,f_law_looks,f_law_area,f_law_ring,f_law_into,f_law_side,f_law]
noncomputable def progB:List Fn:=[f_new_Geometry,f_new_Position,f_new_AttackMap,f_new_Zobrist]
noncomputable def prog (f:Nat):Option Fn:=if f<67 then progA[f]? else if f<1001 then none else progB[f - 1001]?
noncomputable def globs:List V:=[.int (0),.int (1),.int (1),.int (2),.int (3),.int (4),.int (5),.int (6),.int (0),.tup [.int (0),.int (1),.int (0),.int (-1),.int (1),.int (1),.int (-1),.int (-1)],.tup [.int (1),.int (0),.int (-1),.int (0),.int (1),.int (-1),.int (-1),.int (1)],.ref 1,.ref 2,.ref 3,.ref 4,.ref 11,.ref 12]
noncomputable def glb (k:Nat):V:=globs.getD k .undef
noncomputable def tables:List O:=[.list true [.none,.none,.tup [.int (-62),.int (33),.int (-79),.int (27),.int (8)],.tup [.int (-47),.int (97),.int (-59),.int (88),.int (13)],.tup [.int (-60),.int (62),.int (-82),.int (170),.int (14)],.tup [.int (-29),.int (112),.int (-49),.int (204),.int (27)]],.list true [.int (0),.int (0),.int (81),.int (52),.int (44),.int (10),.int (0)],.list true [.int (0),.int (0),.int (81),.int (52),.int (44),.int (10),.int (0)],.list true [.ref 5,.ref 6,.ref 7,.ref 8,.ref 9,.ref 10],.list true [],.list true [],.list true [.int (-62),.int (33),.int (-79),.int (27),.int (8)],.list true [.int (-47),.int (97),.int (-59),.int (88),.int (13)],.list true [.int (-60),.int (62),.int (-82),.int (170),.int (14)],.list true [.int (-29),.int (112),.int (-49),.int (204),.int (27)],.list true [.tup [.int (0),.int (1)],.tup [.int (1),.int (0)],.tup [.int (0),.int (-1)],.tup [.int (-1),.int (0)],.tup [.int (1),.int (1)],.tup [.int (1),.int (-1)],.tup [.int (-1),.int (-1)],.tup [.int (-1),.int (1)]],.list true [.tup [.int (1),.int (2)],.tup [.int (2),.int (1)],.tup [.int (2),.int (-1)],.tup [.int (1),.int (-2)],.tup [.int (-1),.int (-2)],.tup [.int (-2),.int (-1)],.tup [.int (-2),.int (1)],.tup [.int (-1),.int (2)]]]
noncomputable def namesOf:Nat->List PySem.Str
 | 0=>["piece"]
 | 1=>["piece"]
 | 2=>["b", "count"]
 | 3=>["b"]
 | 4=>["b", "width", "square"]
 | 5=>["b"]
 | 6=>["b", "out", "square"]
 | 7=>["geo", "a", "b", "d"]
 | 8=>["geo", "a", "b", "d"]
 | 9=>["geo", "a", "b", "d"]
 | 10=>["d"]
 | 11=>["geo", "row", "column", "r", "f"]
 | 12=>["geo", "d", "edge"]
 | 13=>["geo", "d", "inner", "delta", "ray", "order", "square", "goal"]
 | 14=>["geo", "square"]
 | 15=>["geo", "files", "not_first", "not_last", "not_first_two", "not_last_two", "square", "b", "near", "far", "found"]
 | 16=>["geo", "start", "index", "base", "corner", "way", "goal"]
 | 17=>["files", "ranks", "has_double", "has_castling", "geo"]
 | 18=>["geo", "d", "square", "occupied", "ray", "stop", "behind"]
 | 19=>["geo", "square", "occupied", "found", "d"]
 | 20=>["geo", "square", "occupied", "found", "d"]
 | 21=>["geo", "square", "occupied"]
 | 22=>["geo", "kind", "square", "occupied"]
 | 23=>["geo", "side", "kind", "square", "occupied"]
 | 24=>["pos", "piece", "s", "bit"]
 | 25=>["pos"]
 | 26=>["pos", "side", "kind"]
 | 27=>["pos", "side"]
 | 28=>["pos"]
 | 29=>["pos"]
 | 30=>["pos", "side", "king", "hits"]
 | 31=>["pos", "side", "king", "snipers", "standing", "held", "pinners", "sniper", "inside"]
 | 32=>["geo", "b", "side"]
 | 33=>["geo", "b", "right", "left"]
 | 34=>["geo", "b", "side"]
 | 35=>["mg", "eg"]
 | 36=>["geo", "side", "rank"]
 | 37=>["pos", "side", "kind", "stops"]
 | 38=>["pos", "side", "kind", "square", "shields", "b"]
 | 39=>["pos", "side", "shields", "by", "twice", "reaches", "kind", "square", "b"]
 | 40=>["pos"]
 | 41=>["pos", "side", "shields", "geo", "low", "out"]
 | 42=>["pos", "side"]
 | 43=>["pos", "side", "area", "counts", "kind", "b"]
 | 44=>["kind", "count", "low_mg", "high_mg", "low_eg", "high_eg", "most", "bend", "mg", "eg"]
 | 45=>["pos", "side", "maps", "area", "total", "kind", "b"]
 | 46=>["n", "count"]
 | 47=>["geo", "square", "centre"]
 | 48=>["pos", "side", "king", "once", "twice", "square"]
 | 49=>["geo", "side", "maps", "ring", "enemy", "near", "count", "weight", "hits", "kind", "b"]
 | 50=>["side", "maps", "own"]
 | 51=>["geo", "square", "out", "file"]
 | 52=>["geo", "side", "king", "camp", "rank"]
 | 53=>["geo", "side", "maps", "near"]
 | 54=>["files", "ranks", "nums", "size", "board", "white", "n", "square", "kind", "is_outer"]
 | 55=>["geo", "board", "side", "numbers", "pos", "square"]
 | 56=>["squares", "total", "t"]
 | 57=>["files", "ranks", "board", "square", "way", "through", "out", "f", "r"]
 | 58=>["files", "ranks", "square", "steps", "out", "df", "dr", "f", "r"]
 | 59=>["files", "ranks", "board", "side", "king", "found", "d", "snipers", "standing", "t"]
 | 60=>["files", "ranks", "board", "square", "shields", "side", "kind", "out", "through", "d", "king", "df", "dr"]
 | 61=>["files", "ranks", "board", "side", "shields", "reaches", "by", "times", "t", "out", "u"]
 | 62=>["files", "ranks", "board", "side", "shields", "hit", "out", "t", "height"]
 | 63=>["files", "ranks", "square", "f", "r"]
 | 64=>["own", "foe", "ring", "guarded", "near", "count", "weight", "hits", "kind", "out"]
 | 65=>["files", "ranks", "board", "pos", "maps", "side", "own", "foe", "shields", "reaches", "by", "times", "squares", "area", "counts", "score", "kind", "out", "missed", "least", "most", "late", "last", "full", "king", "ring", "guarded", "weak", "storm", "t", "height"]
 | 66=>["script", "first", "files", "ranks", "board", "geo", "pos", "maps", "looks", "t", "side"]
 | 1001=>["self", "files", "ranks", "has_double", "has_castling"]
 | 1002=>["self", "geo", "zob"]
 | 1003=>["self", "king", "by", "twice", "reaches", "shields"]
 | 1004=>["self", "pieces", "ep", "rights", "side"]
 | _=>[]
noncomputable def attrNames:List PySem.Str:=["rays", "files", "ranks", "rank_masks", "file_masks", "full", "size", "king", "pawn", "knight", "rights_lost", "has_castling", "castles", "board", "kinds", "sides", "key", "zob", "pieces", "geo", "reaches", "shields", "by", "twice", "side", "has_double", "rights", "ep", "half", "history"]
noncomputable def fnNames:List (PySem.Str × Nat):=[(PySem.Str.ofString "side_of",0),(PySem.Str.ofString "kind_of",1),(PySem.Str.ofString "count_bits",2),(PySem.Str.ofString "more_than_one",3),(PySem.Str.ofString "highest",4),(PySem.Str.ofString "lowest",5),(PySem.Str.ofString "squares_of",6),(PySem.Str.ofString "direction",7),(PySem.Str.ofString "between",8),(PySem.Str.ofString "line",9),(PySem.Str.ofString "is_growing",10),(PySem.Str.ofString "add_masks",11),(PySem.Str.ofString "inner_squares",12),(PySem.Str.ofString "add_rays",13),(PySem.Str.ofString "add_pawns",14),(PySem.Str.ofString "add_knights",15),(PySem.Str.ofString "add_castles",16),(PySem.Str.ofString "make_geometry",17),(PySem.Str.ofString "ray_attacks",18),(PySem.Str.ofString "rook_attacks",19),(PySem.Str.ofString "bishop_attacks",20),(PySem.Str.ofString "queen_attacks",21),(PySem.Str.ofString "slider_attacks",22),(PySem.Str.ofString "piece_attacks",23),(PySem.Str.ofString "put_piece",24),(PySem.Str.ofString "occupied",25),(PySem.Str.ofString "pieces",26),(PySem.Str.ofString "king_square",27),(PySem.Str.ofString "straight_sliders",28),(PySem.Str.ofString "slanting_sliders",29),(PySem.Str.ofString "snipers_of",30),(PySem.Str.ofString "blockers",31),(PySem.Str.ofString "shift_up",32),(PySem.Str.ofString "neighbours",33),(PySem.Str.ofString "pawn_attacks",34),(PySem.Str.ofString "make_score",35),(PySem.Str.ofString "rank_board",36),(PySem.Str.ofString "seen_stops",37),(PySem.Str.ofString "piece_reach",38),(PySem.Str.ofString "attack_map",39),(PySem.Str.ofString "attack_maps",40),(PySem.Str.ofString "area_of",41),(PySem.Str.ofString "mobility_area",42),(PySem.Str.ofString "mobility",43),(PySem.Str.ofString "mobility_bonus",44),(PySem.Str.ofString "mobility_score",45),(PySem.Str.ofString "off_edge",46),(PySem.Str.ofString "king_ring",47),(PySem.Str.ofString "guarded_ring",48),(PySem.Str.ofString "ring_attackers",49),(PySem.Str.ofString "weak_squares",50),(PySem.Str.ofString "flank_files",51),(PySem.Str.ofString "flank_squares",52),(PySem.Str.ofString "storm_count",53),(PySem.Str.ofString "_law_board",54),(PySem.Str.ofString "_law_position",55),(PySem.Str.ofString "_law_bits",56),(PySem.Str.ofString "_law_ray",57),(PySem.Str.ofString "_law_hops",58),(PySem.Str.ofString "_law_shields",59),(PySem.Str.ofString "_law_reach",60),(PySem.Str.ofString "_law_looks",61),(PySem.Str.ofString "_law_area",62),(PySem.Str.ofString "_law_ring",63),(PySem.Str.ofString "_law_into",64),(PySem.Str.ofString "_law_side",65),(PySem.Str.ofString "law",66)]
noncomputable def clNames:List (PySem.Str × Nat):=[("Geometry",1),("Position",2),("AttackMap",3),("Zobrist",4)]
noncomputable def glNames:List (PySem.Str × Nat):=[("WHITE",0),("BLACK",1),("PAWN",2),("KNIGHT",3),("BISHOP",4),("ROOK",5),("QUEEN",6),("KING",7),("EMPTY",8),("STEP_FILES",9),("STEP_RANKS",10),("MOBILITY_ENDS",11),("RING_WEIGHTS",12),("_law_weights",13),("_law_ends",14),("_law_ways",15),("_law_jumps",16)]
noncomputable def heap0 (script:List Int):H := .list true (script.map .int)::tables
end Mob
namespace Mob
open PySem PySem.W PyProof.Rows
inductive All2 {α β:Type} (R:α->β->Prop):List α->List β->Prop where
 | nil:All2 R [] []
 | cons {a:α} {b:β} {as:List α} {bs:List β}:R a b->All2 R as bs->All2 R (a::as) (b::bs)
namespace All2
variable {α β:Type} {R R':α->β->Prop}
theorem len {as:List α} {bs:List β} (h:All2 R as bs):as.length=bs.length:=by
 induction h with
 | nil=>rfl
 | cons _ _ ih=>exact congrArg (· + 1) ih
theorem mono (f:∀ a b,R a b->R' a b) {as:List α} {bs:List β} (h:All2 R as bs):All2 R' as bs:=by
 induction h with
 | nil=>exact .nil
 | cons h _ ih=>exact .cons (f _ _ h) ih
theorem get {as:List α} {bs:List β} (h:All2 R as bs):∀ {i:Nat} {a:α},as[i]? = some a->∃ b,bs[i]? = some b/\R a b:=by
 induction h with
 | nil=>intro i a e; cases e
 | cons h t ih =>
  intro i a e
  cases i with
  | zero=>cases e; exact ⟨_,rfl,h⟩
  | succ i=>exact ih e
theorem app {as:List α} {bs:List β} {as':List α} {bs':List β} (h:All2 R as bs) (h':All2 R as' bs'):All2 R (as++as') (bs++bs'):=by
 induction h with
 | nil=>exact h'
 | cons h _ ih=>exact .cons h ih
theorem set {as:List α} {bs:List β} {a:α} {b:β} (i:Nat) (h:All2 R as bs) (r:R a b):All2 R (as.set i a) (bs.set i b):=by
 induction h generalizing i with
 | nil=>exact .nil
 | cons h t ih =>
  cases i with
  | zero=>exact .cons r t
  | succ i=>exact .cons h (ih i)
theorem drop {as:List α} {bs:List β} (i:Nat) (h:All2 R as bs):All2 R (as.drop i) (bs.drop i):=by
 induction h generalizing i with
 | nil=>cases i <;> exact .nil
 | cons h t ih =>
  cases i with
  | zero=>exact .cons h t
  | succ i=>exact ih i
theorem take {as:List α} {bs:List β} (i:Nat) (h:All2 R as bs):All2 R (as.take i) (bs.take i):=by
 induction h generalizing i with
 | nil=>cases i <;> exact .nil
 | cons h t ih =>
  cases i with
  | zero=>exact .nil
  | succ i=>exact .cons h (ih i)
theorem rep {a:α} {b:β} (h:R a b):∀ n:Nat,All2 R (List.replicate n a) (List.replicate n b)
 | 0 => .nil
 | n+1 => .cons h (rep h n)
end All2
abbrev Rho:=List (Addr × Addr)
noncomputable def AR (ρ:Rho):A->Value->Prop
 | .none,v=>v = .none
 | .int i,v=>∃ t,v = .int i t
 | .ref a,v=>∃ e,ρ[a]? = some e/\v = .ref e.1
noncomputable def VR (ρ:Rho) (h:Heap):V->Value->Prop
 | .undef,_=>False
 | .none,v=>v = .none
 | .bool b,v=>v = .bool b
 | .int i,v=>∃ t,v = .int i t
 | .ref a,v=>∃ e,ρ[a]? = some e/\v = .ref e.1
 | .tup xs,v=>∃ x vs,v = .ref x/\IsTup h x vs.toArray/\All2 (AR ρ) xs vs/\xs.length<=LIM
 | .rng lo hi st,v=>∃ x t u w,v = .ref x/\IsRange h x lo hi st t u w
structure Gr where
 base:Heap
 ca:Nat->Addr
 an:List Str
 rho0:Rho
 deriving Inhabited
noncomputable def ER (g:Gr) (ρ:Rho) (h:Heap) (f:Nat × V) (e:DictEntry):Prop:=(∃ nm t,g.an[f.1]? = some nm/\e.key = .str nm t)/\VR ρ h f.2 e.val
noncomputable def OR (g:Gr) (ρ:Rho) (h:Heap) (o:O) (e:Addr × Addr):Prop :=
 match o with
 | .list fz xs=>∃ vs o' n,e.2=e.1/\h.get? e.1=some o'/\o'.cls = .type "list" /\ o'.data = .seq (List.toArray vs) n/\(fz=false->o'.dict=none/\o'.slots = #[])/\All2 (VR ρ h) xs vs/\xs.length<=LIM
 | .inst c fs=>∃ es n,h.get? e.1=some (instObj (g.ca c) e.2)/\h.get? e.2=some (dictOf es n)/\All2 (ER g ρ h) fs es/\fs.length<=100/\0<c/\c<5
noncomputable def O.live:O->Bool
 | .list fz _ => !fz
 | .inst .. => true
noncomputable def Own (ρ:Rho) (σ:H) (b:Addr):Prop:=∃ (a:Nat) (o:O) (e:Addr × Addr),σ[a]? = some o/\o.live=true/\ρ[a]? = some e/\(b=e.1\/b=e.2)
structure Rel (g:Gr) (ρ:Rho) (σ:H) (h:Heap):Prop where
 keep:∀ b o,g.base.get? b=some o->h.get? b=some o
 len:ρ.length=σ.length
 objs:∀ (a:Nat) (o:O) (e:Addr × Addr),σ[a]? = some o->ρ[a]? = some e->OR g ρ h o e
 fz:∀ (a:Nat) (o:O) (e:Addr × Addr),σ[a]? = some o->o.live=false->ρ[a]? = some e->∃ x,g.base.get? e.1=some x
 new:∀ (a:Nat) (o:O) (e:Addr × Addr),σ[a]? = some o->o.live=true->ρ[a]? = some e->g.base.get? e.1=none/\g.base.get? e.2=none
 apart:∀ (a b:Nat) (o o':O) (e e':Addr × Addr),a≠b->σ[a]? = some o->σ[b]? = some o'->o.live=true->o'.live=true->ρ[a]? = some e->ρ[b]? = some e' ->
  e.1≠e'.1/\e.1≠e'.2/\e.2≠e'.1/\e.2≠e'.2
 pre0:∃ δ,ρ=g.rho0++δ
noncomputable def IsT (o:Obj):Prop:=(o.cls = .type "tuple" /\ ∃ xs n,o.data = .seq xs n)\/(o.cls = .type "range" /\ ∃ vs,o.data = .fields vs)
structure Step (ρ:Rho) (σ:H) (h:Heap) (W:Addr->Prop) (ρ':Rho) (σ':H) (h':Heap):Prop where
 pre:∃ δ,ρ'=ρ++δ
 fra:∀ b o,h.get? b=some o->¬ Own ρ σ b->¬ W b->h'.get? b=some o
 tup:∀ b o,h.get? b=some o->IsT o->h'.get? b=some o
 own:∀ b o,h.get? b=some o->Own ρ' σ' b->Own ρ σ b
 stays:∀ b o,h.get? b=some o->∃ o',h'.get? b=some o'
abbrev NoW:Addr->Prop:=fun _=>False
theorem pre_get {ρ ρ':Rho} (p:∃ δ,ρ'=ρ++δ) {a:Nat} {e:Addr × Addr} (h:ρ[a]? = some e):ρ'[a]? = some e:=by
 obtain ⟨δ,rfl⟩:=p
 rw [List.getElem?_append_left (List.getElem?_eq_some_iff.mp h).1]; exact h
theorem AR.pre {ρ ρ':Rho} (p:∃ δ,ρ'=ρ++δ) {a:A} {v:Value} (h:AR ρ a v):AR ρ' a v:=by
 cases a with
 | none=>exact h
 | int i=>exact h
 | ref a=>obtain ⟨e,h1,h2⟩:=h; exact ⟨e,pre_get p h1,h2⟩
theorem VR.go {ρ ρ':Rho} {h h':Heap} (p:∃ δ,ρ'=ρ++δ) (t:∀ b o,h.get? b=some o->IsT o->h'.get? b=some o) {v:V} {x:Value} (r:VR ρ h v x):VR ρ' h' v x:=by
 cases v with
 | undef=>exact r
 | none=>exact r
 | bool b=>exact r
 | int i=>exact r
 | ref a=>obtain ⟨e,h1,h2⟩:=r; exact ⟨e,pre_get p h1,h2⟩
 | tup xs =>
  refine ea2_4 r fun x vs h1 zq => ?_
  try clear r
  refine ea1_3 zq fun o ho hc hd => ?_
  clear zq
  intro h3 h4
  exact ix2 x vs ⟨h1,⟨o,t _ _ ho (.inl ⟨hc,_,hd⟩),hc,hd⟩,h3.mono fun _ _=>AR.pre p,h4⟩
 | rng lo hi st =>
  refine ea4_2 r fun x a b c h1 h2 => ?_
  try clear r
  exact ix4 x a b c ⟨h1,t _ _ h2 (.inr ⟨rfl,_,rfl⟩)⟩
theorem ER.go {g:Gr} {ρ ρ':Rho} {h h':Heap} (p:∃ δ,ρ'=ρ++δ) (t:∀ b o,h.get? b=some o->IsT o->h'.get? b=some o) {f:Nat × V} {e:DictEntry} (r:ER g ρ h f e):ER g ρ' h' f e :=
 ⟨r.1,r.2.go p t⟩
theorem OR.go {g:Gr} {ρ ρ':Rho} {h h':Heap} (p:∃ δ,ρ'=ρ++δ) (t:∀ b o,h.get? b=some o->IsT o->h'.get? b=some o) {o:O} {e:Addr × Addr}
  (k1:∀ x,h.get? e.1=some x->h'.get? e.1=some x) (k2:∀ x,h.get? e.2=some x->h'.get? e.2=some x) (r:OR g ρ h o e):OR g ρ' h' o e:=by
 cases o with
 | list fz xs =>
  refine ea3_7 r fun vs o' n h0 h1 h2 h3 h4 h5 h6 => ?_
  try clear r
  exact ix3 vs o' n ⟨h0,k1 _ h1,h2,h3,h4,h5.mono fun _ _=>VR.go p t,h6⟩
 | inst c fs =>
  obtain ⟨es,n,h1,h2,h3,h4⟩:=r
  exact ix2 es n ⟨k1 _ h1,k2 _ h2,h3.mono fun _ _=>ER.go p t,h4⟩
section
variable {g:Gr} {ρ ρ' ρ'':Rho} {σ σ' σ'':H} {h h' h'':Heap} {W:Addr->Prop}
theorem VR.step {v:V} {x:Value} (r:VR ρ h v x) (s:Step ρ σ h W ρ' σ' h'):VR ρ' h' v x:=r.go s.pre s.tup
theorem Step.refl:Step ρ σ h W ρ σ h:=⟨⟨[],by simp⟩,fun _ _ e _ _=>e,fun _ _ e _=>e,fun _ _ _ o=>o,fun _ o e=>⟨o,e⟩⟩
theorem Step.trans (a:Step ρ σ h W ρ' σ' h') (b:Step ρ' σ' h' W ρ'' σ'' h''):Step ρ σ h W ρ'' σ'' h'' where
 pre:=let ⟨δ,e⟩:=a.pre; let ⟨δ',e'⟩:=b.pre; ⟨δ++δ',by rw [e',e,List.append_assoc]⟩
 fra:=fun x o e n w=>b.fra x o (a.fra x o e n w) (fun q=>n (a.own x o e q)) w
 tup:=fun x o e t=>b.tup x o (a.tup x o e t) t
 own:=fun x o e q=>let ⟨o',e'⟩:=a.stays x o e; a.own x o e (b.own x o' e' q)
 stays:=fun x o e=>let ⟨o',e'⟩:=a.stays x o e; b.stays x o' e'
theorem Step.weak {W':Addr->Prop} (a:Step ρ σ h W ρ' σ' h') (f:∀ b,W b->W' b):Step ρ σ h W' ρ' σ' h' :=
 ⟨a.pre,fun b o e n w=>a.fra b o e n (fun q=>w (f b q)),a.tup,a.own,a.stays⟩
theorem Step.ext (k:∀ b o,h.get? b=some o->h'.get? b=some o):Step ρ σ h W ρ σ h' :=
 ⟨⟨[],by simp⟩,fun b o e _ _=>k b o e,fun b o e _=>k b o e,fun _ _ _ o=>o,fun b o e=>⟨o,k b o e⟩⟩
theorem Rel.ext (r:Rel g ρ σ h) (k:∀ b o,h.get? b=some o->h'.get? b=some o):Rel g ρ σ h' :=
 ⟨fun b o e=>k b o (r.keep b o e),r.len,fun a o e h1 h2=>(r.objs a o e h1 h2).go ⟨[],by simp⟩ (fun b o e _=>k b o e) (k _) (k _),r.fz,r.new,r.apart,r.pre0⟩
theorem OR.at1 {o:O} {e:Addr × Addr} (q:OR g ρ h o e):∃ x,h.get? e.1=some x:=by
 cases o with
 | list fz xs=>obtain ⟨_,o',_,_,k,_⟩:=q; exact ⟨o',k⟩
 | inst c fs=>obtain ⟨_,_,k,_⟩:=q; exact ⟨_,k⟩
theorem OR.at2 {o:O} {e:Addr × Addr} (q:OR g ρ h o e):∃ x,h.get? e.2=some x:=by
 revert g ρ h o e
 exists g,ρ,h,o,e
 intro q
 cases o with
 | list fz xs=>obtain ⟨_,o',_,z,k,_⟩:=q; exact ⟨o',z ▸ k⟩
 | inst c fs=>obtain ⟨_,_,_,k,_⟩:=q; exact ⟨_,k⟩
theorem Rel.own_at (r:Rel g ρ σ h) {b:Addr} (o:Own ρ σ b):∃ x,h.get? b=some x:=by
 refine ea3_4 o fun a x e h1 h2 h3 h4 => ?_
 try clear o
 have q:=r.objs a x e h1 h3
 rcases h4 with rfl | rfl
 ·exact q.at1
 ·exact q.at2
theorem Rel.own_base (r:Rel g ρ σ h) {b:Addr} (o:Own ρ σ b):g.base.get? b=none:=by
 refine ea3_4 o fun a x e h1 h2 h3 h4 => ?_
 try clear o
 obtain ⟨q1,q2⟩:=r.new a x e h1 h2 h3
 rcases h4 with rfl | rfl
 ·exact q1
 ·exact q2
theorem Rel.own_notT (r:Rel g ρ σ h) {b:Addr} (q:Own ρ σ b) {x:Obj} (e:h.get? b=some x):¬ IsT x:=by
 refine ea3_4 q fun a o d h1 h2 h3 h4 => ?_
 try clear q
 have q:=r.objs a o d h1 h3
 cases o with
 | list fz xs =>
  refine ea3_6 q fun vs o' n k0 k1 k2 k3 k4 k5 => ?_
  try clear q
  rw [k0,or_self] at h4
  subst h4
  rw [k1] at e; cases e
  intro t; unfold IsT at t; rw [k2] at t; simp at t
 | inst c fs =>
  refine ea2_3 q fun es n k1 k2 k3 => ?_
  try clear q
  rcases h4 with rfl | rfl
  ·rw [k1] at e; cases e; intro t; unfold IsT at t; simp at t
  ·rw [k2] at e; cases e; intro t; unfold IsT at t; simp at t
set_option tactic.hygienic true in
theorem get_snoc {α:Type} {l:List α} {x y:α} {a:Nat} (h:(l++[x])[a]? = some y):l[a]? = some y\/(a=l.length/\y=x):=by
 rw [List.getElem?_append] at h
 split at h
 ·exact .inl h
 ·rename_i q
  have:a - l.length=0:=by
   rcases Nat.eq_zero_or_pos (a - l.length) with z | z
   ·exact z
   ·rw [List.getElem?_eq_none (by rw [List.length_singleton]; exact z)] at h; cases h
  rw [this] at h
  simp at h
  exact .inr ⟨by exact Nat.le_antisymm (Z.lz this) (Z.nle q),h.symm⟩
theorem Rel.dom (r:Rel g ρ σ h) {a:Nat} {o:O} (e:σ[a]? = some o):∃ d,ρ[a]? = some d:=by
 have l:=(List.getElem?_eq_some_iff.mp e).1
 exact ⟨_,List.getElem?_eq_getElem (by rw [r.len]; exact l)⟩
theorem Rel.alloc (r:Rel g ρ σ h) {e:Addr × Addr} {o:O} (k:∀ b x,h.get? b=some x->h'.get? b=some x)
  (h1:h.get? e.1=none) (h2:h.get? e.2=none) (hl:o.live=true) (ho:OR g (ρ++[e]) h' o e) :
  Rel g (ρ++[e]) (σ++[o]) h'/\Step ρ σ h W (ρ++[e]) (σ++[o]) h':=by
 revert g ρ σ h h' W e o
 exists g,ρ,σ,h,h',W
 intro r
 exists e,o
 intro k h1 h2 hl ho
 have old:∀ {a:Nat} {x:O} {d:Addr × Addr},(σ++[o])[a]? = some x->(ρ++[e])[a]? = some d->(σ[a]? = some x/\ρ[a]? = some d)\/(a=σ.length/\x=o/\d=e):=by
  intro a x d q1 q2
  have z:=r.len
  rcases get_snoc q1 with p1 | ⟨p1,p1'⟩
  ·rcases get_snoc q2 with p2 | ⟨p2,p2'⟩
   ·exact .inl ⟨p1,p2⟩
   ·have:=(List.getElem?_eq_some_iff.mp p1).1; lia
  ·rcases get_snoc q2 with p2 | ⟨p2,p2'⟩
   ·have:=(List.getElem?_eq_some_iff.mp p2).1; lia
   ·exact .inr ⟨p1,p1',p2'⟩
 have bn:∀ b,h.get? b=none->g.base.get? b=none:=fun b q=>by
  cases z:g.base.get? b with
  | none=>rfl
  | some x=>rw [r.keep b x z] at q; cases q
 have ne:∀ {b c:Addr},(∃ x,h.get? b=some x)->h.get? c=none->b≠c:=fun {b c} ⟨x,q⟩ z y=>by rw [y,z] at q; cases q
 refine ⟨⟨fun b x q=>k b x (r.keep b x q),by simp [r.len],?_,?_,?_,?_,let ⟨δ,z⟩:=r.pre0; ⟨δ++[e],by rw [z,List.append_assoc]⟩⟩,⟨⟨[e],rfl⟩,fun b x q _ _=>k b x q,fun b x q _=>k b x q,?_,fun b x q=>⟨x,k b x q⟩⟩⟩
 ·intro a x d q1 q2
  rcases old q1 q2 with ⟨q1,q2⟩ | ⟨_,rfl,rfl⟩
  ·exact (r.objs a x d q1 q2).go ⟨[e],rfl⟩ (fun b x q _=>k b x q) (k _) (k _)
  ·exact ho
 ·intro a x d q1 q2 q3
  rcases old q1 q3 with ⟨q1,q3⟩ | ⟨_,rfl,_⟩
  ·exact r.fz a x d q1 q2 q3
  ·rw [hl] at q2; cases q2
 ·intro a x d q1 q2 q3
  rcases old q1 q3 with ⟨q1,q3⟩ | ⟨_,rfl,rfl⟩
  ·exact r.new a x d q1 q2 q3
  ·exact ⟨bn _ h1,bn _ h2⟩
 ·intro a b x y d d' l q1 q2 q3 q4 q5 q6
  rcases old q1 q5 with ⟨p1,p5⟩ | ⟨p,_,p5⟩
  ·rcases old q2 q6 with ⟨p2,p6⟩ | ⟨_,_,p6⟩
   ·exact r.apart a b x y d d' l p1 p2 q3 q4 p5 p6
   ·have z:=r.objs a x d p1 p5
    subst p6
    exact ⟨ne z.at1 h1,ne z.at1 h2,ne z.at2 h1,ne z.at2 h2⟩
  ·rcases old q2 q6 with ⟨p2,p6⟩ | ⟨p',_,p6⟩
   ·have z:=r.objs b y d' p2 p6
    subst p5
    exact ⟨(ne z.at1 h1).symm,(ne z.at2 h1).symm,(ne z.at1 h2).symm,(ne z.at2 h2).symm⟩
   ·exact absurd (p.trans p'.symm) l
 ·intro b y l zq
  refine ea3_4 zq fun a x d q1 q2 q3 q4 => ?_
  clear zq
  rcases old q1 q3 with ⟨q1,q3⟩ | ⟨_,rfl,rfl⟩
  ·exact ix3 a x d ⟨q1,q2,q3,q4⟩
  ·exfalso; rcases q4 with rfl | rfl
   ·rw [h1] at l; cases l
   ·rw [h2] at l; cases l
set_option tactic.hygienic true in
theorem get_set {α:Type} {l:List α} {x y:α} {a b:Nat} (h:(l.set a x)[b]? = some y):(b=a/\y=x/\a<l.length)\/(b≠a/\l[b]? = some y):=by
 rw [List.getElem?_set] at h
 split at h
 ·rename_i q
  split at h
  ·exact .inl ⟨q.symm,(Option.some.inj h).symm,by assumption⟩
  ·cases h
 ·rename_i q; exact .inr ⟨fun z=>q z.symm,h⟩
theorem Own.set {a:Nat} {o o':O} (h1:σ[a]? = some o) (h2:o.live=true) {b:Addr} (q:Own ρ (σ.set a o') b):Own ρ σ b:=by
 refine ea3_4 q fun c x d q1 q2 q3 q4 => ?_
 try clear q
 rcases get_set q1 with ⟨rfl,rfl,_⟩ | ⟨_,q1⟩
 ·exact ix3 c o d ⟨h1,h2,q3,q4⟩
 ·exact ix3 c x d ⟨q1,q2,q3,q4⟩
theorem Rel.setX (r:Rel g ρ σ h) {ch:Addr->Prop} {a:Nat} {o o':O} {e:Addr × Addr} {p:Addr} (h1:σ[a]? = some o) (h2:o.live=true) (h3:ρ[a]? = some e) (hp:p=e.1\/p=e.2)
  (k:∀ b x,b≠p->¬ ch b->h.get? b=some x->h'.get? b=some x) (hl:o'.live=true) (hx:∃ x,h'.get? p=some x)
  (hch:∀ b,ch b->¬ Own ρ σ b/\g.base.get? b=none/\(∀ x,h.get? b=some x->¬ IsT x)/\W b/\∃ x,h'.get? b=some x)
  (ho:(∀ b x,h.get? b=some x->IsT x->h'.get? b=some x)->OR g ρ h' o' e) :
  Rel g ρ (σ.set a o') h'/\Step ρ σ h W ρ (σ.set a o') h':=by
 revert g ρ σ h h' W ch a o o' e p
 exists g,ρ,σ,h,h',W
 intro r
 exists ch,a,o,o',e,p
 intro h1 h2 h3 hp k hl hx hch ho
 have own:Own ρ σ p:=⟨a,o,e,h1,h2,h3,hp⟩
 have hT:∀ b x,h.get? b=some x->IsT x->h'.get? b=some x:=fun b x q t=>k b x (fun z=>r.own_notT (z ▸ own) q t) (fun z=>(hch b z).2.2.1 x q t) q
 have ho:=ho hT
 have pb:=r.own_base own
 refine ⟨⟨?_,by simp [r.len],?_,?_,?_,?_,r.pre0⟩,⟨⟨[],by simp⟩,?_,hT,fun b _ _ q=>q.set h1 h2,?_⟩⟩
 ·exact fun b x q=>k b x (fun z=>by rw [z,pb] at q; cases q) (fun z=>by rw [(hch b z).2.1] at q; cases q) (r.keep b x q)
 ·intro b x d q1 q2
  rcases get_set q1 with ⟨rfl,rfl,_⟩ | ⟨ne,q1⟩
  ·rw [h3] at q2; cases q2; exact ho
  ·have ap:d.1≠p/\d.2≠p:=by
    cases hx:x.live with
    | false =>
     obtain ⟨y,u⟩:=r.fz b x d q1 hx q2
     have v:=r.objs b x d q1 q2
     have z:d.1≠p:=fun z=>by rw [z,pb] at u; cases u
     cases x with
     | inst=>cases hx
     | list fz xs =>
      refine ea3_2 v fun _ _ _ w _ => ?_
      try clear v
      exact ⟨z,w ▸ z⟩
    | true =>
     refine an4 (r.apart b a x o d e ne q1 h1 hx h2 q2 h3) fun u1 u2 u3 u4 => ?_
     rcases hp with rfl | rfl
     ·exact ⟨u1,u3⟩
     ·exact ⟨u2,u4⟩
   have nc:¬ ch d.1/\¬ ch d.2:=by
    cases hx:x.live with
    | false =>
     obtain ⟨y,u⟩:=r.fz b x d q1 hx q2
     have v:=r.objs b x d q1 q2
     have z:¬ ch d.1:=fun z=>by rw [(hch _ z).2.1] at u; cases u
     cases x with
     | inst=>cases hx
     | list fz xs =>
      refine ea3_2 v fun _ _ _ w _ => ?_
      try clear v
      exact ⟨z,w ▸ z⟩
    | true=>exact ⟨fun z=>(hch _ z).1 ⟨b,x,d,q1,hx,q2,.inl rfl⟩,fun z=>(hch _ z).1 ⟨b,x,d,q1,hx,q2,.inr rfl⟩⟩
   exact (r.objs b x d q1 q2).go ⟨[],by simp⟩ hT (fun y z=>k _ _ ap.1 nc.1 z) (fun y z=>k _ _ ap.2 nc.2 z)
 ·intro b x d q1 q2 q3
  rcases get_set q1 with ⟨rfl,rfl,_⟩ | ⟨_,q1⟩
  ·rw [hl] at q2; cases q2
  ·exact r.fz b x d q1 q2 q3
 ·intro b x d q1 q2 q3
  rcases get_set q1 with ⟨rfl,rfl,_⟩ | ⟨_,q1⟩
  ·exact r.new b o d h1 h2 q3
  ·exact r.new b x d q1 q2 q3
 ·intro b c x y d d' l q1 q2 q3 q4 q5 q6
  have f:∀ {b:Nat} {x:O},(σ.set a o')[b]? = some x->x.live=true->∃ x',σ[b]? = some x'/\x'.live=true:=by
   intro b x z w
   rcases get_set z with ⟨rfl,rfl,_⟩ | ⟨_,z⟩
   ·exact ⟨o,h1,h2⟩
   ·exact ⟨x,z,w⟩
  refine ea1_2 (f q1 q3) fun x' z1 z2 => ?_
  refine ea1_2 (f q2 q4) fun y' z3 z4 => ?_
  exact r.apart b c x' y' d d' l z1 z3 z2 z4 q5 q6
 ·intro b x q n nw
  exact k b x (fun z=>n (z ▸ own)) (fun z=>nw (hch b z).2.2.2.1) q
 ·intro b x q
  by_cases z:b=p
  ·exact z ▸ hx
  ·by_cases z':ch b
   ·exact (hch b z').2.2.2.2
   ·exact ⟨x,k b x z z' q⟩
theorem Rel.set (r:Rel g ρ σ h) {a:Nat} {o o':O} {e:Addr × Addr} {p:Addr} (h1:σ[a]? = some o) (h2:o.live=true) (h3:ρ[a]? = some e) (hp:p=e.1\/p=e.2)
  (k:∀ b x,b≠p->h.get? b=some x->h'.get? b=some x) (hl:o'.live=true) (hx:∃ x,h'.get? p=some x)
  (ho:(∀ b x,h.get? b=some x->IsT x->h'.get? b=some x)->OR g ρ h' o' e) :
  Rel g ρ (σ.set a o') h'/\Step ρ σ h W ρ (σ.set a o') h' :=
 r.setX (ch:=fun _=>False) h1 h2 h3 hp (fun b x n _=>k b x n) hl hx (fun _ f=>f.elim) ho
theorem Rel.priv (r:Rel g ρ σ h) {p:Addr} (np:¬ Own ρ σ p) (pb:g.base.get? p=none) (nT:∀ x,h.get? p=some x->¬ IsT x) (k:∀ b x,b≠p->h.get? b=some x->h'.get? b=some x) (hx:∃ x,h'.get? p=some x) (w:W p) :
  Rel g ρ σ h'/\Step ρ σ h W ρ σ h':=by
 have hT:∀ b x,h.get? b=some x->IsT x->h'.get? b=some x:=fun b x q t=>k b x (fun z=>nT x (z ▸ q) t) q
 refine ⟨⟨?_,r.len,?_,r.fz,r.new,r.apart,r.pre0⟩,⟨⟨[],by simp⟩,?_,hT,fun _ _ _ q=>q,?_⟩⟩
 ·exact fun b x q=>k b x (fun z=>by rw [z,pb] at q; cases q) (r.keep b x q)
 ·intro b x d q1 q2
  have ap:d.1≠p/\d.2≠p:=by
   cases hx:x.live with
   | false =>
    obtain ⟨y,u⟩:=r.fz b x d q1 hx q2
    have v:=r.objs b x d q1 q2
    have z:d.1≠p:=fun z=>by rw [z,pb] at u; cases u
    cases x with
    | inst=>cases hx
    | list fz xs =>
     refine ea3_2 v fun _ _ _ w _ => ?_
     try clear v
     exact ⟨z,w ▸ z⟩
   | true=>exact ⟨fun z=>np ⟨b,x,d,q1,hx,q2,.inl z.symm⟩,fun z=>np ⟨b,x,d,q1,hx,q2,.inr z.symm⟩⟩
  exact (r.objs b x d q1 q2).go ⟨[],by simp⟩ hT (fun y z=>k _ _ ap.1 z) (fun y z=>k _ _ ap.2 z)
 ·intro b x q _ nw
  exact k b x (fun z=>nw (z ▸ w)) q
 ·intro b x q
  by_cases z:b=p
  ·exact z ▸ hx
  ·exact ⟨x,k b x z q⟩
end
end Mob
namespace Mob
open PySem PySem.W PyProof.Rows
noncomputable def Same (s s':Shared):Prop:=s'.gens=s.gens/\s'.os=s.os
theorem Same.refl {s:Shared}:Same s s:=⟨rfl,rfl⟩
theorem Same.trans {s s' s'':Shared} (a:Same s s') (b:Same s' s''):Same s s'':=⟨b.1.trans a.1,b.2.trans a.2⟩
noncomputable def Go (g:Gr) (W:Addr->Prop) (ρ:Rho) (σ:H) (s:Shared) (σ':H) (P:Rho->Shared->Prop) (s':Shared):Prop :=
 ∃ ρ',Step ρ σ s.heap W ρ' σ' s'.heap/\Rel g ρ' σ' s'.heap/\Same s s'/\P ρ' s'
abbrev PE (g:Gr) (ρ:Rho) (σ:H) (s:Shared) (v:V) (σ':H):Value->Shared->Prop:=fun x s'=>Go g NoW ρ σ s σ' (fun ρ' s'=>VR ρ' s'.heap v x) s'
abbrev PB (g:Gr) (ρ:Rho) (σ:H) (s:Shared) (b:Bool) (σ':H):Bool->Shared->Prop:=fun x s'=>x=b/\Go g NoW ρ σ s σ' (fun _ _=>True) s'
theorem prE {M:Model} {A:Around} {Ex:Value->Shared->Prop} {g:Gr} {ρ:Rho} {s s1:Shared} {σ0 σ σ':H} {m:Sem Value} {v v':V} (h:some (v,σ)=some (v',σ')) (k:wpAny M A m (PE g ρ σ0 s v σ) Ex s1):wpAny M A m (PE g ρ σ0 s v' σ') Ex s1:=by cases h; exact k
section
variable {g:Gr} {W:Addr->Prop} {ρ ρ':Rho} {σ σ' σ'':H} {s s' s'':Shared} {P P':Rho->Shared->Prop}
theorem Go.here (r:Rel g ρ σ s.heap) (p:P ρ s):Go g W ρ σ s σ P s:=⟨ρ,.refl,r,.refl,p⟩
theorem Go.toks (r:Rel g ρ σ s.heap) {t:Nat} (p:P ρ { s with toks:=t }):Go g W ρ σ s σ P { s with toks:=t }:=⟨ρ,.refl,r,⟨rfl,rfl⟩,p⟩
theorem Go.trans (st:Step ρ σ s.heap W ρ' σ' s'.heap) (sa:Same s s') (b:Go g W ρ' σ' s' σ'' P s''):Go g W ρ σ s σ'' P s'' :=
 let ⟨ρ'',x,y,z,p⟩:=b; ⟨ρ'',st.trans x,y,sa.trans z,p⟩
theorem Go.mono (b:Go g W ρ σ s σ' P s') (f:∀ ρ',P ρ' s'->P' ρ' s'):Go g W ρ σ s σ' P' s':=let ⟨ρ',x,y,z,p⟩:=b; ⟨ρ',x,y,z,f _ p⟩
theorem Go.weak {W':Addr->Prop} (b:Go g W ρ σ s σ' P s') (f:∀ b,W b->W' b):Go g W' ρ σ s σ' P s':=let ⟨ρ',x,y,z,p⟩:=b; ⟨ρ',x.weak f,y,z,p⟩
theorem Go.more (r:Rel g ρ σ s.heap) {h':Heap} {t:Nat} (k:∀ b o,s.heap.get? b=some o->h'.get? b=some o) (p:P ρ { s with heap:=h',toks:=t }) :
  Go g W ρ σ s σ P { s with heap:=h',toks:=t }:=⟨ρ,.ext k,r.ext k,⟨rfl,rfl⟩,p⟩
end
theorem push_keeps {h:Heap} {o:Obj}:∀ b x,h.get? b=some x->(h.push o).get? b=some x:=fun _ _ e=>Heap.get?_push_of_some _ e
theorem get_size {h:Heap}:h.get? h.objs.size=none:=Heap.get?_none_of_le (Nat.le_refl _)
section
variable {g:Gr} {W:Addr->Prop} {ρ:Rho} {σ:H} {s:Shared}
theorem Go.newListAt (r:Rel g ρ σ s.heap) {xs:List V} {vs:List Value} {t n:Nat} {x:Addr} {h':Heap} (k:∀ b o,s.heap.get? b=some o->h'.get? b=some o) (hn:s.heap.get? x=none) (hx:IsL h' x vs.toArray n) (a:All2 (VR ρ s.heap) xs vs) (hz:xs.length<=LIM) :
  Go g W ρ σ s (σ++[.list false xs]) (fun ρ' s'=>VR ρ' s'.heap (.ref σ.length) (.ref x)) { s with heap:=h',toks:=t }:=by
 have pre:∃ δ,ρ++[(x,x)]=ρ++δ:=⟨_,rfl⟩
 have q:=r.alloc (W:=W) (e:=(x,x)) (o := .list false xs) k hn hn rfl ⟨vs,_,n,rfl,hx,rfl,rfl,fun _=>⟨rfl,rfl⟩,a.mono fun _ _ v=>v.go pre fun b o e _=>k b o e,hz⟩
 exact ⟨_,q.2,q.1,⟨rfl,rfl⟩,(x,x),by rw [<- r.len]; simp,rfl⟩
theorem Go.newList (r:Rel g ρ σ s.heap) {xs:List V} {vs:List Value} {t:Nat} (a:All2 (VR ρ s.heap) xs vs) (hz:xs.length<=LIM) :
  Go g W ρ σ s (σ++[.list false xs]) (fun ρ' s'=>VR ρ' s'.heap (.ref σ.length) (.ref s.heap.objs.size)) { s with heap:=s.heap.push { cls := .type "list",data := .seq vs.toArray },toks:=t } :=
 Go.newListAt r push_keeps get_size (Heap.get?_push_size _ rfl) a hz
theorem VR.list {h:Heap} {a:Nat} {x:Value} {fz:Bool} {xs:List V} (r:Rel g ρ σ h) (v:VR ρ h (.ref a) x) (e:σ[a]? = some (.list fz xs)) :
  ∃ l vs,x = .ref l/\ρ[a]? = some (l,l)/\h.IsList l (List.toArray vs)/\All2 (VR ρ h) xs vs/\xs.length<=LIM/\(fz=false->∃ n,IsL h l vs.toArray n):=by
 revert g ρ σ h a x fz xs
 exists g,ρ,σ,h,a,x,fz,xs
 intro r v e
 refine ea1_2 v fun d h1 zq => ?_
 try clear v
 subst zq
 refine ea3_7 (r.objs a _ d e h1) fun vs o' n k0 k1 k2 k3 k4 k5 k6 => ?_
 obtain ⟨l,l'⟩:=d
 dsimp only at k0 k1
 subst k0
 refine ix2 l' vs ⟨rfl,h1,⟨o',k1,k2,n,k3⟩,k5,k6,fun z=>⟨n,?_⟩⟩
 obtain ⟨q1,q2⟩:=k4 z
 obtain ⟨c,dd,dt,sl⟩:=o'
 simp only at k2 k3 q1 q2
 subst k2 k3 q1 q2
 exact k1
@[elab_as_elim] theorem VR.listE {h:Heap} {a:Nat} {x:Value} {fz:Bool} {xs:List V} {P:Value->Prop} (r:Rel g ρ σ h) (v:VR ρ h (.ref a) x) (e:σ[a]? = some (.list fz xs))
  (k:∀ l vs,ρ[a]? = some (l,l)->h.IsList l (List.toArray vs)->All2 (VR ρ h) xs vs->xs.length<=LIM->(fz=false->∃ n,IsL h l vs.toArray n)->P (.ref l)):P x:=by
 refine ea2_6 (v.list r e) fun l vs zq => ?_
 subst zq
 intro h1 h2 h3 h4 h5
 exact k l vs h1 h2 h3 h4 h5
@[elab_as_elim] theorem VR.intE {h:Heap} {i:Int} {x:Value} {P:Value->Prop} (v:VR ρ h (.int i) x) (k:∀ t,P (.int i t)):P x:=by
 obtain ⟨t,rfl⟩:=v
 exact k t
theorem Go.setList {l:Addr} {a:Nat} {xs ys:List V} {ws:List Value} {h':Heap} {n t:Nat} (r:Rel g ρ σ s.heap) (e:σ[a]? = some (.list false xs)) (hr:ρ[a]? = some (l,l))
  (hl:IsL h' l ws.toArray n) (sb:Heap.SameBut l s.heap h') (al:All2 (VR ρ s.heap) ys ws) (hz:ys.length<=LIM) {P:Rho->Shared->Prop} (p:P ρ { s with heap:=h',toks:=t }) :
  Go g W ρ σ s (σ.set a (.list false ys)) P { s with heap:=h',toks:=t }:=by
 have q:=r.set (W:=W) (p:=l) (h':=h') (o' := .list false ys) e rfl hr (.inl rfl) (fun b x ne z=>(sb.2 b ne).trans z) rfl ⟨_,hl⟩
  (fun hT=>⟨ws,_,n,rfl,hl,rfl,rfl,fun _=>⟨rfl,rfl⟩,al.mono fun _ _ v=>v.go ⟨[],by simp⟩ hT,hz⟩)
 exact ⟨ρ,q.2,q.1,⟨rfl,rfl⟩,p⟩
end
noncomputable def opOf:Op->Operator
 | .add => .Add | .sub => .Sub | .mul => .Mult | .fdiv => .FloorDiv | .mod => .Mod | .band => .BitAnd | .bor => .BitOr | .bxor => .BitXor | .shl => .LShift | .shr => .RShift
theorem intMulOk_of {a b:Int} (h:a.natAbs<2^64):IntMulOk a b:=IntMulOk.of_left (intBits_le_64 (by exact Z.pd h) (by exact Z.pu h))
section
variable {prog:Program} {w:World} {A:Around} {g:Gr} {ρ:Rho} {σ σ':H} {s:Shared}
set_option tactic.hygienic true in
theorem binI_prim {op:Op} {a b i:Int} {t u:Tok} (e:binI op a b=some i) {Q:Value->Shared->Prop} {E:Value->Shared->Prop} (q:∀ t',Q (.int i t') { s with toks:=s.toks+1 }) :
  wpAny (model prog w) A (binaryOp (opOf op) (.int a t) (.int b u)) Q E s:=by
 revert prog w A s op a b i t u Q E
 exists prog,w,A,s,op,a,b,i,t,u
 intro e
 exists Q,E
 intro q
 cases op <;> simp only [binI] at e
 ·cases e; exact add_int (q _)
 ·cases e; exact sub_int (q _)
 ·split at e
  ·rename_i hm; cases e; exact mul_int (q _) (intMulOk_of hm)
  ·cases e
 ·split at e
  ·rename_i hm; cases e; exact floordiv_int hm.1 (q _) (.inl (PyProof.noPylong_small hm.2))
  ·cases e
 ·split at e
  ·rename_i hm; cases e; exact mod_int hm.1 (q _)
  ·cases e
 ·cases e; exact and_int (q _)
 ·cases e; exact or_int (q _)
 ·cases e; exact xor_int (q _)
 ·split at e
  ·rename_i hm; cases e; exact lshift_int_small hm.1 (by exact Int.le_trans hm.2.1 (by decide)) hm.2.2 (q _)
  ·cases e
 ·split at e
  ·rename_i hm; cases e; exact rshift_int hm (q _)
  ·cases e
set_option tactic.hygienic true in
theorem augI_prim {op:Op} {a b i:Int} {t u:Tok} (e:binI op a b=some i) {Q:Value->Shared->Prop} {E:Value->Shared->Prop} (q:∀ t',Q (.int i t') { s with toks:=s.toks+1 }) :
  wpAny (model prog w) A (inplaceOp (opOf op) (.int a t) (.int b u)) Q E s:=by
 revert prog w A s op a b i t u Q E
 exists prog,w,A,s,op,a,b,i,t,u
 intro e
 exists Q,E
 intro q
 cases op <;> simp only [binI] at e
 ·cases e; exact iadd_int (q _)
 ·cases e; exact isub_int (q _)
 ·split at e
  ·rename_i hm; cases e; exact imul_int (q _) (intMulOk_of hm)
  ·cases e
 ·split at e
  ·rename_i hm; cases e; exact ifloordiv_int hm.1 (q _) (.inl (PyProof.noPylong_small hm.2))
  ·cases e
 ·split at e
  ·rename_i hm; cases e; exact imod_int hm.1 (q _)
  ·cases e
 ·cases e; exact iand_int (q _)
 ·cases e; exact ior_int (q _)
 ·cases e; exact ixor_int (q _)
 ·split at e
  ·rename_i hm
   cases e
   have hb:Builtin.Int.intBits a<=64:=intBits_le_64 (by exact Z.pd hm.2.2) (by exact Z.a1c hm)
   exact ilshift_int hm.1 (by lia) (q _)
  ·cases e
 ·split at e
  ·rename_i hm; cases e; exact irshift_int hm (q _)
  ·cases e
end
end Mob
namespace Mob
open PySem PySem.W PyProof.Rows
structure Room (A:Around) (n:Nat):Prop where
 handled:A.handled=none
 depth:A.depth+2*n+2<=900
 units:A.units+16*n+200<=9900
theorem ints_of {ρ:Rho} {h:Heap} {xs:List V} {vs:List Value} {is:List Int} (e:toIs xs=some is) (al:All2 (VR ρ h) xs vs):IntsAre vs is:=by
 rw [toIs_map e] at al
 clear e
 induction is generalizing vs with
 | nil=>cases al; exact .nil
 | cons i is ih =>
  cases al with
  | cons r t =>
   obtain ⟨t',rfl⟩:=r
   exact .cons _ _ (ih t)
theorem toIs_len {xs:List V} {is:List Int} (e:toIs xs=some is):is.length=xs.length:=by rw [toIs_map e,List.length_map]
theorem aints_of {ρ:Rho} {xs:List A} {vs:List Value} {is:List Int} (e:atoIs xs=some is) (al:All2 (AR ρ) xs vs):IntsAre vs is:=by
 rw [atoIs_map e] at al
 clear e
 induction is generalizing vs with
 | nil=>cases al; exact .nil
 | cons i is ih =>
  cases al with
  | cons r t =>
   obtain ⟨t',rfl⟩:=r
   exact .cons _ _ (ih t)
theorem A.toVR {ρ:Rho} {h:Heap} {a:A} {x:Value} (r:AR ρ a x):VR ρ h a.toV x:=by cases a <;> exact r
theorem toAs_of {ρ:Rho} {h:Heap} {vs:List V} {xs:List Value} {as:List A} (e:toAs vs=some as) (al:All2 (VR ρ h) vs xs):All2 (AR ρ) as xs:=by
 rw [toAs_map e] at al
 clear e
 induction as generalizing xs with
 | nil=>cases al; exact .nil
 | cons a as ih =>
  cases al with
  | cons r t =>
   refine .cons ?_ (ih t)
   cases a <;> exact r
theorem LIM_lt:LIM<2^24:=by decide
theorem ok_len {n:Nat} (h:n<=LIM):n<=sizeLine:=Nat.le_trans h (by decide)
section
variable {prog:Program} {w:World} {A:Around} {E:Value->Shared->Prop} {g:Gr} {ρ:Rho} {σ σ':H} {s:Shared}
theorem seq_list_iadd:seqSlot? (.type "list") (dunderI "add")=pure (some (.builtin "list.__iadd__")):=PySem.seqSlot_of F.slot_list_iadd.lookup (by decide +kernel)
theorem iadd_lists {l b:Addr} {items items2:Array Value} {n n2:Nat} {Q:Value->Shared->Prop} (hl:IsL s.heap l items n) (hb:IsL s.heap b items2 n2)
  (h:Q (.ref l) { s with heap:=s.heap.update l (Obj.mapSeq fun x=>x++items2),toks:=s.toks }) (hsz:items.size+items2.size<=sizeLine):wpAny (model prog w) A (inplaceOp .Add (.ref l) (.ref b)) Q E s:=by
 revert prog w A E s l b items items2 n n2 Q
 exists prog,w,A,E,s,l,b,items,items2,n,n2,Q
 intro hl hb h hsz
 have ha:s.TypeIs (.ref l) "list" := ⟨_,hl,rfl⟩
 have hb':s.TypeIs (.ref b) "list" := ⟨_,hb,rfl⟩
 unfold inplaceOp
 refine wpAny_holding ?_
 have hfi:fillsInplaceSlot (.type "list") "add" (Operator.Add == .Add)=pure false:=by
  unfold fillsInplaceSlot
  show (typeLookup (.type "list") (dunderI "add") >>= fun fi=>pure (fi.isSome && !isSeqSlot fi))=pure false
  rw [show typeLookup (.type "list") (dunderI "add")=pure (some (.builtin "list.__iadd__")) from F.slot_list_iadd.lookup]
  have:isSeqSlot (some (.builtin "list.__iadd__"))=true:=by decide +kernel
  show (pure ((some (Value.builtin "list.__iadd__")).isSome && !isSeqSlot (some (.builtin "list.__iadd__"))):Sem Bool)=_
  rw [this]; rfl
 refine wpAny_bind (wpAny_typeOf ha (wpAny_bind (wpAny_of_eq hfi ?_)))
 show wpAny _ A (if false=true then _ else _) Q E s
 rw [if_neg Bool.false_ne_true]
 refine wpAny_bind (wpAny_binaryOp1_none (nm := "add") ha hb' noFill_list_add ?_)
 refine wpAny_bind (wpAny_of_eq seq_list_iadd ?_)
 refine wpAny_bind (wpAny_rule ?_)
 exact (call_meets F.slot_list_iadd ha F.entry_list_iadd (F.args_list_iadd_2 _ _)
  (AutoSeq1.list___iadd___list_list_0 l items n b items2 n2 (by simp only [Builtin.List.listTooLong,sizeLine] at *; simp; lia) (by exact Nat.le_trans (Nat.le_add_right _ _) hsz) (by exact Nat.le_trans hsz (by decide))) ⟨hl,hb,h⟩)
end
end Mob
namespace Mob
open PySem PySem.W PyProof.Rows
section
variable {prog:Program} {w:World} {A:Around} {E:Value->Shared->Prop} {g:Gr} {ρ:Rho} {σ σ':H} {s:Shared}
theorem mul_listX {l:Addr} {items:Array Value} {k:Nat} {x:Int} {u:Tok} {Q:Value->Shared->Prop} (hl:IsL s.heap l items k)
  (hlo : -(2^63:Int)<=x) (hhi:x<2^63) (hsz:items.size*x.toNat<=2^24)
  (h:Q (.ref s.heap.objs.size) { s with heap:=s.heap.push { cls := .type "list",data := .seq (List.foldl (fun x1 x2=>x1++x2) #[] (List.replicate (if items.isEmpty=true then 0 else x.toNat) items)) } }) :
  wpAny (model prog w) A (binaryOp .Mult (.ref l) (.int x u)) Q E s :=
 wpAny_binaryOp_repeat_ref (T := "list") (U := "int") (by decide) ⟨_,hl,rfl⟩ (fun s'=>typeIs_int s' x u) noFill_list_mul F.fills_int_mul F.slot_int_rmul repeat_list F.slot_int_index.lookup
  (call_meets F.slot_int_rmul (typeIs_int s x u) F.entry_int_rmul (F.args_int_rmul_2 _ _) (int___rmul___int_list x u l items k)
   ⟨hl,rfl,⟨_,hl,rfl⟩,call_meets F.slot_list_mul ⟨_,hl,rfl⟩ F.entry_list_mul (F.args_list_mul_2 _ _)
    (AutoListH.list___mul___list_int_3 l items k x u (by simp [Builtin.List.listFitsIndex]; exact ⟨(Int.le_trans (by decide) hlo),(Int.lt_of_lt_of_le hhi (by decide))⟩) (by exact Nat.not_lt_of_le (Nat.le_trans hsz (by decide))) (by simp [Builtin.List.listTooLong,sizeLine]; exact hsz))
    ⟨hl,h⟩⟩)
theorem all2_one {α β:Type} {R:α->β->Prop} {a:α} {bs:List β} (h:All2 R [a] bs):∃ b,bs=[b]/\R a b:=by
 cases h with
 | cons h t=>cases t; exact ⟨_,rfl,h⟩
@[elab_as_elim] theorem all2_1 {α β:Type} {R:α->β->Prop} {a:α} {bs:List β} {P:List β->Prop} (h:All2 R [a] bs) (k:∀ x,R a x->P [x]):P bs:=by
 cases h with
 | cons h t=>cases t; exact k _ h
@[elab_as_elim] theorem all2_2 {α β:Type} {R:α->β->Prop} {a b:α} {bs:List β} {P:List β->Prop} (h:All2 R [a,b] bs) (k:∀ x y,R a x->R b y->P [x,y]):P bs:=by
 cases h with
 | cons h t=>exact all2_1 (P:=fun bs=>P (_::bs)) t fun y h'=>k _ y h h'
@[elab_as_elim] theorem all2_3 {α β:Type} {R:α->β->Prop} {a b c:α} {bs:List β} {P:List β->Prop} (h:All2 R [a,b,c] bs) (k:∀ x y z,R a x->R b y->R c z->P [x,y,z]):P bs:=by
 cases h with
 | cons h t=>exact all2_2 (P:=fun bs=>P (_::bs)) t fun y z h' h''=>k _ y z h h' h''
theorem binV_prim {op:Op} {v x u:V} {a b:Value} (e0:binV op v x σ=some (u,σ')) (r:Rel g ρ σ s.heap) (ra:VR ρ s.heap v a) (rb:VR ρ s.heap x b) :
  wpAny (model prog w) A (binaryOp (opOf op) a b) (PE g ρ σ s u σ') E s:=by
 revert prog w A E g ρ σ σ' s op v x u a b
 exists prog,w,A,E,g,ρ,σ,σ',s,op,v,x,u,a,b
 intro e0 r ra rb
 refine binV_i e0 (fun i j ev ex e => ?_) (fun l0 l1 xs ys ev ex eo q1 q2 hz e => ?_) fun l0 n y ev ex eo q1 hz e => ?_
 ·subst ev ex
  refine VR.intE ra fun t => ?_
  refine VR.intE rb fun t' => ?_
  refine mp_s e fun i hi e=>prE (congrArg some e) ?_
  exact binI_prim hi fun t''=>Go.toks r ⟨t'',rfl⟩
 ·subst ev ex eo
  refine prE e ?_
  refine VR.listE r ra q1 fun l vs h1 h2 h3 h4 h5 => ?_
  refine VR.listE r rb q2 fun l' vs' h1' h2' h3' h4' h5' => ?_
  obtain ⟨n,h5⟩:=h5 rfl
  obtain ⟨n',h5'⟩:=h5' rfl
  have z:(vs.toArray++vs'.toArray)=(vs++vs').toArray:=by simp
  refine P.add_list h5 h5' ?_ (by simp only [List.size_toArray]; rw [<- h3.len,<- h3'.len]; exact ok_len hz)
  rw [z]
  exact Go.newList r (h3.app h3') (by rw [List.length_append]; exact hz)
 ·subst ev ex eo
  refine prE e ?_
  refine VR.listE r ra q1 fun l vs h1 h2 h3 h4 h5 => ?_
  refine VR.intE rb fun t => ?_
  obtain ⟨k,h5⟩:=h5 rfl
  refine ea1_2 (all2_one h3) fun b0 zq => ?_
  subst zq
  intro hy
  obtain ⟨m,rfl⟩:=Int.eq_ofNat_of_zero_le hz.1
  refine mul_listX h5 (by exact Int.le_trans (by decide) hz.1) (by exact Int.lt_of_le_of_lt hz.2 (by decide)) (by rw [Int.toNat_natCast,List.size_toArray,List.length_singleton,Nat.one_mul]; exact Z.ule (Int.le_trans hz.2 (by decide))) ?_
  have z:(List.foldl (fun x1 x2=>x1++x2) #[] (List.replicate (if [b0].toArray.isEmpty=true then 0 else ((m:Nat):Int).toNat) [b0].toArray))=(List.replicate ((m:Nat):Int).toNat b0).toArray:=by
   have:∀ (k:Nat) (acc:List Value),List.foldl (fun x1 x2=>x1++x2) acc.toArray (List.replicate k [b0].toArray)=(acc++List.replicate k b0).toArray:=by
    intro k
    induction k with
    | zero=>intro acc; simp
    | succ k ih =>
     intro acc
     rw [List.replicate_succ,List.foldl_cons,List.append_toArray,ih (acc++[b0])]
     simp [List.replicate_succ]
   have q:=this ((m:Nat):Int).toNat []
   simpa using q
  rw [z]
  exact Go.newList r (All2.rep hy _) (by rw [List.length_replicate]; simp [LIM]; exact Z.ule (Int.le_trans hz.2 (by decide)))
theorem augO_prim {op:Op} {v x u:V} {a b:Value} (e0:augO op v x σ=some (u,σ')) (r:Rel g ρ σ s.heap) (ra:VR ρ s.heap v a) (rb:VR ρ s.heap x b) :
  wpAny (model prog w) A (inplaceOp (opOf op) a b) (PE g ρ σ s u σ') E s:=by
 revert prog w A E g ρ σ σ' s op v x u a b
 exists prog,w,A,E,g,ρ,σ,σ',s,op,v,x,u,a,b
 intro e0 r ra rb
 refine augO_i e0 (fun i j ev ex e => ?_) fun l0 l1 xs ys ev ex eo q1 q2 hz e => ?_
 ·subst ev ex
  refine VR.intE ra fun t => ?_
  refine VR.intE rb fun t' => ?_
  refine mp_s e fun i hi e=>prE (congrArg some e) ?_
  exact augI_prim hi fun t''=>Go.toks r ⟨t'',rfl⟩
 ·subst ev ex eo
  refine prE e ?_
  refine VR.listE r ra q1 fun l vs h1 h2 h3 h4 h5 => ?_
  refine VR.listE r rb q2 fun l' vs' h1' h2' h3' h4' h5' => ?_
  obtain ⟨n,h5⟩:=h5 rfl
  obtain ⟨n',h5'⟩:=h5' rfl
  refine iadd_lists h5 h5' ?_ (by simp only [List.size_toArray]; rw [<- h3.len,<- h3'.len]; exact ok_len hz.1)
  have z:(vs.toArray++vs'.toArray)=(vs++vs').toArray:=by simp
  have hl:=IsL.update h5 (fun x=>x++vs'.toArray)
  rw [z] at hl
  exact Go.setList r q1 h1 hl (Heap.SameBut.update ..) (h3.app h3') (by rw [List.length_append]; exact hz.1) ⟨_,h1,rfl⟩
noncomputable def cmOf:Cm->CmpOp
 | .eq => .Eq | .ne => .NotEq | .lt => .Lt | .le => .LtE | .gt => .Gt | .ge => .GtE | .inn => .In | .nin => .NotIn
theorem shaped_tup (ns:List Int):SeqAt.shaped (.tuple (ns.map PyData.int))=true:=by
 have h1:=W.depthAll_ints ns
 have h2:PyData.depth (.tuple (ns.map PyData.int))<=64:=by simp only [PyData.depth]; exact Z.le_lt (Nat.lt_of_le_of_lt h1 (by decide))
 show (PyData.canLay0 (.tuple (ns.map PyData.int))&&decide (PyData.depth (.tuple (ns.map PyData.int))<=64))=true
 rw [Bool.and_eq_true]
 exact ⟨by simp only [PyData.canLay0]; exact canLayAll0_ints ns,decide_eq_true h2⟩
theorem reads_tup {h:Heap} {a:Addr} {vs:List Value} {ns:List Int} (hl:IsTup h a vs.toArray) (hi:IntsAre vs ns):Reads h (.ref a) (.tuple (ns.map PyData.int)) []:=by
 refine ea1_3 hl fun o ho hc zq => ?_
 try clear hl
 refine ex1 zq fun n hd => ?_
 clear zq
 exact Reads.tuple ho hc hd (by simpa using readsAll_of_ints hi)
theorem eq_tupK {a b:Addr} {vs us:List Value} {ns ms:List Int} {Q:Value->Shared->Prop} (hl:IsTup s.heap a vs.toArray) (hi:IntsAre vs ns) (hl':IsTup s.heap b us.toArray) (hi':IntsAre us ms) (hu:A.units+64<cLine)
  (h:Q (.bool (decide (ns=ms))) s):wpAny (model prog w) A (compareOp .Eq (.ref a) (.ref b)) Q E s :=
 eq_dataH_same (reads_tup hl hi) (reads_tup hl' hi') (shaped_tup ns) (shaped_tup ms) hu (by simp only [SeqAt.noMix]; exact noMix_ints ns ms) (by simp only [PySem.Spec.same]; rw [same_ints]; exact h)
theorem ne_tupK {a b:Addr} {vs us:List Value} {ns ms:List Int} {Q:Value->Shared->Prop} (hl:IsTup s.heap a vs.toArray) (hi:IntsAre vs ns) (hl':IsTup s.heap b us.toArray) (hi':IntsAre us ms) (hu:A.units+64<cLine)
  (h:Q (.bool (!decide (ns=ms))) s):wpAny (model prog w) A (compareOp .NotEq (.ref a) (.ref b)) Q E s :=
 ne_dataH_same (reads_tup hl hi) (reads_tup hl' hi') (shaped_tup ns) (shaped_tup ms) hu (by simp only [SeqAt.noMix]; exact noMix_ints ns ms) (by simp only [PySem.Spec.same]; rw [same_ints]; exact h)
theorem eqV_prim {v x:V} {a b:Value} {k:Bool} {n:Nat} (e0:eqV σ v x=some k) (rm:Room A n) (r:Rel g ρ σ s.heap) (ra:VR ρ s.heap v a) (rb:VR ρ s.heap x b) {Q Q':Value->Shared->Prop} :
  (Q (.bool k) s->wpAny (model prog w) A (compareOp .Eq a b) Q E s)/\(Q' (.bool (!k)) s->wpAny (model prog w) A (compareOp .NotEq a b) Q' E s):=by
 revert prog w A E g ρ σ s v x a b k n Q Q'
 exists prog,w,A,E,g,ρ,σ,s,v,x,a,b,k,n
 intro e0 rm r ra rb
 exists Q,Q'
 have hu:A.units+64<cLine:=by have:=rm.units; unfold cLine; exact Z.ltR (Nat.add_lt_add_of_le_of_lt (Nat.le_add_right _ _) (by decide)) this
 refine eqV_i e0 (fun i j ev ex e => ?_) (fun a c fz xs fy ys is js ev ex q1 q2 i1 i2 e => ?_) fun xs ys is js ev ex i1 i2 e => ?_
 ·subst ev ex
  refine VR.intE ra fun t => ?_
  refine VR.intE rb fun t' => ?_
  rw [<- Option.some.inj e]
  exact ⟨fun q=>eq_int q,fun q=>ne_int q⟩
 ·subst ev ex
  rw [<- Option.some.inj e]
  refine VR.listE r ra q1 fun l vs h1 h2 h3 h4 h5 => ?_
  refine VR.listE r rb q2 fun l' vs' h1' h2' h3' h4' h5' => ?_
  have z:(is==js)=decide (is=js):=by rw [Bool.eq_iff_iff]; simp
  rw [z]
  exact ⟨fun q=>eq_intsK h2 (ints_of i1 h3) h2' (ints_of i2 h3') hu q,fun q=>ne_intsK h2 (ints_of i1 h3) h2' (ints_of i2 h3') hu q⟩
 ·subst ev ex
  rw [<- Option.some.inj e]
  refine ea2_4 ra fun l vs zq => ?_
  try clear ra
  subst zq
  intro h1 h2 _
  obtain ⟨l',vs',rfl,h1',h2',_⟩:=rb
  have z:(is==js)=decide (is=js):=by rw [Bool.eq_iff_iff]; simp
  rw [z]
  exact ⟨fun q=>eq_tupK h1 (aints_of i1 h2) h1' (aints_of i2 h2') hu q,fun q=>ne_tupK h1 (aints_of i1 h2) h1' (aints_of i2 h2') hu q⟩
theorem contains_any (is:List Int) (i:Int):is.contains i=is.any (· == i):=by
 rw [Bool.eq_iff_iff]
 simp
theorem inV_prim {v x:V} {a b:Value} {k:Bool} (e0:inV σ v x=some k) (r:Rel g ρ σ s.heap) (ra:VR ρ s.heap v a) (rb:VR ρ s.heap x b) {Q Q':Value->Shared->Prop} :
  (Q (.bool k) s->wpAny (model prog w) A (compareOp .In a b) Q E s)/\(Q' (.bool (!k)) s->wpAny (model prog w) A (compareOp .NotIn a b) Q' E s):=by
 refine inV_i e0 fun i a fz xs is ev ex q1 i1 e => ?_
 subst ev ex e
 refine VR.intE ra fun t => ?_
 refine VR.listE r rb q1 fun l vs h1 h2 h3 h4 h5 => ?_
 rw [contains_any] at *
 exact ⟨fun q=>in_list_ints h2 (ints_of i1 h3) q,fun q=>notin_list_ints h2 (ints_of i1 h3) q⟩
theorem cmpV_prim {op:Cm} {v x:V} {a b:Value} {k:Bool} {n:Nat} (e0:cmpV op σ v x=some k) (rm:Room A n) (r:Rel g ρ σ s.heap) (ra:VR ρ s.heap v a) (rb:VR ρ s.heap x b) {Q:Value->Shared->Prop} (q:Q (.bool k) s) :
  wpAny (model prog w) A (compareOp (cmOf op) a b) Q E s:=by
 cases op with
 | eq=>exact (eqV_prim (Q':=Q) e0 rm r ra rb).1 q
 | ne=>exact mp_s e0 fun k' e' h=>(eqV_prim (Q:=Q) e' rm r ra rb).2 (h ▸ q)
 | lt =>
  refine ii e0 fun i j ev ex h => ?_
  subst ev ex h
  refine VR.intE ra fun t => ?_
  refine VR.intE rb fun t' => ?_
  exact lt_int q
 | le =>
  refine ii e0 fun i j ev ex h => ?_
  subst ev ex h
  refine VR.intE ra fun t => ?_
  refine VR.intE rb fun t' => ?_
  exact le_int q
 | gt =>
  refine ii e0 fun i j ev ex h => ?_
  subst ev ex h
  refine VR.intE ra fun t => ?_
  refine VR.intE rb fun t' => ?_
  exact gt_int q
 | ge =>
  refine ii e0 fun i j ev ex h => ?_
  subst ev ex h
  refine VR.intE ra fun t => ?_
  refine VR.intE rb fun t' => ?_
  exact ge_int q
 | inn=>exact (inV_prim (Q':=Q) e0 r ra rb).1 q
 | nin=>exact mp_s e0 fun k' e' h=>(inV_prim (Q:=Q) e' r ra rb).2 (h ▸ q)
theorem truth_prim {v:V} {a:Value} {k:Bool} (e0:truth σ v=some k) (r:Rel g ρ σ s.heap) (ra:VR ρ s.heap v a) {Q:Bool->Shared->Prop} (q:∀ t,Q k { s with toks:=t }) :
  wpAny (model prog w) A (truthy a) Q E s:=by
 revert prog w A E g ρ σ s v a k Q
 exists prog,w,A,E,g,ρ,σ,s,v,a,k
 intro e0 r ra
 exists Q
 intro q
 refine truth_i e0 (fun ev => ?_) (fun i ev h => ?_) fun a fz xs ev q1 h => ?_
 ·subst ev; cases ra; exact wpAny_truthy_bool (q _)
 ·subst ev h; obtain ⟨t,rfl⟩:=ra; exact P.truthy_int (q _)
 ·subst ev h
  refine VR.listE r ra q1 fun l vs h1 h2 h3 h4 h5 => ?_
  refine wpAny_truthy_list h2 (by rw [List.size_toArray,<- h3.len]; have:=LIM_lt; lia) ?_
  have z:vs.toArray.isEmpty=xs.isEmpty:=by cases h3 <;> rfl
  rw [z]
  exact q _
theorem seqIndex_of {k:Int} {vs:List Value} (h:¬ k<0) (h1:k.toNat<vs.length):seqIndex? k vs.toArray.size=some k.toNat:=by
 unfold seqIndex?
 rw [List.size_toArray]
 simp only [h,if_false]
 rw [if_pos]
 simp only [Bool.and_eq_true,decide_eq_true_eq]
 exact Z.kl h h1
theorem getI_prim {v x u:V} {a b:Value} (e0:getI σ v x=some u) (r:Rel g ρ σ s.heap) (ra:VR ρ s.heap v a) (rb:VR ρ s.heap x b) {Q:Value->Shared->Prop} (q:∀ y,VR ρ s.heap u y->Q y s) :
  wpAny (model prog w) A (getItem a b) Q E s:=by
 refine getI_i e0 (fun a n fz xs ev ex hk q1 e => ?_) fun xs n z ev ex hk hz e => ?_
 ·subst ev ex
  refine VR.listE r ra q1 fun l vs h1 h2 h3 h4 h5 => ?_
  refine VR.intE rb fun t => ?_
  refine ea1_2 (h3.get e) fun y hy ry => ?_
  have:=(List.getElem?_eq_some_iff.mp e).1
  have:=LIM_lt
  exact wpAny_getItem_list h2 (by lia) (by lia) (by simpa using hy) (q _ ry)
 ·subst ev ex e
  refine ea2_4 ra fun l vs zq => ?_
  try clear ra
  subst zq
  intro h1 h2 h3
  refine VR.intE rb fun t => ?_
  refine ea1_2 (h2.get hz) fun y hy ry => ?_
  have k1:=(List.getElem?_eq_some_iff.mp hy).1
  have k2:=LIM_lt
  have k3:=h2.len
  exact PyProof.Rows.getItem_tuple h1 (by lia) (by exact Z.kl3 hk k1 k3 h3) (seqIndex_of hk k1) (by simpa using hy) (q _ (Mob.A.toVR ry))
end
end Mob
namespace Mob
open PySem PySem.W PyProof.Rows
set_option tactic.hygienic true in
theorem toIs_get:∀ {xs:List V} {is:List Int},toIs xs=some is->xs=is.map V.int
 | [],_,e=>by cases e; rfl
 | v::xs,is,e=>by
  unfold toIs at e
  split at e
  ·rename_i a as h1 h2
   cases e
   cases v <;> simp only [V.toI] at h1 <;> cases h1
   rw [toIs_get h2]; rfl
  ·cases e
set_option tactic.hygienic true in
theorem findI_idx (i:Int):∀ (is:List Int) (k n:Nat),findI i is k=some n->i∈is/\n=k+is.idxOf i
 | [],k,n,e=>by cases e
 | j::r,k,n,e=>by
  unfold findI at e
  split at e
  ·rename_i q; cases e; subst q; simp
  ·rename_i q
   obtain ⟨h1,h2⟩:=findI_idx i r (k+1) n e
   refine ⟨List.mem_cons_of_mem _ h1,?_⟩
   rw [List.idxOf_cons,show (j==i)=false by simpa using q]
   simp only [cond_false]
   exact Eq.trans h2 Z.i1c
section
variable {prog:Program} {w:World} {A:Around} {E:Value->Shared->Prop} {g:Gr} {ρ:Rho} {σ σ':H} {s:Shared} {W:Addr->Prop}
theorem setL_prim {a':Nat} {k:Int} {xs:List V} {a b c:Value} {u:V} (hk:¬ k<0) (q1:σ[a']? = some (.list false xs)) (hz:k.toNat<xs.length) (r:Rel g ρ σ s.heap) (ra:VR ρ s.heap (.ref a') a) (rb:VR ρ s.heap (.int k) b) (rc:VR ρ s.heap u c) :
  wpAny (model prog w) A (setItem a b c) (fun _ s'=>Go g W ρ σ s (σ.set a' (.list false (xs.set k.toNat u))) (fun _ _=>True) s') E s:=by
 refine VR.listE r ra q1 fun l vs h1 h2 h3 h4 h5 => ?_
 obtain ⟨n,h5⟩:=h5 rfl
 refine VR.intE rb fun t => ?_
 have:=h3.len
 have:=LIM_lt
 refine ki_setAt (n:=n) h5 (by lia) (by exact Z.kl2 hk hz h4) (by rw [List.size_toArray]; lia) ?_
 have hl:=IsL.update h5 (·.setIfInBounds k.toNat c)
 rw [List.setIfInBounds_toArray] at hl
 exact Go.setList r q1 h1 hl (Heap.SameBut.update ..) (h3.set _ rc) (by rw [List.length_set]; exact h4) trivial
theorem setI_prim {v x u:V} {a b c:Value} (e0:setI σ v x u=some σ') (r:Rel g ρ σ s.heap) (ra:VR ρ s.heap v a) (rb:VR ρ s.heap x b) (rc:VR ρ s.heap u c) :
  wpAny (model prog w) A (setItem a b c) (fun _ s'=>Go g W ρ σ s σ' (fun _ _=>True) s') E s:=by
 refine setI_i e0 fun a n xs ev ex hk q1 hz e => ?_
 subst ev ex
 cases e
 exact setL_prim hk q1 hz r ra rb rc
theorem appL {l:Addr} {items:Array Value} {n:Nat} {x:Value} {Q:Value->Shared->Prop} (hl:IsL s.heap l items n) (h:Q .none { s with heap:=s.heap.update l (Obj.mapSeq fun y=>y.push x),toks:=s.toks }) (hsz:items.size<=sizeLine) :
  wpAny (model prog w) A (call (.builtin "list.append") [.ref l,x]) Q E s :=
 call_meets F.slot_list_append ⟨_,hl,rfl⟩ F.entry_list_append (F.args_list_append_2 _ _) (list_append l items n x hsz) ⟨hl,h⟩
theorem append_prim {a:Nat} {l c:Value} {u:V} {xs:List V} (q1:σ[a]? = some (.list false xs)) (hz:xs.length<LIM) (r:Rel g ρ σ s.heap) (ra:VR ρ s.heap (.ref a) l) (rc:VR ρ s.heap u c) :
  wpAny (model prog w) A (call (.builtin "list.append") [l,c]) (PE g ρ σ s .none (σ.set a (.list false (xs++[u])))) E s:=by
 refine VR.listE r ra q1 fun l vs h1 h2 h3 h4 h5 => ?_
 obtain ⟨n,h5⟩:=h5 rfl
 refine appL h5 ?_ (by rw [List.size_toArray,<- h3.len]; exact ok_len h4)
 have hl:=IsL.update h5 (·.push c)
 rw [List.push_toArray] at hl
 exact Go.setList r q1 h1 hl (Heap.SameBut.update ..) (h3.app (.cons rc .nil)) (by simp; exact Z.le_lt hz) rfl
noncomputable def meName:Me->String
 | .append => "list.append" | .index => "list.index" | .count => "list.count"
theorem index_ints {l:Addr} {vs:List Value} {ns:List Int} {k:Int} {t:Tok} {Q:Value->Shared->Prop} (hl:s.heap.IsList l vs.toArray) (hi:IntsAre vs ns)
  (hz:ns.length<=LIM) (hk:k∈ns) (h:Q (.int (ns.idxOf k:Nat) s.toks) { s with toks:=s.toks+1 }) :
  wpAny (model prog w) A (call (.builtin "list.index") [.ref l,.int k t]) Q E s:=by
 refine ex1 (id hl) fun zq => ?_
 obtain ⟨cls,dd,data,sl⟩:=zq
 intro zq2
 refine an3 zq2 fun ho hc zq3 => ?_
 clear zq2
 refine ex1 zq3 fun n hd => ?_
 clear zq3
 simp only at hc hd
 subst hc hd
 have hlen:=hi.length
 have hj:ns.idxOf k<ns.length:=List.idxOf_lt_length_iff.mpr hk
 have hb:=LIM_lt
 refine call_meets F.slot_list_index ⟨_,ho,rfl⟩ F.entry_list_index (F.args_list_index_2 _ _)
  (SeqAt.list_indexAt l vs.toArray n dd sl (.int k t) (isInt k) (ns.idxOf k) (by simpa [hlen] using hj) (by lia) ?_ ?_) ⟨ho,fun y hy=>(eq_isInt k t hi y (by simpa using hy)).at _ _,h⟩
 ·show isInt k vs[ns.idxOf k]=true
  rw [isInt_at k hi _ (by exact Z.ltR hj (Nat.le_of_eq (Eq.symm hlen))) hj]
  simpa using List.getElem_idxOf hj
 ·intro j hjs hlt
  show isInt k vs[j]=false
  rw [isInt_at k hi j (by simpa using hjs) (by exact Nat.lt_trans hlt hj)]
  exact ne_of_lt_idxOf hlt _
theorem methV_prim {m:Me} {v x u:V} {a b:Value} (e0:methV m v x σ=some (u,σ')) (r:Rel g ρ σ s.heap) (ra:VR ρ s.heap v a) (rb:VR ρ s.heap x b) :
  wpAny (model prog w) A (call (.builtin (meName m)) [a,b]) (PE g ρ σ s u σ') E s:=by
 revert prog w A E g ρ σ σ' s m v x u a b
 exists prog,w,A,E,g,ρ,σ,σ',s,m,v,x,u,a,b
 intro e0 r ra rb
 refine methV_i e0 (fun a xs ev q1 em hz e => ?_) (fun a xs i is ev q1 em ex i1 e => ?_) fun a xs i is ev q1 em ex i1 e => ?_
 ·subst ev em; refine prE e ?_; exact append_prim q1 hz r ra rb
 ·subst ev em ex
  refine mp_s e fun n hn e=>prE (congrArg some e) ?_
  refine VR.listE r ra q1 fun l vs h1 h2 h3 h4 h5 => ?_
  refine VR.intE rb fun t => ?_
  obtain ⟨k1,k2⟩:=findI_idx _ _ _ _ hn
  rw [Nat.zero_add] at k2
  subst k2
  exact index_ints h2 (ints_of i1 h3) (by rw [toIs_len i1]; exact h4) k1 (Go.toks r ⟨_,rfl⟩)
 ·subst ev em ex
  refine prE e ?_
  refine VR.listE r ra q1 fun l vs h1 h2 h3 h4 h5 => ?_
  refine VR.intE rb fun t => ?_
  exact count_list_ints h2 (ints_of i1 h3) (Go.toks r ⟨_,rfl⟩)
end
end Mob
namespace Mob
open PySem PySem.W PyProof.Rows
theorem upFrom_len:∀ (n:Nat) (lo:Int),(upFrom n lo).length=n
 | 0,_=>rfl
 | n+1,lo=>by simp [upFrom,upFrom_len n]
theorem downFrom_len:∀ (n:Nat) (lo:Int),(downFrom n lo).length=n
 | 0,_=>rfl
 | n+1,lo=>by simp [downFrom,downFrom_len n]
theorem upFrom_get:∀ (n:Nat) (lo:Int) (k:Nat) (x:Int),(upFrom n lo)[k]? = some x->x=lo+k
 | 0,_,_,_,h=>by simp [upFrom] at h
 | n+1,lo,0,x,h=>by simp [upFrom] at h; exact h ▸ (Int.add_zero lo).symm
 | n+1,lo,k+1,x,h=>by
  simp only [upFrom,List.getElem?_cons_succ] at h
  have:=upFrom_get n (lo+1) k x h
  exact this.trans ((Int.add_assoc lo 1 k).trans (congrArg (lo + ·) (Int.add_comm 1 (k:Int))))
theorem downFrom_get:∀ (n:Nat) (lo:Int) (k:Nat) (x:Int),(downFrom n lo)[k]? = some x->x=lo - k
 | 0,_,_,_,h=>by simp [downFrom] at h
 | n+1,lo,0,x,h=>by simp [downFrom] at h; exact h ▸ (Int.sub_zero lo).symm
 | n+1,lo,k+1,x,h=>by
  simp only [downFrom,List.getElem?_cons_succ] at h
  have:=downFrom_get n (lo - 1) k x h
  exact this.trans ((Int.sub_sub lo 1 k).trans (congrArg (lo - ·) (Int.add_comm 1 (k:Int))))
set_option tactic.hygienic true in
theorem rngItems_spec {lo hi st:Int} {is:List Int} (e:rngItems lo hi st=some is) (h1:lo.natAbs<=LIM) (h2:hi.natAbs<=LIM) :
  Builtin.Range.small lo hi st=true/\Builtin.Range.rangeSize lo hi st=is.length/\(∀ (k:Nat) (x:Int),is[k]? = some x->x=lo+k*st)/\is.length<=2*LIM:=by
 revert lo hi st is
 exists lo,hi,st,is
 intro e h1 h2
 have hl:=LIM_lt
 unfold rngItems at e
 split at e
 ·rename_i q
  cases e
  subst q
  refine ⟨small_one (Z.rl h1) (Z.ru h1) (Z.rl h2) (Z.ru h2),?_,?_,?_⟩
  ·rw [rangeSize_one,upFrom_len]; exact Z.cti
  ·intro k x h; have:=upFrom_get _ _ _ _ h; exact this.trans (by rw [Int.mul_one])
  ·rw [upFrom_len]; exact Z.rt h1 h2
 ·split at e
  ·rename_i q
   cases e
   subst q
   have z:Builtin.Range.rangeSize lo hi (-1)=if lo > hi then lo - hi else 0:=by
    unfold Builtin.Range.rangeSize
    rw [if_neg (by decide)]
    simp only [Int.neg_neg,Int.ediv_one]
    split
    ·exact Int.sub_add_cancel _ _
    ·rfl
   refine ⟨?_,?_,?_,?_⟩
   ·unfold Builtin.Range.small
    rw [z]
    simp only [Builtin.Range.rangeFitsLong,Bool.and_eq_true,Bool.or_eq_true,decide_eq_true_eq,beq_iff_eq,show ¬ ((-1:Int) > 0) by decide,if_false]
    split
    ·exact ⟨⟨⟨⟨Z.rb h1,Z.rb h2⟩,by decide⟩,Z.rs h1 h2⟩,.inr (Z.ra h2)⟩
    ·exact ⟨⟨⟨⟨Z.rb h1,Z.rb h2⟩,by decide⟩,by decide⟩,.inl rfl⟩
   ·rw [z,downFrom_len]; exact Z.cti
   ·intro k x h; have:=downFrom_get _ _ _ _ h; exact this.trans (by rw [Int.mul_neg,Int.mul_one]; rfl)
   ·rw [downFrom_len]; exact Z.rt h2 h1
  ·cases e
noncomputable def It (ρ:Rho) (v:V) (xs:List V) (i:Addr) (k:Nat) (h:Heap):Prop :=
 match v with
 | .ref a=>∃ l,ρ[a]? = some (l,l)/\h.IsListIter i l k
 | .tup as=>∃ x vs,IsTupIter h i x k/\IsTup h x vs.toArray/\All2 (AR ρ) as vs/\xs=as.map A.toV
 | .rng lo _ st=>IsRangeIter h i (lo+k*st) ((xs.length:Int) - k) st/\(∀ (k:Nat) (x:V),xs[k]? = some x->x=V.int (lo+k*st))
 | _=>False
theorem It.at {ρ:Rho} {v:V} {xs:List V} {i:Addr} {k:Nat} {h:Heap} (t:It ρ v xs i k h):∃ o,h.get? i=some o:=by
 cases v <;> simp only [It] at t
 ·obtain ⟨l,_,o,ho,_⟩:=t; exact ⟨o,ho⟩
 ·obtain ⟨x,vs,⟨o,ho,_⟩,_⟩:=t; exact ⟨o,ho⟩
 ·exact ⟨_,t.1⟩
theorem It.notT {ρ:Rho} {v:V} {xs:List V} {i:Addr} {k:Nat} {h:Heap} (t:It ρ v xs i k h) {o:Obj} (e:h.get? i=some o):¬ IsT o:=by
 revert ρ v xs i k h o
 exists ρ,v,xs,i,k,h
 intro t
 exists o
 intro e
 cases v <;> simp only [It] at t
 ·obtain ⟨l,_,o,ho,hc,_⟩:=t; rw [ho] at e; cases e; unfold IsT; rw [hc]; simp
 ·obtain ⟨x,vs,⟨o,ho,hc,_⟩,_⟩:=t; rw [ho] at e; cases e; unfold IsT; rw [hc]; simp
 ·rw [t.1] at e; cases e; unfold IsT; simp
theorem It.go {ρ ρ':Rho} {v:V} {xs:List V} {i:Addr} {k:Nat} {h h':Heap} (p:∃ δ,ρ'=ρ++δ) (tt:∀ b o,h.get? b=some o->IsT o->h'.get? b=some o)
  (ki:∀ o,h.get? i=some o->h'.get? i=some o) (t:It ρ v xs i k h):It ρ' v xs i k h':=by
 cases v <;> simp only [It] at t ⊢
 ·obtain ⟨l,h1,o,ho,r⟩:=t; exact ⟨l,pre_get p h1,o,ki _ ho,r⟩
 ·refine ea2_4 t fun x vs zq => ?_
  try clear t
  refine ea1_2 zq fun o ho r => ?_
  clear zq
  intro zq2
  refine ea1_3 zq2 fun o' ho' hc' r' => ?_
  clear zq2
  intro a e
  exact ix2 x vs ⟨⟨o,ki _ ho,r⟩,⟨o',tt _ _ ho' (.inl ⟨hc',_,r'⟩),hc',r'⟩,a.mono fun _ _=>AR.pre p,e⟩
 ·exact ⟨ki _ t.1,t.2⟩
section
variable {prog:Program} {w:World} {A:Around} {E:Value->Shared->Prop} {g:Gr} {ρ:Rho} {σ σ':H} {s:Shared} {W:Addr->Prop}
theorem iter_prim {v:V} {xs:List V} {a:Value} (e0:items σ v=some xs) (r:Rel g ρ σ s.heap) (ra:VR ρ s.heap v a) {Q:Value->Shared->Prop}
  (q:∀ i h',s.heap.get? i=none->(∀ b o,s.heap.get? b=some o->h'.get? b=some o)->It ρ v xs i 0 h'->Q (.ref i) { s with heap:=h' }) :
  wpAny (model prog w) A (pyIter a) Q E s:=by
 revert prog w A E g ρ σ s v xs a Q
 exists prog,w,A,E,g,ρ,σ,s,v,xs,a
 intro e0 r ra
 exists Q
 intro q
 refine items_i e0 (fun lo hi st is ev hz hi e => ?_) (fun as ev e => ?_) fun a fz ev q1 => ?_
 ·subst ev e
  refine ea4_2 ra fun x t u y zq => ?_
  try clear ra
  subst zq
  intro hr
  refine an4 (rngItems_spec hi hz.1 hz.2) fun z1 z2 z3 z4 => ?_
  refine wpAny_pyIter_range hr z1 (q _ _ get_size push_keeps ⟨?_,?_⟩)
  ·rw [z2]; simp only [List.length_map,Int.natCast_zero,Int.zero_mul,Int.add_zero,Int.sub_zero]
   exact Heap.get?_push_size _ rfl
  ·intro k x h
   rw [List.getElem?_map] at h
   refine ea1_2 (Option.map_eq_some_iff.mp h) fun j hj zq => ?_
   subst zq
   rw [z3 _ _ hj]
 ·subst ev e
  refine ea2_4 ra fun x vs zq => ?_
  try clear ra
  subst zq
  intro h1 h2 _
  exact iter_tuple h1 (q _ _ get_size push_keeps ⟨x,vs,⟨_,Heap.get?_push_size _ rfl,rfl,rfl⟩,h1.push _,h2,rfl⟩)
 ·subst ev
  refine VR.listE r ra q1 fun l vs h1 h2 h3 h4 h5 => ?_
  exact wpAny_pyIter_list h2 (q _ _ get_size push_keeps ⟨l,h1,_,Heap.get?_push_size _ rfl,rfl,rfl⟩)
set_option tactic.hygienic true in
theorem still_list {a:Nat} {xs:List V} (h:still (.ref a) xs σ=true):∃ fz,σ[a]? = some (.list fz xs):=by
 unfold still at h
 dsimp only at h
 split at h
 ·rename_i fz ys q; simp at h; subst h; exact ⟨fz,q⟩
 ·cases h
set_option tactic.hygienic true in
theorem next_prim {v:V} {xs:List V} {i:Addr} {k:Nat} {x:V} (t:It ρ v xs i k s.heap) (st:still v xs σ=true) (hx:xs[k]? = some x) (r:Rel g ρ σ s.heap) {Q:Option Value->Shared->Prop}
  (q:∀ y h' tk,VR ρ s.heap x y->Heap.SameBut i s.heap h'->It ρ v xs i (k+1) h'->Q (some y) { s with heap:=h',toks:=tk }) :
  wpAny (model prog w) A (pyNext (.ref i)) Q E s:=by
 revert prog w A E g ρ σ s v xs i k x Q
 exists prog,w,A,E,g,ρ,σ,s,v,xs,i,k,x
 intro t st hx r
 exists Q
 intro q
 have t':=t
 cases v <;> simp only [It] at t
 ·refine ea1_2 t fun l h1 h2 => ?_
  try clear t
  obtain ⟨fz,q1⟩:=still_list st
  refine ea2_6 (VR.list (x := .ref l) r ⟨_,h1,rfl⟩ q1) fun l' vs hl h1' h2' h3 h4 h5 => ?_
  cases hl
  refine ea1_2 (h3.get hx) fun y hy ry => ?_
  exact wpAny_pyNext_list_item h2 h2' (by simpa using hy) fun h' hi sb=>q y h' s.toks ry sb ⟨l,h1,hi⟩
 ·refine ea2_4 t fun x' vs h1 h2 h3 zq => ?_
  try clear t
  subst zq
  rw [List.getElem?_map] at hx
  refine ea1_2 (Option.map_eq_some_iff.mp hx) fun z hz zq => ?_
  subst zq
  refine ea1_2 (h3.get hz) fun y hy ry => ?_
  refine next_tuple_item h1 h2 (by simpa using hy) fun h' hi sb=>q y h' s.toks (Mob.A.toVR ry) sb ⟨x',vs,hi,?_,h3,rfl⟩
  refine h2.extBut sb.extBut fun z => ?_
  refine ea1_3 h2 fun o ho hc hd => ?_
  try clear h2
  exact t'.notT (z ▸ ho) (.inl ⟨hc,_,hd⟩)
 ·obtain ⟨h1,h2⟩:=t
  have hk:=(List.getElem?_eq_some_iff.mp hx).1
  refine wpAny_pyNext_range_item h1 (Int.sub_pos_of_lt (Int.ofNat_lt.mpr hk)) fun h' hi sb=>q _ h' _ (by rw [h2 _ _ hx]; exact ⟨_,rfl⟩) sb ⟨?_,h2⟩
  rename_i lo hi' st'
  have e1:lo+((k+1:Nat):Int)*st'=lo+k*st'+st':=by
   rw [Int.natCast_add,Int.add_mul]; simp only [Int.natCast_one,Int.one_mul]; lia
  have e2:(xs.length:Int) - ((k+1:Nat):Int)=xs.length - k - 1:=(Int.sub_sub (xs.length:Int) k 1).symm
  rw [e1,e2]
  exact hi
theorem end_prim {v:V} {xs:List V} {i:Addr} {k:Nat} (hh:A.handled=none) (t:It ρ v xs i k s.heap) (st:still v xs σ=true) (hx:xs.length<=k) (r:Rel g ρ σ s.heap) {Q:Option Value->Shared->Prop}
  (q:∀ h',Heap.ExtBut i s.heap h'->Q none { s with heap:=h' }) :
  wpAny (model prog w) A (pyNext (.ref i)) Q E s:=by
 cases v <;> simp only [It] at t
 ·refine ea1_2 t fun l h1 h2 => ?_
  try clear t
  obtain ⟨fz,q1⟩:=still_list st
  refine ea2_6 (VR.list (x := .ref l) r ⟨_,h1,rfl⟩ q1) fun l' vs hl h1' h2' h3 h4 h5 => ?_
  cases hl
  have:=h3.len
  exact wpAny_pyNext_list_end hh h2 h2' (by simp; exact Nat.le_trans (Nat.le_of_eq (Eq.symm this)) hx) q
 ·refine ea2_4 t fun x' vs h1 h2 h3 zq => ?_
  try clear t
  subst zq
  have:=h3.len
  rw [List.length_map] at hx
  exact next_tuple_end hh h1 h2 (by simp; exact Nat.le_trans (Nat.le_of_eq (Eq.symm this)) hx) q
 ·exact wpAny_pyNext_range_end hh t.1 (Int.sub_nonpos_of_le (Int.ofNat_le.mpr hx)) q
theorem letOwned_prim {target:Expr} {v:V} {xs:List V} {i:Addr} {k:Nat} {x:V} {y:Value} (t:It ρ v xs i k s.heap) (ry:VR ρ s.heap x y) (r:Rel g ρ σ s.heap) (dom:∀ a,x = .ref a->∃ o,σ[a]? = some o) {Q:Unit->Shared->Prop} (q:Q () s) :
  wpAny (model prog w) A (letOwnedTupleGo target (.ref i) y) Q E s:=by
 revert prog w A E g ρ σ s target v xs i k x y Q
 exists prog,w,A,E,g,ρ,σ,s,target,v,xs,i,k,x,y
 intro t ry r dom
 exists Q
 intro q
 have key:∀ a:Nat,wpAny (model prog w) A (do
   let o <- load i
   match o.cls,o.data with
   | .type n,.fields vs =>
    if ["enumerate", "zip", "dict_itemiterator", "dict_reverseitemiterator", "odict_iterator", "itertools.zip_longest", "itertools.pairwise"].contains n&&vs[0]? == some (rawInt (a:Nat)) then
     rule "for.unpacks-the-owned-tuple"
     updateField i 0 .none
   | _,_=>pure ()) Q E s:=by
  intro a
  cases v <;> simp only [It] at t
  ·refine ea1_2 t fun l _ zq => ?_
   try clear t
   refine ea1_3 zq fun o ho hc hd => ?_
   clear zq
   refine wpAny_bind (wpAny_load ho ?_)
   rw [hc,hd]
   exact wpAny_pure q
  ·refine ea2_2 t fun x vs zq => ?_
   try clear t
   refine ea1_3 zq fun o ho hc hd => ?_
   clear zq
   intro _
   refine wpAny_bind (wpAny_load ho ?_)
   rw [hc,hd]
   exact wpAny_pure q
  ·exact wpAny_bind (wpAny_load t.1 (wpAny_pure q))
 unfold letOwnedTupleGo
 cases target <;> first | exact wpAny_pure q | skip
 all_goals
  cases y <;> first | exact wpAny_pure q | exact key _
end
end Mob
namespace Mob
open PySem PySem.W PyProof.Rows
noncomputable def clsOk (K:Frag) (C:Addr) (an:List Str) (fI:Addr):Bool :=
 makesIn K C&&(findIn K (.ref C) "__init__" == some (some (.ref fI)))&&(typeIn K (.ref fI)==some (.type "function"))&&hasDictIn K C&&plainOver K C &&
 (findIn K (.ref C) "__setattr__" == some (some (.builtin "object.__setattr__"))) &&
 an.all fun n=>plainGet K C n&&(findIn K (.ref C) n==some none)&&(takerIn K C n==some none)
structure Cls (K:Frag) (C:Addr) (an:List Str) (fI:Addr):Prop where
 makes:makesIn K C=true
 init:findIn K (.ref C) "__init__" = some (some (.ref fI))
 fn:typeIn K (.ref fI)=some (.type "function")
 hasD:hasDictIn K C=true
 over:plainOver K C=true
 set:findIn K (.ref C) "__setattr__" = some (some (.builtin "object.__setattr__"))
 get:∀ n∈an,plainGet K C n=true/\findIn K (.ref C) n=some none/\takerIn K C n=some none
theorem cls_of {K:Frag} {C:Addr} {an:List Str} {fI:Addr} (e:clsOk K C an fI=true):Cls K C an fI:=by
 revert K C an fI
 exists K,C,an,fI
 intro e
 unfold clsOk at e
 simp only [Bool.and_eq_true,beq_iff_eq,List.all_eq_true] at e
 refine an2 e fun zq => ?_
 try clear e
 refine an2 zq fun zq2 => ?_
 clear zq
 refine an2 zq2 fun zq3 => ?_
 clear zq2
 refine an2 zq3 fun zq4 => ?_
 clear zq3
 refine an2 zq4 fun zq5 => ?_
 clear zq4
 refine an2 zq5 fun e1 e2 => ?_
 clear zq5
 intro e3
 intro e4
 intro e5
 intro e6
 intro e7
 exact ⟨e1,e2,e3,e4,e5,e6,fun n hn=>⟨(e7 n hn).1.1,(e7 n hn).1.2,(e7 n hn).2⟩⟩
theorem isStr_str {x y:Str} {t:Tok}:(Value.str x t).isStr y=(x==y):=rfl
theorem an_inj {an:List Str} (nd:an.Nodup) {i j:Nat} {n:Str} (h1:an[i]? = some n) (h2:an[j]? = some n):i=j:=by
 obtain ⟨l1,e1⟩:=List.getElem?_eq_some_iff.mp h1
 obtain ⟨l2,e2⟩:=List.getElem?_eq_some_iff.mp h2
 exact (List.getElem_inj nd).mp (e1.trans e2.symm)
section
variable {g:Gr} {ρ:Rho} {h:Heap}
theorem getL_some (nd:g.an.Nodup) {f:Nat} {n:Str} (hn:g.an[f]? = some n)  {fs:List (Nat × V)} {es:List DictEntry} {u:V} (al:All2 (ER g ρ h) fs es) (q:fs.lookup f=some u) :
  ∃ y,getL n es=some (some y)/\VR ρ h u y:=by
 revert g ρ h f n fs es u
 exists g,ρ,h
 intro nd
 exists f,n
 intro hn
 exists fs,es,u
 intro al q
 induction al with
 | nil=>cases q
 | @cons kx e fs es hr tl ih =>
  obtain ⟨k,x⟩:=kx
  refine an2 hr fun zq => ?_
  try clear hr
  refine ea2_2 zq fun nm t h1 h2 => ?_
  clear zq
  intro r
  rw [List.lookup_cons] at q
  cases hk:f==k with
  | true =>
   rw [hk] at q
   cases q
   have hk:f=k:=by simpa using hk
   subst hk
   rw [hn] at h1
   cases h1
   refine ⟨e.val,?_,r⟩
   unfold getL
   rw [List.find?_cons,h2,isStr_str,beq_self_eq_true]
  | false =>
   rw [hk] at q
   refine ea1_2 (ih q) fun y hy ry => ?_
   refine ⟨y,?_,ry⟩
   have ne:(nm==n)=false:=by
    cases z:nm==n with
    | false=>rfl
    | true =>
     have z:nm=n:=by simpa using z
     subst z
     have:=an_inj nd hn h1
     subst this
     simp at hk
   have rk:e.refKey=false:=by unfold DictEntry.refKey; rw [h2]
   unfold getL at hy ⊢
   rw [List.find?_cons,h2,isStr_str,ne]
   simp only [List.any_cons,rk,Bool.false_or]
   exact hy
theorem getL_isSome {n:Str}:∀ {fs:List (Nat × V)} {es:List DictEntry},All2 (ER g ρ h) fs es->(getL n es).isSome=true:=by
 intro fs es a
 have:es.any (·.refKey)=false:=by
  induction a with
  | nil=>rfl
  | cons q _ ih =>
   refine an2 q fun zq => ?_
   try clear q
   refine ea2_2 zq fun nm t _ h2 => ?_
   clear zq
   intro _
   rw [List.any_cons,ih]
   unfold DictEntry.refKey
   rw [h2]; rfl
 unfold getL
 split
 ·rfl
 ·rw [this]; rfl
theorem putL_ER (nd:g.an.Nodup) {f:Nat} {n:Str} (hn:g.an[f]? = some n) {u:V} {y:Value} {hs:Int} {t:Tok} (r:VR ρ h u y)  {fs:List (Nat × V)} {es:List DictEntry} (al:All2 (ER g ρ h) fs es) :
  All2 (ER g ρ h) (putF fs f u) (putL n hs (.str n t) y es):=by
 revert g ρ h f n u y hs t fs es
 exists g,ρ,h
 intro nd
 exists f,n
 intro hn
 exists u,y,hs,t
 intro r
 exists fs,es
 intro al
 induction al with
 | nil=>exact .cons ⟨⟨n,t,hn,rfl⟩,r⟩ .nil
 | @cons kx e fs es hr tl ih =>
  obtain ⟨k,x⟩:=kx
  obtain ⟨⟨nm,t',h1,h2⟩,r'⟩:=hr
  unfold putF putL
  rw [h2,isStr_str]
  by_cases hk:k=f
  ·subst hk
   rw [hn] at h1
   cases h1
   rw [if_pos rfl,if_pos (by simp)]
   exact .cons ⟨⟨_,t',hn,rfl⟩,r⟩ tl
  ·have ne:(nm==n)=false:=by
    cases z:nm==n with
    | false=>rfl
    | true =>
     have z:nm=n:=by simpa using z
     subst z
     exact absurd (an_inj nd h1 hn) hk
   rw [if_neg hk,ne,if_neg (by decide)]
   exact .cons ⟨⟨nm,t',h1,h2⟩,r'⟩ ih
theorem putF_len {f:Nat} {u:V}:∀ fs:List (Nat × V),(putF fs f u).length<=fs.length+1
 | []=>by simp [putF]
 | (k,x)::fs=>by
  unfold putF
  split
  ·simp
  ·simp only [List.length_cons]; have:=putF_len (f:=f) (u:=u) fs; exact Nat.add_le_add this (by decide)
theorem VR.handed {v:V} {y:Value} (r:VR ρ h v y):handedIn y=true:=by
 cases v with
 | undef=>exact r.elim
 | none=>cases r; rfl
 | bool b=>cases r; rfl
 | int i=>obtain ⟨t,rfl⟩:=r; rfl
 | ref a=>obtain ⟨e,_,rfl⟩:=r; rfl
 | tup xs=>obtain ⟨_,_,rfl,_⟩:=r; rfl
 | rng a b c=>obtain ⟨_,_,_,_,rfl,_⟩:=r; rfl
end
section
variable {prog:Program} {w:World} {A:Around} {E:Value->Shared->Prop} {g:Gr} {ρ:Rho} {σ σ':H} {s:Shared} {K:Frag} {fi:Nat->Addr}
noncomputable def others (h:Heap) (L dx:Addr):List (Addr × Obj):=(List.range h.objs.size).filterMap fun b=>if b=L\/b=dx then none else (h.get? b).map fun o=>(b,o)
theorem others_mem {h:Heap} {L dx b:Addr} {o:Obj} (e:h.get? b=some o) (h1:b≠L) (h2:b≠dx):(b,o)∈others h L dx:=by
 unfold others
 rw [List.mem_filterMap]
 exact ⟨b,List.mem_range.mpr (Heap.lt_size e),by rw [if_neg (by simp [h1,h2]),e]; rfl⟩
set_option tactic.hygienic true in
theorem others_of {h:Heap} {L dx:Addr} {p:Addr × Obj} (m:p∈others h L dx):h.get? p.1=some p.2/\p.1≠L/\p.1≠dx:=by
 unfold others at m
 rw [List.mem_filterMap] at m
 refine ea1_2 m fun b _ e => ?_
 try clear m
 split at e
 ·cases e
 ·rename_i q
  refine ea1_2 (Option.map_eq_some_iff.mp e) fun o ho zq => ?_
  subst zq
  simp only [not_or] at q
  exact ⟨ho,q.1,q.2⟩
theorem get_nil (b:Addr):({}:Heap).get? b=none:=rfl
theorem getAttr_prim (X:K.In g.base) (nd:g.an.Nodup) (hc:∀ c,c<5->0<c->Cls K (g.ca c) g.an (fi c)) {v u:V} {f:Nat} {n:Str} {a:Value} {expr:Bool} (hn:g.an[f]? = some n) (e0:attrOf σ v f=some u)
  (r:Rel g ρ σ s.heap) (ra:VR ρ s.heap v a) {Q:Value->Shared->Prop} (q:∀ y t,VR ρ s.heap u y->Q y { s with toks:=t }) :
  wpAny (model prog w) A (getAttr a n expr) Q E s:=by
 refine attrOf_i e0 fun l0 c fs ev q1 e => ?_
 subst ev
 refine ea1_2 ra fun d h1 zq => ?_
 try clear ra
 subst zq
 refine ea2_6 (r.objs _ _ d q1 h1) fun es m k1 k2 k3 k4 c2 c1 => ?_
 refine ea1_2 (getL_some nd hn k3 e) fun y hy ry => ?_
 have C:=hc c c1 c2
 refine an3 (C.get n (List.mem_of_getElem? hn)) fun g1 g2 g3 => ?_
 have I:InstAt s.heap d.1 (instObj (g.ca c) d.2) (g.ca c) (some (dictOf es m)):=⟨k1,rfl,rfl,k2⟩
 exact get_value (X.keeps r.keep) I (plainGet_of g1).1 (findObj_own C.hasD g2 rfl hy) ry.handed (q y _ ry)
theorem setAttr_prim (X:K.In g.base) (nd:g.an.Nodup) (hc:∀ c,c<5->0<c->Cls K (g.ca c) g.an (fi c)) {v u:V} {f:Nat} {n:Str} {a b:Value} (hn:g.an[f]? = some n) (e0:attrSet σ v f u=some σ')
  {L:Addr} {m:Str->Option Value} (ns:s.heap.Ns L m) (nL:¬ Own ρ σ L)
  (r:Rel g ρ σ s.heap) (ra:VR ρ s.heap v a) (rb:VR ρ s.heap u b) {W:Addr->Prop} (wL:W L) (bL:g.base.get? L=none) {Q:Unit->Shared->Prop}
  (q:∀ s',Go g W ρ σ s σ' (fun _ s'=>s'.heap.Ns L m) s'->Q () s') :
  wpAny (model prog w) A (setAttr a n b) Q E s:=by
 revert prog w A E g ρ σ σ' s K fi v u f n a b L m W Q
 exists prog,w,A,E,g,ρ,σ,σ',s,K,fi
 intro X nd hc
 exists v,u,f,n,a,b
 intro hn e0
 exists L,m
 intro ns nL r ra rb
 exists W
 intro wL bL
 exists Q
 intro q
 refine attrSet_i e0 fun l0 c fs ev q1 fl e => ?_
 subst ev
 cases e
 refine ea1_2 ra fun d h1 zq => ?_
 try clear ra
 subst zq
 refine ea2_6 (r.objs _ _ d q1 h1) fun es k k1 k2 k3 k4 c2 c1 => ?_
 have C:=hc c c1 c2
 refine an3 (C.get n (List.mem_of_getElem? hn)) fun g1 g2 g3 => ?_
 have I:InstAt s.heap d.1 (instObj (g.ca c) d.2) (g.ca c) (some (dictOf es k)):=⟨k1,rfl,rfl,k2⟩
 have dL:d.2≠L:=fun z=>nL ⟨_,_,d,q1,rfl,h1,.inr z.symm⟩
 have Fr0:Fr {} L s.heap m:=⟨ns,fun b o e=>(by cases (get_nil b).symm.trans e),Nat.zero_le _⟩
 have N0:News {} L s.heap ([]++(d.2,dictOf es k)::others s.heap L d.2):=by
  intro p hp
  rcases List.mem_cons.mp hp with rfl | hp
  ·exact ⟨k2,dL,rfl⟩
  ·refine an3 (others_of hp) fun z1 z2 z3 => ?_
   exact ⟨z1,z2,rfl⟩
 have el:=k3.len
 have pl:=(putL_ER nd hn (hs:=PyData.keyHash w.params n) (t:=s.toks+1) rb k3)
 have pn:=pl.len
 have pf:=putF_len (f:=f) (u:=u) fs
 refine set_plain (X.keeps r.keep) I C.set (osa_dict (s:={ s with toks:=s.toks+1 }) Fr0 N0 (X.keeps r.keep) I rfl C.over g3 C.hasD (getL_isSome k3) (by simp)
  (fun p hp=>(others_of hp).2.2) (putName_dict ..) rfl (by show (putL n (PyData.keyHash w.params n) (.str n (s.toks+1)) b es).length<=1000; lia) fun h' F' N'=>q _ ?_)
 have nT:∀ x,s.heap.get? L=some x->¬ IsT x:=fun x e t=>by
  refine ea3_3 ns fun o es ep ho hd _ => ?_
  try clear ns
  rw [ho] at e; cases e
  unfold IsT at t; rw [hd] at t; simp at t
 have kk:∀ x o,x≠d.2->¬ x=L->s.heap.get? x=some o->h'.get? x=some o:=fun x o n1 n2 e=>(N' (x,o) (List.mem_cons_of_mem _ (others_mem e n2 n1))).1
 have kd:h'.get? d.2=some _:=(N' _ (List.mem_cons_self ..)).1
 have k1':h'.get? d.1=some _:=kk _ _ (fun z=>by rw [z,k2] at k1; cases k1) (fun z=>nL ⟨_,_,d,q1,rfl,h1,.inl z.symm⟩) k1
 have st:=r.setX (W:=W) (ch:=(· = L)) (h':=h') (o' := .inst c (putF fs f u)) q1 rfl h1 (.inr rfl) kk rfl ⟨_,kd⟩
  (fun b hb=>hb ▸ ⟨nL,bL,nT,wL,let ⟨o,_,_,ho,_⟩:=F'.ns; ⟨o,ho⟩⟩)
  (fun hT=>⟨_,_,k1',kd,pl.mono fun _ _=>ER.go ⟨[],by simp⟩ hT,by exact Nat.le_trans pf (Z.le_lt fl),c2,c1⟩)
 exact ⟨ρ,st.2,st.1,⟨rfl,rfl⟩,F'.ns⟩
end
end Mob
namespace Mob
open PySem PySem.W PyProof.Rows
section
variable {prog:Program} {w:World} {A:Around} {E:Value->Shared->Prop} {g:Gr} {ρ:Rho} {σ σ':H} {s:Shared}
theorem subTail {value slice:Expr} {o i:Value} {T id:String} {Q:Value->Shared->Prop} (hT:s.TypeIs o T)
  (hl:typeLookup (.type T) "__getitem__" = pure (some (.builtin id))) (h:wpAny (model prog w) A (getItem o i) Q E s)
  (hs:∃ ops,subscripted slice false o i=operate ops (getItem o i)) :
  wpAny (model prog w) A (subscriptTail value slice o i) Q E s:=by
 obtain ⟨ops,hs⟩:=hs
 unfold subscriptTail
 refine wpAny_bind ?_
 rw [getitemInPython_of_ne hT.not_modules]
 refine wpAny_bind (wpAny_specialOf hT hl ?_)
 have fin:wpAny (model prog w) A (subscripted slice false o i) (fun r s₃=>wpAny (model prog w) A (letTemporaryGo value o r >>= fun _=>pure r) Q E s₃) E s:=by
  rw [hs]
  exact wpAny_operating (wpAny_mono h (fun r s₃ h₃=>wpAny_bind (wpAny_letTemporaryGo (wpAny_pure h₃))) fun _ _ x=>x)
 exact wpAny_pure (wpAny_bind fin)
theorem getI_type {v x u:V} {a:Value} (e0:getI σ v x=some u) (r:Rel g ρ σ s.heap) (ra:VR ρ s.heap v a):∃ T id,s.TypeIs a T/\typeLookup (.type T) "__getitem__" = pure (some (.builtin id)):=by
 refine getI_i e0 (fun a n fz xs ev ex hk q1 e => ?_) fun xs n z ev ex hk hz e => ?_
 ·subst ev
  refine VR.listE r ra q1 fun l vs h1 h2 h3 h4 h5 => ?_
  exact ix2 _ _ ⟨h2.typeIs,slot_list_getitem.lookup⟩
 ·subst ev
  refine ea2_4 ra fun l vs zq => ?_
  try clear ra
  subst zq
  intro h1 h2 h3
  exact ⟨_,_,h1.typeIs,slot_tuple_getitem.lookup⟩
theorem subscr_int {slice:Expr} (hs:∀ a b c d,slice ≠ .Slice a b c d) (o i:Value):∃ ops,subscripted slice false o i=operate ops (getItem o i):=by
 cases slice with
 | Slice a b c d=>exact absurd rfl (hs a b c d)
 | _=>exact ⟨_,rfl⟩
theorem sub_prim {value slice:Expr} {v x u:V} {a b:Value} (hs:∀ a b c d,slice ≠ .Slice a b c d) (e:getI σ v x=some u) (r:Rel g ρ σ s.heap) (ra:VR ρ s.heap v a) (rb:VR ρ s.heap x b) :
  wpAny (model prog w) A (subscriptTail value slice a b) (PE g ρ σ s u σ) E s:=by
 refine ea2_2 (getI_type e r ra) fun T id h1 h2 => ?_
 exact subTail h1 h2 (getI_prim e r ra rb fun y ry=>Go.here r ry) (subscr_int hs a b)
theorem sliceV_prim {value:Expr} {lo hi:Option Expr} {p:Pos} {v x u:V} {z:Option V} {a b c:Value} (e0:sliceV σ v x z=some (u,σ')) (r:Rel g ρ σ s.heap) (ra:VR ρ s.heap v a) (rb:VR ρ s.heap x b)
  (rc:match z with | none=>c = .none | some z=>VR ρ s.heap z c) :
  wpAny (model prog w) A (subscriptTail value (.Slice lo hi none p) a (.ref s.heap.objs.size)) (PE g ρ σ s u σ') E { s with heap:=s.heap.push { cls := .type "slice",data := .fields #[b,c,.none] } }:=by
 revert prog w A E g ρ σ σ' s value lo hi p v x u z a b c
 exists prog,w,A,E,g,ρ,σ,σ',s,value,lo,hi,p,v,x,u,z,a,b,c
 intro e0 r ra rb rc
 refine sliceV_i e0 fun l0 i fz xs ys ev ex q1 hl hy e => ?_
 subst ev ex
 refine prE (congrArg some e) ?_
 refine VR.listE r ra q1 fun l vs h1 h2 h3 h4 h5 => ?_
 refine VR.intE rb fun t => ?_
 obtain ⟨m,hm⟩:=Int.eq_ofNat_of_zero_le hl
 subst hm
 have fin:∀ {ws:List Value} {hi':Option Int},All2 (VR ρ s.heap) ys ws->ys.length<=LIM->IsPart c hi'->slicePick vs.toArray (some (m:Int)) hi' none=ws.toArray ->
   wpAny (model prog w) A (subscriptTail value (.Slice lo hi none p) (.ref l) (.ref s.heap.objs.size)) (PE g ρ σ s (.ref σ.length) (σ++[.list false ys])) E { s with heap:=s.heap.push { cls := .type "slice",data := .fields #[.int m t,c,.none] } }:=by
  intro ws hi' al hz hp hq
  refine subTail (T := "list") (Heap.IsList.typeIs (s:={ s with heap:=s.heap.push _ }) (h2.push _)) slot_list_getitem.lookup (wpAny_getItem_list_slice (h2.push _) (Heap.IsSliceOf.new ..) (.int _ _) hp .none (by simp) ?_ (by rw [List.size_toArray,<- h3.len]; exact ok_len h4)) ⟨_,rfl⟩
  rw [hq]
  exact Go.newListAt r (fun b o e=>push_keeps _ _ (push_keeps _ _ e)) (by rw [Heap.size_push]; exact Heap.get?_none_of_le (Nat.le_succ _)) (Heap.get?_push_size _ rfl) al hz
 rw [Int.toNat_natCast] at hy
 refine sliceXs_i hy (fun ez ey => ?_) fun i' ez hh ey => ?_
 ·subst ez ey
  dsimp only at rc
  subst rc
  exact fin (h3.drop _) (by rw [List.length_drop]; exact Nat.le_trans (Nat.sub_le _ _) h4) .none (by rw [slicePick_from'])
 ·subst ez ey
  obtain ⟨t',rfl⟩:=rc
  obtain ⟨n,hn⟩:=Int.eq_ofNat_of_zero_le hh.2
  subst hn
  refine fin ((h3.drop _).take _) (by rw [List.length_take,List.length_drop]; exact Z.mnl h4) (.int _ _) ?_
  rw [slicePick_plain]
  simp only [Option.elim,clipAt_nat,List.size_toArray,Int.toNat_natCast]
  congr 1
  rcases Nat.le_total m vs.length with h | h
  ·rw [Nat.min_eq_left h]
   rcases Nat.le_total n vs.length with h' | h'
   ·rw [Nat.min_eq_left h']
   ·rw [Nat.min_eq_right h',List.take_of_length_le (by simp),List.take_of_length_le (by simp; lia)]
  ·rw [Nat.min_eq_right h,List.drop_of_length_le (by simp),List.drop_of_length_le (by simpa using h)]; simp
noncomputable def biVal:Bi->Value
 | .len => .builtin "len" | .range => .type "range" | .min => .builtin "min" | .max => .builtin "max" | .abs => .builtin "abs" | .list => .type "list"
noncomputable def biName:Bi->Str
 | .len => "len" | .range => "range" | .min => "min" | .max => "max" | .abs => "abs" | .list => "list"
theorem biName_is (b:Bi):bootBuiltins (biName b)=some (biVal b):=by cases b <;> decide +kernel
theorem rng_go {lo hi st:Int} {t u x:Tok} {tk:Nat} (r:Rel g ρ σ s.heap) :
  Go g NoW ρ σ s σ (fun ρ' s'=>VR ρ' s'.heap (.rng lo hi st) (.ref s.heap.objs.size)) { s with heap:=s.heap.push { cls := .type "range",data := .fields #[.int lo t,.int hi u,.int st x] },toks:=tk } :=
 Go.more r push_keeps ⟨_,t,u,x,rfl,Heap.get?_push_size _ rfl⟩
theorem all2_get {α β:Type} {R:α->β->Prop}:∀ {as:List α} {bs:List β},as.length=bs.length->(∀ (i:Nat) (a:α) (b:β),as[i]? = some a->bs[i]? = some b->R a b)->All2 R as bs
 | [],[],_,_ => .nil
 | a::as,b::bs,l,h => .cons (h 0 a b rfl rfl) (all2_get (by simpa using l) fun i x y h1 h2=>h (i+1) x y (by simpa using h1) (by simpa using h2))
 | [],_::_,l,_=>by simp at l
 | _::_,[],l,_=>by simp at l
theorem biV_prim {b:Bi} {vs:List V} {u:V} {vals:List Value} {n:Nat} (e0:biV b vs σ=some (u,σ')) (rm:Room A n) (r:Rel g ρ σ s.heap) (ra:All2 (VR ρ s.heap) vs vals) :
  wpAny (model prog w) A (call (biVal b) vals) (PE g ρ σ s u σ') E s:=by
 revert prog w A E g ρ σ σ' s b vs u vals n
 exists prog,w,A,E,g,ρ,σ,σ',s,b,vs,u,vals,n
 intro e0 rm r ra
 cases b with
 | len =>
  refine biL_i e0 fun l0 fz xs ev q1 e => ?_
  subst ev
  refine prE (congrArg some e) ?_
  refine all2_1 ra fun x1 rA => ?_
  refine VR.listE r rA q1 fun l vs h1 h2 h3 h4 h5 => ?_
  refine len_list h2 (by rw [List.size_toArray,<- h3.len]; have:=LIM_lt; lia) (Go.toks r ?_)
  rw [List.size_toArray,h3.len]
  exact ⟨_,rfl⟩
 | range =>
  refine bi_i e0 fun is w ev h e => ?_
  subst ev
  refine prE (congrArg some e) ?_
  refine biR_i h (fun a ei ew => ?_) (fun a b ei ew => ?_) fun a b c ei hc ew => ?_
  ·subst ei ew
   refine all2_1 ra fun x1 rA => ?_
   refine VR.intE rA fun t => ?_
   exact call_range_1 (rng_go r)
  ·subst ei ew
   refine all2_2 ra fun x1 x2 rA rB => ?_
   refine VR.intE rA fun t => ?_
   refine VR.intE rB fun t' => ?_
   exact call_range_2 (rng_go r)
  ·subst ei ew
   refine all2_3 ra fun x1 x2 x3 rA rB rC => ?_
   refine VR.intE rA fun t => ?_
   refine VR.intE rB fun t' => ?_
   refine VR.intE rC fun t'' => ?_
   exact call_range_3 (by lia) (rng_go r) (.inl (PyProof.noPylong_small (by exact Z.c11 hc)))
 | min =>
  refine bi_i e0 fun is w ev h e=>bi2_i h fun a b ei ew => ?_
  subst ev
  refine prE (congrArg some e) ?_
  subst ei ew
  refine all2_2 ra fun x1 x2 rA rB => ?_
  refine VR.intE rA fun t => ?_
  refine VR.intE rB fun t' => ?_
  refine min_two_ints rm.handled fun h' tk k => ?_
  split
  ·exact Go.more r k ⟨_,by rw [Int.min_def]; split <;> first | rfl | (congr 1; lia)⟩
  ·exact Go.more r k ⟨_,by rw [Int.min_def]; split <;> first | rfl | (congr 1; lia)⟩
 | max =>
  refine bi_i e0 fun is w ev h e=>bi2_i h fun a b ei ew => ?_
  subst ev
  refine prE (congrArg some e) ?_
  subst ei ew
  refine all2_2 ra fun x1 x2 rA rB => ?_
  refine VR.intE rA fun t => ?_
  refine VR.intE rB fun t' => ?_
  refine max_two_ints rm.handled fun h' tk k => ?_
  split
  ·exact Go.more r k ⟨_,by rw [Int.max_def]; split <;> first | rfl | (congr 1; lia)⟩
  ·exact Go.more r k ⟨_,by rw [Int.max_def]; split <;> first | rfl | (congr 1; lia)⟩
 | abs =>
  refine bi_i e0 fun is w ev h e=>bi1_i h fun a ei ew => ?_
  subst ev
  refine prE (congrArg some e) ?_
  subst ei ew
  refine all2_1 ra fun x1 rA => ?_
  refine VR.intE rA fun t => ?_
  refine call_abs_int fun u tk=>Go.toks r ⟨u,?_⟩
  congr 1
  exact Z.ab
 | list =>
  refine biC_i e0 fun lo hi st xs ev hz hl e => ?_
  subst ev
  refine prE (congrArg some e) ?_
  refine all2_1 ra fun x1 rA => ?_
  refine ea4_2 rA fun x t u y zq => ?_
  try clear rA
  subst zq
  intro hr
  refine if_s hz fun hb hz=>mp_s hz fun is hi e => ?_
  subst e
  refine an4 (rngItems_spec hi hb.1 hb.2) fun z1 z2 z3 z4 => ?_
  refine call_list_range rm.handled hr z1 z2 (by have:=LIM_lt; rw [List.length_map] at hl; exact Nat.le_trans hl (by decide)) fun h' tk acc c' k hS hacc => ?_
  refine Go.newListAt (vs:=acc.toList) r k get_size (by simpa using hS) (all2_get ?_ ?_) hl
  ·have:=hacc.1; simp only [List.length_map,Array.length_toList]; exact Eq.symm this
  ·intro j a b ha hb
   rw [List.getElem?_map] at ha
   refine ea1_2 (Option.map_eq_some_iff.mp ha) fun q hq zq => ?_
   subst zq
   rw [Array.getElem?_toList] at hb
   obtain ⟨t',rfl⟩:=hacc.2 j b hb
   rw [z3 _ _ hq]
   exact ⟨t',rfl⟩
end
end Mob
namespace Mob
open PySem PySem.W PyProof.Rows
structure Nm where
 fn:List (Str × Nat)
 cl:List (Str × Nat)
 gl:List (Str × Nat)
 an:List Str
 deriving Inhabited
noncomputable def isGlob (sc:Scope) (x:Str):Bool:=sc.names.lookup x==some .globalImplicit&&x != ("__debug__" : Str)
noncomputable def isVar (sc:Scope) (x:Str):Bool:=(match sc.names.lookup x with | some .local | some .cell | some .free=>true | _=>false)&&x != ("__debug__" : Str)&&x != ("__classdict__" : Str)
noncomputable def isTgt (sc:Scope) (x:Str):Bool:=match sc.names.lookup x with | some .local | some .cell=>true | _=>false
noncomputable def onBoolOp (e:PySem.Expr) (f:BoolOp->List Expr->Pos->Bool):Bool:=if h:e.ctorIdx=0 then PySem.Expr.BoolOp.elim (motive_1:=fun _=>Bool) e h f else false
theorem onBoolOp_t {e:PySem.Expr} {f:BoolOp->List Expr->Pos->Bool} {P:PySem.Expr->Prop} (h:onBoolOp e f=true) (k:∀ op vs p,f op vs p=true->P (.BoolOp op vs p)):P e:=by
 by_cases z:e.ctorIdx=0
 ·exact PySem.Expr.BoolOp.elim (motive_1:=fun e=>onBoolOp e f=true->P e) e z (fun op vs p h=>k op vs p h) h
 ·exact absurd ((dif_neg z).symm.trans h) Bool.false_ne_true
noncomputable def onBinOp (e:PySem.Expr) (f:Expr->Operator->Expr->Pos->Bool):Bool:=if h:e.ctorIdx=2 then PySem.Expr.BinOp.elim (motive_1:=fun _=>Bool) e h f else false
theorem onBinOp_t {e:PySem.Expr} {f:Expr->Operator->Expr->Pos->Bool} {P:PySem.Expr->Prop} (h:onBinOp e f=true) (k:∀ l o r p,f l o r p=true->P (.BinOp l o r p)):P e:=by
 by_cases z:e.ctorIdx=2
 ·exact PySem.Expr.BinOp.elim (motive_1:=fun e=>onBinOp e f=true->P e) e z (fun l o r p h=>k l o r p h) h
 ·exact absurd ((dif_neg z).symm.trans h) Bool.false_ne_true
noncomputable def onUnaryOp (e:PySem.Expr) (f:UnaryOp->Expr->Pos->Bool):Bool:=if h:e.ctorIdx=3 then PySem.Expr.UnaryOp.elim (motive_1:=fun _=>Bool) e h f else false
theorem onUnaryOp_t {e:PySem.Expr} {f:UnaryOp->Expr->Pos->Bool} {P:PySem.Expr->Prop} (h:onUnaryOp e f=true) (k:∀ o x p,f o x p=true->P (.UnaryOp o x p)):P e:=by
 by_cases z:e.ctorIdx=3
 ·exact PySem.Expr.UnaryOp.elim (motive_1:=fun e=>onUnaryOp e f=true->P e) e z (fun o x p h=>k o x p h) h
 ·exact absurd ((dif_neg z).symm.trans h) Bool.false_ne_true
noncomputable def onIfExp (e:PySem.Expr) (f:Expr->Expr->Expr->Pos->Bool):Bool:=if h:e.ctorIdx=5 then PySem.Expr.IfExp.elim (motive_1:=fun _=>Bool) e h f else false
theorem onIfExp_t {e:PySem.Expr} {f:Expr->Expr->Expr->Pos->Bool} {P:PySem.Expr->Prop} (h:onIfExp e f=true) (k:∀ t a b p,f t a b p=true->P (.IfExp t a b p)):P e:=by
 by_cases z:e.ctorIdx=5
 ·exact PySem.Expr.IfExp.elim (motive_1:=fun e=>onIfExp e f=true->P e) e z (fun t a b p h=>k t a b p h) h
 ·exact absurd ((dif_neg z).symm.trans h) Bool.false_ne_true
noncomputable def onListComp (e:PySem.Expr) (f:Expr->List Comprehension->Scope->Pos->Bool):Bool:=if h:e.ctorIdx=8 then PySem.Expr.ListComp.elim (motive_1:=fun _=>Bool) e h f else false
theorem onListComp_t {e:PySem.Expr} {f:Expr->List Comprehension->Scope->Pos->Bool} {P:PySem.Expr->Prop} (h:onListComp e f=true) (k:∀ x gs sc p,f x gs sc p=true->P (.ListComp x gs sc p)):P e:=by
 by_cases z:e.ctorIdx=8
 ·exact PySem.Expr.ListComp.elim (motive_1:=fun e=>onListComp e f=true->P e) e z (fun x gs sc p h=>k x gs sc p h) h
 ·exact absurd ((dif_neg z).symm.trans h) Bool.false_ne_true
noncomputable def onCompare (e:PySem.Expr) (f:Expr->List CmpOp->List Expr->Pos->Bool):Bool:=if h:e.ctorIdx=15 then PySem.Expr.Compare.elim (motive_1:=fun _=>Bool) e h f else false
theorem onCompare_t {e:PySem.Expr} {f:Expr->List CmpOp->List Expr->Pos->Bool} {P:PySem.Expr->Prop} (h:onCompare e f=true) (k:∀ l os rs p,f l os rs p=true->P (.Compare l os rs p)):P e:=by
 by_cases z:e.ctorIdx=15
 ·exact PySem.Expr.Compare.elim (motive_1:=fun e=>onCompare e f=true->P e) e z (fun l os rs p h=>k l os rs p h) h
 ·exact absurd ((dif_neg z).symm.trans h) Bool.false_ne_true
noncomputable def onCall (e:PySem.Expr) (f:Expr->List Expr->List Keyword->Pos->Bool):Bool:=if h:e.ctorIdx=16 then PySem.Expr.Call.elim (motive_1:=fun _=>Bool) e h f else false
theorem onCall_t {e:PySem.Expr} {f:Expr->List Expr->List Keyword->Pos->Bool} {P:PySem.Expr->Prop} (h:onCall e f=true) (k:∀ c as ks p,f c as ks p=true->P (.Call c as ks p)):P e:=by
 by_cases z:e.ctorIdx=16
 ·exact PySem.Expr.Call.elim (motive_1:=fun e=>onCall e f=true->P e) e z (fun c as ks p h=>k c as ks p h) h
 ·exact absurd ((dif_neg z).symm.trans h) Bool.false_ne_true
noncomputable def onConstant (e:PySem.Expr) (f:Const->Nat->Pos->Bool):Bool:=if h:e.ctorIdx=19 then PySem.Expr.Constant.elim (motive_1:=fun _=>Bool) e h f else false
theorem onConstant_t {e:PySem.Expr} {f:Const->Nat->Pos->Bool} {P:PySem.Expr->Prop} (h:onConstant e f=true) (k:∀ c j p,f c j p=true->P (.Constant c j p)):P e:=by
 by_cases z:e.ctorIdx=19
 ·exact PySem.Expr.Constant.elim (motive_1:=fun e=>onConstant e f=true->P e) e z (fun c j p h=>k c j p h) h
 ·exact absurd ((dif_neg z).symm.trans h) Bool.false_ne_true
noncomputable def onAttribute (e:PySem.Expr) (f:Expr->Str->Pos->Bool):Bool:=if h:e.ctorIdx=20 then PySem.Expr.Attribute.elim (motive_1:=fun _=>Bool) e h f else false
theorem onAttribute_t {e:PySem.Expr} {f:Expr->Str->Pos->Bool} {P:PySem.Expr->Prop} (h:onAttribute e f=true) (k:∀ v n p,f v n p=true->P (.Attribute v n p)):P e:=by
 by_cases z:e.ctorIdx=20
 ·exact PySem.Expr.Attribute.elim (motive_1:=fun e=>onAttribute e f=true->P e) e z (fun v n p h=>k v n p h) h
 ·exact absurd ((dif_neg z).symm.trans h) Bool.false_ne_true
noncomputable def onSubscript (e:PySem.Expr) (f:Expr->Expr->Pos->Bool):Bool:=if h:e.ctorIdx=21 then PySem.Expr.Subscript.elim (motive_1:=fun _=>Bool) e h f else false
theorem onSubscript_t {e:PySem.Expr} {f:Expr->Expr->Pos->Bool} {P:PySem.Expr->Prop} (h:onSubscript e f=true) (k:∀ v s p,f v s p=true->P (.Subscript v s p)):P e:=by
 by_cases z:e.ctorIdx=21
 ·exact PySem.Expr.Subscript.elim (motive_1:=fun e=>onSubscript e f=true->P e) e z (fun v s p h=>k v s p h) h
 ·exact absurd ((dif_neg z).symm.trans h) Bool.false_ne_true
noncomputable def onName (e:PySem.Expr) (f:Str->Pos->Bool):Bool:=if h:e.ctorIdx=23 then PySem.Expr.Name.elim (motive_1:=fun _=>Bool) e h f else false
theorem onName_t {e:PySem.Expr} {f:Str->Pos->Bool} {P:PySem.Expr->Prop} (h:onName e f=true) (k:∀ x p,f x p=true->P (.Name x p)):P e:=by
 by_cases z:e.ctorIdx=23
 ·exact PySem.Expr.Name.elim (motive_1:=fun e=>onName e f=true->P e) e z (fun x p h=>k x p h) h
 ·exact absurd ((dif_neg z).symm.trans h) Bool.false_ne_true
noncomputable def onList (e:PySem.Expr) (f:List Expr->Pos->Bool):Bool:=if h:e.ctorIdx=24 then PySem.Expr.List.elim (motive_1:=fun _=>Bool) e h f else false
theorem onList_t {e:PySem.Expr} {f:List Expr->Pos->Bool} {P:PySem.Expr->Prop} (h:onList e f=true) (k:∀ es p,f es p=true->P (.List es p)):P e:=by
 by_cases z:e.ctorIdx=24
 ·exact PySem.Expr.List.elim (motive_1:=fun e=>onList e f=true->P e) e z (fun es p h=>k es p h) h
 ·exact absurd ((dif_neg z).symm.trans h) Bool.false_ne_true
noncomputable def onTuple (e:PySem.Expr) (f:List Expr->Nat->Pos->Bool):Bool:=if h:e.ctorIdx=25 then PySem.Expr.Tuple.elim (motive_1:=fun _=>Bool) e h f else false
theorem onTuple_t {e:PySem.Expr} {f:List Expr->Nat->Pos->Bool} {P:PySem.Expr->Prop} (h:onTuple e f=true) (k:∀ es j p,f es j p=true->P (.Tuple es j p)):P e:=by
 by_cases z:e.ctorIdx=25
 ·exact PySem.Expr.Tuple.elim (motive_1:=fun e=>onTuple e f=true->P e) e z (fun es j p h=>k es j p h) h
 ·exact absurd ((dif_neg z).symm.trans h) Bool.false_ne_true
noncomputable def onSlice (e:PySem.Expr) (f:Option Expr->Option Expr->Option Expr->Pos->Bool):Bool:=if h:e.ctorIdx=26 then PySem.Expr.Slice.elim (motive_1:=fun _=>Bool) e h f else false
theorem onSlice_t {e:PySem.Expr} {f:Option Expr->Option Expr->Option Expr->Pos->Bool} {P:PySem.Expr->Prop} (h:onSlice e f=true) (k:∀ lo hi st p,f lo hi st p=true->P (.Slice lo hi st p)):P e:=by
 by_cases z:e.ctorIdx=26
 ·exact PySem.Expr.Slice.elim (motive_1:=fun e=>onSlice e f=true->P e) e z (fun lo hi st p h=>k lo hi st p h) h
 ·exact absurd ((dif_neg z).symm.trans h) Bool.false_ne_true
noncomputable def stReturn (e:PySem.Stmt) (f:Option Expr->Pos->Bool):Bool:=if h:e.ctorIdx=3 then PySem.Stmt.Return.elim (motive_2:=fun _=>Bool) e h f else false
theorem stReturn_t {e:PySem.Stmt} {f:Option Expr->Pos->Bool} {P:PySem.Stmt->Prop} (h:stReturn e f=true) (k:∀ v p,f v p=true->P (.Return v p)):P e:=by
 by_cases z:e.ctorIdx=3
 ·exact PySem.Stmt.Return.elim (motive_2:=fun e=>stReturn e f=true->P e) e z (fun v p h=>k v p h) h
 ·exact absurd ((dif_neg z).symm.trans h) Bool.false_ne_true
noncomputable def stAssign (e:PySem.Stmt) (f:List Expr->Expr->Pos->Bool):Bool:=if h:e.ctorIdx=5 then PySem.Stmt.Assign.elim (motive_2:=fun _=>Bool) e h f else false
theorem stAssign_t {e:PySem.Stmt} {f:List Expr->Expr->Pos->Bool} {P:PySem.Stmt->Prop} (h:stAssign e f=true) (k:∀ ts v p,f ts v p=true->P (.Assign ts v p)):P e:=by
 by_cases z:e.ctorIdx=5
 ·exact PySem.Stmt.Assign.elim (motive_2:=fun e=>stAssign e f=true->P e) e z (fun ts v p h=>k ts v p h) h
 ·exact absurd ((dif_neg z).symm.trans h) Bool.false_ne_true
noncomputable def stAugAssign (e:PySem.Stmt) (f:Expr->Operator->Expr->Pos->Bool):Bool:=if h:e.ctorIdx=7 then PySem.Stmt.AugAssign.elim (motive_2:=fun _=>Bool) e h f else false
theorem stAugAssign_t {e:PySem.Stmt} {f:Expr->Operator->Expr->Pos->Bool} {P:PySem.Stmt->Prop} (h:stAugAssign e f=true) (k:∀ t o v p,f t o v p=true->P (.AugAssign t o v p)):P e:=by
 by_cases z:e.ctorIdx=7
 ·exact PySem.Stmt.AugAssign.elim (motive_2:=fun e=>stAugAssign e f=true->P e) e z (fun t o v p h=>k t o v p h) h
 ·exact absurd ((dif_neg z).symm.trans h) Bool.false_ne_true
noncomputable def stFor (e:PySem.Stmt) (f:Expr->Expr->List Stmt->List Stmt->Pos->Bool):Bool:=if h:e.ctorIdx=9 then PySem.Stmt.For.elim (motive_2:=fun _=>Bool) e h f else false
theorem stFor_t {e:PySem.Stmt} {f:Expr->Expr->List Stmt->List Stmt->Pos->Bool} {P:PySem.Stmt->Prop} (h:stFor e f=true) (k:∀ t e b c p,f t e b c p=true->P (.For t e b c p)):P e:=by
 by_cases z:e.ctorIdx=9
 ·exact PySem.Stmt.For.elim (motive_2:=fun e=>stFor e f=true->P e) e z (fun t e b c p h=>k t e b c p h) h
 ·exact absurd ((dif_neg z).symm.trans h) Bool.false_ne_true
noncomputable def stWhile (e:PySem.Stmt) (f:Expr->List Stmt->List Stmt->Pos->Bool):Bool:=if h:e.ctorIdx=11 then PySem.Stmt.While.elim (motive_2:=fun _=>Bool) e h f else false
theorem stWhile_t {e:PySem.Stmt} {f:Expr->List Stmt->List Stmt->Pos->Bool} {P:PySem.Stmt->Prop} (h:stWhile e f=true) (k:∀ t b c p,f t b c p=true->P (.While t b c p)):P e:=by
 by_cases z:e.ctorIdx=11
 ·exact PySem.Stmt.While.elim (motive_2:=fun e=>stWhile e f=true->P e) e z (fun t b c p h=>k t b c p h) h
 ·exact absurd ((dif_neg z).symm.trans h) Bool.false_ne_true
noncomputable def stIf (e:PySem.Stmt) (f:Expr->List Stmt->List Stmt->Pos->Bool):Bool:=if h:e.ctorIdx=12 then PySem.Stmt.If.elim (motive_2:=fun _=>Bool) e h f else false
theorem stIf_t {e:PySem.Stmt} {f:Expr->List Stmt->List Stmt->Pos->Bool} {P:PySem.Stmt->Prop} (h:stIf e f=true) (k:∀ t b c p,f t b c p=true->P (.If t b c p)):P e:=by
 by_cases z:e.ctorIdx=12
 ·exact PySem.Stmt.If.elim (motive_2:=fun e=>stIf e f=true->P e) e z (fun t b c p h=>k t b c p h) h
 ·exact absurd ((dif_neg z).symm.trans h) Bool.false_ne_true
noncomputable def stExpr (e:PySem.Stmt) (f:Expr->Pos->Bool):Bool:=if h:e.ctorIdx=24 then PySem.Stmt.Expr.elim (motive_2:=fun _=>Bool) e h f else false
theorem stExpr_t {e:PySem.Stmt} {f:Expr->Pos->Bool} {P:PySem.Stmt->Prop} (h:stExpr e f=true) (k:∀ e p,f e p=true->P (.Expr e p)):P e:=by
 by_cases z:e.ctorIdx=24
 ·exact PySem.Stmt.Expr.elim (motive_2:=fun e=>stExpr e f=true->P e) e z (fun e p h=>k e p h) h
 ·exact absurd ((dif_neg z).symm.trans h) Bool.false_ne_true
noncomputable def stBreak (e:PySem.Stmt) (f:Pos->Bool):Bool:=if h:e.ctorIdx=26 then PySem.Stmt.Break.elim (motive_2:=fun _=>Bool) e h f else false
theorem stBreak_t {e:PySem.Stmt} {f:Pos->Bool} {P:PySem.Stmt->Prop} (h:stBreak e f=true) (k:∀ p,f p=true->P (.Break p)):P e:=by
 by_cases z:e.ctorIdx=26
 ·exact PySem.Stmt.Break.elim (motive_2:=fun e=>stBreak e f=true->P e) e z (fun p h=>k p h) h
 ·exact absurd ((dif_neg z).symm.trans h) Bool.false_ne_true
noncomputable def stContinue (e:PySem.Stmt) (f:Pos->Bool):Bool:=if h:e.ctorIdx=27 then PySem.Stmt.Continue.elim (motive_2:=fun _=>Bool) e h f else false
theorem stContinue_t {e:PySem.Stmt} {f:Pos->Bool} {P:PySem.Stmt->Prop} (h:stContinue e f=true) (k:∀ p,f p=true->P (.Continue p)):P e:=by
 by_cases z:e.ctorIdx=27
 ·exact PySem.Stmt.Continue.elim (motive_2:=fun e=>stContinue e f=true->P e) e z (fun p h=>k p h) h
 ·exact absurd ((dif_neg z).symm.trans h) Bool.false_ne_true
noncomputable def on1 {α:Type} (l:List α) (f:α->Bool):Bool:=match l with | [x]=>f x | _=>false
theorem on1_t {α:Type} {l:List α} {f:α->Bool} {P:List α->Prop} (h:on1 l f=true) (k:∀ x,f x=true->P [x]):P l :=
 List.casesOn (motive:=fun l=>on1 l f=true->P l) l (fun h=>absurd h Bool.false_ne_true) (fun x r=>List.casesOn (motive:=fun r=>on1 (x::r) f=true->P (x::r)) r (fun h=>k x h) fun _ _ h=>absurd h Bool.false_ne_true) h
noncomputable def onC {α:Type} (l:List α) (f:α->List α->Bool):Bool:=match l with | x::r=>f x r | []=>false
theorem onC_t {α:Type} {l:List α} {f:α->List α->Bool} {P:List α->Prop} (h:onC l f=true) (k:∀ x r,f x r=true->P (x::r)):P l :=
 List.casesOn (motive:=fun l=>onC l f=true->P l) l (fun h=>absurd h Bool.false_ne_true) (fun x r h=>k x r h) h
noncomputable def onN {α:Type} (l:List α) (b:Bool):Bool:=match l with | []=>b | _::_=>false
theorem onN_t {α:Type} {l:List α} {b:Bool} {P:List α->Prop} (h:onN l b=true) (k:b=true->P []):P l :=
 List.casesOn (motive:=fun l=>onN l b=true->P l) l (fun h=>k h) (fun _ _ h=>absurd h Bool.false_ne_true) h
noncomputable def onS {α:Type} (l:Option α) (f:α->Bool):Bool:=match l with | some x=>f x | none=>false
theorem onS_t {α:Type} {l:Option α} {f:α->Bool} {P:Option α->Prop} (h:onS l f=true) (k:∀ x,f x=true->P (some x)):P l :=
 Option.casesOn (motive:=fun l=>onS l f=true->P l) l (fun h=>absurd h Bool.false_ne_true) (fun x h=>k x h) h
noncomputable def on0 {α:Type} (l:Option α) (b:Bool):Bool:=match l with | some _=>false | none=>b
theorem on0_t {α:Type} {l:Option α} {b:Bool} {P:Option α->Prop} (h:on0 l b=true) (k:b=true->P none):P l :=
 Option.casesOn (motive:=fun l=>on0 l b=true->P l) l (fun h=>k h) (fun _ h=>absurd h Bool.false_ne_true) h
theorem bt {a b:Bool} {G:Prop} (h:(a&&b)=true) (k:a=true->b=true->G):G:=have q:=(Bool.and_eq_true a b).mp h; k q.1 q.2
noncomputable def relab (csc sc:Scope):Scope :=
 { csc with names:=csc.names.map fun (n,k)=>if (k == .free&&sc.kind == .function&&sc.names.lookup n==some .cell) then (n,.cell) else (n,k) }
noncomputable def asName (e:Expr):Option Str:=if h:e.ctorIdx=23 then PySem.Expr.Name.elim (motive_1:=fun _=>Option Str) e h fun x _=>some x else none
@[elab_as_elim] theorem asName_t {e:Expr} {x:Str} {P:Expr->Prop} (h:asName e=some x) (k:∀ p,P (.Name x p)):P e:=by
 by_cases z:e.ctorIdx=23
 ·exact PySem.Expr.Name.elim (motive_1:=fun e=>asName e=some x->P e) e z (fun y p h=>Option.some.inj h ▸ k p) h
 ·exact absurd ((dif_neg z).symm.trans h) (Option.some_ne_none x).symm
noncomputable def asTuple (e:Expr):Option (List Expr):=if h:e.ctorIdx=25 then PySem.Expr.Tuple.elim (motive_1:=fun _=>Option (List Expr)) e h fun x _ _=>some x else none
@[elab_as_elim] theorem asTuple_t {e:Expr} {x:List Expr} {P:Expr->Prop} (h:asTuple e=some x) (k:∀ j p,P (.Tuple x j p)):P e:=by
 by_cases z:e.ctorIdx=25
 ·exact PySem.Expr.Tuple.elim (motive_1:=fun e=>asTuple e=some x->P e) e z (fun y j p h=>Option.some.inj h ▸ k j p) h
 ·exact absurd ((dif_neg z).symm.trans h) (Option.some_ne_none x).symm
noncomputable def plainBase (e:Expr):Bool:=if h:e.ctorIdx=16 then PySem.Expr.Call.elim (motive_1:=fun _=>Bool) e h fun _ as _ _ => !as.isEmpty else true
noncomputable def nameList:List Expr->Option (List Str)
 | []=>some []
 | e::r=>(asName e).bind fun x=>(nameList r).map (x :: ·)
noncomputable def tgt (is:List Nat) (e:Expr):Option (List (Str × Nat)) :=
 if e.ctorIdx=23 then (asName e).bind fun x=>is.head?.bind fun i=>if is.length=1 then some [(x,i)] else none
 else (asTuple e).bind fun es=>if 2<=is.length then (nameList es).bind fun ns=>if ns.length=is.length then some (ns.zip is) else none else none
noncomputable def tgtG:Gs->List Comprehension->Option (List (Str × Nat))
 | .nil,gs=>if gs.isEmpty then some [] else none
 | .cons ts _ _ rest,gs=>gs.head?.bind fun g=>(tgt ts g.target).bind fun a=>(tgtG rest gs.tail).map (a ++ ·)
noncomputable def meAttr:Me->Str
 | .append => "append" | .index => "index" | .count => "count"
mutual
noncomputable def chkE (N:Nm) (sc:Scope) (mp:List (Str × Nat)):E->Expr->Bool
 | .var i,pe=>onName pe fun x _=>mp.lookup x==some i&&isVar sc x
 | .glob k,pe=>onName pe fun x _=>N.gl.lookup x==some k&&isGlob sc x
 | .int i,pe=>onConstant pe fun c _ _=>c == .int i
 | .bool b,pe=>onConstant pe fun c _ _=>c == .bool b
 | .none,pe=>onConstant pe fun c _ _=>c == .none
 | .bin op a b,pe=>onBinOp pe fun l o r _=>opOf op==o&&(chkE N sc mp a l&&chkE N sc mp b r)
 | .neg a,pe=>onUnaryOp pe fun o x _=>o == .USub&&chkE N sc mp a x
 | .inv a,pe=>onUnaryOp pe fun o x _=>o == .Invert&&chkE N sc mp a x
 | .not a,pe=>onUnaryOp pe fun o x _=>o == .Not&&chkE N sc mp a x
 | .cmp op a b,pe=>onCompare pe fun l os rs _=>on1 os fun o=>on1 rs fun r=>cmOf op==o&&(chkE N sc mp a l&&chkE N sc mp b r)
 | .cmp2 op op' a b c,pe=>onCompare pe fun l os rs _=>onC os fun o os=>on1 os fun o'=>onC rs fun r rs=>on1 rs fun r'=>cmOf op==o&&(cmOf op'==o'&&(chkE N sc mp a l&&(chkE N sc mp b r&&chkE N sc mp c r')))
 | .and es,pe=>onBoolOp pe fun o vs _=>o == .And&&(chkEs N sc mp es vs&&decide (2<=vs.length))
 | .or es,pe=>onBoolOp pe fun o vs _=>o == .Or&&(chkEs N sc mp es vs&&decide (2<=vs.length))
 | .ife t a b,pe=>onIfExp pe fun t' a' b' _=>chkE N sc mp t t'&&(chkE N sc mp a a'&&chkE N sc mp b b')
 | .attr e f,pe=>onAttribute pe fun v n _=>N.an[f]? == some n&&(plainBase v&&chkE N sc mp e v)
 | .sub e i,pe=>onSubscript pe fun v s _=>chkE N sc mp e v&&chkE N sc mp i s
 | .slice e lo,pe=>onSubscript pe fun v s _=>onSlice s fun l u w _=>onS l fun l=>on0 u (on0 w (chkE N sc mp e v&&chkE N sc mp lo l))
 | .slice2 e lo hi,pe=>onSubscript pe fun v s _=>onSlice s fun l u w _=>onS l fun l=>onS u fun u=>on0 w (chkE N sc mp e v&&(chkE N sc mp lo l&&chkE N sc mp hi u))
 | .list es,pe=>onList pe fun l _=>chkEs N sc mp es l
 | .tup es,pe=>onTuple pe fun l _ _=>chkEs N sc mp es l
 | .call f es,pe=>onCall pe fun g args ks _=>onName g fun x _=>onN ks (N.fn.lookup x==some f&&(isGlob sc x&&chkEs N sc mp es args))
 | .new c es,pe=>onCall pe fun g args ks _=>onName g fun x _=>onN ks (N.cl.lookup x==some c&&(isGlob sc x&&chkEs N sc mp es args))
 | .bi b es,pe=>onCall pe fun g args ks _=>onName g fun x _=>onN ks (x==biName b&&(isGlob sc x&&chkEs N sc mp es args))
 | .meth m o x,pe=>onCall pe fun g args ks p=>onAttribute g fun v n ap=>on1 args fun a=>onN ks (ap.endLine==p.line&&(n==meAttr m&&(plainBase v&&(chkE N sc mp o v&&chkE N sc mp x a))))
 | .comp elt ts it ifs rest,pe=>onListComp pe fun pelt gs csc _=>onC gs fun g gs=>g.is_async==0&&(chkE N sc mp it g.iter&&(csc.kind == .function&&(csc.names.all (fun p=>p.2 != .cell&&(p.2 != .local||csc.names.lookup p.1==some .local)&&(p.2 != .free||sc.names.lookup p.1==some .cell)) &&
   onS (tgt ts g.target) fun a=>onS (tgtG rest gs) fun b=>decide (((a++b++mp).map (·.2)).Nodup)&&(csc.names.all (fun p=>p.2 != .local||((a++b).lookup p.1).isSome||(mp.lookup p.1).isNone)&&((a++b).all (fun p=>(relab csc sc).names.lookup p.1==some .local&&(a++b).lookup p.1==some p.2)&&(chkEs N (relab csc sc) (a++b++mp) ifs g.ifs &&
     (chkG N (relab csc sc) (a++b++mp) rest gs&&chkE N (relab csc sc) (a++b++mp) elt pelt)))))))
noncomputable def chkEs (N:Nm) (sc:Scope) (mp:List (Str × Nat)):Es->List Expr->Bool
 | .nil,ps=>onN ps true
 | .cons e es,ps=>onC ps fun p ps=>chkE N sc mp e p&&chkEs N sc mp es ps
noncomputable def chkG (N:Nm) (sc:Scope) (mp:List (Str × Nat)):Gs->List Comprehension->Bool
 | .nil,gs=>onN gs true
 | .cons _ it ifs rest,gs=>onC gs fun g gs=>g.is_async==0&&(chkE N sc mp it g.iter&&(chkEs N sc mp ifs g.ifs&&chkG N sc mp rest gs))
end
noncomputable def okT (sc:Scope) (mp:List (Str × Nat)) (p:Str × Nat):Bool:=mp.lookup p.1==some p.2&&isTgt sc p.1
noncomputable def notComp (e:Expr):Bool:=e.ctorIdx != 8&&e.ctorIdx != 25
noncomputable def compT (v:Expr) (f:Scope->Pos->Bool):Bool:=if h:v.ctorIdx=8 then PySem.Expr.ListComp.elim (motive_1:=fun _=>Bool) v h fun _ _ sc p=>f sc p else true
mutual
noncomputable def chkS (N:Nm) (sc:Scope) (mp:List (Str × Nat)):S->Stmt->Bool
 | .asg i e,pe=>stAssign pe fun ts v _=>on1 ts fun t=>onName t fun x tp=>okT sc mp (x,i)&&(chkE N sc mp e v&&compT v fun csc vp=>sc.names.lookup x==some .local&&tp.line==vp.line && !(csc.names.any fun (n,k)=>n==x&&(k == .local||k == .cell)))
 | .asgT is e,pe=>stAssign pe fun ts v _=>on1 ts fun t=>onTuple t fun _ _ _=>onS (tgt is t) fun a=>a.all (okT sc mp)&&(chkE N sc mp e v&&notComp v)
 | .setA o f e,pe=>stAssign pe fun ts v _=>on1 ts fun t=>onAttribute t fun ov n _=>N.an[f]? == some n&&(chkE N sc mp e v&&chkE N sc mp o ov)
 | .setI o i e,pe=>stAssign pe fun ts v _=>on1 ts fun t=>onSubscript t fun ov s _=>chkE N sc mp e v&&(chkE N sc mp o ov&&chkE N sc mp i s)
 | .augV i op e,pe=>stAugAssign pe fun t o v _=>onName t fun x _=>okT sc mp (x,i)&&(isVar sc x&&(opOf op==o&&chkE N sc mp e v))
 | .augA o f op e,pe=>stAugAssign pe fun t p v _=>onAttribute t fun ov n _=>N.an[f]? == some n&&(opOf op==p&&(chkE N sc mp o ov&&chkE N sc mp e v))
 | .augI o i op e,pe=>stAugAssign pe fun t p v _=>onSubscript t fun ov s _=>opOf op==p&&(chkE N sc mp o ov&&(chkE N sc mp i s&&chkE N sc mp e v))
 | .expr e,pe=>stExpr pe fun v _=>v.ctorIdx==16&&chkE N sc mp e v
 | .ite t a b,pe=>stIf pe fun t' a' b' _=>chkE N sc mp t t'&&(chkSs N sc mp a a'&&chkSs N sc mp b b')
 | .whl t b,pe=>stWhile pe fun t' b' c' _=>onN c' (chkE N sc mp t t'&&chkSs N sc mp b b')
 | .for_ ts e b,pe=>stFor pe fun t v b' c' _=>onN c' (onS (tgt ts t) fun a=>a.all (okT sc mp)&&(chkE N sc mp e v&&chkSs N sc mp b b'))
 | .ret e,pe=>stReturn pe fun v _=>onS v fun v=>chkE N sc mp e v
 | .brk,pe=>stBreak pe fun _=>true
 | .cont,pe=>stContinue pe fun _=>true
 | .fail,_=>true
noncomputable def chkSs (N:Nm) (sc:Scope) (mp:List (Str × Nat)):Ss->List Stmt->Bool
 | .nil,ps=>onN ps true
 | .cons s ss,ps=>onC ps fun p ps=>chkS N sc mp s p&&chkSs N sc mp ss ps
end
noncomputable def chkFn (N:Nm) (d:Fn) (nms:List Str) (ps:Arguments) (sc:Scope) (body:List Stmt):Bool :=
 ps.posonlyargs.isEmpty&&ps.vararg.isNone&&ps.kwonlyargs.isEmpty&&ps.kw_defaults.isEmpty&&ps.kwarg.isNone&&ps.defaults.isEmpty &&
 ps.args.map (·.arg)==nms.take d.np&&decide (nms.Nodup)&&decide (d.np<=nms.length)&&decide (nms.length<=d.nv)&&decide ((ps.args.map (·.arg)).length=d.np) &&
 sc.kind == .function && !sc.isCoroutine && !sc.isGenerator&&(ps.args.map (·.arg)).all (isTgt sc)&&nms.all (fun x=>sc.names.lookup x != some .free) &&
 chkSs N sc (nms.zip (List.range nms.length)) d.body body
end Mob
namespace Mob
open PySem PySem.W PyProof.Rows
structure EnvOk (env:Env):Prop where
 kind:env.scope.kind = .function
 glob:env.globals=mainGlobals
 blt:env.builtins=builtinsNs
 apart:∀ x y c,env.cells.lookup x=some c->env.cells.lookup y=some c->x=y
 cellAt:∀ x,env.kindOf x=some .cell->∃ c,env.cells.lookup x=some c
noncomputable def Priv (env:Env) (b:Addr):Prop:=b=env.locals\/∃ x,env.cells.lookup x=some b
structure Loc (g:Gr) (env:Env) (mp:List (Str × Nat)) (ρ:Rho) (σ:H) (h:Heap) (loc:List V):Prop where
 ns:∃ m,h.Ns env.locals m/\∀ x i v,mp.lookup x=some i->env.kindOf x=some .local->loc[i]? = some v->v ≠ .undef->∃ y,m x=some y/\VR ρ h v y
 cells:∀ x i v,mp.lookup x=some i->(env.kindOf x=some .cell\/env.kindOf x=some .free)->loc[i]? = some v->∃ c cv,env.cells.lookup x=some c/\h.IsCell c cv/\(v ≠ .undef->∃ y,cv=some y/\VR ρ h v y)
 isCell:∀ x c,env.cells.lookup x=some c->∃ cv,h.IsCell c cv
 own:∀ b,Priv env b->¬ Own ρ σ b
 base:∀ b,Priv env b->g.base.get? b=none
 len:∀ x i,mp.lookup x=some i->env.kindOf x=some .cell->i<loc.length
 rest:∀ (i:Nat) v,loc[i]? = some v->i ∉ mp.map (·.2)->v = .undef
section
variable {g:Gr} {env:Env} {mp:List (Str × Nat)} {ρ ρ':Rho} {σ σ':H} {h h':Heap} {loc:List V}
theorem Loc.privAt (l:Loc g env mp ρ σ h loc) {b:Addr} (p:Priv env b):∃ o,h.get? b=some o:=by
 rcases p with rfl | ⟨x,q⟩
 ·obtain ⟨m,⟨o,_,_,ho,_⟩,_⟩:=l.ns; exact ⟨o,ho⟩
 ·obtain ⟨cv,o,ho,_⟩:=l.isCell x b q; exact ⟨o,ho⟩
theorem Loc.step (l:Loc g env mp ρ σ h loc) {W:Addr->Prop} (s:Step ρ σ h W ρ' σ' h') (nw:∀ b,Priv env b->¬ W b):Loc g env mp ρ' σ' h' loc:=by
 revert g env mp ρ ρ' σ σ' h h' loc W
 exists g,env,mp,ρ,ρ',σ,σ',h,h',loc
 intro l
 exists W
 intro s nw
 have k:∀ b o,Priv env b->h.get? b=some o->h'.get? b=some o:=fun b o p e=>s.fra b o e (l.own b p) (nw b p)
 refine ⟨?_,?_,?_,?_,l.base,l.len,l.rest⟩
 ·obtain ⟨m,⟨o,es,ep,ho,r⟩,hm⟩:=l.ns
  refine ⟨m,⟨o,es,ep,k _ _ (.inl rfl) ho,r⟩,fun x i v h1 h2 h3 h4 => ?_⟩
  obtain ⟨y,h5,h6⟩:=hm x i v h1 h2 h3 h4
  exact ⟨y,h5,h6.step s⟩
 ·intro x i v h1 h2 h3
  refine ea2_3 (l.cells x i v h1 h2 h3) fun c cv h4 zq => ?_
  refine ea1_2 zq fun o ho hd => ?_
  clear zq
  intro h5
  exact ⟨c,cv,h4,⟨o,k _ _ (.inr ⟨x,h4⟩) ho,hd⟩,fun q=>let ⟨y,h6,h7⟩:=h5 q; ⟨y,h6,h7.step s⟩⟩
 ·intro x c h1
  refine ea2_2 (l.isCell x c h1) fun cv o ho hd => ?_
  exact ix2 cv o ⟨k _ _ (.inr ⟨x,h1⟩) ho,hd⟩
 ·intro b p q
  obtain ⟨o,ho⟩:=l.privAt p
  exact l.own b p (s.own b o ho q)
theorem Loc.stepE (l:Loc g env mp ρ σ h loc) (s:Step ρ σ h NoW ρ' σ' h'):Loc g env mp ρ' σ' h' loc:=l.step s fun _ _ f=>f
end
theorem slot_mem {mp:List (Str × Nat)} {x:Str} {i:Nat} (h:mp.lookup x=some i):i∈mp.map (·.2):=List.mem_map.mpr ⟨(x,i),mem_of_lookup h,rfl⟩
theorem mp_inj {mp:List (Str × Nat)} (nd:(mp.map (·.2)).Nodup):∀ {x y:Str} {i:Nat},mp.lookup x=some i->mp.lookup y=some i->x=y:=by
 induction mp with
 | nil=>intro x y i h; cases h
 | cons p r ih =>
  obtain ⟨a,k⟩:=p
  rw [List.map_cons,List.nodup_cons] at nd
  have mem:∀ {z:Str} {i:Nat},r.lookup z=some i->i∈r.map (·.2):=by
   intro z i h
   exact List.mem_map.mpr ⟨(z,i),mem_of_lookup h,rfl⟩
  intro x y i h1 h2
  rw [List.lookup_cons] at h1 h2
  cases q1:x==a with
  | true =>
   rw [q1] at h1
   cases h1
   cases q2:y==a with
   | true=>exact (by simpa using q1:x=a).trans (by simpa using q2:y=a).symm
   | false=>rw [q2] at h2; exact absurd (mem h2) nd.1
  | false =>
   rw [q1] at h1
   cases q2:y==a with
   | true=>rw [q2] at h2; cases h2; exact absurd (mem h1) nd.1
   | false=>rw [q2] at h2; exact ih nd.2 h1 h2
theorem beq_str_false {x y:Str} (h:(x != y)=true):(x==y)=false:=by
 simpa using h
section
variable {prog:Program} {w:World} {A:Around} {E:Value->Shared->Prop} {g:Gr} {ρ:Rho} {σ σ':H} {s:Shared} {env:Env} {mp:List (Str × Nat)} {loc:List V}
set_option tactic.hygienic true in
theorem loadName_prim {x:Str} {i:Nat} {v u:V} (ok:EnvOk env) (l:Loc g env mp ρ σ s.heap loc) (hm:mp.lookup x=some i) (hv:isVar env.scope x=true) (hl:loc[i]? = some v) (hr:rdV v=some u) {Q:Value->Shared->Prop}
  (q:∀ y,VR ρ s.heap u y->Q y s):wpAny (model prog w) A (loadName env x) Q E s:=by
 revert prog w A E g ρ σ s env mp loc x i v u Q
 exists prog,w,A,E,g,ρ,σ,s,env,mp,loc,x,i,v,u
 intro ok l hm hv hl hr
 exists Q
 intro q
 have hu:v=u/\v ≠ .undef:=by cases v <;> simp only [rdV,Option.some.injEq,reduceCtorEq] at hr <;> (subst hr; exact ⟨rfl,nofun⟩)
 obtain ⟨rfl,hu⟩:=hu
 unfold isVar at hv
 simp only [Bool.and_eq_true] at hv
 refine an2 hv fun zq => ?_
 try clear hv
 refine an2 zq fun h1 h2 => ?_
 clear zq
 intro h3
 split at h1
 ·rename_i hk
  obtain ⟨m,hn,hm'⟩:=l.ns
  obtain ⟨y,hy,ry⟩:=hm' x i v hm hk hl hu
  exact wpAny_loadName_local ok.kind hk hn hy (q y ry)
 ·rename_i hk
  refine ea2_3 (l.cells x i v hm (.inl hk) hl) fun c cv h4 h5 h6 => ?_
  refine ea1_2 (h6 hu) fun y zq => ?_
  subst zq
  intro ry
  exact wpAny_loadName_cell ok.kind hk h4 h5 (q y ry)
 ·rename_i hk
  refine ea2_3 (l.cells x i v hm (.inr hk) hl) fun c cv h4 h5 h6 => ?_
  refine ea1_2 (h6 hu) fun y zq => ?_
  subst zq
  intro ry
  exact wpAny_loadName_free ok.kind hk h4 h5 (q y ry) (beq_str_false h3)
 ·cases h1
theorem Ns.notT {h:Heap} {L:Addr} {m:Str->Option Value} (ns:h.Ns L m):∀ x,h.get? L=some x->¬ IsT x:=fun x e t=>by
 refine ea3_3 ns fun o es ep ho hd _ => ?_
 try clear ns
 rw [ho] at e; cases e
 unfold IsT at t; rw [hd] at t; simp at t
theorem cell_notT {h:Heap} {c:Addr} {cv:Option Value} (ic:h.IsCell c cv):∀ x,h.get? c=some x->¬ IsT x:=fun x e t=>by
 obtain ⟨o,ho,hd⟩:=ic
 rw [ho] at e; cases e
 unfold IsT at t; rw [hd] at t; simp at t
set_option tactic.hygienic true in
theorem storeName_prim {x:Str} {i:Nat} {u:V} {b:Value} (ok:EnvOk env) (l:Loc g env mp ρ σ s.heap loc) (nd:(mp.map (·.2)).Nodup) (hm:mp.lookup x=some i) (ht:isTgt env.scope x=true) (r:Rel g ρ σ s.heap) (rb:VR ρ s.heap u b)
  {W:Addr->Prop} (hW:∀ c,env.kindOf x=some .cell->env.cells.lookup x=some c->W c) (hL:env.kindOf x=some .local->W env.locals) {Q:Unit->Shared->Prop}
  (q:∀ s',Step ρ σ s.heap W ρ σ s'.heap->Rel g ρ σ s'.heap->Same s s'->Loc g env mp ρ σ s'.heap (loc.set i u)->(∀ y,s'.heap.get? y=none->s.heap.get? y=none)->(∀ y o,¬ Priv env y->s.heap.get? y=some o->s'.heap.get? y=some o)->Q () s'):wpAny (model prog w) A (storeName env x b) Q E s:=by
 revert prog w A E g ρ σ s env mp loc x i u b W Q
 exists prog,w,A,E,g,ρ,σ,s,env,mp,loc,x,i,u,b
 intro ok l nd hm ht r rb
 exists W
 intro hW hL
 exists Q
 intro q
 have get_ne:∀ {j:Nat} {v:V},j≠i->(loc.set i u)[j]? = some v->loc[j]? = some v:=fun {j v} ne e=>by
  rcases get_set e with ⟨rfl,_⟩ | ⟨_,e⟩
  ·exact absurd rfl ne
  ·exact e
 have get_eq:∀ {v:V},(loc.set i u)[i]? = some v->v=u:=fun {v} e=>by
  rcases get_set e with ⟨_,rfl,_⟩ | ⟨ne,_⟩
  ·rfl
  ·exact absurd rfl ne
 unfold isTgt at ht
 split at ht
 ·rename_i hk
  have hk:env.kindOf x=some .local:=hk
  obtain ⟨m,hn,hm'⟩:=l.ns
  refine wpAny_storeName_local hk hn (fun h' hn' hs => ?_) (by rw [ok.kind]; rfl)
  have pr:Priv env env.locals := .inl rfl
  have pu:=r.priv (W:=W) (p:=env.locals) (h':=h') (l.own _ pr) (l.base _ pr) (Ns.notT hn) (fun b o ne e=>(hs.2 b ne).trans e) (let ⟨o,_,_,ho,_⟩:=hn'; ⟨o,ho⟩) (hL hk)
  have old:∀ b,b≠env.locals->h'.get? b=s.heap.get? b:=hs.2
  have cne:∀ y c,env.cells.lookup y=some c->c≠env.locals:=fun y c e z=>by
   obtain ⟨cv,o,ho,hd⟩:=l.isCell y c e
   obtain ⟨o',es,ep,ho',hd',_⟩:=hn
   rw [z,ho'] at ho; cases ho; rw [hd'] at hd; cases hd
  refine q _ pu.2 pu.1 ⟨rfl,rfl⟩ ⟨⟨_,hn',?_⟩,?_,?_,l.own,l.base,fun y j e=>by rw [List.length_set]; exact l.len y j e,fun j v e n=>l.rest j v (get_ne (fun z=>n (z ▸ slot_mem hm)) e) n⟩ ?_ ?_
  ·intro y j v h1 h2 h3 h4
   by_cases e:y=x
   ·subst e
    rw [hm] at h1; cases h1
    rw [get_eq h3] at h4 ⊢
    exact ⟨b,if_pos rfl,rb.step pu.2⟩
   ·have ne:j≠i:=fun z=>e (mp_inj nd (z ▸ h1) hm)
    obtain ⟨z,z1,z2⟩:=hm' y j v h1 h2 (get_ne ne h3) h4
    exact ⟨z,by rw [if_neg e]; exact z1,z2.step pu.2⟩
  ·intro y j v h1 h2 h3
   have ne:j≠i:=fun z=>by
    have:=mp_inj nd (z ▸ h1) hm
    subst this
    rw [hk] at h2; simp at h2
   obtain ⟨c,cv,z1,z2,z3⟩:=l.cells y j v h1 h2 (get_ne ne h3)
   exact ⟨c,cv,z1,z2.sameBut hs (cne _ _ z1),fun q=>let ⟨a,a1,a2⟩:=z3 q; ⟨a,a1,a2.step pu.2⟩⟩
  ·intro y c e
   obtain ⟨cv,z⟩:=l.isCell y c e
   exact ⟨cv,z.sameBut hs (cne _ _ e)⟩
  ·intro y e
   by_cases z:y=env.locals
   ·subst z
    obtain ⟨o,_,_,ho,_⟩:=hn'
    rw [ho] at e; cases e
   ·rw [<- old y z]; exact e
  ·intro y o np e
   rw [show ({ s with heap:=h',toks:=s.toks+1 }:Shared).heap.get? y=s.heap.get? y from old y fun z=>np (.inl z)]
   exact e
 ·rename_i hk
  have hk:env.kindOf x=some .cell:=hk
  refine ea2_3 (l.cells x i _ hm (.inl hk) (List.getElem?_eq_getElem (l.len x i hm hk))) fun c cv hc hcv _ => ?_
  refine wpAny_storeName_cell ok.kind hk hc hcv fun h' hn' hs => ?_
  have pr:Priv env c := .inr ⟨x,hc⟩
  have pu:=r.priv (W:=W) (p:=c) (h':=h') (l.own _ pr) (l.base _ pr) (cell_notT hcv) (fun b o ne e=>(hs.2 b ne).trans e) (let ⟨o,ho,_⟩:=hn'; ⟨o,ho⟩) (hW c hk hc)
  obtain ⟨m,hn,hm'⟩:=l.ns
  have Lne:env.locals≠c:=fun z=>by
   refine ea1_2 hcv fun o ho hd => ?_
   try clear hcv
   obtain ⟨o',es,ep,ho',hd',_⟩:=hn
   rw [z,ho] at ho'; cases ho'; rw [hd'] at hd; cases hd
  refine q _ pu.2 pu.1 ⟨rfl,rfl⟩ ⟨⟨m,hn.sameBut hs Lne,?_⟩,?_,?_,l.own,l.base,fun y j e=>by rw [List.length_set]; exact l.len y j e,fun j v e n=>l.rest j v (get_ne (fun z=>n (z ▸ slot_mem hm)) e) n⟩ ?_ ?_
  ·intro y j v h1 h2 h3 h4
   have ne:j≠i:=fun z=>by
    have:=mp_inj nd (z ▸ h1) hm
    subst this
    rw [hk] at h2; simp at h2
   obtain ⟨z,z1,z2⟩:=hm' y j v h1 h2 (get_ne ne h3) h4
   exact ⟨z,z1,z2.step pu.2⟩
  ·intro y j v h1 h2 h3
   by_cases e:y=x
   ·subst e
    rw [hm] at h1; cases h1
    rw [get_eq h3]
    exact ⟨c,some b,hc,hn',fun _=>⟨b,rfl,rb.step pu.2⟩⟩
   ·have ne:j≠i:=fun z=>e (mp_inj nd (z ▸ h1) hm)
    obtain ⟨c',cv',z1,z2,z3⟩:=l.cells y j v h1 h2 (get_ne ne h3)
    have cne:c'≠c:=fun z=>e (ok.apart y x c (z ▸ z1) hc)
    exact ⟨c',cv',z1,z2.sameBut hs cne,fun q=>let ⟨a,a1,a2⟩:=z3 q; ⟨a,a1,a2.step pu.2⟩⟩
  ·intro y c' e
   by_cases z:c'=c
   ·exact ⟨some b,z ▸ hn'⟩
   ·obtain ⟨cv',z'⟩:=l.isCell y c' e
    exact ⟨cv',z'.sameBut hs z⟩
  ·intro y e
   by_cases z:y=c
   ·subst z
    obtain ⟨o,ho,_⟩:=hn'
    rw [show ({ s with heap:=h' }:Shared).heap.get? y=some o from ho] at e; cases e
   ·rw [<- hs.2 y z]; exact e
  ·intro y o np e
   rw [show ({ s with heap:=h' }:Shared).heap.get? y=s.heap.get? y from hs.2 y fun z=>np (z ▸ pr)]
   exact e
 ·cases ht
end
end Mob
namespace Mob
open PySem PySem.W PyProof.Rows
section
theorem m1 {β:Type} {o:Option (V × H)} {f:V->H->Option β} {r:β} {G:Prop} (h:(match o with | none=>none | some (v,σ)=>f v σ)=some r) (k:∀ v σ,o=some (v,σ)->f v σ=some r->G):G:=by
 cases o with
 | none=>exact nos h
 | some p=>exact k p.1 p.2 rfl h
theorem m2 {β:Type} {o:Option (List V × H)} {f:List V->H->Option β} {r:β} {G:Prop} (h:(match o with | none=>none | some (v,σ)=>f v σ)=some r) (k:∀ v σ,o=some (v,σ)->f v σ=some r->G):G:=by
 cases o with
 | none=>exact nos h
 | some p=>exact k p.1 p.2 rfl h
theorem m0 {β:Type} {o:Option (V)} {f:V->Option β} {r:β} {G:Prop} (h:(match o with | none=>none | some v=>f v)=some r) (k:∀ v,o=some v->f v=some r->G):G:=by
 cases o with
 | none=>exact nos h
 | some p=>exact k p rfl h
theorem m0l {β:Type} {o:Option (List V)} {f:List V->Option β} {r:β} {G:Prop} (h:(match o with | none=>none | some v=>f v)=some r) (k:∀ v,o=some v->f v=some r->G):G:=by
 cases o with
 | none=>exact nos h
 | some p=>exact k p rfl h
theorem m0h {β:Type} {o:Option (H)} {f:H->Option β} {r:β} {G:Prop} (h:(match o with | none=>none | some v=>f v)=some r) (k:∀ v,o=some v->f v=some r->G):G:=by
 cases o with
 | none=>exact nos h
 | some p=>exact k p rfl h
theorem tf {β:Type} {o:Option Bool} {a b:Option β} {r:β} {G:Prop} (h:(match o with | none=>none | some true=>a | some false=>b)=some r) (k:o=some true->a=some r->G) (k':o=some false->b=some r->G):G:=by
 rcases o with _ | _ | _
 ·exact nos h
 ·exact k' rfl h
 ·exact k rfl h
theorem ft {β:Type} {o:Option Bool} {a b:Option β} {r:β} {G:Prop} (h:(match o with | none=>none | some false=>b | some true=>a)=some r) (k':o=some false->b=some r->G) (k:o=some true->a=some r->G):G:=by
 rcases o with _ | _ | _
 ·exact nos h
 ·exact k' rfl h
 ·exact k rfl h
end
section
variable {N:Nm} {sc:Scope} {mp:List (Str × Nat)} {pe:Expr} {P:Expr->Prop}
@[elab_as_elim] theorem chk_var {i:Nat} (h:chkE N sc mp (.var i) pe=true) (k:∀ x p,mp.lookup x=some i->isVar sc x=true->P (.Name x p)):P pe :=
 onName_t (P:=P) h fun x p h=>bt h fun a b=>k x p (eq_of_beq a) b
@[elab_as_elim] theorem chk_glob {i:Nat} (h:chkE N sc mp (.glob i) pe=true) (k:∀ x p,N.gl.lookup x=some i->isGlob sc x=true->P (.Name x p)):P pe :=
 onName_t (P:=P) h fun x p h=>bt h fun a b=>k x p (eq_of_beq a) b
@[elab_as_elim] theorem chk_int {i:Int} (h:chkE N sc mp (.int i) pe=true) (k:∀ j p,P (.Constant (.int i) j p)):P pe :=
 onConstant_t (P:=P) h fun _ j p h=>eq_of_beq h ▸ k j p
@[elab_as_elim] theorem chk_bool {i:Bool} (h:chkE N sc mp (.bool i) pe=true) (k:∀ j p,P (.Constant (.bool i) j p)):P pe :=
 onConstant_t (P:=P) h fun _ j p h=>eq_of_beq h ▸ k j p
@[elab_as_elim] theorem chk_none (h:chkE N sc mp .none pe=true) (k:∀ j p,P (.Constant .none j p)):P pe :=
 onConstant_t (P:=P) h fun _ j p h=>eq_of_beq h ▸ k j p
@[elab_as_elim] theorem chk_bin {op:Op} {a b:E} (h:chkE N sc mp (.bin op a b) pe=true) (k:∀ l r p,chkE N sc mp a l=true->chkE N sc mp b r=true->P (.BinOp l (opOf op) r p)):P pe :=
 onBinOp_t (P:=P) h fun l o r p h=>bt h fun a h=>bt h fun b c=>eq_of_beq a ▸ k l r p b c
@[elab_as_elim] theorem chk_neg {a:E} (h:chkE N sc mp (.neg a) pe=true) (k:∀ x p,chkE N sc mp a x=true->P (.UnaryOp .USub x p)):P pe :=
 onUnaryOp_t (P:=P) h fun _ x p h=>bt h fun a b=>eq_of_beq a ▸ k x p b
@[elab_as_elim] theorem chk_inv {a:E} (h:chkE N sc mp (.inv a) pe=true) (k:∀ x p,chkE N sc mp a x=true->P (.UnaryOp .Invert x p)):P pe :=
 onUnaryOp_t (P:=P) h fun _ x p h=>bt h fun a b=>eq_of_beq a ▸ k x p b
@[elab_as_elim] theorem chk_not {a:E} (h:chkE N sc mp (.not a) pe=true) (k:∀ x p,chkE N sc mp a x=true->P (.UnaryOp .Not x p)):P pe :=
 onUnaryOp_t (P:=P) h fun _ x p h=>bt h fun a b=>eq_of_beq a ▸ k x p b
@[elab_as_elim] theorem chk_cmp {op:Cm} {a b:E} (h:chkE N sc mp (.cmp op a b) pe=true) (k:∀ l r p,chkE N sc mp a l=true->chkE N sc mp b r=true->P (.Compare l [cmOf op] [r] p)):P pe :=
 onCompare_t (P:=P) h fun l os rs p h=>on1_t (P:=fun os=>P (.Compare l os rs p)) h fun o h=>on1_t (P:=fun rs=>P (.Compare l [o] rs p)) h fun r h=>bt h fun a h=>bt h fun b c=>eq_of_beq a ▸ k l r p b c
@[elab_as_elim] theorem chk_cmp2 {op op':Cm} {a b c:E} (h:chkE N sc mp (.cmp2 op op' a b c) pe=true) (k:∀ l r r' p,chkE N sc mp a l=true->chkE N sc mp b r=true->chkE N sc mp c r'=true->P (.Compare l [cmOf op,cmOf op'] [r,r'] p)):P pe :=
 onCompare_t (P:=P) h fun l os rs p h=>onC_t (P:=fun os=>P (.Compare l os rs p)) h fun o os h=>on1_t (P:=fun os=>P (.Compare l (o::os) rs p)) h fun o' h=>onC_t (P:=fun rs=>P (.Compare l [o,o'] rs p)) h fun r rs h=>on1_t (P:=fun rs=>P (.Compare l [o,o'] (r::rs) p)) h fun r' h =>
  bt h fun a h=>bt h fun a' h=>bt h fun b h=>bt h fun c d=>eq_of_beq a ▸ eq_of_beq a' ▸ k l r r' p b c d
@[elab_as_elim] theorem chk_and {es:Es} (h:chkE N sc mp (.and es) pe=true) (k:∀ vs p,chkEs N sc mp es vs=true->2<=vs.length->P (.BoolOp .And vs p)):P pe :=
 onBoolOp_t (P:=P) h fun _ vs p h=>bt h fun a h=>bt h fun b c=>eq_of_beq a ▸ k vs p b (of_decide_eq_true c)
@[elab_as_elim] theorem chk_or {es:Es} (h:chkE N sc mp (.or es) pe=true) (k:∀ vs p,chkEs N sc mp es vs=true->2<=vs.length->P (.BoolOp .Or vs p)):P pe :=
 onBoolOp_t (P:=P) h fun _ vs p h=>bt h fun a h=>bt h fun b c=>eq_of_beq a ▸ k vs p b (of_decide_eq_true c)
@[elab_as_elim] theorem chk_ife {t a b:E} (h:chkE N sc mp (.ife t a b) pe=true) (k:∀ t' a' b' p,chkE N sc mp t t'=true->chkE N sc mp a a'=true->chkE N sc mp b b'=true->P (.IfExp t' a' b' p)):P pe :=
 onIfExp_t (P:=P) h fun t' a' b' p h=>bt h fun a h=>bt h fun b c=>k t' a' b' p a b c
@[elab_as_elim] theorem chk_attr {e:E} {f:Nat} (h:chkE N sc mp (.attr e f) pe=true) (k:∀ v n p,N.an[f]? = some n->plainBase v=true->chkE N sc mp e v=true->P (.Attribute v n p)):P pe :=
 onAttribute_t (P:=P) h fun v n p h=>bt h fun a h=>bt h fun b c=>k v n p (eq_of_beq a) b c
@[elab_as_elim] theorem chk_sub {e i:E} (h:chkE N sc mp (.sub e i) pe=true) (k:∀ v s p,chkE N sc mp e v=true->chkE N sc mp i s=true->P (.Subscript v s p)):P pe :=
 onSubscript_t (P:=P) h fun v s p h=>bt h fun a b=>k v s p a b
@[elab_as_elim] theorem chk_slice {e lo:E} (h:chkE N sc mp (.slice e lo) pe=true) (k:∀ v l p p',chkE N sc mp e v=true->chkE N sc mp lo l=true->P (.Subscript v (.Slice (some l) none none p) p')):P pe :=
 onSubscript_t (P:=P) h fun v s p' h=>onSlice_t (P:=fun s=>P (.Subscript v s p')) h fun l u w p h=>onS_t (P:=fun l=>P (.Subscript v (.Slice l u w p) p')) h fun l h=>on0_t (P:=fun u=>P (.Subscript v (.Slice (some l) u w p) p')) h fun h=>on0_t (P:=fun w=>P (.Subscript v (.Slice (some l) none w p) p')) h fun h =>
  bt h fun a b=>k v l p p' a b
@[elab_as_elim] theorem chk_slice2 {e lo hi:E} (h:chkE N sc mp (.slice2 e lo hi) pe=true) (k:∀ v l u p p',chkE N sc mp e v=true->chkE N sc mp lo l=true->chkE N sc mp hi u=true->P (.Subscript v (.Slice (some l) (some u) none p) p')):P pe :=
 onSubscript_t (P:=P) h fun v s p' h=>onSlice_t (P:=fun s=>P (.Subscript v s p')) h fun l u w p h=>onS_t (P:=fun l=>P (.Subscript v (.Slice l u w p) p')) h fun l h=>onS_t (P:=fun u=>P (.Subscript v (.Slice (some l) u w p) p')) h fun u h=>on0_t (P:=fun w=>P (.Subscript v (.Slice (some l) (some u) w p) p')) h fun h =>
  bt h fun a h=>bt h fun b c=>k v l u p p' a b c
@[elab_as_elim] theorem chk_list {es:Es} (h:chkE N sc mp (.list es) pe=true) (k:∀ l p,chkEs N sc mp es l=true->P (.List l p)):P pe :=
 onList_t (P:=P) h fun l p h=>k l p h
@[elab_as_elim] theorem chk_tup {es:Es} (h:chkE N sc mp (.tup es) pe=true) (k:∀ l j p,chkEs N sc mp es l=true->P (.Tuple l j p)):P pe :=
 onTuple_t (P:=P) h fun l j p h=>k l j p h
@[elab_as_elim] theorem chk_call {f:Nat} {es:Es} (h:chkE N sc mp (.call f es) pe=true) (k:∀ x px args p,N.fn.lookup x=some f->isGlob sc x=true->chkEs N sc mp es args=true->P (.Call (.Name x px) args [] p)):P pe :=
 onCall_t (P:=P) h fun g args ks p h=>onName_t (P:=fun g=>P (.Call g args ks p)) h fun x px h=>onN_t (P:=fun ks=>P (.Call (.Name x px) args ks p)) h fun h=>bt h fun a h=>bt h fun b c=>k x px args p (eq_of_beq a) b c
@[elab_as_elim] theorem chk_new {f:Nat} {es:Es} (h:chkE N sc mp (.new f es) pe=true) (k:∀ x px args p,N.cl.lookup x=some f->isGlob sc x=true->chkEs N sc mp es args=true->P (.Call (.Name x px) args [] p)):P pe :=
 onCall_t (P:=P) h fun g args ks p h=>onName_t (P:=fun g=>P (.Call g args ks p)) h fun x px h=>onN_t (P:=fun ks=>P (.Call (.Name x px) args ks p)) h fun h=>bt h fun a h=>bt h fun b c=>k x px args p (eq_of_beq a) b c
@[elab_as_elim] theorem chk_bi {b:Bi} {es:Es} (h:chkE N sc mp (.bi b es) pe=true) (k:∀ px args p,isGlob sc (biName b)=true->chkEs N sc mp es args=true->P (.Call (.Name (biName b) px) args [] p)):P pe :=
 onCall_t (P:=P) h fun g args ks p h=>onName_t (P:=fun g=>P (.Call g args ks p)) h fun x px h=>onN_t (P:=fun ks=>P (.Call (.Name x px) args ks p)) h fun h=>bt h fun a h=>by
  cases eq_of_beq a
  exact bt h fun b c=>k px args p b c
@[elab_as_elim] theorem chk_meth {m:Me} {o x:E} (h:chkE N sc mp (.meth m o x) pe=true) (k:∀ v ap a p,(ap.endLine==p.line)=true->plainBase v=true->chkE N sc mp o v=true->chkE N sc mp x a=true->P (.Call (.Attribute v (meAttr m) ap) [a] [] p)):P pe :=
 onCall_t (P:=P) h fun g args ks p h=>onAttribute_t (P:=fun g=>P (.Call g args ks p)) h fun v n ap h=>on1_t (P:=fun args=>P (.Call (.Attribute v n ap) args ks p)) h fun a h=>onN_t (P:=fun ks=>P (.Call (.Attribute v n ap) [a] ks p)) h fun h =>
  bt h fun h0 h=>bt h fun h1 h=>bt h fun h2 h=>bt h fun h3 h4=>eq_of_beq h1 ▸ k v ap a p h0 h2 h3 h4
@[elab_as_elim] theorem chk_comp {elt it:E} {ts:List Nat} {ifs:Es} {rest:Gs} (h:chkE N sc mp (.comp elt ts it ifs rest) pe=true)
  (k:∀ pelt t iter pifs gs csc p a b,chkE N sc mp it iter=true->csc.kind = .function ->
   (∀ q∈csc.names,q.2 ≠ .cell/\(q.2 = .local->csc.names.lookup q.1=some .local)/\(q.2 = .free->sc.names.lookup q.1=some .cell))->tgt ts t=some a->tgtG rest gs=some b ->
   ((a++b++mp).map (·.2)).Nodup->(∀ q∈csc.names,q.2 = .local->((a++b).lookup q.1).isSome=true\/mp.lookup q.1=none)->(∀ q∈a++b,(relab csc sc).names.lookup q.1=some .local/\(a++b).lookup q.1=some q.2)->chkEs N (relab csc sc) (a++b++mp) ifs pifs=true ->
   chkG N (relab csc sc) (a++b++mp) rest gs=true->chkE N (relab csc sc) (a++b++mp) elt pelt=true->P (.ListComp pelt (⟨t,iter,pifs,0⟩::gs) csc p)):P pe :=
 onListComp_t (P:=P) h fun pelt gs csc p h=>onC_t (P:=fun gs=>P (.ListComp pelt gs csc p)) h fun g gs h=>by
  obtain ⟨t,iter,pifs,asy⟩:=g
  refine bt h fun h0 h=>bt h fun h1 h=>bt h fun h2 h=>bt h fun h3 h => ?_
  cases eq_of_beq h0
  refine onS_t (P:=fun o=>tgt ts t=o->P (.ListComp pelt (⟨t,iter,pifs,0⟩::gs) csc p)) h (fun a h ha => ?_) rfl
  refine onS_t (P:=fun o=>tgtG rest gs=o->P (.ListComp pelt (⟨t,iter,pifs,0⟩::gs) csc p)) h (fun b h hb => ?_) rfl
  refine bt h fun k1 h=>bt h fun k0 h=>bt h fun k2 h=>bt h fun k3 h=>bt h fun k4 k5 => ?_
  refine k pelt t iter pifs gs csc p a b h1 (eq_of_beq h2) (fun q hq => ?_) ha hb (of_decide_eq_true k1) (fun q hq hl => ?_) (fun q hq => ?_) k3 k4 k5
  ·have:=List.all_eq_true.mp h3 q hq
   simp only [Bool.and_eq_true,Bool.or_eq_true,bne_iff_ne,ne_eq,beq_iff_eq] at this
   exact ⟨this.1.1,fun z=>this.1.2.resolve_left (fun n=>n z),fun z=>this.2.resolve_left (fun n=>n z)⟩
  ·have:=List.all_eq_true.mp k0 q hq
   simp only [Bool.or_eq_true,bne_iff_ne,ne_eq,Option.isNone_iff_eq_none] at this
   exact this.imp (fun z=>z.resolve_left fun n=>n hl) id
  ·have:=List.all_eq_true.mp k2 q hq
   exact bt this fun a b=>⟨eq_of_beq a,eq_of_beq b⟩
theorem chk_nil {ps:List Expr} (h:chkEs N sc mp .nil ps=true):ps=[]:=onN_t (P:=fun ps=>ps=[]) h fun _=>rfl
@[elab_as_elim] theorem chk_cons {P:List Expr->Prop} {e:E} {es:Es} {ps:List Expr} (h:chkEs N sc mp (.cons e es) ps=true) (k:∀ p r,chkE N sc mp e p=true->chkEs N sc mp es r=true->P (p::r)):P ps :=
 onC_t (P:=P) h fun p r h=>bt h fun a b=>k p r a b
theorem chk_one {e:E} {p:Expr} (h:chkE N sc mp e p=true):chkEs N sc mp (.cons e .nil) [p]=true:=by
 show (chkE N sc mp e p&&true)=true
 rw [h]; rfl
theorem chk_gnil {gs:List Comprehension} (h:chkG N sc mp .nil gs=true):gs=[]:=onN_t (P:=fun ps=>ps=[]) h fun _=>rfl
@[elab_as_elim] theorem chk_gcons {P:List Comprehension->Prop} {ts:List Nat} {it:E} {ifs:Es} {rest:Gs} {gs:List Comprehension} (h:chkG N sc mp (.cons ts it ifs rest) gs=true)
  (k:∀ t iter pifs r,chkE N sc mp it iter=true->chkEs N sc mp ifs pifs=true->chkG N sc mp rest r=true->P (⟨t,iter,pifs,0⟩::r)):P gs :=
 onC_t (P:=P) h fun g r h=>by
  obtain ⟨t,iter,pifs,asy⟩:=g
  refine bt h fun h0 h=>bt h fun h1 h=>bt h fun h2 h3 => ?_
  cases eq_of_beq h0
  exact k t iter pifs r h1 h2 h3
theorem chk_idx {e:E} (h:chkE N sc mp e pe=true):(fun k:Nat=>k != 7&&k != 9&&k != 10&&k != 22&&k != 26) pe.ctorIdx=true:=by
 revert N sc mp pe e
 exists N,sc,mp,pe,e
 intro h
 cases e with
 | var=>exact chk_var h fun _ _ _ _=>rfl
 | glob=>exact chk_glob h fun _ _ _ _=>rfl
 | int=>exact chk_int h fun _ _=>rfl
 | bool=>exact chk_bool h fun _ _=>rfl
 | none=>exact chk_none h fun _ _=>rfl
 | bin=>exact chk_bin h fun _ _ _ _ _=>rfl
 | neg=>exact chk_neg h fun _ _ _=>rfl
 | inv=>exact chk_inv h fun _ _ _=>rfl
 | not=>exact chk_not h fun _ _ _=>rfl
 | cmp=>exact chk_cmp h fun _ _ _ _ _=>rfl
 | cmp2=>exact chk_cmp2 h fun _ _ _ _ _ _ _=>rfl
 | and=>exact chk_and h fun _ _ _ _=>rfl
 | or=>exact chk_or h fun _ _ _ _=>rfl
 | ife=>exact chk_ife h fun _ _ _ _ _ _ _=>rfl
 | attr=>exact chk_attr h fun _ _ _ _ _ _=>rfl
 | sub=>exact chk_sub h fun _ _ _ _ _=>rfl
 | slice=>exact chk_slice h fun _ _ _ _ _ _=>rfl
 | slice2=>exact chk_slice2 h fun _ _ _ _ _ _ _ _=>rfl
 | list=>exact chk_list h fun _ _ _=>rfl
 | tup=>exact chk_tup h fun _ _ _ _=>rfl
 | call=>exact chk_call h fun _ _ _ _ _ _ _=>rfl
 | new=>exact chk_new h fun _ _ _ _ _ _ _=>rfl
 | bi=>exact chk_bi h fun _ _ _ _ _=>rfl
 | meth=>exact chk_meth h fun _ _ _ _ _ _ _ _=>rfl
 | comp=>exact onListComp_t (P:=fun pe=>(fun k:Nat=>k != 7&&k != 9&&k != 10&&k != 22&&k != 26) pe.ctorIdx=true) h fun _ _ _ _ _=>rfl
theorem comp_of {e:E} {a:Expr} {b:List Comprehension} {c:Scope} {d:Pos} (h:chkE N sc mp e (.ListComp a b c d)=true):∃ elt ts it ifs rest,e = .comp elt ts it ifs rest:=by
 cases e <;> first | exact absurd h Bool.false_ne_true | exact ⟨_,_,_,_,_,rfl⟩
theorem chk_plain {e:E} (h:chkE N sc mp e pe=true):(∀ a k p,pe ≠ .Set a k p)/\(∀ v p,pe ≠ .Starred v p)/\(∀ a b c d,pe ≠ .Slice a b c d) :=
 ⟨fun _ _ _ z=>Bool.false_ne_true (by subst z; exact chk_idx h),fun _ _ z=>Bool.false_ne_true (by subst z; exact chk_idx h),fun _ _ _ _ z=>Bool.false_ne_true (by subst z; exact chk_idx h)⟩
theorem tgt_inv {is:List Nat} {a:List (Str × Nat)} (h:tgt is pe=some a):(∃ x p i,pe = .Name x p/\is=[i]/\a=[(x,i)])\/∃ es j p ns,pe = .Tuple es j p/\2<=is.length/\nameList es=some ns/\ns.length=is.length/\a=ns.zip is:=by
 revert pe is a
 exists pe,is,a
 intro h
 by_cases z:pe.ctorIdx=23
 ·left
  refine ea1_2 (Option.bind_eq_some_iff.mp ((if_pos z).symm.trans h)) fun x hx h => ?_
  refine ea1_2 (Option.bind_eq_some_iff.mp h) fun i hi h => ?_
  obtain ⟨l,h⟩:=Option.ite_none_right_eq_some.mp h
  obtain ⟨i',rfl⟩:=List.length_eq_one_iff.mp l
  cases hi; cases h
  exact asName_t hx fun p=>⟨x,p,_,rfl,rfl,rfl⟩
 ·right
  refine ea1_2 (Option.bind_eq_some_iff.mp ((if_neg z).symm.trans h)) fun es he h => ?_
  obtain ⟨l,h⟩:=Option.ite_none_right_eq_some.mp h
  refine ea1_2 (Option.bind_eq_some_iff.mp h) fun ns hn h => ?_
  obtain ⟨l',h⟩:=Option.ite_none_right_eq_some.mp h
  exact asTuple_t he fun j p=>⟨es,j,p,ns,rfl,l,hn,l',(Option.some.inj h).symm⟩
end
section
variable {N:Nm} {sc:Scope} {mp:List (Str × Nat)} {pe:Stmt} {P:Stmt->Prop}
theorem okT_is {p:Str × Nat} (h:okT sc mp p=true):mp.lookup p.1=some p.2/\isTgt sc p.1=true:=bt h fun a b=>⟨eq_of_beq a,b⟩
theorem okT_all {a:List (Str × Nat)} (h:a.all (okT sc mp)=true):∀ q∈a,mp.lookup q.1=some q.2/\isTgt sc q.1=true:=fun q hq=>okT_is (List.all_eq_true.mp h q hq)
@[elab_as_elim] theorem chk_asg {i:Nat} {e:E} (h:chkS N sc mp (.asg i e) pe=true) (k:∀ x tp v p,mp.lookup x=some i->isTgt sc x=true->chkE N sc mp e v=true ->
  compT v (fun csc vp=>sc.names.lookup x==some .local&&tp.line==vp.line && !(csc.names.any fun (n,k)=>n==x&&(k == .local||k == .cell)))=true->P (.Assign [.Name x tp] v p)):P pe :=
 stAssign_t (P:=P) h fun ts v p h=>on1_t (P:=fun ts=>P (.Assign ts v p)) h fun t h=>onName_t (P:=fun t=>P (.Assign [t] v p)) h fun x tp h=>bt h fun a h=>bt h fun b c=>k x tp v p (okT_is a).1 (okT_is a).2 b c
@[elab_as_elim] theorem chk_asgT {is:List Nat} {e:E} (h:chkS N sc mp (.asgT is e) pe=true) (k:∀ es j tp v p a,tgt is (.Tuple es j tp)=some a->(∀ q∈a,mp.lookup q.1=some q.2/\isTgt sc q.1=true)->chkE N sc mp e v=true ->
  notComp v=true->P (.Assign [.Tuple es j tp] v p)):P pe :=
 stAssign_t (P:=P) h fun ts v p h=>on1_t (P:=fun ts=>P (.Assign ts v p)) h fun t h=>onTuple_t (P:=fun t=>onS (tgt is t) (fun a=>a.all (okT sc mp)&&(chkE N sc mp e v&&notComp v))=true->P (.Assign [t] v p)) h (fun es j tp _ h=>onS_t (P:=fun o=>tgt is (.Tuple es j tp)=o->P (.Assign [.Tuple es j tp] v p)) h
  (fun a h ha=>bt h fun c h=>bt h fun d e=>k es j tp v p a ha (okT_all c) d e) rfl) (onTuple_t (P:=fun _=>onS (tgt is t) (fun a=>a.all (okT sc mp)&&(chkE N sc mp e v&&notComp v))=true) h fun _ _ _ h=>h)
@[elab_as_elim] theorem chk_setA {o e:E} {f:Nat} (h:chkS N sc mp (.setA o f e) pe=true) (k:∀ ov n tp v p,N.an[f]? = some n->chkE N sc mp e v=true->chkE N sc mp o ov=true->P (.Assign [.Attribute ov n tp] v p)):P pe :=
 stAssign_t (P:=P) h fun ts v p h=>on1_t (P:=fun ts=>P (.Assign ts v p)) h fun t h=>onAttribute_t (P:=fun t=>P (.Assign [t] v p)) h fun ov n tp h=>bt h fun a h=>bt h fun b c=>k ov n tp v p (eq_of_beq a) b c
@[elab_as_elim] theorem chk_setI {o i e:E} (h:chkS N sc mp (.setI o i e) pe=true) (k:∀ ov s tp v p,chkE N sc mp e v=true->chkE N sc mp o ov=true->chkE N sc mp i s=true->P (.Assign [.Subscript ov s tp] v p)):P pe :=
 stAssign_t (P:=P) h fun ts v p h=>on1_t (P:=fun ts=>P (.Assign ts v p)) h fun t h=>onSubscript_t (P:=fun t=>P (.Assign [t] v p)) h fun ov s tp h=>bt h fun a h=>bt h fun b c=>k ov s tp v p a b c
@[elab_as_elim] theorem chk_augV {i:Nat} {op:Op} {e:E} (h:chkS N sc mp (.augV i op e) pe=true) (k:∀ x tp v p,mp.lookup x=some i->isTgt sc x=true->isVar sc x=true->chkE N sc mp e v=true->P (.AugAssign (.Name x tp) (opOf op) v p)):P pe :=
 stAugAssign_t (P:=P) h fun t o v p h=>onName_t (P:=fun t=>P (.AugAssign t o v p)) h fun x tp h=>bt h fun a h=>bt h fun b h=>bt h fun c d=>eq_of_beq c ▸ k x tp v p (okT_is a).1 (okT_is a).2 b d
@[elab_as_elim] theorem chk_augA {o e:E} {f:Nat} {op:Op} (h:chkS N sc mp (.augA o f op e) pe=true) (k:∀ ov n tp v p,N.an[f]? = some n->chkE N sc mp o ov=true->chkE N sc mp e v=true->P (.AugAssign (.Attribute ov n tp) (opOf op) v p)):P pe :=
 stAugAssign_t (P:=P) h fun t o v p h=>onAttribute_t (P:=fun t=>P (.AugAssign t o v p)) h fun ov n tp h=>bt h fun a h=>bt h fun b h=>bt h fun c d=>eq_of_beq b ▸ k ov n tp v p (eq_of_beq a) c d
@[elab_as_elim] theorem chk_augI {o i e:E} {op:Op} (h:chkS N sc mp (.augI o i op e) pe=true) (k:∀ ov s tp v p,chkE N sc mp o ov=true->chkE N sc mp i s=true->chkE N sc mp e v=true->P (.AugAssign (.Subscript ov s tp) (opOf op) v p)):P pe :=
 stAugAssign_t (P:=P) h fun t o v p h=>onSubscript_t (P:=fun t=>P (.AugAssign t o v p)) h fun ov s tp h=>bt h fun a h=>bt h fun b h=>bt h fun c d=>eq_of_beq a ▸ k ov s tp v p b c d
@[elab_as_elim] theorem chk_expr {e:E} (h:chkS N sc mp (.expr e) pe=true) (k:∀ v p,v.ctorIdx=16->chkE N sc mp e v=true->P (.Expr v p)):P pe :=
 stExpr_t (P:=P) h fun v p h=>bt h fun a b=>k v p (eq_of_beq a) b
@[elab_as_elim] theorem chk_ite {t:E} {a b:Ss} (h:chkS N sc mp (.ite t a b) pe=true) (k:∀ t' a' b' p,chkE N sc mp t t'=true->chkSs N sc mp a a'=true->chkSs N sc mp b b'=true->P (.If t' a' b' p)):P pe :=
 stIf_t (P:=P) h fun t' a' b' p h=>bt h fun a h=>bt h fun b c=>k t' a' b' p a b c
@[elab_as_elim] theorem chk_whl {t:E} {b:Ss} (h:chkS N sc mp (.whl t b) pe=true) (k:∀ t' b' p,chkE N sc mp t t'=true->chkSs N sc mp b b'=true->P (.While t' b' [] p)):P pe :=
 stWhile_t (P:=P) h fun t' b' c' p h=>onN_t (P:=fun c=>P (.While t' b' c p)) h fun h=>bt h fun a b=>k t' b' p a b
@[elab_as_elim] theorem chk_for {ts:List Nat} {e:E} {b:Ss} (h:chkS N sc mp (.for_ ts e b) pe=true) (k:∀ t v b' p a,tgt ts t=some a->(∀ q∈a,mp.lookup q.1=some q.2/\isTgt sc q.1=true)->chkE N sc mp e v=true->chkSs N sc mp b b'=true->P (.For t v b' [] p)):P pe :=
 stFor_t (P:=P) h fun t v b' c' p h=>onN_t (P:=fun c=>P (.For t v b' c p)) h fun h=>onS_t (P:=fun o=>tgt ts t=o->P (.For t v b' [] p)) h (fun a h ha=>bt h fun c h=>bt h fun d e=>k t v b' p a ha (okT_all c) d e) rfl
@[elab_as_elim] theorem chk_ret {e:E} (h:chkS N sc mp (.ret e) pe=true) (k:∀ v p,chkE N sc mp e v=true->P (.Return (some v) p)):P pe :=
 stReturn_t (P:=P) h fun v p h=>onS_t (P:=fun v=>P (.Return v p)) h fun v h=>k v p h
@[elab_as_elim] theorem chk_brk (h:chkS N sc mp .brk pe=true) (k:∀ p,P (.Break p)):P pe:=stBreak_t (P:=P) h fun p _=>k p
@[elab_as_elim] theorem chk_cont (h:chkS N sc mp .cont pe=true) (k:∀ p,P (.Continue p)):P pe:=stContinue_t (P:=P) h fun p _=>k p
theorem chk_snil {ps:List Stmt} (h:chkSs N sc mp .nil ps=true):ps=[]:=onN_t (P:=fun ps=>ps=[]) h fun _=>rfl
@[elab_as_elim] theorem chk_scons {P:List Stmt->Prop} {s:S} {ss:Ss} {ps:List Stmt} (h:chkSs N sc mp (.cons s ss) ps=true) (k:∀ p r,chkS N sc mp s p=true->chkSs N sc mp ss r=true->P (p::r)):P ps :=
 onC_t (P:=P) h fun p r h=>bt h fun a b=>k p r a b
end
end Mob
namespace Mob
open PySem PySem.W PyProof.Rows
structure Wd where
 prog:Program
 w:World
 K:Frag
 N:Nm
 G:Nat->V
 fa:Nat->Addr
 g:Gr
 mg:Str->Option Value
 mb:Str->Option Value
theorem ne_wd:Nonempty Wd:=ne_w.elim fun w=>⟨⟨default,w,default,default,fun _=>default,fun _=>default,default,fun _=>none,fun _=>none⟩⟩
abbrev Wd.M (D:Wd):Model:=model D.prog D.w
structure Wd.Ok (D:Wd):Prop where
 X:D.K.In D.g.base
 nd:D.g.an.Nodup
 an:D.g.an=D.N.an
 ns:D.g.base.Ns mainGlobals D.mg
 nb:D.g.base.Ns builtinsNs D.mb
 lim:D.g.base.NoLimit
 bi:∀ b,D.mg (biName b)=none/\D.mb (biName b)=some (biVal b)
 gl:∀ x k u,D.N.gl.lookup x=some k->rdV (D.G k)=some u->∃ y,D.mg x=some y/\VR D.g.rho0 D.g.base u y
 fn:∀ x f,D.N.fn.lookup x=some f->D.mg x=some (.ref (D.fa f))/\∃ o fd,D.g.base.get? (D.fa f)=some o/\o.data = .func fd
 cl:∀ x c,D.N.cl.lookup x=some c->D.mg x=some (.ref (D.g.ca c))/\0<c/\c<5/\keepIn D.K (.ref (D.g.ca c))=true
 cls:∀ c,c<5->0<c->Cls D.K (D.g.ca c) D.g.an (D.fa (1000+c))
structure RoomC (A:Around) (n:Nat):Prop where
 handled:A.handled=none
 depth:A.depth+2*n+1<=900
 units:A.units+16*n+192<=9900
theorem Room.call {A:Around} {n:Nat} (r:Room A n):RoomC A n:=⟨r.handled,by have:=r.depth; exact Nat.le_of_lt (Z.ltn this),by have:=r.units; exact Nat.le_trans (Nat.add_le_add (Nat.le_refl _) (by decide)) this⟩
theorem RoomC.deeper {A:Around} {n:Nat} (r:RoomC A (n+1)) (env:Env):Room (A.deeper env) n :=
 ⟨r.handled,by have:=r.depth; show A.depth+1+2*n+2<=900; lia,by have:=r.units; show A.units+3+16*n+200<=9900; lia⟩
noncomputable def SndΦ (D:Wd) (n:Nat) (Φ:Φt):Prop:=∀ (f:Nat) (vs:List V) (σ:H) (v:V) (σ':H) (A:Around) (ρ:Rho) (s:Shared) (vals:List Value),Φ f vs σ=some (v,σ')->RoomC A n->Rel D.g ρ σ s.heap->All2 (VR ρ s.heap) vs vals ->
 codeAny D.M A (.call (.ref (D.fa f)) ⟨vals,[]⟩) (fun r s'=>match r with | .ok (.ret x)=>PE D.g ρ σ s v σ' x s' | _=>False) s
structure Here (D:Wd) (A:Around) (n:Nat) (env:Env) (mp:List (Str × Nat)) (ρ:Rho) (σ:H) (h:Heap) (loc:List V):Prop where
 ok:EnvOk env
 rm:Room A n
 nd:(mp.map (·.2)).Nodup
 r:Rel D.g ρ σ h
 l:Loc D.g env mp ρ σ h loc
section
variable {D:Wd} {A:Around} {n:Nat} {env:Env} {mp:List (Str × Nat)} {ρ ρ':Rho} {σ σ':H} {s s':Shared} {loc:List V} {Ex:Value->Shared->Prop}
theorem Here.go {h h':Heap} (H:Here D A n env mp ρ σ h loc) (st:Step ρ σ h NoW ρ' σ' h') (r:Rel D.g ρ' σ' h'):Here D A n env mp ρ' σ' h' loc :=
 ⟨H.ok,H.rm,H.nd,r,H.l.stepE st⟩
theorem Step.drop {W X:Addr->Prop} {h h':Heap} (st:Step ρ σ h (fun b=>W b\/X b) ρ' σ' h') (f:∀ b,X b->h.get? b=none):Step ρ σ h W ρ' σ' h' :=
 ⟨st.pre,fun b o e n nw=>st.fra b o e n (fun z=>z.elim nw fun x=>by rw [f b x] at e; cases e),st.tup,st.own,st.stays⟩
theorem PE.andThen {M:Model} {m:Sem Value} {v:V} {Q:Value->Shared->Prop} (h:wpAny M A m (PE D.g ρ σ s v σ') Ex s)
  (k:∀ ρ' s' x,Step ρ σ s.heap NoW ρ' σ' s'.heap->Rel D.g ρ' σ' s'.heap->Same s s'->VR ρ' s'.heap v x->Q x s'):wpAny M A m Q Ex s :=
 wpAny_mono h (fun x s' ⟨ρ',a,b,c,d⟩=>k ρ' s' x a b c d) fun _ _ x=>x
theorem PB.andThen {M:Model} {m:Sem Bool} {v:Bool} {Q:Bool->Shared->Prop} (h:wpAny M A m (PB D.g ρ σ s v σ') Ex s)
  (k:∀ ρ' s',Step ρ σ s.heap NoW ρ' σ' s'.heap->Rel D.g ρ' σ' s'.heap->Same s s'->Q v s'):wpAny M A m Q Ex s :=
 wpAny_mono h (fun x s' ⟨e,ρ',a,b,c,_⟩=>e ▸ k ρ' s' a b c) fun _ _ x=>x
theorem PE.after {M:Model} {m:Sem Value} {v:V} {σ'':H} (st:Step ρ σ s.heap NoW ρ' σ' s'.heap) (sa:Same s s') (h:wpAny M A m (PE D.g ρ' σ' s' v σ'') Ex s'):wpAny M A m (PE D.g ρ σ s v σ'') Ex s' :=
 wpAny_mono h (fun _ _ q=>Go.trans st sa q) fun _ _ x=>x
theorem PB.after {M:Model} {m:Sem Bool} {v:Bool} {σ'':H} (st:Step ρ σ s.heap NoW ρ' σ' s'.heap) (sa:Same s s') (h:wpAny M A m (PB D.g ρ' σ' s' v σ'') Ex s'):wpAny M A m (PB D.g ρ σ s v σ'') Ex s' :=
 wpAny_mono h (fun _ _ q=>⟨q.1,Go.trans st sa q.2⟩) fun _ _ x=>x
noncomputable def SE (D:Wd) (n:Nat) (Φ:Φt) (e:E):Prop:=∀ (pe:Expr) (env:Env) (mp:List (Str × Nat)) (loc:List V) (σ:H) (v:V) (σ':H) (ρ:Rho) (s:Shared) (A:Around) (Ex:Value->Shared->Prop),
 chkE D.N env.scope mp e pe=true->evE Φ D.G e loc σ=some (v,σ')->Here D A n env mp ρ σ s.heap loc->wpAny D.M A (eval pe env) (PE D.g ρ σ s v σ') Ex s
theorem SE.u {D:Wd} {n:Nat} {Φ:Φt} {e:E} (h:SE D n Φ e) {pe:Expr} {env:Env} {mp:List (Str × Nat)} {loc:List V} {σ:H} {v:V} {σ':H} {ρ:Rho} {s:Shared} {A:Around} {Ex:Value->Shared->Prop} (q0:chkE D.N env.scope mp e pe=true) (q1:evE Φ D.G e loc σ=some (v,σ')) (q2:Here D A n env mp ρ σ s.heap loc):wpAny D.M A (eval pe env) (PE D.g ρ σ s v σ') Ex s:=h pe env mp loc σ v σ' ρ s A Ex q0 q1 q2
noncomputable def ST (D:Wd) (n:Nat) (Φ:Φt) (e:E):Prop:=∀ (pe:Expr) (env:Env) (mp:List (Str × Nat)) (loc:List V) (σ:H) (v:V) (σ':H) (b:Bool) (ρ:Rho) (s:Shared) (A:Around) (Ex:Value->Shared->Prop),
 chkE D.N env.scope mp e pe=true->evE Φ D.G e loc σ=some (v,σ')->truth σ' v=some b->Here D A n env mp ρ σ s.heap loc->wpAny D.M A (isTrue pe env (eval pe env)) (PB D.g ρ σ s b σ') Ex s
theorem ST.u {D:Wd} {n:Nat} {Φ:Φt} {e:E} (h:ST D n Φ e) {pe:Expr} {env:Env} {mp:List (Str × Nat)} {loc:List V} {σ:H} {v:V} {σ':H} {b:Bool} {ρ:Rho} {s:Shared} {A:Around} {Ex:Value->Shared->Prop} (q0:chkE D.N env.scope mp e pe=true) (q1:evE Φ D.G e loc σ=some (v,σ')) (q2:truth σ' v=some b) (q3:Here D A n env mp ρ σ s.heap loc):wpAny D.M A (isTrue pe env (eval pe env)) (PB D.g ρ σ s b σ') Ex s:=h pe env mp loc σ v σ' b ρ s A Ex q0 q1 q2 q3
noncomputable def SEs (D:Wd) (n:Nat) (Φ:Φt) (es:Es):Prop:=∀ (ps:List Expr) (env:Env) (mp:List (Str × Nat)) (loc:List V) (σ:H) (vs:List V) (σ':H) (ρ:Rho) (s:Shared) (A:Around) (Ex:Value->Shared->Prop) (pos:Pos),
 chkEs D.N env.scope mp es ps=true->evEs Φ D.G es loc σ=some (vs,σ')->Here D A n env mp ρ σ s.heap loc->wpAny D.M A (spliced (backTo pos (starEach ps env))) (fun xs s'=>Go D.g NoW ρ σ s σ' (fun ρ' s'=>All2 (VR ρ' s'.heap) vs xs) s') Ex s
theorem SEs.u {D:Wd} {n:Nat} {Φ:Φt} {es:Es} (h:SEs D n Φ es) {ps:List Expr} {env:Env} {mp:List (Str × Nat)} {loc:List V} {σ:H} {vs:List V} {σ':H} {ρ:Rho} {s:Shared} {A:Around} {Ex:Value->Shared->Prop} {pos:Pos} (q0:chkEs D.N env.scope mp es ps=true) (q1:evEs Φ D.G es loc σ=some (vs,σ')) (q2:Here D A n env mp ρ σ s.heap loc):wpAny D.M A (spliced (backTo pos (starEach ps env))) (fun xs s'=>Go D.g NoW ρ σ s σ' (fun ρ' s'=>All2 (VR ρ' s'.heap) vs xs) s') Ex s:=h ps env mp loc σ vs σ' ρ s A Ex pos q0 q1 q2
noncomputable def SAnd (D:Wd) (n:Nat) (Φ:Φt) (es:Es):Prop:=∀ (ps:List Expr) (env:Env) (mp:List (Str × Nat)) (loc:List V) (σ:H) (v:V) (σ':H) (ρ:Rho) (s:Shared) (A:Around) (Ex:Value->Shared->Prop) (pos:Pos),
 chkEs D.N env.scope mp es ps=true->evAnd Φ D.G es loc σ=some (v,σ')->Here D A n env mp ρ σ s.heap loc->wpAny D.M A (boolOp pos .And (evalEach ps env)) (PE D.g ρ σ s v σ') Ex s
theorem SAnd.u {D:Wd} {n:Nat} {Φ:Φt} {es:Es} (h:SAnd D n Φ es) {ps:List Expr} {env:Env} {mp:List (Str × Nat)} {loc:List V} {σ:H} {v:V} {σ':H} {ρ:Rho} {s:Shared} {A:Around} {Ex:Value->Shared->Prop} {pos:Pos} (q0:chkEs D.N env.scope mp es ps=true) (q1:evAnd Φ D.G es loc σ=some (v,σ')) (q2:Here D A n env mp ρ σ s.heap loc):wpAny D.M A (boolOp pos .And (evalEach ps env)) (PE D.g ρ σ s v σ') Ex s:=h ps env mp loc σ v σ' ρ s A Ex pos q0 q1 q2
noncomputable def SOr (D:Wd) (n:Nat) (Φ:Φt) (es:Es):Prop:=∀ (ps:List Expr) (env:Env) (mp:List (Str × Nat)) (loc:List V) (σ:H) (v:V) (σ':H) (ρ:Rho) (s:Shared) (A:Around) (Ex:Value->Shared->Prop) (pos:Pos),
 chkEs D.N env.scope mp es ps=true->evOr Φ D.G es loc σ=some (v,σ')->Here D A n env mp ρ σ s.heap loc->wpAny D.M A (boolOp pos .Or (evalEach ps env)) (PE D.g ρ σ s v σ') Ex s
theorem SOr.u {D:Wd} {n:Nat} {Φ:Φt} {es:Es} (h:SOr D n Φ es) {ps:List Expr} {env:Env} {mp:List (Str × Nat)} {loc:List V} {σ:H} {v:V} {σ':H} {ρ:Rho} {s:Shared} {A:Around} {Ex:Value->Shared->Prop} {pos:Pos} (q0:chkEs D.N env.scope mp es ps=true) (q1:evOr Φ D.G es loc σ=some (v,σ')) (q2:Here D A n env mp ρ σ s.heap loc):wpAny D.M A (boolOp pos .Or (evalEach ps env)) (PE D.g ρ σ s v σ') Ex s:=h ps env mp loc σ v σ' ρ s A Ex pos q0 q1 q2
noncomputable def TAnd (D:Wd) (n:Nat) (Φ:Φt) (es:Es):Prop:=∀ (ps:List Expr) (env:Env) (mp:List (Str × Nat)) (loc:List V) (σ:H) (v:V) (σ':H) (b:Bool) (ρ:Rho) (s:Shared) (A:Around) (Ex:Value->Shared->Prop),
 chkEs D.N env.scope mp es ps=true->evAnd Φ D.G es loc σ=some (v,σ')->truth σ' v=some b->Here D A n env mp ρ σ s.heap loc->wpAny D.M A (allTrue .And ps env) (PB D.g ρ σ s b σ') Ex s
theorem TAnd.u {D:Wd} {n:Nat} {Φ:Φt} {es:Es} (h:TAnd D n Φ es) {ps:List Expr} {env:Env} {mp:List (Str × Nat)} {loc:List V} {σ:H} {v:V} {σ':H} {b:Bool} {ρ:Rho} {s:Shared} {A:Around} {Ex:Value->Shared->Prop} (q0:chkEs D.N env.scope mp es ps=true) (q1:evAnd Φ D.G es loc σ=some (v,σ')) (q2:truth σ' v=some b) (q3:Here D A n env mp ρ σ s.heap loc):wpAny D.M A (allTrue .And ps env) (PB D.g ρ σ s b σ') Ex s:=h ps env mp loc σ v σ' b ρ s A Ex q0 q1 q2 q3
noncomputable def TOr (D:Wd) (n:Nat) (Φ:Φt) (es:Es):Prop:=∀ (ps:List Expr) (env:Env) (mp:List (Str × Nat)) (loc:List V) (σ:H) (v:V) (σ':H) (b:Bool) (ρ:Rho) (s:Shared) (A:Around) (Ex:Value->Shared->Prop),
 chkEs D.N env.scope mp es ps=true->evOr Φ D.G es loc σ=some (v,σ')->truth σ' v=some b->Here D A n env mp ρ σ s.heap loc->wpAny D.M A (allTrue .Or ps env) (PB D.g ρ σ s b σ') Ex s
theorem TOr.u {D:Wd} {n:Nat} {Φ:Φt} {es:Es} (h:TOr D n Φ es) {ps:List Expr} {env:Env} {mp:List (Str × Nat)} {loc:List V} {σ:H} {v:V} {σ':H} {b:Bool} {ρ:Rho} {s:Shared} {A:Around} {Ex:Value->Shared->Prop} (q0:chkEs D.N env.scope mp es ps=true) (q1:evOr Φ D.G es loc σ=some (v,σ')) (q2:truth σ' v=some b) (q3:Here D A n env mp ρ σ s.heap loc):wpAny D.M A (allTrue .Or ps env) (PB D.g ρ σ s b σ') Ex s:=h ps env mp loc σ v σ' b ρ s A Ex q0 q1 q2 q3
abbrev testsOf (ifs:List Expr) (env:Env) (b:Bool):Sem Bool:=forIn ifs b fun c r=>if r=true then do let ok <- isTrue c env (eval c env); pure (ForInStep.yield ok) else pure (ForInStep.yield r)
noncomputable def SIf (D:Wd) (n:Nat) (Φ:Φt) (es:Es):Prop:=∀ (ps:List Expr) (env:Env) (mp:List (Str × Nat)) (loc:List V) (σ:H) (b:Bool) (σ':H) (ρ:Rho) (s:Shared) (A:Around) (Ex:Value->Shared->Prop),
 chkEs D.N env.scope mp es ps=true->evIf Φ D.G es loc σ=some (b,σ')->Here D A n env mp ρ σ s.heap loc->wpAny D.M A (testsOf ps env true) (PB D.g ρ σ s b σ') Ex s
theorem SIf.u {D:Wd} {n:Nat} {Φ:Φt} {es:Es} (h:SIf D n Φ es) {ps:List Expr} {env:Env} {mp:List (Str × Nat)} {loc:List V} {σ:H} {b:Bool} {σ':H} {ρ:Rho} {s:Shared} {A:Around} {Ex:Value->Shared->Prop} (q0:chkEs D.N env.scope mp es ps=true) (q1:evIf Φ D.G es loc σ=some (b,σ')) (q2:Here D A n env mp ρ σ s.heap loc):wpAny D.M A (testsOf ps env true) (PB D.g ρ σ s b σ') Ex s:=h ps env mp loc σ b σ' ρ s A Ex q0 q1 q2
end
section
variable {M:Model} {A:Around} {Ex:Value->Shared->Prop} {g:Gr} {ρ:Rho} {s s1:Shared} {σ0 σ σ':H} {α:Type} {o:Option α} {m:Sem Value} {mb:Sem Bool} {v v':V} {b b':Bool}
theorem prT (h:some (V.bool b,σ)=some (v',σ')) (h3:truth σ' v'=some b') (k:wpAny M A mb (PB g ρ σ0 s b σ) Ex s1):wpAny M A mb (PB g ρ σ0 s b' σ') Ex s1:=by cases h; cases h3; exact k
theorem mpE {f:α->V} {t:α->H} (h:o.map (fun a=>(f a,t a))=some (v,σ')) (k:∀ a,o=some a->wpAny M A m (PE g ρ σ0 s (f a) (t a)) Ex s1):wpAny M A m (PE g ρ σ0 s v σ') Ex s1:=by
 cases o with
 | none=>exact nos h
 | some p=>exact prE h (k p rfl)
theorem mpT {f:α->Bool} (h:o.map (fun a=>(V.bool (f a),σ))=some (v,σ')) (h3:truth σ' v=some b) (k:∀ a,o=some a->wpAny M A mb (PB g ρ σ0 s (f a) σ) Ex s1):wpAny M A mb (PB g ρ σ0 s b σ') Ex s1:=by
 cases o with
 | none=>exact nos h
 | some p=>exact prT h h3 (k p rfl)
end
end Mob
namespace Mob
open PySem PySem.W PyProof.Rows PySem.Calls
section
variable {D:Wd} {n:Nat} {Φ:Φt}
theorem isVar_dbg {sc:Scope} {x:Str} (h:isVar sc x=true):(x==("__debug__" : Str))=false:=by
 unfold isVar at h
 simp only [Bool.and_eq_true] at h
 exact beq_str_false h.1.2
theorem isGlob_is {env:Env} {x:Str} (h:isGlob env.scope x=true):env.kindOf x=some .globalImplicit/\(x==("__debug__" : Str))=false:=by
 unfold isGlob at h
 simp only [Bool.and_eq_true,beq_iff_eq] at h
 exact ⟨h.1,beq_str_false h.2⟩
theorem st_of_se {e:Mob.E} (h:SE D n Φ e) (he:∀ {pe:Expr} {env:Env} {mp:List (Str × Nat)},chkE D.N env.scope mp e pe=true->isTrue pe env (eval pe env)=(do let v <- eval pe env; standAt pe.pos; holding [v] (truthy v))):ST D n Φ e:=by
 intro pe env mp loc σ v σ' b ρ s A Ex h1 h2 h3 H
 refine wpAny_isTrue_value (PE.andThen (h.u h1 h2 H) fun ρ' s' x st r sa vr => ?_) (he h1)
 exact truth_prim h3 r vr fun t=>⟨rfl,ρ',st,r,⟨sa.1,sa.2⟩,trivial⟩
theorem ev_var {Φ:Φt} {G:Nat->V} {i:Nat} {loc:List V} {σ σ':H} {v:V} {P:Prop} (h:evE Φ G (.var i) loc σ=some (v,σ')) (k:∀ u,loc[i]? = some u->(rdV u).map (fun v=>(v,σ))=some (v,σ')->P):P:=by
 have h:(match loc[i]? with | none=>none | some v=>(rdV v).map fun v=>(v,σ))=some (v,σ'):=h
 cases q:loc[i]? with
 | none=>rw [q] at h; exact nos h
 | some u=>rw [q] at h; exact k u q h
theorem mi {β:Type} {o:Option (V × H)} {f:Int->H->β} {r:β} {G:Prop} (h:(match o with | some (.int i,σ)=>some (f i σ) | _=>none)=some r) (k:∀ i σ,o=some (.int i,σ)->f i σ=r->G):G:=by
 rcases o with _ | ⟨v,σ⟩
 ·exact nos h
 ·cases v with
  | int i=>exact k i σ rfl (Option.some.inj h)
  | _=>exact nos h
theorem se_var (i:Nat):SE D n Φ (.var i):=by
 intro pe env mp loc σ v σ' ρ s A Ex h1 h2 H
 refine chk_var h1 fun x p hm hv => ?_
 refine ev_var h2 fun u hu h2=>mpE h2 fun y hy => ?_
 exact wpAny_Name (loadName_prim H.ok H.l hm hv hu hy fun y ry=>Go.here H.r ry) (isVar_dbg hv)
theorem st_var (i:Nat):ST D n Φ (.var i):=st_of_se (se_var i) fun h=>chk_var h fun _ _ _ _=>rfl
theorem se_glob (O:D.Ok) (k:Nat):SE D n Φ (.glob k):=by
 intro pe env mp loc σ v σ' ρ s A Ex h1 h2 H
 refine chk_glob h1 fun x p hm hv => ?_
 refine mpE h2 fun u hu => ?_
 refine ea1_2 (O.gl x k u hm hu) fun y hy ry => ?_
 obtain ⟨k1,k2⟩:=isGlob_is hv
 refine Name_function_global H.ok.kind k1 (loadGlobal_global (by rw [H.ok.glob]; exact O.ns.keeps H.r.keep) hy (Go.here H.r ?_)) k2
 exact ry.go H.r.pre0 fun b o e _=>H.r.keep b o e
theorem st_glob (O:D.Ok) (k:Nat):ST D n Φ (.glob k):=st_of_se (se_glob O k) fun h=>chk_glob h fun _ _ _ _=>rfl
theorem se_int (i:Int):SE D n Φ (.int i):=by
 intro pe env mp loc σ v σ' ρ s A Ex h1 h2 H
 refine chk_int h1 fun k p => ?_
 cases h2
 exact wpAny_Constant_int (Go.toks H.r ⟨_,rfl⟩)
theorem st_int (i:Int):ST D n Φ (.int i):=st_of_se (se_int i) fun h=>chk_int h fun _ _=>rfl
theorem se_bool (i:Bool):SE D n Φ (.bool i):=by
 intro pe env mp loc σ v σ' ρ s A Ex h1 h2 H
 refine chk_bool h1 fun k p => ?_
 cases h2
 exact wpAny_Constant_bool (Go.here H.r rfl)
theorem st_bool (i:Bool):ST D n Φ (.bool i):=st_of_se (se_bool i) fun h=>chk_bool h fun _ _=>rfl
theorem se_none:SE D n Φ .none:=by
 intro pe env mp loc σ v σ' ρ s A Ex h1 h2 H
 refine chk_none h1 fun k p => ?_
 cases h2
 exact wpAny_Constant_none (Go.here H.r rfl)
theorem st_none:ST D n Φ .none:=st_of_se se_none fun h=>chk_none h fun _ _=>rfl
theorem se_bin {op:Op} {a b:Mob.E} (ha:SE D n Φ a) (hb:SE D n Φ b):SE D n Φ (.bin op a b):=by
 intro pe env mp loc σ v σ' ρ s A Ex h1 h2 H
 refine chk_bin h1 fun l r p c1 c2 => ?_
 refine m1 h2 fun u σ1 e1 h2=>m1 h2 fun y σ2 e2 h2 => ?_
 refine wpAny_BinOp (PE.andThen (ha.u c1 e1 H) fun ρ1 s1 x st1 r1 sa1 v1=>PE.andThen (hb.u c2 e2 (H.go st1 r1)) fun ρ2 s2 x2 st2 r2 sa2 v2 => ?_)
 exact PE.after (st1.trans st2) (sa1.trans sa2) (binV_prim h2 r2 (v1.step st2) v2)
theorem st_bin {op:Op} {a b:Mob.E} (ha:SE D n Φ a) (hb:SE D n Φ b):ST D n Φ (.bin op a b):=st_of_se (se_bin ha hb) fun h=>chk_bin h fun _ _ _ _ _=>rfl
set_option tactic.hygienic true in
theorem se_neg {a:Mob.E} (ha:SE D n Φ a):SE D n Φ (.neg a):=by
 intro pe env mp loc σ v σ' ρ s A Ex h1 h2 H
 refine chk_neg h1 fun l p c1 => ?_
 refine mi h2 fun i σ1 e1 h2 => ?_
 cases h2
 ·refine wpAny_UnaryOp (PE.andThen (ha.u c1 e1 H) fun ρ1 s1 x st1 r1 sa1 v1 => ?_)
  refine VR.intE v1 fun t => ?_
  exact neg_int ⟨ρ1,st1,r1,sa1,_,rfl⟩
theorem st_neg {a:Mob.E} (ha:SE D n Φ a):ST D n Φ (.neg a):=st_of_se (se_neg ha) fun h=>chk_neg h fun _ _ _=>rfl
set_option tactic.hygienic true in
theorem se_inv {a:Mob.E} (ha:SE D n Φ a):SE D n Φ (.inv a):=by
 intro pe env mp loc σ v σ' ρ s A Ex h1 h2 H
 refine chk_inv h1 fun l p c1 => ?_
 refine mi h2 fun i σ1 e1 h2 => ?_
 cases h2
 ·refine wpAny_UnaryOp (PE.andThen (ha.u c1 e1 H) fun ρ1 s1 x st1 r1 sa1 v1 => ?_)
  refine VR.intE v1 fun t => ?_
  exact invert_int ⟨ρ1,st1,r1,sa1,_,rfl⟩
theorem st_inv {a:Mob.E} (ha:SE D n Φ a):ST D n Φ (.inv a):=st_of_se (se_inv ha) fun h=>chk_inv h fun _ _ _=>rfl
theorem se_not {a:Mob.E} (ha:SE D n Φ a):SE D n Φ (.not a):=by
 intro pe env mp loc σ v σ' ρ s A Ex h1 h2 H
 refine chk_not h1 fun l p c1 => ?_
 refine m1 h2 fun u σ1 e1 h2=>mpE h2 fun b hb => ?_
 refine wpAny_UnaryOp (PE.andThen (ha.u c1 e1 H) fun ρ1 s1 x st1 r1 sa1 v1 => ?_)
 exact not_value (truth_prim hb r1 v1 fun t=>⟨ρ1,st1,r1,⟨sa1.1,sa1.2⟩,rfl⟩)
theorem truth_bool {σ:H} {b c:Bool} (h:truth σ (.bool b)=some c):c=b:=by cases h; rfl
theorem st_not {a:Mob.E} (ha:ST D n Φ a):ST D n Φ (.not a):=by
 intro pe env mp loc σ v σ' b ρ s A Ex h1 h2 h3 H
 refine chk_not h1 fun l p c1 => ?_
 refine m1 h2 fun u σ1 e1 h2=>mpT h2 h3 fun k hk => ?_
 exact wpAny_isTrue_Not (PB.andThen (ha.u c1 e1 hk H) fun ρ1 s1 st1 r1 sa1=>⟨rfl,ρ1,st1,r1,sa1,trivial⟩)
theorem mark_no {N:Nm} {sc:Scope} {mp:List (Str × Nat)} {e:Mob.E} {pe:Expr} {op:CmpOp} (h:chkE N sc mp e pe=true):behindInMarks op pe=false:=by
 cases pe with
 | Set a k p=>exact absurd rfl ((chk_plain h).1 a k p)
 | _=>rfl
theorem se_cmp {op:Cm} {a b:Mob.E} (ha:SE D n Φ a) (hb:SE D n Φ b):SE D n Φ (.cmp op a b):=by
 intro pe env mp loc σ v σ' ρ s A Ex h1 h2 H
 refine chk_cmp h1 fun l r p c1 c2 => ?_
 refine m1 h2 fun u σ1 e1 h2=>m1 h2 fun y σ2 e2 h2 => ?_
 refine mpE h2 fun k hk => ?_
 refine wpAny_Compare1 (PE.andThen (ha.u c1 e1 H) fun ρ1 s1 x st1 r1 sa1 v1=>PE.andThen (hb.u c2 e2 (H.go st1 r1)) fun ρ2 s2 x2 st2 r2 sa2 v2 => ?_) (mark_no c2)
 exact cmpV_prim hk H.rm r2 (v1.step st2) v2 ⟨ρ2,st1.trans st2,r2,sa1.trans sa2,rfl⟩
theorem st_cmp {op:Cm} {a b:Mob.E} (ha:SE D n Φ a) (hb:SE D n Φ b):ST D n Φ (.cmp op a b):=by
 intro pe env mp loc σ v σ' bb ρ s A Ex h1 h2 h3 H
 refine chk_cmp h1 fun l r p c1 c2 => ?_
 refine m1 h2 fun u σ1 e1 h2=>m1 h2 fun y σ2 e2 h2 => ?_
 refine mpT h2 h3 fun k hk => ?_
 refine wpAny_isTrue_Compare1 (PE.andThen (ha.u c1 e1 H) fun ρ1 s1 x st1 r1 sa1 v1=>PE.andThen (hb.u c2 e2 (H.go st1 r1)) fun ρ2 s2 x2 st2 r2 sa2 v2 => ?_) (mark_no c2)
 exact cmpV_prim hk H.rm r2 (v1.step st2) v2 (wpAny_truthy_bool ⟨rfl,ρ2,st1.trans st2,r2,sa1.trans sa2,trivial⟩)
theorem cc1 {p:Pos} {l:Value} {op:CmpOp} {r:Sem Value}:compareChain p l [op] [r]=(do let rv <- holding [l] r; standAt p; operate [l,rv] (compareOp op l rv)):=rfl
theorem cc2 {p:Pos} {l:Value} {op op':CmpOp} {r r':Sem Value}:compareChain p l [op,op'] [r,r']=(do let rv <- holding [l] r; standAt p; let c <- holding [l,rv] (compareOp op l rv); release [l,rv] [c]; if <- holding [c,rv] (truthy c) then compareChain p rv [op'] [r'] else pure c):=rfl
theorem tc1 {p:Pos} {l:Value} {op:CmpOp} {r:Sem Value}:testChain p l [op] [r]=(do let rv <- holding [l] r; standAt p; let c <- operate [l,rv] (compareOp op l rv); holding [c] (truthy c)):=rfl
theorem tc2 {p:Pos} {l:Value} {op op':CmpOp} {r r':Sem Value}:testChain p l [op,op'] [r,r']=(do let rv <- holding [l] r; standAt p; let c <- holding [l,rv] (compareOp op l rv); release [l,rv] [c]; if <- holding [c,rv] (truthy c) then testChain p rv [op'] [r'] else pure false):=rfl
theorem marked2 {o o':CmpOp} {r r':Expr} {env:Env} (h:behindInMarks o' r'=false) (h':behindInMarks o r=false):markedEach [o,o'] [r,r'] (evalEach [r,r'] env)=[eval r env,eval r' env]:=by
 show markedEach [o,o'] [r,r'] [eval r env,eval r' env]=_
 unfold markedEach
 simp only [markedBehindIn_of_false h,markedEach]
theorem se_cmp2 {op op':Cm} {a b c:Mob.E} (ha:SE D n Φ a) (hb:SE D n Φ b) (hc:SE D n Φ c):SE D n Φ (.cmp2 op op' a b c):=by
 revert D n Φ op op' a b c
 exists D,n,Φ,op,op',a,b,c
 intro ha hb hc
 exists pe,env,mp,loc,σ,v,σ',ρ,s,A,Ex
 intro h1 h2 H
 refine chk_cmp2 h1 fun l r r' p c1 c2 c3 => ?_
 refine m1 h2 fun u σ1 e1 h2=>m1 h2 fun y σ2 e2 h2 => ?_
 rw [arm_eval_Compare,marked2 (mark_no c3) (mark_no c2)]
 refine wpAny_bind (PE.andThen (ha.u c1 e1 H) fun ρ1 s1 x st1 r1 sa1 v1 => ?_)
 rw [cc2]
 refine wpAny_bind (wpAny_holding (PE.andThen (hb.u c2 e2 (H.go st1 r1)) fun ρ2 s2 x2 st2 r2 sa2 v2=>wpAny_bind (wpAny_standAt (wpAny_bind (wpAny_holding ?_)))))
 refine ft h2 (fun hk h2 => ?_) fun hk h2 => ?_
 ·skip
  refine cmpV_prim hk H.rm r2 (v1.step st2) v2 (wpAny_bind (wpAny_release (wpAny_bind (wpAny_holding (wpAny_truthy_bool ?_)))))
  exact prE h2 (wpAny_pure ⟨ρ2,st1.trans st2,r2,sa1.trans sa2,rfl⟩)
 ·skip
  refine cmpV_prim hk H.rm r2 (v1.step st2) v2 (wpAny_bind (wpAny_release (wpAny_bind (wpAny_holding (wpAny_truthy_bool ?_)))))
  refine m1 h2 fun z σ3 e3 h2 => ?_
  refine mpE h2 fun k hk' => ?_
  show wpAny _ _ (compareChain p x2 [cmOf op'] [eval r' env]) _ _ _
  rw [cc1]
  refine wpAny_bind (wpAny_holding (PE.andThen (hc.u c3 e3 ((H.go st1 r1).go st2 r2)) fun ρ3 s3 x3 st3 r3 sa3 v3=>wpAny_bind (wpAny_standAt (wpAny_operateT ?_))))
  exact cmpV_prim hk' H.rm r3 (v2.step st3) v3 ⟨ρ3,(st1.trans st2).trans st3,r3,(sa1.trans sa2).trans sa3,rfl⟩
theorem st_cmp2 {op op':Cm} {a b c:Mob.E} (ha:SE D n Φ a) (hb:SE D n Φ b) (hc:SE D n Φ c):ST D n Φ (.cmp2 op op' a b c):=by
 revert D n Φ op op' a b c
 exists D,n,Φ,op,op',a,b,c
 intro ha hb hc
 exists pe,env,mp,loc,σ,v,σ',bb,ρ,s,A,Ex
 intro h1 h2 h3 H
 refine chk_cmp2 h1 fun l r r' p c1 c2 c3 => ?_
 refine m1 h2 fun u σ1 e1 h2=>m1 h2 fun y σ2 e2 h2 => ?_
 show wpAny _ _ (do testChain p (<- eval l env) _ (markedEach [cmOf op,cmOf op'] [r,r'] (evalEach [r,r'] env))) _ _ _
 rw [marked2 (mark_no c3) (mark_no c2)]
 refine wpAny_bind (PE.andThen (ha.u c1 e1 H) fun ρ1 s1 x st1 r1 sa1 v1 => ?_)
 rw [tc2]
 refine wpAny_bind (wpAny_holding (PE.andThen (hb.u c2 e2 (H.go st1 r1)) fun ρ2 s2 x2 st2 r2 sa2 v2=>wpAny_bind (wpAny_standAt (wpAny_bind (wpAny_holding ?_)))))
 refine ft h2 (fun hk h2 => ?_) fun hk h2 => ?_
 ·skip
  refine cmpV_prim hk H.rm r2 (v1.step st2) v2 (wpAny_bind (wpAny_release (wpAny_bind (wpAny_holding (wpAny_truthy_bool ?_)))))
  exact prT h2 h3 (wpAny_pure ⟨rfl,ρ2,st1.trans st2,r2,sa1.trans sa2,trivial⟩)
 ·skip
  refine cmpV_prim hk H.rm r2 (v1.step st2) v2 (wpAny_bind (wpAny_release (wpAny_bind (wpAny_holding (wpAny_truthy_bool ?_)))))
  refine m1 h2 fun z σ3 e3 h2 => ?_
  refine mpT h2 h3 fun k hk' => ?_
  show wpAny _ _ (testChain p x2 [cmOf op'] [eval r' env]) _ _ _
  rw [tc1]
  refine wpAny_bind (wpAny_holding (PE.andThen (hc.u c3 e3 ((H.go st1 r1).go st2 r2)) fun ρ3 s3 x3 st3 r3 sa3 v3=>wpAny_bind (wpAny_standAt (wpAny_bind (wpAny_operateT ?_)))))
  exact cmpV_prim hk' H.rm r3 (v2.step st3) v3 (wpAny_holding (wpAny_truthy_bool ⟨rfl,ρ3,(st1.trans st2).trans st3,r3,(sa1.trans sa2).trans sa3,trivial⟩))
theorem se_ife {t a b:Mob.E} (ht:ST D n Φ t) (ha:SE D n Φ a) (hb:SE D n Φ b):SE D n Φ (.ife t a b):=by
 intro pe env mp loc σ v σ' ρ s A Ex h1 h2 H
 refine chk_ife h1 fun t' a' b' p c1 c2 c3 => ?_
 refine m1 h2 fun u σ1 e1 h2 => ?_
 refine tf h2 (fun hk h2 => ?_) fun hk h2 => ?_
 ·skip
  refine wpAny_IfExp (PB.andThen (ht.u c1 e1 hk H) fun ρ1 s1 st1 r1 sa1 => ?_)
  rw [if_pos rfl]
  exact PE.after st1 sa1 (ha.u c2 h2 (H.go st1 r1))
 ·skip
  refine wpAny_IfExp (PB.andThen (ht.u c1 e1 hk H) fun ρ1 s1 st1 r1 sa1 => ?_)
  rw [if_neg (by decide)]
  exact PE.after st1 sa1 (hb.u c3 h2 (H.go st1 r1))
theorem st_ife {t a b:Mob.E} (ht:ST D n Φ t) (ha:ST D n Φ a) (hb:ST D n Φ b):ST D n Φ (.ife t a b):=by
 intro pe env mp loc σ v σ' bb ρ s A Ex h1 h2 h3 H
 refine chk_ife h1 fun t' a' b' p c1 c2 c3 => ?_
 show wpAny _ _ (do if <- isTrue t' env (eval t' env) then isTrue a' env (eval a' env) else isTrue b' env (eval b' env)) _ _ _
 refine m1 h2 fun u σ1 e1 h2 => ?_
 refine tf h2 (fun hk h2 => ?_) fun hk h2 => ?_
 ·skip
  refine wpAny_bind (PB.andThen (ht.u c1 e1 hk H) fun ρ1 s1 st1 r1 sa1 => ?_)
  exact PB.after st1 sa1 (ha.u c2 h2 h3 (H.go st1 r1))
 ·skip
  refine wpAny_bind (PB.andThen (ht.u c1 e1 hk H) fun ρ1 s1 st1 r1 sa1 => ?_)
  exact PB.after st1 sa1 (hb.u c3 h2 h3 (H.go st1 r1))
theorem attrBase {v:Expr} {nm:Str} {env:Env} {whole:Sem Value} (h:plainBase v=true):attributeBase v nm env whole=whole:=by
 cases v with
 | Call c as ks p =>
  cases as with
  | nil=>exact absurd h Bool.false_ne_true
  | cons a r=>first | rfl | (cases c <;> rfl)
 | _=>rfl
theorem se_attr (O:D.Ok) {e:Mob.E} {f:Nat} (ha:SE D n Φ e):SE D n Φ (.attr e f):=by
 intro pe env mp loc σ v σ' ρ s A Ex h1 h2 H
 refine chk_attr h1 fun l nm p c0 c1 c2 => ?_
 refine m1 h2 fun u σ1 e1 h2=>mpE h2 fun y hy => ?_
 rw [arm_eval_Attribute,attrBase c1]
 refine wpAny_bind (PE.andThen (ha.u c2 e1 H) fun ρ1 s1 x st1 r1 sa1 v1=>wpAny_bind (wpAny_standAt (wpAny_bind (wpAny_holding ?_))))
 refine getAttr_prim O.X O.nd O.cls (by rw [O.an]; exact c0) hy r1 v1 fun z t rz=>wpAny_bind (wpAny_letTemporaryGo (wpAny_pure ⟨ρ1,st1,r1,⟨sa1.1,sa1.2⟩,rz⟩))
theorem st_attr (O:D.Ok) {e:Mob.E} {f:Nat} (ha:SE D n Φ e):ST D n Φ (.attr e f):=st_of_se (se_attr O ha) fun h=>chk_attr h fun _ _ _ _ _ _=>rfl
theorem se_sub {a b:Mob.E} (ha:SE D n Φ a) (hb:SE D n Φ b):SE D n Φ (.sub a b):=by
 intro pe env mp loc σ v σ' ρ s A Ex h1 h2 H
 refine chk_sub h1 fun l r p c1 c2 => ?_
 refine m1 h2 fun u σ1 e1 h2=>m1 h2 fun y σ2 e2 h2 => ?_
 refine mpE h2 fun z hz => ?_
 refine Subscript_ (PE.andThen (ha.u c1 e1 H) fun ρ1 s1 x st1 r1 sa1 v1=>PE.andThen (hb.u c2 e2 (H.go st1 r1)) fun ρ2 s2 x2 st2 r2 sa2 v2 => ?_)
 exact PE.after (st1.trans st2) (sa1.trans sa2) (sub_prim (chk_plain c2).2.2 hz r2 (v1.step st2) v2)
theorem st_sub {a b:Mob.E} (ha:SE D n Φ a) (hb:SE D n Φ b):ST D n Φ (.sub a b):=st_of_se (se_sub ha hb) fun h=>chk_sub h fun _ _ _ _ _=>rfl
theorem se_slice {a b:Mob.E} (ha:SE D n Φ a) (hb:SE D n Φ b):SE D n Φ (.slice a b):=by
 intro pe env mp loc σ v σ' ρ s A Ex h1 h2 H
 refine chk_slice h1 fun l r p p' c1 c2 => ?_
 refine m1 h2 fun u σ1 e1 h2=>m1 h2 fun y σ2 e2 h2 => ?_
 refine Subscript_ (PE.andThen (ha.u c1 e1 H) fun ρ1 s1 x st1 r1 sa1 v1=>wpAny_Slice (PE.andThen (hb.u c2 e2 (H.go st1 r1)) fun ρ2 s2 x2 st2 r2 sa2 v2=>wpAny_pure (wpAny_pure ?_)))
 exact wpAny_mono (sliceV_prim h2 r2 (v1.step st2) v2 rfl) (fun _ _ q=>Go.trans (st1.trans st2) (sa1.trans sa2) q) fun _ _ x=>x
theorem st_slice {a b:Mob.E} (ha:SE D n Φ a) (hb:SE D n Φ b):ST D n Φ (.slice a b):=st_of_se (se_slice ha hb) fun h=>chk_slice h fun _ _ _ _ _ _=>rfl
theorem se_slice2 {a b c:Mob.E} (ha:SE D n Φ a) (hb:SE D n Φ b) (hc:SE D n Φ c):SE D n Φ (.slice2 a b c):=by
 intro pe env mp loc σ v σ' ρ s A Ex h1 h2 H
 refine chk_slice2 h1 fun l r r' p p' c1 c2 c3 => ?_
 refine m1 h2 fun u σ1 e1 h2=>m1 h2 fun y σ2 e2 h2 => ?_
 refine m1 h2 fun z σ3 e3 h2 => ?_
 refine Subscript_ (PE.andThen (ha.u c1 e1 H) fun ρ1 s1 x st1 r1 sa1 v1=>wpAny_Slice (PE.andThen (hb.u c2 e2 (H.go st1 r1)) fun ρ2 s2 x2 st2 r2 sa2 v2 =>
  PE.andThen (hc.u c3 e3 ((H.go st1 r1).go st2 r2)) fun ρ3 s3 x3 st3 r3 sa3 v3=>wpAny_pure ?_))
 exact wpAny_mono (sliceV_prim h2 r3 (v1.step (st2.trans st3)) (v2.step st3) v3) (fun _ _ q=>Go.trans ((st1.trans st2).trans st3) ((sa1.trans sa2).trans sa3) q) fun _ _ x=>x
theorem st_slice2 {a b c:Mob.E} (ha:SE D n Φ a) (hb:SE D n Φ b) (hc:SE D n Φ c):ST D n Φ (.slice2 a b c):=st_of_se (se_slice2 ha hb hc) fun h=>chk_slice2 h fun _ _ _ _ _ _ _ _=>rfl
end
end Mob
namespace Mob
open PySem PySem.W PyProof.Rows PySem.Calls
section
variable {D:Wd} {n:Nat} {Φ:Φt}
theorem starEach_plain {N:Nm} {sc:Scope} {mp:List (Str × Nat)} {e:Mob.E} {p:Expr} {r:List Expr} {env:Env} (h:chkE N sc mp e p=true):starEach (p::r) env=(false,eval p env)::starEach r env:=by
 cases p with
 | Starred v q=>exact absurd rfl ((chk_plain h).2.1 v q)
 | _=>rfl
theorem starEach_any {N:Nm} {sc:Scope} {mp:List (Str × Nat)} {env:Env} {pos:Pos}:∀ {es:Es} {ps:List Expr},chkEs N sc mp es ps=true->(backTo pos (starEach ps env)).any (·.1)=false
 | .nil,ps,h=>by rw [chk_nil h]; rfl
 | .cons e es,ps,h=>by
  refine chk_cons h fun p r h1 h2 => ?_
  rw [starEach_plain h1]
  have:=starEach_any (env:=env) (pos:=pos) h2
  unfold backTo at this ⊢
  simpa using this
theorem ses_nil:SEs D n Φ .nil:=by
 intro ps env mp loc σ vs σ' ρ s A Ex pos h1 h2 H
 rw [chk_nil h1]
 cases h2
 exact wpAny_items_nil (Go.here H.r .nil)
theorem ses_cons {e:Mob.E} {es:Es} (he:SE D n Φ e) (hs:SEs D n Φ es):SEs D n Φ (.cons e es):=by
 intro ps env mp loc σ vs σ' ρ s A Ex pos h1 h2 H
 refine chk_cons h1 fun p r c1 c2 => ?_
 refine m1 h2 fun u σ1 e1 h2=>m2 h2 fun us σ2 e2 h2 => ?_
 cases h2
 refine wpAny_items_cons (PE.andThen (he.u c1 e1 H) fun ρ1 s1 x st1 r1 sa1 v1 => ?_) (starEach_plain c1)
 refine wpAny_mono (hs.u c2 e2 (H.go st1 r1)) (fun xs s2 ⟨ρ2,st2,r2,sa2,v2⟩ => ?_) fun _ _ x=>x
 exact ⟨ρ2,st1.trans st2,r2,sa1.trans sa2,.cons (v1.step st2) v2⟩
set_option tactic.hygienic true in
theorem se_list {es:Es} (hs:SEs D n Φ es):SE D n Φ (.list es):=by
 intro pe env mp loc σ v σ' ρ s A Ex h1 h2 H
 refine chk_list h1 fun l p c1 => ?_
 refine m2 h2 fun us σ1 e1 h2 => ?_
 split at h2
 ·rename_i hz
  cases h2
  refine wpAny_List (wpAny_mono (hs.u c1 e1 H) (fun xs s2 ⟨ρ2,st2,r2,sa2,v2⟩=>⟨ok_len (v2.len ▸ hz),?_⟩) fun _ _ x=>x)
  exact Go.trans st2 sa2 (Go.newList (t:=s2.toks) r2 v2 hz)
 ·cases h2
set_option tactic.hygienic true in
theorem se_tup {es:Es} (hs:SEs D n Φ es):SE D n Φ (.tup es):=by
 intro pe env mp loc σ v σ' ρ s A Ex h1 h2 H
 refine chk_tup h1 fun l k p c1 => ?_
 refine m2 h2 fun us σ1 e1 h2 => ?_
 split at h2
 ·rename_i hz
  refine mpE h2 fun as ha => ?_
  refine wpAny_Tuple (wpAny_mono (hs.u c1 e1 H) (fun xs s2 ⟨ρ2,st2,r2,sa2,v2⟩=>⟨ok_len (v2.len ▸ hz),?_⟩) fun _ _ x=>x)
  have al:=toAs_of ha v2
  exact Go.trans st2 sa2 (Go.more (t:=s2.toks) r2 push_keeps ⟨_,xs,rfl,⟨_,Heap.get?_push_size _ rfl,rfl,_,rfl⟩,al,by have:=al.len; have:=v2.len; lia⟩)
 ·cases h2
theorem st_list {es:Es} (hs:SEs D n Φ es):ST D n Φ (.list es):=st_of_se (se_list hs) fun h=>chk_list h fun _ _ _=>rfl
theorem st_tup {es:Es} (hs:SEs D n Φ es):ST D n Φ (.tup es):=st_of_se (se_tup hs) fun h=>chk_tup h fun _ _ _ _=>rfl
theorem sand_nil:SAnd D n Φ .nil:=by intro ps env mp loc σ v σ' ρ s A Ex pos h1 h2 H; cases h2
theorem sor_nil:SOr D n Φ .nil:=by intro ps env mp loc σ v σ' ρ s A Ex pos h1 h2 H; cases h2
theorem tand_nil:TAnd D n Φ .nil:=by intro ps env mp loc σ v σ' b ρ s A Ex h1 h2 h3 H; cases h2
theorem tor_nil:TOr D n Φ .nil:=by intro ps env mp loc σ v σ' b ρ s A Ex h1 h2 h3 H; cases h2
theorem sand_cons {e:Mob.E} {es:Es} (he:SE D n Φ e) (hs:SAnd D n Φ es):SAnd D n Φ (.cons e es):=by
 revert D n Φ e es
 exists D,n,Φ,e,es
 intro he hs
 exists ps,env,mp,loc,σ,v,σ',ρ,s,A,Ex,pos
 intro h1 h2 H
 refine chk_cons h1 fun p r c1 c2 => ?_
 cases es with
 | nil =>
  rw [chk_nil c2]
  exact he.u c1 h2 H
 | cons e' es =>
  have cc:=c2
  revert c2
  refine chk_cons cc fun p' r' c1' c2' => ?_
  intro c2
  refine m1 h2 fun u σ1 e1 h2 => ?_
  show wpAny _ _ (do let v <- eval p env; standAt pos; let t <- holding [v] (truthy v); match BoolOp.And,t with | .And,false | .Or,true=>pure v | _,_=>boolOp pos .And (evalEach (p'::r') env)) _ _ _
  refine wpAny_bind (PE.andThen (he.u c1 e1 H) fun ρ1 s1 x st1 r1 sa1 v1=>wpAny_bind (wpAny_standAt (wpAny_bind (wpAny_holding ?_))))
  refine tf h2 (fun hk h2 => ?_) fun hk h2 => ?_
  ·skip
   refine truth_prim hk r1 v1 fun t => ?_
   exact PE.after (s':={ s1 with toks:=t }) st1 ⟨sa1.1,sa1.2⟩ (hs.u c2 h2 (H.go st1 r1))
  ·skip
   cases h2
   exact truth_prim hk r1 v1 fun t=>wpAny_pure ⟨ρ1,st1,r1,⟨sa1.1,sa1.2⟩,v1⟩
theorem sor_cons {e:Mob.E} {es:Es} (he:SE D n Φ e) (hs:SOr D n Φ es):SOr D n Φ (.cons e es):=by
 revert D n Φ e es
 exists D,n,Φ,e,es
 intro he hs
 exists ps,env,mp,loc,σ,v,σ',ρ,s,A,Ex,pos
 intro h1 h2 H
 refine chk_cons h1 fun p r c1 c2 => ?_
 cases es with
 | nil =>
  rw [chk_nil c2]
  exact he.u c1 h2 H
 | cons e' es =>
  have cc:=c2
  revert c2
  refine chk_cons cc fun p' r' c1' c2' => ?_
  intro c2
  refine m1 h2 fun u σ1 e1 h2 => ?_
  show wpAny _ _ (do let v <- eval p env; standAt pos; let t <- holding [v] (truthy v); match BoolOp.Or,t with | .And,false | .Or,true=>pure v | _,_=>boolOp pos .Or (evalEach (p'::r') env)) _ _ _
  refine wpAny_bind (PE.andThen (he.u c1 e1 H) fun ρ1 s1 x st1 r1 sa1 v1=>wpAny_bind (wpAny_standAt (wpAny_bind (wpAny_holding ?_))))
  refine ft h2 (fun hk h2 => ?_) fun hk h2 => ?_
  ·skip
   refine truth_prim hk r1 v1 fun t => ?_
   exact PE.after (s':={ s1 with toks:=t }) st1 ⟨sa1.1,sa1.2⟩ (hs.u c2 h2 (H.go st1 r1))
  ·skip
   cases h2
   exact truth_prim hk r1 v1 fun t=>wpAny_pure ⟨ρ1,st1,r1,⟨sa1.1,sa1.2⟩,v1⟩
theorem tand_cons {e:Mob.E} {es:Es} (he:ST D n Φ e) (hs:TAnd D n Φ es):TAnd D n Φ (.cons e es):=by
 revert D n Φ e es
 exists D,n,Φ,e,es
 intro he hs
 exists ps,env,mp,loc,σ,v,σ',b,ρ,s,A,Ex
 intro h1 h2 h3 H
 refine chk_cons h1 fun p r c1 c2 => ?_
 cases es with
 | nil =>
  rw [chk_nil c2]
  refine wpAny_allTrue_And_cons (PB.andThen (he.u c1 h2 h3 H) fun ρ1 s1 st1 r1 sa1 => ?_)
  cases b
  ·rw [if_neg (by decide)]; exact ⟨rfl,ρ1,st1,r1,sa1,trivial⟩
  ·rw [if_pos rfl]; exact wpAny_allTrue_And_nil ⟨rfl,ρ1,st1,r1,sa1,trivial⟩
 | cons e' es =>
  refine m1 h2 fun u σ1 e1 h2 => ?_
  refine tf h2 (fun hk h2 => ?_) fun hk h2 => ?_
  ·skip
   refine wpAny_allTrue_And_cons (PB.andThen (he.u c1 e1 hk H) fun ρ1 s1 st1 r1 sa1 => ?_)
   rw [if_pos rfl]
   exact PB.after st1 sa1 (hs.u c2 h2 h3 (H.go st1 r1))
  ·skip
   cases h2
   refine wpAny_allTrue_And_cons (PB.andThen (he.u c1 e1 hk H) fun ρ1 s1 st1 r1 sa1 => ?_)
   rw [if_neg (by decide)]
   rw [hk] at h3; cases h3
   exact ⟨rfl,ρ1,st1,r1,sa1,trivial⟩
theorem tor_cons {e:Mob.E} {es:Es} (he:ST D n Φ e) (hs:TOr D n Φ es):TOr D n Φ (.cons e es):=by
 revert D n Φ e es
 exists D,n,Φ,e,es
 intro he hs
 exists ps,env,mp,loc,σ,v,σ',b,ρ,s,A,Ex
 intro h1 h2 h3 H
 refine chk_cons h1 fun p r c1 c2 => ?_
 cases es with
 | nil =>
  rw [chk_nil c2]
  refine wpAny_allTrue_Or_cons (PB.andThen (he.u c1 h2 h3 H) fun ρ1 s1 st1 r1 sa1 => ?_)
  cases b
  ·rw [if_neg (by decide)]; exact wpAny_allTrue_Or_nil ⟨rfl,ρ1,st1,r1,sa1,trivial⟩
  ·rw [if_pos rfl]; exact ⟨rfl,ρ1,st1,r1,sa1,trivial⟩
 | cons e' es =>
  refine m1 h2 fun u σ1 e1 h2 => ?_
  refine ft h2 (fun hk h2 => ?_) fun hk h2 => ?_
  ·skip
   refine wpAny_allTrue_Or_cons (PB.andThen (he.u c1 e1 hk H) fun ρ1 s1 st1 r1 sa1 => ?_)
   rw [if_neg (by decide)]
   exact PB.after st1 sa1 (hs.u c2 h2 h3 (H.go st1 r1))
  ·skip
   cases h2
   refine wpAny_allTrue_Or_cons (PB.andThen (he.u c1 e1 hk H) fun ρ1 s1 st1 r1 sa1 => ?_)
   rw [if_pos rfl]
   rw [hk] at h3; cases h3
   exact ⟨rfl,ρ1,st1,r1,sa1,trivial⟩
theorem se_and {es:Es} (hs:SAnd D n Φ es):SE D n Φ (.and es):=by
 intro pe env mp loc σ v σ' ρ s A Ex h1 h2 H
 refine chk_and h1 fun l p c1 c2 => ?_
 rw [arm_eval_BoolOp]
 exact hs.u c1 h2 H
theorem st_and {es:Es} (hs:TAnd D n Φ es):ST D n Φ (.and es):=by
 intro pe env mp loc σ v σ' b ρ s A Ex h1 h2 h3 H
 refine chk_and h1 fun l p c1 c2 => ?_
 exact wpAny_isTrue_BoolOp (hs.u c1 h2 h3 H)
theorem se_or {es:Es} (hs:SOr D n Φ es):SE D n Φ (.or es):=by
 intro pe env mp loc σ v σ' ρ s A Ex h1 h2 H
 refine chk_or h1 fun l p c1 c2 => ?_
 rw [arm_eval_BoolOp]
 exact hs.u c1 h2 H
theorem st_or {es:Es} (hs:TOr D n Φ es):ST D n Φ (.or es):=by
 intro pe env mp loc σ v σ' b ρ s A Ex h1 h2 h3 H
 refine chk_or h1 fun l p c1 c2 => ?_
 exact wpAny_isTrue_BoolOp (hs.u c1 h2 h3 H)
theorem tests_false {M:Model} {A:Around} {Ex:Value->Shared->Prop} {s:Shared} {env:Env} {Q:Bool->Shared->Prop}:∀ (ps:List Expr),Q false s->wpAny M A (testsOf ps env false) Q Ex s
 | [],h=>wpAny_pure h
 | p::r,h=>by
  unfold testsOf
  rw [List.forIn_cons]
  exact wpAny_bind (wpAny_pure (tests_false r h))
theorem sif_nil:SIf D n Φ .nil:=by
 intro ps env mp loc σ b σ' ρ s A Ex h1 h2 H
 rw [chk_nil h1]
 cases h2
 exact wpAny_pure ⟨rfl,Go.here H.r trivial⟩
theorem sif_cons {e:Mob.E} {es:Es} (he:ST D n Φ e) (hs:SIf D n Φ es):SIf D n Φ (.cons e es):=by
 revert D n Φ e es
 exists D,n,Φ,e,es
 intro he hs
 exists ps,env,mp,loc,σ,b,σ',ρ,s,A,Ex
 intro h1 h2 H
 refine chk_cons h1 fun p r c1 c2 => ?_
 unfold testsOf
 rw [List.forIn_cons]
 refine m1 h2 fun u σ1 e1 h2 => ?_
 refine ft h2 (fun hk h2 => ?_) fun hk h2 => ?_
 ·skip
  cases h2
  refine wpAny_bind (wpAny_bind (PB.andThen (he.u c1 e1 hk H) fun ρ1 s1 st1 r1 sa1=>wpAny_pure ?_))
  exact tests_false r ⟨rfl,ρ1,st1,r1,sa1,trivial⟩
 ·skip
  refine wpAny_bind (wpAny_bind (PB.andThen (he.u c1 e1 hk H) fun ρ1 s1 st1 r1 sa1=>wpAny_pure ?_))
  exact PB.after st1 sa1 (hs.u c2 h2 (H.go st1 r1))
theorem args_go {es:Es} (hs:SEs D n Φ es) {ps:List Expr} {env:Env} {mp:List (Str × Nat)} {loc:List V} {σ:H} {vs:List V} {σ':H} {ρ:Rho} {s:Shared} {A:Around} {Ex:Value->Shared->Prop} {pos:Pos} {f:Value} {Q:Args->Shared->Prop}
  (c:chkEs D.N env.scope mp es ps=true) (e:evEs Φ D.G es loc σ=some (vs,σ')) (Hh:Here D A n env mp ρ σ s.heap loc)
  (k:∀ xs s',Go D.g NoW ρ σ s σ' (fun ρ' s'=>All2 (VR ρ' s'.heap) vs xs) s'->Q ⟨xs,[]⟩ s'):wpAny D.M A (evalArgs f true (backTo pos (starEach ps env)) []) Q Ex s:=by
 cases es with
 | nil =>
  rw [chk_nil c]
  cases e
  exact evalArgs_nil3 (k _ _ (Go.here Hh.r .nil))
 | cons e' es =>
  have cc:=c
  revert c
  refine chk_cons cc fun p r c1 c2 => ?_
  intro c
  have:=hs.u (pos:=pos) (A:=A) (Ex:=Ex) (s:=s) c e Hh
  rw [starEach_plain c1] at this ⊢
  exact evalArgs_plain (wpAny_mono this (fun xs s' q=>k xs s' q) fun _ _ x=>x)
theorem se_call (O:D.Ok) (hΦ:SndΦ D n Φ) {f:Nat} {es:Es} (hs:SEs D n Φ es):SE D n Φ (.call f es):=by
 intro pe env mp loc σ v σ' ρ s A Ex h1 h2 H
 refine chk_call h1 fun x px args p c0 c1 c2 => ?_
 refine m2 h2 fun us σ1 e1 h2 => ?_
 refine an2 (O.fn x f c0) fun hm zq => ?_
 refine ea2_2 zq fun o fd ho hd => ?_
 clear zq
 obtain ⟨k1,k2⟩:=isGlob_is c1
 rw [arm_eval_Call_Name']
 refine wpAny_bind (Name_function_global H.ok.kind k1 (loadGlobal_global (by rw [H.ok.glob]; exact O.ns.keeps H.r.keep) hm ?_) k2)
 refine callWith_function_kw (o:=o) (fd:=fd) (args_go hs c2 e1 H fun xs s1 ⟨ρ1,st1,r1,sa1,v1⟩=>⟨⟨r1.keep _ _ ho,hd⟩,?_⟩)
 refine wpAny_call (codeAny_mono (hΦ f us σ1 v σ' A ρ1 s1 xs h2 H.rm.call r1 v1) fun r s2 z => ?_)
 rcases r with e | (v | _ | _ | _)
 all_goals first | exact Go.trans st1 sa1 z | exact z.elim
theorem st_call (O:D.Ok) (hΦ:SndΦ D n Φ) {f:Nat} {es:Es} (hs:SEs D n Φ es):ST D n Φ (.call f es):=st_of_se (se_call O hΦ hs) fun h=>chk_call h fun _ _ _ _ _ _ _=>rfl
theorem callWith_bi {b:Bi} {es:Es} (hs:SEs D n Φ es) {ps:List Expr} {env:Env} {mp:List (Str × Nat)} {loc:List V} {σ:H} {vs:List V} {σ':H} {ρ:Rho} {s:Shared} {A:Around} {Ex:Value->Shared->Prop} {pos:Pos} {Q:Value->Shared->Prop}
  (c:chkEs D.N env.scope mp es ps=true) (e:evEs Φ D.G es loc σ=some (vs,σ')) (Hh:Here D A n env mp ρ σ s.heap loc)
  (k:∀ xs s',Go D.g NoW ρ σ s σ' (fun ρ' s'=>All2 (VR ρ' s'.heap) vs xs) s'->wpAny D.M A (call (biVal b) xs) Q Ex s'):wpAny D.M A (callWith pos (biVal b) [] (backTo pos (starEach ps env)) []) Q Ex s:=by
 refine callWith_of (P:=fun _=>True) (by rw [starEach_any c]; rfl) (fun h _=>⟨.machine,.inr (.inl rfl),Looks.of_pure (by cases b <;> kernel_rfl)⟩) (args_go hs c e Hh fun xs s' q=>⟨trivial,?_⟩)
 exact k xs s' q
theorem se_bi (O:D.Ok) {b:Bi} {es:Es} (hs:SEs D n Φ es):SE D n Φ (.bi b es):=by
 intro pe env mp loc σ v σ' ρ s A Ex h1 h2 H
 refine chk_bi h1 fun px args p c1 c2 => ?_
 refine m2 h2 fun us σ1 e1 h2 => ?_
 obtain ⟨hm,hb⟩:=O.bi b
 obtain ⟨k1,k2⟩:=isGlob_is c1
 rw [arm_eval_Call_Name']
 refine wpAny_bind (Name_function_global H.ok.kind k1 (loadGlobal_builtin (by rw [H.ok.glob]; exact O.ns.keeps H.r.keep) hm (by rw [H.ok.blt]; exact O.nb.keeps H.r.keep) hb ?_) k2)
 exact callWith_bi hs c2 e1 H fun xs s1 ⟨ρ1,st1,r1,sa1,v1⟩=>PE.after st1 sa1 (biV_prim h2 H.rm r1 v1)
theorem st_bi (O:D.Ok) {b:Bi} {es:Es} (hs:SEs D n Φ es):ST D n Φ (.bi b es):=st_of_se (se_bi O hs) fun h=>chk_bi h fun _ _ _ _ _=>rfl
end
end Mob
namespace Mob
open PySem PySem.W PyProof.Rows PySem.Calls
section
variable {D:Wd} {n:Nat} {Φ:Φt}
set_option tactic.hygienic true in
theorem se_new (O:D.Ok) (hΦ:SndΦ D n Φ) {c:Nat} {es:Es} (hs:SEs D n Φ es):SE D n Φ (.new c es):=by
 revert D n Φ c es
 exists D,n,Φ
 intro O hΦ
 exists c,es
 intro hs
 exists pe,env,mp,loc,σ,v,σ',ρ,s,A,Ex
 intro h1 h2 H
 refine chk_new h1 fun x px args p c0 c1 c2 => ?_
 refine m2 h2 fun us σ1 e1 h2 => ?_
 split at h2
 ·rename_i σ2 e2
  cases h2
  refine an4 (O.cl x c c0) fun hm cp c5 hk => ?_
  obtain ⟨k1,k2⟩:=isGlob_is c1
  rw [arm_eval_Call_Name']
  refine wpAny_bind (Name_function_global H.ok.kind k1 (loadGlobal_global (by rw [H.ok.glob]; exact O.ns.keeps H.r.keep) hm ?_) k2)
  refine callWith_of (P:=D.K.In) (by rw [starEach_any c2]; rfl) (keeps_K hk) (args_go hs c2 e1 H fun xs s1 ⟨ρ1,st1,r1,sa1,v1⟩=>⟨O.X.keeps r1.keep,?_⟩)
  obtain ⟨hh,gg,dd,t,os⟩:=s1
  have C:=O.cls c c5 cp
  have X1:=O.X.keeps r1.keep
  refine wpAny_call (make_core (makes_of X1 C.makes) (looks_findIn X1 C.init) (fun self=>bind_fn X1 self C.fn) (.inl rfl) ?_)
  rw [List.nil_append]
  have kk:∀ b x,hh.get? b=some x->((hh.push emptyDict).push (instObj (D.g.ca c) hh.objs.size)).get? b=some x:=fun b x e=>Heap.get?_push_of_some _ (Heap.get?_push_of_some _ e)
  have hx1:((hh.push emptyDict).push (instObj (D.g.ca c) hh.objs.size)).get? (hh.objs.size+1)=some (instObj (D.g.ca c) hh.objs.size):=by heap_get
  have hx2:((hh.push emptyDict).push (instObj (D.g.ca c) hh.objs.size)).get? hh.objs.size=some emptyDict:=by heap_get
  have al:=r1.alloc (W:=NoW) (e:=(hh.objs.size+1,hh.objs.size)) (o := .inst c []) (h':=(hh.push emptyDict).push (instObj (D.g.ca c) hh.objs.size)) kk
   (Heap.get?_none_of_le (Nat.le_succ _)) get_size rfl ⟨[],_,hx1,hx2,.nil,Nat.zero_le _,cp,c5⟩
  have at1:(ρ1++[(hh.objs.size+1,hh.objs.size)])[σ1.length]? = some (hh.objs.size+1,hh.objs.size):=by rw [<- r1.len]; simp
  refine codeAny_mono (hΦ (1000+c) (.ref σ1.length::us) (σ1++[.inst c []]) .none σ' _ _ _ (.ref (hh.objs.size+1)::xs) e2
   ⟨H.rm.handled,by have:=H.rm.depth; show A.depth+1+2*n+1<=900; lia,by have:=H.rm.units; show A.units+1+16*n+192<=9900; lia⟩ al.1
   (.cons ⟨_,at1,rfl⟩ (v1.mono fun _ _ q=>q.step al.2))) fun r s2 z => ?_
  rcases r with e | (_ | _ | _ | _)
  all_goals first
   | (obtain ⟨ρ2,st2,r2,sa2,v2⟩:=z
      cases v2
      exact ⟨rfl,ρ2,(st1.trans al.2).trans st2,r2,⟨sa2.1.trans sa1.1,sa2.2.trans sa1.2⟩,_,pre_get st2.pre at1,rfl⟩)
   | exact z.elim
 ·cases h2
theorem st_new (O:D.Ok) (hΦ:SndΦ D n Φ) {c:Nat} {es:Es} (hs:SEs D n Φ es):ST D n Φ (.new c es):=st_of_se (se_new O hΦ hs) fun h=>chk_new h fun _ _ _ _ _ _ _=>rfl
set_option tactic.hygienic true in
theorem isLst_at {σ:H} {v:V} {ρ:Rho} {h:Heap} {a:Value} (e:isLst σ v=true) (r:Rel D.g ρ σ h) (ra:VR ρ h v a):∃ l vs k,a = .ref l/\IsL h l (List.toArray vs) k:=by
 revert D σ v ρ h a
 exists D,σ,v,ρ,h,a
 intro e r ra
 unfold isLst at e
 split at e
 ·split at e
  ·rename_i q1
   refine VR.listE r ra q1 fun l vs h1 h2 h3 h4 h5 => ?_
   obtain ⟨k,hk⟩:=h5 rfl
   exact ix3 l vs k ⟨rfl,hk⟩
  ·cases e
 ·cases e
theorem getMethod_me {A:Around} {Ex:Value->Shared->Prop} {s:Shared} {m:Me} {l:Addr} {vs:List Value} {k:Nat} {pl:Sem Bool} {Q:Value × List Value->Shared->Prop} (hl:IsL s.heap l vs.toArray k) (h:Q (.builtin (meName m),[.ref l]) s) :
  wpAny D.M A (getMethod (.ref l) (meAttr m) pl) Q Ex s:=by
 have t:s.heap.IsList l vs.toArray:=⟨_,hl,rfl,_,rfl⟩
 have d:s.heap.NoDictAt (.ref l):=⟨_,hl,rfl⟩
 cases m
 ·exact getMethod_list_of PySem.F.slot_list_append (by show builtinType _=_; rw [builtinType_eq_fast]; kernel_rfl) t d h
 ·exact getMethod_list_of PySem.F.slot_list_index (by show builtinType _=_; rw [builtinType_eq_fast]; kernel_rfl) t d h
 ·exact getMethod_list_of PySem.F.slot_list_count (by show builtinType _=_; rw [builtinType_eq_fast]; kernel_rfl) t d h
theorem callWith_me {m:Me} {l:Value} {M:Model} {A:Around} {Ex:Value->Shared->Prop} {s:Shared} {pos:Pos} {args:List (Bool × Sem Value)} {Q:Value->Shared->Prop} (hp:args.any (·.1)=false)
  (h:wpAny M A (evalArgs (.builtin (meName m)) true args []) (fun a s₁=>wpAny M A (call (.builtin (meName m)) ([l]++a.pos) a.kw) Q Ex s₁) Ex s):wpAny M A (callWith pos (.builtin (meName m)) [l] args []) Q Ex s :=
 callWith_of (P:=fun _=>True) (by rw [hp]; rfl) (fun h _=>⟨.machine,.inr (.inl rfl),Looks.of_pure (by cases m <;> kernel_rfl)⟩) (wpAny_mono h (fun _ _ q=>⟨trivial,q⟩) fun _ _ x=>x)
set_option tactic.hygienic true in
theorem se_meth {m:Me} {o x:Mob.E} (ho:SE D n Φ o) (hx:SE D n Φ x):SE D n Φ (.meth m o x):=by
 revert D n Φ m o x
 exists D,n,Φ,m,o,x
 intro ho hx
 exists pe,env,mp,loc,σ,v,σ',ρ,s,A,Ex
 intro h1 h2 H
 refine chk_meth h1 fun l ap a p c0 c1 c2 c3 => ?_
 refine m1 h2 fun u σ1 e1 h2 => ?_
 split at h2
 rotate_left
 ·cases h2
 rename_i hl
 refine m1 h2 fun y σ2 e2 h2 => ?_
 rw [arm_eval_Call,attrBase c1,starEach_plain c3]
 refine wpAny_bind (PE.andThen (ho.u c2 e1 H) fun ρ1 s1 z st1 r1 sa1 v1=>wpAny_bind (wpAny_standAt ?_))
 refine ea3_2 (isLst_at hl r1 v1) fun l' vs k zq => ?_
 subst zq
 intro hk
 show wpAny _ _ (do
  let (f,first) <- holding [.ref l'] (getMethod (.ref l') (meAttr m) (do return (<- importBound l env).getD true))
  let callPos <- methodCallPos true l env ap p
  callWith callPos f first (backTo p [(false,eval a env)]) []) _ _ _
 refine wpAny_bind (wpAny_holding (getMethod_me (m:=m) (vs:=vs) (k:=k) hk ?_))
 have hp:methodCallPos true l env ap p=pure p:=by unfold methodCallPos; rw [c0]; rfl
 rw [hp]
 refine wpAny_bind (wpAny_pure (callWith_me (m:=m) rfl ?_))
 have e0:[(false,eval a env)]=starEach [a] env:=(starEach_plain (r:=[]) c3).symm
 rw [e0]
 refine args_go (es := .cons x .nil) (ps:=[a]) (ses_cons hx ses_nil) (loc:=loc) (σ:=σ1) (vs:=[y]) (σ':=σ2) ?_ ?_ (H.go st1 r1) ?_
 ·exact chk_one c3
 ·unfold evEs; rw [e2]; rfl
 ·intro xs s2 zq
  refine ea1_4 zq fun ρ2 st2 r2 sa2 v2 => ?_
  clear zq
  refine all2_1 v2 fun y' ry => ?_
  exact PE.after (st1.trans st2) (sa1.trans sa2) (methV_prim h2 r2 (v1.step st2) ry)
theorem st_meth {m:Me} {o x:Mob.E} (ho:SE D n Φ o) (hx:SE D n Φ x):ST D n Φ (.meth m o x):=st_of_se (se_meth ho hx) fun h=>chk_meth h fun _ _ _ _ _ _ _ _=>rfl
end
end Mob
namespace Mob
open PySem PySem.W PyProof.Rows PySem.Calls
section
variable {g:Gr} {ρ ρ':Rho} {σ σ':H} {h h' h'':Heap} {W:Addr->Prop}
theorem Rel.extBut (r:Rel g ρ σ h) {p:Addr} (np:¬ Own ρ σ p) (pb:g.base.get? p=none) (nT:∀ x,h.get? p=some x->¬ IsT x) (k:Heap.ExtBut p h h'):Rel g ρ σ h':=by
 have hT:∀ b x,h.get? b=some x->IsT x->h'.get? b=some x:=fun b x q t=>k b x (fun z=>nT x (z ▸ q) t) q
 refine ⟨?_,r.len,?_,r.fz,r.new,r.apart,r.pre0⟩
 ·exact fun b x q=>k b x (fun z=>by rw [z,pb] at q; cases q) (r.keep b x q)
 ·intro b x d q1 q2
  have ap:d.1≠p/\d.2≠p:=by
   cases hx:x.live with
   | false =>
    obtain ⟨y,u⟩:=r.fz b x d q1 hx q2
    have v:=r.objs b x d q1 q2
    have z:d.1≠p:=fun z=>by rw [z,pb] at u; cases u
    cases x with
    | inst=>cases hx
    | list fz xs =>
     obtain ⟨_,_,_,w,_⟩:=v
     exact ⟨z,w ▸ z⟩
   | true=>exact ⟨fun z=>np ⟨b,x,d,q1,hx,q2,.inl z.symm⟩,fun z=>np ⟨b,x,d,q1,hx,q2,.inr z.symm⟩⟩
  exact (r.objs b x d q1 q2).go ⟨[],by simp⟩ hT (fun y z=>k _ _ ap.1 z) (fun y z=>k _ _ ap.2 z)
theorem Step.extBut (st:Step ρ σ h W ρ' σ' h') {p:Addr} (hp:h.get? p=none) (k:Heap.ExtBut p h' h''):Step ρ σ h W ρ' σ' h'' where
 pre:=st.pre
 fra:=fun b o e n nw=>k b o (fun z=>by rw [z,hp] at e; cases e) (st.fra b o e n nw)
 tup:=fun b o e t=>k b o (fun z=>by rw [z,hp] at e; cases e) (st.tup b o e t)
 own:=st.own
 stays:=fun b o e=>let ⟨o',e'⟩:=st.stays b o e; ⟨o',k b o' (fun z=>by rw [z,hp] at e; cases e) e'⟩
theorem Loc.keep {env:Env} {mp:List (Str × Nat)} {loc:List V} (l:Loc g env mp ρ σ h loc) (k:∀ b o,Priv env b->h.get? b=some o->h'.get? b=some o)
  (t:∀ b o,h.get? b=some o->IsT o->h'.get? b=some o):Loc g env mp ρ σ h' loc:=by
 revert g ρ σ h h' env mp loc
 exists g,ρ,σ,h,h',env,mp,loc
 intro l k t
 refine ⟨?_,?_,?_,l.own,l.base,l.len,l.rest⟩
 ·obtain ⟨m,⟨o,es,ep,ho,r⟩,hm⟩:=l.ns
  refine ⟨m,⟨o,es,ep,k _ _ (.inl rfl) ho,r⟩,fun x i v h1 h2 h3 h4 => ?_⟩
  obtain ⟨y,h5,h6⟩:=hm x i v h1 h2 h3 h4
  exact ⟨y,h5,h6.go ⟨[],by simp⟩ t⟩
 ·intro x i v h1 h2 h3
  refine ea2_3 (l.cells x i v h1 h2 h3) fun c cv h4 zq => ?_
  refine ea1_2 zq fun o ho hd => ?_
  clear zq
  intro h5
  exact ⟨c,cv,h4,⟨o,k _ _ (.inr ⟨x,h4⟩) ho,hd⟩,fun q=>let ⟨y,h6,h7⟩:=h5 q; ⟨y,h6,h7.go ⟨[],by simp⟩ t⟩⟩
 ·intro x c h1
  obtain ⟨cv,o,ho,hd⟩:=l.isCell x c h1
  exact ix2 cv o ⟨k _ _ (.inr ⟨x,h1⟩) ho,hd⟩
theorem ExtBut.tup {p:Addr} (k:Heap.ExtBut p h h') (nT:∀ x,h.get? p=some x->¬ IsT x):∀ b o,h.get? b=some o->IsT o->h'.get? b=some o:=fun b o e t=>k b o (fun z=>nT o (z ▸ e) t) e
theorem Loc.extBut {env:Env} {mp:List (Str × Nat)} {loc:List V} (l:Loc g env mp ρ σ h loc) {p:Addr} (np:¬ Priv env p) (nT:∀ x,h.get? p=some x->¬ IsT x) (k:Heap.ExtBut p h h'):Loc g env mp ρ σ h' loc :=
 l.keep (fun b o pr e=>k b o (fun z=>np (z ▸ pr)) e) (ExtBut.tup k nT)
theorem Loc.forget {env:Env} {mp:List (Str × Nat)} {loc loc':List V} (l:Loc g env mp ρ σ h loc') (hl:loc'.length=loc.length) (f:∀ (i:Nat) v,loc[i]? = some v->v = .undef\/loc'[i]? = some v):Loc g env mp ρ σ h loc:=by
 refine ⟨?_,?_,l.isCell,l.own,l.base,fun x i a b=>hl ▸ l.len x i a b,fun i v e n=>(f i v e).elim id fun e'=>l.rest i v e' n⟩
 ·obtain ⟨m,hn,hm⟩:=l.ns
  exact ⟨m,hn,fun x i v h1 h2 h3 h4=>hm x i v h1 h2 ((f i v h3).resolve_left h4) h4⟩
 ·intro x i v h1 h2 h3
  rcases f i v h3 with rfl | h3'
  ·have lt:i<loc'.length:=hl ▸ (List.getElem?_eq_some_iff.mp h3).1
   refine ea2_3 (l.cells x i _ h1 h2 (List.getElem?_eq_getElem lt)) fun c cv h4 h5 h6 => ?_
   exact ix2 c cv ⟨h4,h5,fun q=>absurd rfl q⟩
  ·exact l.cells x i v h1 h2 h3'
end
set_option tactic.hygienic true in
theorem still_of {σ:H} {v:V} {xs:List V} (e:items σ v=some xs):still v xs σ=true:=by
 revert σ v xs
 exists σ,v,xs
 intro e
 unfold items at e
 split at e
 ·rfl
 ·rfl
 ·split at e
  ·rename_i q
   cases e
   unfold still
   simp [q]
  ·cases e
 ·cases e
section
variable {D:Wd} {A:Around} {n:Nat} {ρ ρ':Rho} {σ σ':H} {s s':Shared} {Ex:Value->Shared->Prop}
set_option tactic.hygienic true in
theorem iter_slot {v:V} {xs:List V} {y:Value} (e:items σ v=some xs) (r:Rel D.g ρ σ s.heap) (ry:VR ρ s.heap v y):∃ T id,s.TypeIs y T/\typeLookup (.type T) "__iter__" = pure (some (.builtin id)):=by
 revert D ρ σ s v xs y
 exists D,ρ,σ,s,v,xs,y
 intro e r ry
 unfold items at e
 split at e
 ·refine ea4_2 ry fun x t u z zq => ?_
  try clear ry
  subst zq
  intro hr
  exact ix2 _ _ ⟨⟨_,hr,rfl⟩,F.slot_range_iter.lookup⟩
 ·refine ea2_4 ry fun x vs zq => ?_
  try clear ry
  subst zq
  intro h1 h2 _
  exact ix2 _ _ ⟨h1.typeIs,slot_tuple_iter.lookup⟩
 ·split at e
  ·rename_i q1
   obtain ⟨l,vs,rfl,h1,h2,_⟩:=ry.list r q1
   exact ix2 _ _ ⟨h2.typeIs,slot_list_iter.lookup⟩
  ·cases e
 ·cases e
structure Drawn (D:Wd) (ρ:Rho) (σ:H) (s:Shared) (v:V) (xs:List V) (i:Addr) (k:Nat) (s':Shared):Prop where
 same:∃ h' t,s'={ s with heap:=h',toks:=t }
 keeps:∀ b o,s.heap.get? b=some o->s'.heap.get? b=some o
 it:It ρ v xs i k s'.heap
theorem draw_prim {v:V} {xs:List V} {i:Addr} (r:Rel D.g ρ σ s.heap) (st:still v xs σ=true) (fresh:s.heap.get? i=none):∀ (m k:Nat) (s':Shared) (Q:List Value->Shared->Prop),k+m<=xs.length->Drawn D ρ σ s v xs i k s' ->
  (∀ ys s'',Drawn D ρ σ s v xs i (k+m) s''->(∀ b o,s'.heap.get? b=some o->IsT o->s''.heap.get? b=some o)->All2 (VR ρ s''.heap) ((xs.drop k).take m) ys->Q ys s'')->wpAny D.M A (draw (.ref i) m) Q Ex s'
 | 0,k,s',Q,hk,d,q=>wpAny_pure (q [] s' d (fun _ _ e _=>e) (by simpa using .nil))
 | m+1,k,s',Q,hk,d,q=>by
  have hx:xs[k]? = some xs[k]:=List.getElem?_eq_getElem (by exact Z.ltR (Nat.lt_succ_of_le (Nat.le_add_right _ _)) hk)
  show wpAny _ _ (pyNext (.ref i) >>= _) Q Ex s'
  refine wpAny_bind (next_prim d.it st hx (r.ext d.keeps) fun y h' tk ry sb it' => ?_)
  have nT:=fun x (e:s'.heap.get? i=some x)=>d.it.notT e
  obtain ⟨h0,t0,rfl⟩:=d.same
  have kk:∀ b o,s.heap.get? b=some o->h'.get? b=some o:=fun b o e=>(sb.2 b fun z=>by rw [z,fresh] at e; cases e).trans (d.keeps b o e)
  have d':Drawn D ρ σ s v xs i (k+1) { s with heap:=h',toks:=tk }:=⟨⟨_,_,rfl⟩,kk,it'⟩
  have t1:∀ b o,h0.get? b=some o->IsT o->h'.get? b=some o:=ExtBut.tup sb.extBut nT
  refine wpAny_bind (wpAny_holding (draw_prim r st fresh m (k+1) _ _ (by exact Nat.le_trans (Nat.le_of_eq Z.i1c) hk) d' fun ys s'' d'' t2 al=>wpAny_pure (q _ s'' (by rw [show k+(m+1)=k+1+m by exact Eq.symm Z.i1c]; exact d'') (fun b o e t=>t2 b o (t1 b o e t) t) ?_)))
  have hd:xs.drop k=xs[k]::xs.drop (k+1):=by simp
  rw [hd,List.take_succ_cons]
  exact .cons (ry.go ⟨[],by simp⟩ fun b o e t=>t2 b o (t1 b o e t) t) al
theorem unpack_prim {v:V} {xs:List V} {y:Value} {k:Nat} (hh:A.handled=none) (e:items σ v=some xs) (hk:xs.length=k) (r:Rel D.g ρ σ s.heap) (ry:VR ρ s.heap v y) {Q:List Value->Shared->Prop}
  (q:∀ ys h' t,(∀ b o,s.heap.get? b=some o->h'.get? b=some o)->All2 (VR ρ h') xs ys->Q ys { s with heap:=h',toks:=t }):wpAny D.M A (unpackItems y k none) Q Ex s:=by
 revert D A ρ σ s Ex v xs y k Q
 exists D,A,ρ,σ,s,Ex,v,xs,y,k
 intro hh e hk r ry
 exists Q
 intro q
 refine ea2_2 (iter_slot e r ry) fun T id hT hl => ?_
 unfold unpackItems
 have st:=still_of e
 refine wpAny_bind ?_
 unfold notIterableAtAll
 refine wpAny_bind (wpAny_specialOf hT hl (wpAny_pure ?_))
 simp only [Bool.false_eq_true,if_false]
 refine wpAny_bind (wpAny_holding (iter_prim e r ry fun i h' fr kp it => ?_))
 refine wpAny_bind (wpAny_holding (draw_prim r st fr k 0 _ _ (by lia) ⟨⟨_,_,rfl⟩,kp,it⟩ fun ys s2 d t2 al => ?_))
 rw [Nat.zero_add] at d
 rw [List.drop_zero,List.take_of_length_le (by exact Nat.le_of_eq hk)] at al
 rw [if_neg (by rw [<- al.len]; exact Nat.not_lt_of_le (Nat.le_of_eq (Eq.symm hk)))]
 refine wpAny_bind (wpAny_holding (end_prim hh d.it st (by exact Nat.le_of_eq hk) (r.ext d.keeps) fun h3 eb => ?_))
 simp only [Option.isSome_none,Bool.false_eq_true,if_false]
 have nT:=fun x (e:s2.heap.get? i=some x)=>d.it.notT e
 refine ex2 d.same fun h0 t0 zq => ?_
 subst zq
 refine wpAny_pure (q ys h3 t0 (fun b o e=>eb b o (fun z=>by rw [z,fr] at e; cases e) (d.keeps b o e)) (al.mono fun _ _ z=>z.go ⟨[],by simp⟩ (ExtBut.tup eb nT)))
theorem nameList_each {env:Env}:∀ {es:List Expr} {ns:List Str},Mob.nameList es=some ns->(assignEach es env).map (·.2)=es.map (fun e=>assign e env)/\(assignEach es env).length=ns.length/\(assignEach es env).findIdx? (·.1)=none/\es.length=ns.length
 | [],ns,h=>by cases h; exact ⟨rfl,rfl,rfl,rfl⟩
 | e::es,ns,h=>by
  refine ea1_2 (Option.bind_eq_some_iff.mp h) fun x hx h => ?_
  refine ea1_2 (Option.map_eq_some_iff.mp h) fun ns' h' zq => ?_
  subst zq
  refine an4 (nameList_each (env:=env) h') fun k1 k2 k3 k5 => ?_
  refine asName_t hx fun p => ?_
  refine ⟨?_,?_,?_,?_⟩
  ·show assign (.Name x p) env::(assignEach es env).map (·.2)=_
   rw [k1]; rfl
  ·show (assignEach es env).length+1=ns'.length+1
   rw [k2]
  ·show List.findIdx? _ ((false,assign (.Name x p) env)::assignEach es env)=none
   rw [List.findIdx?_cons,k3]; rfl
  ·simp [k5]
structure Wr (env:Env) (a:List (Str × Nat)) (W:Addr->Prop):Prop where
 cell:∀ q∈a,∀ c,env.kindOf q.1=some .cell->env.cells.lookup q.1=some c->W c
 loc:∀ q∈a,env.kindOf q.1=some .local->W env.locals
theorem bindT_len:∀ {is:List Nat} {vs loc:List V},(bindAll is vs loc).length=loc.length
 | [],vs,loc=>by cases vs <;> rfl
 | i::is,[],loc=>rfl
 | i::is,v::vs,loc=>by
  show (bindAll is vs (loc.set i v)).length=_
  rw [bindT_len,List.length_set]
set_option tactic.hygienic true in
theorem storeAll {env:Env} {mp:List (Str × Nat)} {W:Addr->Prop}:∀ (es:List Expr) (ns:List Str) (is:List Nat) (vs:List V) (ys:List Value) (loc:List V) (s:Shared),Mob.nameList es=some ns->ns.length=is.length->vs.length=is.length ->
  All2 (VR ρ s.heap) vs ys->Here D A n env mp ρ σ s.heap loc->(∀ q∈ns.zip is,mp.lookup q.1=some q.2/\isTgt env.scope q.1=true)->Wr env (ns.zip is) W->∀ {Q:Unit->Shared->Prop},
  (∀ s',Step ρ σ s.heap W ρ σ s'.heap->Same s s'->Here D A n env mp ρ σ s'.heap (bindAll is vs loc)->(∀ b o,¬ Priv env b->s.heap.get? b=some o->s'.heap.get? b=some o)->(∀ b,s'.heap.get? b=none->s.heap.get? b=none)->Q () s') ->
  wpAny D.M A (assignInOrder (es.map fun e=>assign e env) ys) Q Ex s
 | [],ns,is,vs,ys,loc,s,hn,hl,hv,al,H,hm,hw,Q,q=>by
  cases hn
  cases is with
  | cons _ _=>simp at hl
  | nil =>
   cases al with
   | cons _ _=>simp at hv
   | nil=>exact wpAny_pure (q s .refl .refl H (fun _ _ _ e=>e) fun _ e=>e)
 | e::es,ns,is,vs,ys,loc,s,hn,hl,hv,al,H,hm,hw,Q,q=>by
  refine ea1_2 (Option.bind_eq_some_iff.mp hn) fun x hx hn => ?_
  refine ea1_2 (Option.map_eq_some_iff.mp hn) fun ns' hn' zq => ?_
  subst zq
  refine asName_t hx fun p => ?_
  cases is with
  | nil=>simp at hl
  | cons i is =>
   cases al with
   | nil=>simp at hv
   | cons r1 al =>
    rename_i v y vs ys
    obtain ⟨m1,m2⟩:=hm (x,i) List.mem_cons_self
    show wpAny _ _ (do holding ys (assign (.Name x p) env y); assignInOrder (es.map fun e=>assign e env) ys) _ _ _
    refine wpAny_bind (wpAny_holding (PySem.wpAny_assign_Name (storeName_prim (W:=W) H.ok H.l H.nd m1 m2 H.r r1 (hw.cell (x,i) List.mem_cons_self) (hw.loc (x,i) List.mem_cons_self) fun s1 st1 r1' sa1 l1 z1 k1 => ?_)))
    refine storeAll es ns' is vs ys (loc.set i v) s1 hn' (by simpa using hl) (by simpa using hv) (al.mono fun _ _ z=>z.step st1) ⟨H.ok,H.rm,H.nd,r1',l1⟩ (fun q hq=>hm q (List.mem_cons_of_mem _ hq))
     ⟨fun q hq=>hw.cell q (List.mem_cons_of_mem _ hq),fun q hq=>hw.loc q (List.mem_cons_of_mem _ hq)⟩ fun s2 st2 sa2 H2 k2 z2=>q s2 (st1.trans st2) (sa1.trans sa2) H2 (fun b o np e=>k2 b o np (k1 b o np e)) fun b e=>z1 b (z2 b e)
set_option tactic.hygienic true in
theorem assign_prim {env:Env} {mp:List (Str × Nat)} {W:Addr->Prop} {ts:List Nat} {t:Expr} {a:List (Str × Nat)} {v:V} {y:Value} {loc loc':List V} (ht:tgt ts t=some a) (H:Here D A n env mp ρ σ s.heap loc)
  (hm:∀ q∈a,mp.lookup q.1=some q.2/\isTgt env.scope q.1=true) (hw:Wr env a W) (e:bindT ts v σ loc=some loc') (ry:VR ρ s.heap v y) {Q:Unit->Shared->Prop}
  (q:∀ s',Step ρ σ s.heap W ρ σ s'.heap->Same s s'->Here D A n env mp ρ σ s'.heap loc'->(∀ b o,¬ Priv env b->s.heap.get? b=some o->s'.heap.get? b=some o)->Q () s'):wpAny D.M A (assign t env y) Q Ex s:=by
 revert D A n ρ σ s Ex env mp W ts t a v y loc loc' Q
 exists D,A,n,ρ,σ,s,Ex,env,mp,W,ts,t,a,v,y,loc,loc'
 intro ht H hm hw e ry
 exists Q
 intro q
 have two:∀ {es:List Expr} {k:Nat} {p:Pos},t = .Tuple es k p->2<=ts.length->Q () s\/True->(∃ ns,Mob.nameList es=some ns/\ns.length=ts.length/\a=ns.zip ts) ->
   (∃ vs,items σ v=some vs/\vs.length=ts.length/\loc'=bindAll ts vs loc)->wpAny D.M A (assign t env y) Q Ex s:=by
  intro es k p zq
  subst zq
  intro hz _ zq2
  refine ea1_3 zq2 fun ns n1 n2 zq3 => ?_
  clear zq2
  subst zq3
  intro zq4
  refine ea1_3 zq4 fun vs v1 v2 zq5 => ?_
  clear zq4
  subst zq5
  refine an4 (nameList_each (env:=env) n1) fun k1 k2 k3 k5 => ?_
  show wpAny _ _ (do standAt p; unpack y (assignEach es env)) _ _ _
  refine wpAny_bind (wpAny_standAt ?_)
  unfold unpack
  rw [k2,k3,k1]
  refine wpAny_bind (wpAny_holding (unpack_prim H.rm.handled v1 (by exact Eq.trans v2 (Eq.symm n2)) H.r ry fun ys h' tk kp al => ?_))
  refine storeAll (W:=W) es ns ts vs ys loc _ n1 n2 v2 al ⟨H.ok,H.rm,H.nd,H.r.ext kp,H.l.stepE (.ext kp)⟩ hm hw fun s2 st2 sa2 H2 k2 z2=>q s2 (Step.trans (.ext kp) st2) ⟨sa2.1,sa2.2⟩ H2 fun b o np e=>k2 b o np (kp b o e)
 rcases tgt_inv ht with ⟨x,p,i,rfl,rfl,rfl⟩ | ⟨es,k,p,ns,et,hz,n1,n3,ea⟩
 ·cases e
  obtain ⟨m1,m2⟩:=hm _ List.mem_cons_self
  exact PySem.wpAny_assign_Name (storeName_prim (W:=W) H.ok H.l H.nd m1 m2 H.r ry (hw.cell _ List.mem_cons_self) (hw.loc _ List.mem_cons_self) fun s1 st1 r1' sa1 l1 z1 k1=>q s1 st1 sa1 ⟨H.ok,H.rm,H.nd,r1',l1⟩ k1)
 ·refine two et hz (.inr trivial) ⟨ns,n1,n3,ea⟩ ?_
  unfold bindT at e
  split at e
  ·simp at hz
  ·split at e
   ·split at e
    ·rename_i vs v1 v2
     cases e
     exact ⟨vs,v1,v2,rfl⟩
    ·cases e
   ·cases e
end
end Mob
namespace Mob
open PySem PySem.W PyProof.Rows PySem.Calls
noncomputable def closOf (cells:List (Str × Addr)):List (Str × NameKind)->List (Str × Addr)->List (Str × Addr)
 | [],acc=>acc
 | (n,k)::r,acc=>closOf cells r (if k == .free then (match cells.lookup n with | some c=>(n,c)::acc | none=>acc) else acc)
set_option tactic.hygienic true in
theorem closOf_sub {cells:List (Str × Addr)}:∀ {names:List (Str × NameKind)} {acc:List (Str × Addr)},(∀ x c,acc.lookup x=some c->cells.lookup x=some c)->∀ x c,(closOf cells names acc).lookup x=some c->cells.lookup x=some c
 | [],acc,h,x,c,e=>h x c e
 | (n,k)::r,acc,h,x,c,e=>by
  unfold closOf at e
  refine closOf_sub (names:=r) ?_ x c e
  intro y d
  split
  ·split
   ·rename_i c' hc'
    rw [List.lookup_cons]
    cases q:y==n with
    | true=>intro z; cases z; rw [show y=n by simpa using q]; exact hc'
    | false=>exact h y d
   ·exact h y d
  ·exact h y d
set_option tactic.hygienic true in
theorem closOf_has {cells:List (Str × Addr)}:∀ {names:List (Str × NameKind)} {acc:List (Str × Addr)},(∀ x c,acc.lookup x=some c->cells.lookup x=some c)->∀ x c,((x,NameKind.free)∈names\/acc.lookup x=some c)->cells.lookup x=some c ->
  (closOf cells names acc).lookup x=some c
 | [],acc,h,x,c,m,e=>by
  rcases m with m | m
  ·cases m
  ·exact m
 | (n,k)::r,acc,h,x,c,m,e=>by
  unfold closOf
  have key:∀ y d,(if (k==NameKind.free)=true then (match cells.lookup n with | some c=>(n,c)::acc | none=>acc) else acc).lookup y=some d->cells.lookup y=some d:=by
   intro y d
   split
   ·split
    ·rename_i c' hc'
     rw [List.lookup_cons]
     cases q:y==n with
     | true=>intro z; cases z; rw [show y=n by simpa using q]; exact hc'
     | false=>exact h y d
    ·exact h y d
   ·exact h y d
  refine closOf_has (names:=r) key x c ?_ e
  by_cases xn:x=n/\k = .free
  ·obtain ⟨rfl,rfl⟩:=xn
   right
   rw [e]
   simp
  ·rcases m with m | m
   ·rcases List.mem_cons.mp m with z | z
    ·cases z; exact absurd ⟨rfl,rfl⟩ xn
    ·exact .inl z
   ·right
    split
    ·rename_i hk
     have hk:k = .free:=by simpa using hk
     have xn:x≠n:=fun z=>xn ⟨z,hk⟩
     split
     ·rw [List.lookup_cons,show (x==n)=false by simpa using xn]; exact m
     ·exact m
    ·exact m
theorem closureFor_is {scope:Scope} {env:Env} (h:∀ p∈scope.names,p.2 = .free->∃ c,env.cells.lookup p.1=some c):closureFor scope env=pure (closOf env.cells scope.names []):=by
 revert scope env
 exists scope,env
 intro h
 unfold closureFor
 have key:∀ (names:List (Str × NameKind)) (acc:List (Str × Addr)),(∀ p∈names,p.2 = .free->∃ c,env.cells.lookup p.1=some c) ->
   (forIn names acc fun (p:Str × NameKind) (r:List (Str × Addr))=>match p with | (name,kind)=>if (kind==NameKind.free)=true then do let x <- cellOf env name; pure (ForInStep.yield ((name,x)::r)) else pure (ForInStep.yield r))=(pure (closOf env.cells names acc):Sem _):=by
  intro names
  induction names with
  | nil=>intro acc _; rw [List.forIn_nil]; rfl
  | cons p r ih =>
   intro acc hp
   obtain ⟨n,k⟩:=p
   rw [List.forIn_cons]
   unfold closOf
   by_cases hk:k = .free
   ·subst hk
    obtain ⟨c,hc⟩:=hp (n,.free) List.mem_cons_self rfl
    simp only [beq_self_eq_true,if_true,cellOf,hc,pure_bind]
    exact ih _ fun q hq=>hp q (List.mem_cons_of_mem _ hq)
   ·have hb:(k==NameKind.free)=false:=by simpa using hk
    simp only [hb,Bool.false_eq_true,if_false,pure_bind]
    exact ih _ fun q hq=>hp q (List.mem_cons_of_mem _ hq)
 have e:closureFor scope env=(forIn scope.names [] fun (p:Str × NameKind) (r:List (Str × Addr))=>match p with | (name,kind)=>if (kind==NameKind.free)=true then do let x <- cellOf env name; pure (ForInStep.yield ((name,x)::r)) else pure (ForInStep.yield r)) >>= fun r=>pure r:=rfl
 rw [key scope.names [] h] at e
 exact e
section
variable {prog:Program} {w:World} {A:Around} {E:Value->Shared->Prop} {ρ:Rho} {s:Shared}
theorem self_prim {v:V} {xs:List V} {i:Addr} {k:Nat} (t:It ρ v xs i k s.heap) {Q:Value->Shared->Prop} (q:Q (.ref i) s):wpAny (model prog w) A (pyIter (.ref i)) Q E s:=by
 cases v <;> simp only [It] at t
 ·obtain ⟨l,_,h⟩:=t; exact wpAny_pyIter_listiter h q
 ·obtain ⟨x,vs,h,_⟩:=t; exact wpAny_pyIter_tupleiter h q
 ·exact wpAny_pyIter_rangeiter t.1 q
theorem compStart_go {R:Result->Shared->Prop} {elt t iter:Expr} {ifs:List Expr} {gens:List Comprehension} {scope:Scope} {pos:Pos} {d:Nat} {it acc:Value} {env:Env} (hg:gens[d]? = some ⟨t,iter,ifs,0⟩)
  (h0:codeAny (model prog w) A (.compLoop (.ListComp elt gens scope pos) d it acc env) R s)
  (h:wpAny (model prog w) A (pyIter it) (fun it' s'=>codeAny (model prog w) A (.compLoop (.ListComp elt gens scope pos) d it' acc env) R s')
   (notedBy (model prog w) A env fun x s'=>R (.error x) s') s) :
  codeAny (model prog w) A (.compStart (.ListComp elt gens scope pos) d it acc env) R s:=by
 revert prog w A s R elt t iter ifs gens scope pos d it acc env
 exists prog,w,A,s,R,elt,t,iter,ifs,gens,scope,pos,d,it,acc,env
 intro hg h0 h
 refine codeAny_of_tree ?_
 show wpAny _ _ ((compStart (.ListComp elt gens scope pos) d it acc env).onRaise (fun x=>do noteFrame x env; standAt theWindowsPlace)) _ _ s
 refine wpAny_notedAt ?_
 unfold compStart
 have e1:(clausesOf (.ListComp elt gens scope pos))[d]? = some ⟨t,iter,ifs,0⟩:=hg
 simp only [e1]
 show wpAny _ _ (ask >>= _) _ _ s
 refine wpAny_bind (wpAny_askSetting (wpAny_ite ?_))
 split
 ·first
   | exact wpAny_bind (wpAny_pure (wpAny_pure (And.intro rfl h0)))
   | exact wpAny_pure (And.intro rfl h0)
 ·first
   | exact wpAny_bind (wpAny_rule (wpAny_bind (wpAny_standAt (wpAny_bind (wpAny_mono h (fun it' s' h'=>wpAny_pure (And.intro rfl h')) fun _ _ x=>x)))))
   | (refine wpAny_bind (wpAny_rule ?_); show wpAny _ _ (standAt iter.pos >>= _) _ _ s; exact wpAny_bind (wpAny_standAt (wpAny_bind (wpAny_mono h (fun it' s' h'=>wpAny_pure (And.intro rfl h')) fun _ _ x=>x))))
end
noncomputable def compIn (e:Expr) (gens:List Comprehension) (d:Nat) (acc:Value) (env:Env) (emit:Sem Unit):Sem Unit :=
 match gens[d]? with
 | some g'=>do
  let x <- eval g'.iter env
  standAt g'.iter.pos
  let x <- if g'.is_async != 0 then foldedIterable g'.iter x else foldedSetIterable g'.iter env x
  let _ <- runOwn (.compStart e d (<- holding [x] (if g'.is_async != 0 then asyncIter x else pyIter x)) acc env) env
 | none=>emit
noncomputable def emitOf (elt:Expr) (acc:Value) (env:Env):Sem Unit:=do let _ <- call (.builtin "list.append") [acc,<- eval elt env]
theorem compTurn_wp {M:Model} {A:Around} {E:Value->Shared->Prop} {s:Shared} {elt t iter:Expr} {ifs:List Expr} {gens:List Comprehension} {scope:Scope} {pos:Pos} {d:Nat} {it acc:Value} {env:Env} {Q:Fin->Shared->Prop}
  (hg:gens[d]? = some ⟨t,iter,ifs,0⟩) (hg':∀ g',gens[d+1]? = some g'->g'.is_async=0)
  (h:wpAny M A (pyNext it) (fun r s1=>match r with
   | none=>Q (.done .next) s1
   | some v=>wpAny M A (letOwnedTupleGo t it v) (fun _ s2=>wpAny M A (assign t env v) (fun _ s3=>wpAny M A (testsOf ifs env true) (fun ok s4 =>
     if ok=true then wpAny M A (compIn (.ListComp elt gens scope pos) gens (d+1) acc env (emitOf elt acc env)) (fun _ s5=>Q (.again (.compLoop (.ListComp elt gens scope pos) d it acc env)) s5) E s4
     else Q (.again (.compLoop (.ListComp elt gens scope pos) d it acc env)) s4) E s3) E s2) E s1) E s) :
  wpAny M A (compTurn (.ListComp elt gens scope pos) d it acc env) Q E s:=by
 revert M A E s elt t iter ifs gens scope pos d it acc env Q
 exists M,A,E,s,elt,t,iter,ifs,gens,scope,pos,d,it,acc,env,Q
 intro hg hg' h
 unfold compTurn
 simp only [hg]
 refine wpAny_bind (wpAny_standAt ?_)
 refine wpAny_bind (wpAny_mono h (fun r s1 h1 => ?_) fun _ _ x=>x)
 cases r with
 | none=>exact wpAny_pure h1
 | some v =>
  refine wpAny_bind (wpAny_mono h1 (fun _ s2 h2=>wpAny_bind (wpAny_mono h2 (fun _ s3 h3=>wpAny_bind (wpAny_mono h3 (fun ok s4 h4 => ?_) fun _ _ x=>x)) fun _ _ x=>x)) fun _ _ x=>x)
  cases ok with
  | false=>exact wpAny_pure h4
  | true =>
   simp only [if_true] at h4 ⊢
   have z:wpAny M A (compIn (.ListComp elt gens scope pos) gens (d+1) acc env (emitOf elt acc env) >>= fun _=>again (.compLoop (.ListComp elt gens scope pos) d it acc env)) Q E s4 :=
    wpAny_bind (wpAny_mono h4 (fun _ _ q=>wpAny_pure q) fun _ _ x=>x)
   unfold compIn emitOf at z
   cases hq:gens[d+1]? with
   | none =>
    simp only [hq] at z ⊢
    exact z
   | some g' =>
    have ha:=hg' g' hq
    obtain ⟨t',i',f',a'⟩:=g'
    dsimp only at ha
    subst ha
    simp only [hq,show ((0:Int) != 0)=false from rfl,Bool.false_eq_true,if_false,bind_assoc,pure_bind] at z ⊢
    exact z
theorem tgt_snd {ts:List Nat} {t:Expr} {a:List (Str × Nat)} (h:tgt ts t=some a):a.map (·.2)=ts:=by
 revert ts t a
 exists ts,t,a
 intro h
 rcases tgt_inv h with ⟨x,p,i,_,rfl,rfl⟩ | ⟨es,j,p,ns,_,_,_,n3,rfl⟩
 ·rfl
 ·rw [List.map_snd_zip]
  exact Nat.le_of_eq (Eq.symm n3)
theorem bindAll_other:∀ {is:List Nat} {vs loc:List V} {j:Nat},j ∉ is->(bindAll is vs loc)[j]? = loc[j]?
 | [],vs,loc,j,_=>by cases vs <;> rfl
 | i::is,[],loc,j,_=>rfl
 | i::is,v::vs,loc,j,h=>by
  show (bindAll is vs (loc.set i v))[j]? = _
  rw [bindAll_other fun z=>h (List.mem_cons_of_mem _ z),List.getElem?_set_ne fun z=>h (by rw [<- z]; exact List.mem_cons_self)]
theorem bindT_other {ts:List Nat} {v:V} {σ:H} {loc loc':List V} (h:bindT ts v σ loc=some loc') {j:Nat} (hj:j ∉ ts):loc'[j]? = loc[j]? := by
 revert ts v σ loc loc' j
 exists ts,v,σ,loc,loc'
 intro h
 exists j
 intro hj
 unfold bindT at h
 split at h
 ·cases h; exact List.getElem?_set_ne fun z=>hj (by simp [z])
 ·split at h
  ·split at h
   ·cases h; exact bindAll_other hj
   ·cases h
  ·cases h
theorem bindT_len' {ts:List Nat} {v:V} {σ:H} {loc loc':List V} (h:bindT ts v σ loc=some loc'):loc'.length=loc.length:=by
 revert ts v σ loc loc'
 exists ts,v,σ,loc,loc'
 intro h
 unfold bindT at h
 split at h
 ·cases h; exact List.length_set
 ·split at h
  ·split at h
   ·cases h; exact bindT_len
   ·cases h
  ·cases h
section
variable {D:Wd} {n:Nat} {Φ:Φt}
noncomputable def CB (D:Wd) (n:Nat) (A:Around) (env:Env) (mp:List (Str × Nat)) (an:Nat) (ad:Value) (m:Sem Unit) (em:List V->H->Option H) (U:List Nat):Prop :=
 ∀ {loc:List V} {σ σ':H} {ρ:Rho} {s:Shared} {Ex:Value->Shared->Prop},em loc σ=some σ'->Here D A n env mp ρ σ s.heap loc->(∀ i∈U,∀ v,loc[i]? = some v->v = .undef)->VR ρ s.heap (.ref an) ad ->
  wpAny D.M A m (fun _ s'=>Go D.g (· = env.locals) ρ σ s σ' (fun ρ' s'=>Loc D.g env mp ρ' σ' s'.heap loc) s') Ex s
theorem cb_emit {A:Around} {env:Env} {mp:List (Str × Nat)} {an:Nat} {l:Value} {elt:Mob.E} {pelt:Expr} {U:List Nat} (he:SE D n Φ elt) (c:chkE D.N env.scope mp elt pelt=true) :
  CB D n A env mp an l (emitOf pelt l env) (evM (evE Φ D.G elt) an) U:=by
 revert D n Φ A env mp an l elt pelt U
 exists D,n,Φ,A,env,mp,an,l,elt,pelt,U
 intro he c
 exists loc,σ,σ',ρ,s,Ex
 intro h1 H _ va
 unfold evM at h1
 refine m1 h1 fun v σ1 e1 h1 => ?_
 obtain ⟨⟨u,σ2⟩,e2,e3⟩:=Option.map_eq_some_iff.mp h1
 cases e3
 unfold emitOf
 refine wpAny_bind (PE.andThen (he.u c e1 H) fun ρ1 s1 x st1 r1 sa1 v1 => ?_)
 refine wpAny_bind (wpAny_mono (methV_prim (m := .append) e2 r1 (va.step st1) v1) (fun y s2 ⟨ρ2,st2,r2,sa2,v2⟩=>wpAny_pure ?_) fun _ _ x=>x)
 exact ⟨ρ2,(st1.trans st2).weak fun _ f=>f.elim,r2,sa1.trans sa2,H.l.stepE (st1.trans st2)⟩
set_option tactic.hygienic true in
theorem comp_loop {A:Around} {env:Env} {mp:List (Str × Nat)} {an:Nat} {ad:Value} {pelt iter t:Expr} {pifs:List Expr} {gens:List Comprehension} {csc:Scope} {pos:Pos} {d:Nat} {ts:List Nat} {a b:List (Str × Nat)} {ifs:Es}
  {em:List V->H->Option H} {v:V} {xs:List V} {I:Addr} {ρ0:Rho} {σ0 σ':H} {s0:Shared} {loc:List V}
  (hg:gens[d]? = some ⟨t,iter,pifs,0⟩) (hg':∀ g',gens[d+1]? = some g'->g'.is_async=0)
  (ht:tgt ts t=some a) (hm:∀ q∈a,mp.lookup q.1=some q.2/\env.scope.names.lookup q.1=some .local) (nd:((a++b).map (·.2)).Nodup)
  (hif:SIf D n Φ ifs) (cif:chkEs D.N env.scope mp ifs pifs=true)
  (hin:CB D n A env mp an ad (compIn (.ListComp pelt gens csc pos) gens (d+1) ad env (emitOf pelt ad env)) em (b.map (·.2)))
  (hund:∀ i∈(a++b).map (·.2),∀ u,loc[i]? = some u->u = .undef)
  (fr:s0.heap.get? I=none) (bI:D.g.base.get? I=none) (pI:¬ Priv env I) :
  ∀ (vs:List V) (k:Nat) (ρ:Rho) (σ:H) (s:Shared),xs.drop k=vs->k<=xs.length->compN ts (still v xs) (evC (evIf Φ D.G ifs) em) vs loc σ=some σ'->Step ρ0 σ0 s0.heap (· = env.locals) ρ σ s.heap->Same s0 s ->
   Here D A n env mp ρ σ s.heap loc->It ρ v xs I k s.heap->¬ Own ρ σ I->VR ρ s.heap (.ref an) ad ->
   codeAny D.M A (.compLoop (.ListComp pelt gens csc pos) d (.ref I) ad env) (fun r s'=>r = .ok .next/\Go D.g (· = env.locals) ρ0 σ0 s0 σ' (fun ρ' s'=>Loc D.g env mp ρ' σ' s'.heap loc/\VR ρ' s'.heap (.ref an) ad) s') s:=by
 revert D n Φ A env mp an ad pelt iter t pifs gens csc pos d ts a b ifs em v xs I ρ0 σ0 σ' s0 loc
 exists D,n,Φ,A,env,mp,an,ad,pelt,iter,t,pifs,gens,csc,pos,d,ts,a,b,ifs,em,v,xs,I,ρ0,σ0,σ',s0,loc
 intro hg hg' ht hm nd hif cif hin hund fr bI pI
 exists vs
 induction vs with
 | nil =>
  intro k ρ σ s hd hk e st sa H it nI va
  unfold compN at e
  split at e
  rotate_left
  ·cases e
  rename_i ok
  cases e
  refine codeAny_of_tree ?_
  show wpAny _ _ ((compTurn (.ListComp pelt gens csc pos) d (.ref I) ad env).onRaise (fun x=>do noteFrame x env; theTreesLotGoes x)) _ _ s
  refine wpAny_noted (compTurn_wp hg hg' ?_)
  refine end_prim H.rm.handled it ok (by have:=congrArg List.length hd; simp at this; exact Z.lz this) H.r fun h' eb => ?_
  have nT:=fun x (e:s.heap.get? I=some x)=>it.notT e
  exact ⟨rfl,ρ,st.extBut fr eb,H.r.extBut nI bI nT eb,⟨sa.1,sa.2⟩,H.l.extBut pI nT eb,va⟩
 | cons x vs ih =>
  intro k ρ σ s hd hk e st sa H it nI va
  unfold compN at e
  split at e
  rotate_left
  ·cases e
  rename_i ok
  refine m0l e fun loc' eb e=>m0h e fun σ1 e1 e => ?_
  have hx:xs[k]? = some x:=by
   have:=congrArg (·[0]?) hd
   simpa using this
  have hlt:=(List.getElem?_eq_some_iff.mp hx).1
  have hd':xs.drop (k+1)=vs:=by
   have:=congrArg (List.drop 1) hd
   simpa [Nat.add_comm] using this
  refine codeAny_of_tree ?_
  show wpAny _ _ ((compTurn (.ListComp pelt gens csc pos) d (.ref I) ad env).onRaise (fun x=>do noteFrame x env; theTreesLotGoes x)) _ _ s
  refine wpAny_noted (compTurn_wp hg hg' ?_)
  refine next_prim it ok hx H.r fun y h' tk ry sb it' => ?_
  have nT:=fun x (e:s.heap.get? I=some x)=>it.notT e
  have r1:=H.r.extBut nI bI nT sb.extBut
  have l1:=H.l.extBut pI nT sb.extBut
  have ry1:VR ρ h' x y:=ry.go ⟨[],by simp⟩ (ExtBut.tup sb.extBut nT)
  have st1:Step ρ0 σ0 s0.heap (· = env.locals) ρ σ h':=st.extBut fr sb.extBut
  have H1:Here D A n env mp ρ σ h' loc:=⟨H.ok,H.rm,H.nd,r1,l1⟩
  refine letOwned_prim (s:={ s with heap:=h',toks:=tk }) it' ry1 r1 (fun a' ha' => ?_) ?_
  ·subst ha'
   refine ea1_2 ry fun q hq _ => ?_
   try clear ry
   exact ⟨_,List.getElem?_eq_getElem (by rw [<- H.r.len]; exact (List.getElem?_eq_some_iff.mp hq).1)⟩
  have hw:Wr env a (· = env.locals):=⟨fun q hq c hk _=>absurd (hk.symm.trans (show env.kindOf q.1=some .local from (hm q hq).2)) (by decide),fun _ _ _=>rfl⟩
  refine assign_prim (s:={ s with heap:=h',toks:=tk }) ht H1 (fun q hq=>⟨(hm q hq).1,by unfold isTgt; rw [(hm q hq).2]⟩) hw eb ry1 fun s2 st2 sa2 H2 kp2 => ?_
  have nd':=nd
  rw [List.map_append,tgt_snd ht,List.nodup_append] at nd'
  unfold evC at e1
  have fg:∀ (i:Nat) u,loc[i]? = some u->u = .undef\/loc'[i]? = some u:=fun i u hu=>by
   by_cases hi:i∈ts
   ·exact .inl (hund i (by rw [List.map_append,tgt_snd ht]; exact List.mem_append_left _ hi) u hu)
   ·exact .inr ((bindT_other eb hi).trans hu)
  have keepI:∀ {σa σb:Mob.H} {ρa ρb:Rho} {ha hb:Heap},Step ρa σa ha (· = env.locals) ρb σb hb->¬ Own ρa σa I->It ρa v xs I (k+1) ha->It ρb v xs I (k+1) hb/\¬ Own ρb σb I:=by
   intro σa σb ρa ρb ha hb stx no itx
   have neL:I≠env.locals:=fun z=>pI (.inl z)
   obtain ⟨o,ho⟩:=itx.at
   exact ⟨itx.go stx.pre stx.tup fun o' ho'=>stx.fra I o' ho' no neL,fun q=>no (stx.own I o ho q)⟩
  obtain ⟨it2,nI2⟩:=keepI st2 nI it'
  split at e1
  ·cases e1
  ·rename_i σ2 e2
   cases e1
   refine PB.andThen (hif.u cif e2 H2) fun ρ3 s3 st3 r3 sa3 => ?_
   rw [if_neg (by decide)]
   have st3':Step ρ σ s2.heap (· = env.locals) ρ3 σ1 s3.heap:=st3.weak fun _ f=>f.elim
   obtain ⟨it3,nI3⟩:=keepI st3' nI2 it2
   exact ⟨rfl,ih (k+1) ρ3 σ1 s3 hd' hlt e ((st1.trans st2).trans st3') (sa.trans ((show Same s s2 from sa2).trans sa3)) ⟨H.ok,H.rm,H.nd,r3,(H2.l.stepE st3).forget (bindT_len' eb) fg⟩ it3 nI3 (VR.step (h:=s2.heap) (VR.step (h:=h') va st2) st3')⟩
  ·rename_i σ2 e2
   refine PB.andThen (hif.u cif e2 H2) fun ρ3 s3 st3 r3 sa3 => ?_
   rw [if_pos rfl]
   have st3':Step ρ σ s2.heap (· = env.locals) ρ3 σ2 s3.heap:=st3.weak fun _ f=>f.elim
   obtain ⟨it3,nI3⟩:=keepI st3' nI2 it2
   have H3:=H2.go st3 r3
   refine wpAny_mono (hin e1 H3 (fun i hi u hu => ?_) (VR.step (h:=s2.heap) (VR.step (h:=h') va st2) st3')) (fun _ s4 ⟨ρ4,st4,r4,sa4,l4⟩ => ?_) fun _ _ x=>x
   ·have hi':i ∉ ts:=fun z=>nd'.2.2 i z i hi rfl
    rw [bindT_other eb hi'] at hu
    exact hund i (by rw [List.map_append]; exact List.mem_append_right _ hi) u hu
   ·obtain ⟨it4,nI4⟩:=keepI st4 nI3 it3
    exact ⟨rfl,ih (k+1) ρ4 σ1 s4 hd' hlt e (((st1.trans st2).trans st3').trans st4) (sa.trans (((show Same s s2 from sa2).trans sa3).trans sa4)) ⟨H.ok,H.rm,H.nd,r4,l4.forget (bindT_len' eb) fg⟩ it4 nI4 (VR.step (VR.step (h:=s2.heap) (VR.step (h:=h') va st2) st3') st4)⟩
end
end Mob
namespace Mob
open PySem PySem.W PyProof.Rows PySem.Calls
section
variable {D:Wd} {n:Nat} {Φ:Φt}
theorem folded_plain {N:Nm} {sc:Scope} {mp:List (Str × Nat)} {e:Mob.E} {p:Expr} (h:chkE N sc mp e p=true) (env:Env) (x:Value):foldedSetIterable p env x=pure x:=by
 cases p with
 | Set a k q=>exact absurd rfl ((chk_plain h).1 a k q)
 | _=>rfl
noncomputable def SG (D:Wd) (n:Nat) (Φ:Φt) (gs:Gs):Prop:=∀ {A:Around} {env:Env} {mp:List (Str × Nat)} {an:Nat} {ad:Value} {pelt:Expr} {pre pgs:List Comprehension} {csc:Scope} {pos:Pos} {b:List (Str × Nat)} {em:List V->Mob.H->Option Mob.H},
 chkG D.N env.scope mp gs pgs=true->tgtG gs pgs=some b->(∀ q∈b,mp.lookup q.1=some q.2/\env.scope.names.lookup q.1=some .local)->(b.map (·.2)).Nodup->CB D n A env mp an ad (emitOf pelt ad env) em [] ->
 CB D n A env mp an ad (compIn (.ListComp pelt (pre++pgs) csc pos) (pre++pgs) pre.length ad env (emitOf pelt ad env)) (evG Φ D.G gs em) (b.map (·.2))
theorem sg_nil:SG D n Φ .nil:=by
 intro A env mp an ad pelt pre pgs csc pos b em c ht hm nd hem
 obtain rfl:=chk_gnil c
 cases ht
 have e:compIn (.ListComp pelt (pre++[]) csc pos) (pre++[]) pre.length ad env (emitOf pelt ad env)=emitOf pelt ad env:=by
  unfold compIn
  rw [List.append_nil,List.getElem?_eq_none (Nat.le_refl _)]
 rw [e]
 intro loc σ σ' ρ s Ex h1
 exact hem h1
theorem async0 {N:Nm} {sc:Scope} {mp:List (Str × Nat)} {rest:Gs} {pre r:List Comprehension} {g:Comprehension} (c:chkG N sc mp rest r=true):∀ g',(pre++g::r)[pre.length+1]? = some g'->g'.is_async=0:=by
 revert N sc mp rest pre r g
 exists N,sc,mp,rest,pre,r,g
 intro c
 exists g'
 intro h
 rw [List.getElem?_append_right (by exact Nat.le_add_right _ _),show pre.length+1 - pre.length=1 by exact Nat.add_sub_cancel_left _ _,List.getElem?_cons_succ] at h
 cases rest with
 | nil=>rw [chk_gnil c] at h; cases h
 | cons ts it ifs rest =>
  revert h
  refine chk_gcons c fun t iter pifs r' _ _ _ h => ?_
  cases h
  rfl
theorem sg_cons {ts:List Nat} {it:Mob.E} {ifs:Es} {rest:Gs} (hit:SE D n Φ it) (hif:SIf D n Φ ifs) (hr:SG D n Φ rest):SG D n Φ (.cons ts it ifs rest):=by
 revert D n Φ ts it ifs rest
 exists D,n,Φ,ts,it,ifs,rest
 intro hit hif hr
 exists A,env,mp,an,ad,pelt,pre,pgs,csc,pos,b,em
 intro c ht hm nd hem
 revert ht hem
 refine chk_gcons c fun t iter pifs r c1 c2 c3 => ?_
 intro ht hem
 have ht:((tgt ts t).bind fun a=>(tgtG rest r).map (a ++ ·))=some _:=ht
 obtain ⟨a,ha,ht⟩:=Option.bind_eq_some_iff.mp ht
 obtain ⟨b',hb,rfl⟩:=Option.map_eq_some_iff.mp ht
 have hg:(pre++⟨t,iter,pifs,0⟩::r)[pre.length]? = some ⟨t,iter,pifs,0⟩:=by rw [List.getElem?_append_right (Nat.le_refl _),Nat.sub_self]; rfl
 have hg':=async0 (pre:=pre) (g:=⟨t,iter,pifs,0⟩) c3
 have nd2:(b'.map (·.2)).Nodup:=by rw [List.map_append,List.nodup_append] at nd; exact nd.2.1
 have hin:CB D n A env mp an ad (compIn (.ListComp pelt (pre++⟨t,iter,pifs,0⟩::r) csc pos) (pre++⟨t,iter,pifs,0⟩::r) (pre.length+1) ad env (emitOf pelt ad env)) (evG Φ D.G rest em) (b'.map (·.2)):=by
  have z:CB D n A env mp an ad (compIn (.ListComp pelt ((pre++([⟨t,iter,pifs,0⟩]:List Comprehension))++r) csc pos) ((pre++([⟨t,iter,pifs,0⟩]:List Comprehension))++r) (pre++([⟨t,iter,pifs,0⟩]:List Comprehension)).length ad env (emitOf pelt ad env)) (evG Φ D.G rest em) (b'.map (·.2)) :=
   hr (pre:=pre++[⟨t,iter,pifs,0⟩]) c3 hb (fun q hq=>hm q (List.mem_append_right _ hq)) nd2 hem
  rw [List.append_assoc,List.length_append] at z
  exact @z
 intro loc σ σ' ρ s Ex h1 H hu va
 unfold compIn
 rw [hg]
 refine m1 h1 fun v σ1 e1 h1=>m0l h1 fun xs e2 h1 => ?_
 refine wpAny_bind (PE.andThen (hit.u c1 e1 H) fun ρ1 s1 x st1 r1 sa1 v1=>wpAny_bind (wpAny_standAt ?_))
 simp only [show ((0:Int) != 0)=false from rfl,Bool.false_eq_true,if_false]
 rw [folded_plain c1]
 refine wpAny_bind (wpAny_pure (wpAny_bind (wpAny_holding (iter_prim e2 r1 v1 fun I h' fr kp it0 => ?_))))
 have H1:=H.go st1 r1
 have H2:Here D A n env mp ρ1 σ1 h' loc:=H1.go (.ext kp) (r1.ext kp)
 have pI:¬ Priv env I:=fun z=>by obtain ⟨o,ho⟩:=H1.l.privAt z; rw [fr] at ho; cases ho
 have nI:¬ Own ρ1 σ1 I:=fun z=>by obtain ⟨o,ho⟩:=r1.own_at z; rw [fr] at ho; cases ho
 have bI:D.g.base.get? I=none:=by
  cases z:D.g.base.get? I with
  | none=>rfl
  | some o=>rw [r1.keep _ _ z] at fr; cases fr
 have lp:=comp_loop (A:=A) (s0:=s1) (pelt:=pelt) (csc:=csc) (pos:=pos) hg hg' ha (fun q hq=>hm q (List.mem_append_left _ hq)) nd hif c2 hin hu fr bI pI xs 0 ρ1 σ1 { s1 with heap:=h' } rfl (Nat.zero_le _) h1 (.ext kp) ⟨rfl,rfl⟩ H2 it0 nI (va.step (st1.trans (.ext kp)))
 have lp':=codeAny_mono (R':=fun r s'=>match r with | .ok f=>Go D.g (· = env.locals) ρ σ s σ' (fun ρ' s'=>Loc D.g env mp ρ' σ' s'.heap loc) s' | .error e=>cameBackBy D.M A env Ex e s') lp
  (fun r s' z=>by
   refine an2 z fun zq => ?_
   try clear z
   subst zq
   intro zq2
   refine ea1_5 zq2 fun ρ2 st2 r2 sa2 l2 v2 => ?_
   clear zq2
   exact ⟨ρ2,(st1.weak fun _ f=>f.elim).trans st2,r2,sa1.trans sa2,l2⟩)
 have run:wpAny D.M A (runOwn (.compStart (.ListComp pelt (pre++⟨t,iter,pifs,0⟩::r) csc pos) pre.length (.ref I) ad env) env) (fun _ s'=>Go D.g (· = env.locals) ρ σ s σ' (fun ρ' s'=>Loc D.g env mp ρ' σ' s'.heap loc) s') Ex { s1 with heap:=h' } :=
  wpAny_runOwn (compStart_go hg lp' (self_prim it0 lp'))
 exact wpAny_bind (wpAny_mono run (fun _ _ q=>wpAny_pure q) fun _ _ x=>x)
theorem lookup_mem {α:Type} {l:List (Str × α)} {x:Str} {c:α} (h:l.lookup x=some c):(x,c)∈l:=mem_of_lookup h
theorem relab_lookup {csc sc:Scope} {x:Str} {k:NameKind} (h:(relab csc sc).names.lookup x=some k):∃ k',csc.names.lookup x=some k'/\k=(if (k' == .free&&sc.kind == .function&&sc.names.lookup x==some .cell)=true then .cell else k'):=by
 revert csc sc x k
 exists csc,sc,x,k
 intro h
 unfold relab at h
 dsimp only at h
 generalize csc.names=names at h ⊢
 induction names with
 | nil=>cases h
 | cons p r ih =>
  obtain ⟨m,k'⟩:=p
  rw [List.map_cons] at h
  rw [List.lookup_cons]
  by_cases hc:(k' == .free&&sc.kind == .function&&sc.names.lookup m==some .cell)=true
  ·dsimp only at h
   rw [if_pos hc,List.lookup_cons] at h
   cases q:x==m with
   | true =>
    rw [q] at h
    cases h
    have:x=m:=by simpa using q
    subst this
    exact ⟨k',rfl,by rw [if_pos hc]⟩
   | false=>rw [q] at h; exact ih h
  ·dsimp only at h
   rw [if_neg hc,List.lookup_cons] at h
   cases q:x==m with
   | true =>
    rw [q] at h
    cases h
    have:x=m:=by simpa using q
    subst this
    exact ⟨k,rfl,by rw [if_neg hc]⟩
   | false=>rw [q] at h; exact ih h
noncomputable def compE (csc:Scope) (C:Addr) (env:Env):Env :=
 { scope:=relab csc env.scope,locals:=C,globals:=env.globals,cells:=closOf env.cells csc.names [],qual:=env.qual,func:=none,code:=env.code,frame:=env.frame,builtins:=env.builtins }
structure CompOk (csc sc:Scope) (mp ab:List (Str × Nat)):Prop where
 kind:csc.kind = .function
 kinds:∀ q∈csc.names,q.2 ≠ .cell/\(q.2 = .local->csc.names.lookup q.1=some .local)/\(q.2 = .free->sc.names.lookup q.1=some .cell)
 nd:((ab++mp).map (·.2)).Nodup
 own:∀ q∈csc.names,q.2 = .local->(ab.lookup q.1).isSome=true\/mp.lookup q.1=none
 tg:∀ q∈ab,(relab csc sc).names.lookup q.1=some .local/\ab.lookup q.1=some q.2
set_option tactic.hygienic true in
theorem compE_cell {csc:Scope} {env:Env} {mp ab:List (Str × Nat)} {C:Addr} (ok:EnvOk env) (c:CompOk csc env.scope mp ab) {x:Str} (h:(compE csc C env).kindOf x=some .cell\/(compE csc C env).kindOf x=some .free) :
  (x,NameKind.free)∈csc.names/\env.kindOf x=some .cell/\ab.lookup x=none/\(compE csc C env).kindOf x=some .cell:=by
 revert csc env mp ab C x
 exists csc,env,mp,ab,C
 intro ok c
 exists x
 intro h
 have key:∀ k,(relab csc env.scope).names.lookup x=some k->(k = .cell\/k = .free)->(x,NameKind.free)∈csc.names:=by
  intro k hk z
  refine ea1_2 (relab_lookup hk) fun k' h1 h2 => ?_
  have m:=lookup_mem h1
  split at h2
  ·rename_i hc
   simp only [Bool.and_eq_true,beq_iff_eq] at hc
   rw [hc.1.1] at m; exact m
  ·subst h2
   rcases z with z | z
   ·subst z; exact absurd rfl (c.kinds _ m).1
   ·subst z; exact m
 have hk:∃ k,(relab csc env.scope).names.lookup x=some k/\(k = .cell\/k = .free):=by
  rcases h with h | h
  ·exact ⟨_,h,.inl rfl⟩
  ·exact ⟨_,h,.inr rfl⟩
 refine ea1_2 hk fun k hk hz => ?_
 have m:=key k hk hz
 have sc:=(c.kinds _ m).2.2 rfl
 refine ⟨m,sc,?_,?_⟩
 ·cases q:ab.lookup x with
  | none=>rfl
  | some j =>
   have:=(c.tg _ (lookup_mem q)).1
   dsimp only at this
   rw [this] at hk
   cases hk
   rcases hz with z | z <;> cases z
 ·show (relab csc env.scope).names.lookup x=some .cell
  rw [hk]
  rcases hz with rfl | rfl
  ·rfl
  ·exfalso
   refine ea1_2 (relab_lookup hk) fun k' h1 h2 => ?_
   split at h2
   ·cases h2
   ·rename_i hc
    subst h2
    apply hc
    have sc':env.scope.names.lookup x=some .cell:=sc
    rw [sc',ok.kind]
    rfl
theorem comp_here {A:Around} {env:Env} {mp ab:List (Str × Nat)} {csc:Scope} {C:Addr} {ρ:Rho} {σ:Mob.H} {h:Heap} {loc:List V} (c:CompOk csc env.scope mp ab) (H:Here D A n env mp ρ σ h loc)
  (hC:∃ m,h.Ns C m) (nO:¬ Own ρ σ C) (nB:D.g.base.get? C=none):Here D A n (compE csc C env) (ab++mp) ρ σ h loc:=by
 revert D n A env mp ab csc C ρ σ h loc
 exists D,n,A,env,mp,ab,csc,C,ρ,σ,h,loc
 intro c H hC nO nB
 have sub := @closOf_sub env.cells csc.names [] (fun _ _ e=>by cases e)
 refine ⟨⟨c.kind,H.ok.glob,H.ok.blt,fun x y d h1 h2=>H.ok.apart x y d (sub x d h1) (sub y d h2),fun x hx => ?_⟩,H.rm,c.nd,H.r,⟨?_,?_,fun x d e=>H.l.isCell x d (sub x d e),?_,?_,?_,?_⟩⟩
 ·refine an3 (compE_cell H.ok c (.inl hx)) fun m k _ => ?_
  obtain ⟨d,hd⟩:=H.ok.cellAt x k
  exact ⟨d,closOf_has (fun _ _ e=>by cases e) x d (.inl m) hd⟩
 ·obtain ⟨m,hm⟩:=hC
  refine ⟨m,hm,fun x i v h1 h2 h3 h4=>absurd ?_ h4⟩
  have hx:∃ j,ab.lookup x=some j:=by
   refine ea1_2 (relab_lookup (show (relab csc env.scope).names.lookup x=some .local from h2)) fun k' k1 k2 => ?_
   split at k2
   ·cases k2
   ·subst k2
    rcases c.own _ (lookup_mem k1) rfl with z | z
    ·exact Option.isSome_iff_exists.mp z
    ·rw [List.lookup_append] at h1
     cases q:ab.lookup x with
     | some j=>exact ⟨j,rfl⟩
     | none=>rw [q,show mp.lookup x=none from z] at h1; cases h1
  obtain ⟨j,hj⟩:=hx
  rw [List.lookup_append,hj] at h1
  cases h1
  have nd:=c.nd
  rw [List.map_append,List.nodup_append] at nd
  exact H.l.rest i v h3 fun z=>nd.2.2 i (slot_mem hj) i z rfl
 ·intro x i v h1 h2 h3
  refine an4 (compE_cell H.ok c h2) fun m k na _ => ?_
  rw [List.lookup_append,na] at h1
  refine ea2_2 (H.l.cells x i v h1 (.inl k) h3) fun d cv h4 h5 => ?_
  exact ix2 d cv ⟨closOf_has (fun _ _ e=>by cases e) x d (.inl m) h4,h5⟩
 ·rintro b (rfl | ⟨x,hx⟩)
  ·exact nO
  ·exact H.l.own b (.inr ⟨x,sub x b hx⟩)
 ·rintro b (rfl | ⟨x,hx⟩)
  ·exact nB
  ·exact H.l.base b (.inr ⟨x,sub x b hx⟩)
 ·intro x i h1 h2
  obtain ⟨m,k,na,_⟩:=compE_cell H.ok c (.inl h2)
  rw [List.lookup_append,na] at h1
  exact H.l.len x i h1 k
 ·intro i v h1 h2
  exact H.l.rest i v h1 fun z=>h2 (by rw [List.map_append]; exact List.mem_append_right _ z)
structure CompEnd (D:Wd) (ρ:Rho) (σ:Mob.H) (s:Shared) (σ':Mob.H) (v:V) (y:Value) (C:Addr) (s':Shared):Prop where
 go:∃ ρ',Step ρ σ s.heap NoW ρ' σ' s'.heap/\Rel D.g ρ' σ' s'.heap/\Same s s'/\VR ρ' s'.heap v y/\¬ Own ρ' σ' C
 fr:s.heap.get? C=none
 ns:∃ m,s'.heap.Ns C m
theorem comp_core {elt it:Mob.E} {ts:List Nat} {ifs:Es} {rest:Gs} (hit:SE D n Φ it) (hif:SIf D n Φ ifs) (hr:SG D n Φ rest) (he:SE D n Φ elt)
  {pe:Expr} {env:Env} {mp:List (Str × Nat)} {loc:List V} {σ:Mob.H} {v:V} {σ':Mob.H} {ρ:Rho} {s:Shared} {A:Around} {Ex:Value->Shared->Prop}
  (h1:chkE D.N env.scope mp (.comp elt ts it ifs rest) pe=true) (h2:evE Φ D.G (.comp elt ts it ifs rest) loc σ=some (v,σ')) (H:Here D A n env mp ρ σ s.heap loc) :
  ∃ pelt t iter pifs gs csc p,pe = .ListComp pelt (⟨t,iter,pifs,0⟩::gs) csc p/\csc.kind = .function/\(∀ x∈csc.names,x.2 = .local->csc.names.lookup x.1=some .local)/\closureFor csc env=pure (closOf env.cells csc.names []) /\
   (∀ x,foldedSetIterable iter env x=pure x) /\
   ∀ {RR:Value->Addr->Result->Shared->Prop},(∀ y C s',CompEnd D ρ σ s σ' v y C s'->RR y C (.ok .next) s') ->
   wpAny D.M A (eval iter env) (fun x s₁=>wpAny D.M A (pyIter x) (fun it s₂=>wpAny D.M A (newList []) (fun acc s₃ =>
    wpAny D.M A (newFunctionEnv csc env.globals (closOf env.cells csc.names []) [] env.qual none .none (some env)) (fun cenv s₄ =>
     codeAny D.M A (.compStart pe 0 it acc { cenv with scope:=PySem.relabel csc env }) (RR acc cenv.locals) s₄) Ex s₃) Ex s₂) Ex s₁) Ex s:=by
 revert D n Φ elt it ts ifs rest pe env mp loc σ v σ' ρ s A Ex
 exists D,n,Φ,elt,it,ts,ifs,rest
 intro hit hif hr he
 exists pe,env,mp,loc,σ,v,σ',ρ,s,A,Ex
 intro h1 h2 H
 refine chk_comp h1 fun pelt t iter pifs gs csc p a b c1 k1 k2 ha hb nd own tg c2 c3 c4 => ?_
 have co:CompOk csc env.scope mp (a++b):=⟨k1,k2,nd,own,tg⟩
 refine ix7 pelt t iter pifs gs csc p ⟨rfl,k1,fun x hx=>(k2 x hx).2.1,closureFor_is fun q hq hf=>H.ok.cellAt q.1 ((k2 q hq).2.2 hf),folded_plain c1 env,fun {RR} hR => ?_⟩
 refine m1 h2 fun u σ1 e1 h2=>m0l h2 fun xs e2 h2 => ?_
 obtain ⟨σ2,e3,e⟩:=Option.map_eq_some_iff.mp h2
 cases e
 refine PE.andThen (hit.u c1 e1 H) fun ρ1 s1 x st1 r1 sa1 v1=>iter_prim e2 r1 v1 fun I h2 fr kp it0=>wpAny_newObj_type (wpAny_newFunctionEnv (fun y hy=>(k2 y hy).1) (by intro y hy; simp at hy) (fun h4 hns hsb => ?_) k1) (by size_fits)
 dsimp only at hns hsb ⊢
 generalize hH3:h2.push { cls := .type "list",dict:=none,data := .seq ([]:List Value).toArray }=h3 at hns hsb ⊢
 have hD:h3.objs.size=h2.objs.size+1:=by rw [<- hH3,Heap.size_push]
 have k3:∀ b o,h2.get? b=some o->h3.get? b=some o:=fun b o e=>hH3 ▸ Heap.get?_push_of_some _ e
 have k4:∀ b o,h3.get? b=some o->h4.get? b=some o:=fun b o e=>hsb.extBut b o (fun z=>Nat.lt_irrefl _ (z ▸ Heap.lt_size e)) (Heap.get?_push_of_some _ e)
 have C3:h3.get? h3.objs.size=none:=Heap.get?_none_of_le (Nat.le_refl _)
 have C2:h2.get? h3.objs.size=none:=by
  cases z:h2.get? h3.objs.size with
  | none=>rfl
  | some o=>rw [k3 _ _ z] at C3; cases C3
 have C1:s1.heap.get? h3.objs.size=none:=by
  cases z:s1.heap.get? h3.objs.size with
  | none=>rfl
  | some o=>rw [kp _ _ z] at C2; cases C2
 have C0:s.heap.get? h3.objs.size=none:=by
  cases z:s.heap.get? h3.objs.size with
  | none=>rfl
  | some o=>obtain ⟨o',ho'⟩:=st1.stays _ _ z; rw [ho'] at C1; cases C1
 obtain ⟨ρ3,st3,r3,sa3,v3⟩:=Go.newListAt (g:=D.g) (W:=NoW) (s:={ s1 with heap:=h2 }) (ρ:=ρ1) (σ:=σ1) (xs:=[]) (vs:=[]) (t:=s1.toks+0) (n:=([]:List Value).length) (x:=h2.objs.size) (h':=h3) (r1.ext kp) (fun b o e=>k3 b o e)
  (Heap.get?_none_of_le (Nat.le_refl _)) (hH3 ▸ Heap.get?_push_size _ rfl) .nil (by decide)
 dsimp only at st3 r3 sa3 v3
 have st13:Step ρ1 σ1 s1.heap NoW ρ3 (σ1++[.list false []]) h4:=(Step.trans (.ext kp) st3).trans (.ext k4)
 have r4:=r3.ext k4
 have nOC:¬ Own ρ3 (σ1++[.list false []]) h3.objs.size:=fun z=>by obtain ⟨o,ho⟩:=r3.own_at z; rw [C3] at ho; cases ho
 have bn:∀ b,s1.heap.get? b=none->D.g.base.get? b=none:=fun b q=>by
  cases z:D.g.base.get? b with
  | none=>rfl
  | some o=>rw [r1.keep _ _ z] at q; cases q
 have H1:=H.go st1 r1
 have H3:Here D A n env mp ρ3 (σ1++[.list false []]) h4 loc:=H1.go st13 r4
 have H4:=comp_here co H3 ⟨_,hns⟩ nOC (bn _ C1)
 have hg':=async0 (pre:=[]) (g:=⟨t,iter,pifs,0⟩) c3
 have nd':=nd
 rw [List.map_append,List.nodup_append] at nd'
 have hund:∀ i∈(a++b).map (·.2),∀ u,loc[i]? = some u->u = .undef:=fun i hi u hu=>H.l.rest i u hu fun z=>nd'.2.2 i hi i z rfl
 have tg':∀ q∈a++b,(a++b++mp).lookup q.1=some q.2/\(compE csc h3.objs.size env).scope.names.lookup q.1=some .local:=fun q hq=>⟨by rw [List.lookup_append,(tg q hq).2]; rfl,(tg q hq).1⟩
 have ndb:(b.map (·.2)).Nodup:=by have z:=nd'.1; rw [List.map_append,List.nodup_append] at z; exact z.2.1
 have hin:CB D n A (compE csc h3.objs.size env) (a++b++mp) σ1.length (.ref h2.objs.size) (compIn (.ListComp pelt ([⟨t,iter,pifs,0⟩]++gs) csc p) ([⟨t,iter,pifs,0⟩]++gs) ([⟨t,iter,pifs,0⟩]:List Comprehension).length (.ref h2.objs.size) (compE csc h3.objs.size env) (emitOf pelt (.ref h2.objs.size) (compE csc h3.objs.size env))) (evG Φ D.G rest (evM (evE Φ D.G elt) σ1.length)) (b.map (·.2)) :=
  hr (pre:=[⟨t,iter,pifs,0⟩]) c3 hb (fun q hq=>tg' q (List.mem_append_right _ hq)) ndb (cb_emit he c4)
 have pI:¬ Priv (compE csc h3.objs.size env) I:=by
  rintro (z | ⟨y,z⟩)
  ·have z:I=h3.objs.size:=z
   obtain ⟨o,ho⟩:=it0.at
   rw [z,C2] at ho; cases ho
  ·obtain ⟨o,ho⟩:=H1.l.privAt (.inr ⟨y,closOf_sub (fun _ _ e=>by cases e) y I z⟩)
   rw [fr] at ho; cases ho
 have it4:It ρ3 u xs I 0 h4:=(it0.go st3.pre st3.tup fun o ho=>st3.fra I o ho (fun z=>by obtain ⟨o,ho⟩:=r1.own_at z; rw [fr] at ho; cases ho) fun f=>f).go ⟨[],by simp⟩ (fun b o e _=>k4 b o e) fun o ho=>k4 I o ho
 have nI:¬ Own ρ3 (σ1++[.list false []]) I:=fun z=>by
  obtain ⟨o,ho⟩:=it0.at
  obtain ⟨o',ho'⟩:=r1.own_at (st3.own I o ho z)
  rw [fr] at ho'; cases ho'
 have lp:=comp_loop (A:=A) (s0:=s1) (ρ0:=ρ1) (σ0:=σ1) (pelt:=pelt) (csc:=csc) (pos:=p) (gens:=⟨t,iter,pifs,0⟩::gs) (d:=0) (iter:=iter) rfl hg' ha (fun q hq=>tg' q (List.mem_append_left _ hq)) nd'.1 hif c2 hin hund fr (bn _ fr) pI xs 0 ρ3 (σ1++[.list false []])
  { s1 with heap:=h4,toks:=s1.toks+0 } rfl (Nat.zero_le _) e3 (st13.weak fun _ f=>f.elim) ⟨rfl,rfl⟩ H4 it4 nI v3
 have fin:=codeAny_mono (R':=RR (.ref h2.objs.size) h3.objs.size) lp (fun r s' z=>by
  refine an2 z fun zq => ?_
  try clear z
  subst zq
  intro zq2
  refine ea1_5 zq2 fun ρ5 st5 r5 sa5 l5 v5 => ?_
  clear zq2
  refine hR _ _ _ ⟨⟨ρ5,st1.trans (Step.drop (X:=(· = h3.objs.size)) (st5.weak fun b hb => .inr hb) fun b hb=>hb ▸ C1),r5,sa1.trans sa5,v5,l5.own _ (.inl rfl)⟩,C0,?_⟩
  obtain ⟨m,hm,_⟩:=l5.ns
  exact ⟨m,hm⟩)
 exact compStart_go (gens:=⟨t,iter,pifs,0⟩::gs) (d:=0) rfl fin (self_prim (s:={ s1 with heap:=h4,toks:=s1.toks+0 }) it4 fin)
end
end Mob
namespace Mob
open PySem PySem.W PyProof.Rows PySem.Calls
section
variable {D:Wd} {n:Nat} {Φ:Φt}
theorem CompEnd.put {ρ:Rho} {σ σ':Mob.H} {s s':Shared} {v:V} {y:Value} {C:Addr} (ce:CompEnd D ρ σ s σ' v y C s') (r0:Rel D.g ρ σ s.heap) {h':Heap} (sb:Heap.SameBut C s'.heap h') :
  PE D.g ρ σ s v σ' y { s' with heap:=h' }:=by
 revert D ρ σ σ' s s' v y C h'
 exists D,ρ,σ,σ',s,s',v,y,C
 intro ce r0
 exists h'
 intro sb
 obtain ⟨⟨ρ',st,r,sa,vr,no⟩,fr,m,hm⟩:=ce
 have nB:D.g.base.get? C=none:=by
  cases z:D.g.base.get? C with
  | none=>rfl
  | some o=>rw [r0.keep _ _ z] at fr; cases fr
 exact ⟨ρ',st.extBut fr sb.extBut,r.extBut no nB (Ns.notT hm) sb.extBut,sa,vr.go ⟨[],by simp⟩ (ExtBut.tup sb.extBut (Ns.notT hm))⟩
theorem se_comp {elt it:Mob.E} {ts:List Nat} {ifs:Es} {rest:Gs} (hit:SE D n Φ it) (hif:SIf D n Φ ifs) (hr:SG D n Φ rest) (he:SE D n Φ elt):SE D n Φ (.comp elt ts it ifs rest):=by
 intro pe env mp loc σ v σ' ρ s A Ex h1 h2 H
 refine ea7_6 (comp_core hit hif hr he (A:=A) (Ex:=Ex) h1 h2 H) fun pelt t iter pifs gs csc p zq => ?_
 subst zq
 intro k1 k2 k3 k4 key
 rw [eval_ListComp]
 refine wpAny_comprehension_free (use:=none) rfl k4 k3 k1 k2 (key (RR:=fun y C=>compPost D.M A Ex none (PE D.g ρ σ s v σ') y C) ?_)
 intro y C s' ce
 obtain ⟨m,hm⟩:=ce.ns
 exact ⟨m,hm,fun h' sb=>ce.put H.r sb⟩
theorem st_comp {elt it:Mob.E} {ts:List Nat} {ifs:Es} {rest:Gs} (hit:SE D n Φ it) (hif:SIf D n Φ ifs) (hr:SG D n Φ rest) (he:SE D n Φ elt):ST D n Φ (.comp elt ts it ifs rest) :=
 st_of_se (se_comp hit hif hr he) fun h=>chk_comp h fun _ _ _ _ _ _ _ _ _ _ _ _ _ _ _ _ _ _ _ _=>rfl
noncomputable def FR (ρ:Rho) (h:Heap):Fl->Flow->Prop
 | .next,f=>f = .next
 | .brk,f=>f = .brk
 | .cont,f=>f = .cont
 | .ret v,f=>∃ x,f = .ret x/\VR ρ h v x
abbrev PS (D:Wd) (env:Env) (mp:List (Str × Nat)) (ρ:Rho) (σ:Mob.H) (s:Shared) (f:Fl) (loc':List V) (σ':Mob.H):Flow->Shared->Prop :=
 fun fl s'=>Go D.g (Priv env) ρ σ s σ' (fun ρ' s'=>FR ρ' s'.heap f fl/\Loc D.g env mp ρ' σ' s'.heap loc') s'
noncomputable def SS (D:Wd) (n:Nat) (Φ:Φt) (st:S):Prop:=∀ (ps:Stmt) (env:Env) (mp:List (Str × Nat)) (loc:List V) (σ:Mob.H) (f:Fl) (loc':List V) (σ':Mob.H) (ρ:Rho) (s:Shared) (A:Around) (Ex:Value->Shared->Prop),
 chkS D.N env.scope mp st ps=true->evS Φ D.G st loc σ=some (f,loc',σ')->Here D A n env mp ρ σ s.heap loc->wpAny D.M A (exec ps env) (PS D env mp ρ σ s f loc' σ') Ex s
theorem SS.u {D:Wd} {n:Nat} {Φ:Φt} {st:S} (h:SS D n Φ st) {ps:Stmt} {env:Env} {mp:List (Str × Nat)} {loc:List V} {σ:Mob.H} {f:Fl} {loc':List V} {σ':Mob.H} {ρ:Rho} {s:Shared} {A:Around} {Ex:Value->Shared->Prop} (q0:chkS D.N env.scope mp st ps=true) (q1:evS Φ D.G st loc σ=some (f,loc',σ')) (q2:Here D A n env mp ρ σ s.heap loc):wpAny D.M A (exec ps env) (PS D env mp ρ σ s f loc' σ') Ex s:=h ps env mp loc σ f loc' σ' ρ s A Ex q0 q1 q2
noncomputable def SSs (D:Wd) (n:Nat) (Φ:Φt) (st:Ss):Prop:=∀ (ps:List Stmt) (env:Env) (mp:List (Str × Nat)) (loc:List V) (σ:Mob.H) (f:Fl) (loc':List V) (σ':Mob.H) (ρ:Rho) (s:Shared) (A:Around) (Ex:Value->Shared->Prop),
 chkSs D.N env.scope mp st ps=true->evSs Φ D.G st loc σ=some (f,loc',σ')->Here D A n env mp ρ σ s.heap loc->wpAny D.M A (execs ps env) (PS D env mp ρ σ s f loc' σ') Ex s
theorem SSs.u {D:Wd} {n:Nat} {Φ:Φt} {st:Ss} (h:SSs D n Φ st) {ps:List Stmt} {env:Env} {mp:List (Str × Nat)} {loc:List V} {σ:Mob.H} {f:Fl} {loc':List V} {σ':Mob.H} {ρ:Rho} {s:Shared} {A:Around} {Ex:Value->Shared->Prop} (q0:chkSs D.N env.scope mp st ps=true) (q1:evSs Φ D.G st loc σ=some (f,loc',σ')) (q2:Here D A n env mp ρ σ s.heap loc):wpAny D.M A (execs ps env) (PS D env mp ρ σ s f loc' σ') Ex s:=h ps env mp loc σ f loc' σ' ρ s A Ex q0 q1 q2
section
variable {A:Around} {env:Env} {mp:List (Str × Nat)} {ρ ρ':Rho} {σ σ' σ'':Mob.H} {s s':Shared} {loc loc':List V} {f:Fl} {Ex:Value->Shared->Prop}
theorem PS.after {m:Sem Flow} (st:Step ρ σ s.heap (Priv env) ρ' σ' s'.heap) (sa:Same s s') (h:wpAny D.M A m (PS D env mp ρ' σ' s' f loc' σ'') Ex s'):wpAny D.M A m (PS D env mp ρ σ s f loc' σ'') Ex s' :=
 wpAny_mono h (fun _ _ q=>Go.trans st sa q) fun _ _ x=>x
theorem pr3 {M:Model} {m:Sem Flow} {s1:Shared} {f':Fl} (h:some (f,loc,σ')=some (f',loc',σ'')) (k:wpAny M A m (PS D env mp ρ σ s f loc σ') Ex s1):wpAny M A m (PS D env mp ρ σ s f' loc' σ'') Ex s1:=by cases h; exact k
theorem mp3 {α:Type} {o:Option α} {M:Model} {m:Sem Flow} {s1:Shared} {f':Fl} {l:α->List V} {t:α->H} (h:o.map (fun a=>(f,l a,t a))=some (f',loc',σ'')) (k:∀ a,o=some a->wpAny M A m (PS D env mp ρ σ s f (l a) (t a)) Ex s1):wpAny M A m (PS D env mp ρ σ s f' loc' σ'') Ex s1:=by
 cases o with
 | none=>exact nos h
 | some p=>exact pr3 h (k p rfl)
theorem PS.el {f:Fl} {fl:Flow} {G:Prop} (z:PS D env mp ρ σ s f loc' σ' fl s') (k:∀ ρ',Step ρ σ s.heap (Priv env) ρ' σ' s'.heap->Rel D.g ρ' σ' s'.heap->Same s s'->FR ρ' s'.heap f fl->Loc D.g env mp ρ' σ' s'.heap loc'->G):G :=
 let ⟨ρ',a,b,c,d,e⟩:=z; k ρ' a b c d e
theorem pr3c {c:Code} {s1:Shared} {f f':Fl} (h:some (f,loc,σ')=some (f',loc',σ'')) (k:codeAny D.M A c (fun r s'=>∃ fl,r = .ok fl/\PS D env mp ρ σ s f loc σ' fl s') s1):codeAny D.M A c (fun r s'=>∃ fl,r = .ok fl/\PS D env mp ρ σ s f' loc' σ'' fl s') s1:=by cases h; exact k
theorem in3 {a a':Fl} {b b':List V} {c c':H} {G:Prop} (h:some (a,b,c)=some (a',b',c')) (k:a=a'->b=b'->c=c'->G):G:=by cases h; exact k rfl rfl rfl
theorem Step.toP (st:Step ρ σ s.heap NoW ρ' σ' s'.heap):Step ρ σ s.heap (Priv env) ρ' σ' s'.heap:=st.weak fun _ f=>f.elim
theorem privW {x:Str}:(∀ c,env.kindOf x=some .cell->env.cells.lookup x=some c->Priv env c)/\(env.kindOf x=some .local->Priv env env.locals):=⟨fun c _ h => .inr ⟨x,h⟩,fun _ => .inl rfl⟩
theorem wrP {a:List (Str × Nat)}:Wr env a (Priv env):=⟨fun q _ c _ h => .inr ⟨q.1,h⟩,fun _ _ _ => .inl rfl⟩
theorem notComp_swaps {N:Nm} {sc:Scope} {mp:List (Str × Nat)} {e:Mob.E} {v:Expr} {t:Option Expr} {k:Nat} (h:chkE N sc mp e v=true) (hv:∀ a b c d,v ≠ .ListComp a b c d):swapsWith v t k env=pure false:=by
 cases v with
 | ListComp a b c d=>exact absurd rfl (hv a b c d)
 | SetComp=>exact absurd (chk_idx h) Bool.false_ne_true
 | DictComp=>exact absurd (chk_idx h) Bool.false_ne_true
 | _=>rfl
noncomputable def CompP (D:Wd) (n:Nat) (Φ:Φt):Mob.E->Prop
 | .comp elt ts it ifs rest=>SE D n Φ it/\SIf D n Φ ifs/\SG D n Φ rest/\SE D n Φ elt
 | _=>True
theorem ss_asg {i:Nat} {e:Mob.E} (he:SE D n Φ e) (hc:CompP D n Φ e):SS D n Φ (.asg i e):=by
 revert D n Φ i e
 exists D,n,Φ,i,e
 intro he hc
 exists ps,env,mp,loc,σ,f,loc',σ',ρ,s,A,Ex
 intro h1 h2 H
 refine m1 h2 fun v σ1 e1 h2=>pr3 h2 ?_
 refine chk_asg h1 fun x tp ve p m1 m2 c2 c3 => ?_
 by_cases hl:∃ a b c d,ve = .ListComp a b c d
 ·refine ex4 hl fun a b csc vp zq => ?_
  try clear hl
  subst zq
  refine ex5 (comp_of c2) fun elt ts it ifs rest zq => ?_
  subst zq
  have c3:(env.scope.names.lookup x==some .local&&tp.line==vp.line && !(csc.names.any fun (n,k)=>n==x&&(k == .local||k == .cell)))=true:=c3
  refine an4 hc fun hit hif hr he' => ?_
  have c3:(env.scope.names.lookup x==some .local&&tp.line==vp.line && !(csc.names.any fun (n,k)=>n==x&&(k == .local||k == .cell)))=true:=c3
  refine ea7_6 (comp_core hit hif hr he' (A:=A) (Ex:=Ex) c2 e1 H) fun pelt t iter pifs gs csc' p' e0 k1 k2 k3 k4 key => ?_
  injection e0 with q1 q2 q3 q4
  subst q2 q3
  have b1:env.blockKind = .function:=by
   unfold Env.blockKind
   rw [H.ok.kind]
   rfl
  have hsw:swapsWith (.ListComp a (⟨t,iter,pifs,0⟩::gs) csc vp) (some (.Name x tp)) p.line env=pure true:=by
   show (pure (env.blockKind == .function&&env.kindOf x==some .local&&tp.line==vp.line && !(csc.names.any fun (n,k)=>n==x&&(k == .local||k == .cell))):Sem Bool)=pure true
   rw [b1]
   exact congrArg pure c3
  have hkx:env.kindOf x=some .local:=by
   exact bt c3 fun a _=>bt a fun a _=>eq_of_beq a
  rw [exec_Assign_Name_used _ _ _ _ hsw]
  refine wpAny_bind (wpAny_standAt (wpAny_bind ?_))
  show wpAny _ A (do let _ <- comprehension (.ListComp a (⟨t,iter,pifs,0⟩::gs) csc vp) csc env _ (newList []) false (eval iter env) (some (assign (.Name x tp) env))) _ _ s
  refine wpAny_bind (wpAny_mono (wpAny_comprehension_free (use:=some (assign (.Name x tp) env)) (Q:=fun _ s'=>PS D env mp ρ σ s .next (loc.set i v) σ1 .next s') rfl k4 k3 k1 k2
   (key (RR:=fun y C=>compPost D.M A Ex (some (assign (.Name x tp) env)) (fun _ s'=>PS D env mp ρ σ s .next (loc.set i v) σ1 .next s') y C) ?_)) (fun _ s' hq=>wpAny_pure (wpAny_pure hq)) fun _ _ e=>e)
  intro y C s1 ce
  obtain ⟨⟨ρ1,st1,r1,sa1,v1,no⟩,fr,m,hm⟩:=ce
  have nB:D.g.base.get? C=none:=by
   cases z:D.g.base.get? C with
   | none=>rfl
   | some o=>rw [H.r.keep _ _ z] at fr; cases fr
  have nP:¬ Priv env C:=fun z=>by obtain ⟨o,ho⟩:=H.l.privAt z; rw [fr] at ho; cases ho
  have H1:=H.go st1 r1
  show wpAny _ A (assign (.Name x tp) env y) _ _ _
  refine PySem.wpAny_assign_Name (storeName_prim (W:=Priv env) H1.ok H1.l H1.nd m1 m2 r1 v1 privW.1 privW.2 fun s2 st2 r2 sa2 l2 _ kp => ?_)
  have hm2:s2.heap.Ns C m:=by
   refine ea3_2 hm fun o es ep ho z => ?_
   try clear hm
   exact ix3 o es ep ⟨kp C o nP ho,z⟩
  refine ⟨m,hm2,fun h' sb => ?_⟩
  have nT:=Ns.notT hm2
  exact ⟨ρ1,Step.extBut (st1.toP.trans st2) fr sb.extBut,r2.extBut (fun z=>no (by
   refine ea3_2 hm fun o es ep ho z' => ?_
   try clear hm
   exact st2.own C o ho z)) nB nT sb.extBut,sa1.trans sa2,rfl,l2.extBut nP nT sb.extBut⟩
 ·have hl':∀ a b c d,ve ≠ .ListComp a b c d:=fun a b c d z=>hl ⟨a,b,c,d,z⟩
  refine wpAny_Assign_Name (PE.andThen (he.u c2 e1 H) fun ρ1 s1 y st1 r1 sa1 v1 => ?_) (notComp_swaps c2 hl')
  have H1:=H.go st1 r1
  exact storeName_prim (W:=Priv env) H1.ok H1.l H1.nd m1 m2 r1 v1 privW.1 privW.2 fun s2 st2 r2 sa2 l2 _ _=>⟨ρ1,st1.toP.trans st2,r2,sa1.trans sa2,rfl,l2⟩
end
end
end Mob
namespace Mob
open PySem PySem.W PyProof.Rows PySem.Calls
section
variable {D:Wd} {n:Nat} {Φ:Φt}
theorem Loc.stepL {g:Gr} {env:Env} {mp:List (Str × Nat)} {ρ ρ':Rho} {σ σ':Mob.H} {h h':Heap} {loc:List V} (l:Loc g env mp ρ σ h loc) (s:Step ρ σ h (· = env.locals) ρ' σ' h')
  {m:Str->Option Value} (hn:h.Ns env.locals m) (hn':h'.Ns env.locals m) (hm:∀ x i v,mp.lookup x=some i->env.kindOf x=some .local->loc[i]? = some v->v ≠ .undef->∃ y,m x=some y/\VR ρ h v y):Loc g env mp ρ' σ' h' loc:=by
 have Lne:∀ {c cv},h.IsCell c cv->c≠env.locals:=by
  intro c cv ic z
  refine ea1_2 ic fun o ho hd => ?_
  try clear ic
  refine ea3_3 hn fun o' es ep ho' hd' _ => ?_
  try clear hn
  rw [z,ho'] at ho; cases ho; rw [hd'] at hd; cases hd
 have k:∀ c cv,Priv env c->h.IsCell c cv->h'.IsCell c cv:=fun c cv p ic=>by
  have ne:=Lne ic
  refine ea1_2 ic fun o ho hd => ?_
  try clear ic
  exact ⟨o,s.fra c o ho (l.own c p) ne,hd⟩
 refine ⟨⟨m,hn',fun x i v h1 h2 h3 h4 => ?_⟩,?_,?_,?_,l.base,l.len,l.rest⟩
 ·refine ea1_2 (hm x i v h1 h2 h3 h4) fun y h5 h6 => ?_
  exact ⟨y,h5,h6.step s⟩
 ·intro x i v h1 h2 h3
  refine ea2_3 (l.cells x i v h1 h2 h3) fun c cv h4 h5 h6 => ?_
  exact ⟨c,cv,h4,k c cv (.inr ⟨x,h4⟩) h5,fun q=>let ⟨y,h6,h7⟩:=h6 q; ⟨y,h6,h7.step s⟩⟩
 ·intro x c h1
  obtain ⟨cv,h2⟩:=l.isCell x c h1
  exact ⟨cv,k c cv (.inr ⟨x,h1⟩) h2⟩
 ·intro b p q
  obtain ⟨o,ho⟩:=l.privAt p
  exact l.own b p (s.own b o ho q)
theorem ss_asgT {is:List Nat} {e:Mob.E} (he:SE D n Φ e):SS D n Φ (.asgT is e):=by
 revert D n Φ is e
 exists D,n,Φ,is,e
 intro he
 exists ps,env,mp,loc,σ,f,loc',σ',ρ,s,A,Ex
 intro h1 h2 H
 refine m1 h2 fun v σ1 e1 h2=>mp3 h2 fun l1 e2 => ?_
 refine chk_asgT h1 fun es k tp ve p a ha' c1 c2 c3 => ?_
 have hl:∀ a b c d,ve ≠ .ListComp a b c d:=by rintro a b c d rfl; exact absurd c3 Bool.false_ne_true
 have ht:∀ a b c,ve ≠ .Tuple a b c:=by rintro a b c rfl; exact absurd c3 Bool.false_ne_true
 refine Assign_Tuple (PE.andThen (he.u c2 e1 H) fun ρ1 s1 y st1 r1 sa1 v1 => ?_) (show swapsWithSole [.Tuple es k tp] ve p.line env=pure false from (show swapsWith ve (some (.Tuple es k tp)) p.line env=pure false from notComp_swaps c2 hl)) ?_
 ·refine assign_prim (W:=Priv env) ha' (H.go st1 r1) c1 wrP e2 v1 fun s2 st2 sa2 H2 _=>⟨ρ1,st1.toP.trans st2,H2.r,sa1.trans sa2,rfl,H2.l⟩
 ·unfold swappedStores
  cases ve with
  | Tuple a b c=>exact absurd rfl (ht a b c)
  | _=>rfl
theorem setA_prim (O:D.Ok) {A:Around} {env:Env} {mp:List (Str × Nat)} {ρ ρ0:Rho} {σ σ0 σ':Mob.H} {s s0:Shared} {loc:List V} {Ex:Value->Shared->Prop} {f:Nat} {nm:Str} {v u:V} {a b:Value}
  (H:Here D A n env mp ρ σ s.heap loc) (st0:Step ρ0 σ0 s0.heap NoW ρ σ s.heap) (sa0:Same s0 s) (hn:D.N.an[f]? = some nm) (e:attrSet σ v f u=some σ') (ra:VR ρ s.heap v a) (rb:VR ρ s.heap u b) :
  wpAny D.M A (setAttr a nm b) (fun _ s'=>PS D env mp ρ0 σ0 s0 .next loc σ' .next s') Ex s:=by
 obtain ⟨m,hns,hm⟩:=H.l.ns
 refine setAttr_prim (W:=(· = env.locals)) O.X O.nd O.cls (by rw [O.an]; exact hn) e hns (H.l.own _ (.inl rfl)) H.r ra rb rfl (H.l.base _ (.inl rfl)) fun s' ⟨ρ',st,r,sa,hns'⟩ => ?_
 exact ⟨ρ',st0.toP.trans (st.weak fun b hb => .inl hb),r,sa0.trans sa,rfl,H.l.stepL st hns hns' hm⟩
theorem ss_setA (O:D.Ok) {o e:Mob.E} {f:Nat} (ho:SE D n Φ o) (he:SE D n Φ e):SS D n Φ (.setA o f e):=by
 intro ps env mp loc σ fl loc' σ' ρ s A Ex h1 h2 H
 refine m1 h2 fun v σ1 e1 h2=>m1 h2 fun w σ2 e2 h2 => ?_
 refine mp3 h2 fun σ3 e3 => ?_
 refine chk_setA h1 fun ov nm p' ve p c1 c2 c3 => ?_
 refine plainObj_wpAny_Assign_Attribute (PE.andThen (he.u c2 e1 H) fun ρ1 s1 y st1 r1 sa1 v1=>PE.andThen (ho.u c3 e2 (H.go st1 r1)) fun ρ2 s2 z st2 r2 sa2 v2 => ?_) ?_
 ·exact setA_prim O ((H.go st1 r1).go st2 r2) (st1.trans st2) (sa1.trans sa2) c1 e3 v2 (v1.step st2)
 ·cases ve <;> rfl
theorem ss_setI {o i e:Mob.E} (ho:SE D n Φ o) (hi:SE D n Φ i) (he:SE D n Φ e):SS D n Φ (.setI o i e):=by
 revert D n Φ o i e
 exists D,n,Φ,o,i,e
 intro ho hi he
 exists ps,env,mp,loc,σ,fl,loc',σ',ρ,s,A,Ex
 intro h1 h2 H
 refine m1 h2 fun v σ1 e1 h2=>m1 h2 fun w σ2 e2 h2 => ?_
 refine m1 h2 fun u σ3 e3 h2=>mp3 h2 fun σ4 e4 => ?_
 refine chk_setI h1 fun ov sl p' ve p c1 c2 c3 => ?_
 refine wpAny_Assign_Subscript (PE.andThen (he.u c1 e1 H) fun ρ1 s1 y st1 r1 sa1 v1=>PE.andThen (ho.u c2 e2 (H.go st1 r1)) fun ρ2 s2 z st2 r2 sa2 v2 =>
  PE.andThen (hi.u c3 e3 ((H.go st1 r1).go st2 r2)) fun ρ3 s3 t st3 r3 sa3 v3 => ?_) ?_
 ·refine wpAny_mono (setI_prim (W:=NoW) e4 r3 (v2.step st3) v3 (v1.step (st2.trans st3))) (fun _ s4 ⟨ρ4,st4,r4,sa4,_⟩ => ?_) fun _ _ x=>x
  have st:=((st1.trans st2).trans st3).trans st4
  exact ⟨ρ4,st.toP,r4,((sa1.trans sa2).trans sa3).trans sa4,rfl,H.l.stepE st⟩
 ·cases ve <;> rfl
theorem ss_augV {i:Nat} {op:Op} {e:Mob.E} (he:SE D n Φ e):SS D n Φ (.augV i op e):=by
 revert D n Φ i op e
 exists D,n,Φ,i,op,e
 intro he
 exists ps,env,mp,loc,σ,fl,loc',σ',ρ,s,A,Ex
 intro h1 h2 H
 refine m0 h2 fun v0 e0 h2 => ?_
 refine ea1_2 (Option.bind_eq_some_iff.mp e0) fun w0 e00 e01 => ?_
 refine m1 h2 fun w σ1 e1 h2 => ?_
 obtain ⟨⟨u,σ2⟩,e2,e3⟩:=Option.map_eq_some_iff.mp h2
 cases e3
 refine chk_augV h1 fun x p' ve p m1 m2 c2 c4 => ?_
 refine wpAny_AugAssign_Name (loadName_prim H.ok H.l m1 c2 e00 e01 fun y ry=>PE.andThen (he.u c4 e1 H) fun ρ1 s1 z st1 r1 sa1 v1=>PE.andThen (augO_prim e2 r1 (ry.step st1) v1) fun ρ2 s2 t st2 r2 sa2 v2 => ?_)
 have H2:=(H.go st1 r1).go st2 r2
 exact storeName_prim (W:=Priv env) H2.ok H2.l H2.nd m1 m2 r2 v2 privW.1 privW.2 fun s3 st3 r3 sa3 l3 _ _=>⟨ρ2,(st1.trans st2).toP.trans st3,r3,(sa1.trans sa2).trans sa3,rfl,l3⟩
theorem ss_augA (O:D.Ok) {o e:Mob.E} {f:Nat} {op:Op} (ho:SE D n Φ o) (he:SE D n Φ e):SS D n Φ (.augA o f op e):=by
 intro ps env mp loc σ fl loc' σ' ρ s A Ex h1 h2 H
 refine m1 h2 fun v σ1 e1 h2=>m0 h2 fun w ew h2 => ?_
 refine m1 h2 fun u σ2 e2 h2=>m1 h2 fun x σ3 e3 h2 => ?_
 refine mp3 h2 fun σ4 e4 => ?_
 refine chk_augA h1 fun ov nm p' ve p c1 c3 c4 => ?_
 refine wpAny_AugAssign_AttributeAny (PE.andThen (ho.u c3 e1 H) fun ρ1 s1 y st1 r1 sa1 v1 => ?_)
 refine getAttr_prim O.X O.nd O.cls (by rw [O.an]; exact c1) ew r1 v1 fun z t rz => ?_
 refine PE.andThen (s:={ s1 with toks:=t }) (he.u (s:={ s1 with toks:=t }) c4 e2 (H.go st1 r1)) fun ρ2 s2 z2 st2 r2 sa2 v2=>PE.andThen (augO_prim e3 r2 (rz.step st2) v2) fun ρ3 s3 z3 st3 r3 sa3 v3 => ?_
 have st2':Step ρ1 σ1 s1.heap NoW ρ2 σ2 s2.heap:=st2
 have sa:Same s s3:=(sa1.trans (show Same s1 s2 from sa2)).trans sa3
 exact setA_prim O (((H.go st1 r1).go st2' r2).go st3 r3) ((st1.trans st2').trans st3) sa c1 e4 (v1.step (st2'.trans st3)) v3
theorem ss_augI {o i e:Mob.E} {op:Op} (ho:SE D n Φ o) (hi:SE D n Φ i) (he:SE D n Φ e):SS D n Φ (.augI o i op e):=by
 revert D n Φ o i e op
 exists D,n,Φ,o,i,e,op
 intro ho hi he
 exists ps,env,mp,loc,σ,fl,loc',σ',ρ,s,A,Ex
 intro h1 h2 H
 refine m1 h2 fun v σ1 e1 h2=>m1 h2 fun k σ2 e2 h2 => ?_
 refine m0 h2 fun w ew h2=>m1 h2 fun u σ3 e3 h2 => ?_
 refine m1 h2 fun x σ4 e4 h2=>mp3 h2 fun σ5 e5 => ?_
 refine chk_augI h1 fun ov sl p' ve p c2 c3 c4 => ?_
 refine wpAny_AugAssign_SubscriptAny (PE.andThen (ho.u c2 e1 H) fun ρ1 s1 y st1 r1 sa1 v1=>PE.andThen (hi.u c3 e2 (H.go st1 r1)) fun ρ2 s2 z st2 r2 sa2 v2 => ?_) ?_
 ·refine getI_prim ew r2 (v1.step st2) v2 fun old rold=>PE.andThen (he.u c4 e3 ((H.go st1 r1).go st2 r2)) fun ρ3 s3 t st3 r3 sa3 v3=>PE.andThen (augO_prim e4 r3 (rold.step st3) v3) fun ρ4 s4 t4 st4 r4 sa4 v4 => ?_
  refine wpAny_mono (setI_prim (W:=NoW) e5 r4 ((v1.step st2).step (st3.trans st4)) (v2.step (st3.trans st4)) v4) (fun _ s5 ⟨ρ5,st5,r5,sa5,_⟩ => ?_) fun _ _ x=>x
  have st:=(((st1.trans st2).trans st3).trans st4).trans st5
  exact ⟨ρ5,st.toP,r5,(((sa1.trans sa2).trans sa3).trans sa4).trans sa5,rfl,H.l.stepE st⟩
 ·intro ov' iv nw
  cases sl with
  | Slice a b c d=>exact absurd rfl ((chk_plain c3).2.2 a b c d)
  | _=>rfl
theorem mn {β:Type} {o:Option (V × H)} {f:H->β} {r:β} {G:Prop} (h:(match o with | some (.none,σ)=>some (f σ) | _=>none)=some r) (k:∀ σ,o=some (.none,σ)->some (f σ)=some r->G):G:=by
 rcases o with _ | ⟨v,σ⟩
 ·exact nos h
 ·cases v with
  | none=>exact k σ rfl h
  | _=>exact nos h
theorem ss_expr {e:Mob.E} (he:SE D n Φ e):SS D n Φ (.expr e):=by
 intro ps env mp loc σ fl loc' σ' ρ s A Ex h1 h2 H
 refine mn h2 fun σ1 e1 h2=>pr3 h2 ?_
 refine chk_expr h1 fun ve p c1 c2 => ?_
 refine wpAny_Expr (PE.andThen (he.u c2 e1 H) fun ρ1 s1 y st1 r1 sa1 v1 => ?_) ?_ ?_
 ·cases v1
  exact ⟨ρ1,st1.toP,r1,sa1,rfl,H.l.stepE st1⟩
 ·unfold interactive; rw [H.ok.kind]; rfl
 ·cases ve <;> first | rfl | exact absurd (show (8:Nat)=16 from c1) (by decide) | exact absurd (show (9:Nat)=16 from c1) (by decide) | exact absurd (show (10:Nat)=16 from c1) (by decide)
theorem ss_ite {t:Mob.E} {a b:Ss} (ht:ST D n Φ t) (ha:SSs D n Φ a) (hb:SSs D n Φ b):SS D n Φ (.ite t a b):=by
 intro ps env mp loc σ fl loc' σ' ρ s A Ex h1 h2 H
 refine m1 h2 fun v σ1 e1 h2 => ?_
 refine chk_ite h1 fun t' a' b' p c1 c2 c3 => ?_
 refine tf h2 (fun hk h2 => ?_) fun hk h2 => ?_
 ·skip
  refine wpAny_If (PB.andThen (ht.u c1 e1 hk H) fun ρ1 s1 st1 r1 sa1 => ?_)
  rw [if_pos rfl]
  exact PS.after st1.toP sa1 (ha.u c2 h2 (H.go st1 r1))
 ·skip
  refine wpAny_If (PB.andThen (ht.u c1 e1 hk H) fun ρ1 s1 st1 r1 sa1 => ?_)
  rw [if_neg (by decide)]
  exact PS.after st1.toP sa1 (hb.u c3 h2 (H.go st1 r1))
theorem ss_ret {e:Mob.E} (he:SE D n Φ e):SS D n Φ (.ret e):=by
 intro ps env mp loc σ fl loc' σ' ρ s A Ex h1 h2 H
 refine m1 h2 fun v σ1 e1 h2=>pr3 h2 ?_
 refine chk_ret h1 fun ve p h1 => ?_
 exact wpAny_Return_some (PE.andThen (he.u h1 e1 H) fun ρ1 s1 y st1 r1 sa1 v1=>⟨ρ1,st1.toP,r1,sa1,⟨y,rfl,v1⟩,H.l.stepE st1⟩)
theorem ss_brk:SS D n Φ .brk:=by
 intro ps env mp loc σ fl loc' σ' ρ s A Ex h1 h2 H
 cases h2
 refine chk_brk h1 fun p => ?_
 exact wpAny_Break ⟨ρ,.refl,H.r,.refl,rfl,H.l⟩
theorem ss_cont:SS D n Φ .cont:=by
 intro ps env mp loc σ fl loc' σ' ρ s A Ex h1 h2 H
 cases h2
 refine chk_cont h1 fun p => ?_
 exact wpAny_Continue ⟨ρ,.refl,H.r,.refl,rfl,H.l⟩
theorem ss_fail:SS D n Φ .fail:=by
 intro ps env mp loc σ fl loc' σ' ρ s A Ex h1 h2 H
 cases h2
theorem sss_nil:SSs D n Φ .nil:=by
 intro ps env mp loc σ fl loc' σ' ρ s A Ex h1 h2 H
 cases h2
 cases chk_snil h1
 exact wpAny_execs_nil ⟨ρ,.refl,H.r,.refl,rfl,H.l⟩
theorem msS {o:Option (Fl × List V × H)} {f:List V->H->Option (Fl × List V × H)} {r:Fl × List V × H} {G:Prop} (h:(match o with | none=>none | some (.next,loc,σ)=>f loc σ | some (f,loc,σ)=>some (f,loc,σ))=some r)
  (k:∀ loc σ,o=some (.next,loc,σ)->f loc σ=some r->G) (k':∀ fl loc σ,fl ≠ .next->o=some (fl,loc,σ)->some (fl,loc,σ)=some r->G):G:=by
 rcases o with _ | ⟨fl,l,σ⟩
 ·exact nos h
 ·cases fl with
  | next=>exact k l σ rfl h
  | brk=>exact k' .brk l σ nofun rfl h
  | cont=>exact k' .cont l σ nofun rfl h
  | ret v=>exact k' (.ret v) l σ nofun rfl h
theorem sss_cons {st:S} {ss:Ss} (hs:SS D n Φ st) (hr:SSs D n Φ ss):SSs D n Φ (.cons st ss):=by
 revert D n Φ st ss
 exists D,n,Φ,st,ss
 intro hs hr
 exists ps,env,mp,loc,σ,fl,loc',σ',ρ,s,A,Ex
 intro h1 h2 H
 refine chk_scons h1 fun p r c1 c2 => ?_
 refine msS h2 (fun l1 σ1 e1 h2 => ?_) fun f l1 σ1 nf e1 h2=>pr3 h2 ?_
 ·refine wpAny_execs_cons (wpAny_mono (hs.u c1 e1 H) (fun f s1 z => ?_) fun _ _ x=>x)
  refine PS.el z fun ρ1 st1 r1 sa1 fr l1 => ?_
  cases fr
  exact PS.after st1 sa1 (hr.u c2 h2 ⟨H.ok,H.rm,H.nd,r1,l1⟩)
 ·refine wpAny_execs_cons (wpAny_mono (hs.u c1 e1 H) (fun f' s1 z => ?_) fun _ _ x=>x)
  refine PS.el z fun ρ1 st1 r1 sa1 fr l1 => ?_
  cases f with
  | next=>exact (nf rfl).elim
  | brk=>cases fr; exact ⟨ρ1,st1,r1,sa1,rfl,l1⟩
  | cont=>cases fr; exact ⟨ρ1,st1,r1,sa1,rfl,l1⟩
  | ret v=>obtain ⟨x,rfl,vx⟩:=fr; exact ⟨ρ1,st1,r1,sa1,⟨x,rfl,vx⟩,l1⟩
end
end Mob
namespace Mob
open PySem PySem.W PyProof.Rows PySem.Calls
section
variable {D:Wd} {n:Nat} {Φ:Φt}
theorem msL {o:Option (Fl × List V × H)} {K:List V->H->Option (Fl × List V × H)} {r:Fl × List V × H} {G:Prop} (h:(match o with | none=>none | some (.brk,loc,σ)=>some (.next,loc,σ) | some (.ret v,loc,σ)=>some (.ret v,loc,σ) | some (_,loc,σ)=>K loc σ)=some r)
  (k1:∀ l σ,o=some (.brk,l,σ)->some (.next,l,σ)=some r->G) (k2:∀ v l σ,o=some (.ret v,l,σ)->some (.ret v,l,σ)=some r->G) (k3:∀ f l σ,f = .next\/f = .cont->o=some (f,l,σ)->K l σ=some r->G):G:=by
 revert o K r G
 exists o,K,r,G
 intro h k1 k2 k3
 rcases o with _ | ⟨fl,l,σ⟩
 ·exact nos h
 ·cases fl with
  | next=>exact k3 .next l σ (.inl rfl) rfl h
  | cont=>exact k3 .cont l σ (.inr rfl) rfl h
  | brk=>exact k1 l σ rfl h
  | ret v=>exact k2 v l σ rfl h
theorem while_loop {t:Mob.E} {b:Ss} {t':Expr} {b':List Stmt} {env:Env} {mp:List (Str × Nat)} {A:Around} {f:Fl} {loc':List V} {σ':Mob.H} (ht:ST D n Φ t) (hb:SSs D n Φ b) (c1:chkE D.N env.scope mp t t'=true) (c2:chkSs D.N env.scope mp b b'=true)
  {ρ0:Rho} {σ0:Mob.H} {s0:Shared} :
  ∀ (N:Nat) (loc:List V) (σ:Mob.H) (ρ:Rho) (s:Shared),whileN (evE Φ D.G t) (evSs Φ D.G b) N loc σ=some (f,loc',σ')->Here D A n env mp ρ σ s.heap loc->Step ρ0 σ0 s0.heap (Priv env) ρ σ s.heap->Same s0 s ->
   codeAny D.M A (.whileLoop t' b' [] env) (fun r s'=>∃ fl,r = .ok fl/\PS D env mp ρ0 σ0 s0 f loc' σ' fl s') s:=by
 revert D n Φ t b t' b' env mp A f loc' σ' ρ0 σ0 s0
 exists D,n,Φ,t,b,t',b',env,mp,A,f,loc',σ'
 intro ht hb c1 c2
 exists ρ0,σ0,s0
 exists N
 induction N with
 | zero=>intro loc σ ρ s h; cases h
 | succ N ih =>
  intro loc σ ρ s h H st sa
  refine m1 h fun v σ1 e1 h => ?_
  refine codeAny_of_tree ?_
  show wpAny _ A ((whileTurn t' b' [] env).onRaise (fun x=>do noteFrame x env; theTreesLotGoes x)) _ _ s
  refine wpAny_noted ?_
  unfold whileTurn
  refine ft h (fun hk h => ?_) fun hk h => ?_
  ·refine in3 h fun h1 h2 h3 => ?_
   subst h1 h2 h3
   refine wpAny_bind (PB.andThen (ht.u c1 e1 hk H) fun ρ1 s1 st1 r1 sa1 => ?_)
   simp only [Bool.false_eq_true,if_false]
   refine wpAny_bind (wpAny_execs_nil (wpAny_pure ?_))
   exact ⟨.next,rfl,ρ1,st.trans st1.toP,r1,sa.trans sa1,rfl,H.l.stepE st1⟩
  ·skip
   refine wpAny_bind (PB.andThen (ht.u c1 e1 hk H) fun ρ1 s1 st1 r1 sa1 => ?_)
   simp only [if_true]
   have H1:=H.go st1 r1
   have st01:=st.trans (st1.toP (env:=env))
   have sa01:=sa.trans sa1
   refine msL h (fun l2 σ2 e2 h=>in3 h fun h1 h2 h3 => ?_) (fun u l2 σ2 e2 h=>in3 h fun h1 h2 h3 => ?_) fun f' l2 σ2 hf e2 h => ?_
   ·subst h1 h2 h3
    refine wpAny_bind (wpAny_mono (hb.u c2 e2 H1) (fun fl s2 z => ?_) fun _ _ x=>x)
    refine PS.el z fun ρ2 st2 r2 sa2 fr l2 => ?_
    cases fr
    exact wpAny_pure ⟨.next,rfl,ρ2,st01.trans st2,r2,sa01.trans sa2,rfl,l2⟩
   ·subst h1 h2 h3
    refine wpAny_bind (wpAny_mono (hb.u c2 e2 H1) (fun fl s2 z => ?_) fun _ _ x=>x)
    refine PS.el z fun ρ2 st2 r2 sa2 fr l2 => ?_
    refine ea1_2 fr fun x zq => ?_
    try clear fr
    subst zq
    intro vx
    exact wpAny_pure ⟨.ret x,rfl,ρ2,st01.trans st2,r2,sa01.trans sa2,⟨x,rfl,vx⟩,l2⟩
   ·refine wpAny_bind (wpAny_mono (hb.u c2 e2 H1) (fun fl s2 z => ?_) fun _ _ x=>x)
    refine PS.el z fun ρ2 st2 r2 sa2 fr l2' => ?_
    have go:=ih l2 σ2 ρ2 s2 h ⟨H.ok,H.rm,H.nd,r2,l2'⟩ (st01.trans st2) (sa01.trans sa2)
    rcases hf with rfl | rfl <;> (cases fr; exact wpAny_pure ⟨rfl,go⟩)
theorem ss_whl {t:Mob.E} {b:Ss} (ht:ST D n Φ t) (hb:SSs D n Φ b):SS D n Φ (.whl t b):=by
 intro ps env mp loc σ fl loc' σ' ρ s A Ex h1 h2 H
 refine chk_whl h1 fun t' b' p c1 c2 => ?_
 refine wpAny_While (codeAny_mono (while_loop ht hb c1 c2 (ρ0:=ρ) (σ0:=σ) (s0:=s) WFUEL loc σ ρ s h2 H .refl .refl) fun r s' z => ?_)
 obtain ⟨fl',rfl,z⟩:=z
 exact z
set_option tactic.hygienic true in
theorem for_loop {ts:List Nat} {b:Ss} {t:Expr} {b':List Stmt} {a:List (Str × Nat)} {env:Env} {mp:List (Str × Nat)} {A:Around} {f:Fl} {loc':List V} {σ':Mob.H} (hb:SSs D n Φ b) (ha:tgt ts t=some a)
  (hm:∀ q∈a,mp.lookup q.1=some q.2/\isTgt env.scope q.1=true) (c2:chkSs D.N env.scope mp b b'=true) {v:V} {xs:List V} {I:Addr}
  {ρ0:Rho} {σ0:Mob.H} {s0:Shared} (fr:s0.heap.get? I=none) (bI:D.g.base.get? I=none) (pI:¬ Priv env I) :
  ∀ (vs:List V) (k:Nat) (loc:List V) (σ:Mob.H) (ρ:Rho) (s:Shared),xs.drop k=vs->forN ts (still v xs) (evSs Φ D.G b) vs loc σ=some (f,loc',σ')->Here D A n env mp ρ σ s.heap loc->Step ρ0 σ0 s0.heap (Priv env) ρ σ s.heap->Same s0 s->It ρ v xs I k s.heap->¬ Own ρ σ I->k<=xs.length ->
   codeAny D.M A (.forLoop t (.ref I) b' [] env) (fun r s'=>∃ fl,r = .ok fl/\PS D env mp ρ0 σ0 s0 f loc' σ' fl s') s:=by
 revert D n Φ ts b t b' a env mp A f loc' σ' v xs I ρ0 σ0 s0
 exists D,n,Φ,ts,b,t,b',a,env,mp,A,f,loc',σ'
 intro hb ha hm c2
 exists v,xs,I,ρ0,σ0,s0
 intro fr bI pI
 exists vs
 induction vs with
 | nil =>
  intro k loc σ ρ s hd e H st sa it nI hk
  refine if_s e fun ok e=>pr3c e ?_
  refine codeAny_of_tree ?_
  show wpAny _ A ((forTurn t (.ref I) b' [] env).onRaise (fun x=>do noteFrame x env; theTreesLotGoes x)) _ _ s
  refine wpAny_noted ?_
  unfold forTurn
  refine wpAny_bind (wpAny_standAt (wpAny_bind (wpAny_onRaise ?_)))
  refine end_prim H.rm.handled it ok (by have:=congrArg List.length hd; simp at this; exact Z.lz this) H.r fun h' eb => ?_
  have nT:=fun x (e:s.heap.get? I=some x)=>it.notT e
  refine wpAny_pure ⟨rfl,codeAny_block (wpAny_execs_nil ?_)⟩
  exact ⟨.next,rfl,ρ,st.extBut fr eb,H.r.extBut nI bI nT eb,⟨sa.1,sa.2⟩,rfl,H.l.extBut pI nT eb⟩
 | cons x vs ih =>
  intro k loc σ ρ s hd e H st sa it nI hk
  refine if_s e fun ok e=>m0l e fun l1 eb e => ?_
  have hx:xs[k]? = some x:=by
   have:=congrArg (·[0]?) hd
   simpa using this
  have hlt:=(List.getElem?_eq_some_iff.mp hx).1
  have hd':xs.drop (k+1)=vs:=by
   have:=congrArg (List.drop 1) hd
   simpa [Nat.add_comm] using this
  refine codeAny_of_tree ?_
  show wpAny _ A ((forTurn t (.ref I) b' [] env).onRaise (fun x=>do noteFrame x env; theTreesLotGoes x)) _ _ s
  refine wpAny_noted ?_
  unfold forTurn
  refine wpAny_bind (wpAny_standAt (wpAny_bind (wpAny_onRaise ?_)))
  refine next_prim it ok hx H.r fun y h' tk ry sb it' => ?_
  have nT:=fun x (e:s.heap.get? I=some x)=>it.notT e
  have r1:=H.r.extBut nI bI nT sb.extBut
  have H1:Here D A n env mp ρ σ h' loc:=⟨H.ok,H.rm,H.nd,r1,H.l.extBut pI nT sb.extBut⟩
  have ry1:VR ρ h' x y:=ry.go ⟨[],by simp⟩ (ExtBut.tup sb.extBut nT)
  have st1:Step ρ0 σ0 s0.heap (Priv env) ρ σ h':=st.extBut fr sb.extBut
  dsimp only
  refine wpAny_bind (letOwned_prim (s:={ s with heap:=h',toks:=tk }) it' ry1 r1 (fun a' ha' => ?_) ?_)
  ·subst ha'
   refine ea1_2 ry fun q hq _ => ?_
   try clear ry
   exact ⟨_,List.getElem?_eq_getElem (by rw [<- H.r.len]; exact (List.getElem?_eq_some_iff.mp hq).1)⟩
  refine wpAny_bind (assign_prim (W:=Priv env) (s:={ s with heap:=h',toks:=tk }) ha H1 hm wrP eb ry1 fun s2 st2 sa2 H2 kp2 => ?_)
  have keepI:∀ {σa σb:Mob.H} {ρa ρb:Rho} {ha hb:Heap},Step ρa σa ha (Priv env) ρb σb hb->¬ Own ρa σa I->It ρa v xs I (k+1) ha->It ρb v xs I (k+1) hb/\¬ Own ρb σb I:=by
   intro σa σb ρa ρb ha hb stx no itx
   obtain ⟨o,ho⟩:=itx.at
   exact ⟨itx.go stx.pre stx.tup fun o' ho'=>stx.fra I o' ho' no pI,fun q=>no (stx.own I o ho q)⟩
  obtain ⟨it2,nI2⟩:=keepI st2 nI it'
  have st02:=st1.trans st2
  have sa02:Same s0 s2:=sa.trans (show Same s s2 from sa2)
  refine msL e (fun l3 σ3 e3 e=>in3 e fun h1 h2 h3 => ?_) (fun u l3 σ3 e3 e=>in3 e fun h1 h2 h3 => ?_) fun f' l3 σ3 hf e3 e => ?_
  ·subst h1 h2 h3
   refine wpAny_bind (wpAny_mono (hb.u c2 e3 H2) (fun fl s3 z => ?_) fun _ _ x=>x)
   refine PS.el z fun ρ3 st3 r3 sa3 fr l3 => ?_
   cases fr
   exact wpAny_pure ⟨.next,rfl,ρ3,st02.trans st3,r3,sa02.trans sa3,rfl,l3⟩
  ·subst h1 h2 h3
   refine wpAny_bind (wpAny_mono (hb.u c2 e3 H2) (fun fl s3 z => ?_) fun _ _ x=>x)
   refine PS.el z fun ρ3 st3 r3 sa3 fr l3 => ?_
   refine ea1_2 fr fun x zq => ?_
   try clear fr
   subst zq
   intro vx
   exact wpAny_pure ⟨.ret x,rfl,ρ3,st02.trans st3,r3,sa02.trans sa3,⟨x,rfl,vx⟩,l3⟩
  ·refine wpAny_bind (wpAny_mono (hb.u c2 e3 H2) (fun fl s3 z => ?_) fun _ _ x=>x)
   refine PS.el z fun ρ3 st3 r3 sa3 fr l3' => ?_
   obtain ⟨it3,nI3⟩:=keepI st3 nI2 it2
   have go:=ih (k+1) l3 σ3 ρ3 s3 hd' e ⟨H.ok,H.rm,H.nd,r3,l3'⟩ (st02.trans st3) (sa02.trans sa3) it3 nI3 hlt
   rcases hf with rfl | rfl <;> (cases fr; exact wpAny_pure ⟨rfl,go⟩)
theorem ss_for {ts:List Nat} {e:Mob.E} {b:Ss} (he:SE D n Φ e) (hb:SSs D n Φ b):SS D n Φ (.for_ ts e b):=by
 intro ps env mp loc σ fl loc' σ' ρ s A Ex h1 h2 H
 refine m1 h2 fun v σ1 e1 h2=>m0l h2 fun xs e2 h2 => ?_
 refine chk_for h1 fun t ve b' p a ha c1 c2 c3 => ?_
 refine wpAny_For (PE.andThen (he.u c2 e1 H) fun ρ1 s1 x st1 r1 sa1 v1=>iter_prim e2 r1 v1 fun I h' fr kp it0 => ?_) (folded_plain c2 env)
 have H1:=H.go st1 r1
 have pI:¬ Priv env I:=fun z=>by obtain ⟨o,ho⟩:=H1.l.privAt z; rw [fr] at ho; cases ho
 have nI:¬ Own ρ1 σ1 I:=fun z=>by obtain ⟨o,ho⟩:=r1.own_at z; rw [fr] at ho; cases ho
 have bI:D.g.base.get? I=none:=by
  cases z:D.g.base.get? I with
  | none=>rfl
  | some o=>rw [r1.keep _ _ z] at fr; cases fr
 have st:Step ρ1 σ1 s1.heap (Priv env) ρ1 σ1 h' := .ext kp
 refine codeAny_mono (for_loop hb ha c1 c3 (s0:=s1) (ρ0:=ρ1) (σ0:=σ1) fr bI pI xs 0 loc σ1 ρ1 { s1 with heap:=h' } rfl h2 (H1.go (.ext kp) (r1.ext kp)) (.ext kp) ⟨rfl,rfl⟩ it0 nI (Nat.zero_le _)) fun r s' z => ?_
 refine ea1_2 z fun fl' zq => ?_
 try clear z
 subst zq
 intro z
 exact Go.trans st1.toP sa1 z
noncomputable def AllE (D:Wd) (n:Nat) (Φ:Φt) (e:Mob.E):Prop:=SE D n Φ e/\ST D n Φ e/\CompP D n Φ e
noncomputable def AllEs (D:Wd) (n:Nat) (Φ:Φt) (es:Es):Prop:=SEs D n Φ es/\SAnd D n Φ es/\SOr D n Φ es/\TAnd D n Φ es/\TOr D n Φ es/\SIf D n Φ es
theorem allE_of {e:Mob.E} (h:SE D n Φ e) (h':ST D n Φ e) (hc:CompP D n Φ e):AllE D n Φ e:=⟨@h,@h',hc⟩
mutual
theorem snd_E (O:D.Ok) (hΦ:SndΦ D n Φ):∀ e:Mob.E,AllE D n Φ e
 | .var i=>allE_of (se_var i) (st_var i) trivial
 | .glob k=>allE_of (se_glob O k) (st_glob O k) trivial
 | .int i=>allE_of (se_int i) (st_int i) trivial
 | .bool b=>allE_of (se_bool b) (st_bool b) trivial
 | .none=>allE_of se_none st_none trivial
 | .bin op a b=>allE_of (se_bin (snd_E O hΦ a).1 (snd_E O hΦ b).1) (st_bin (snd_E O hΦ a).1 (snd_E O hΦ b).1) trivial
 | .neg a=>allE_of (se_neg (snd_E O hΦ a).1) (st_neg (snd_E O hΦ a).1) trivial
 | .inv a=>allE_of (se_inv (snd_E O hΦ a).1) (st_inv (snd_E O hΦ a).1) trivial
 | .not a=>allE_of (se_not (snd_E O hΦ a).1) (st_not (snd_E O hΦ a).2.1) trivial
 | .cmp op a b=>allE_of (se_cmp (snd_E O hΦ a).1 (snd_E O hΦ b).1) (st_cmp (snd_E O hΦ a).1 (snd_E O hΦ b).1) trivial
 | .cmp2 op op' a b c=>allE_of (se_cmp2 (snd_E O hΦ a).1 (snd_E O hΦ b).1 (snd_E O hΦ c).1) (st_cmp2 (snd_E O hΦ a).1 (snd_E O hΦ b).1 (snd_E O hΦ c).1) trivial
 | .and es=>allE_of (se_and (snd_Es O hΦ es).2.1) (st_and (snd_Es O hΦ es).2.2.2.1) trivial
 | .or es=>allE_of (se_or (snd_Es O hΦ es).2.2.1) (st_or (snd_Es O hΦ es).2.2.2.2.1) trivial
 | .ife t a b=>allE_of (se_ife (snd_E O hΦ t).2.1 (snd_E O hΦ a).1 (snd_E O hΦ b).1) (st_ife (snd_E O hΦ t).2.1 (snd_E O hΦ a).2.1 (snd_E O hΦ b).2.1) trivial
 | .attr e f=>allE_of (se_attr O (snd_E O hΦ e).1) (st_attr O (snd_E O hΦ e).1) trivial
 | .sub a b=>allE_of (se_sub (snd_E O hΦ a).1 (snd_E O hΦ b).1) (st_sub (snd_E O hΦ a).1 (snd_E O hΦ b).1) trivial
 | .slice a b=>allE_of (se_slice (snd_E O hΦ a).1 (snd_E O hΦ b).1) (st_slice (snd_E O hΦ a).1 (snd_E O hΦ b).1) trivial
 | .slice2 a b c=>allE_of (se_slice2 (snd_E O hΦ a).1 (snd_E O hΦ b).1 (snd_E O hΦ c).1) (st_slice2 (snd_E O hΦ a).1 (snd_E O hΦ b).1 (snd_E O hΦ c).1) trivial
 | .list es=>allE_of (se_list (snd_Es O hΦ es).1) (st_list (snd_Es O hΦ es).1) trivial
 | .tup es=>allE_of (se_tup (snd_Es O hΦ es).1) (st_tup (snd_Es O hΦ es).1) trivial
 | .call f es=>allE_of (se_call O hΦ (snd_Es O hΦ es).1) (st_call O hΦ (snd_Es O hΦ es).1) trivial
 | .new c es=>allE_of (se_new O hΦ (snd_Es O hΦ es).1) (st_new O hΦ (snd_Es O hΦ es).1) trivial
 | .bi b es=>allE_of (se_bi O (snd_Es O hΦ es).1) (st_bi O (snd_Es O hΦ es).1) trivial
 | .meth m o x=>allE_of (se_meth (snd_E O hΦ o).1 (snd_E O hΦ x).1) (st_meth (snd_E O hΦ o).1 (snd_E O hΦ x).1) trivial
 | .comp elt ts it ifs rest=>⟨se_comp (snd_E O hΦ it).1 (snd_Es O hΦ ifs).2.2.2.2.2 (snd_Gs O hΦ rest) (snd_E O hΦ elt).1,st_comp (snd_E O hΦ it).1 (snd_Es O hΦ ifs).2.2.2.2.2 (snd_Gs O hΦ rest) (snd_E O hΦ elt).1,(snd_E O hΦ it).1,(snd_Es O hΦ ifs).2.2.2.2.2,snd_Gs O hΦ rest,(snd_E O hΦ elt).1⟩
theorem snd_Es (O:D.Ok) (hΦ:SndΦ D n Φ):∀ es:Es,AllEs D n Φ es
 | .nil=>⟨ses_nil,sand_nil,sor_nil,tand_nil,tor_nil,sif_nil⟩
 | .cons e es=>⟨ses_cons (snd_E O hΦ e).1 (snd_Es O hΦ es).1,sand_cons (snd_E O hΦ e).1 (snd_Es O hΦ es).2.1,sor_cons (snd_E O hΦ e).1 (snd_Es O hΦ es).2.2.1,
   tand_cons (snd_E O hΦ e).2.1 (snd_Es O hΦ es).2.2.2.1,tor_cons (snd_E O hΦ e).2.1 (snd_Es O hΦ es).2.2.2.2.1,sif_cons (snd_E O hΦ e).2.1 (snd_Es O hΦ es).2.2.2.2.2⟩
theorem snd_Gs (O:D.Ok) (hΦ:SndΦ D n Φ):∀ gs:Gs,SG D n Φ gs
 | .nil=>sg_nil
 | .cons ts it ifs rest=>sg_cons (snd_E O hΦ it).1 (snd_Es O hΦ ifs).2.2.2.2.2 (snd_Gs O hΦ rest)
end
mutual
theorem snd_S (O:D.Ok) (hΦ:SndΦ D n Φ):∀ st:S,SS D n Φ st
 | .asg i e=>ss_asg (snd_E O hΦ e).1 (snd_E O hΦ e).2.2
 | .asgT is e=>ss_asgT (snd_E O hΦ e).1
 | .setA o f e=>ss_setA O (snd_E O hΦ o).1 (snd_E O hΦ e).1
 | .setI o i e=>ss_setI (snd_E O hΦ o).1 (snd_E O hΦ i).1 (snd_E O hΦ e).1
 | .augV i op e=>ss_augV (snd_E O hΦ e).1
 | .augA o f op e=>ss_augA O (snd_E O hΦ o).1 (snd_E O hΦ e).1
 | .augI o i op e=>ss_augI (snd_E O hΦ o).1 (snd_E O hΦ i).1 (snd_E O hΦ e).1
 | .expr e=>ss_expr (snd_E O hΦ e).1
 | .ite t a b=>ss_ite (snd_E O hΦ t).2.1 (snd_Ss O hΦ a) (snd_Ss O hΦ b)
 | .whl t b=>ss_whl (snd_E O hΦ t).2.1 (snd_Ss O hΦ b)
 | .for_ ts e b=>ss_for (snd_E O hΦ e).1 (snd_Ss O hΦ b)
 | .ret e=>ss_ret (snd_E O hΦ e).1
 | .brk=>ss_brk
 | .cont=>ss_cont
 | .fail=>ss_fail
theorem snd_Ss (O:D.Ok) (hΦ:SndΦ D n Φ):∀ st:Ss,SSs D n Φ st
 | .nil=>sss_nil
 | .cons st ss=>sss_cons (snd_S O hΦ st) (snd_Ss O hΦ ss)
end
end
end Mob
namespace Mob
open PySem PySem.W PyProof.Rows PySem.Calls
theorem lookup_zip {α:Type}:∀ {ns:List Str} {vs:List α} {i:Nat} {x:Str} {v:α},ns.Nodup->ns[i]? = some x->vs[i]? = some v->(ns.zip vs).lookup x=some v
 | [],vs,i,x,v,_,h,_=>by simp at h
 | n::ns,[],i,x,v,_,_,h=>by simp at h
 | n::ns,w::vs,0,x,v,nd,h1,h2=>by
  simp at h1 h2
  subst h1 h2
  rw [List.zip_cons_cons,List.lookup_cons,beq_self_eq_true]
 | n::ns,w::vs,i+1,x,v,nd,h1,h2=>by
  rw [List.nodup_cons] at nd
  rw [List.getElem?_cons_succ] at h1 h2
  have ne:(x==n)=false:=by
   cases q:x==n with
   | false=>rfl
   | true =>
    have:x=n:=by simpa using q
    subst this
    exact absurd (List.mem_of_getElem? h1) nd.1
  rw [List.zip_cons_cons,List.lookup_cons,ne]
  exact lookup_zip nd.2 h1 h2
theorem zip_lookup {α:Type}:∀ {ns:List Str} {vs:List α} {x:Str} {v:α},(ns.zip vs).lookup x=some v->∃ i:Nat,ns[i]? = some x/\vs[i]? = some v
 | [],vs,x,v,h=>by cases h
 | n::ns,[],x,v,h=>by cases h
 | n::ns,w::vs,x,v,h=>by
  rw [List.zip_cons_cons,List.lookup_cons] at h
  cases q:x==n with
  | true =>
   rw [q] at h
   cases h
   exact ⟨0,by simp at q; simp [q],rfl⟩
  | false =>
   rw [q] at h
   refine ea1_2 (zip_lookup h) fun i h1 h2 => ?_
   exact ⟨i+1,h1,h2⟩
theorem zip_lookup_none {α:Type}:∀ {ns:List Str} {vs:List α} {x:Str},ns.length=vs.length->(ns.zip vs).lookup x=none->x ∉ ns
 | [],vs,x,_,h=>by simp
 | n::ns,[],x,l,h=>by simp at l
 | n::ns,w::vs,x,l,h=>by
  rw [List.zip_cons_cons,List.lookup_cons] at h
  cases q:x==n with
  | true=>rw [q] at h; cases h
  | false =>
   rw [q] at h
   have:=zip_lookup_none (by simpa using l) h
   simp only [List.mem_cons,not_or]
   exact ⟨by simpa using q,this⟩
theorem zip_self {α:Type}:∀ (ns:List Str) (vs:List α) (pre:List (Str × α)),ns.Nodup->ns.length=vs.length->(∀ n∈ns,pre.lookup n=none) ->
  ns.filterMap (fun n=>((pre++ns.zip vs).lookup n).map (n,·))=ns.zip vs
 | [],vs,pre,_,_,_=>rfl
 | n::ns,[],pre,_,l,_=>by simp at l
 | n::ns,v::vs,pre,nd,l,hp=>by
  rw [List.nodup_cons] at nd
  have e1:(pre++(n::ns).zip (v::vs)).lookup n=some v:=by
   rw [List.lookup_append,hp n List.mem_cons_self,List.zip_cons_cons,List.lookup_cons,beq_self_eq_true]
   rfl
  rw [List.filterMap_cons,e1]
  simp only [Option.map_some]
  rw [List.zip_cons_cons]
  congr 1
  have z:=zip_self ns vs (pre++[(n,v)]) nd.2 (by simpa using l) (fun m hm=>by
   rw [List.lookup_append,hp m (List.mem_cons_of_mem _ hm),List.lookup_cons]
   have:(m==n)=false:=by
    cases q:m==n with
    | false=>rfl
    | true =>
     have:m=n:=by simpa using q
     subst this
     exact absurd hm nd.1
   rw [this]
   rfl)
  rw [List.append_assoc] at z
  exact z
theorem bindArgs_plain {fd:FuncData} {vals:List Value} (h1:fd.params.posonlyargs=[]) (h2:fd.params.vararg=none) (h3:fd.params.kwonlyargs=[]) (h4:fd.params.kwarg=none) (h5:fd.defaults = .none)
  (hl:(fd.params.args.map (·.arg)).length=vals.length) (nd:(fd.params.args.map (·.arg)).Nodup):bindArgs fd ⟨vals,[]⟩=pure ((fd.params.args.map (·.arg)).zip vals):=by
 revert fd vals
 exists fd,vals
 intro h1 h2 h3 h4 h5 hl nd
 have hz:=zip_self (fd.params.args.map (·.arg)) vals [] nd hl (by intro n _; rfl)
 rw [List.nil_append] at hz
 have hmiss:((fd.params.args.map (·.arg)).filter fun n=>(((fd.params.args.map (·.arg)).zip vals).lookup n).isNone)=[]:=by
  rw [List.filter_eq_nil_iff]
  intro x hx
  cases q:((fd.params.args.map (·.arg)).zip vals).lookup x with
  | some v=>simp
  | none=>exact absurd hx (zip_lookup_none hl q)
 unfold bindArgs
 simp only [h1,h2,h3,h4,h5,List.map_nil,List.nil_append,List.forIn_nil,pure_bind]
 have hs:seqItems? Value.none=pure none:=rfl
 simp only [hs,pure_bind]
 have hg:¬ vals.length > (fd.params.args.map (·.arg)).length:=by exact Nat.not_lt_of_le (Nat.le_of_eq (Eq.symm hl))
 simp only [hg,decide_false,Bool.false_and,Bool.false_eq_true,if_false]
 simp only [Option.getD_none,List.drop_nil,List.length_nil,Nat.sub_zero,List.take_length,hmiss,List.isEmpty_nil,Bool.not_true,Bool.false_eq_true,if_false,List.zip_nil_right,List.forIn_nil,pure_bind,List.append_nil,hz]
set_option tactic.hygienic true in
theorem cellsFrom_has:∀ {names:List (Str × NameKind)} {k:Nat} {acc:List (Str × Addr)} {x:Str},((x,NameKind.cell)∈names\/(acc.lookup x).isSome=true)->((cellsFrom k names acc).lookup x).isSome=true
 | [],k,acc,x,h=>by
  rcases h with h | h
  ·cases h
  ·exact h
 | (n,kd)::r,k,acc,x,h=>by
  unfold cellsFrom
  split
  ·rename_i hk
   refine cellsFrom_has (names:=r) ?_
   by_cases xn:x=n
   ·subst xn; right; rw [List.lookup_cons,beq_self_eq_true]; rfl
   ·rcases h with h | h
    ·rcases List.mem_cons.mp h with z | z
     ·cases z; exact absurd rfl xn
     ·exact .inl z
    ·right; rw [List.lookup_cons,show (x==n)=false by simpa using xn]; exact h
  ·rename_i hk
   refine cellsFrom_has (names:=r) ?_
   rcases h with h | h
   ·rcases List.mem_cons.mp h with z | z
    ·cases z; exact absurd rfl hk
    ·exact .inl z
   ·exact .inr h
theorem bindL_not {kindOf:Str->Option NameKind} {x:Str}:∀ {ns:List Str} {vs:List Value} {m:Str->Option Value},x ∉ ns->bindL kindOf (ns.zip vs) m x=m x
 | [],vs,m,_=>rfl
 | n::ns,[],m,_=>rfl
 | n::ns,v::vs,m,h=>by
  simp only [List.mem_cons,not_or] at h
  rw [List.zip_cons_cons]
  unfold bindL
  rw [bindL_not h.2]
  split
  ·exact if_neg h.1
  ·rfl
theorem bindL_at {kindOf:Str->Option NameKind} {x:Str} {v:Value} (hk:kindOf x=some .local):∀ {ns:List Str} {vs:List Value} {m:Str->Option Value} {i:Nat},ns.Nodup->ns[i]? = some x->vs[i]? = some v->bindL kindOf (ns.zip vs) m x=some v
 | [],vs,m,i,_,h,_=>by simp at h
 | n::ns,[],m,i,_,_,h=>by simp at h
 | n::ns,w::vs,m,0,nd,h1,h2=>by
  simp at h1 h2
  subst h1 h2
  rw [List.nodup_cons] at nd
  rw [List.zip_cons_cons]
  unfold bindL
  rw [bindL_not nd.1,if_pos hk]
  simp
 | n::ns,w::vs,m,i+1,nd,h1,h2=>by
  rw [List.nodup_cons] at nd
  rw [List.getElem?_cons_succ] at h1 h2
  rw [List.zip_cons_cons]
  unfold bindL
  exact bindL_at hk nd.2 h1 h2
theorem bindC_not {kindOf:Str->Option NameKind} {x:Str}:∀ {ns:List Str} {vs:List Value} {m:Str->Option Value},x ∉ ns->bindC kindOf (ns.zip vs) m x=m x
 | [],vs,m,_=>rfl
 | n::ns,[],m,_=>rfl
 | n::ns,v::vs,m,h=>by
  simp only [List.mem_cons,not_or] at h
  rw [List.zip_cons_cons]
  unfold bindC
  rw [bindC_not h.2]
  split
  ·rfl
  ·exact if_neg h.1
theorem bindC_at {kindOf:Str->Option NameKind} {x:Str} {v:Value} (hk:kindOf x≠some .local):∀ {ns:List Str} {vs:List Value} {m:Str->Option Value} {i:Nat},ns.Nodup->ns[i]? = some x->vs[i]? = some v->bindC kindOf (ns.zip vs) m x=some v
 | [],vs,m,i,_,h,_=>by simp at h
 | n::ns,[],m,i,_,_,h=>by simp at h
 | n::ns,w::vs,m,0,nd,h1,h2=>by
  simp at h1 h2
  subst h1 h2
  rw [List.nodup_cons] at nd
  rw [List.zip_cons_cons]
  unfold bindC
  rw [bindC_not nd.1,if_neg hk]
  simp
 | n::ns,w::vs,m,i+1,nd,h1,h2=>by
  rw [List.nodup_cons] at nd
  rw [List.getElem?_cons_succ] at h1 h2
  rw [List.zip_cons_cons]
  unfold bindC
  exact bindC_at hk nd.2 h1 h2
structure FdOk (N:Nm) (d:Fn) (fd:FuncData) (body:List Stmt) (nms:List Str):Prop where
 bdy:fd.body = .stmts body
 clo:fd.closure=[]
 glo:fd.globals=mainGlobals
 blt:fd.builtins=builtinsNs
 dfl:fd.defaults = .none
 chk:chkFn N d nms fd.params fd.scope body=true
structure DefAt (D:Wd) (f:Nat) (d:Fn):Prop where
 at_:∃ o fd body nms,D.g.base.get? (D.fa f)=some o/\o.data = .func fd/\D.g.base.CodeRec fd.code fd.qualname/\FdOk D.N d fd body nms
section
variable {D:Wd} {n:Nat} {Φ:Φt}
theorem zip_range_lookup {ns:List Str} {x:Str} {i:Nat} (h:(ns.zip (List.range ns.length)).lookup x=some i):ns[i]? = some x/\i<ns.length:=by
 refine ea1_2 (zip_lookup h) fun j h1 h2 => ?_
 have:=List.getElem?_eq_some_iff.mp h2
 obtain ⟨l,e⟩:=this
 rw [List.getElem_range] at e
 subst e
 exact ⟨h1,(List.getElem?_eq_some_iff.mp h1).1⟩
theorem zip_range_slots {ns:List Str}:(ns.zip (List.range ns.length)).map (·.2)=List.range ns.length:=List.map_snd_zip (by simp)
theorem an17 {p0 p1 p2 p3 p4 p5 p6 p7 p8 p9 p10 p11 p12 p13 p14 p15 p16 G:Prop} (h:(((((((((((((((p0/\p1)/\p2)/\p3)/\p4)/\p5)/\p6)/\p7)/\p8)/\p9)/\p10)/\p11)/\p12)/\p13)/\p14)/\p15)/\p16) (k:p0->p1->p2->p3->p4->p5->p6->p7->p8->p9->p10->p11->p12->p13->p14->p15->p16->G):G:=k h.1.1.1.1.1.1.1.1.1.1.1.1.1.1.1.1 h.1.1.1.1.1.1.1.1.1.1.1.1.1.1.1.2 h.1.1.1.1.1.1.1.1.1.1.1.1.1.1.2 h.1.1.1.1.1.1.1.1.1.1.1.1.1.2 h.1.1.1.1.1.1.1.1.1.1.1.1.2 h.1.1.1.1.1.1.1.1.1.1.1.2 h.1.1.1.1.1.1.1.1.1.1.2 h.1.1.1.1.1.1.1.1.1.2 h.1.1.1.1.1.1.1.1.2 h.1.1.1.1.1.1.1.2 h.1.1.1.1.1.1.2 h.1.1.1.1.1.2 h.1.1.1.1.2 h.1.1.1.2 h.1.1.2 h.1.2 h.2
set_option tactic.hygienic true in
theorem snd_fn (O:D.Ok) (hΦ:SndΦ D n Φ) {f:Nat} {d:Fn} (da:DefAt D f d) {vs:List V} {σ:Mob.H} {v:V} {σ':Mob.H} {A:Around} {ρ:Rho} {s:Shared} {vals:List Value} (h:runFn Φ D.G d vs σ=some (v,σ'))
  (rm:RoomC A (n+1)) (r:Rel D.g ρ σ s.heap) (al:All2 (VR ρ s.heap) vs vals) :
  codeAny D.M A (.call (.ref (D.fa f)) ⟨vals,[]⟩) (fun r s'=>match r with | .ok (.ret x)=>PE D.g ρ σ s v σ' x s' | _=>False) s:=by
 revert D n Φ f d vs σ v σ' A ρ s vals
 exists D,n,Φ
 intro O hΦ
 exists f,d
 intro da
 exists vs,σ,v,σ',A,ρ,s,vals
 intro h rm r al
 refine ea4_4 da.at_ ?_
 exists o,fd,body,nms
 intro ho hd hcr fk
 have hc:=fk.chk
 unfold chkFn at hc
 simp only [Bool.and_eq_true,List.isEmpty_iff,Option.isNone_iff_eq_none,beq_iff_eq,decide_eq_true_eq,Bool.not_eq_true',List.all_eq_true] at hc
 refine an17 hc fun p1 p2 p3 p4 p5 p6 q1 nd q2 q3 q4 k1 k2 k3 k4 k5 k6 => ?_
 clear hc
 unfold runFn at h
 split at h
 rotate_left
 ·cases h
 rename_i hn
 refine an2 hn fun hn1 hn2 => ?_
 have hlen:=al.len
 have ndp:(fd.params.args.map (·.arg)).Nodup:=by rw [q1]; exact nd.sublist (List.take_sublist ..)
 have hcs:∀ x,fd.scope.names.lookup x=some .cell->((cellsFrom (s.heap.objs.size+1) fd.scope.names []).lookup x).isSome=true:=fun x hx=>cellsFrom_has (.inl (mem_of_lookup hx))
 refine codeAny_call_cells (by have:=rm.depth; unfold recursionLimit; lia) (r.keep _ _ ho) hd (O.lim.keeps r.keep) (hcr.keeps r.keep) fk.bdy
  (bindArgs_plain p1 p2 p3 p5 fk.dfl (by rw [q4]; exact Eq.trans (Eq.symm hn1) hlen) ndp) fk.clo ?_ ?_ k2 k3 k1
 ·intro x hx
  have hx1:x.1∈fd.params.args.map (·.arg):=(List.of_mem_zip hx).1
  have:=k4 x.1 hx1
  unfold isTgt at this
  split at this
  ·rename_i hk; exact .inl hk
  ·rename_i hk; exact .inr ⟨hk,hcs _ hk⟩
  ·cases this
 ·exists s1
  intro ic
  generalize hE:callEnvC fd s.heap.objs.size (D.fa f)=env at ic ⊢
  have e1:env.scope=fd.scope:=by rw [<- hE]; rfl
  have e2:env.locals=s.heap.objs.size:=by rw [<- hE]; rfl
  have e3:env.cells=cellsFrom (s.heap.objs.size+1) fd.scope.names []:=by rw [<- hE]; rfl
  have e4:env.globals=mainGlobals:=by rw [<- hE]; exact fk.glo
  have e5:env.builtins=builtinsNs:=by rw [<- hE]; exact fk.blt
  refine ea2_2 ic.toInCall.done ?_
  exists h1,tk
  intro es kp
  subst es
  have kof:∀ x,env.kindOf x=fd.scope.names.lookup x:=fun x=>by rw [<- e1]; rfl
  have fresh:∀ b,Priv env b->s.heap.get? b=none:=by
   rintro b (rfl | ⟨x,hx⟩)
   ·rw [e2]; exact Heap.get?_none_of_le (Nat.le_refl _)
   ·have:=ic.above x b (mem_of_lookup hx)
    rw [e2] at this
    exact Heap.get?_none_of_le (Nat.le_of_lt this)
  have ok:EnvOk env:=⟨by rw [e1]; exact k1,e4,e5,fun x y c h1 h2=>name_of_addr ic.apart (mem_of_lookup h1) (mem_of_lookup h2),fun x hx=>by
   rw [kof] at hx
   have:=hcs x hx
   rw [e3]
   exact Option.isSome_iff_exists.mp this⟩
  have r1:Rel D.g ρ σ h1:=r.ext kp
  have st0:Step ρ σ s.heap NoW ρ σ h1 := .ext kp
  have locv:∀ (i:Nat) u,(vs++List.replicate (d.nv - d.np) V.undef)[i]? = some u->u = .undef\/(i<d.np/\vs[i]? = some u):=by
   intro i u hu
   rw [List.getElem?_append] at hu
   split at hu
   ·exact .inr ⟨by lia,hu⟩
   ·left
    have:=List.getElem?_eq_some_iff.mp hu
    obtain ⟨_,e⟩:=this
    rw [List.getElem_replicate] at e
    exact e.symm
  have nmp:∀ {x:Str} {i:Nat},nms[i]? = some x->i<d.np->(fd.params.args.map (·.arg))[i]? = some x:=by
   intro x i h1 h2
   rw [q1,List.getElem?_take_of_lt h2]
   exact h1
  have L:Loc D.g env (nms.zip (List.range nms.length)) ρ σ h1 (vs++List.replicate (d.nv - d.np) V.undef):=by
   refine ⟨⟨_,ic.toInCall.ns,?_⟩,?_,?_,?_,?_,?_,?_⟩
   ·exists x,i,u
    intro m1 m2 m3 m4
    refine an2 (zip_range_lookup m1) fun m5 m6 => ?_
    exact (locv i u m3).elim (fun z=>absurd z m4) fun z=>an2 z fun m7 m8=>ea1_2 (al.get m8) fun y y1 y2=>⟨y,bindL_at m2 ndp (nmp m5 m7) y1,y2.step st0⟩
   ·exists x,i,u
    intro m1 m2 m3
    refine an2 (zip_range_lookup m1) fun m5 m6 => ?_
    have m2':env.kindOf x=some .cell:=by
     rcases m2 with z | z
     ·exact z
     ·have:=k5 x (List.mem_of_getElem? m5)
      rw [kof] at z
      rw [z] at this
      simp at this
    refine ex1 (ok.cellAt x m2') fun c hc => ?_
    refine ix2 c _ ⟨hc,ic.cell x c hc,fun m4 => ?_⟩
    exact (locv i u m3).elim (fun z=>absurd z m4) fun z=>an2 z fun m7 m8=>ea1_2 (al.get m8) fun y y1 y2=>⟨y,bindC_at (by rw [m2']; decide) ndp (nmp m5 m7) y1,y2.step st0⟩
   ·intro x c hx
    exact ⟨_,ic.cell x c hx⟩
   ·intro b pb q
    exact ex1 (r.own_at q) fun o' ho'=>nos ((fresh b pb).symm.trans ho')
   ·intro b pb
    cases z:D.g.base.get? b with
    | none=>rfl
    | some o'=>exact nos ((fresh b pb).symm.trans (r.keep _ _ z))
   ·intro x i m1 m2
    refine an2 (zip_range_lookup m1) fun m5 m6 => ?_
    rw [List.length_append,List.length_replicate]
    lia
   ·intro i u m1 m2
    rw [zip_range_slots] at m2
    exact (locv i u m1).elim id fun z=>absurd (List.mem_range.mpr (Z.ltR z.1 q2)) m2
  have H:Here D (A.deeper env) n env (nms.zip (List.range nms.length)) ρ σ h1 (vs++List.replicate (d.nv - d.np) V.undef) :=
   ⟨ok,rm.deeper env,by rw [zip_range_slots]; exact List.nodup_range,r1,L⟩
  have back:∀ {ρ':Rho} {s':Shared},Step ρ σ h1 (Priv env) ρ' σ' s'.heap->Step ρ σ s.heap NoW ρ' σ' s'.heap:=fun st =>
   Step.drop (X:=Priv env) ((Step.weak st0 fun _ f=>f.elim).trans (st.weak fun b hb => .inr hb)) fresh
  split at h
  ·rename_i u l2 σ2 e
   cases h
   refine wpAny_mono ((snd_Ss O hΦ d.body).u (s:={ s with heap:=h1,toks:=tk }) (Ex:=fun _ _=>False) (by rw [e1]; exact k6) e H) (fun fl s2 z => ?_) fun _ _ x=>x.elim
   exact z.elim fun ρ2 z=>⟨ρ2,back z.1,z.2.1,z.2.2.1,z.2.2.2.1.elim fun x zx=>zx.1 ▸ zx.2⟩
  ·rename_i l2 σ2 e
   cases h
   refine wpAny_mono ((snd_Ss O hΦ d.body).u (s:={ s with heap:=h1,toks:=tk }) (Ex:=fun _ _=>False) (by rw [e1]; exact k6) e H) (fun fl s2 z => ?_) fun _ _ x=>x.elim
   obtain ⟨ρ2,st2,r2,sa2,fr,_⟩:=z
   cases fr
   exact ⟨ρ2,back st2,r2,sa2,rfl⟩
  ·cases h
theorem m0f {β:Type} {o:Option Fn} {f:Fn->Option β} {r:β} {G:Prop} (h:(match o with | none=>none | some v=>f v)=some r) (k:∀ v,o=some v->f v=some r->G):G:=by
 cases o with
 | none=>exact nos h
 | some p=>exact k p rfl h
theorem snd_call (O:D.Ok) {P:Nat->Option Fn} (hP:∀ f d,P f=some d->DefAt D f d):∀ n,SndΦ D n (callN P D.G n)
 | 0=>fun _ _ _ _ _ _ _ _ _ h=>by cases h
 | n+1=>by
  intro f vs σ v σ' A ρ s vals h rm r al
  refine m0f h fun d hd h => ?_
  exact snd_fn O (snd_call O hP n) (hP f d hd) h rm r al
end
end Mob
namespace Mob
open PySem PySem.W PyProof.Rows PySem.Calls
noncomputable def NM:Nm:=⟨fnNames,clNames,glNames,attrNames⟩
noncomputable def faT:List Addr:=[21,28,35,42,49,56,63,70,77,84,134,141,148,155,162,169,176,183,190,197,204,211,218,225,253,260,267,274,281,288,295,302,309,316,323,330,363,370,377,384,391,398,405,412,419,426,455,462,469,476,483,490,497,504,537,542,549,556,563,570,575,582,589,594,599,604,611]
noncomputable def caOf (_:Frag) (c:Nat):Addr:=[0,123,242,352,443].getD c 0
noncomputable def faOf (_:Frag) (f:Nat):Addr:=if f<1000 then faT.getD f 0 else [120,239,349,440].getD (f - 1001) 0
noncomputable def tabA (_:Frag):List Addr:=[335,448,505,512,506,507,508,509,510,511,521,530]
noncomputable def fdOf (K:Frag) (f:Nat):Option (FuncData × List Stmt):=match K.lookup (faOf K f) with
 | some ⟨_,_,.func fd,_⟩=>(match fd.body with
  | .stmts body=>some (fd,body)
  | _=>none)
 | _=>none
noncomputable def smallOk (K:Frag) (fd:FuncData):Bool:=fd.closure.isEmpty&&fd.globals==mainGlobals&&fd.builtins==builtinsNs&&(fd.defaults == .none)&&codeIn K fd.code fd.qualname
noncomputable def okFn (K:Frag) (f:Nat) (d:Fn):Bool:=match fdOf K f with
 | some p=>smallOk K p.1&&chkFn NM d (namesOf f) p.1.params p.1.scope p.2
 | none=>false
noncomputable def progIds:List Nat:=List.range 67++[1001,1002,1003,1004]
noncomputable def okF (K:Frag) (f:Nat):Bool:=match prog f with | some d=>okFn K f d | none=>true
noncomputable def okFh (h:Heap) (f:Nat):Prop:=∃ K:Frag,K.In h/\okF K f=true
set_option tactic.hygienic true in
theorem okFn_at {D:Wd} {K:Frag} {f:Nat} {d:Fn} (X:K.In D.g.base) (hN:D.N=NM) (hfa:D.fa f=faOf K f) (e:okFn K f d=true):DefAt D f d:=by
 revert D f d
 exists D,f,d
 intro X hN hfa e
 unfold okFn at e
 cases q:fdOf K f with
 | none=>rw [q] at e; cases e
 | some p =>
  rw [q] at e
  unfold fdOf at q
  split at q
  rotate_left
  ·cases q
  rename_i c dd fd sl hl
  split at q
  rotate_left
  ·cases q
  rename_i body hb
  cases q
  unfold smallOk at e
  simp only [Bool.and_eq_true,List.isEmpty_iff,beq_iff_eq] at e
  exact ⟨_,fd,body,namesOf f,hfa ▸ X _ _ hl,rfl,codeRec_of X e.1.2,⟨hb,e.1.1.1.1.1,e.1.1.1.1.2,e.1.1.1.2,e.1.1.2,hN ▸ e.2⟩⟩
set_option tactic.hygienic true in
theorem mg_none {K:Frag} {h:Heap} {mg:Str->Option Value} {n:Str} (X:K.In h) (G:h.Ns mainGlobals mg) (e:nsIn K mainGlobals n=some none):mg n=none:=by
 revert K h mg n
 exists K,h,mg,n
 intro X G e
 refine ea3_4 G fun o es ep ho hd _ hf => ?_
 try clear G
 unfold nsIn at e
 split at e
 ·rename_i c d es' n' sl q
  have:=X _ _ q
  rw [ho] at this
  cases this
  cases hd
  split at e
  ·cases e
  ·rename_i he
   rw [<- hf]
   unfold nsFind findBy
   rw [<- Array.find?_toList,he]
   rfl
 ·cases e
noncomputable def matchL {α β:Type} (m:α->β->Bool):List α->List β->Bool
 | [],[]=>true
 | a::as,b::bs=>m a b&&matchL m as bs
 | _,_=>false
theorem matchL_all {α β:Type} {m:α->β->Bool} {R:α->β->Prop} (f:∀ a b,m a b=true->R a b):∀ {as:List α} {bs:List β},matchL m as bs=true->All2 R as bs
 | [],[],_ => .nil
 | a::as,b::bs,h=>bt h fun x y => .cons (f _ _ x) (matchL_all f y)
 | [],_::_,h=>by cases h
 | _::_,[],h=>by cases h
noncomputable def isNo:Value->Bool
 | .none=>true
 | _=>false
noncomputable def isIn (i:Int):Value->Bool
 | .int j _=>i==j
 | _=>false
noncomputable def isRe (f:Addr->Bool):Value->Bool
 | .ref b=>f b
 | _=>false
theorem isNo_i {x:Value} (h:isNo x=true):x = .none:=by cases x <;> first | rfl | exact absurd h Bool.false_ne_true
theorem isIn_i {x:Value} {i:Int} (h:isIn i x=true):∃ t,x = .int i t:=by cases x <;> first | exact ⟨_,congrArg (Value.int · _) (eq_of_beq h).symm⟩ | exact absurd h Bool.false_ne_true
theorem isRe_i {x:Value} {f:Addr->Bool} (h:isRe f x=true):∃ b,x = .ref b/\f b=true:=by cases x <;> first | exact ⟨_,rfl,h⟩ | exact absurd h Bool.false_ne_true
noncomputable def matchA:A->Value->Bool
 | .none,x=>isNo x
 | .int i,x=>isIn i x
 | _,_=>false
noncomputable def matchV (K:Frag) (tb:List Addr):V->Value->Bool
 | .none,x=>isNo x
 | .int i,x=>isIn i x
 | .ref (a+1),x=>isRe (fun b=>tb[a]? == some b) x
 | .tup xs,x=>isRe (fun a=>match K.lookup a with
  | some ⟨c,_,.seq vs _,_⟩=>c == .type "tuple" && matchL matchA xs vs.toList&&decide (xs.length<=LIM)
  | _=>false) x
 | _,_=>false
noncomputable def rhoOf (sc:Addr) (tb:List Addr):Rho:=(sc,sc)::tb.map fun a=>(a,a)
set_option tactic.hygienic true in
theorem matchV_VR {K:Frag} {h:Heap} (X:K.In h) {tb:List Addr} {sc:Addr} {v:V} {x:Value} (e:matchV K tb v x=true):VR (rhoOf sc tb) h v x:=by
 revert K h tb sc v x
 exists K,h
 intro X
 exists tb,sc,v,x
 intro e
 cases v with
 | none=>rw [isNo_i e]; rfl
 | int i=>exact ex1 (isIn_i e) fun t z=>⟨t,z⟩
 | ref a=>cases a with
  | zero=>cases e
  | succ a=>exact ea1_2 (isRe_i e) fun b z q=>⟨(b,b),by rw [rhoOf,List.getElem?_cons_succ,List.getElem?_map,eq_of_beq q]; rfl,z⟩
 | tup xs =>
  refine ea1_2 (isRe_i e) fun a z e => ?_
  split at e
  ·rename_i c dd vs n sl hl
   simp only [Bool.and_eq_true,beq_iff_eq,decide_eq_true_eq] at e
   refine ix2 a vs.toList ⟨z,⟨_,X _ _ hl,e.1.1,n,by simp⟩,matchL_all (fun p q hpq => ?_) e.1.2,e.2⟩
   cases p with
   | none=>rw [isNo_i hpq]; rfl
   | int i=>exact ex1 (isIn_i hpq) fun t z=>⟨t,z⟩
   | ref=>cases hpq
  ·cases e
 | _=>cases e
noncomputable def matchO (K:Frag) (tb:List Addr) (o:O) (a:Addr):Bool:=match o with
 | .list true xs=>(match K.lookup a with
  | some ⟨c,_,.seq vs _,_⟩=>c == .type "list" && matchL (matchV K tb) xs vs.toList&&decide (xs.length<=LIM)
  | _=>false)
 | _=>false
noncomputable def okTabs (K:Frag):Bool:=matchL (matchO K (tabA K)) tables (tabA K)
noncomputable def okGl (K:Frag):Bool:=glNames.all fun p=>match nsIn K mainGlobals p.1 with
 | some (some v)=>matchV K (tabA K) (glb p.2) v
 | _=>false
noncomputable def okNames (K:Frag):Bool :=
 fnNames.all (fun p=>nsIn K mainGlobals p.1==some (some (.ref (faOf K p.2)))&&decide (p.2∈progIds)&&(prog p.2).isSome) &&
 clNames.all (fun p=>nsIn K mainGlobals p.1==some (some (.ref (caOf K p.2)))&&decide (0<p.2)&&decide (p.2<5)&&keepIn K (.ref (caOf K p.2))) &&
 [Bi.len,.range,.min,.max,.abs,.list].all (fun b=>nsIn K mainGlobals (biName b)==some none)
noncomputable def okCls (K:Frag):Bool:=[1,2,3,4].all fun c=>clsOk K (caOf K c) attrNames (faOf K (1000+c))
section
variable {K:Frag} {base:Heap} {sc:Addr} {prog':Program} {w:World} {mg mb:Str->Option Value}
noncomputable def wd (prog':Program) (w:World) (K:Frag) (base:Heap) (sc:Addr) (mg mb:Str->Option Value):Wd :=
 ⟨prog',w,K,NM,glb,faOf K,⟨base,caOf K,attrNames,rhoOf sc (tabA K)⟩,mg,mb⟩
set_option tactic.hygienic true in
theorem wd_ok (X:K.In base) (hg:base.Ns mainGlobals mg) (hb:base.Ns builtinsNs mb) (hl:base.NoLimit) (hbi:∀ b,mb (biName b)=some (biVal b)) (e1:∀ f∈progIds,okFh base f) (e2:okTabs K=true) (e3:okGl K=true) (e4:okNames K=true) (e5:okCls K=true) :
  (wd prog' w K base sc mg mb).Ok:=by
 revert K base sc prog' w mg mb
 exists K,base,sc,prog',w,mg,mb
 intro X hg hb hl hbi e1 e2 e3 e4 e5
 unfold okNames at e4
 simp only [Bool.and_eq_true,List.all_eq_true,beq_iff_eq,decide_eq_true_eq] at e4
 refine an2 e4 fun zq => ?_
 try clear e4
 refine an2 zq fun e4 e6 => ?_
 clear zq
 intro e7
 refine ⟨X,(by decide:attrNames.Nodup),rfl,hg,hb,hl,fun b=>⟨mg_none X hg (e7 b (by cases b <;> simp)),hbi b⟩,?_,?_,?_,?_⟩
 ·intro x k u hx hu
  have:=List.all_eq_true.mp e3 _ (mem_of_lookup hx)
  dsimp only at this
  split at this
  ·rename_i v hv
   refine ⟨v,mg_of X hg hv,?_⟩
   have hu':glb k=u/\u ≠ .undef:=by
    have hu:rdV (glb k)=some u:=hu
    cases q:glb k <;> rw [q] at hu <;> simp only [rdV,Option.some.injEq,reduceCtorEq] at hu <;> (subst hu; exact ⟨rfl,nofun⟩)
   rw [<- hu'.1]
   exact matchV_VR X this
  ·cases this
 ·intro x f hx
  refine an2 (e4 _ (mem_of_lookup hx)) fun zq => ?_
  refine an2 zq fun h1 h2 => ?_
  clear zq
  intro h3
  refine ⟨mg_of X hg h1,?_⟩
  obtain ⟨d,hd⟩:=Option.isSome_iff_exists.mp h3
  refine ex1 (e1 _ h2) fun K' y => ?_
  have this:=y.2
  unfold okF at this
  rw [show prog (x,f).2=some d from hd] at this
  refine ea4_3 ((okFn_at (D:=wd prog' w K base sc mg mb) y.1 rfl rfl this).at_) fun o fd _ _ ho hd' _ => ?_
  exact ix2 o fd ⟨ho,hd'⟩
 ·intro x c hx
  refine an2 (e6 _ (mem_of_lookup hx)) fun zq => ?_
  refine an2 zq fun zq2 => ?_
  clear zq
  refine an2 zq2 fun h1 h2 => ?_
  clear zq2
  intro h3
  intro h4
  exact ⟨mg_of X hg h1,h2,h3,h4⟩
 ·intro c c5 c0
  have:=List.all_eq_true.mp e5 c (by
   have:c=1\/c=2\/c=3\/c=4:=by lia
   rcases this with rfl | rfl | rfl | rfl <;> simp)
  exact cls_of this
set_option tactic.hygienic true in
theorem rel0 (X:K.In base) (e2:okTabs K=true) {script:List Int} {vs:List Value} (hl:base.IsList sc vs.toArray) (hi:IntsAre vs script) (hz:script.length<=63) :
  Rel ⟨base,caOf K,attrNames,rhoOf sc (tabA K)⟩ (rhoOf sc (tabA K)) (heap0 script) base:=by
 revert K base sc script vs
 exists K,base,sc
 intro X e2
 exists script,vs
 intro hl hi hz
 have tabs:All2 (fun o a=>matchO K (tabA K) o a=true) tables (tabA K):=matchL_all (fun _ _ h=>h) e2
 have hints:∀ {is:List Int} {xs:List Value},IntsAre xs is->All2 (VR (rhoOf sc (tabA K)) base) (is.map V.int) xs:=by
  intro is xs h
  induction h with
  | nil=>exact .nil
  | cons i t _ ih=>exact .cons ⟨_,rfl⟩ ih
 have key:∀ (a:Nat) (o:O) (e:Addr × Addr),(heap0 script)[a]? = some o->(rhoOf sc (tabA K))[a]? = some e->o.live=false/\OR ⟨base,caOf K,attrNames,rhoOf sc (tabA K)⟩ (rhoOf sc (tabA K)) base o e:=by
  intro a o e h1 h2
  cases a with
  | zero =>
   cases h1
   cases h2
   refine ea1_3 hl fun o' k1 k2 zq => ?_
   try clear hl
   refine ex1 zq fun n k3 => ?_
   clear zq
   exact ⟨rfl,vs,o',n,rfl,k1,k2,k3,nofun,hints hi,by rw [List.length_map]; unfold LIM; exact Nat.le_trans hz (by decide)⟩
  | succ a =>
   unfold heap0 at h1
   unfold rhoOf at h2
   rw [List.getElem?_cons_succ] at h1 h2
   rw [List.getElem?_map] at h2
   refine ea1_2 (Option.map_eq_some_iff.mp h2) fun b hb zq => ?_
   subst zq
   refine ea1_2 (tabs.get h1) fun b' hb' m => ?_
   rw [hb] at hb'
   cases hb'
   unfold matchO at m
   split at m
   rotate_left
   ·cases m
   rename_i xs
   split at m
   rotate_left
   ·cases m
   rename_i c dd ws n sl hlk
   simp only [Bool.and_eq_true,beq_iff_eq,decide_eq_true_eq] at m
   refine an2 m fun zq => ?_
   try clear m
   refine an2 zq fun m1 m2 => ?_
   clear zq
   intro m3
   exact ⟨rfl,ws.toList,_,n,rfl,X _ _ hlk,m1,by simp,nofun,matchL_all (fun _ _ h=>matchV_VR X h) m2,m3⟩
 refine ⟨fun _ _ e=>e,?_,fun a o e h1 h2=>(key a o e h1 h2).2,?_,?_,?_,⟨[],by simp⟩⟩
 ·have:=tabs.len
  unfold rhoOf heap0
  simp [this]
 ·intro a o e h1 _ h2
  exact (key a o e h1 h2).2.at1
 ·intro a o e h1 h2 h3
  rw [(key a o e h1 h3).1] at h2; cases h2
 ·intro a b o o' e e' _ h1 h2 h3 h4 h5 h6
  rw [(key a o e h1 h5).1] at h3; cases h3
end
end Mob
namespace Mob
open PySem PySem.W PyProof.Rows
set_option tactic.hygienic true
set_option maxRecDepth 1000000
set_option maxHeartbeats 0
noncomputable def needA:List Nat:=[3,105,106,120,122,123,239,241,242,331,332,333,334,335,349,351,352,440,442,443,448,505,506,507,508,509,510,511,512,513,514,515,516,517,518,519,520,521,522,523,524,525,526,527,528,529,530]
noncomputable def hFr (L:List Nat) (h:Heap):Frag:=L.filterMap fun a=>(h.get? a).map fun o=>(a,o)
noncomputable def hFrag (h:Heap):Frag:=hFr needA h
noncomputable def stT:List Nat:=[10,11,13,14,15,16,17,19,20,21,28,29,30,31,32,33,34,35,37,38,39,40,41,42,45,46,47,48,50,51,52,53,55,56,57,59,63,64,65,66,67,68,69,70,71,72,77,78,79,80,81,82,83,84,90,91,92,93,94,95,96,97,98,99,100,101,102,27,44,62,74]
noncomputable def defS:Stmt->Option (Arguments × Scope × List Stmt)
 | .FunctionDef _ ps body _ _ _ sc _ _ _=>some (ps,sc,body)
 | .ClassDef _ _ _ cb _ _ _ _ _ _ _=>cb.findSome? fun st=>match st with
  | .FunctionDef n ps body _ _ _ sc _ _ _=>if n == "__init__" then some (ps,sc,body) else none
  | _=>none
 | _=>none
noncomputable def defO (f:Nat):Option (Arguments × Scope × List Stmt):=(stT[if f<1000 then f else f - 934]?).bind fun i=>(PySem.Challenge.pw_nt0452_01.main.body[i]?).bind defS
noncomputable def fnK (h:Heap) (f:Nat):Frag:=hFr [faOf [] f,faOf [] f - 1] h
noncomputable def fnV (h:Heap) (f:Nat):Option (Bool × Arguments × Scope × List Stmt):=(fdOf (fnK h f) f).map fun p=>(smallOk (fnK h f) p.1,p.1.params,p.1.scope,p.2)
noncomputable def lawE (f:Nat):Option (Bool × Arguments × Scope × List Stmt):=(defO f).map fun d=>(true,d)
noncomputable def chkD (f:Nat):Bool:=match defO f,prog f with
 | some d,some g=>chkFn NM g (namesOf f) d.1 d.2.1 d.2.2
 | _,_=>false
theorem okF_of {h:Heap} {f:Nat} (e1:fnV h f=lawE f) (e2:chkD f=true):okF (fnK h f) f=true:=by
 unfold chkD at e2
 unfold fnV lawE at e1
 cases hd:defO f with
 | none=>rw [hd] at e2; cases e2
 | some d =>
  cases hp:prog f with
  | none=>rw [hd,hp] at e2; cases e2
  | some g =>
   rw [hd,hp] at e2
   rw [hd] at e1
   unfold okF okFn
   rw [hp]
   cases q:fdOf (fnK h f) f with
   | none=>rw [q] at e1; cases e1
   | some p =>
    rw [q] at e1
    have z:(smallOk (fnK h f) p.1,p.1.params,p.1.scope,p.2)=(true,d):=Option.some.inj e1
    obtain ⟨ps,sc,body⟩:=d
    injection z with z1 z
    injection z with z2 z
    injection z with z3 z4
    show (smallOk (fnK h f) p.1&&chkFn NM g (namesOf f) p.1.params p.1.scope p.2)=true
    rw [z1,z2,z3,z4]
    exact e2
noncomputable def lawQ:Program:=view PySem.Challenge.pw_nt0452_01 [102]
noncomputable def lawLoose:List Str:=[PySem.Str.ofString "WHITE",PySem.Str.ofString "BLACK",PySem.Str.ofString "PAWN",PySem.Str.ofString "KNIGHT",PySem.Str.ofString "BISHOP",PySem.Str.ofString "ROOK",PySem.Str.ofString "QUEEN",PySem.Str.ofString "KING",PySem.Str.ofString "EMPTY",PySem.Str.ofString "side_of",PySem.Str.ofString "kind_of",PySem.Str.ofString "count_bits",PySem.Str.ofString "more_than_one",PySem.Str.ofString "highest",PySem.Str.ofString "lowest",PySem.Str.ofString "squares_of",PySem.Str.ofString "direction",PySem.Str.ofString "between",PySem.Str.ofString "line",PySem.Str.ofString "ChessError",PySem.Str.ofString "STEP_FILES",PySem.Str.ofString "STEP_RANKS",PySem.Str.ofString "Geometry",PySem.Str.ofString "is_growing",PySem.Str.ofString "add_masks",PySem.Str.ofString "inner_squares",PySem.Str.ofString "add_rays",PySem.Str.ofString "add_pawns",PySem.Str.ofString "add_knights",PySem.Str.ofString "add_castles",PySem.Str.ofString "make_geometry",PySem.Str.ofString "ray_attacks",PySem.Str.ofString "rook_attacks",PySem.Str.ofString "bishop_attacks",PySem.Str.ofString "queen_attacks",PySem.Str.ofString "slider_attacks",PySem.Str.ofString "piece_attacks",PySem.Str.ofString "Position",PySem.Str.ofString "put_piece",PySem.Str.ofString "occupied",PySem.Str.ofString "pieces",PySem.Str.ofString "king_square",PySem.Str.ofString "straight_sliders",PySem.Str.ofString "slanting_sliders",PySem.Str.ofString "snipers_of",PySem.Str.ofString "blockers",PySem.Str.ofString "shift_up",PySem.Str.ofString "neighbours",PySem.Str.ofString "pawn_attacks",PySem.Str.ofString "make_score",PySem.Str.ofString "MOBILITY_ENDS",PySem.Str.ofString "AttackMap",PySem.Str.ofString "rank_board",PySem.Str.ofString "seen_stops",PySem.Str.ofString "piece_reach",PySem.Str.ofString "attack_map",PySem.Str.ofString "attack_maps",PySem.Str.ofString "area_of",PySem.Str.ofString "mobility_area",PySem.Str.ofString "mobility",PySem.Str.ofString "mobility_bonus",PySem.Str.ofString "mobility_score",PySem.Str.ofString "Zobrist",PySem.Str.ofString "RING_WEIGHTS",PySem.Str.ofString "off_edge",PySem.Str.ofString "king_ring",PySem.Str.ofString "guarded_ring",PySem.Str.ofString "ring_attackers",PySem.Str.ofString "weak_squares",PySem.Str.ofString "flank_files",PySem.Str.ofString "flank_squares",PySem.Str.ofString "storm_count",PySem.Str.ofString "_law_weights",PySem.Str.ofString "_law_ends",PySem.Str.ofString "_law_ways",PySem.Str.ofString "_law_jumps",PySem.Str.ofString "_law_board",PySem.Str.ofString "_law_position",PySem.Str.ofString "_law_bits",PySem.Str.ofString "_law_ray",PySem.Str.ofString "_law_hops",PySem.Str.ofString "_law_shields",PySem.Str.ofString "_law_reach",PySem.Str.ofString "_law_looks",PySem.Str.ofString "_law_area",PySem.Str.ofString "_law_ring",PySem.Str.ofString "_law_into",PySem.Str.ofString "_law_side"]
theorem hFr_in (L:List Nat) (h:Heap):(hFr L h).In h:=by
 intro a o e
 unfold hFr at e
 have key:∀ l:List Nat,(l.filterMap fun a=>(h.get? a).map fun o=>(a,o)).lookup a=some o->h.get? a=some o:=by
  intro l
  induction l with
  | nil=>intro e; cases e
  | cons b l ih =>
   intro e
   rw [List.filterMap_cons] at e
   cases hb:h.get? b with
   | none=>rw [hb] at e; exact ih e
   | some x =>
    rw [hb] at e
    simp only [Option.map_some,List.lookup_cons] at e
    split at e
    ·rename_i q
     have:a=b:=by simpa using q
     subst this
     rw [hb]; exact e
    ·exact ih e
 exact key _ e
theorem lawA (w:World):(openEnds treeTable PySem.Challenge.pw_nt0452_01 w 8100).map (fun s=>(openSeen lawQ lawLoose (importedModules PySem.Challenge.pw_nt0452_01.main.body) (fun _=>true) true s,okTabs (hFrag s.heap)&&okGl (hFrag s.heap)&&okNames (hFrag s.heap)&&okCls (hFrag s.heap)))=some (openGood lawQ lawLoose,true):=by
 unfold openEnds fencedOpening topFrom
 simp only [PySem.W.Fast.te14364793385576792824,PySem.W.Fast.te14082659384304107361,PySem.W.Fast.te14289696077712309145,PySem.W.Fast.te5923862056798008813,PySem.W.Fast.te8920871248978507458,PySem.W.Fast.te4187177175401517315]
 kernel_rfl
theorem lawF (w:World):(openEnds treeTable PySem.Challenge.pw_nt0452_01 w 8100).map (fun s=>progIds.map (fnV s.heap))=some (progIds.map lawE):=by
 unfold openEnds fencedOpening topFrom
 simp only [PySem.W.Fast.te14364793385576792824,PySem.W.Fast.te14082659384304107361,PySem.W.Fast.te14289696077712309145,PySem.W.Fast.te5923862056798008813,PySem.W.Fast.te8920871248978507458]
 kernel_rfl
theorem chkAll:progIds.all chkD=true:=by kernel_rfl
theorem ws1:OpenRow.wellSaid (OpenLaw.row PySem.Challenge.rw_nt0452_01)=true:=by kernel_rfl
theorem ws:OpenLaw.wellSaid PySem.Challenge.rw_nt0452_01=true:=by
 unfold OpenLaw.wellSaid
 rewrite [ws1]
 kernel_rfl
set_option maxRecDepth 100000
set_option maxHeartbeats 4000000
end Mob
namespace Mob
open PySem.Builtin (bitAnd bitOr bitXor bitNot)
noncomputable def ibit:Int->Nat->Bool
 | x,0=>decide (x%2=1)
 | x,i+1=>ibit (x / 2) i
theorem ibit_zero:∀ i,ibit 0 i=false
 | 0=>rfl
 | i+1=>ibit_zero i
theorem ibit_m1:∀ i,ibit (-1) i=true
 | 0=>rfl
 | i+1=>ibit_m1 i
theorem ibit_not:∀ (i:Nat) (x:Int),ibit (bitNot x) i = !ibit x i
 | 0,x=>by
  unfold ibit bitNot
  by_cases h:x%2=1
  ·have:¬ (-x - 1)%2=1:=by exact Z.ng0 h
   simp [h,this]
  ·have:(-x - 1)%2=1:=by exact Z.ng1 h
   simp [h,this]
 | i+1,x=>by
  show ibit (bitNot x / 2) i = !ibit (x / 2) i
  have:bitNot x / 2=bitNot (x / 2):=by unfold bitNot; exact Z.ng2
  rw [this,ibit_not i]
theorem ibit_and:∀ (i:Nat) (x y:Int),ibit (bitAnd x y) i=(ibit x i&&ibit y i)
 | 0,x,y=>by
  have h:=PySem.W.kbt_halves x y
  unfold ibit
  by_cases c:x%2=1/\y%2=1
  ·rw [if_pos c] at h
   have:bitAnd x y%2=1:=by lia
   simp [this,c.1,c.2]
  ·rw [if_neg c] at h
   have:¬ bitAnd x y%2=1:=by lia
   rw [decide_eq_false this]
   by_cases c1:x%2=1
   ·have:¬ y%2=1:=fun z=>c ⟨c1,z⟩
    simp [this]
   ·simp [c1]
 | i+1,x,y=>by
  have h:=PySem.W.kbt_halves x y
  show ibit (bitAnd x y / 2) i=(ibit (x / 2) i&&ibit (y / 2) i)
  have:bitAnd x y / 2=bitAnd (x / 2) (y / 2):=by split at h <;> lia
  rw [this,ibit_and i]
theorem ibit_or (i:Nat) (x y:Int):ibit (bitOr x y) i=(ibit x i||ibit y i):=by
 unfold bitOr
 rw [ibit_not,ibit_and,ibit_not,ibit_not]
 cases ibit x i <;> cases ibit y i <;> rfl
theorem ibit_xor:∀ (i:Nat) (x y:Int),ibit (bitXor x y) i=(ibit x i ^^ ibit y i)
 | 0,x,y=>by
  have h:=PySem.W.kbt_halves x y
  have e:=PyProof.Rows.bitXor_and x y
  unfold ibit
  by_cases c1:x%2=1 <;> by_cases c2:y%2=1
  ·have:¬ bitXor x y%2=1:=by lia
   simp [this,c1,c2]
  ·have:bitXor x y%2=1:=by lia
   simp [this,c1,c2]
  ·have:bitXor x y%2=1:=by lia
   simp [this,c1,c2]
  ·have:¬ bitXor x y%2=1:=by lia
   simp [this,c1,c2]
 | i+1,x,y=>by
  have h:=PySem.W.kbt_halves x y
  have e:=PyProof.Rows.bitXor_and x y
  have e2:=PyProof.Rows.bitXor_and (x / 2) (y / 2)
  show ibit (bitXor x y / 2) i=(ibit (x / 2) i ^^ ibit (y / 2) i)
  have:bitXor x y / 2=bitXor (x / 2) (y / 2):=by split at h <;> lia
  rw [this,ibit_xor i]
theorem half_le {u:Int} {n:Nat} (h:(2*u).natAbs<=n+1):u.natAbs<=n:=by
 rw [Int.natAbs_mul] at h
 generalize u.natAbs=m at h ⊢
 have h:2*m<=n+1:=h
 lia
theorem half_sub {x y:Int} (p:x%2=y%2):x - y=2*(x / 2 - y / 2):=by lia
theorem ibit_ext:∀ (n:Nat) (x y:Int),(x - y).natAbs<=n->(∀ i,ibit x i=ibit y i)->x=y
 | 0,x,y,h,_=>Int.eq_of_sub_eq_zero (Int.natAbs_eq_zero.mp (Nat.le_zero.mp h))
 | n+1,x,y,h,e=>by
  have p:x%2=y%2:=by
   have e0:decide (x%2=1)=decide (y%2=1):=e 0
   rw [decide_eq_decide] at e0
   exact Z.ev e0
  have d:=half_sub p
  rw [d] at h
  have:=ibit_ext n (x / 2) (y / 2) (half_le h) fun i=>e (i+1)
  rw [this,Int.sub_self] at d
  exact Int.eq_of_sub_eq_zero d
theorem ibit_inj {x y:Int} (h:∀ i,ibit x i=ibit y i):x=y:=ibit_ext _ x y (Nat.le_refl _) h
theorem ibit_shl:∀ (k i:Nat) (x:Int),ibit (x*2^k) i=(decide (k<=i)&&ibit x (i - k))
 | 0,i,x=>by simp
 | k+1,0,x=>by
  unfold ibit
  have:x*2^(k+1)=2*(x*2^k):=by rw [Int.pow_succ,<- Int.mul_assoc,Int.mul_comm]
  rw [this]
  simp
 | k+1,i+1,x=>by
  show ibit (x*2^(k+1) / 2) i=_
  have:x*2^(k+1) / 2=x*2^k:=by
   have:x*2^(k+1)=2*(x*2^k):=by rw [Int.pow_succ,<- Int.mul_assoc,Int.mul_comm]
   omega
  rw [this,ibit_shl k i x]
  simp
theorem ibit_ediv:∀ (k i:Nat) (x:Int),ibit (x / 2^k) i=ibit x (i+k)
 | 0,i,x=>by simp
 | k+1,i,x=>by
  have:x / 2^(k+1)=x / 2 / 2^k:=by
   rw [Int.pow_succ,Int.mul_comm,Int.ediv_ediv_of_nonneg (by decide)]
  rw [this,ibit_ediv k i (x / 2)]
  rfl
theorem ibit_shr (k i:Nat) (x:Int):ibit (x.fdiv (2^k)) i=ibit x (i+k):=by
 rw [Int.fdiv_eq_ediv_of_nonneg _ (Int.le_of_lt (PySem.W.kbt_pos k)),ibit_ediv]
theorem ibit_one:∀ i,ibit 1 i=decide (i=0)
 | 0=>rfl
 | i+1=>by show ibit 0 i=_; rw [ibit_zero]; simp
theorem ibit_pow (k i:Nat):ibit (2^k) i=decide (i=k):=by
 have:=ibit_shl k i 1
 rw [Int.one_mul] at this
 rw [this,ibit_one]
 by_cases h:i=k
 ·subst h; simp
 ·by_cases h2:k<=i
  ·have:¬ i - k=0:=by exact Z.ik h h2
   simp [h,h2,this]
  ·simp [h,h2]
theorem ibit_low {x:Int}:∀ (n:Nat) {x:Int},0<=x->x<2^n->∀ i,n<=i->ibit x i=false
 | 0,x,h1,h2,i,_=>by
  have:x=0:=by simp at h2; lia
  rw [this,ibit_zero]
 | n+1,x,h1,h2,0,h=>by lia
 | n+1,x,h1,h2,i+1,h=>by
  show ibit (x / 2) i=false
  refine ibit_low (x:=x) n (by lia) ?_ i (by exact Nat.le_of_lt_succ (Z.ltn h))
  rw [Int.pow_succ] at h2
  lia
theorem ibit_ne {x:Int} (h:x≠0):∃ i,ibit x i=true:=by
 apply Classical.byContradiction
 intro n
 apply h
 refine ibit_inj fun i => ?_
 rw [ibit_zero]
 cases q:ibit x i with
 | false=>rfl
 | true=>exact absurd ⟨i,q⟩ n
theorem ibit_ne_iff {x:Int}:x≠0↔∃ i,ibit x i=true:=⟨ibit_ne,fun ⟨i,h⟩ z=>by rw [z,ibit_zero] at h; cases h⟩
theorem ibit_drop:∀ (n:Nat) (x:Int),x.natAbs<=n->x≠0->∃ j,ibit x j=true/\(∀ i,i<j->ibit x i=false)/\∀ i,ibit (bitAnd x (x - 1)) i=(ibit x i&&decide (i≠j))
 | 0,x,h,z=>absurd (Int.natAbs_eq_zero.mp (Nat.le_zero.mp h)) z
 | n+1,x,h,z=>by
  by_cases o:x%2=1
  ·refine ⟨0,by unfold ibit; simp [o],fun i hi=>by lia,fun i => ?_⟩
   cases i with
   | zero =>
    rw [ibit_and]
    unfold ibit
    have:¬ (x - 1)%2=1:=by lia
    simp [this]
   | succ i =>
    rw [ibit_and]
    show (ibit (x / 2) i&&ibit ((x - 1) / 2) i)=_
    have:(x - 1) / 2=x / 2:=by exact Z.nm1 o
    rw [this]
    show _=(ibit (x / 2) i&&_)
    simp
  ·have z2:x / 2≠0:=by lia
   obtain ⟨j,h1,h2,h3⟩:=ibit_drop n (x / 2) (half_le (by rw [show 2*(x / 2)=x by lia]; exact h)) z2
   refine ⟨j+1,h1,fun i hi => ?_,fun i => ?_⟩
   ·cases i with
    | zero=>unfold ibit; simp [o]
    | succ i=>exact h2 i (by exact Z.ltn (Nat.le_of_lt_succ hi))
   ·cases i with
    | zero =>
     rw [ibit_and]
     unfold ibit
     simp [o]
    | succ i =>
     rw [ibit_and]
     show (ibit (x / 2) i&&ibit ((x - 1) / 2) i)=(ibit (x / 2) i&&_)
     have:(x - 1) / 2=x / 2 - 1:=by exact Z.nm2 o
     rw [this,<- ibit_and,h3]
     simp
noncomputable def bitsOf:List Nat->Int
 | []=>0
 | t::r=>bitOr (bitsOf r) (2^t)
theorem ibit_bitsOf:∀ (L:List Nat) (i:Nat),ibit (bitsOf L) i=decide (i∈L)
 | [],i=>by simp [bitsOf,ibit_zero]
 | t::r,i=>by
  unfold bitsOf
  rw [ibit_or,ibit_bitsOf r,ibit_pow]
  by_cases h1:i=t <;> by_cases h2:i∈r <;> simp [h1,h2]
abbrev Bits (x:Int) (p:Nat->Bool):Prop:=∀ i,ibit x i=p i
theorem Bits.eq {x y:Int} {p:Nat->Bool} (h:Bits x p) (h':Bits y p):x=y:=ibit_inj fun i=>(h i).trans (h' i).symm
theorem lt_rec {P:Nat->Prop} {n:Nat} (h:P n) (k:∀ i,i<n->P i):∀ i,i<n+1->P i:=fun i hi=>(Nat.lt_succ_iff_lt_or_eq.mp hi).elim (k i) fun e=>e ▸ h
theorem enc {x c k:Nat} (hk:k<8):x%8=k/\x / 8=c↔x=k+8*c :=
 ⟨fun h=>h.1 ▸ h.2 ▸ (Nat.mod_add_div x 8).symm,fun h=>h ▸ ⟨by rw [Nat.add_mul_mod_self_left,Nat.mod_eq_of_lt hk],by rw [Nat.add_mul_div_left k c (by decide),Nat.div_eq_of_lt hk,Nat.zero_add]⟩⟩
theorem enc0 {x c k:Nat} (hk:k<8) (h0:1<=k):(¬ x=0/\x / 8=c)/\x%8=k↔x=8*c+k:=by
 rw [and_assoc,and_comm (b:=x%8=k),enc hk,Nat.add_comm]
 exact ⟨fun h=>h.2,fun h=>⟨fun z=>by lia,h⟩⟩
theorem mm_bd {n cnt:Nat} (h:3<=cnt):1<=min (max (n:Int) 1) ((cnt:Int) - 2)/\min (max (n:Int) 1) ((cnt:Int) - 2)<=(cnt:Int) - 2:=⟨Int.le_min.mpr ⟨Int.le_max_right ..,by lia⟩,Int.min_le_right ..⟩
theorem mm_abs {n cnt:Nat} (h:3<=cnt) (hc:cnt<100):(min (max (n:Int) 1) ((cnt:Int) - 2)).natAbs<100:=by
 have:=mm_bd (n:=n) h
 revert this
 generalize min (max (n:Int) 1) ((cnt:Int) - 2)=z
 intro this
 exact Z.z1 this hc
theorem abs_near {y d:Int} {n:Nat} (h:y.natAbs<n) (hd:d.natAbs<=2):(y+d).natAbs<n+2:=Nat.lt_of_le_of_lt (Int.natAbs_add_le y d) (by exact Nat.add_lt_add_of_lt_of_le h hd)
theorem dn1:∀ R,R<6->∀ q,q<R->∀ j,j<R->(R - 1 - q<j\/q=R - 1 - j↔R - 1 - q<j+1):=by decide +kernel
theorem dn2:∀ R,R<6->∀ q,q<R->1<=q/\q+1<R->(q=R - 1 - 1\/q=R - 1 - 2↔R - 1 - q<3):=by decide +kernel
theorem dn3:∀ q,q<6->1<=q->(q=1\/q=2↔q<3):=by decide +kernel
end Mob
namespace Mob
inductive Ok {α:Type} (r:Option α) (Q:α->Prop):Prop where
 | mk (a:α) (e:r=some a) (h:Q a)
noncomputable def OkR {α:Type} (r:Option α) (Q:α->Prop):Prop:=match r with
 | some a=>Q a
 | none=>False
section
variable {α β:Type} {r:Option α} {Q Q':α->Prop}
theorem ok_some {a:α}:Ok (some a) Q↔Q a:=⟨fun ⟨_,e,h⟩=>by cases e; exact h,fun h=>⟨a,rfl,h⟩⟩
theorem ok_none:Ok (none:Option α) Q↔False:=⟨fun ⟨_,e,_⟩=>(by cases e),fun f=>f.elim⟩
theorem oks {a:α}:Ok (some a) Q=Q a:=propext ok_some
theorem okn {Q':β->Prop}:Ok (none:Option α) Q=Ok (none:Option β) Q':=propext (ok_none.trans ok_none.symm)
theorem okr {a:α}:OkR (some a) Q=Q a:=rfl
theorem okR:Ok r Q=OkR r Q:=by
 cases r with
 | none=>exact propext ok_none
 | some a=>exact oks
noncomputable def KMp (f:α->β) (Q:β->Prop) (a:α):Prop:=Q (f a)
theorem ok_map' {f:α->β} {Q:β->Prop}:Ok (r.map f) Q=Ok r (KMp f Q):=by
 cases r with
 | none=>exact okn
 | some a=>refine Eq.trans ?_ oks.symm; exact oks
theorem ok_ite {c:Prop} [Decidable c]:Ok (if c then r else none) Q↔c/\Ok r Q:=by
 by_cases h:c
 ·rw [if_pos h]; exact ⟨fun q=>⟨h,q⟩,fun q=>q.2⟩
 ·rw [if_neg h]; exact ⟨fun q=>(ok_none.mp q).elim,fun q=>(h q.1).elim⟩
theorem Ok.mono (h:Ok r Q) (f:∀ a,Q a->Q' a):Ok r Q':=let ⟨a,e,q⟩:=h; ⟨a,e,f a q⟩
theorem Ok.at_ {a:α} (h:Ok r fun q=>q=a) (k:Q a):Ok r Q:=h.mono fun _ e=>e ▸ k
theorem Ok.int_ {r:Option (V × H)} {Q:V × H->Prop} {P:Int->Prop} {σ:H} (h:Ok r fun q=>q.2=σ/\∃ x,q.1 = .int x/\P x) (k:∀ x,P x->Q (.int x,σ)):Ok r Q :=
 h.mono fun ⟨v,τ⟩ ⟨e,x,ev,hx⟩=>by
  cases e; cases ev
  exact k x hx
theorem nm {α:Type} {G:Prop} (x:α) (k:∀ y,y=x->G):G:=k x rfl
theorem Ok.ex (h:Ok r Q):∃ a,r=some a/\Q a:=let ⟨a,e,q⟩:=h; ⟨a,e,q⟩
theorem Ok.of {a:α} (e:r=some a) (h:Q a):Ok r Q:=⟨a,e,h⟩
end
abbrev WE:=List V->H->(V × H->Prop)->Prop
abbrev WEs:=List V->H->(List V × H->Prop)->Prop
abbrev WS:=List V->H->(Fl × List V × H->Prop)->Prop
noncomputable def KV (σ:H) (Q:V × H->Prop) (v:V):Prop:=Q (v,σ)
noncomputable def KBo (σ:H) (Q:V × H->Prop) (c:Bool):Prop:=Q (.bool c,σ)
noncomputable def VarC (i:Nat) (loc:List V) (σ:H) (Q:V × H->Prop):Prop:=OkR ((loc[i]?).bind rdV) (KV σ Q)
noncomputable def GlbC (G:Nat->V) (k:Nat) (loc:List V) (σ:H) (Q:V × H->Prop):Prop:=OkR (rdV (G k)) (KV σ Q)
noncomputable def ValC (v:V) (loc:List V) (σ:H) (Q:V × H->Prop):Prop:=Q (v,σ)
noncomputable def KB2 (op:Op) (v:V) (Q:V × H->Prop) (p:V × H):Prop:=Ok (binV op v p.1 p.2) Q
noncomputable def KB1 (op:Op) (b:WE) (loc:List V) (Q:V × H->Prop) (p:V × H):Prop:=b loc p.2 (KB2 op p.1 Q)
noncomputable def BinC (op:Op) (a b:WE) (loc:List V) (σ:H) (Q:V × H->Prop):Prop:=a loc σ (KB1 op b loc Q)
noncomputable def KNe2 (σ:H) (Q:V × H->Prop) (i:Int):Prop:=Q (.int (-i),σ)
noncomputable def KNe (Q:V × H->Prop) (p:V × H):Prop:=OkR p.1.toI (KNe2 p.2 Q)
noncomputable def NegC (a:WE) (loc:List V) (σ:H) (Q:V × H->Prop):Prop:=a loc σ (KNe Q)
noncomputable def KIn2 (σ:H) (Q:V × H->Prop) (i:Int):Prop:=Q (.int (PySem.Builtin.bitNot i),σ)
noncomputable def KIn (Q:V × H->Prop) (p:V × H):Prop:=OkR p.1.toI (KIn2 p.2 Q)
noncomputable def InvC (a:WE) (loc:List V) (σ:H) (Q:V × H->Prop):Prop:=a loc σ (KIn Q)
noncomputable def KNo2 (σ:H) (Q:V × H->Prop) (b:Bool):Prop:=Q (.bool (!b),σ)
noncomputable def KNo (Q:V × H->Prop) (p:V × H):Prop:=Ok (truth p.2 p.1) (KNo2 p.2 Q)
noncomputable def NotC (a:WE) (loc:List V) (σ:H) (Q:V × H->Prop):Prop:=a loc σ (KNo Q)
noncomputable def KC2 (op:Cm) (v:V) (Q:V × H->Prop) (p:V × H):Prop:=Ok (cmpV op p.2 v p.1) (KBo p.2 Q)
noncomputable def KC1 (op:Cm) (b:WE) (loc:List V) (Q:V × H->Prop) (p:V × H):Prop:=b loc p.2 (KC2 op p.1 Q)
noncomputable def CmpC (op:Cm) (a b:WE) (loc:List V) (σ:H) (Q:V × H->Prop):Prop:=a loc σ (KC1 op b loc Q)
noncomputable def KD3 (op':Cm) (c:WE) (loc:List V) (q:V × H) (Q:V × H->Prop) (t:Bool):Prop:=(t=false->Q (.bool false,q.2))/\(t=true->c loc q.2 (KC2 op' q.1 Q))
noncomputable def KD2 (op op':Cm) (c:WE) (loc:List V) (v:V) (Q:V × H->Prop) (p:V × H):Prop:=Ok (cmpV op p.2 v p.1) (KD3 op' c loc p Q)
noncomputable def KD1 (op op':Cm) (b c:WE) (loc:List V) (Q:V × H->Prop) (p:V × H):Prop:=b loc p.2 (KD2 op op' c loc p.1 Q)
noncomputable def Cm2C (op op':Cm) (a b c:WE) (loc:List V) (σ:H) (Q:V × H->Prop):Prop:=a loc σ (KD1 op op' b c loc Q)
noncomputable def KA2 (es:WE) (loc:List V) (p:V × H) (Q:V × H->Prop) (c:Bool):Prop:=(c=true->es loc p.2 Q)/\(c=false->Q (p.1,p.2))
noncomputable def KA1 (es:WE) (loc:List V) (Q:V × H->Prop) (p:V × H):Prop:=Ok (truth p.2 p.1) (KA2 es loc p Q)
noncomputable def AndC (a b:WE) (loc:List V) (σ:H) (Q:V × H->Prop):Prop:=a loc σ (KA1 b loc Q)
noncomputable def KO2 (es:WE) (loc:List V) (p:V × H) (Q:V × H->Prop) (c:Bool):Prop:=(c=false->es loc p.2 Q)/\(c=true->Q (p.1,p.2))
noncomputable def KO1 (es:WE) (loc:List V) (Q:V × H->Prop) (p:V × H):Prop:=Ok (truth p.2 p.1) (KO2 es loc p Q)
noncomputable def OrC (a b:WE) (loc:List V) (σ:H) (Q:V × H->Prop):Prop:=a loc σ (KO1 b loc Q)
noncomputable def KI2 (a b:WE) (loc:List V) (σ:H) (Q:V × H->Prop) (c:Bool):Prop:=(c=true->a loc σ Q)/\(c=false->b loc σ Q)
noncomputable def KI1 (a b:WE) (loc:List V) (Q:V × H->Prop) (p:V × H):Prop:=Ok (truth p.2 p.1) (KI2 a b loc p.2 Q)
noncomputable def IfeC (t a b:WE) (loc:List V) (σ:H) (Q:V × H->Prop):Prop:=t loc σ (KI1 a b loc Q)
noncomputable def KAt (f:Nat) (Q:V × H->Prop) (p:V × H):Prop:=Ok (attrOf p.2 p.1 f) (KV p.2 Q)
noncomputable def AttC (e:WE) (f:Nat) (loc:List V) (σ:H) (Q:V × H->Prop):Prop:=e loc σ (KAt f Q)
noncomputable def KS2 (v:V) (Q:V × H->Prop) (p:V × H):Prop:=Ok (getI p.2 v p.1) (KV p.2 Q)
noncomputable def KS1 (i:WE) (loc:List V) (Q:V × H->Prop) (p:V × H):Prop:=i loc p.2 (KS2 p.1 Q)
noncomputable def SubC (e i:WE) (loc:List V) (σ:H) (Q:V × H->Prop):Prop:=e loc σ (KS1 i loc Q)
noncomputable def KL2 (v:V) (Q:V × H->Prop) (p:V × H):Prop:=Ok (sliceV p.2 v p.1 Option.none) Q
noncomputable def KL1 (lo:WE) (loc:List V) (Q:V × H->Prop) (p:V × H):Prop:=lo loc p.2 (KL2 p.1 Q)
noncomputable def SliC (e lo:WE) (loc:List V) (σ:H) (Q:V × H->Prop):Prop:=e loc σ (KL1 lo loc Q)
noncomputable def KM3 (v w:V) (Q:V × H->Prop) (p:V × H):Prop:=Ok (sliceV p.2 v w (some p.1)) Q
noncomputable def KM2 (hi:WE) (loc:List V) (v:V) (Q:V × H->Prop) (p:V × H):Prop:=hi loc p.2 (KM3 v p.1 Q)
noncomputable def KM1 (lo hi:WE) (loc:List V) (Q:V × H->Prop) (p:V × H):Prop:=lo loc p.2 (KM2 hi loc p.1 Q)
noncomputable def Sl2C (e lo hi:WE) (loc:List V) (σ:H) (Q:V × H->Prop):Prop:=e loc σ (KM1 lo hi loc Q)
noncomputable def KLi (Q:V × H->Prop) (p:List V × H):Prop:=p.1.length<=LIM/\Q (.ref p.2.length,p.2++[.list false p.1])
noncomputable def LstC (es:WEs) (loc:List V) (σ:H) (Q:V × H->Prop):Prop:=es loc σ (KLi Q)
noncomputable def KT2 (σ:H) (Q:V × H->Prop) (as:List A):Prop:=Q (.tup as,σ)
noncomputable def KT (Q:V × H->Prop) (p:List V × H):Prop:=p.1.length<=LIM/\Ok (toAs p.1) (KT2 p.2 Q)
noncomputable def TupC (es:WEs) (loc:List V) (σ:H) (Q:V × H->Prop):Prop:=es loc σ (KT Q)
noncomputable def KCa (Φ:Φt) (f:Nat) (Q:V × H->Prop) (p:List V × H):Prop:=Ok (Φ f p.1 p.2) Q
noncomputable def CalC (Φ:Φt) (f:Nat) (es:WEs) (loc:List V) (σ:H) (Q:V × H->Prop):Prop:=es loc σ (KCa Φ f Q)
noncomputable def KNw2 (n:Nat) (Q:V × H->Prop) (p:V × H):Prop:=p.1 = .none/\Q (.ref n,p.2)
noncomputable def KNw (Φ:Φt) (c:Nat) (Q:V × H->Prop) (p:List V × H):Prop:=Ok (Φ (1000+c) (.ref p.2.length::p.1) (p.2++[.inst c []])) (KNw2 p.2.length Q)
noncomputable def NewC (Φ:Φt) (c:Nat) (es:WEs) (loc:List V) (σ:H) (Q:V × H->Prop):Prop:=es loc σ (KNw Φ c Q)
noncomputable def KBi (b:Bi) (Q:V × H->Prop) (p:List V × H):Prop:=Ok (biV b p.1 p.2) Q
noncomputable def BiC (b:Bi) (es:WEs) (loc:List V) (σ:H) (Q:V × H->Prop):Prop:=es loc σ (KBi b Q)
noncomputable def KMe2 (m:Me) (v:V) (Q:V × H->Prop) (p:V × H):Prop:=Ok (methV m v p.1 p.2) Q
noncomputable def KMe (m:Me) (x:WE) (loc:List V) (Q:V × H->Prop) (p:V × H):Prop:=isLst p.2 p.1=true/\x loc p.2 (KMe2 m p.1 Q)
noncomputable def MetC (m:Me) (o x:WE) (loc:List V) (σ:H) (Q:V × H->Prop):Prop:=o loc σ (KMe m x loc Q)
noncomputable def KCo3 (n:Nat) (Q:V × H->Prop) (σ:H):Prop:=Q (.ref n,σ)
noncomputable def KCo2 (Φ:Φt) (G:Nat->V) (elt:E) (ts:List Nat) (ifs:Es) (rest:Gs) (loc:List V) (p:V × H) (Q:V × H->Prop) (xs:List V):Prop:=Ok (compN ts (still p.1 xs) (evC (evIf Φ G ifs) (evG Φ G rest (evM (evE Φ G elt) p.2.length))) xs loc (p.2++[.list false []])) (KCo3 p.2.length Q)
noncomputable def KCo (Φ:Φt) (G:Nat->V) (elt:E) (ts:List Nat) (ifs:Es) (rest:Gs) (loc:List V) (Q:V × H->Prop) (p:V × H):Prop:=Ok (items p.2 p.1) (KCo2 Φ G elt ts ifs rest loc p Q)
noncomputable def ComC (Φ:Φt) (G:Nat->V) (elt:E) (ts:List Nat) (it:WE) (ifs:Es) (rest:Gs) (loc:List V) (σ:H) (Q:V × H->Prop):Prop:=it loc σ (KCo Φ G elt ts ifs rest loc Q)
noncomputable def NilC  (loc:List V) (σ:H) (Q:List V × H->Prop):Prop:=Q ([],σ)
noncomputable def KE2 (v:V) (Q:List V × H->Prop) (p:List V × H):Prop:=Q (v::p.1,p.2)
noncomputable def KE1 (es:WEs) (loc:List V) (Q:List V × H->Prop) (p:V × H):Prop:=es loc p.2 (KE2 p.1 Q)
noncomputable def ConC (e:WE) (es:WEs) (loc:List V) (σ:H) (Q:List V × H->Prop):Prop:=e loc σ (KE1 es loc Q)
noncomputable def FalC  (loc:List V) (σ:H) (Q:V × H->Prop):Prop:=False
noncomputable def KAs (i:Nat) (loc:List V) (Q:Fl × List V × H->Prop) (p:V × H):Prop:=Q (.next,loc.set i p.1,p.2)
noncomputable def AsgC (i:Nat) (e:WE) (loc:List V) (σ:H) (Q:Fl × List V × H->Prop):Prop:=e loc σ (KAs i loc Q)
noncomputable def KLo (σ:H) (Q:Fl × List V × H->Prop) (l:List V):Prop:=Q (.next,l,σ)
noncomputable def KTs (is:List Nat) (loc:List V) (Q:Fl × List V × H->Prop) (p:V × H):Prop:=Ok (bindT is p.1 p.2 loc) (KLo p.2 Q)
noncomputable def AsTC (is:List Nat) (e:WE) (loc:List V) (σ:H) (Q:Fl × List V × H->Prop):Prop:=e loc σ (KTs is loc Q)
noncomputable def KH (loc:List V) (Q:Fl × List V × H->Prop) (σ:H):Prop:=Q (.next,loc,σ)
noncomputable def KSa2 (f:Nat) (v:V) (loc:List V) (Q:Fl × List V × H->Prop) (p:V × H):Prop:=Ok (attrSet p.2 p.1 f v) (KH loc Q)
noncomputable def KSa (o:WE) (f:Nat) (loc:List V) (Q:Fl × List V × H->Prop) (p:V × H):Prop:=o loc p.2 (KSa2 f p.1 loc Q)
noncomputable def SeAC (o:WE) (f:Nat) (e:WE) (loc:List V) (σ:H) (Q:Fl × List V × H->Prop):Prop:=e loc σ (KSa o f loc Q)
noncomputable def KSi3 (v w:V) (loc:List V) (Q:Fl × List V × H->Prop) (p:V × H):Prop:=Ok (setI p.2 w p.1 v) (KH loc Q)
noncomputable def KSi2 (i:WE) (v:V) (loc:List V) (Q:Fl × List V × H->Prop) (p:V × H):Prop:=i loc p.2 (KSi3 v p.1 loc Q)
noncomputable def KSi (o i:WE) (loc:List V) (Q:Fl × List V × H->Prop) (p:V × H):Prop:=o loc p.2 (KSi2 i p.1 loc Q)
noncomputable def SeIC (o i e:WE) (loc:List V) (σ:H) (Q:Fl × List V × H->Prop):Prop:=e loc σ (KSi o i loc Q)
noncomputable def KU2 (i:Nat) (op:Op) (v:V) (loc:List V) (Q:Fl × List V × H->Prop) (p:V × H):Prop:=Ok (augO op v p.1 p.2) (KAs i loc Q)
noncomputable def KU1 (i:Nat) (op:Op) (e:WE) (loc:List V) (σ:H) (Q:Fl × List V × H->Prop) (v:V):Prop:=e loc σ (KU2 i op v loc Q)
noncomputable def AuVC (i:Nat) (op:Op) (e:WE) (loc:List V) (σ:H) (Q:Fl × List V × H->Prop):Prop:=OkR ((loc[i]?).bind rdV) (KU1 i op e loc σ Q)
noncomputable def KX4 (f:Nat) (v:V) (loc:List V) (Q:Fl × List V × H->Prop) (p:V × H):Prop:=Ok (attrSet p.2 v f p.1) (KH loc Q)
noncomputable def KX3 (f:Nat) (op:Op) (v w:V) (loc:List V) (Q:Fl × List V × H->Prop) (p:V × H):Prop:=Ok (augO op w p.1 p.2) (KX4 f v loc Q)
noncomputable def KX2 (f:Nat) (op:Op) (e:WE) (loc:List V) (p:V × H) (Q:Fl × List V × H->Prop) (w:V):Prop:=e loc p.2 (KX3 f op p.1 w loc Q)
noncomputable def KX1 (f:Nat) (op:Op) (e:WE) (loc:List V) (Q:Fl × List V × H->Prop) (p:V × H):Prop:=Ok (attrOf p.2 p.1 f) (KX2 f op e loc p Q)
noncomputable def AuAC (o:WE) (f:Nat) (op:Op) (e:WE) (loc:List V) (σ:H) (Q:Fl × List V × H->Prop):Prop:=o loc σ (KX1 f op e loc Q)
noncomputable def KY5 (v k:V) (loc:List V) (Q:Fl × List V × H->Prop) (p:V × H):Prop:=Ok (setI p.2 v k p.1) (KH loc Q)
noncomputable def KY4 (op:Op) (v k w:V) (loc:List V) (Q:Fl × List V × H->Prop) (p:V × H):Prop:=Ok (augO op w p.1 p.2) (KY5 v k loc Q)
noncomputable def KY3 (op:Op) (e:WE) (loc:List V) (v:V) (k:V × H) (Q:Fl × List V × H->Prop) (w:V):Prop:=e loc k.2 (KY4 op v k.1 w loc Q)
noncomputable def KY2 (op:Op) (e:WE) (loc:List V) (v:V) (Q:Fl × List V × H->Prop) (p:V × H):Prop:=Ok (getI p.2 v p.1) (KY3 op e loc v p Q)
noncomputable def KY1 (i:WE) (op:Op) (e:WE) (loc:List V) (Q:Fl × List V × H->Prop) (p:V × H):Prop:=i loc p.2 (KY2 op e loc p.1 Q)
noncomputable def AuIC (o i:WE) (op:Op) (e:WE) (loc:List V) (σ:H) (Q:Fl × List V × H->Prop):Prop:=o loc σ (KY1 i op e loc Q)
noncomputable def KEx (loc:List V) (Q:Fl × List V × H->Prop) (p:V × H):Prop:=p.1 = .none/\Q (.next,loc,p.2)
noncomputable def ExpC (e:WE) (loc:List V) (σ:H) (Q:Fl × List V × H->Prop):Prop:=e loc σ (KEx loc Q)
noncomputable def KIf2 (a b:WS) (loc:List V) (σ:H) (Q:Fl × List V × H->Prop) (c:Bool):Prop:=(c=true->a loc σ Q)/\(c=false->b loc σ Q)
noncomputable def KIf (a b:WS) (loc:List V) (Q:Fl × List V × H->Prop) (p:V × H):Prop:=Ok (truth p.2 p.1) (KIf2 a b loc p.2 Q)
noncomputable def IteC (t:WE) (a b:WS) (loc:List V) (σ:H) (Q:Fl × List V × H->Prop):Prop:=t loc σ (KIf a b loc Q)
noncomputable def WhlC (Φ:Φt) (G:Nat->V) (t:E) (b:Ss) (loc:List V) (σ:H) (Q:Fl × List V × H->Prop):Prop:=Ok (whileN (evE Φ G t) (evSs Φ G b) WFUEL loc σ) Q
noncomputable def KFo2 (Φ:Φt) (G:Nat->V) (ts:List Nat) (b:Ss) (loc:List V) (p:V × H) (Q:Fl × List V × H->Prop) (xs:List V):Prop:=Ok (forN ts (still p.1 xs) (evSs Φ G b) xs loc p.2) Q
noncomputable def KFo (Φ:Φt) (G:Nat->V) (ts:List Nat) (b:Ss) (loc:List V) (Q:Fl × List V × H->Prop) (p:V × H):Prop:=Ok (items p.2 p.1) (KFo2 Φ G ts b loc p Q)
noncomputable def ForC (Φ:Φt) (G:Nat->V) (ts:List Nat) (e:WE) (b:Ss) (loc:List V) (σ:H) (Q:Fl × List V × H->Prop):Prop:=e loc σ (KFo Φ G ts b loc Q)
noncomputable def KRe (loc:List V) (Q:Fl × List V × H->Prop) (p:V × H):Prop:=Q (.ret p.1,loc,p.2)
noncomputable def RetC (e:WE) (loc:List V) (σ:H) (Q:Fl × List V × H->Prop):Prop:=e loc σ (KRe loc Q)
noncomputable def FloC (f:Fl) (loc:List V) (σ:H) (Q:Fl × List V × H->Prop):Prop:=Q (f,loc,σ)
noncomputable def FaiC  (loc:List V) (σ:H) (Q:Fl × List V × H->Prop):Prop:=False
noncomputable def KS (ss:WS) (Q:Fl × List V × H->Prop):Fl × List V × H->Prop
 | (.next,loc,σ)=>ss loc σ Q
 | (.brk,loc,σ)=>Q (.brk,loc,σ)
 | (.cont,loc,σ)=>Q (.cont,loc,σ)
 | (.ret v,loc,σ)=>Q (.ret v,loc,σ)
noncomputable def SeqC (s ss:WS) (loc:List V) (σ:H) (Q:Fl × List V × H->Prop):Prop:=s loc σ (KS ss Q)
mutual
noncomputable def wE (Φ:Φt) (G:Nat->V):E->WE
 | .var i=>VarC i
 | .glob k=>GlbC G k
 | .int i=>ValC (.int i)
 | .bool b=>ValC (.bool b)
 | .none=>ValC .none
 | .bin op a b=>BinC op (wE Φ G a) (wE Φ G b)
 | .neg a=>NegC (wE Φ G a)
 | .inv a=>InvC (wE Φ G a)
 | .not a=>NotC (wE Φ G a)
 | .cmp op a b=>CmpC op (wE Φ G a) (wE Φ G b)
 | .cmp2 op op' a b c=>Cm2C op op' (wE Φ G a) (wE Φ G b) (wE Φ G c)
 | .and es=>wAnd Φ G es
 | .or es=>wOr Φ G es
 | .ife t a b=>IfeC (wE Φ G t) (wE Φ G a) (wE Φ G b)
 | .attr e f=>AttC (wE Φ G e) f
 | .sub e i=>SubC (wE Φ G e) (wE Φ G i)
 | .slice e lo=>SliC (wE Φ G e) (wE Φ G lo)
 | .slice2 e lo hi=>Sl2C (wE Φ G e) (wE Φ G lo) (wE Φ G hi)
 | .list es=>LstC (wEs Φ G es)
 | .tup es=>TupC (wEs Φ G es)
 | .call f es=>CalC Φ f (wEs Φ G es)
 | .new c es=>NewC Φ c (wEs Φ G es)
 | .bi b es=>BiC b (wEs Φ G es)
 | .meth m o x=>MetC m (wE Φ G o) (wE Φ G x)
 | .comp elt ts it ifs rest=>ComC Φ G elt ts (wE Φ G it) ifs rest
noncomputable def wEs (Φ:Φt) (G:Nat->V):Es->WEs
 | .nil=>NilC
 | .cons e es=>ConC (wE Φ G e) (wEs Φ G es)
noncomputable def wAnd (Φ:Φt) (G:Nat->V):Es->WE
 | .nil=>FalC
 | .cons e .nil=>wE Φ G e
 | .cons e (.cons e' es)=>AndC (wE Φ G e) (wAnd Φ G (.cons e' es))
noncomputable def wOr (Φ:Φt) (G:Nat->V):Es->WE
 | .nil=>FalC
 | .cons e .nil=>wE Φ G e
 | .cons e (.cons e' es)=>OrC (wE Φ G e) (wOr Φ G (.cons e' es))
end
mutual
noncomputable def wS (Φ:Φt) (G:Nat->V):S->WS
 | .asg i e=>AsgC i (wE Φ G e)
 | .asgT is e=>AsTC is (wE Φ G e)
 | .setA o f e=>SeAC (wE Φ G o) f (wE Φ G e)
 | .setI o i e=>SeIC (wE Φ G o) (wE Φ G i) (wE Φ G e)
 | .augV i op e=>AuVC i op (wE Φ G e)
 | .augA o f op e=>AuAC (wE Φ G o) f op (wE Φ G e)
 | .augI o i op e=>AuIC (wE Φ G o) (wE Φ G i) op (wE Φ G e)
 | .expr e=>ExpC (wE Φ G e)
 | .ite t a b=>IteC (wE Φ G t) (wSs Φ G a) (wSs Φ G b)
 | .whl t b=>WhlC Φ G t b
 | .for_ ts e b=>ForC Φ G ts (wE Φ G e) b
 | .ret e=>RetC (wE Φ G e)
 | .brk=>FloC .brk
 | .cont=>FloC .cont
 | .fail=>FaiC
noncomputable def wSs (Φ:Φt) (G:Nat->V):Ss->WS
 | .nil=>FloC .next
 | .cons s ss=>SeqC (wS Φ G s) (wSs Φ G ss)
end
theorem ft_f (A B:Prop):((false=true->A)/\(false=false->B))=B:=propext ⟨fun h=>h.2 rfl,fun h=>⟨nofun,fun _=>h⟩⟩
theorem ft_t (A B:Prop):((true=true->A)/\(true=false->B))=A:=propext ⟨fun h=>h.1 rfl,fun h=>⟨fun _=>h,nofun⟩⟩
theorem tf_f (A B:Prop):((false=false->A)/\(false=true->B))=A:=propext ⟨fun h=>h.1 rfl,fun h=>⟨fun _=>h,nofun⟩⟩
theorem tf_t (A B:Prop):((true=false->A)/\(true=true->B))=B:=propext ⟨fun h=>h.2 rfl,fun h=>⟨nofun,fun _=>h⟩⟩
theorem om {β:Type} {o:Option (V × H)} {f:V->H->Option β} {Q:β->Prop} {W:(V × H->Prop)->Prop} {K:V × H->Prop} (e:∀ K,Ok o K=W K) (h:∀ v τ,Ok (f v τ) Q=K (v,τ)):Ok (match o with | none=>none | some (v,σ)=>f v σ) Q=W K:=by
 rw [<- e]
 rcases o with _ | ⟨v,τ⟩
 ·exact okn
 ·exact (h v τ).trans oks.symm
theorem omi {o:Option (V × H)} {f:Int->H->V × H} {Q K:V × H->Prop} {W:(V × H->Prop)->Prop} (e:∀ K,Ok o K=W K) (h:∀ i τ,Q (f i τ)=K (.int i,τ)) (h':∀ (v:V) (τ:H),v.toI=none->False=K (v,τ)):Ok (match o with | some (.int i,σ)=>some (f i σ) | _=>none) Q=W K:=by
 rw [<- e]
 rcases o with _ | ⟨v,τ⟩
 ·exact okn
 ·cases v with
  | int i=>exact oks.trans ((h i τ).trans oks.symm)
  | _=>exact (propext ok_none).trans ((h' _ τ rfl).trans oks.symm)
theorem omx {β:Type} {o:Option (V × H)} {f:H->β} {Q:β->Prop} {K:V × H->Prop} {W:(V × H->Prop)->Prop} (e:∀ K,Ok o K=W K) (h:∀ v τ,K (v,τ)=(v = .none/\Q (f τ))):Ok (match o with | some (.none,σ)=>some (f σ) | _=>none) Q=W K:=by
 rw [<- e]
 rcases o with _ | ⟨v,τ⟩
 ·exact okn
 ·refine Eq.trans ?_ oks.symm
  rw [h]
  cases v with
  | none=>exact oks.trans (propext ⟨fun h=>⟨rfl,h⟩,fun h=>h.2⟩)
  | _=>exact propext (ok_none.trans ⟨fun h=>h.elim,fun h=>nomatch h.1⟩)
theorem kno {Q:Int->Prop} {v:V} (h:v.toI=none):False=OkR v.toI Q:=by rw [h]; rfl
theorem oms {β:Type} {o:Option (List V × H)} {f:List V->H->Option β} {Q:β->Prop} {W:(List V × H->Prop)->Prop} {K:List V × H->Prop} (e:∀ K,Ok o K=W K) (h:∀ v τ,Ok (f v τ) Q=K (v,τ)):Ok (match o with | none=>none | some (v,σ)=>f v σ) Q=W K:=by
 rw [<- e]
 rcases o with _ | ⟨v,τ⟩
 ·exact okn
 ·exact (h v τ).trans oks.symm
section
variable {Φ:Φt} {G:Nat->V}
mutual
theorem wE_eq:∀ (e:E) (loc:List V) (σ:H) (Q:V × H->Prop),Ok (evE Φ G e loc σ) Q=wE Φ G e loc σ Q
 | .var i,loc,σ,Q=>by
  show Ok (match loc[i]? with | none=>none | some v=>(rdV v).map fun v=>(v,σ)) Q=OkR ((loc[i]?).bind rdV) (KV σ Q)
  rw [<- okR]
  rcases loc[i]? with _ | v
  ·exact okn
  ·exact ok_map'
 | .glob k,loc,σ,Q=>ok_map'.trans okR
 | .int i,loc,σ,Q=>oks
 | .bool b,loc,σ,Q=>oks
 | .none,loc,σ,Q=>oks
 | .bin op a b,loc,σ,Q=>by
  refine om (W:=wE Φ G a loc σ) (wE_eq a loc σ) fun v τ => ?_
  refine om (W:=wE Φ G b loc τ) (wE_eq b loc τ) fun w υ => ?_
  rfl
 | .neg a,loc,σ,Q=>by
  exact omi (W:=wE Φ G a loc σ) (K:=KNe Q) (wE_eq a loc σ) (fun i τ=>rfl) fun v τ hv=>kno hv
 | .inv a,loc,σ,Q=>by
  exact omi (W:=wE Φ G a loc σ) (K:=KIn Q) (wE_eq a loc σ) (fun i τ=>rfl) fun v τ hv=>kno hv
 | .not a,loc,σ,Q=>by
  refine om (W:=wE Φ G a loc σ) (wE_eq a loc σ) fun v τ => ?_
  exact ok_map'
 | .cmp op a b,loc,σ,Q=>by
  refine om (W:=wE Φ G a loc σ) (wE_eq a loc σ) fun v τ => ?_
  refine om (W:=wE Φ G b loc τ) (wE_eq b loc τ) fun w υ => ?_
  exact ok_map'
 | .cmp2 op op' a b c,loc,σ,Q=>by
  refine om (W:=wE Φ G a loc σ) (wE_eq a loc σ) fun v τ => ?_
  refine om (W:=wE Φ G b loc τ) (wE_eq b loc τ) fun w υ => ?_
  show _=Ok (cmpV op υ v w) _
  rcases cmpV op υ v w with _ | _ | _
  ·exact okn
  ·refine Eq.trans ?_ oks.symm; exact Eq.trans oks (tf_f _ _).symm
  ·refine Eq.trans ?_ oks.symm; refine Eq.trans ?_ (tf_t _ _).symm
   refine om (W:=wE Φ G c loc υ) (wE_eq c loc υ) fun u χ => ?_
   exact ok_map'
 | .and es,loc,σ,Q=>wAnd_eq es loc σ Q
 | .or es,loc,σ,Q=>wOr_eq es loc σ Q
 | .ife t a b,loc,σ,Q=>by
  refine om (W:=wE Φ G t loc σ) (wE_eq t loc σ) fun v τ => ?_
  show _=Ok (truth τ v) _
  rcases truth τ v with _ | _ | _
  ·exact okn
  ·refine Eq.trans ?_ oks.symm; exact Eq.trans (wE_eq b loc τ Q) (ft_f _ _).symm
  ·refine Eq.trans ?_ oks.symm; exact Eq.trans (wE_eq a loc τ Q) (ft_t _ _).symm
 | .attr e f,loc,σ,Q=>by
  refine om (W:=wE Φ G e loc σ) (wE_eq e loc σ) fun v τ => ?_
  exact ok_map'
 | .sub e i,loc,σ,Q=>by
  refine om (W:=wE Φ G e loc σ) (wE_eq e loc σ) fun v τ => ?_
  refine om (W:=wE Φ G i loc τ) (wE_eq i loc τ) fun w υ => ?_
  exact ok_map'
 | .slice e lo,loc,σ,Q=>by
  refine om (W:=wE Φ G e loc σ) (wE_eq e loc σ) fun v τ => ?_
  refine om (W:=wE Φ G lo loc τ) (wE_eq lo loc τ) fun w υ => ?_
  rfl
 | .slice2 e lo hi,loc,σ,Q=>by
  refine om (W:=wE Φ G e loc σ) (wE_eq e loc σ) fun v τ => ?_
  refine om (W:=wE Φ G lo loc τ) (wE_eq lo loc τ) fun w υ => ?_
  refine om (W:=wE Φ G hi loc υ) (wE_eq hi loc υ) fun u χ => ?_
  rfl
 | .list es,loc,σ,Q=>by
  refine oms (W:=wEs Φ G es loc σ) (wEs_eq es loc σ) fun v τ => ?_
  exact (propext ok_ite).trans (congrArg _ oks)
 | .tup es,loc,σ,Q=>by
  refine oms (W:=wEs Φ G es loc σ) (wEs_eq es loc σ) fun v τ => ?_
  exact (propext ok_ite).trans (congrArg _ ok_map')
 | .call f es,loc,σ,Q=>by
  refine oms (W:=wEs Φ G es loc σ) (wEs_eq es loc σ) fun v τ => ?_
  rfl
 | .new c es,loc,σ,Q=>by
  refine oms (W:=wEs Φ G es loc σ) (wEs_eq es loc σ) fun v τ => ?_
  show _=Ok (Φ (1000+c) (.ref τ.length::v) (τ++[.inst c []])) _
  generalize Φ (1000+c) _ _=r
  rcases r with _ | ⟨u,χ⟩
  ·exact okn
  ·refine Eq.trans ?_ oks.symm
   cases u with
   | none=>exact oks.trans (propext ⟨fun h=>⟨rfl,h⟩,fun h=>h.2⟩)
   | _=>exact propext (ok_none.trans ⟨fun h=>h.elim,fun h=>nomatch h.1⟩)
 | .bi b es,loc,σ,Q=>by
  refine oms (W:=wEs Φ G es loc σ) (wEs_eq es loc σ) fun v τ => ?_
  rfl
 | .meth m o x,loc,σ,Q=>by
  refine om (W:=wE Φ G o loc σ) (wE_eq o loc σ) fun v τ => ?_
  refine (propext ok_ite).trans (congrArg _ ?_)
  refine om (W:=wE Φ G x loc τ) (wE_eq x loc τ) fun w υ => ?_
  rfl
 | .comp elt ts it ifs rest,loc,σ,Q=>by
  refine om (W:=wE Φ G it loc σ) (wE_eq it loc σ) fun v τ => ?_
  show _=Ok (items τ v) _
  rcases items τ v with _ | xs
  ·exact okn
  ·refine Eq.trans ?_ oks.symm; exact ok_map'
theorem wEs_eq:∀ (es:Es) (loc:List V) (σ:H) (Q:List V × H->Prop),Ok (evEs Φ G es loc σ) Q=wEs Φ G es loc σ Q
 | .nil,loc,σ,Q=>oks
 | .cons e es,loc,σ,Q=>by
  refine om (W:=wE Φ G e loc σ) (wE_eq e loc σ) fun v τ => ?_
  refine oms (W:=wEs Φ G es loc τ) (wEs_eq es loc τ) fun w υ => ?_
  exact oks
theorem wAnd_eq:∀ (es:Es) (loc:List V) (σ:H) (Q:V × H->Prop),Ok (evAnd Φ G es loc σ) Q=wAnd Φ G es loc σ Q
 | .nil,loc,σ,Q=>propext ok_none
 | .cons e .nil,loc,σ,Q=>wE_eq e loc σ Q
 | .cons e (.cons e' es),loc,σ,Q=>by
  refine om (W:=wE Φ G e loc σ) (wE_eq e loc σ) fun v τ => ?_
  show _=Ok (truth τ v) _
  rcases truth τ v with _ | _ | _
  ·exact okn
  ·refine Eq.trans ?_ oks.symm; exact Eq.trans (oks) (ft_f _ _).symm
  ·refine Eq.trans ?_ oks.symm; exact Eq.trans (wAnd_eq (.cons e' es) loc τ Q) (ft_t _ _).symm
theorem wOr_eq:∀ (es:Es) (loc:List V) (σ:H) (Q:V × H->Prop),Ok (evOr Φ G es loc σ) Q=wOr Φ G es loc σ Q
 | .nil,loc,σ,Q=>propext ok_none
 | .cons e .nil,loc,σ,Q=>wE_eq e loc σ Q
 | .cons e (.cons e' es),loc,σ,Q=>by
  refine om (W:=wE Φ G e loc σ) (wE_eq e loc σ) fun v τ => ?_
  show _=Ok (truth τ v) _
  rcases truth τ v with _ | _ | _
  ·exact okn
  ·refine Eq.trans ?_ oks.symm; exact Eq.trans (wOr_eq (.cons e' es) loc τ Q) (tf_f _ _).symm
  ·refine Eq.trans ?_ oks.symm; exact Eq.trans (oks) (tf_t _ _).symm
end
end
section
variable {Φ:Φt} {G:Nat->V}
mutual
theorem wS_eq:∀ (s:S) (loc:List V) (σ:H) (Q:Fl × List V × H->Prop),Ok (evS Φ G s loc σ) Q=wS Φ G s loc σ Q
 | .asg i e,loc,σ,Q=>by
  refine om (W:=wE Φ G e loc σ) (wE_eq e loc σ) fun v τ => ?_
  exact oks
 | .asgT is e,loc,σ,Q=>by
  refine om (W:=wE Φ G e loc σ) (wE_eq e loc σ) fun v τ => ?_
  exact ok_map'
 | .setA o f e,loc,σ,Q=>by
  refine om (W:=wE Φ G e loc σ) (wE_eq e loc σ) fun v τ => ?_
  refine om (W:=wE Φ G o loc τ) (wE_eq o loc τ) fun w υ => ?_
  exact ok_map'
 | .setI o i e,loc,σ,Q=>by
  refine om (W:=wE Φ G e loc σ) (wE_eq e loc σ) fun v τ => ?_
  refine om (W:=wE Φ G o loc τ) (wE_eq o loc τ) fun w υ => ?_
  refine om (W:=wE Φ G i loc υ) (wE_eq i loc υ) fun u χ => ?_
  exact ok_map'
 | .augV i op e,loc,σ,Q=>by
  show Ok (match (loc[i]?).bind rdV with
   | none=>none
   | some v=>match evE Φ G e loc σ with
    | none=>none
    | some (w,σ)=>(augO op v w σ).map fun (u,σ)=>(Fl.next,loc.set i u,σ)) Q=OkR ((loc[i]?).bind rdV) (KU1 i op (wE Φ G e) loc σ Q)
  rcases (loc[i]?).bind rdV with _ | x
  ·exact propext ok_none
  ·refine om (W:=wE Φ G e loc σ) (wE_eq e loc σ) fun v τ => ?_
   show _=Ok (augO op x v τ) _
   rcases augO op x v τ with _ | ⟨u,υ⟩
   ·exact okn
   ·refine Eq.trans ?_ oks.symm; exact oks
 | .augA o f op e,loc,σ,Q=>by
  refine om (W:=wE Φ G o loc σ) (wE_eq o loc σ) fun v τ => ?_
  show _=Ok (attrOf τ v f) _
  rcases attrOf τ v f with _ | x
  ·exact okn
  ·refine Eq.trans ?_ oks.symm
   refine om (W:=wE Φ G e loc τ) (wE_eq e loc τ) fun w υ => ?_
   show _=Ok (augO op x w υ) _
   rcases augO op x w υ with _ | ⟨y,χ⟩
   ·exact okn
   ·refine Eq.trans ?_ oks.symm
    exact ok_map'
 | .augI o i op e,loc,σ,Q=>by
  refine om (W:=wE Φ G o loc σ) (wE_eq o loc σ) fun v τ => ?_
  refine om (W:=wE Φ G i loc τ) (wE_eq i loc τ) fun w υ => ?_
  show _=Ok (getI υ v w) _
  rcases getI υ v w with _ | x
  ·exact okn
  ·refine Eq.trans ?_ oks.symm
   refine om (W:=wE Φ G e loc υ) (wE_eq e loc υ) fun u χ => ?_
   show _=Ok (augO op x u χ) _
   rcases augO op x u χ with _ | ⟨y,ψ⟩
   ·exact okn
   ·refine Eq.trans ?_ oks.symm
    exact ok_map'
 | .expr e,loc,σ,Q=>omx (W:=wE Φ G e loc σ) (K:=KEx loc Q) (wE_eq e loc σ) fun v τ=>rfl
 | .ite t a b,loc,σ,Q=>by
  refine om (W:=wE Φ G t loc σ) (wE_eq t loc σ) fun v τ => ?_
  show _=Ok (truth τ v) _
  rcases truth τ v with _ | _ | _
  ·exact okn
  ·refine Eq.trans ?_ oks.symm; exact Eq.trans (wSs_eq b loc τ Q) (ft_f _ _).symm
  ·refine Eq.trans ?_ oks.symm; exact Eq.trans (wSs_eq a loc τ Q) (ft_t _ _).symm
 | .whl t b,loc,σ,Q=>by
  rfl
 | .for_ ts e b,loc,σ,Q=>by
  refine om (W:=wE Φ G e loc σ) (wE_eq e loc σ) fun v τ => ?_
  show _=Ok (items τ v) _
  rcases items τ v with _ | xs
  ·exact okn
  ·refine Eq.trans ?_ oks.symm
   rfl
 | .ret e,loc,σ,Q=>by
  refine om (W:=wE Φ G e loc σ) (wE_eq e loc σ) fun v τ => ?_
  exact oks
 | .brk,loc,σ,Q=>oks
 | .cont,loc,σ,Q=>oks
 | .fail,loc,σ,Q=>propext ok_none
theorem wSs_eq:∀ (ss:Ss) (loc:List V) (σ:H) (Q:Fl × List V × H->Prop),Ok (evSs Φ G ss loc σ) Q=wSs Φ G ss loc σ Q
 | .nil,loc,σ,Q=>oks
 | .cons s ss,loc,σ,Q=>by
  rw [evSs]; show _=wS Φ G s loc σ _; rw [<- wS_eq s]
  rcases evS Φ G s loc σ with _ | ⟨f,l,τ⟩
  ·exact okn
  ·refine Eq.trans ?_ oks.symm
   cases f with
   | next=>exact wSs_eq ss l τ Q
   | _=>exact oks
end
end
noncomputable def KG2 (Φ:Φt) (G:Nat->V) (es:Es) (loc:List V) (σ:H) (Q:Bool × H->Prop) (c:Bool):Prop:=(c=false->Q (false,σ))/\(c=true->Ok (evIf Φ G es loc σ) Q)
noncomputable def KG1 (Φ:Φt) (G:Nat->V) (es:Es) (loc:List V) (Q:Bool × H->Prop) (p:V × H):Prop:=Ok (truth p.2 p.1) (KG2 Φ G es loc p.2 Q)
noncomputable def KCc (k:List V->H->Option H) (loc:List V) (Q:H->Prop) (r:Bool × H):Prop:=(r.1=false->Q r.2)/\(r.1=true->Ok (k loc r.2) Q)
noncomputable def KMm2 (Q:H->Prop) (p:V × H):Prop:=Q p.2
noncomputable def KMm (acc:Nat) (Q:H->Prop) (p:V × H):Prop:=Ok (methV .append (.ref acc) p.1 p.2) (KMm2 Q)
noncomputable def KGg2 (Φ:Φt) (G:Nat->V) (ts:List Nat) (ifs:Es) (rest:Gs) (em:List V->H->Option H) (loc:List V) (p:V × H) (Q:H->Prop) (xs:List V):Prop:=Ok (compN ts (still p.1 xs) (evC (evIf Φ G ifs) (evG Φ G rest em)) xs loc p.2) Q
noncomputable def KGg (Φ:Φt) (G:Nat->V) (ts:List Nat) (ifs:Es) (rest:Gs) (em:List V->H->Option H) (loc:List V) (Q:H->Prop) (p:V × H):Prop:=Ok (items p.2 p.1) (KGg2 Φ G ts ifs rest em loc p Q)
section
variable {Φ:Φt} {G:Nat->V}
theorem e_var {i:Nat}:wE Φ G (.var i)=VarC i:=rfl
theorem e_glob {k:Nat}:wE Φ G (.glob k)=GlbC G k:=rfl
theorem e_int {i:Int}:wE Φ G (.int i)=ValC (.int i):=rfl
theorem e_bool {b:Bool}:wE Φ G (.bool b)=ValC (.bool b):=rfl
theorem e_none:wE Φ G (.none)=ValC .none:=rfl
theorem e_bin {op:Op} {a b:E}:wE Φ G (.bin op a b)=BinC op (wE Φ G a) (wE Φ G b):=rfl
theorem e_neg {a:E}:wE Φ G (.neg a)=NegC (wE Φ G a):=rfl
theorem e_inv {a:E}:wE Φ G (.inv a)=InvC (wE Φ G a):=rfl
theorem e_not {a:E}:wE Φ G (.not a)=NotC (wE Φ G a):=rfl
theorem e_cmp {op:Cm} {a b:E}:wE Φ G (.cmp op a b)=CmpC op (wE Φ G a) (wE Φ G b):=rfl
theorem e_cmp2 {op op':Cm} {a b c:E}:wE Φ G (.cmp2 op op' a b c)=Cm2C op op' (wE Φ G a) (wE Φ G b) (wE Φ G c):=rfl
theorem e_and {es:Es}:wE Φ G (.and es)=wAnd Φ G es:=rfl
theorem e_or {es:Es}:wE Φ G (.or es)=wOr Φ G es:=rfl
theorem e_ife {t a b:E}:wE Φ G (.ife t a b)=IfeC (wE Φ G t) (wE Φ G a) (wE Φ G b):=rfl
theorem e_attr {e:E} {f:Nat}:wE Φ G (.attr e f)=AttC (wE Φ G e) f:=rfl
theorem e_sub {e i:E}:wE Φ G (.sub e i)=SubC (wE Φ G e) (wE Φ G i):=rfl
theorem e_slice {e lo:E}:wE Φ G (.slice e lo)=SliC (wE Φ G e) (wE Φ G lo):=rfl
theorem e_slice2 {e lo hi:E}:wE Φ G (.slice2 e lo hi)=Sl2C (wE Φ G e) (wE Φ G lo) (wE Φ G hi):=rfl
theorem e_list {es:Es}:wE Φ G (.list es)=LstC (wEs Φ G es):=rfl
theorem e_tup {es:Es}:wE Φ G (.tup es)=TupC (wEs Φ G es):=rfl
theorem e_call {f:Nat} {es:Es}:wE Φ G (.call f es)=CalC Φ f (wEs Φ G es):=rfl
theorem e_new {c:Nat} {es:Es}:wE Φ G (.new c es)=NewC Φ c (wEs Φ G es):=rfl
theorem e_bi {b:Bi} {es:Es}:wE Φ G (.bi b es)=BiC b (wEs Φ G es):=rfl
theorem e_meth {m:Me} {o x:E}:wE Φ G (.meth m o x)=MetC m (wE Φ G o) (wE Φ G x):=rfl
theorem e_comp {elt it:E} {ts:List Nat} {ifs:Es} {rest:Gs}:wE Φ G (.comp elt ts it ifs rest)=ComC Φ G elt ts (wE Φ G it) ifs rest:=rfl
theorem e_and1 {e:E}:wAnd Φ G (.cons e .nil)=wE Φ G e:=rfl
theorem e_or1 {e:E}:wOr Φ G (.cons e .nil)=wE Φ G e:=rfl
theorem e_and2 {e e':E} {es:Es}:wAnd Φ G (.cons e (.cons e' es))=AndC (wE Φ G e) (wAnd Φ G (.cons e' es)):=rfl
theorem e_or2 {e e':E} {es:Es}:wOr Φ G (.cons e (.cons e' es))=OrC (wE Φ G e) (wOr Φ G (.cons e' es)):=rfl
theorem es_nil:wEs Φ G .nil=NilC:=rfl
theorem es_cons {e:E} {es:Es}:wEs Φ G (.cons e es)=ConC (wE Φ G e) (wEs Φ G es):=rfl
theorem s_asg {i:Nat} {e:E}:wS Φ G (.asg i e)=AsgC i (wE Φ G e):=rfl
theorem s_asgT {is:List Nat} {e:E}:wS Φ G (.asgT is e)=AsTC is (wE Φ G e):=rfl
theorem s_setA {o e:E} {f:Nat}:wS Φ G (.setA o f e)=SeAC (wE Φ G o) f (wE Φ G e):=rfl
theorem s_setI {o i e:E}:wS Φ G (.setI o i e)=SeIC (wE Φ G o) (wE Φ G i) (wE Φ G e):=rfl
theorem s_augV {i:Nat} {op:Op} {e:E}:wS Φ G (.augV i op e)=AuVC i op (wE Φ G e):=rfl
theorem s_augA {o e:E} {f:Nat} {op:Op}:wS Φ G (.augA o f op e)=AuAC (wE Φ G o) f op (wE Φ G e):=rfl
theorem s_augI {o i e:E} {op:Op}:wS Φ G (.augI o i op e)=AuIC (wE Φ G o) (wE Φ G i) op (wE Φ G e):=rfl
theorem s_expr {e:E}:wS Φ G (.expr e)=ExpC (wE Φ G e):=rfl
theorem s_ite {t:E} {a b:Ss}:wS Φ G (.ite t a b)=IteC (wE Φ G t) (wSs Φ G a) (wSs Φ G b):=rfl
theorem s_whl {t:E} {b:Ss}:wS Φ G (.whl t b)=WhlC Φ G t b:=rfl
theorem s_for {ts:List Nat} {e:E} {b:Ss}:wS Φ G (.for_ ts e b)=ForC Φ G ts (wE Φ G e) b:=rfl
theorem s_ret {e:E}:wS Φ G (.ret e)=RetC (wE Φ G e):=rfl
theorem s_brk:wS Φ G (.brk)=FloC .brk:=rfl
theorem s_cont:wS Φ G (.cont)=FloC .cont:=rfl
theorem ss_nil':wSs Φ G .nil=FloC .next:=rfl
theorem ss_cons' {s:S} {ss:Ss}:wSs Φ G (.cons s ss)=SeqC (wS Φ G s) (wSs Φ G ss):=rfl
end
section
variable {Φ:Φt} {G:Nat->V} {loc:List V} {σ:H} {Q:V × H->Prop}
theorem if_nil {Q:Bool × H->Prop}:Ok (evIf Φ G .nil loc σ) Q=Q (true,σ):=oks
theorem if_cons {e:E} {es:Es} {Q:Bool × H->Prop}:Ok (evIf Φ G (.cons e es) loc σ) Q=wE Φ G e loc σ (KG1 Φ G es loc Q):=by
 rw [evIf,<- wE_eq e]
 rcases evE Φ G e loc σ with _ | ⟨v,τ⟩
 ·exact okn
 ·refine Eq.trans ?_ oks.symm
  show _=Ok (truth τ v) _
  dsimp only
  rcases truth τ v with _ | _ | _
  ·exact okn
  ·refine Eq.trans ?_ oks.symm; exact Eq.trans oks (tf_f _ _).symm
  ·refine Eq.trans ?_ oks.symm; exact (tf_t _ _).symm
theorem ok_evC {p:List V->H->Option (Bool × H)} {k:List V->H->Option H} {Q:H->Prop}:Ok (evC p k loc σ) Q=Ok (p loc σ) (KCc k loc Q):=by
 unfold evC
 rcases p loc σ with _ | ⟨_ | _,τ⟩
 ·exact okn
 ·refine Eq.trans ?_ oks.symm; exact Eq.trans oks (tf_f _ _).symm
 ·refine Eq.trans ?_ oks.symm; exact (tf_t _ _).symm
theorem ok_evM {e:List V->H->Option (V × H)} {acc:Nat} {Q:H->Prop}:Ok (evM e acc loc σ) Q=Ok (e loc σ) (KMm acc Q):=by
 unfold evM
 rcases e loc σ with _ | ⟨v,τ⟩
 ·exact okn
 ·refine Eq.trans ?_ oks.symm; exact ok_map'
theorem g_nil {em:List V->H->Option H} {Q:H->Prop}:Ok (evG Φ G .nil em loc σ) Q=Ok (em loc σ) Q:=rfl
theorem g_cons {ts:List Nat} {it:E} {ifs:Es} {rest:Gs} {em:List V->H->Option H} {Q:H->Prop}:Ok (evG Φ G (.cons ts it ifs rest) em loc σ) Q=wE Φ G it loc σ (KGg Φ G ts ifs rest em loc Q):=by
 rw [evG,<- wE_eq it]
 rcases evE Φ G it loc σ with _ | ⟨v,τ⟩
 ·exact okn
 ·refine Eq.trans ?_ oks.symm
  show _=Ok (items τ v) _
  dsimp only
  rcases items τ v with _ | xs
  ·exact okn
  ·refine Eq.trans ?_ oks.symm; rfl
end
noncomputable def KR (Q:V × H->Prop):Fl × List V × H->Prop
 | (.next,_,σ)=>Q (.none,σ)
 | (.ret v,_,σ)=>Q (v,σ)
 | _=>False
noncomputable def KF (J:List V->H->Prop) (Q:Fl × List V × H->Prop):Fl × List V × H->Prop
 | (.next,loc,σ)=>J loc σ
 | (.cont,loc,σ)=>J loc σ
 | (.brk,loc,σ)=>Q (.next,loc,σ)
 | (.ret v,loc,σ)=>Q (.ret v,loc,σ)
section
variable {Φ:Φt} {G:Nat->V} {loc:List V} {σ:H} {Q:Fl × List V × H->Prop} {J:List V->H->Prop} {R:V × H->Prop}
theorem ks_next {ss:WS}:KS ss Q (.next,loc,σ)=ss loc σ Q:=rfl
theorem ks_ret {ss:WS} {v:V}:KS ss Q (.ret v,loc,σ)=Q (.ret v,loc,σ):=rfl
theorem ks_brk {ss:WS}:KS ss Q (.brk,loc,σ)=Q (.brk,loc,σ):=rfl
theorem ks_cont {ss:WS}:KS ss Q (.cont,loc,σ)=Q (.cont,loc,σ):=rfl
theorem kr_ret {v:V}:KR R (.ret v,loc,σ)=R (v,σ):=rfl
theorem kr_next:KR R (.next,loc,σ)=R (.none,σ):=rfl
theorem kf_next:KF J Q (.next,loc,σ)=J loc σ:=rfl
theorem kf_cont:KF J Q (.cont,loc,σ)=J loc σ:=rfl
theorem kf_brk:KF J Q (.brk,loc,σ)=Q (.next,loc,σ):=rfl
theorem kf_ret {v:V}:KF J Q (.ret v,loc,σ)=Q (.ret v,loc,σ):=rfl
theorem hR_:(True/\True)=True:=and_true _
theorem hI_:(True/\True)=True:=and_true _
theorem hJ_:(True/\True)=True:=and_true _
noncomputable def KBd {α:Type} (b:List V->H->Option α) (σ:H) (Q:α->Prop) (l:List V):Prop:=Ok (b l σ) Q
noncomputable def KWh2 (b:List V->H->Option (Fl × List V × H)) (loc:List V) (σ:H) (J:List V->H->Prop) (Q:Fl × List V × H->Prop) (c:Bool):Prop:=(c=false->Q (.next,loc,σ))/\(c=true->Ok (b loc σ) (KF J Q))
noncomputable def KWh (b:List V->H->Option (Fl × List V × H)) (loc:List V) (J:List V->H->Prop) (Q:Fl × List V × H->Prop) (p:V × H):Prop:=Ok (truth p.2 p.1) (KWh2 b loc p.2 J Q)
theorem ok_for {ts:List Nat} {ok:H->Bool} {b:List V->H->Option (Fl × List V × H)} (I:List V->List V->H->Prop) (hs:∀ (I_:List V->List V->H->Prop),(∀ r l s,I_ r l s=I r l s)->∀ x r loc σ,I (x::r) loc σ->ok σ=true/\Ok (bindT ts x σ loc) (KBd b σ (KF (I_ r) Q)))
  (he:∀ loc σ,I [] loc σ->ok σ=true/\Q (.next,loc,σ)):∀ {xs:List V} {loc:List V} {σ:H},I xs loc σ->Ok (forN ts ok b xs loc σ) Q
 | [],loc,σ,h=>by
  obtain ⟨h1,h2⟩:=he loc σ h
  unfold forN
  rw [if_pos h1,ok_some]; exact h2
 | x::r,loc,σ,h=>by
  obtain ⟨h1,hb⟩:=hs I (fun _ _ _=>rfl) x r loc σ h
  obtain ⟨l,e1,hb⟩:=hb.ex
  obtain ⟨r1,e2,h2⟩:=hb.ex
  unfold forN
  rw [if_pos h1,e1]
  dsimp only
  rw [e2]
  obtain ⟨f,l',σ'⟩:=r1
  cases f with
  | next=>exact ok_for I hs he h2
  | cont=>exact ok_for I hs he h2
  | brk=>exact ok_some.mpr h2
  | ret v=>exact ok_some.mpr h2
theorem ok_for_range {ts:List Nat} {ok:H->Bool} {b:List V->H->Option (Fl × List V × H)} {n:Nat} (I:Nat->List V->H->Prop) (hs:∀ (I_:Nat->List V->H->Prop),(∀ k l s,I_ k l s=I k l s)->∀ k loc σ,k<n->I k loc σ->ok σ=true/\Ok (bindT ts (.int k) σ loc) (KBd b σ (KF (I_ (k+1)) Q)))
  (he:∀ loc σ,I n loc σ->ok σ=true/\Q (.next,loc,σ)) {loc:List V} {σ:H} (h:I 0 loc σ):Ok (forN ts ok b ((List.range n).map fun k:Nat=>V.int k) loc σ) Q:=by
 refine ok_for (fun xs loc σ=>∃ k,k<=n/\xs=((List.range n).map fun k:Nat=>V.int k).drop k/\I k loc σ) ?_ ?_ ⟨0,Nat.zero_le _,rfl,h⟩
 ·rintro I_ hI_ x r loc σ ⟨k,hk,e,i⟩
  have hk':k<n:=by
   rcases Nat.lt_or_ge k n with q | q
   ·exact q
   ·rw [List.drop_eq_nil_of_le (by simpa using q)] at e; cases e
  rw [List.drop_eq_getElem_cons (by simpa using hk')] at e
  injection e with e1 e2
  subst e2
  have e1:x = .int k:=by rw [e1]; simp
  subst e1
  obtain ⟨h1,h2⟩:=hs I (fun _ _ _=>rfl) k loc σ hk' i
  refine ⟨h1,h2.mono fun l h2=>Ok.mono (show Ok _ _ from h2) fun p hp => ?_⟩
  obtain ⟨f,l',σ'⟩:=p
  cases f with
  | next=>rw [kf_next,hI_]; exact ⟨k+1,hk',rfl,hp⟩
  | cont=>rw [kf_cont,hI_]; exact ⟨k+1,hk',rfl,hp⟩
  | brk=>exact hp
  | ret v=>exact hp
 ·rintro loc σ ⟨k,hk,e,i⟩
  have:k=n:=by
   have:=congrArg List.length e
   simp at this
   exact Nat.le_antisymm hk (Z.lz (Eq.symm this))
  subst this
  exact he loc σ i
theorem upFrom_eq:∀ (n:Nat) (k:Nat),upFrom n (k:Int)=(List.range' k n).map fun i:Nat=>(i:Int)
 | 0,k=>rfl
 | n+1,k=>by
  unfold upFrom
  rw [show ((k:Int)+1)=((k+1:Nat):Int) by lia,upFrom_eq n (k+1)]
  rfl
theorem items_range {n:Nat} (h:n<=LIM) {lo:Int} (hl:lo=0):items σ (.rng lo n 1)=some ((List.range n).map fun k:Nat=>V.int k):=by
 subst hl
 unfold items
 have:(n:Int).natAbs=n:=rfl
 simp only [Int.natAbs_zero,Nat.zero_le,true_and,this,h,if_true]
 unfold rngItems
 rw [if_pos rfl]
 simp only [Int.sub_zero,Int.toNat_natCast,Option.map_some]
 have:=upFrom_eq n 0
 rw [show ((0:Nat):Int)=0 from rfl] at this
 rw [this,List.map_map,List.range_eq_range']
 rfl
theorem ok_while {t:List V->H->Option (V × H)} {b:List V->H->Option (Fl × List V × H)} (I:Nat->List V->H->Prop)
  (hs:∀ (I_:Nat->List V->H->Prop),(∀ k l s,I_ k l s=∃ k',k'<k/\I k' l s)->∀ k loc σ,I k loc σ->Ok (t loc σ) (KWh b loc (I_ k) Q)) :
  ∀ {N k:Nat} {loc:List V} {σ:H},k<N->I k loc σ->Ok (whileN t b N loc σ) Q
 | 0,k,_,_,h,_=>absurd h (Nat.not_lt_zero _)
 | N+1,k,loc,σ,h,i=>by
  obtain ⟨⟨v,σ1⟩,e1,hb⟩:=(hs (fun k l s=>∃ k',k'<k/\I k' l s) (fun _ _ _=>rfl) k loc σ i).ex
  obtain ⟨c,e2,h1,h2⟩:=hb.ex
  unfold whileN
  rw [e1]
  dsimp only at e2 h1 h2 ⊢
  rw [e2]
  cases c with
  | false=>exact ok_some.mpr (h1 rfl)
  | true =>
   obtain ⟨r1,e3,h3⟩:=(h2 rfl).ex
   dsimp only
   rw [e3]
   obtain ⟨f,l',σ'⟩:=r1
   cases f with
   | next=>obtain ⟨k',q,i'⟩:=h3; exact ok_while I hs (by exact Z.ltR q (Nat.le_of_lt_succ h)) i'
   | cont=>obtain ⟨k',q,i'⟩:=h3; exact ok_while I hs (by exact Z.ltR q (Nat.le_of_lt_succ h)) i'
   | brk=>exact ok_some.mpr h3
   | ret v=>exact ok_some.mpr h3
theorem ok_compN {ts:List Nat} {ok:H->Bool} {b:List V->H->Option H} {Q:H->Prop} (I:List V->H->Prop) (hs:∀ (I_:List V->H->Prop),(∀ r s,I_ r s=I r s)->∀ x r σ,I (x::r) σ->ok σ=true/\Ok (bindT ts x σ loc) (KBd b σ (I_ r)))
  (he:∀ σ,I [] σ->ok σ=true/\Q σ):∀ {xs:List V} {σ:H},I xs σ->Ok (compN ts ok b xs loc σ) Q
 | [],σ,h=>by
  obtain ⟨h1,h2⟩:=he σ h
  unfold compN
  rw [if_pos h1,ok_some]; exact h2
 | x::r,σ,h=>by
  obtain ⟨h1,hb⟩:=hs I (fun _ _=>rfl) x r σ h
  obtain ⟨l,e1,hb⟩:=hb.ex
  obtain ⟨σ1,e2,h2⟩:=hb.ex
  unfold compN
  rw [if_pos h1,e1]
  dsimp only
  rw [e2]
  exact ok_compN I hs he h2
theorem enter {f m:Nat} {d:Fn} {vs:List V} (h:prog f=some d) (h1:vs.length=d.np) (h2:d.np<=d.nv) (k:∀ P_:V × H->Prop,(∀ r,P_ r=R r)->Ok (evSs (callN prog glb m) glb d.body (vs++List.replicate (d.nv - d.np) .undef) σ) (KR P_)):Ok (callN prog glb (m+1) f vs σ) R:=by
 unfold callN
 rw [h]
 dsimp only
 unfold runFn
 rw [if_pos ⟨h1,h2⟩]
 obtain ⟨⟨fl,l,σ'⟩,e,q⟩:=(k R fun _=>rfl).ex
 rw [e]
 cases fl with
 | next=>exact ok_some.mpr q
 | ret v=>exact ok_some.mpr q
 | brk=>exact q.elim
 | cont=>exact q.elim
end
end Mob
namespace Mob
open PySem.Builtin (bitAnd bitOr bitXor bitNot)
noncomputable def sfs:List Int:=[0,1,0,-1,1,1,-1,-1]
noncomputable def srs:List Int:=[1,0,-1,0,1,-1,-1,1]
noncomputable def ways:List (Int × Int):=sfs.zip srs
noncomputable def jumps:List (Int × Int):=[(1,2),(2,1),(2,-1),(1,-2),(-1,-2),(-2,-1),(-2,1),(-1,2)]
noncomputable def onB (F R:Nat) (f r:Int):Bool:=decide (0<=f)&&decide (f<F)&&decide (0<=r)&&decide (r<R)
noncomputable def rayGo (F R:Nat) (df dr:Int):Nat->Int->Int->List Nat
 | 0,_,_=>[]
 | n+1,f,r=>if onB F R f r then (r*F+f).toNat::rayGo F R df dr n (f+df) (r+dr) else []
noncomputable def way (d:Nat):Int × Int:=ways.getD d (0,0)
noncomputable def rayL (F R d s:Nat):List Nat:=rayGo F R (way d).1 (way d).2 8 ((s%F:Nat)+(way d).1) ((s / F:Nat)+(way d).2)
noncomputable def hopsL (F R s:Nat):List (Int × Int)->List Nat
 | []=>[]
 | (df,dr)::r=>if onB F R ((s%F:Nat)+df) ((s / F:Nat)+dr) then (((s / F:Nat)+dr)*F+((s%F:Nat)+df)).toNat::hopsL F R s r else hopsL F R s r
noncomputable def walkL (p:Nat->Bool):List Nat->List Nat
 | []=>[]
 | t::r=>if p t then [t] else t::walkL p r
noncomputable def grows (d:Nat):Bool:=decide ((way d).2 > 0)||d==1
noncomputable def smear (b:Int):Int :=
 let b:=bitOr b (b.fdiv (2^1)); let b:=bitOr b (b.fdiv (2^2)); let b:=bitOr b (b.fdiv (2^4)); let b:=bitOr b (b.fdiv (2^8)); let b:=bitOr b (b.fdiv (2^16)); bitOr b (b.fdiv (2^32))
noncomputable def rayAttS (d:Nat) (ray stop:Int):Int :=
 if stop=0 then ray else if grows d then bitAnd ray (bitXor stop (stop - 1)) else bitAnd ray (bitNot (smear (stop.fdiv (2^1))))
noncomputable def allB:Nat->List (List Bool)
 | 0=>[[]]
 | n+1=>(allB n).flatMap fun v=>[true::v,false::v]
theorem mem_allB:∀ (v:List Bool),v∈allB v.length
 | []=>by simp [allB]
 | b::v=>by
  show b::v∈(allB v.length).flatMap _
  rw [List.mem_flatMap]
  exact ⟨v,mem_allB v,by cases b <;> simp⟩
noncomputable def selV:List Nat->List Bool->List Nat
 | t::r,b::v=>if b then t::selV r v else selV r v
 | _,_=>[]
noncomputable def walkV:List Nat->List Bool->List Nat
 | t::r,b::v=>if b then [t] else t::walkV r v
 | _,_=>[]
theorem selV_map (p:Nat->Bool):∀ L:List Nat,selV L (L.map p)=L.filter p
 | []=>rfl
 | t::r=>by
  show (if p t then t::selV r (r.map p) else selV r (r.map p))=_
  rw [selV_map p r,List.filter_cons]
theorem walkV_map (p:Nat->Bool):∀ L:List Nat,walkV L (L.map p)=walkL p L
 | []=>rfl
 | t::r=>by
  show (if p t then [t] else t::walkV r (r.map p))=_
  rw [walkV_map p r]; rfl
noncomputable def FRs:List (Nat × Nat):=[2,3,4,5,6].flatMap fun F=>[3,4,5].map fun R=>(F,R)
noncomputable def chkRay (F R:Nat):Bool:=(List.range 8).all fun d=>(List.range (F*R)).all fun s=>let L:=rayL F R d s; let x:=bitsOf L; (allB L.length).all fun v=>rayAttS d x (bitsOf (selV L v))==bitsOf (walkV L v)
theorem chkRay_all:(FRs.all fun p=>chkRay p.1 p.2)=true:=by decide +kernel
end Mob
namespace Mob
open PySem.Builtin (bitAnd bitOr bitXor bitNot)
noncomputable def Base (σ τ:H):Prop:=∃ δ,τ=σ++δ
namespace Base
variable {σ τ υ:H}
theorem refl:Base σ σ:=⟨[],by simp⟩
theorem trans (a:Base σ τ) (b:Base τ υ):Base σ υ:=by obtain ⟨δ,rfl⟩:=a; obtain ⟨δ',rfl⟩:=b; exact ⟨δ++δ',by rw [List.append_assoc]⟩
theorem push (a:Base σ τ) (o:O):Base σ (τ++[o]):=a.trans ⟨[o],rfl⟩
theorem len (a:Base σ τ):σ.length<=τ.length:=by obtain ⟨δ,rfl⟩:=a; simp
theorem get (a:Base σ τ) {i:Nat} {o:O} (h:σ[i]? = some o):τ[i]? = some o:=by
 obtain ⟨δ,rfl⟩:=a
 rw [List.getElem?_append_left (List.getElem?_eq_some_iff.mp h).1]; exact h
theorem set (a:Base σ τ) {i:Nat} (h:σ.length<=i) (o:O):Base σ (τ.set i o):=by
 obtain ⟨δ,rfl⟩:=a
 exact ⟨δ.set (i - σ.length) o,by rw [List.set_append_right _ _ h]⟩
end Base
theorem get_push {σ:H} {o:O}:(σ++[o])[σ.length]? = some o:=by simp
section
variable {σ τ:H}
set_option tactic.hygienic true in
theorem attrOf_base (b:Base σ τ) {v w:V} {f:Nat} (h:attrOf σ v f=some w):attrOf τ v f=some w:=by
 unfold attrOf at h ⊢
 split at h
 ·split at h
  ·rename_i q; rw [b.get q]; exact h
  ·cases h
 ·cases h
set_option tactic.hygienic true in
theorem getI_base (b:Base σ τ) {v w i:V} (h:getI σ v i=some w):getI τ v i=some w:=by
 unfold getI at h ⊢
 split at h
 ·split at h
  ·cases h
  ·rename_i hk
   rw [if_neg hk]
   split at h
   ·rename_i q; rw [b.get q]; exact h
   ·cases h
 ·exact h
 ·cases h
noncomputable def IsI (σ:H) (a:Nat) (xs:List Int):Prop:=∃ fz,σ[a]? = some (.list fz (xs.map V.int))
theorem IsI.base (b:Base σ τ) {a:Nat} {xs:List Int} (h:IsI σ a xs):IsI τ a xs:=let ⟨fz,e⟩:=h; ⟨fz,b.get e⟩
theorem IsI.getI {a:Nat} {xs:List Int} (h:IsI σ a xs) {k:Nat} {x:Int} (e:xs[k]? = some x):Mob.getI σ (.ref a) (.int k)=some (.int x):=by
 obtain ⟨fz,q⟩:=h
 unfold Mob.getI
 dsimp only
 rw [if_neg (by lia),q]
 simp [e]
end
structure GeoR where
 fm:Nat
 rm:Nat
 king:Nat
 knight:Nat
 rays:Nat
 ray:Nat->Nat
 pawn:Nat
 pw:Nat->Nat
 deriving Inhabited
noncomputable def pawnSteps (side:Nat):List (Int × Int):=if side=0 then [(-1,1),(1,1)] else [(-1,-1),(1,-1)]
structure GeoAt (A:GeoR) (F R g:Nat) (σ:H):Prop where
 files:attrOf σ (.ref g) 1=some (.int F)
 ranks:attrOf σ (.ref g) 2=some (.int R)
 size:attrOf σ (.ref g) 6=some (.int (F*R:Nat))
 full:attrOf σ (.ref g) 5=some (.int (bitsOf (List.range (F*R))))
 fm:attrOf σ (.ref g) 4=some (.ref A.fm)
 fmI:∀ (f:Nat),f<F->getI σ (.ref A.fm) (.int f)=some (.int (bitsOf ((List.range (F*R)).filter fun i=>i%F==f)))
 rm:attrOf σ (.ref g) 3=some (.ref A.rm)
 rmI:∀ (r:Nat),r<R->getI σ (.ref A.rm) (.int r)=some (.int (bitsOf ((List.range (F*R)).filter fun i=>i / F==r)))
 rays:attrOf σ (.ref g) 0=some (.ref A.rays)
 ray:∀ (d:Nat),d<8->getI σ (.ref A.rays) (.int d)=some (.ref (A.ray d))
 rayI:∀ (d s:Nat),d<8->s<F*R->getI σ (.ref (A.ray d)) (.int s)=some (.int (bitsOf (rayL F R d s)))
 king:attrOf σ (.ref g) 7=some (.ref A.king)
 kingI:∀ (s:Nat),s<F*R->getI σ (.ref A.king) (.int s)=some (.int (bitsOf (hopsL F R s ways)))
 knight:attrOf σ (.ref g) 9=some (.ref A.knight)
 knightI:∀ (s:Nat),s<F*R->getI σ (.ref A.knight) (.int s)=some (.int (bitsOf (hopsL F R s jumps)))
 pawn:attrOf σ (.ref g) 8=some (.ref A.pawn)
 pw:∀ (c:Nat),c<2->getI σ (.ref A.pawn) (.int c)=some (.ref (A.pw c))
 pwI:∀ (c s:Nat),c<2->s<F*R->getI σ (.ref (A.pw c)) (.int s)=some (.int (bitsOf (hopsL F R s (pawnSteps c))))
theorem GeoAt.base {A:GeoR} {F R g:Nat} {σ τ:H} (b:Base σ τ) (h:GeoAt A F R g σ):GeoAt A F R g τ :=
 ⟨attrOf_base b h.files,attrOf_base b h.ranks,attrOf_base b h.size,attrOf_base b h.full,attrOf_base b h.fm,fun f hf=>getI_base b (h.fmI f hf),attrOf_base b h.rm,fun f hf=>getI_base b (h.rmI f hf),
  attrOf_base b h.rays,fun d hd=>getI_base b (h.ray d hd),fun d s hd hs=>getI_base b (h.rayI d s hd hs),attrOf_base b h.king,fun s hs=>getI_base b (h.kingI s hs),attrOf_base b h.knight,fun s hs=>getI_base b (h.knightI s hs),
  attrOf_base b h.pawn,fun d hd=>getI_base b (h.pw d hd),fun d s hd hs=>getI_base b (h.pwI d s hd hs)⟩
section
variable {σ:H} {a b:Int}
theorem rd_int {i:Int}:rdV (.int i)=some (.int i):=rfl
theorem rd_ref {i:Nat}:rdV (.ref i)=some (.ref i):=rfl
theorem rd_bool {i:Bool}:rdV (.bool i)=some (.bool i):=rfl
theorem rd_none:rdV .none=some .none:=rfl
theorem rd_tup {xs:List A}:rdV (.tup xs)=some (.tup xs):=rfl
theorem rd_rng {x y z:Int}:rdV (.rng x y z)=some (.rng x y z):=rfl
theorem bv_add:binV .add (.int a) (.int b) σ=some (.int (a+b),σ):=id rfl
theorem ao_add:augO .add (.int a) (.int b) σ=some (.int (a+b),σ):=id rfl
theorem bv_sub:binV .sub (.int a) (.int b) σ=some (.int (a - b),σ):=id rfl
theorem ao_sub:augO .sub (.int a) (.int b) σ=some (.int (a - b),σ):=id rfl
theorem bv_mul:binV .mul (.int a) (.int b) σ=if a.natAbs<2^64 then some (.int (a*b),σ) else none:=by unfold binV binI; dsimp only; split <;> rfl
theorem ao_mul:augO .mul (.int a) (.int b) σ=if a.natAbs<2^64 then some (.int (a*b),σ) else none:=by unfold augO binI; dsimp only; split <;> rfl
theorem bv_fdiv:binV .fdiv (.int a) (.int b) σ=if b≠0/\b.natAbs<1073741824 then some (.int (a.fdiv b),σ) else none:=by unfold binV binI; dsimp only; split <;> rfl
theorem ao_fdiv:augO .fdiv (.int a) (.int b) σ=if b≠0/\b.natAbs<1073741824 then some (.int (a.fdiv b),σ) else none:=by unfold augO binI; dsimp only; split <;> rfl
theorem bv_mod:binV .mod (.int a) (.int b) σ=if b≠0/\b.natAbs<1073741824 then some (.int (a.fmod b),σ) else none:=by unfold binV binI; dsimp only; split <;> rfl
theorem ao_mod:augO .mod (.int a) (.int b) σ=if b≠0/\b.natAbs<1073741824 then some (.int (a.fmod b),σ) else none:=by unfold augO binI; dsimp only; split <;> rfl
theorem bv_band:binV .band (.int a) (.int b) σ=some (.int (bitAnd a b),σ):=id rfl
theorem ao_band:augO .band (.int a) (.int b) σ=some (.int (bitAnd a b),σ):=id rfl
theorem bv_bor:binV .bor (.int a) (.int b) σ=some (.int (bitOr a b),σ):=id rfl
theorem ao_bor:augO .bor (.int a) (.int b) σ=some (.int (bitOr a b),σ):=id rfl
theorem bv_bxor:binV .bxor (.int a) (.int b) σ=some (.int (bitXor a b),σ):=id rfl
theorem ao_bxor:augO .bxor (.int a) (.int b) σ=some (.int (bitXor a b),σ):=id rfl
theorem bv_shl:binV .shl (.int a) (.int b) σ=if 0<=b/\b<=1000/\a.natAbs<2^64 then some (.int (a*2^b.toNat),σ) else none:=by unfold binV binI; dsimp only; split <;> rfl
theorem ao_shl:augO .shl (.int a) (.int b) σ=if 0<=b/\b<=1000/\a.natAbs<2^64 then some (.int (a*2^b.toNat),σ) else none:=by unfold augO binI; dsimp only; split <;> rfl
theorem bv_shr:binV .shr (.int a) (.int b) σ=if 0<=b then some (.int (a.fdiv (2^b.toNat)),σ) else none:=by unfold binV binI; dsimp only; split <;> rfl
theorem ao_shr:augO .shr (.int a) (.int b) σ=if 0<=b then some (.int (a.fdiv (2^b.toNat)),σ) else none:=by unfold augO binI; dsimp only; split <;> rfl
theorem cm_eq:cmpV .eq σ (.int a) (.int b)=some (a==b):=rfl
theorem cm_ne:cmpV .ne σ (.int a) (.int b)=some (!(a==b)):=rfl
theorem cm_lt:cmpV .lt σ (.int a) (.int b)=some (decide (a<b)):=rfl
theorem cm_le:cmpV .le σ (.int a) (.int b)=some (decide (a<=b)):=rfl
theorem cm_gt:cmpV .gt σ (.int a) (.int b)=some (decide (b<a)):=rfl
theorem cm_ge:cmpV .ge σ (.int a) (.int b)=some (decide (b<=a)):=rfl
theorem tr_bool {c:Bool}:truth σ (.bool c)=some c:=rfl
theorem tr_int:truth σ (.int a)=some (a != 0):=rfl
theorem toI_int:(V.int a).toI=some a:=rfl
theorem br_1:biV .range [.int a] σ=some (.rng 0 a 1,σ):=rfl
theorem br_2:biV .range [.int a,.int b] σ=some (.rng a b 1,σ):=rfl
theorem b_min:biV .min [.int a,.int b] σ=some (.int (min a b),σ):=rfl
theorem b_max:biV .max [.int a,.int b] σ=some (.int (max a b),σ):=rfl
theorem b_abs:biV .abs [.int a] σ=some (.int a.natAbs,σ):=rfl
theorem bt_1 {i:Nat} {v:V} {loc:List V}:bindT [i] v σ loc=some (loc.set i v):=rfl
theorem it_tup {as:List A}:items σ (.tup as)=some (as.map A.toV):=rfl
theorem ta_nil:toAs []=some []:=rfl
theorem ta_int {i:Int} {r:List V}:toAs (.int i::r)=(toAs r).map (A.int i :: ·):=by
 show (match V.toA (.int i),toAs r with | some a,some as=>some (a::as) | _,_=>none)=_
 cases toAs r <;> rfl
theorem ta_ref {i:Nat} {r:List V}:toAs (.ref i::r)=(toAs r).map (A.ref i :: ·):=by
 show (match V.toA (.ref i),toAs r with | some a,some as=>some (a::as) | _,_=>none)=_
 cases toAs r <;> rfl
theorem gl_0:glb 0 = .int 0:=rfl
theorem gl_1:glb 1 = .int 1:=rfl
theorem gl_2:glb 2 = .int 1:=rfl
theorem gl_3:glb 3 = .int 2:=rfl
theorem gl_4:glb 4 = .int 3:=rfl
theorem gl_5:glb 5 = .int 4:=rfl
theorem gl_6:glb 6 = .int 5:=rfl
theorem gl_7:glb 7 = .int 6:=rfl
theorem gl_8:glb 8 = .int 0:=rfl
end
local macro_rules | `(tactic| simp! [$ts,*])=>do
 let ns := "hR_ hI_ hJ_ wSs_eq wE_eq okr bv_add bv_sub bv_mul bv_fdiv bv_mod bv_band bv_bor bv_bxor bv_shl bv_shr ao_add ao_sub ao_mul ao_fdiv ao_mod ao_band ao_bor ao_bxor ao_shl ao_shr ss_cons' ss_nil' s_asg s_augV s_setA s_setI s_augA s_augI s_expr s_ite s_ret s_brk s_cont s_asgT s_whl s_for e_var e_glob e_int e_bool e_none e_bin e_neg e_inv e_not e_cmp e_cmp2 e_ife e_attr e_sub e_call e_bi e_meth e_list e_tup e_new ta_nil ta_int ta_ref Option.map_some e_and1 e_or1 e_and2 e_or2 es_nil es_cons ks_next ks_ret ks_brk ks_cont kr_ret kr_next kf_next kf_cont kf_brk kf_ret oks ok_map' ok_ite rd_int rd_ref rd_bool rd_none rd_tup rd_rng cm_eq cm_ne cm_lt cm_le cm_gt cm_ge tr_bool tr_int toI_int br_1 br_2 b_min b_max b_abs bt_1 it_tup gl_0 gl_1 gl_2 gl_3 gl_4 gl_5 gl_6 gl_7 gl_8 List.getElem?_cons_zero List.getElem?_cons_succ Option.bind_some List.set_cons_zero List.set_cons_succ List.cons_append List.nil_append List.append_nil List.replicate_succ List.replicate_zero Nat.sub_self Nat.sub_zero Nat.reduceSub Int.reduceToNat Int.reduceLE Int.reduceLT Int.reduceNeg reduceCtorEq forall_const false_implies implies_true and_true true_and Bool.not_true Bool.not_false ne_eq not_false_eq_true Int.reduceEq Int.reduceBEq Bool.false_eq_true Int.reduceAdd Int.reduceSub Int.reduceMul Int.natAbs_one Nat.reducePow Nat.reduceLT KV KBo VarC GlbC ValC KB2 KB1 BinC KNe2 KNe NegC KIn2 KIn InvC KNo2 KNo NotC KC2 KC1 CmpC KD3 KD2 KD1 Cm2C KA2 KA1 AndC KO2 KO1 OrC KI2 KI1 IfeC KAt AttC KS2 KS1 SubC KL2 KL1 SliC KM3 KM2 KM1 Sl2C KLi LstC KT2 KT TupC KCa CalC KNw2 KNw NewC KBi BiC KMe2 KMe MetC KCo3 KCo2 KCo ComC NilC KE2 KE1 ConC FalC KAs AsgC KLo KTs AsTC KH KSa2 KSa SeAC KSi3 KSi2 KSi SeIC KU2 KU1 AuVC KX4 KX3 KX2 KX1 AuAC KY5 KY4 KY3 KY2 KY1 AuIC KEx ExpC KIf2 KIf IteC WhlC KFo2 KFo ForC KRe RetC FloC FaiC SeqC KG2 KG1 KCc KMm2 KMm KGg2 KGg KMp KBd KWh2 KWh".splitOn " "
 let xs <- ns.toArray.mapM fun s => `(Lean.Parser.Tactic.simpLemma| $(Lean.mkIdent s.toName):ident)
 let ys:=ts.getElems.map (fun t=>(⟨t.raw⟩:Lean.TSyntax `Lean.Parser.Tactic.simpLemma))++xs
 `(tactic| try simp only [$ys,*])
section
variable {A:GeoR} {F R g:Nat} {σ:H} {m:Nat}
theorem sp_is_growing {d:Nat} (hd:d<8):Ok (callN prog glb (m+1) 10 [.int d] σ) (fun p=>p=(.bool (grows d),σ)):=by
 revert σ m d
 exists σ,m,d
 intro hd
 have:d=0\/d=1\/d=2\/d=3\/d=4\/d=5\/d=6\/d=7:=by exact Z.or8 hd
 rcases this with rfl | rfl | rfl | rfl | rfl | rfl | rfl | rfl <;> exact ⟨_,rfl,rfl⟩
theorem sp_ray {d s:Nat} {occ:Int} (G:GeoAt A F R g σ) (hd:d<8) (hs:s<F*R) :
  Ok (callN prog glb (m+2) 18 [.ref g,.int d,.int s,.int occ] σ) (fun p=>p=(.int (rayAttS d (bitsOf (rayL F R d s)) (bitAnd (bitsOf (rayL F R d s)) occ)),σ)):=by
 revert A F R g σ m d s occ
 exists A,F,R,g,σ,m,d,s,occ
 intro G hd hs
 refine enter rfl rfl (by decide) fun P_ hR_ => ?_
 simp only [f_ray_attacks,b_ray_attacks]
 simp! [oks,e_and,e_or]
 simp! [G.rays,G.ray d hd,G.rayI d s hd hs,e_and,e_or]
 simp! [oks,e_and,e_or]
 refine ⟨fun h => ?_,fun h=>(sp_is_growing hd).mono ?_⟩
 ·have h:bitAnd (bitsOf (rayL F R d s)) occ=0:=by simpa using h
  unfold rayAttS
  rw [if_pos h]
 ·rintro _ rfl
  have h:¬ bitAnd (bitsOf (rayL F R d s)) occ=0:=by simpa using h
  simp! [oks,e_and,e_or]
  unfold rayAttS smear
  rw [if_neg h]
  refine ⟨fun h => ?_,fun h => ?_⟩
  ·rw [if_pos h]
  ·rw [h]; rfl
end
theorem FRs_mem {F R:Nat} (h1:2<=F) (h2:F<=6) (h3:3<=R) (h4:R<=5):(F,R)∈FRs:=by
 revert F R
 exists F,R
 intro h1 h2 h3 h4
 have:F=2\/F=3\/F=4\/F=5\/F=6:=by exact Z.or26 h1 h2
 have:R=3\/R=4\/R=5:=by exact Z.or35 ⟨(Nat.le_trans (by decide) h3),h4⟩ (Z.ne_gt (Z.ltn h3))
 rcases ‹F=2\/_› with rfl | rfl | rfl | rfl | rfl <;> rcases ‹R=3\/_› with rfl | rfl | rfl <;> decide
theorem filter_bits {p:Nat->Bool} {x:Int} (h:Bits x p) (L:List Nat):bitAnd (bitsOf L) x=bitsOf (L.filter p):=by
 refine ibit_inj fun i => ?_
 rw [ibit_and,ibit_bitsOf,ibit_bitsOf,h]
 simp only [List.mem_filter]
 by_cases h1:i∈L <;> cases p i <;> simp [h1]
theorem ray_bits {F R d s:Nat} {p:Nat->Bool} {occ:Int} (hF:(F,R)∈FRs) (hd:d<8) (hs:s<F*R) (ho:Bits occ p) :
  rayAttS d (bitsOf (rayL F R d s)) (bitAnd (bitsOf (rayL F R d s)) occ)=bitsOf (walkL p (rayL F R d s)):=by
 have h:=List.all_eq_true.mp chkRay_all (F,R) hF
 have h:=List.all_eq_true.mp h d (List.mem_range.mpr hd)
 have h:=List.all_eq_true.mp h s (List.mem_range.mpr hs)
 have h:=List.all_eq_true.mp h ((rayL F R d s).map p) (by have:=mem_allB ((rayL F R d s).map p); rwa [List.length_map] at this)
 rw [selV_map,walkV_map,beq_iff_eq] at h
 rw [filter_bits ho]
 exact h
noncomputable def slideL (F R:Nat) (p:Nat->Bool) (ds:List Nat) (s:Nat):List Nat:=ds.flatMap fun d=>walkL p (rayL F R d s)
section
variable {A:GeoR} {F R g:Nat} {σ:H} {m:Nat}
theorem sp_ray' {d s:Nat} {occ:Int} {p:Nat->Bool} (hF:(F,R)∈FRs) (G:GeoAt A F R g σ) (hd:d<8) (hs:s<F*R) (ho:Bits occ p) :
  Ok (callN prog glb (m+2) 18 [.ref g,.int d,.int s,.int occ] σ) (fun r=>r=(.int (bitsOf (walkL p (rayL F R d s))),σ)):=by
 rw [<- ray_bits hF hd hs ho]
 exact sp_ray G hd hs
theorem slide_loop {s:Nat} {occ:Int} {p:Nat->Bool} (hF:(F,R)∈FRs) (G:GeoAt A F R g σ) (hs:s<F*R) (ho:Bits occ p) {v:V} (hv:∀ xs σ,still v xs σ=true) {Q:Fl × List V × H->Prop} {ds:List Nat} (hds:∀ d∈ds,d<8)
  (hQ:∀ x dv,Bits x (fun i=>decide (i∈slideL F R p ds s))->Q (.next,[.ref g,.int s,.int occ,.int x,dv],σ)) :
  Ok (forN [4] (still v (ds.map fun d:Nat=>V.int d)) (evSs (callN prog glb (m+2)) glb (.cons (.augV 3 .bor (.call 18 (.cons (.var 0) (.cons (.var 4) (.cons (.var 1) (.cons (.var 2) .nil)))))) .nil)) (ds.map fun d:Nat=>V.int d) [.ref g,.int s,.int occ,.int 0,.undef] σ) Q:=by
 revert A F R g σ m s occ p v Q ds
 exists A,F,R,g,σ,m,s,occ,p
 intro hF G hs ho
 exists v
 intro hv
 exists Q,ds
 intro hds hQ
 refine ok_for (fun r loc σ'=>σ'=σ/\∃ ds1 ds2 x dv,ds1++ds2=ds/\r=ds2.map (fun d:Nat=>V.int d)/\loc=[.ref g,.int s,.int occ,.int x,dv]/\Bits x (fun i=>decide (i∈slideL F R p ds1 s))) ?_ ?_ ⟨rfl,[],ds,0,.undef,rfl,rfl,rfl,fun i=>by rw [ibit_zero]; simp [slideL]⟩
 ·intro I_ hI_ x r loc _ zq
  refine an2 zq fun zq2 => ?_
  clear zq
  subst zq2
  intro zq3
  refine ea4_4 zq3 fun ds1 ds2 y dv e1 e2 zq4 => ?_
  clear zq3
  subst zq4
  intro hb
  cases ds2 with
  | nil=>cases e2
  | cons d ds2 =>
   rw [List.map_cons] at e2
   injection e2 with e2 e3
   subst e2 e3
   have hd:d<8:=hds d (by rw [<- e1]; simp)
   refine ⟨hv _ _,?_⟩
   simp! [oks,e_and,e_or]
   refine (sp_ray' hF G hd hs ho).at_ ?_
   simp! [oks,e_and,e_or]
   refine ix4 (ds1++[d]) ds2 _ _ ⟨by simp [<- e1],rfl,rfl,fun i => ?_⟩
   rw [ibit_or,hb,ibit_bitsOf]
   simp [slideL]
 ·intro loc _ zq
  refine an2 zq fun zq2 => ?_
  clear zq
  subst zq2
  intro zq3
  refine ea4_4 zq3 fun ds1 ds2 y dv e1 e2 zq4 => ?_
  clear zq3
  subst zq4
  intro hb
  have:ds2=[]:=by cases ds2 with | nil=>rfl | cons=>cases e2
  subst this
  rw [List.append_nil] at e1
  subst e1
  exact ⟨hv _ _,hQ _ _ hb⟩
theorem sp_rook {s:Nat} {occ:Int} {p:Nat->Bool} (hF:(F,R)∈FRs) (G:GeoAt A F R g σ) (hs:s<F*R) (ho:Bits occ p) :
  Ok (callN prog glb (m+3) 19 [.ref g,.int s,.int occ] σ) (fun r=>r.2=σ/\∃ x,r.1 = .int x/\Bits x (fun i=>decide (i∈slideL F R p [0,1,2,3] s))):=by
 refine enter rfl rfl (by decide) fun P_ hR_ => ?_
 simp only [f_rook_attacks,b_rook_attacks]
 simp! [oks,e_and,e_or]
 rw [show items σ (.rng 0 4 1)=some (([0,1,2,3]:List Nat).map fun d:Nat=>V.int d) from rfl,ok_some]
 refine slide_loop hF G hs ho (fun _ _=>rfl) (by decide) fun x dv hb => ?_
 simp! [oks,e_and,e_or]
 exact ⟨x,rfl,hb⟩
theorem sp_bishop {s:Nat} {occ:Int} {p:Nat->Bool} (hF:(F,R)∈FRs) (G:GeoAt A F R g σ) (hs:s<F*R) (ho:Bits occ p) :
  Ok (callN prog glb (m+3) 20 [.ref g,.int s,.int occ] σ) (fun r=>r.2=σ/\∃ x,r.1 = .int x/\Bits x (fun i=>decide (i∈slideL F R p [4,5,6,7] s))):=by
 refine enter rfl rfl (by decide) fun P_ hR_ => ?_
 simp only [f_bishop_attacks,b_bishop_attacks]
 simp! [oks,e_and,e_or]
 rw [show items σ (.rng 4 8 1)=some (([4,5,6,7]:List Nat).map fun d:Nat=>V.int d) from rfl,ok_some]
 refine slide_loop hF G hs ho (fun _ _=>rfl) (by decide) fun x dv hb => ?_
 simp! [oks,e_and,e_or]
 exact ⟨x,rfl,hb⟩
theorem sp_queen {s:Nat} {occ:Int} {p:Nat->Bool} (hF:(F,R)∈FRs) (G:GeoAt A F R g σ) (hs:s<F*R) (ho:Bits occ p) :
  Ok (callN prog glb (m+4) 21 [.ref g,.int s,.int occ] σ) (fun r=>r.2=σ/\∃ x,r.1 = .int x/\Bits x (fun i=>decide (i∈slideL F R p [0,1,2,3,4,5,6,7] s))):=by
 revert A F R g σ m s occ p
 exists A,F,R,g,σ,m,s,occ,p
 intro hF G hs ho
 refine enter rfl rfl (by decide) fun P_ hR_ => ?_
 simp only [f_queen_attacks,b_queen_attacks]
 simp! [oks,e_and,e_or]
 refine (sp_rook hF G hs ho).int_ fun x hx => ?_
 simp! [oks,e_and,e_or]
 refine (sp_bishop hF G hs ho).int_ fun y hy => ?_
 simp! [oks,e_and,e_or]
 refine ⟨_,rfl,fun i => ?_⟩
 rw [ibit_or,hx,hy]
 simp [slideL,Bool.or_assoc]
noncomputable def dirsOf (k:Nat):List Nat:=if k=3 then [4,5,6,7] else if k=4 then [0,1,2,3] else [0,1,2,3,4,5,6,7]
theorem sp_slider {s k:Nat} {occ:Int} {p:Nat->Bool} (hF:(F,R)∈FRs) (G:GeoAt A F R g σ) (hs:s<F*R) (ho:Bits occ p) (hk:k=3\/k=4\/k=5) :
  Ok (callN prog glb (m+5) 22 [.ref g,.int k,.int s,.int occ] σ) (fun r=>r.2=σ/\∃ x,r.1 = .int x/\Bits x (fun i=>decide (i∈slideL F R p (dirsOf k) s))):=by
 revert A F R g σ m s k occ p
 exists A,F,R,g,σ,m,s,k,occ,p
 intro hF G hs ho hk
 refine enter rfl rfl (by decide) fun P_ hR_ => ?_
 simp only [f_slider_attacks,b_slider_attacks]
 rcases hk with rfl | rfl | rfl
 ·simp! [oks,e_and,e_or]
  refine ⟨fun _=>(sp_bishop (m:=m+1) hF G hs ho).mono ?_,fun h=>by simp at h⟩
  rintro ⟨_,_⟩
  intro zq
  refine an2 zq fun zq2 => ?_
  clear zq
  subst zq2
  intro zq3
  refine ea1_2 zq3 fun x zq4 => ?_
  clear zq3
  subst zq4
  intro hx
  show P_ _
  rw [hR_]
  exact ⟨rfl,x,rfl,hx⟩
 ·simp! [oks,e_and,e_or]
  refine ⟨fun h=>by simp at h,fun _=>⟨fun _=>(sp_rook (m:=m+1) hF G hs ho).mono ?_,fun h=>by simp at h⟩⟩
  rintro ⟨_,_⟩
  intro zq
  refine an2 zq fun zq2 => ?_
  clear zq
  subst zq2
  intro zq3
  refine ea1_2 zq3 fun x zq4 => ?_
  clear zq3
  subst zq4
  intro hx
  show P_ _
  rw [hR_]
  exact ⟨rfl,x,rfl,hx⟩
 ·simp! [oks,e_and,e_or]
  refine ⟨fun h=>by simp at h,fun _=>⟨fun h=>by simp at h,fun _=>⟨fun _=>(sp_queen hF G hs ho).mono ?_,fun h=>by simp at h⟩⟩⟩
  rintro ⟨_,_⟩
  intro zq
  refine an2 zq fun zq2 => ?_
  clear zq
  subst zq2
  intro zq3
  refine ea1_2 zq3 fun x zq4 => ?_
  clear zq3
  subst zq4
  intro hx
  show P_ _
  rw [hR_]
  exact ⟨rfl,x,rfl,hx⟩
noncomputable def seesL (F R:Nat) (p:Nat->Bool) (c k s:Nat):List Nat :=
 if k=1 then hopsL F R s (pawnSteps c) else if k=2 then hopsL F R s jumps else if k=6 then hopsL F R s ways else slideL F R p (dirsOf k) s
theorem sp_piece {s k c:Nat} {occ:Int} {p:Nat->Bool} (hF:(F,R)∈FRs) (G:GeoAt A F R g σ) (hs:s<F*R) (hc:c<2) (ho:Bits occ p) (hk:1<=k/\k<=6) :
  Ok (callN prog glb (m+6) 23 [.ref g,.int c,.int k,.int s,.int occ] σ) (fun r=>r.2=σ/\∃ x,r.1 = .int x/\Bits x (fun i=>decide (i∈seesL F R p c k s))):=by
 revert A F R g σ m s k c occ p
 exists A,F,R,g,σ,m,s,k,c,occ,p
 intro hF G hs hc ho hk
 refine enter rfl rfl (by decide) fun P_ hR_ => ?_
 simp only [f_piece_attacks,b_piece_attacks]
 simp! [oks,e_and,e_or]
 simp! [G.pawn,G.pw c hc,G.pwI c s hc hs,G.knight,G.knightI s hs,G.king,G.kingI s hs,e_and,e_or]
 have:k=1\/k=2\/k=6\/(k=3\/k=4\/k=5):=by exact Z.or16' hk
 rcases this with rfl | rfl | rfl | h
 ·exact ⟨fun _=>⟨_,rfl,fun i=>ibit_bitsOf _ i⟩,fun h=>by simp at h⟩
 ·exact ⟨fun h=>by simp at h,fun _=>⟨fun _=>⟨_,rfl,fun i=>ibit_bitsOf _ i⟩,fun h=>by simp at h⟩⟩
 ·exact ⟨fun h=>by simp at h,fun _=>⟨fun h=>by simp at h,fun _=>⟨fun _=>⟨_,rfl,fun i=>ibit_bitsOf _ i⟩,fun h=>by simp at h⟩⟩⟩
 ·refine ⟨fun q => ?_,fun _=>⟨fun q => ?_,fun _=>⟨fun q => ?_,fun _ => ?_⟩⟩⟩
  ·simp at q; exact (Z.n345 h (by decide) q).elim
  ·simp at q; exact (Z.n345 h (by decide) q).elim
  ·simp at q; exact (Z.n345 h (by decide) q).elim
  ·refine (sp_slider hF G hs ho h).int_ fun x hx => ?_
   show P_ _
   rw [hR_]
   refine ⟨rfl,x,rfl,?_⟩
   have e:seesL F R p c k s=slideL F R p (dirsOf k) s:=by
    unfold seesL
    rw [if_neg (by lia),if_neg (by lia),if_neg (by lia)]
   rw [e]; exact hx
end
noncomputable def pc (q:Nat->Bool):Nat:=(List.range 32).countP q
theorem countP_drop {r:Nat->Bool} {j:Nat} (hj:r j=true):∀ n,j<n->(List.range n).countP r=(List.range n).countP (fun i=>r i&&decide (i≠j))+1
 | 0,h=>by lia
 | n+1,h=>by
  rw [List.range_succ,List.countP_append,List.countP_append]
  by_cases e:j=n
  ·subst e
   have:(List.range j).countP r=(List.range j).countP (fun i=>r i&&decide (i≠j)):=by
    refine List.countP_congr fun i hi => ?_
    have:=List.mem_range.mp hi
    have:i≠j:=by exact Nat.ne_of_lt this
    simp [this]
   rw [this]
   simp [hj]
  ·rw [countP_drop hj n (by exact Z.lt1 h e)]
   have:n≠j:=fun z=>e z.symm
   simp [this]
   exact Z.i1c
theorem Bits.zero {q:Nat->Bool} (h:Bits 0 q):∀ i,q i=false:=fun i=>by rw [<- h i,ibit_zero]
theorem Bits.ne {q:Nat->Bool} {x:Int} (h:Bits x q) (z:x≠0):∃ i,q i=true:=let ⟨i,e⟩:=ibit_ne z; ⟨i,(h i).symm.trans e⟩
theorem pc_zero {q:Nat->Bool} (h:∀ i,q i=false):pc q=0:=by
 unfold pc
 rw [List.countP_eq_zero]
 intro i _
 simp [h i]
theorem pc_congr {q r:Nat->Bool} (h:∀ i,q i=r i):pc q=pc r:=by rw [show q=r from funext h]
theorem pc_le {q:Nat->Bool}:pc q<=32:=by unfold pc; exact Nat.le_trans List.countP_le_length (by simp)
section
variable {A:GeoR} {F R g:Nat} {σ:H} {m:Nat}
theorem sp_count {x:Int} {q:Nat->Bool} (h:Bits x q) (hs:∀ i,32<=i->q i=false):Ok (callN prog glb (m+1) 2 [.int x] σ) (fun r=>r=(.int (pc q:Nat),σ)):=by
 revert σ m x q
 exists σ,m,x,q
 intro h hs
 refine enter rfl rfl (by decide) fun P_ hR_ => ?_
 simp only [f_count_bits,b_count_bits]
 simp! [oks,e_and,e_or]
 refine ok_while (fun k loc σ'=>σ'=σ/\∃ y r c,loc=[.int y,.int (c:Nat)]/\Bits y r/\(∀ i,32<=i->r i=false)/\c+pc r=pc q/\k=pc r) ?_ (k:=pc q) (by have := @pc_le q; unfold WFUEL; exact Nat.lt_of_le_of_lt this (by decide)) ⟨rfl,x,q,0,rfl,h,hs,by exact Nat.add_comm _ _,rfl⟩
 intro I_ hI_ k loc _ zq
 refine an2 zq fun zq2 => ?_
 clear zq
 subst zq2
 intro zq3
 refine ea3_5 zq3 fun y r c zq4 => ?_
 clear zq3
 subst zq4
 intro hb hr e zq5
 subst zq5
 simp! [oks,e_and,e_or]
 refine ⟨fun z => ?_,fun z => ?_⟩
 ·have:y=0:=by simpa using z
  subst this
  rw [pc_zero hb.zero] at e
  simp [<- e]
 ·have z:y≠0:=by simpa using z
  refine ea1_3 (ibit_drop _ y (Nat.le_refl _) z) fun j j1 j2 j3 => ?_
  have jr:r j=true:=(hb j).symm.trans j1
  have j32:j<32:=by
   rcases Nat.lt_or_ge j 32 with q | q
   ·exact q
   ·rw [hr j q] at jr; cases jr
  have pd:pc r=pc (fun i=>r i&&decide (i≠j))+1:=countP_drop jr 32 j32
  refine ⟨_,by rw [pd]; exact Nat.lt_succ_self _,_,fun i=>r i&&decide (i≠j),c+1,rfl,fun i=>by rw [j3,hb],fun i hi=>by simp [hr i hi],by lia,rfl⟩
theorem sp_more {x:Int} {q:Nat->Bool} (h:Bits x q) (hs:∀ i,32<=i->q i=false):Ok (callN prog glb (m+1) 3 [.int x] σ) (fun r=>r=(.bool (decide (2<=pc q)),σ)):=by
 revert σ m x q
 exists σ,m,x,q
 intro h hs
 refine enter rfl rfl (by decide) fun P_ hR_ => ?_
 simp only [f_more_than_one,b_more_than_one]
 simp! [oks,e_and,e_or]
 congr 2
 by_cases z:x=0
 ·subst z
  rw [pc_zero h.zero]
  rfl
 ·refine ea1_3 (ibit_drop _ x (Nat.le_refl _) z) fun j j1 j2 j3 => ?_
  have jr:q j=true:=(h j).symm.trans j1
  have j32:j<32:=by
   rcases Nat.lt_or_ge j 32 with t | t
   ·exact t
   ·rw [hs j t] at jr; cases jr
  have pd:pc q=pc (fun i=>q i&&decide (i≠j))+1:=countP_drop jr 32 j32
  have hb:Bits (bitAnd x (x - 1)) (fun i=>q i&&decide (i≠j)):=fun i=>by rw [j3,h]
  by_cases w:bitAnd x (x - 1)=0
  ·rw [w] at hb ⊢
   rw [pd,pc_zero hb.zero]
   rfl
  ·obtain ⟨i,hi⟩:=hb.ne w
   have:0<pc (fun i=>q i&&decide (i≠j)):=by
    unfold pc
    rw [List.countP_pos_iff]
    refine ⟨i,List.mem_range.mpr ?_,hi⟩
    rcases Nat.lt_or_ge i 32 with t | t
    ·exact t
    ·simp [hs i t] at hi
   have e:(bitAnd x (x - 1)==0)=false:=by simpa using w
   rw [e]
   simp
   lia
theorem sp_lowest {k:Nat} (hk:k<30):Ok (callN prog glb (m+2) 5 [.int (2^k)] σ) (fun r=>r=(.int k,σ)):=by
 have all:∀ i:Nat,i<30->callN prog glb (m+2) 5 [.int (2^i)] σ=some (.int i,σ):=by
  repeat refine lt_rec (by kernel_rfl) ?_
  exact fun i h=>absurd h (Nat.not_lt_zero i)
 exact ⟨_,all k hk,rfl⟩
theorem set_push {o o':O}:(σ++[o]).set σ.length o'=σ++[o']:=by
 rw [List.set_append_right _ _ (Nat.le_refl _),Nat.sub_self]; rfl
theorem app_push {xs:List V} {v:V} (hz:xs.length<LIM):methV .append (.ref σ.length) v (σ++[.list false xs])=some (.none,σ++[.list false (xs++[v])]):=by
 unfold methV
 simp only [get_push,if_pos hz,set_push]
theorem isL_push {xs:List V}:isLst (σ++[.list false xs]) (.ref σ.length)=true:=by
 unfold isLst
 simp only [get_push]
noncomputable def intsOf (L:List Nat):List V:=L.map fun t:Nat=>V.int t
theorem intsOf_c {motive:(L:List Nat)->(v:V)->(r:List V)->v::r=intsOf L->Prop} (k:∀ t L,motive (t::L) (.int (t:Nat)) (intsOf L) rfl):∀ (L:List Nat) (v:V) (r:List V) (h:v::r=intsOf L),motive L v r h
 | [],_,_,h=>by cases h
 | t::L,_,_,rfl=>k t L
theorem map_c {α:Type} {f:α->V} {motive:(L:List α)->(v:V)->(r:List V)->v::r=L.map f->Prop} (k:∀ t L,motive (t::L) (f t) (L.map f) rfl):∀ (L:List α) (v:V) (r:List V) (h:v::r=L.map f),motive L v r h
 | [],_,_,h=>by cases h
 | t::L,_,_,rfl=>k t L
theorem map2_c {α β:Type} {f:α × β->V} {motive:(L:List (α × β))->(v:V)->(r:List V)->v::r=L.map f->Prop} (k:∀ t u L,motive ((t,u)::L) (f (t,u)) (L.map f) rfl):∀ (L:List (α × β)) (v:V) (r:List V) (h:v::r=L.map f),motive L v r h
 | [],_,_,h=>by cases h
 | (t,u)::L,_,_,rfl=>k t u L
theorem mod16 {y:Int} {r:Nat->Bool} (hb:Bits y r):bitAnd y 15=0↔r 0=false/\r 1=false/\r 2=false/\r 3=false:=by
 have h:∀ i,ibit (15:Int) i=decide (i<4):=by
  intro i
  match i with
  | 0=>rfl
  | 1=>rfl
  | 2=>rfl
  | 3=>rfl
  | i+4=>show ibit 0 i=_; rw [ibit_zero]; simp
 constructor
 ·intro e
  have key:∀ i,i<4->r i=false:=fun i hi=>by
   have:=ibit_and i y 15
   rw [e,ibit_zero,h,hb] at this
   simpa [hi] using this.symm
  exact ⟨key 0 (by decide),key 1 (by decide),key 2 (by decide),key 3 (by decide)⟩
 ·intro zq
  refine an4 zq fun h0 h1 h2 h3 => ?_
  clear zq
  refine ibit_inj fun i => ?_
  rw [ibit_zero,ibit_and,h,hb]
  match i with
  | 0=>simp [h0]
  | 1=>simp [h1]
  | 2=>simp [h2]
  | 3=>simp [h3]
  | i+4=>simp
theorem mod2 {y:Int} {r:Nat->Bool} (hb:Bits y r):bitAnd y 1=if r 0 then 1 else 0:=by
 refine ibit_inj fun i => ?_
 rw [ibit_and,ibit_one,hb]
 cases i with
 | zero=>cases r 0 <;> rfl
 | succ i=>cases r 0 <;> simp [ibit_zero,ibit_one]
theorem filter_range_none {q:Nat->Bool} {a:Nat}:∀ {b:Nat},(∀ i,a<=i->i<b->q i=false)->a<=b->(List.range b).filter q=(List.range a).filter q
 | 0,h,hab=>by
  have:a=0:=by exact Nat.le_antisymm hab (Nat.zero_le _)
  subst this; rfl
 | b+1,h,hab=>by
  by_cases e:a=b+1
  ·rw [e]
  ·rw [List.range_succ,List.filter_append,filter_range_none (fun i h1 h2=>h i h1 (by exact Z.ltR h2 (Nat.le_add_right _ _))) (by exact Nat.le_of_lt_succ (Z.lt1 (Nat.lt_succ_of_le hab) e))]
   have:=h b (by exact Nat.le_of_lt_succ (Z.lt1 (Nat.lt_succ_of_le hab) e)) (by exact Z.ltn (Nat.le_refl _))
   simp [this]
theorem sp_squares {x:Int} {q:Nat->Bool} (h:Bits x q) (hs:∀ i,32<=i->q i=false):Ok (callN prog glb (m+1) 6 [.int x] σ) (fun r=>r=(.ref σ.length,σ++[.list false (intsOf ((List.range 32).filter q))])):=by
 revert σ m x q
 exists σ,m,x,q
 intro h hs
 refine enter rfl rfl (by decide) fun P_ hR_ => ?_
 simp only [f_squares_of,b_squares_of]
 simp! [oks,e_and,e_or]
 refine ⟨by decide,?_⟩
 refine ok_while (fun k loc σ'=>∃ (y:Int) (n:Nat),loc=[.int y,.ref σ.length,.int n]/\σ'=σ++[.list false (intsOf ((List.range n).filter q))]/\Bits y (fun i=>q (i+n))/\n<=36/\k=36 - n) ?_ (k:=36) (by decide) ⟨x,0,rfl,rfl,h,by decide,rfl⟩
 intro I_ hI_ k loc _ zq
 refine ea2_5 zq fun y n zq2 => ?_
 clear zq
 subst zq2
 intro zq3
 subst zq3
 intro hb hn zq4
 subst zq4
 simp! [oks,e_and,e_or]
 refine ⟨fun z => ?_,fun z => ?_⟩
 ·have:y=0:=by simpa using z
  subst this
  have hz:=hb.zero
  refine congrArg (fun l=>(V.ref σ.length,σ++[O.list false (intsOf l)])) ?_
  have a1:∀ i,n<=i->q i=false:=fun i hi=>by have:=hz (i - n); rwa [Nat.sub_add_cancel hi] at this
  rcases Nat.le_total n 32 with t | t
  ·exact (filter_range_none (fun i h1 _=>a1 i h1) t).symm
  ·exact filter_range_none (fun i h1 _=>hs i h1) t
 ·have z:y≠0:=by simpa using z
  refine ok_while (fun k' loc σ'=>∃ (y:Int) (n':Nat),loc=[.int y,.ref σ.length,.int n']/\σ'=σ++[.list false (intsOf ((List.range n').filter q))]/\Bits y (fun i=>q (i+n'))/\n<=n'/\n'<=36/\y≠0/\k'=36 - n') ?_ (k:=36 - n) (by unfold WFUEL; exact Z.s36b) ⟨y,n,rfl,rfl,hb,Nat.le_refl _,hn,z,rfl⟩
  intro J_ hJ_ k' loc _ zq
  refine ea2_7 zq fun y n' zq2 => ?_
  clear zq
  subst zq2
  intro zq3
  subst zq3
  intro hb hn1 hn2 z zq4
  subst zq4
  obtain ⟨i,hi⟩:=hb.ne z
  have hi32:i+n'<32:=by
   rcases Nat.lt_or_ge (i+n') 32 with t | t
   ·exact t
   ·rw [hs _ t] at hi; cases hi
  simp! [oks,e_and,e_or]
  refine ⟨fun w => ?_,fun w => ?_⟩
  ·have hb2:Bits (y.fdiv (2^1)) (fun i=>q (i+(n'+1))):=fun i=>by rw [ibit_shr,hb]; show q (i+1+n')=q (i+(n'+1)); congr 1; exact Z.i1c
   have hz:((List.range n').filter q).length<LIM:=Nat.lt_of_le_of_lt (List.length_filter_le _ _) (by rw [List.length_range]; unfold LIM; exact Nat.lt_of_le_of_lt hn2 (by decide))
   refine ⟨fun t => ?_,fun t => ?_⟩
   ·refine ⟨isL_push,?_⟩
    rw [app_push (by unfold intsOf; rw [List.length_map]; exact hz)]
    have t0:q n'=true:=by
     rw [mod2 hb] at t
     rw [Nat.zero_add] at t
     cases e:q n' with
     | true=>rfl
     | false=>rw [e] at t; cases t
    simp! [oks,e_and,e_or]
    refine ⟨36 - (n'+1),by exact Z.s36a hn1 hi32,_,n'+1,rfl,?_,hb2,by exact Z.i1b hi32,rfl⟩
    rw [List.range_succ,List.filter_append]
    simp [intsOf,t0]
   ·have t0:q n'=false:=by
     rw [mod2 hb] at t
     rw [Nat.zero_add] at t
     cases e:q n' with
     | false=>rfl
     | true=>rw [e] at t; cases t
    refine ⟨36 - (n'+1),by exact Z.s36a hn1 hi32,_,n'+1,rfl,?_,hb2,by exact Z.i1b hi32,rfl⟩
    rw [List.range_succ,List.filter_append]
    simp [t0]
  ·have w:bitAnd y 15=0:=by simpa using w
   have hb2:Bits (y.fdiv (2^4)) (fun i=>q (i+(n'+4))):=fun i=>by rw [ibit_shr,hb]; show q (i+4+n')=q (i+(n'+4)); congr 1; lia
   refine an4 ((mod16 hb).mp w) fun w0 w1 w2 w3 => ?_
   have i4:4<=i:=by
    apply Classical.byContradiction
    intro t
    have:i=0\/i=1\/i=2\/i=3:=by exact Z.or04 t
    rcases this with rfl | rfl | rfl | rfl
    ·rw [w0] at hi; cases hi
    ·rw [w1] at hi; cases hi
    ·rw [w2] at hi; cases hi
    ·rw [w3] at hi; cases hi
   refine ⟨36 - (n'+4),by exact Z.s36 hi32,_,n'+4,rfl,?_,hb2,by exact Nat.le_trans hn1 (Nat.le_add_right _ _),by exact Z.i4b hi32,?_,rfl⟩
   ·refine congrArg (fun l=>σ++[O.list false (intsOf l)]) ?_
    refine (filter_range_none (fun j h1 h2 => ?_) (by exact Nat.le_add_right _ _)).symm
    have:j=0+n'\/j=1+n'\/j=2+n'\/j=3+n':=by exact Z.i4a h1 h2
    rcases this with rfl | rfl | rfl | rfl
    ·exact w0
    ·exact w1
    ·exact w2
    ·exact w3
   ·refine ibit_ne_iff.mpr ⟨i - 4,?_⟩
    rw [hb2]
    show q (i - 4+(n'+4))=true
    rw [show i - 4+(n'+4)=i+n' by exact Z.i4 i4]
    exact hi
end
noncomputable def opp (d:Nat):Nat:=[2,3,0,1,6,7,4,5].getD d 0
noncomputable def noDup:List Nat->Bool
 | []=>true
 | t::r => !r.contains t&&noDup r
theorem noDup_is:∀ {l:List Nat},noDup l=true->l.Nodup
 | [],_=>List.nodup_nil
 | t::r,h=>by
  unfold noDup at h
  simp only [Bool.and_eq_true,Bool.not_eq_true',List.contains_iff_mem] at h
  rw [List.nodup_cons]
  refine ⟨fun z => ?_,noDup_is h.2⟩
  have:=h.1
  rw [List.contains_iff_mem.mpr z] at this
  cases this
noncomputable def allDirs:List Nat:=[0,1,2,3,4,5,6,7]
noncomputable def chkSlide (F R:Nat):Bool:=(List.range (F*R)).all fun s=>noDup (s::allDirs.flatMap fun d=>rayL F R d s)&&(allDirs.flatMap fun d=>rayL F R d s).all fun t=>decide (t<F*R)
noncomputable def chkBetween (F R:Nat):Bool:=(List.range (F*R)).all fun s=>allDirs.all fun d=>let L:=rayL F R d s; (List.range L.length).all fun j=>match L[j]? with
 | some t=>let L':=rayL F R (opp d) t; (L.filter fun u=>L'.contains u)==L.take j
 | none=>true
noncomputable def colin (F k b t:Nat):Bool:=decide ((((t%F:Nat):Int) - (k%F:Nat))*(((b / F:Nat):Int) - (k / F:Nat))=(((t / F:Nat):Int) - (k / F:Nat))*(((b%F:Nat):Int) - (k%F:Nat)))
noncomputable def chkLine (F R:Nat):Bool:=(List.range (F*R)).all fun k=>allDirs.all fun d=>let L:=rayL F R d k; let M:=rayL F R (opp d) k; L.all fun b=>(List.range (F*R)).all fun t=>(L.contains t||M.contains t||t==k)==colin F k b t
noncomputable def chkHops (F R:Nat):Bool:=(List.range (F*R)).all fun s=>[ways,jumps,pawnSteps 0,pawnSteps 1].all fun st=>noDup (hopsL F R s st)&&(hopsL F R s st).all fun t=>decide (t<F*R)
theorem chkSlide_all:(FRs.all fun p=>chkSlide p.1 p.2)=true:=by decide +kernel
theorem chkBetween_all:(FRs.all fun p=>chkBetween p.1 p.2)=true:=by decide +kernel
theorem chkLine_all:(FRs.all fun p=>chkLine p.1 p.2)=true:=by decide +kernel
theorem chkHops_all:(FRs.all fun p=>chkHops p.1 p.2)=true:=by decide +kernel
section
variable {F R:Nat}
theorem allDirs_mem {d:Nat} (h:d<8):d∈allDirs:=by
 revert d
 exists d
 intro h
 have:d=0\/d=1\/d=2\/d=3\/d=4\/d=5\/d=6\/d=7:=by exact Z.or8 h
 rcases this with rfl | rfl | rfl | rfl | rfl | rfl | rfl | rfl <;> decide
theorem allDirs_lt {d:Nat} (h:d∈allDirs):d<8:=by
 unfold allDirs at h
 simp at h
 exact Z.ro8 h
theorem slide_nodup (hF:(F,R)∈FRs) {s:Nat} (hs:s<F*R):(s::allDirs.flatMap fun d=>rayL F R d s).Nodup/\∀ t∈allDirs.flatMap fun d=>rayL F R d s,t<F*R:=by
 have h:=List.all_eq_true.mp chkSlide_all (F,R) hF
 have h:=List.all_eq_true.mp h s (List.mem_range.mpr hs)
 simp only [Bool.and_eq_true,List.all_eq_true,decide_eq_true_eq] at h
 exact ⟨noDup_is h.1,h.2⟩
theorem ray_lt (hF:(F,R)∈FRs) {s d t:Nat} (hs:s<F*R) (hd:d<8) (ht:t∈rayL F R d s):t<F*R :=
 (slide_nodup hF hs).2 t (List.mem_flatMap.mpr ⟨d,allDirs_mem hd,ht⟩)
theorem flatMap_apart {f:Nat->List Nat}:∀ {ds:List Nat},(ds.flatMap f).Nodup->∀ {d d' t:Nat},d∈ds->d'∈ds->ds.Nodup->t∈f d->t∈f d'->d=d'
 | [],_,d,d',t,h,_,_,_,_=>by cases h
 | e::ds,nd,d,d',t,h1,h2,n,t1,t2=>by
  rw [List.flatMap_cons,List.nodup_append] at nd
  rw [List.nodup_cons] at n
  rcases List.mem_cons.mp h1 with q1 | q1 <;> rcases List.mem_cons.mp h2 with q2 | q2
  ·rw [q1,q2]
  ·subst q1; exact absurd rfl (nd.2.2 t t1 t (List.mem_flatMap.mpr ⟨d',q2,t2⟩))
  ·subst q2; exact absurd rfl (nd.2.2 t t2 t (List.mem_flatMap.mpr ⟨d,q1,t1⟩))
  ·exact flatMap_apart nd.2.1 q1 q2 n.2 t1 t2
theorem ray_apart (hF:(F,R)∈FRs) {s d d' t:Nat} (hs:s<F*R) (hd:d<8) (hd':d'<8) (ht:t∈rayL F R d s) (ht':t∈rayL F R d' s):d=d':=by
 have h:=(slide_nodup hF hs).1
 rw [List.nodup_cons] at h
 exact flatMap_apart h.2 (allDirs_mem hd) (allDirs_mem hd') (by decide) ht ht'
theorem ray_nodup (hF:(F,R)∈FRs) {s d:Nat} (hs:s<F*R) (hd:d<8):(rayL F R d s).Nodup:=by
 revert F R s d
 exists F,R
 intro hF
 exists s,d
 intro hs hd
 have h:=(slide_nodup hF hs).1
 rw [List.nodup_cons] at h
 have key:∀ {ds:List Nat},(ds.flatMap fun d=>rayL F R d s).Nodup->d∈ds->(rayL F R d s).Nodup:=by
  intro ds
  induction ds with
  | nil=>intro _ h; cases h
  | cons e ds ih =>
   intro nd hm
   rw [List.flatMap_cons,List.nodup_append] at nd
   rcases List.mem_cons.mp hm with rfl | hm
   ·exact nd.1
   ·exact ih nd.2.1 hm
 exact key h.2 (allDirs_mem hd)
theorem opp_lt {d:Nat} (h:d<8):opp d<8:=by
 revert d
 exists d
 intro h
 have:d=0\/d=1\/d=2\/d=3\/d=4\/d=5\/d=6\/d=7:=by exact Z.or8 h
 rcases this with rfl | rfl | rfl | rfl | rfl | rfl | rfl | rfl <;> decide
theorem xor_opp {d:Nat} (h:d<8):bitXor (d:Int) 2=(opp d:Nat):=by
 revert d
 exists d
 intro h
 have:d=0\/d=1\/d=2\/d=3\/d=4\/d=5\/d=6\/d=7:=by exact Z.or8 h
 rcases this with rfl | rfl | rfl | rfl | rfl | rfl | rfl | rfl <;> decide
theorem between_take (hF:(F,R)∈FRs) {s d j t:Nat} (hs:s<F*R) (hd:d<8) (ht:(rayL F R d s)[j]? = some t):(rayL F R d s).filter (fun u=>(rayL F R (opp d) t).contains u)=(rayL F R d s).take j:=by
 have h:=List.all_eq_true.mp chkBetween_all (F,R) hF
 have h:=List.all_eq_true.mp h s (List.mem_range.mpr hs)
 have h:=List.all_eq_true.mp h d (allDirs_mem hd)
 have h:=List.all_eq_true.mp h j (List.mem_range.mpr (List.getElem?_eq_some_iff.mp ht).1)
 rw [ht] at h
 simpa using h
theorem line_colin (hF:(F,R)∈FRs) {k d b t:Nat} (hk:k<F*R) (hd:d<8) (hb:b∈rayL F R d k) (ht:t<F*R):(decide (t∈rayL F R d k)||decide (t∈rayL F R (opp d) k)||decide (t=k))=colin F k b t:=by
 revert F R k d b t
 exists F,R
 intro hF
 exists k,d,b,t
 intro hk hd hb ht
 have h:=List.all_eq_true.mp chkLine_all (F,R) hF
 have h:=List.all_eq_true.mp h k (List.mem_range.mpr hk)
 have h:=List.all_eq_true.mp h d (allDirs_mem hd)
 have h:=List.all_eq_true.mp h b hb
 have h:=List.all_eq_true.mp h t (List.mem_range.mpr ht)
 rw [beq_iff_eq] at h
 rw [<- h]
 congr 1
 ·congr 1 <;> rw [Bool.eq_iff_iff] <;> simp
theorem hops_ok (hF:(F,R)∈FRs) {s:Nat} (hs:s<F*R) {st:List (Int × Int)} (h1:st∈[ways,jumps,pawnSteps 0,pawnSteps 1]):(hopsL F R s st).Nodup/\∀ t∈hopsL F R s st,t<F*R:=by
 have h:=List.all_eq_true.mp chkHops_all (F,R) hF
 have h:=List.all_eq_true.mp h s (List.mem_range.mpr hs)
 have h:=List.all_eq_true.mp h st h1
 simp only [Bool.and_eq_true,List.all_eq_true,decide_eq_true_eq] at h
 exact ⟨noDup_is h.1,h.2⟩
theorem FRs_le (hF:(F,R)∈FRs):2<=F/\F<=6/\3<=R/\R<=5/\F*R<=30:=by
 have key:∀ q∈FRs,2<=q.1/\q.1<=6/\3<=q.2/\q.2<=5/\q.1*q.2<=30:=by decide
 exact key _ hF
end
theorem bits_at {L:List Nat} {b:Nat}:bitAnd ((bitsOf L).fdiv (2^b)) 1=if b∈L then 1 else 0:=by
 have h:Bits ((bitsOf L).fdiv (2^b)) (fun i=>decide (i+b∈L)):=fun i=>by rw [ibit_shr,ibit_bitsOf]
 rw [mod2 h]
 simp
theorem bits_mem_and {L M:List Nat}:bitAnd (bitsOf L) (bitsOf M)=bitsOf (L.filter fun u=>M.contains u):=by
 refine filter_bits (fun i => ?_) L
 rw [ibit_bitsOf,Bool.eq_iff_iff]
 simp
section
variable {A:GeoR} {F R g:Nat} {σ:H} {m:Nat}
theorem sp_direction {a b d:Nat} (hF:(F,R)∈FRs) (G:GeoAt A F R g σ) (ha:a<F*R) (hd:d<8) (hb:b∈rayL F R d a) :
  Ok (callN prog glb (m+1) 7 [.ref g,.int a,.int b] σ) (fun r=>r=(.int d,σ)):=by
 revert A F R g σ m a b d
 exists A,F,R,g,σ,m,a,b,d
 intro hF G ha hd hb
 refine enter rfl rfl (by decide) fun P_ hR_ => ?_
 simp only [f_direction,b_direction]
 simp! [oks,e_and,e_or]
 rw [show items σ (.rng 0 8 1)=some ((List.range 8).map fun k:Nat=>V.int k) from rfl,ok_some]
 refine ok_for_range (fun k loc σ'=>σ'=σ/\k<=d/\∃ w,loc=[.ref g,.int a,.int b,w]) ?_ ?_ ⟨rfl,Nat.zero_le _,_,rfl⟩
 ·intro I_ hI_ k loc _ hk zq
  refine an3 zq fun zq2 => ?_
  clear zq
  subst zq2
  intro hkd zq3
  refine ex1 zq3 fun w zq4 => ?_
  clear zq3
  subst zq4
  refine ⟨rfl,?_⟩
  simp! [oks,e_and,e_or]
  simp! [G.rays,G.ray k hk,G.rayI k a hk ha,e_and,e_or]
  simp! [oks,e_and,e_or]
  refine ⟨Int.natCast_nonneg _,?_⟩
  rw [Int.toNat_natCast,bits_at]
  refine ⟨fun q => ?_,fun q => ?_⟩
  ·have:b∈rayL F R k a:=by
    apply Classical.byContradiction
    intro z
    rw [if_neg z] at q
    cases q
   rw [ray_apart hF ha hk hd this hb]
  ·have:b ∉ rayL F R k a:=by
    intro z
    rw [if_pos z] at q
    cases q
   refine ⟨?_,_,rfl⟩
   rcases Nat.lt_or_ge k d with t | t
   ·exact t
   ·have:k=d:=by exact Nat.le_antisymm hkd t
    subst this
    exact absurd hb this
 ·intro loc _ zq
  refine an3 zq fun zq2 => ?_
  clear zq
  subst zq2
  intro hkd zq3
  refine ex1 zq3 fun w zq4 => ?_
  clear zq3
  subst zq4
  lia
theorem sp_between {a d j t:Nat} (hF:(F,R)∈FRs) (G:GeoAt A F R g σ) (ha:a<F*R) (hd:d<8) (ht:(rayL F R d a)[j]? = some t) :
  Ok (callN prog glb (m+2) 8 [.ref g,.int a,.int t] σ) (fun r=>r=(.int (bitsOf ((rayL F R d a).take j)),σ)):=by
 have hm:=List.mem_of_getElem? ht
 have ht':=ray_lt hF ha hd hm
 refine enter rfl rfl (by decide) fun P_ hR_ => ?_
 simp only [f_between,b_between]
 simp! [oks,e_and,e_or]
 refine (sp_direction hF G ha hd hm).at_ ?_
 simp! [oks,e_and,e_or]
 refine ⟨fun q => ?_,fun _ => ?_⟩
 ·simp at q; lia
 ·simp! [G.rays,G.ray d hd,G.rayI d a hd ha,e_and,e_or]
  simp! [oks,e_and,e_or]
  rw [xor_opp hd]
  simp! [G.ray _ (opp_lt hd),G.rayI _ t (opp_lt hd) ht',e_and,e_or]
  simp! [oks,e_and,e_or]
  rw [bits_mem_and,between_take hF ha hd ht]
theorem sp_line {a d b:Nat} (hF:(F,R)∈FRs) (G:GeoAt A F R g σ) (ha:a<F*R) (hd:d<8) (hb:b∈rayL F R d a) :
  Ok (callN prog glb (m+2) 9 [.ref g,.int a,.int b] σ) (fun r=>r.2=σ/\∃ x,r.1 = .int x/\Bits x (fun i=>decide (i∈rayL F R d a)||decide (i∈rayL F R (opp d) a)||decide (i=a))):=by
 revert A F R g σ m a d b
 exists A,F,R,g,σ,m,a,d,b
 intro hF G ha hd hb
 refine enter rfl rfl (by decide) fun P_ hR_ => ?_
 simp only [f_line,b_line]
 simp! [oks,e_and,e_or]
 refine (sp_direction hF G ha hd hb).at_ ?_
 simp! [oks,e_and,e_or]
 refine ⟨fun q => ?_,fun _ => ?_⟩
 ·simp at q; lia
 ·simp! [G.rays,G.ray d hd,G.rayI d a hd ha,e_and,e_or]
  simp! [oks,e_and,e_or]
  rw [xor_opp hd]
  simp! [G.ray _ (opp_lt hd),G.rayI _ a (opp_lt hd) ha,e_and,e_or]
  simp! [oks,e_and,e_or]
  have:=(FRs_le hF).2.2.2.2
  refine ⟨by exact Z.tb ha this,_,rfl,fun i => ?_⟩
  rw [ibit_or,ibit_or,ibit_bitsOf,ibit_bitsOf,Int.one_mul,Int.toNat_natCast,ibit_pow]
end
structure BoardOk (F R:Nat) (b:Nat->Nat) (kq:Nat->Nat):Prop where
 fr:(F,R)∈FRs
 val:∀ i,b i≠0->1<=b i%8/\b i%8<=6/\b i<16
 out:∀ i,F*R<=i->b i=0
 klt:∀ c,c<2->kq c<F*R
 king:∀ c i,c<2->(b i=8*c+6↔i=kq c)
 pawn:∀ i,b i%8=1->1<=i / F/\i / F+1<R
noncomputable def kb (N:Nat) (b:Nat->Nat) (k:Nat):Int:=bitsOf ((List.range N).filter fun i=>b i%8==k)
noncomputable def sb (N:Nat) (b:Nat->Nat) (c:Nat):Int:=bitsOf ((List.range N).filter fun i=>b i != 0&&b i / 8==c)
section
variable {F R:Nat} {b kq:Nat->Nat}
theorem ibit_filter {N:Nat} {p:Nat->Bool} (i:Nat):ibit (bitsOf ((List.range N).filter p)) i=(decide (i<N)&&p i):=by
 rw [ibit_bitsOf,Bool.eq_iff_iff]
 simp
theorem kb_bits (B:BoardOk F R b kq) {k:Nat} (hk:1<=k):Bits (kb (F*R) b k) (fun i=>b i%8==k):=by
 intro i
 unfold kb
 rw [ibit_filter]
 by_cases h:i<F*R
 ·simp [h]
 ·have:=B.out i (by exact Z.nle h)
  simp [h,this]
  exact Z.ne_lt (Z.ltn hk)
theorem sb_bits (B:BoardOk F R b kq) {c:Nat}:Bits (sb (F*R) b c) (fun i=>b i != 0&&b i / 8==c):=by
 intro i
 unfold sb
 rw [ibit_filter]
 by_cases h:i<F*R
 ·simp [h]
 ·have:=B.out i (by exact Z.nle h)
  simp [h,this]
theorem BoardOk.lt32 (B:BoardOk F R b kq) {i:Nat} (h:32<=i):b i=0:=B.out i (by have:=(FRs_le B.fr).2.2.2.2; exact Nat.le_trans this (Nat.le_trans (by decide) h))
end
structure PosR where
 geo:Nat
 kinds:Nat
 sides:Nat
 deriving Inhabited
structure PosAt (P:PosR) (A:GeoR) (F R:Nat) (b:Nat->Nat) (p:Nat) (σ:H):Prop where
 geo:attrOf σ (.ref p) 19=some (.ref P.geo)
 G:GeoAt A F R P.geo σ
 kinds:attrOf σ (.ref p) 14=some (.ref P.kinds)
 kI:∀ (k:Nat),1<=k->k<=6->getI σ (.ref P.kinds) (.int k)=some (.int (kb (F*R) b k))
 sides:attrOf σ (.ref p) 15=some (.ref P.sides)
 sI:∀ (c:Nat),c<2->getI σ (.ref P.sides) (.int c)=some (.int (sb (F*R) b c))
theorem PosAt.base {P:PosR} {A:GeoR} {F R p:Nat} {b:Nat->Nat} {σ τ:H} (B:Base σ τ) (h:PosAt P A F R b p σ):PosAt P A F R b p τ :=
 ⟨attrOf_base B h.geo,h.G.base B,attrOf_base B h.kinds,fun k h1 h2=>getI_base B (h.kI k h1 h2),attrOf_base B h.sides,fun c hc=>getI_base B (h.sI c hc)⟩
section
variable {P:PosR} {A:GeoR} {F R p:Nat} {b kq:Nat->Nat} {σ:H} {m:Nat}
theorem sp_occ (B:BoardOk F R b kq) (h:PosAt P A F R b p σ):Ok (callN prog glb (m+1) 25 [.ref p] σ) (fun r=>r.2=σ/\∃ x,r.1 = .int x/\Bits x (fun i=>b i != 0)):=by
 have s0:getI σ (.ref P.sides) (.int 0)=some (.int (sb (F*R) b 0)):=h.sI 0 (by decide)
 have s1:getI σ (.ref P.sides) (.int 1)=some (.int (sb (F*R) b 1)):=h.sI 1 (by decide)
 refine enter rfl rfl (by decide) fun P_ hR_ => ?_
 simp only [f_occupied,b_occupied]
 simp! [oks,e_and,e_or]
 simp! [h.sides,s0,s1,e_and,e_or]
 simp! [oks,e_and,e_or]
 refine ⟨_,rfl,fun i => ?_⟩
 rw [ibit_or,sb_bits B,sb_bits B]
 by_cases z:b i=0
 ·simp [z]
 ·have:=B.val i z
  have:b i / 8=0\/b i / 8=1:=by exact Z.or01 this
  rcases this with q | q <;> simp [z,q]
theorem sp_pieces (B:BoardOk F R b kq) (h:PosAt P A F R b p σ) {c k:Nat} (hc:c<2) (hk:1<=k/\k<=6) :
  Ok (callN prog glb (m+1) 26 [.ref p,.int c,.int k] σ) (fun r=>r.2=σ/\∃ x,r.1 = .int x/\Bits x (fun i=>b i==8*c+k)):=by
 refine enter rfl rfl (by decide) fun P_ hR_ => ?_
 simp only [f_pieces,b_pieces]
 simp! [oks,e_and,e_or]
 simp! [h.sides,h.sI c hc,h.kinds,h.kI k hk.1 hk.2,e_and,e_or]
 simp! [oks,e_and,e_or]
 refine ⟨_,rfl,fun i => ?_⟩
 rw [ibit_and,sb_bits B,kb_bits B hk.1,Bool.eq_iff_iff]
 simp only [Bool.and_eq_true,bne_iff_ne,ne_eq,beq_iff_eq]
 exact enc0 (Nat.lt_succ_of_le (Nat.le_succ_of_le hk.2)) hk.1
theorem sp_king (B:BoardOk F R b kq) (h:PosAt P A F R b p σ) {c:Nat} (hc:c<2) :
  Ok (callN prog glb (m+3) 27 [.ref p,.int c] σ) (fun r=>r=(.int (kq c),σ)):=by
 have k6:getI σ (.ref P.kinds) (.int 6)=some (.int (kb (F*R) b 6)):=h.kI 6 (by decide) (by decide)
 refine enter rfl rfl (by decide) fun P_ hR_ => ?_
 simp only [f_king_square,b_king_square]
 simp! [oks,e_and,e_or]
 simp! [h.sides,h.sI c hc,h.kinds,k6,e_and,e_or]
 simp! [oks,e_and,e_or]
 have e:bitAnd (sb (F*R) b c) (kb (F*R) b 6)=2^(kq c):=by
  refine ibit_inj fun i => ?_
  rw [ibit_and,sb_bits B,kb_bits B (by decide),ibit_pow,Bool.eq_iff_iff]
  simp only [Bool.and_eq_true,bne_iff_ne,ne_eq,beq_iff_eq,decide_eq_true_eq]
  rw [<- B.king c i hc]
  exact enc0 (by decide) (by decide)
 rw [e]
 refine (sp_lowest (by have:=B.klt c hc; have:=(FRs_le B.fr).2.2.2.2; lia)).at_ ?_
 show P_ _
 rw [hR_]
theorem sp_straight (B:BoardOk F R b kq) (h:PosAt P A F R b p σ):Ok (callN prog glb (m+1) 28 [.ref p] σ) (fun r=>r.2=σ/\∃ x,r.1 = .int x/\Bits x (fun i=>b i%8==4||b i%8==5)):=by
 have k4:getI σ (.ref P.kinds) (.int 4)=some (.int (kb (F*R) b 4)):=h.kI 4 (by decide) (by decide)
 have k5:getI σ (.ref P.kinds) (.int 5)=some (.int (kb (F*R) b 5)):=h.kI 5 (by decide) (by decide)
 refine enter rfl rfl (by decide) fun P_ hR_ => ?_
 simp only [f_straight_sliders,b_straight_sliders]
 simp! [oks,e_and,e_or]
 simp! [h.kinds,k4,k5,e_and,e_or]
 simp! [oks,e_and,e_or]
 exact ⟨_,rfl,fun i=>by rw [ibit_or,kb_bits B (by decide),kb_bits B (by decide)]⟩
theorem sp_slanting (B:BoardOk F R b kq) (h:PosAt P A F R b p σ):Ok (callN prog glb (m+1) 29 [.ref p] σ) (fun r=>r.2=σ/\∃ x,r.1 = .int x/\Bits x (fun i=>b i%8==3||b i%8==5)):=by
 have k3:getI σ (.ref P.kinds) (.int 3)=some (.int (kb (F*R) b 3)):=h.kI 3 (by decide) (by decide)
 have k5:getI σ (.ref P.kinds) (.int 5)=some (.int (kb (F*R) b 5)):=h.kI 5 (by decide) (by decide)
 refine enter rfl rfl (by decide) fun P_ hR_ => ?_
 simp only [f_slanting_sliders,b_slanting_sliders]
 simp! [oks,e_and,e_or]
 simp! [h.kinds,k3,k5,e_and,e_or]
 simp! [oks,e_and,e_or]
 exact ⟨_,rfl,fun i=>by rw [ibit_or,kb_bits B (by decide),kb_bits B (by decide)]⟩
noncomputable def snD (b:Nat->Nat) (c d t:Nat):Bool:=b t==(if d<4 then 4 else 3)+8*(1 - c)||b t==5+8*(1 - c)
theorem walkL_none:∀ L:List Nat,walkL (fun _=>false) L=L
 | []=>rfl
 | t::r=>by
  show (if false=true then [t] else t::walkL _ r)=_
  rw [walkL_none r]; rfl
theorem slideL_none {F R s:Nat} {ds:List Nat}:slideL F R (fun _=>false) ds s=ds.flatMap fun d=>rayL F R d s:=by
 unfold slideL
 simp only [walkL_none]
noncomputable def snip (F R:Nat) (b:Nat->Nat) (k c t:Nat):Bool:=allDirs.any fun d=>decide (t∈rayL F R d k)&&snD b c d t
theorem one_sub {c:Nat} (hc:c<2):(1:Int) - (c:Int)=((1 - c:Nat):Int):=by exact Z.csn (Nat.le_of_lt_succ hc)
theorem d4l {P0 P1 P2 P3 X R:Prop}:(P0\/P1\/P2\/P3)/\X\/R↔P0/\X\/P1/\X\/P2/\X\/P3/\X\/R:=by simp only [or_and_right,or_assoc]
theorem d4r {P0 P1 P2 P3 X:Prop}:(P0\/P1\/P2\/P3)/\X↔P0/\X\/P1/\X\/P2/\X\/P3/\X:=by simp only [or_and_right]
theorem sn_m {L M A3 A4 A5 N C B3 B4 B5:Prop} (e3:A3/\C↔B3) (e4:A4/\C↔B4) (e5:A5/\C↔B5) (n3:A3->N) (n4:A4->N) (n5:A5->N):(L/\(A4\/A5)\/M/\(A3\/A5))/\N/\C↔L/\(B4\/B5)\/M/\(B3\/B5) :=
 ⟨fun h=>h.1.imp (fun x=>⟨x.1,x.2.imp (fun a=>e4.mp ⟨a,h.2.2⟩) fun a=>e5.mp ⟨a,h.2.2⟩⟩) fun x=>⟨x.1,x.2.imp (fun a=>e3.mp ⟨a,h.2.2⟩) fun a=>e5.mp ⟨a,h.2.2⟩⟩,
  fun h=>h.elim (fun x=>x.2.elim (fun y=>have z:=e4.mpr y; ⟨.inl ⟨x.1,.inl z.1⟩,n4 z.1,z.2⟩) fun y=>have z:=e5.mpr y; ⟨.inl ⟨x.1,.inr z.1⟩,n5 z.1,z.2⟩)
    fun x=>x.2.elim (fun y=>have z:=e3.mpr y; ⟨.inr ⟨x.1,.inl z.1⟩,n3 z.1,z.2⟩) fun y=>have z:=e5.mpr y; ⟨.inr ⟨x.1,.inr z.1⟩,n5 z.1,z.2⟩⟩
theorem sn_l {P0 P1 P2 P3 P4 P5 P6 P7 A3 A4 A5 N C B3 B4 B5:Prop} (e3:A3/\C↔B3) (e4:A4/\C↔B4) (e5:A5/\C↔B5) (n3:A3->N) (n4:A4->N) (n5:A5->N):((P0\/P1\/P2\/P3)/\(A4\/A5)\/(P4\/P5\/P6\/P7)/\(A3\/A5))/\N/\C ↔
  P0/\(B4\/B5)\/P1/\(B4\/B5)\/P2/\(B4\/B5)\/P3/\(B4\/B5)\/P4/\(B3\/B5)\/P5/\(B3\/B5)\/P6/\(B3\/B5)\/P7/\(B3\/B5):=by rw [sn_m e3 e4 e5 n3 n4 n5,d4l,d4r]
theorem sp_snipers (B:BoardOk F R b kq) (h:PosAt P A F R b p σ) {c:Nat} (hc:c<2) :
  Ok (callN prog glb (m+4) 30 [.ref p,.int c] σ) (fun r=>r.2=σ/\∃ x,r.1 = .int x/\Bits x (snip F R b (kq c) c)):=by
 revert P A F R p b kq σ m c
 exists P,A,F,R,p,b,kq,σ,m
 intro B h
 exists c
 intro hc
 have hk:=B.klt c hc
 have z:Bits 0 (fun _=>false):=fun i=>ibit_zero i
 refine enter rfl rfl (by decide) fun P_ hR_ => ?_
 simp only [f_snipers_of,b_snipers_of]
 simp! [oks,e_and,e_or]
 refine (sp_king B h hc).at_ ?_
 simp! [oks,e_and,e_or]
 simp! [h.geo,e_and,e_or]
 simp! [oks,e_and,e_or]
 refine (sp_rook B.fr h.G hk z).int_ fun x hx => ?_
 simp! [oks,e_and,e_or]
 refine (sp_straight (m:=m+2) B h).int_ fun y hy => ?_
 simp! [oks,e_and,e_or]
 simp! [h.geo,e_and,e_or]
 simp! [oks,e_and,e_or]
 refine (sp_bishop B.fr h.G hk z).int_ fun x' hx' => ?_
 simp! [oks,e_and,e_or]
 refine (sp_slanting (m:=m+2) B h).int_ fun y' hy' => ?_
 simp! [oks,e_and,e_or]
 simp! [one_sub hc,h.sides,h.sI (1 - c) (by exact Z.sb),e_and,e_or]
 simp! [oks,e_and,e_or]
 refine ⟨_,rfl,fun i => ?_⟩
 rw [ibit_and,ibit_or,ibit_and,ibit_and,hx,hy,hx',hy',sb_bits B,slideL_none,slideL_none,Bool.eq_iff_iff]
 unfold snip snD allDirs
 simp only [List.flatMap_cons,List.flatMap_nil,List.append_nil,List.mem_append,List.any_cons,List.any_nil,Bool.or_false,Bool.and_eq_true,Bool.or_eq_true,decide_eq_true_eq,bne_iff_ne,ne_eq,beq_iff_eq,Nat.reduceLT,if_true,if_false]
 have g:∀ k,0<k->b i%8=k->¬ b i=0:=fun k h z y=>Nat.ne_of_gt h (by rw [<- z,y])
 exact sn_l (enc (by decide)) (enc (by decide)) (enc (by decide)) (g 3 (by decide)) (g 4 (by decide)) (g 5 (by decide))
end
noncomputable def scanD (sn oc:Nat->Bool):List Nat->List Nat->List Nat->List Nat
 | [],_,fo=>fo
 | t::r,st,fo=>if sn t then scanD sn oc r st (match st with | [s]=>if fo.contains s then fo else fo++[s] | _=>fo) else if oc t then scanD sn oc r (st++[t]) fo else scanD sn oc r st fo
set_option tactic.hygienic true in
theorem mem_scanD {sn oc:Nat->Bool} {s:Nat}:∀ {L st fo:List Nat},s∈scanD sn oc L st fo↔s∈fo\/∃ j t,L[j]? = some t/\sn t=true/\st++(L.take j).filter (fun u=>oc u && !sn u)=[s]
 | [],st,fo=>by
  unfold scanD
  simp
 | t::r,st,fo=>by
  unfold scanD
  have shift:∀ (P:List Nat->Prop),(∃ j u,(t::r)[j]? = some u/\sn u=true/\P ((t::r).take j))↔(sn t=true/\P [])\/∃ j u,r[j]? = some u/\sn u=true/\P (t::r.take j):=by
   intro P
   constructor
   ·intro zq
    refine ea2_3 zq fun j u h1 h2 h3 => ?_
    clear zq
    cases j with
    | zero=>simp at h1; subst h1; exact .inl ⟨h2,h3⟩
    | succ j=>exact .inr ⟨j,u,by simpa using h1,h2,by simpa using h3⟩
   ·rintro (⟨h1,h2⟩ | ⟨j,u,h1,h2,h3⟩)
    ·exact ix2 0 t ⟨rfl,h1,h2⟩
    ·exact ix2 (j+1) u ⟨by simpa using h1,h2,by simpa using h3⟩
  rw [shift fun l=>st++l.filter (fun u=>oc u && !sn u)=[s]]
  split
  ·rename_i q
   rw [mem_scanD]
   have e:∀ j,(t::r.take j).filter (fun u=>oc u && !sn u)=(r.take j).filter (fun u=>oc u && !sn u):=fun j=>by rw [List.filter_cons]; simp [q]
   simp only [e,List.filter_nil,List.append_nil,q,true_and]
   have:(s∈(match st with | [s]=>if fo.contains s then fo else fo++[s] | _=>fo))↔s∈fo\/st=[s]:=by
    split
    ·rename_i w
     by_cases hw:fo.contains w=true
     ·rw [if_pos hw]
      constructor
      ·exact .inl
      ·rintro (h | h)
       ·exact h
       ·cases h; simpa using hw
     ·rw [if_neg hw]
      simp [eq_comm]
    ·rename_i hn
     constructor
     ·exact .inl
     ·rintro (h | h)
      ·exact h
      ·exact absurd h (hn s)
   rw [this,or_assoc]
  ·rename_i q
   have q:sn t=false:=by simpa using q
   simp only [q,Bool.false_eq_true,false_and,false_or]
   split
   ·rename_i o
    rw [mem_scanD]
    have e:∀ j,(t::r.take j).filter (fun u=>oc u && !sn u)=t::(r.take j).filter (fun u=>oc u && !sn u):=fun j=>by rw [List.filter_cons]; simp [q,o]
    simp only [e,List.append_assoc,List.singleton_append]
   ·rename_i o
    have o:oc t=false:=by simpa using o
    rw [mem_scanD]
    have e:∀ j,(t::r.take j).filter (fun u=>oc u && !sn u)=(r.take j).filter (fun u=>oc u && !sn u):=fun j=>by rw [List.filter_cons]; simp [o]
    simp only [e]
set_option tactic.hygienic true in
theorem nodup_scanD {sn oc:Nat->Bool}:∀ {L st fo:List Nat},fo.Nodup->(scanD sn oc L st fo).Nodup
 | [],st,fo,h=>h
 | t::r,st,fo,h=>by
  unfold scanD
  split
  ·refine nodup_scanD ?_
   split
   ·split
    ·exact h
    ·rename_i hn
     rw [List.nodup_append]
     refine ⟨h,by simp,fun a ha b hb e => ?_⟩
     simp at hb
     subst hb e
     exact hn (by simpa using ha)
   ·exact h
  ·split
   ·exact nodup_scanD h
   ·exact nodup_scanD h
noncomputable def shieldsL (F R:Nat) (b:Nat->Nat) (k c:Nat) (ds:List Nat):List Nat:=ds.foldl (fun fo d=>scanD (snD b c d) (fun t=>b t != 0) (rayL F R d k) [] fo) []
noncomputable def HeldD (F R:Nat) (b:Nat->Nat) (k c d j t i:Nat):Prop:=(rayL F R d k)[j]? = some t/\snD b c d t=true/\((rayL F R d k).take j).filter (fun u=>b u != 0 && !snD b c d u)=[i]
theorem mem_shields {F R:Nat} {b:Nat->Nat} {k c i:Nat} {ds:List Nat}:i∈shieldsL F R b k c ds↔∃ d∈ds,∃ j t,HeldD F R b k c d j t i:=by
 revert F R b k c i ds
 exists F,R,b,k,c,i,ds
 unfold shieldsL HeldD
 have key:∀ (ds fo:List Nat),i∈ds.foldl (fun fo d=>scanD (snD b c d) (fun t=>b t != 0) (rayL F R d k) [] fo) fo↔i∈fo\/∃ d∈ds,∃ j t,(rayL F R d k)[j]? = some t/\snD b c d t=true/\((rayL F R d k).take j).filter (fun u=>b u != 0 && !snD b c d u)=[i]:=by
  intro ds
  induction ds with
  | nil=>intro fo; simp
  | cons d ds ih =>
   intro fo
   rw [List.foldl_cons,ih,mem_scanD]
   simp only [List.nil_append,List.mem_cons,exists_eq_or_imp,or_assoc]
 rw [key]
 simp
section
variable {P:PosR} {A:GeoR} {F R p:Nat} {b kq:Nat->Nat} {σ:H} {m:Nat}
theorem countP_mem {l:List Nat}:∀ {n:Nat},l.Nodup->(∀ t∈l,t<n)->(List.range n).countP (fun i=>decide (i∈l))=l.length:=by
 intro n nd hl
 have h1:(List.range n).countP (fun i=>decide (i∈l))=((List.range n).filter (fun i=>decide (i∈l))).length:=List.countP_eq_length_filter
 rw [h1]
 refine List.Perm.length_eq ((List.perm_ext_iff_of_nodup (List.nodup_range.filter _) nd).mpr fun a => ?_)
 simp only [List.mem_filter,List.mem_range,decide_eq_true_eq]
 exact ⟨fun h=>h.2,fun h=>⟨hl a h,h⟩⟩
theorem pc_mem {l:List Nat} (nd:l.Nodup) (hl:∀ t∈l,t<32):pc (fun i=>decide (i∈l))=l.length:=countP_mem nd hl
theorem snip_ray (hF:(F,R)∈FRs) {k c d t:Nat} (hk:k<F*R) (hd:d<8) (ht:t∈rayL F R d k):snip F R b k c t=snD b c d t:=by
 unfold snip
 rw [Bool.eq_iff_iff,List.any_eq_true]
 constructor
 ·intro zq
  refine ea1_2 zq fun d' h1 h2 => ?_
  clear zq
  simp only [Bool.and_eq_true,decide_eq_true_eq] at h2
  rw [ray_apart hF hk hd (allDirs_lt h1) ht h2.1]
  exact h2.2
 ·intro h
  exact ⟨d,allDirs_mem hd,by simp [ht,h]⟩
theorem snip_occ {k c t:Nat} (h:snip F R b k c t=true):b t≠0:=by
 unfold snip at h
 rw [List.any_eq_true] at h
 refine ea1_2 h fun d _ h2 => ?_
 try clear h
 simp only [Bool.and_eq_true] at h2
 have:=h2.2
 unfold snD at this
 simp only [Bool.or_eq_true,beq_iff_eq] at this
 split at this <;> lia
theorem ibit_singleton {l:List Nat} {i j:Nat} (h:l=[j]):ibit (bitsOf l) i=decide (i=j):=by rw [ibit_bitsOf,h]; simp
theorem ne_zero_of {l:List Nat}:((bitsOf l != 0)=true)↔l≠[]:=by
 rw [bne_iff_ne,ibit_ne_iff]
 constructor
 ·rintro ⟨i,hi⟩ z
  rw [z] at hi
  simp [bitsOf,ibit_zero] at hi
 ·intro h
  cases l with
  | nil=>exact absurd rfl h
  | cons a r=>exact ⟨a,by rw [ibit_bitsOf]; simp⟩
theorem sp_blockers (B:BoardOk F R b kq) (h:PosAt P A F R b p σ) {c:Nat} (hc:c<2) :
  Ok (callN prog glb (m+5) 31 [.ref p,.int c] σ) (fun r=>Base σ r.2/\∃ x y,r.1 = .tup [.int x,.int y]/\Bits x (fun i=>decide (i∈shieldsL F R b (kq c) c allDirs))):=by
 revert P A F R p b kq σ m c
 exists P,A,F,R,p,b,kq,σ,m
 intro B h
 exists c
 intro hc
 have hk:=B.klt c hc
 have s0:getI σ (.ref P.sides) (.int 0)=some (.int (sb (F*R) b 0)):=h.sI 0 (by decide)
 have s1:getI σ (.ref P.sides) (.int 1)=some (.int (sb (F*R) b 1)):=h.sI 1 (by decide)
 have hN:=(FRs_le B.fr).2.2.2.2
 refine enter rfl rfl (by decide) fun P_ hR_ => ?_
 simp only [f_blockers,b_blockers]
 simp! [oks,e_and,e_or]
 refine (sp_king (m:=m+1) B h hc).at_ ?_
 simp! [oks,e_and,e_or]
 refine (sp_snipers B h hc).int_ fun sx hsx => ?_
 simp! [oks,e_and,e_or]
 simp! [h.sides,s0,s1,e_and,e_or]
 simp! [oks,e_and,e_or]
 have st32:∀ i,32<=i->snip F R b (kq c) c i=false:=fun i hi=>by
  cases q:snip F R b (kq c) c i with
  | false=>rfl
  | true=>exact absurd (B.lt32 hi) (snip_occ q)
 refine (sp_squares (m:=m+3) hsx st32).at_ ?_
 simp! [oks,e_and,e_or]
 generalize hL:(List.range 32).filter (snip F R b (kq c) c)=L
 generalize hst:bitXor (bitOr (sb (F*R) b 0) (sb (F*R) b 1)) sx=stx
 have hstx:∀ d,d<8->∀ u∈rayL F R d (kq c),ibit stx u=(b u != 0 && !snD b c d u):=by
  intro d hd u hu
  rw [<- hst,ibit_xor,ibit_or,sb_bits B,sb_bits B,hsx,snip_ray B.fr hk hd hu]
  by_cases z:b u=0
  ·have:snD b c d u=false:=by
    cases q:snD b c d u with
    | false=>rfl
    | true=>exact absurd z (snip_occ ((snip_ray B.fr hk hd hu).trans q))
   simp [z,this]
  ·have:=B.val u z
   have:b u / 8=0\/b u / 8=1:=by exact Z.or01 this
   have z':(b u != 0)=true:=by simpa using z
   rcases this with w | w <;> (simp only [z',w,Bool.true_and]; cases snD b c d u <;> rfl)
 have hB:Base σ (σ++[O.list false (intsOf L)]):=⟨_,rfl⟩
 have hP:=h.base hB
 have hit:items (σ++[O.list false (intsOf L)]) (.ref σ.length)=some (intsOf L):=by unfold items; simp
 rw [hit,ok_some]
 have hstill:still (.ref σ.length) (intsOf L) (σ++[O.list false (intsOf L)])=true:=by unfold still; simp
 have hs:=hP.sI c hc
 refine ok_for (fun r loc σ'=>σ'=σ++[O.list false (intsOf L)]/\∃ L1 L2 x y w1 w2,L1++L2=L/\r=intsOf L2/\loc=[.ref p,.int c,.int (kq c),.int sx,.int stx,.int x,.int y,w1,w2] /\
   ∀ i,ibit x i=true↔∃ d,d<8/\∃ j,∃ t∈L1,HeldD F R b (kq c) c d j t i) ?_ ?_ ⟨rfl,[],L,0,0,.undef,.undef,rfl,rfl,rfl,fun i=>by rw [ibit_zero]; simp⟩
 ·intro I_ hI_ v r loc _ zq
  refine an2 zq fun zq2 => ?_
  clear zq
  subst zq2
  intro zq3
  refine ea6_4 zq3 fun L1 L2 x y w1 w2 e1 e2 zq4 => ?_
  clear zq3
  subst zq4
  intro hx
  cases L2 with
  | nil=>cases e2
  | cons t L2 =>
   unfold intsOf at e2
   rw [List.map_cons] at e2
   injection e2 with e2 e3
   subst e2 e3
   have ht:t∈L:=by rw [<- e1]; simp
   rw [<- hL,List.mem_filter] at ht
   obtain ⟨ht1,ht2⟩:=ht
   have ht2':=ht2
   unfold snip at ht2
   rw [List.any_eq_true] at ht2
   refine ea1_2 ht2 fun d hd ht2 => ?_
   have hd:=allDirs_lt hd
   simp only [Bool.and_eq_true,decide_eq_true_eq] at ht2
   obtain ⟨hm,hsn⟩:=ht2
   refine ex1 (List.getElem_of_mem hm) fun j zq => ?_
   refine ex1 zq fun hj ej => ?_
   clear zq
   have hj:(rayL F R d (kq c))[j]? = some t:=by rw [List.getElem?_eq_getElem hj,ej]
   have uniq:∀ d' j' i,d'<8->HeldD F R b (kq c) c d' j' t i->d'=d/\j'=j:=by
    intro d' j' i hd' hh
    have hm':=List.mem_of_getElem? hh.1
    have:=ray_apart B.fr hk hd' hd hm' hm
    subst this
    refine ⟨rfl,?_⟩
    have nd:=ray_nodup B.fr hk hd'
    exact (List.getElem?_inj (List.getElem?_eq_some_iff.mp hh.1).1 nd).mp (hh.1.trans hj.symm)
   refine ⟨hstill,?_⟩
   simp! [oks,e_and,e_or]
   simp! [hP.geo,e_and,e_or]
   simp! [oks,e_and,e_or]
   refine (sp_between (m:=m+2) B.fr hP.G hk hd hj).at_ ?_
   simp! [oks,e_and,e_or]
   have ein:bitAnd (bitsOf ((rayL F R d (kq c)).take j)) stx=bitsOf (((rayL F R d (kq c)).take j).filter (fun u=>b u != 0 && !snD b c d u)):=by
    rw [filter_bits (p:=fun u=>ibit stx u) (fun i=>rfl)]
    congr 1
    refine List.filter_congr fun u hu=>hstx d hd u (List.mem_of_mem_take hu)
   rw [ein]
   generalize hl:((rayL F R d (kq c)).take j).filter (fun u=>b u != 0 && !snD b c d u)=l
   have hb:Bits (bitsOf l) (fun i=>decide (i∈l)):=fun i=>ibit_bitsOf l i
   have lnd:l.Nodup:=hl ▸ ((ray_nodup B.fr hk hd).sublist (List.take_sublist ..)).filter _
   have llt:∀ u∈l,u<32:=fun u hu=>by
    rw [<- hl,List.mem_filter] at hu
    have:=ray_lt B.fr hk hd (List.mem_of_mem_take hu.1)
    exact Z.ltR this (Nat.le_trans hN (by decide))
   have next:∀ {x'},(∀ i,ibit x' i=true↔ibit x i=true\/l=[i])->∀ i,ibit x' i=true↔∃ d,d<8/\∃ j,∃ u∈L1++[t],HeldD F R b (kq c) c d j u i:=by
    intro x' h' i
    rw [h',hx]
    constructor
    ·rintro (⟨d',h1,j',u,h2,h3⟩ | h1)
     ·exact ⟨d',h1,j',u,by simp [h2],h3⟩
     ·exact ⟨d,hd,j,t,by simp,hj,hsn,hl.trans h1⟩
    ·intro zq
     refine ea1_2 zq fun d' h1 zq2 => ?_
     clear zq
     refine ea2_2 zq2 fun j' u h2 h3 => ?_
     clear zq2
     simp only [List.mem_append,List.mem_singleton] at h2
     rcases h2 with h2 | rfl
     ·exact .inl ⟨d',h1,j',u,h2,h3⟩
     ·obtain ⟨rfl,rfl⟩:=uniq d' j' i h1 h3
      exact .inr (hl.symm.trans h3.2.2)
   have same:l.length≠1->∀ i,ibit x i=true↔ibit x i=true\/l=[i]:=fun hne i=>⟨.inl,fun z=>z.elim id fun z=>absurd (by rw [z]; rfl) hne⟩
   refine ⟨fun q => ?_,fun q => ?_⟩
   ·refine (sp_more (m:=m+3) hb (fun i hi=>by
     have:i ∉ l:=fun z=>by have:=llt i z; lia
     simp [this])).at_ ?_
    simp! [oks,e_and,e_or]
    have hp:pc (fun i=>decide (i∈l))=l.length:=pc_mem lnd llt
    rw [hp]
    have q:=ne_zero_of.mp q
    refine ⟨fun q2 => ?_,fun q2 => ?_⟩
    ·have l1:l.length=1:=by
      have:l.length≠0:=fun z=>q (List.length_eq_zero_iff.mp z)
      simp at q2
      exact Nat.le_antisymm (Nat.le_of_lt_succ q2) (Z.le_lt (Nat.pos_of_ne_zero this))
     obtain ⟨s,hs1⟩:=List.length_eq_one_iff.mp l1
     have nx:=next (x':=bitOr x (bitsOf l)) (fun i=>by rw [ibit_or,ibit_singleton hs1,hs1,Bool.or_eq_true,decide_eq_true_eq]; exact ⟨fun h=>h.imp id fun h=>by rw [h],fun h=>h.imp id fun h=>(List.cons.inj h).1.symm⟩)
     have htlt:=ray_lt B.fr hk hd hm
     simp! [hP.sides,hs,e_and,e_or]
     simp! [oks,e_and,e_or]
     refine ⟨fun q3=>⟨by exact Z.tb htlt hN,L1++[t],L2,_,_,_,_,by rw [<- e1,List.append_assoc]; rfl,rfl,rfl,nx⟩,fun q3=>⟨L1++[t],L2,_,_,_,_,by rw [<- e1,List.append_assoc]; rfl,rfl,rfl,nx⟩⟩
    ·have l1:l.length≠1:=by simp at q2; exact Nat.ne_of_gt (Z.ltn q2)
     exact ⟨L1++[t],L2,_,_,_,_,by rw [<- e1,List.append_assoc]; rfl,rfl,rfl,next (same l1)⟩
   ·have q:¬ l≠[]:=fun z=>by rw [ne_zero_of.mpr z] at q; cases q
    have q:l=[]:=Classical.not_not.mp q
    subst q
    refine ⟨fun w => ?_,fun _=>⟨L1++[t],L2,_,_,_,_,by rw [<- e1,List.append_assoc]; rfl,rfl,rfl,next (same (by decide))⟩⟩
    simp [bitsOf] at w
 ·intro loc _ zq
  refine an2 zq fun zq2 => ?_
  clear zq
  subst zq2
  intro zq3
  refine ea6_4 zq3 fun L1 L2 x y w1 w2 e1 e2 zq4 => ?_
  clear zq3
  subst zq4
  intro hx
  have:L2=[]:=by cases L2 with | nil=>rfl | cons=>cases e2
  subst this
  rw [List.append_nil] at e1
  subst e1
  refine ⟨hstill,?_⟩
  simp! [oks,e_and,e_or]
  refine ⟨(by decide:2<=LIM),hB,x,y,rfl,fun i => ?_⟩
  rw [Bool.eq_iff_iff,hx,decide_eq_true_eq,mem_shields]
  constructor
  ·rintro ⟨d,h1,j,t,h2,h3⟩; exact ⟨d,allDirs_mem h1,j,t,h3⟩
  ·intro zq
   refine ea1_2 zq fun d h1 zq2 => ?_
   clear zq
   refine ex2 zq2 fun j t h3 => ?_
   clear zq2
   have hd:=allDirs_lt h1
   have hm:=List.mem_of_getElem? h3.1
   refine ⟨d,hd,j,t,?_,h3⟩
   rw [<- hL,List.mem_filter]
   exact ⟨List.mem_range.mpr (by have:=ray_lt B.fr hk hd hm; exact Z.lt3 this hN (by decide)),(snip_ray B.fr hk hd hm).trans h3.2.1⟩
end
theorem Bits.bound:∀ (n:Nat) {x:Int} {q:Nat->Bool},Bits x q->(∀ i,n<=i->q i=false)->0<=x/\x<2^n
 | 0,x,q,h,z=>by
  have:x=0:=ibit_inj fun i=>by rw [h,z i (Nat.zero_le _),ibit_zero]
  subst this
  exact ⟨Int.le_refl _,by decide⟩
 | n+1,x,q,h,z=>by
  have h':Bits (x / 2) (fun i=>q (i+1)):=fun i=>h (i+1)
  have:=Bits.bound n h' (fun i hi=>z (i+1) (by exact Nat.add_le_add hi (by decide)))
  rw [Int.pow_succ]
  exact Z.hl this
theorem Bits.abs {x:Int} {q:Nat->Bool} (h:Bits x q) (z:∀ i,32<=i->q i=false):x.natAbs<2^64:=by
 have:=h.bound 32 z
 exact Z.m100 this
noncomputable def nbP (F N:Nat) (q:Nat->Bool) (i:Nat):Bool:=decide (i<N)&&((decide (1<=i)&&q (i - 1)&&decide ((i - 1)%F≠F - 1))||(q (i+1)&&decide ((i+1)%F≠0)))
noncomputable def upP (F N c:Nat) (q:Nat->Bool) (i:Nat):Bool:=if c=0 then decide (i<N)&&decide (F<=i)&&q (i - F) else q (i+F)
section
variable {P:PosR} {A:GeoR} {F R p g:Nat} {b kq:Nat->Nat} {σ:H} {m:Nat}
theorem sp_shift {x:Int} {q:Nat->Bool} {c:Nat} (hF:(F,R)∈FRs) (G:GeoAt A F R g σ) (hx:Bits x q) (hq:∀ i,32<=i->q i=false) (hc:c<2) :
  Ok (callN prog glb (m+1) 32 [.ref g,.int x,.int c] σ) (fun r=>r.2=σ/\∃ y,r.1 = .int y/\Bits y (upP F (F*R) c q)):=by
 revert A F R g σ m x q c
 exists A,F,R,g,σ,m,x,q,c
 intro hF G hx hq hc
 have hN:=FRs_le hF
 have ha:=hx.abs hq
 refine enter rfl rfl (by decide) fun P_ hR_ => ?_
 simp only [f_shift_up,b_shift_up]
 simp! [G.files,G.full,e_and,e_or]
 have:c=0\/c=1:=by lia
 rcases this with rfl | rfl
 ·refine ⟨fun _=>⟨⟨by exact Z.c0,by exact Z.cle (Nat.le_trans hN.2.1 (by decide)),ha⟩,_,rfl,fun i => ?_⟩,fun h=>by simp at h⟩
  rw [ibit_and,Int.toNat_natCast,ibit_shl,hx,ibit_bitsOf]
  unfold upP
  simp only [if_true,List.mem_range]
  cases q (i - F) <;> by_cases h1:i<F*R <;> by_cases h2:F<=i <;> simp [h1,h2]
 ·refine ⟨fun h=>by simp at h,fun _=>⟨by exact Z.c0,_,rfl,fun i => ?_⟩⟩
  rw [Int.toNat_natCast,ibit_shr,hx]
  rfl
theorem sp_neighbours {x:Int} {q:Nat->Bool} (hF:(F,R)∈FRs) (G:GeoAt A F R g σ) (hx:Bits x q) (hq:∀ i,F*R<=i->q i=false) :
  Ok (callN prog glb (m+1) 33 [.ref g,.int x] σ) (fun r=>r.2=σ/\∃ y,r.1 = .int y/\Bits y (nbP F (F*R) q)):=by
 revert A F R g σ m x q
 exists A,F,R,g,σ,m,x,q
 intro hF G hx hq
 have hN:=FRs_le hF
 have f0:getI σ (.ref A.fm) (.int 0)=some (.int (bitsOf ((List.range (F*R)).filter fun i=>i%F==0))):=G.fmI 0 (by exact Z.ltR (by decide) hN.1)
 have hr:Bits (bitAnd x (bitNot (bitsOf ((List.range (F*R)).filter fun i=>i%F==F - 1)))) (fun i=>q i&&decide (i%F≠F - 1)):=by
  intro i
  rw (config:={}) [ibit_and,ibit_not,hx,ibit_filter]
  by_cases h:i<F*R
  ·rw (config:={}) [decide_eq_true h,Bool.true_and]; congr 1; rw (config:={}) [Bool.eq_iff_iff]; simp
  ·simp [hq i (by exact Z.nle h)]
 have hl:Bits (bitAnd x (bitNot (bitsOf ((List.range (F*R)).filter fun i=>i%F==0)))) (fun i=>q i&&decide (i%F≠0)):=by
  intro i
  rw (config:={}) [ibit_and,ibit_not,hx,ibit_filter]
  by_cases h:i<F*R
  ·rw (config:={}) [decide_eq_true h,Bool.true_and]; congr 1; rw (config:={}) [Bool.eq_iff_iff]; simp
  ·simp [hq i (by exact Z.nle h)]
 have ha:=hr.abs (fun i hi=>by simp [hq i (by exact Nat.le_trans hN.2.2.2.2 (Nat.le_trans (by decide) hi))])
 have fl:(F:Int) - 1=((F - 1:Nat):Int):=by exact Z.csn (Nat.le_trans (by decide) hN.1)
 refine enter rfl rfl (by decide) fun P_ hR_ => ?_
 simp only [f_neighbours,b_neighbours]
 simp! [G.files,G.full,G.fm,fl,G.fmI (F - 1) (by exact Z.s1 (Nat.le_trans (by decide) hN.1)),f0,e_and,e_or]
 refine ⟨ha,_,rfl,fun i => ?_⟩
 rw (config:={}) [ibit_and,ibit_or,ibit_shl,hr,ibit_shr,hl,ibit_bitsOf]
 unfold nbP
 simp only [List.mem_range]
 cases q (i - 1) <;> cases q (i+1) <;> by_cases h1:i<F*R <;> by_cases h2:1<=i <;> simp [h1,h2]
end
noncomputable def chkPawn (F R:Nat):Bool:=[0,1].all fun c=>(List.range (F*R)).all fun s=>(List.range (F*R)).all fun i =>
 (hopsL F R s (pawnSteps c)).contains i==upP F (F*R) c (nbP F (F*R) fun u=>u==s) i
set_option profiler true in
theorem chkPawn_all:(FRs.all fun p=>chkPawn p.1 p.2)=true:=by decide +kernel
section
variable {P:PosR} {A:GeoR} {F R p g:Nat} {b kq:Nat->Nat} {σ:H} {m:Nat}
theorem upnb_iff {c i N:Nat} {q:Nat->Bool}:upP F N c (nbP F N q) i=true↔∃ s,q s=true/\upP F N c (nbP F N fun u=>u==s) i=true:=by
 revert F c i N q
 exists F,c,i,N,q
 unfold upP nbP
 split
 ·simp only [Bool.and_eq_true,Bool.or_eq_true,decide_eq_true_eq,beq_iff_eq]
  constructor
  ·rintro ⟨h1,h2,h3 | h3⟩
   ·exact ⟨i - F - 1,h3.1.2,h1,h2,.inl ⟨⟨h3.1.1,rfl⟩,h3.2⟩⟩
   ·exact ⟨i - F+1,h3.1,h1,h2,.inr ⟨rfl,h3.2⟩⟩
  ·rintro ⟨s,h0,h1,h2,h3 | h3⟩
   ·obtain ⟨⟨h4,rfl⟩,h5⟩:=h3; exact ⟨h1,h2,.inl ⟨⟨h4,h0⟩,h5⟩⟩
   ·obtain ⟨rfl,h5⟩:=h3; exact ⟨h1,h2,.inr ⟨h0,h5⟩⟩
 ·simp only [Bool.and_eq_true,Bool.or_eq_true,decide_eq_true_eq,beq_iff_eq]
  constructor
  ·rintro ⟨h2,h3 | h3⟩
   ·exact ⟨i+F - 1,h3.1.2,h2,.inl ⟨⟨h3.1.1,rfl⟩,h3.2⟩⟩
   ·exact ⟨i+F+1,h3.1,h2,.inr ⟨rfl,h3.2⟩⟩
  ·rintro ⟨s,h0,h2,h3 | h3⟩
   ·obtain ⟨⟨h4,rfl⟩,h5⟩:=h3; exact ⟨h2,.inl ⟨⟨h4,h0⟩,h5⟩⟩
   ·obtain ⟨rfl,h5⟩:=h3; exact ⟨h2,.inr ⟨h0,h5⟩⟩
theorem sp_pawn_attacks {x:Int} {q:Nat->Bool} {c:Nat} (hF:(F,R)∈FRs) (G:GeoAt A F R g σ) (hx:Bits x q) (hq:∀ i,F*R<=i->q i=false) (hc:c<2) :
  Ok (callN prog glb (m+2) 34 [.ref g,.int x,.int c] σ) (fun r=>r.2=σ/\∃ y,r.1 = .int y/\∀ i,ibit y i=true↔∃ s,s<F*R/\q s=true/\i∈hopsL F R s (pawnSteps c)):=by
 revert A F R g σ m x q c
 exists A,F,R,g,σ,m,x,q,c
 intro hF G hx hq hc
 have hN:=FRs_le hF
 refine enter rfl rfl (by decide) fun P_ hR_ => ?_
 simp only [f_pawn_attacks,b_pawn_attacks]
 simp! [oks,e_and,e_or]
 refine (sp_neighbours hF G hx hq).int_ fun y hy => ?_
 simp! [oks,e_and,e_or]
 refine (sp_shift hF G hy (fun i hi=>by unfold nbP; simp; lia) hc).int_ fun z hz => ?_
 simp! [oks,e_and,e_or]
 refine ⟨z,rfl,fun i => ?_⟩
 rw [hz,upnb_iff]
 have key:∀ s,s<F*R->((hopsL F R s (pawnSteps c)).contains i=upP F (F*R) c (nbP F (F*R) fun u=>u==s) i):=by
  intro s hs
  by_cases hi:i<F*R
  ·have h:=List.all_eq_true.mp chkPawn_all (F,R) hF
   have h:=List.all_eq_true.mp h c (by rcases (by lia:c=0\/c=1) with rfl | rfl <;> simp)
   have h:=List.all_eq_true.mp h s (List.mem_range.mpr hs)
   have h:=List.all_eq_true.mp h i (List.mem_range.mpr hi)
   simpa using h
  ·have h1:(hopsL F R s (pawnSteps c)).contains i=false:=by
    cases q:(hopsL F R s (pawnSteps c)).contains i with
    | false=>rfl
    | true =>
     have hp:pawnSteps c∈[ways,jumps,pawnSteps 0,pawnSteps 1]:=by
      have:c=0\/c=1:=by lia
      rcases this with rfl | rfl <;> simp
     exact absurd ((hops_ok hF hs hp).2 i (by simpa using q)) hi
   rw [h1]
   unfold upP nbP
   split
   ·simp [hi]
   ·have:¬ i+F<F*R:=by exact Z.fn hi
    simp [this]
 constructor
 ·intro zq
  refine ea1_2 zq fun s h1 h2 => ?_
  clear zq
  have hs:s<F*R:=by
   rcases Nat.lt_or_ge s (F*R) with t | t
   ·exact t
   ·rw [hq s t] at h1; cases h1
  exact ⟨s,hs,h1,by have:=key s hs; rw [h2] at this; simpa using this⟩
 ·intro zq
  refine ea1_3 zq fun s hs h1 h2 => ?_
  clear zq
  exact ⟨s,h1,by rw [<- key s hs]; simpa using h2⟩
theorem sp_rank {r c:Nat} (hF:(F,R)∈FRs) (G:GeoAt A F R g σ) (hc:c<2) (hr:r<R) :
  Ok (callN prog glb (m+1) 36 [.ref g,.int c,.int r] σ) (fun p=>p.2=σ/\∃ y,p.1 = .int y/\Bits y (fun i=>decide (i<F*R)&&(if c=0 then i / F==r else i / F==R - 1 - r))):=by
 revert A F R g σ m r c
 exists A,F,R,g,σ,m,r,c
 intro hF G hc hr
 refine enter rfl rfl (by decide) fun P_ hR_ => ?_
 simp only [f_rank_board,b_rank_board]
 simp! [oks,e_and,e_or]
 simp! [G.rm,G.ranks,e_and,e_or]
 simp! [oks,e_and,e_or]
 have:c=0\/c=1:=by lia
 rcases this with rfl | rfl
 ·simp! [G.rmI r hr,e_and,e_or]
  refine ⟨fun _=>⟨_,rfl,fun i => ?_⟩,fun h=>by simp at h⟩
  rw [ibit_filter]; rfl
 ·have e:(R:Int) - 1 - (r:Int)=((R - 1 - r:Nat):Int):=by exact Z.csr hr
  rw [e]
  simp! [G.rmI (R - 1 - r) (by exact Z.rr hr),e_and,e_or]
  refine ⟨fun h=>by simp at h,fun _=>⟨_,rfl,fun i => ?_⟩⟩
  rw [ibit_filter]; rfl
noncomputable def stopP (b:Nat->Nat) (c k i:Nat):Bool:=b i != 0 && !((k==3||k==4)&&b i%8==5) && !(k==4&&b i==8*c+4)
theorem sp_stops (B:BoardOk F R b kq) (h:PosAt P A F R b p σ) {c k:Nat} (hc:c<2) (hk:1<=k/\k<=6) :
  Ok (callN prog glb (m+2) 37 [.ref p,.int c,.int k] σ) (fun r=>r.2=σ/\∃ x,r.1 = .int x/\Bits x (stopP b c k)):=by
 revert P A F R p b kq σ m c k
 exists P,A,F,R,p,b,kq,σ,m
 intro B h
 exists c,k
 intro hc hk
 have k5:getI σ (.ref P.kinds) (.int 5)=some (.int (kb (F*R) b 5)):=h.kI 5 (by decide) (by decide)
 refine enter rfl rfl (by decide) fun P_ hR_ => ?_
 simp only [f_seen_stops,b_seen_stops]
 simp! [oks,e_and,e_or]
 refine (sp_occ B h).int_ fun x hx => ?_
 simp! [oks,e_and,e_or]
 simp! [h.kinds,k5,e_and,e_or]
 simp! [oks,e_and,e_or]
 by_cases h3:k=3
 ·subst h3
  refine ⟨fun q=>by simp at q,fun _=>⟨fun _=>⟨fun q=>by simp at q,fun _=>⟨_,rfl,fun i => ?_⟩⟩,fun q=>by simp at q⟩⟩
  rw [ibit_and,ibit_not,hx,kb_bits B (by decide)]
  simp [stopP]
 ·by_cases h4:k=4
  ·subst h4
   refine ⟨fun _=>⟨fun _=>⟨fun _ => ?_,fun q=>by simp at q⟩,fun q=>by simp at q⟩,fun q=>by simp at q⟩
   refine (sp_pieces B h hc (k:=4) (by decide)).int_ fun y hy => ?_
   simp! [oks,e_and,e_or]
   refine ⟨_,rfl,fun i => ?_⟩
   rw [ibit_and,ibit_not,ibit_and,ibit_not,hx,kb_bits B (by decide),hy]
   simp [stopP]
  ·have:k=1\/k=2\/k=5\/k=6:=by exact Z.or1256 hk h3 h4
   rcases this with rfl | rfl | rfl | rfl <;>
    exact ⟨fun _=>⟨fun q=>by simp at q,fun _=>⟨fun q=>by simp at q,fun _=>⟨_,rfl,fun i=>by rw [hx]; simp [stopP]⟩⟩⟩,fun q=>by simp at q⟩
noncomputable def reachL (F R:Nat) (b:Nat->Nat) (kq:Nat) (S:List Nat) (c k s:Nat):List Nat :=
 if k=1\/k=6\/s ∉ S then seesL F R (stopP b c k) c k s else (seesL F R (stopP b c k) c k s).filter (colin F kq s)
theorem walkL_sub {p:Nat->Bool} {t:Nat}:∀ {L:List Nat},t∈walkL p L->t∈L
 | [],h=>h
 | u::r,h=>by
  unfold walkL at h
  split at h
  ·simp at h; simp [h]
  ·rcases List.mem_cons.mp h with h | h
   ·simp [h]
   ·exact List.mem_cons_of_mem _ (walkL_sub h)
theorem pawnSteps_mem {c:Nat} (hc:c<2):pawnSteps c∈[ways,jumps,pawnSteps 0,pawnSteps 1]:=by
 have:c=0\/c=1:=by lia
 rcases this with rfl | rfl <;> simp
theorem sees_lt (hF:(F,R)∈FRs) {p:Nat->Bool} {c k s t:Nat} (hs:s<F*R) (hc:c<2) (h:t∈seesL F R p c k s):t<F*R:=by
 revert F R p c k s t
 exists F,R
 intro hF
 exists p,c,k,s,t
 intro hs hc h
 unfold seesL at h
 split at h
 ·exact (hops_ok hF hs (pawnSteps_mem hc)).2 t h
 ·split at h
  ·exact (hops_ok hF hs (by simp)).2 t h
  ·split at h
   ·exact (hops_ok hF hs (by simp)).2 t h
   ·unfold slideL at h
    rw [List.mem_flatMap] at h
    refine ea1_2 h fun d hd h => ?_
    have hd:d<8:=by
     unfold dirsOf at hd
     split at hd
     ·simp at hd; exact Z.ro8b hd
     ·split at hd <;> simp at hd <;> (first | exact Z.ro8a hd | exact Z.ro8 hd)
    exact ray_lt hF hs hd (walkL_sub h)
theorem sp_reach (B:BoardOk F R b kq) (h:PosAt P A F R b p σ) {c k s:Nat} {sh:Int} {S:List Nat} (hc:c<2) (hk:1<=k/\k<=6) (hs:s<F*R) (hsh:Bits sh (fun i=>decide (i∈S))) (hS:∀ i∈S,∃ d,d<8/\i∈rayL F R d (kq c)) :
  Ok (callN prog glb (m+7) 38 [.ref p,.int c,.int k,.int s,.int sh] σ) (fun r=>r.2=σ/\∃ x,r.1 = .int x/\Bits x (fun i=>decide (i∈reachL F R b (kq c) S c k s))):=by
 revert P A F R p b kq σ m c k s sh S
 exists P,A,F,R,p,b,kq,σ,m
 intro B h
 exists c,k,s,sh,S
 intro hc hk hs hsh hS
 refine enter rfl rfl (by decide) fun P_ hR_ => ?_
 simp only [f_piece_reach,b_piece_reach]
 simp! [h.geo,e_and,e_or]
 refine (sp_stops (m:=m+4) B h hc hk).int_ fun st hst => ?_
 simp! [oks,e_and,e_or]
 refine (sp_piece B.fr h.G hs hc hst hk).int_ fun x hx => ?_
 simp! [h.geo,e_and,e_or]
 have eS:bitAnd (sh.fdiv (2^(s:Int).toNat)) 1=if s∈S then 1 else 0:=by
  have hb:Bits (sh.fdiv (2^(s:Int).toNat)) (fun i=>decide (i+s∈S)):=fun i=>by rw [Int.toNat_natCast,ibit_shr,hsh]
  rw [mod2 hb]
  simp
 have plain:(k=1\/k=6\/s ∉ S)->∀ i,ibit x i=decide (i∈reachL F R b (kq c) S c k s):=fun z i=>by
  unfold reachL
  rw [if_pos z,hx]
 refine ⟨fun q1=>⟨fun q2=>⟨by exact Z.c0,fun q3 => ?_,fun q3 => ?_⟩,?_⟩,?_⟩
 ·have hin:s∈S:=by
   apply Classical.byContradiction
   intro z
   rw [eS,if_neg z] at q3
   cases q3
  refine ea1_2 (hS s hin) fun d hd hr => ?_
  have hkl:=B.klt c hc
  refine (sp_king (m:=m+3) B h hc).at_ ?_
  simp! [oks,e_and,e_or]
  refine (sp_line (m:=m+4) B.fr h.G hkl hd hr).int_ fun y hy => ?_
  simp! [oks,e_and,e_or]
  refine ⟨_,rfl,fun i => ?_⟩
  have z:¬ (k=1\/k=6\/s ∉ S):=by
   simp at q1 q2
   simp only [not_or,Classical.not_not]
   exact ⟨by lia,by lia,hin⟩
  unfold reachL
  rw [if_neg z,ibit_and,hx,hy]
  by_cases hi:i∈seesL F R (stopP b c k) c k s
  ·dsimp only
   rw [line_colin B.fr hkl hd hr (sees_lt B.fr hs hc hi),Bool.eq_iff_iff]
   simp [hi]
  ·simp [hi]
 ·refine ⟨_,rfl,plain (.inr (.inr fun z => ?_))⟩
  rw [eS,if_pos z] at q3
  cases q3
 ·intro q2
  refine ⟨fun z=>Bool.noConfusion (q2.symm.trans z),fun _ => ?_⟩
  refine ⟨_,rfl,plain (.inr (.inl ?_))⟩
  simp at q2
  exact Z.ueq q2
 ·intro q1
  refine ⟨fun z=>Bool.noConfusion (q1.symm.trans z),fun _ => ?_⟩
  refine ⟨_,rfl,plain (.inl ?_)⟩
  simp at q1
  exact Z.ueq q1
end
theorem Bits.val {x:Int} {L:List Nat} (h:Bits x (fun i=>decide (i∈L))):x=bitsOf L:=ibit_inj fun i=>by rw [h,ibit_bitsOf]
theorem bitsOf_append (L M:List Nat):bitOr (bitsOf L) (bitsOf M)=bitsOf (L++M):=ibit_inj fun i=>by
 rw [ibit_or,ibit_bitsOf,ibit_bitsOf,ibit_bitsOf]
 simp
theorem set_ne {σ:H} {a b:Nat} {o:O} (h:a≠b):(σ.set a o)[b]? = σ[b]? := List.getElem?_set_ne h
theorem set_eq {σ:H} {a:Nat} {o o':O} (h:σ[a]? = some o):(σ.set a o')[a]? = some o':=by
 rw [List.getElem?_set_self (List.getElem?_eq_some_iff.mp h).1]
theorem setI_at {σ:H} {a k:Nat} {xs:List V} {w:V} (h:σ[a]? = some (.list false xs)) (hk:k<xs.length):setI σ (.ref a) (.int k) w=some (σ.set a (.list false (xs.set k w))):=by
 unfold setI
 simp only [h,if_neg (show ¬ (k:Int)<0 by lia),Int.toNat_natCast,if_pos hk]
theorem getI_at {σ:H} {a k:Nat} {fz:Bool} {xs:List V} {w:V} (h:σ[a]? = some (.list fz xs)) (hk:xs[k]? = some w):getI σ (.ref a) (.int k)=some w:=by
 unfold getI
 simp only [h,if_neg (show ¬ (k:Int)<0 by lia),Int.toNat_natCast,hk]
theorem app_at {σ:H} {a:Nat} {xs:List V} {v:V} (h:σ[a]? = some (.list false xs)) (hz:xs.length<LIM):methV .append (.ref a) v σ=some (.none,σ.set a (.list false (xs++[v]))):=by
 unfold methV
 simp only [h,if_pos hz]
theorem isL_at {σ:H} {a:Nat} {xs:List V} (h:σ[a]? = some (.list false xs)):isLst σ (.ref a)=true:=by
 unfold isLst
 simp only [h]
theorem mul_at {σ:H} {a:Nat} {x:V} {n:Nat} (h:σ[a]? = some (.list false [x])) (hn:n<=1000):binV .mul (.ref a) (.int n) σ=some (.ref σ.length,σ++[.list false (List.replicate n x)]):=by
 unfold binV
 simp only [h,if_pos (show 0<=(n:Int)/\(n:Int)<=1000 by exact ⟨Z.c0,(Z.cle hn)⟩),Int.toNat_natCast]
theorem attrSet_push {σ:H} {c f:Nat} {fs:List (Nat × V)} {w:V} (hz:fs.length<100):attrSet (σ++[.inst c fs]) (.ref σ.length) f w=some (σ++[.inst c (putF fs f w)]):=by
 unfold attrSet
 simp only [get_push,if_pos hz,set_push]
theorem items_at {σ:H} {a:Nat} {fz:Bool} {xs:List V} (h:σ[a]? = some (.list fz xs)):items σ (.ref a)=some xs:=by
 unfold items
 simp only [h]
theorem still_at {σ:H} {a:Nat} {fz:Bool} {xs:List V} (h:σ[a]? = some (.list fz xs)):still (.ref a) xs σ=true:=by
 unfold still
 simp only [h,decide_true]
section
variable {P:PosR} {A:GeoR} {F R p g:Nat} {b kq:Nat->Nat} {σ:H} {m:Nat}
noncomputable def shOf (F R:Nat) (b kq:Nat->Nat) (c:Nat):List Nat:=shieldsL F R b (kq c) c allDirs
noncomputable def rc (F R:Nat) (b kq:Nat->Nat) (c k t:Nat):List Nat:=reachL F R b (kq c) (shOf F R b kq c) c k t
theorem shOf_ray {c i:Nat} (h:i∈shOf F R b kq c):∃ d,d<8/\i∈rayL F R d (kq c):=by
 unfold shOf at h
 rw [mem_shields] at h
 refine ea1_2 h fun d hd zq => ?_
 try clear h
 refine ea2_3 zq fun j t h1 h2 h3 => ?_
 clear zq
 refine ⟨d,allDirs_lt hd,?_⟩
 have:i∈((rayL F R d (kq c)).take j).filter (fun u=>b u != 0 && !snD b c d u):=by rw [h3]; simp
 exact List.mem_of_mem_take (List.mem_filter.mp this).1
theorem sp_reach' (B:BoardOk F R b kq) (h:PosAt P A F R b p σ) {c k s:Nat} (hc:c<2) (hk:1<=k/\k<=6) (hs:s<F*R) :
  Ok (callN prog glb (m+7) 38 [.ref p,.int c,.int k,.int s,.int (bitsOf (shOf F R b kq c))] σ) (fun r=>r=(.int (bitsOf (rc F R b kq c k s)),σ)):=by
 refine (sp_reach B h hc hk hs (fun i=>ibit_bitsOf _ i) fun i hi=>shOf_ray hi).int_ fun x hx => ?_
 rw [hx.val]
 rfl
theorem sp_blockers' (B:BoardOk F R b kq) (h:PosAt P A F R b p σ) {c:Nat} (hc:c<2) :
  Ok (callN prog glb (m+5) 31 [.ref p,.int c] σ) (fun r=>Base σ r.2/\∃ y,r.1 = .tup [.int (bitsOf (shOf F R b kq c)),.int y]):=by
 refine (sp_blockers B h hc).mono ?_
 rintro ⟨_,τ⟩
 intro zq
 refine an2 zq fun hB zq2 => ?_
 clear zq
 refine ea2_2 zq2 fun x y zq3 => ?_
 clear zq2
 subst zq3
 intro hx
 exact ⟨hB,y,by rw [hx.val]; rfl⟩
noncomputable def plK (b:Nat->Nat) (c k:Nat):List (Nat × Nat):=((List.range 32).filter fun i=>b i==8*c+k).map fun t=>(k,t)
noncomputable def plA (b:Nat->Nat) (c:Nat):List (Nat × Nat):=[1,2,3,4,5,6].flatMap (plK b c)
noncomputable def byV (F R:Nat) (b kq:Nat->Nat) (c:Nat) (D:List (Nat × Nat)) (k:Nat):Int :=
 if k=0 then bitsOf (D.flatMap fun q=>rc F R b kq c q.1 q.2) else bitsOf ((D.filter fun q=>q.1==k).flatMap fun q=>rc F R b kq c q.1 q.2)
noncomputable def byL (F R:Nat) (b kq:Nat->Nat) (c:Nat) (D:List (Nat × Nat)):List V:=(List.range 7).map fun k=>V.int (byV F R b kq c D k)
noncomputable def cntR (F R:Nat) (b kq:Nat->Nat) (c:Nat) (D:List (Nat × Nat)) (i:Nat):Nat:=D.countP fun q=>decide (i∈rc F R b kq c q.1 q.2)
noncomputable def reL (F R:Nat) (b kq:Nat->Nat) (c:Nat) (D:List (Nat × Nat)):List V:=(D.filter fun q=>q.1 != 1&&q.1 != 6).map fun q=>V.tup [.int q.1,.int (bitsOf (rc F R b kq c q.1 q.2))]
structure AMAt (F R:Nat) (b kq:Nat->Nat) (c a:Nat) (τ:H):Prop where
 king:attrOf τ (.ref a) 7=some (.int (kq c))
 by_:∃ x,attrOf τ (.ref a) 22=some (.ref x)/\τ[x]? = some (.list false (byL F R b kq c (plA b c)))
 twice:∃ y,attrOf τ (.ref a) 23=some (.int y)/\∀ i,ibit y i=decide (2<=cntR F R b kq c (plA b c) i)
 reaches:∃ x,attrOf τ (.ref a) 20=some (.ref x)/\τ[x]? = some (.list false (reL F R b kq c (plA b c)))
 shields:attrOf τ (.ref a) 21=some (.int (bitsOf (shOf F R b kq c)))
theorem AMAt.base {c a:Nat} {σ τ:H} (B:Base σ τ) (h:AMAt F R b kq c a σ):AMAt F R b kq c a τ :=
 ⟨attrOf_base B h.king,let ⟨x,h1,h2⟩:=h.by_; ⟨x,attrOf_base B h1,B.get h2⟩,let ⟨x,h1,h2⟩:=h.twice; ⟨x,attrOf_base B h1,h2⟩,let ⟨x,h1,h2⟩:=h.reaches; ⟨x,attrOf_base B h1,B.get h2⟩,attrOf_base B h.shields⟩
theorem sp_newAM {v1 v2 v3 v4 v5:V} (r1:rdV v1=some v1) (r2:rdV v2=some v2) (r3:rdV v3=some v3) (r4:rdV v4=some v4) (r5:rdV v5=some v5) :
  Ok (callN prog glb (m+1) 1003 [.ref σ.length,v1,v2,v3,v4,v5] (σ++[.inst 3 []])) (fun r=>r=(.none,σ++[.inst 3 [(7,v1),(22,v2),(23,v3),(20,v4),(21,v5)]])):=by
 revert σ m v1 v2 v3 v4 v5
 exists σ,m,v1,v2,v3,v4,v5
 intro r1 r2 r3 r4 r5
 refine enter rfl rfl (by decide) fun P_ hR_ => ?_
 simp only [f_new_AttackMap,b_new_AttackMap]
 simp! [r1,r2,r3,r4,r5,attrSet_push,putF,List.length_nil,List.length_cons,if_false,if_true,Nat.reduceEqDiff,Nat.reduceAdd,if_neg,reduceIte,e_and,e_or]
theorem byL_len {c:Nat} {D:List (Nat × Nat)}:(byL F R b kq c D).length=7:=by unfold byL; simp
theorem byL_get {c k:Nat} {D:List (Nat × Nat)} (hk:k<7):(byL F R b kq c D)[k]? = some (.int (byV F R b kq c D k)):=by
 unfold byL
 rw [List.getElem?_map,List.getElem?_range hk]; rfl
theorem byV_snoc {c k j:Nat} {D:List (Nat × Nat)} {t:Nat}:byV F R b kq c (D++[(k,t)]) j=if j=0\/j=k then bitOr (byV F R b kq c D j) (bitsOf (rc F R b kq c k t)) else byV F R b kq c D j:=by
 revert F R b kq c k j D t
 exists F,R,b,kq,c,k,j,D,t
 unfold byV
 by_cases h0:j=0
 ·simp only [h0,if_true,true_or,bitsOf_append,List.flatMap_append,List.flatMap_cons,List.flatMap_nil,List.append_nil]
 ·by_cases h1:j=k
  ·subst h1
   simp only [h0,if_false,or_true,if_true,bitsOf_append,List.filter_append,List.filter_cons,beq_self_eq_true,List.filter_nil,List.flatMap_append,List.flatMap_cons,List.flatMap_nil,List.append_nil]
  ·have:(k==j)=false:=by simpa using fun z=>h1 z.symm
   simp only [h0,h1,if_false,or_self,List.filter_append,List.filter_cons,this,Bool.false_eq_true,List.filter_nil,List.append_nil]
theorem byL_snoc {c k:Nat} {D:List (Nat × Nat)} {t:Nat} (hk:1<=k/\k<=6):byL F R b kq c (D++[(k,t)]) =
  ((byL F R b kq c D).set k (.int (bitOr (byV F R b kq c D k) (bitsOf (rc F R b kq c k t))))).set 0 (.int (bitOr (byV F R b kq c D 0) (bitsOf (rc F R b kq c k t)))):=by
 revert F R b kq c k D t
 exists F,R,b,kq,c,k,D,t
 intro hk
 refine List.ext_getElem? fun j => ?_
 by_cases hj:j<7
 ·rw [byL_get hj,byV_snoc,List.getElem?_set,List.getElem?_set]
  simp only [List.length_set,byL_len,byL_get hj]
  by_cases h0:0=j
  ·subst h0; simp
  ·by_cases h1:k=j
   ·subst h1
    have:¬ k=0:=by exact Z.nz hk.1 (by decide)
    simp [h0,this,show k<7 by exact hj]
   ·have a1:¬ j=0:=fun z=>h0 z.symm
    have a2:¬ j=k:=fun z=>h1 z.symm
    simp [h0,h1,a1,a2]
 ·rw [List.getElem?_eq_none (by rw [byL_len]; exact Z.nle hj),List.getElem?_eq_none (by rw [List.length_set,List.length_set,byL_len]; exact Z.nle hj)]
end
section
variable {P:PosR} {A:GeoR} {F R p g:Nat} {b kq:Nat->Nat} {σ:H} {m:Nat}
theorem cnt_snoc {c k t i:Nat} {D:List (Nat × Nat)}:cntR F R b kq c (D++[(k,t)]) i=cntR F R b kq c D i+if i∈rc F R b kq c k t then 1 else 0:=by
 unfold cntR
 rw [List.countP_append,List.countP_singleton]
 simp
theorem by0_bits {c i:Nat} {D:List (Nat × Nat)}:ibit (byV F R b kq c D 0) i=decide (1<=cntR F R b kq c D i):=by
 unfold byV cntR
 rw [if_pos rfl,ibit_bitsOf,Bool.eq_iff_iff,decide_eq_true_eq,decide_eq_true_eq,Nat.succ_le_iff,List.countP_pos_iff,List.mem_flatMap]
 simp
theorem reL_snoc {c k t:Nat} {D:List (Nat × Nat)}:reL F R b kq c (D++[(k,t)])=if k=1\/k=6 then reL F R b kq c D else reL F R b kq c D++[V.tup [.int k,.int (bitsOf (rc F R b kq c k t))]]:=by
 unfold reL
 rw [List.filter_append,List.map_append]
 by_cases h:k=1\/k=6
 ·rw [if_pos h]
  rcases h with rfl | rfl <;> simp
 ·rw [if_neg h]
  simp only [not_or] at h
  simp [h.1,h.2]
theorem plA_len {c:Nat} {K:List Nat}:(K.flatMap (plK b c)).length<=32*K.length:=by
 induction K with
 | nil=>simp
 | cons k K ih =>
  rw [List.flatMap_cons,List.length_append,List.length_cons]
  have:(plK b c k).length<=32:=by
   unfold plK
   rw [List.length_map]
   exact Nat.le_trans (List.length_filter_le _ _) (by simp)
  exact Z.q32b ih this
structure AMst (F R:Nat) (b kq:Nat->Nat) (c:Nat) (σ:H) (a1 a2:Nat) (D:List (Nat × Nat)) (tw:Int) (τ:H):Prop where
 base:Base σ τ
 by_:τ[a1]? = some (.list false (byL F R b kq c D))
 re:τ[a2]? = some (.list false (reL F R b kq c D))
 tw:∀ i,ibit tw i=decide (2<=cntR F R b kq c D i)
theorem re_len {c:Nat} {D:List (Nat × Nat)}:(reL F R b kq c D).length<=D.length:=by
 unfold reL
 rw [List.length_map]
 exact List.length_filter_le _ _
theorem am_turn (B:BoardOk F R b kq) (h:PosAt P A F R b p σ) {c k t a1 a2:Nat} {D:List (Nat × Nat)} {tw:Int} {τ:H} {w8:V} (hc:c<2) (hk:1<=k/\k<=6) (ht:t<F*R) (h1:σ.length<=a1) (h2:σ.length<=a2) (h12:a1≠a2)
  (st:AMst F R b kq c σ a1 a2 D tw τ) (hD:D.length<1000) {Q:Fl × List V × H->Prop}
  (hQ:∀ tw' w8' τ',AMst F R b kq c σ a1 a2 (D++[(k,t)]) tw' τ'->(∀ a o,a≠a1->a≠a2->τ[a]? = some o->τ'[a]? = some o)->Q (.next,[.ref p,.int c,.int (bitsOf (shOf F R b kq c)),.ref a1,.int tw',.ref a2,.int k,.int t,w8'],τ')) :
  Ok (evSs (callN prog glb (m+7)) glb (.cons (.asg 8 (.call 38 (.cons (.var 0) (.cons (.var 1) (.cons (.var 6) (.cons (.var 7) (.cons (.var 2) .nil)))))))
 (.cons (.augV 4 .bor (.bin .band (.sub (.var 3) (.int 0)) (.var 8)))
 (.cons (.augI (.var 3) (.var 6) .bor (.var 8))
 (.cons (.augI (.var 3) (.int 0) .bor (.var 8))
 (.cons (.ite (.and (.cons (.cmp .ne (.var 6) (.glob 2)) (.cons (.cmp .ne (.var 6) (.glob 7)) .nil))) (.cons (.expr (.meth .append (.var 5) (.tup (.cons (.var 6) (.cons (.var 8) .nil)))))
 .nil) .nil)
 .nil))))) [.ref p,.int c,.int (bitsOf (shOf F R b kq c)),.ref a1,.int tw,.ref a2,.int k,.int t,w8] τ) Q:=by
 revert P A F R p b kq σ m c k t a1 a2 D tw τ w8 Q
 exists P,A,F,R,p,b,kq,σ,m
 intro B h
 exists c,k,t,a1,a2,D,tw,τ,w8
 intro hc hk ht h1 h2 h12 st hD
 exists Q
 intro hQ
 simp! [oks,e_and,e_or]
 refine (sp_reach' B (h.base st.base) hc hk ht).at_ ?_
 have g0:getI τ (.ref a1) (.int 0)=some (.int (byV F R b kq c D 0)):=getI_at st.by_ (byL_get (k:=0) (by decide))
 have gk:getI τ (.ref a1) (.int k)=some (.int (byV F R b kq c D k)):=getI_at st.by_ (byL_get (by exact Nat.lt_of_le_of_lt hk.2 (by decide)))
 generalize hX:bitOr (byV F R b kq c D k) (bitsOf (rc F R b kq c k t))=X
 generalize hY:bitOr (byV F R b kq c D 0) (bitsOf (rc F R b kq c k t))=Y
 refine nm (τ.set a1 (.list false ((byL F R b kq c D).set k (.int X)))) fun τ1 e1 => ?_
 have s1:setI τ (.ref a1) (.int k) (.int X)=some τ1:=e1 ▸ setI_at st.by_ (by rw [byL_len]; exact Nat.lt_of_le_of_lt hk.2 (by decide))
 have l1:τ1[a1]? = some (.list false ((byL F R b kq c D).set k (.int X))):=e1 ▸ set_eq st.by_
 have g0':getI τ1 (.ref a1) (.int 0)=some (.int (byV F R b kq c D 0)):=getI_at (k:=0) l1 (by rw [List.getElem?_set_ne (show k≠0 by exact Nat.ne_of_gt (Z.ltn hk.1))]; exact byL_get (k:=0) (by decide))
 refine nm (τ1.set a1 (.list false (((byL F R b kq c D).set k (.int X)).set 0 (.int Y)))) fun τ2 e2 => ?_
 have s2:setI τ1 (.ref a1) (.int 0) (.int Y)=some τ2:=e2 ▸ setI_at (k:=0) l1 (by rw [List.length_set,byL_len]; decide)
 have b2:Base σ τ2:=by rw [e2,e1]; exact (st.base.set h1 _).set h1 _
 have y2:τ2[a1]? = some (.list false (byL F R b kq c (D++[(k,t)]))):=by
  rw [e2,byL_snoc hk,hX,hY]
  exact set_eq l1
 have r2:τ2[a2]? = some (.list false (reL F R b kq c D)):=by rw [e2,e1,set_ne h12,set_ne h12]; exact st.re
 have o2:∀ a o,a≠a1->τ[a]? = some o->τ2[a]? = some o:=fun a o n q=>by rw [e2,e1,set_ne n.symm,set_ne n.symm]; exact q
 have tw2:∀ i,ibit (bitOr tw (bitAnd (byV F R b kq c D 0) (bitsOf (rc F R b kq c k t)))) i=decide (2<=cntR F R b kq c (D++[(k,t)]) i):=by
  intro i
  rw [ibit_or,st.tw,ibit_and,by0_bits,ibit_bitsOf,cnt_snoc]
  by_cases q:i∈rc F R b kq c k t
  ·simp only [q,decide_true,Bool.and_true,if_true]
   rw [Bool.eq_iff_iff]
   simp only [Bool.or_eq_true,decide_eq_true_eq]
   exact Z.or21
  ·simp [q]
 refine nm (τ2.set a2 (.list false (reL F R b kq c D++[V.tup [.int k,.int (bitsOf (rc F R b kq c k t))]]))) fun τ3 e3 => ?_
 have s3:methV .append (.ref a2) (.tup [.int k,.int (bitsOf (rc F R b kq c k t))]) τ2=some (.none,τ3):=e3 ▸ app_at r2 (by have := @re_len F R b kq c D; unfold LIM; exact Nat.lt_of_le_of_lt this (Z.ltR hD (by decide)))
 have il:isLst τ2 (.ref a2)=true:=isL_at r2
 have y3:τ3[a1]? = some (.list false (byL F R b kq c (D++[(k,t)]))):=by rw [e3,set_ne h12.symm]; exact y2
 have end2:(k=1\/k=6)->Q (.next,[.ref p,.int c,.int (bitsOf (shOf F R b kq c)),.ref a1,.int (bitOr tw (bitAnd (byV F R b kq c D 0) (bitsOf (rc F R b kq c k t)))),.ref a2,.int k,.int t,.int (bitsOf (rc F R b kq c k t))],τ2):=fun z =>
  hQ _ _ _ ⟨b2,y2,by rw [reL_snoc,if_pos z]; exact r2,tw2⟩ fun a o n _ q=>o2 a o n q
 simp! [g0,gk,hX,s1,g0',hY,s2,il,s3,e_and,e_or]
 refine ⟨fun q=>⟨fun q'=>⟨(show 2<=LIM by decide),?_⟩,fun q'=>end2 (.inr (by simp at q'; exact Z.ueq q'))⟩,fun q => ?_⟩
 ·refine hQ _ _ _ ⟨by rw [e3]; exact b2.set h2 _,y3,?_,tw2⟩ fun a o n1 n2 w=>by rw [e3,set_ne n2.symm]; exact o2 a o n1 w
  rw [e3,reL_snoc,if_neg (by simp at q q'; lia)]
  exact set_eq r2
 ·refine ⟨fun z=>Bool.noConfusion (q.symm.trans z),fun _=>end2 (.inl (by simp at q; exact Z.ueq q))⟩
theorem sp_attack_map (B:BoardOk F R b kq) (h:PosAt P A F R b p σ) {c:Nat} (hc:c<2) :
  Ok (callN prog glb (m+8) 39 [.ref p,.int c] σ) (fun r=>Base σ r.2/\∃ a,r.1 = .ref a/\AMAt F R b kq c a r.2):=by
 revert P A F R p b kq σ m c
 exists P,A,F,R,p,b,kq,σ,m
 intro B h
 exists c
 intro hc
 have hN:=FRs_le B.fr
 refine enter rfl rfl (by decide) fun P_ hR_ => ?_
 simp only [f_attack_map,b_attack_map]
 simp! [oks,e_and,e_or]
 refine (sp_blockers' (m:=m+2) B h hc).mono ?_
 rintro ⟨_,τ0⟩
 intro zq
 refine an2 zq fun hB0 zq2 => ?_
 clear zq
 refine ex1 zq2 fun y zq3 => ?_
 clear zq2
 subst zq3
 dsimp only at hB0
 have t0:getI τ0 (.tup [.int (bitsOf (shOf F R b kq c)),.int y]) (.int 0)=some (.int (bitsOf (shOf F R b kq c))):=rfl
 refine nm (τ0++[O.list false [V.int 0]]) fun τ1 e1 => ?_
 have m1:binV .mul (.ref τ0.length) (.int 7) τ1=some (.ref τ1.length,τ1++[O.list false (List.replicate 7 (V.int 0))]):=by
  have:=mul_at (σ:=τ1) (a:=τ0.length) (x := .int 0) (n:=7) (by rw [e1]; exact get_push) (by decide)
  exact this
 refine nm (τ1++[O.list false (List.replicate 7 (V.int 0))]) fun τ2 e2 => ?_
 rw [<- e2] at m1
 have hB1:Base σ τ1:=e1 ▸ hB0.push _
 have hB2:Base σ τ2:=e2 ▸ hB1.push _
 simp! [t0,<- e1,m1,e_and,e_or]
 refine ⟨(by decide:1<=LIM),(by decide:0<=LIM),(by decide:6<=LIM),?_⟩
 have hN32:∀ i,32<=i->b i=0:=fun i hi=>B.lt32 hi
 have L1:σ.length<=τ1.length:=hB1.len
 have L2:σ.length<=τ2.length:=hB2.len
 have L12:τ1.length≠τ2.length:=by rw [e2]; simp
 have st0:AMst F R b kq c σ τ1.length τ2.length [] 0 (τ2++[O.list false []]) :=
  ⟨hB2.push _,by rw [List.getElem?_append_left (by rw [e2]; simp),e2,get_push]; rfl,by rw [get_push]; rfl,fun i=>by rw [ibit_zero]; simp [cntR]⟩
 refine ok_for (fun r loc τ=>∃ (K1 K2:List Nat) (tw:Int) (w6 w7 w8:V),K1++K2=[1,2,3,4,5,6]/\r=K2.map (fun k:Nat=>V.int k)/\loc=[.ref p,.int c,.int (bitsOf (shOf F R b kq c)),.ref τ1.length,.int tw,.ref τ2.length,w6,w7,w8] /\
   AMst F R b kq c σ τ1.length τ2.length (K1.flatMap (plK b c)) tw τ) ?_ ?_ ⟨[],[1,2,3,4,5,6],0,.undef,.undef,.undef,rfl,rfl,rfl,st0⟩
 ·intro I_ hI_ v r loc τ zq
  refine ea6_4 zq fun K1 K2 tw w6 w7 w8 q1 q2 zq2 => ?_
  clear zq
  subst zq2
  intro st
  cases K2 with
  | nil=>cases q2
  | cons k K2 =>
   rw [List.map_cons] at q2
   injection q2 with q2 q3
   subst q2 q3
   have hk:1<=k/\k<=6:=by
    have:k∈([1,2,3,4,5,6]:List Nat):=by rw [<- q1]; simp
    simp at this
    exact Z.ro16 this
   have K1l:K1.length<=5:=by
    have:=congrArg List.length q1
    simp at this
    lia
   refine ⟨rfl,?_⟩
   simp! [oks,e_and,e_or]
   refine (sp_pieces (m:=m+6) B (h.base st.base) hc hk).int_ fun x hx => ?_
   simp! [oks,e_and,e_or]
   refine (sp_squares (m:=m+6) hx (fun i hi=>by simp [hN32 i hi]; exact Z.ne_lt (Z.ltn (Nat.le_trans hk.1 (Nat.le_add_left _ _))))).at_ ?_
   generalize hL:(List.range 32).filter (fun i=>b i==8*c+k)=L
   refine nm (τ++[O.list false (intsOf L)]) fun υ eυ => ?_
   rw [<- eυ]
   have hυ:υ[τ.length]? = some (.list false (intsOf L)):=eυ ▸ get_push
   have a1lt:=(List.getElem?_eq_some_iff.mp st.by_).1
   have a2lt:=(List.getElem?_eq_some_iff.mp st.re).1
   have bυ:Base τ υ:=eυ ▸ Base.refl.push _
   have stυ:AMst F R b kq c σ τ1.length τ2.length (K1.flatMap (plK b c)) tw υ:=⟨st.base.trans bυ,bυ.get st.by_,bυ.get st.re,st.tw⟩
   simp! [items_at hυ,e_and,e_or]
   refine ok_for (fun r loc ω=>∃ (M1 M2:List Nat) (tw:Int) (w7 w8:V),M1++M2=L/\r=intsOf M2/\loc=[.ref p,.int c,.int (bitsOf (shOf F R b kq c)),.ref τ1.length,.int tw,.ref τ2.length,.int k,w7,w8] /\
    AMst F R b kq c σ τ1.length τ2.length (K1.flatMap (plK b c)++M1.map fun t=>(k,t)) tw ω/\ω[τ.length]? = some (.list false (intsOf L))) ?_ ?_ ⟨[],L,tw,w7,w8,rfl,rfl,rfl,by simpa using stυ,hυ⟩
   ·intro I_ hI_ v r loc ω zq
    refine ea5_5 zq fun M1 M2 tw w7 w8 p1 p2 zq2 => ?_
    clear zq
    subst zq2
    intro stω hω
    induction M2,v,r,p2 using intsOf_c with
    | k t M2 =>
     have ht:t∈L:=by rw [<- p1]; simp
     rw [<- hL,List.mem_filter] at ht
     have htN:t<F*R:=by
      rcases Nat.lt_or_ge t (F*R) with z | z
      ·exact z
      ·have:=B.out t z
       have:=ht.2
       simp at this
       lia
     have M1l:M1.length<=32:=by
      have h1:L.length<=32:=by rw [<- hL]; exact Nat.le_trans (List.length_filter_le _ _) (by simp)
      rw [<- p1,List.length_append] at h1
      exact Nat.le_trans (Nat.le_add_right _ _) h1
     refine ⟨still_at hω,_,rfl,?_⟩
     refine am_turn B h hc hk htN L1 L2 L12 stω ?_ ?_
     ·have := @plA_len b c K1
      rw [List.length_append,List.length_map]
      lia
     ·intro tw' w8' ω' st' kp
      first | show I_ _ _ _ | show I_ _ _
      rw [hI_]
      refine ⟨M1++[t],M2,tw',_,w8',by rw [<- p1,List.append_assoc]; rfl,rfl,rfl,?_,kp _ _ (by exact Nat.ne_of_gt a1lt) (by exact Nat.ne_of_gt a2lt) hω⟩
      rw [List.map_append,<- List.append_assoc]
      exact st'
   ·intro loc ω zq
    refine ea5_5 zq fun M1 M2 tw w7 w8 p1 p2 zq2 => ?_
    clear zq
    subst zq2
    intro stω hω
    have:M2=[]:=List.map_eq_nil_iff.mp p2.symm
    subst this
    rw [List.append_nil] at p1
    subst p1
    refine ⟨still_at hω,?_⟩
    simp! [oks,e_and,e_or]
    refine ⟨K1++[k],K2,tw,_,w7,w8,by rw [<- q1,List.append_assoc]; rfl,rfl,rfl,?_⟩
    rw [List.flatMap_append,List.flatMap_cons,List.flatMap_nil,List.append_nil]
    unfold plK
    rw [hL]
    exact stω
 ·intro loc τ zq
  refine ea6_4 zq fun K1 K2 tw w6 w7 w8 q1 q2 zq2 => ?_
  clear zq
  subst zq2
  intro st
  have:K2=[]:=by cases K2 with | nil=>rfl | cons=>cases q2
  subst this
  rw [List.append_nil] at q1
  subst q1
  refine ⟨rfl,?_⟩
  simp! [oks,e_and,e_or]
  refine (sp_king (m:=m+4) B (h.base st.base) hc).at_ ?_
  simp! [oks,e_and,e_or]
  refine (sp_newAM rfl rfl rfl rfl rfl).at_ ?_
  have hat:∀ f w,List.lookup f [(7,V.int (kq c)),(22,.ref τ1.length),(23,.int tw),(20,.ref τ2.length),(21,.int (bitsOf (shOf F R b kq c)))]=some w ->
    attrOf (τ++[.inst 3 [(7,V.int (kq c)),(22,.ref τ1.length),(23,.int tw),(20,.ref τ2.length),(21,.int (bitsOf (shOf F R b kq c)))]]) (.ref τ.length) f=some w:=by
   intro f w hf
   unfold attrOf
   simp only [get_push]
   exact hf
  have bτ:Base τ (τ++[.inst 3 [(7,V.int (kq c)),(22,.ref τ1.length),(23,.int tw),(20,.ref τ2.length),(21,.int (bitsOf (shOf F R b kq c)))]]):=Base.refl.push _
  show _/\_
  refine ⟨rfl,?_⟩
  show P_ _
  rw [hR_]
  refine ⟨st.base.trans bτ,_,rfl,?_⟩
  exact ⟨hat 7 _ rfl,⟨_,hat 22 _ rfl,bτ.get st.by_⟩,⟨_,hat 23 _ rfl,st.tw⟩,⟨_,hat 20 _ rfl,bτ.get st.re⟩,hat 21 _ rfl⟩
theorem sp_attack_maps (B:BoardOk F R b kq) (h:PosAt P A F R b p σ) :
  Ok (callN prog glb (m+9) 40 [.ref p] σ) (fun r=>Base σ r.2/\∃ a m0 m1,r.1 = .ref a/\r.2[a]? = some (.list false [.ref m0,.ref m1])/\AMAt F R b kq 0 m0 r.2/\AMAt F R b kq 1 m1 r.2):=by
 revert P A F R p b kq σ m
 exists P,A,F,R,p,b,kq,σ,m
 intro B h
 refine enter rfl rfl (by decide) fun P_ hR_ => ?_
 simp only [f_attack_maps,b_attack_maps]
 simp! [oks,e_and,e_or]
 refine (sp_attack_map B h (c:=0) (by decide)).mono ?_
 rintro ⟨_,τ⟩
 intro zq
 refine an2 zq fun b0 zq2 => ?_
 clear zq
 refine ea1_2 zq2 fun a0 zq3 => ?_
 clear zq2
 subst zq3
 intro h0
 simp! [oks,e_and,e_or]
 refine (sp_attack_map B (h.base b0) (c:=1) (by decide)).mono ?_
 rintro ⟨_,υ⟩
 intro zq
 refine an2 zq fun b1 zq2 => ?_
 clear zq
 refine ea1_2 zq2 fun a1 zq3 => ?_
 clear zq2
 subst zq3
 intro h1
 simp! [oks,e_and,e_or]
 refine ⟨(by decide:2<=LIM),(b0.trans b1).push _,_,a0,a1,rfl,get_push,(h0.base b1).base (Base.refl.push _),h1.base (Base.refl.push _)⟩
end
section
variable {P:PosR} {A:GeoR} {F R p g:Nat} {b kq:Nat->Nat} {σ:H} {m:Nat}
noncomputable def htOf (F R c i:Nat):Nat:=if c=0 then i / F else R - 1 - i / F
noncomputable def hitL (F R:Nat) (b:Nat->Nat) (c:Nat):List Nat:=((List.range (F*R)).filter fun s=>b s==8*c+1).flatMap fun s=>hopsL F R s (pawnSteps c)
noncomputable def areaB (F R:Nat) (b:Nat->Nat) (S:List Nat) (c i:Nat):Bool :=
 !(b i==8*c+1&&(decide (htOf F R c i<3)||b (if c=0 then i+F else i - F) != 0))&&b i != 8*c+5&&b i != 8*c+6 && !S.contains i && !(hitL F R b (1 - c)).contains i
noncomputable def areaL (F R:Nat) (b:Nat->Nat) (S:List Nat) (c:Nat):List Nat:=(List.range (F*R)).filter (areaB F R b S c)
theorem sp_area (B:BoardOk F R b kq) (h:PosAt P A F R b p σ) {c:Nat} {S:List Nat} (hc:c<2) :
  Ok (callN prog glb (m+3) 41 [.ref p,.int c,.int (bitsOf S)] σ) (fun r=>r=(.int (bitsOf (areaL F R b S c)),σ)):=by
 revert P A F R p b kq σ m c S
 exists P,A,F,R,p,b,kq,σ,m
 intro B h
 exists c,S
 intro hc
 have hN:=FRs_le B.fr
 have hF:=B.fr
 have hG:=h.G
 refine enter rfl rfl (by decide) fun P_ hR_ => ?_
 simp only [f_area_of,b_area_of]
 simp! [h.geo,e_and,e_or]
 refine (sp_rank (m:=m+1) (r:=1) hF hG hc (by exact Z.ltR (by decide) hN.2.2.1)).int_ fun x1 hx1 => ?_
 simp! [oks,e_and,e_or]
 refine (sp_rank (m:=m+1) (r:=2) hF hG hc (by exact Z.ltn hN.2.2.1)).int_ fun x2 hx2 => ?_
 simp! [oks,e_and,e_or]
 refine (sp_pieces (m:=m+1) (k:=1) B h hc (by decide)).int_ fun x3 hx3 => ?_
 simp! [oks,e_and,e_or]
 refine (sp_occ (m:=m+1) B h).int_ fun x4 hx4 => ?_
 simp! [one_sub hc,e_and,e_or]
 refine (sp_shift (m:=m+1) (c:=1 - c) hF hG hx4 (fun i hi=>by simp [B.lt32 hi]) (by exact Z.sb)).int_ fun x5 hx5 => ?_
 simp! [oks,e_and,e_or]
 refine (sp_pieces (m:=m+1) (k:=6) B h hc (by decide)).int_ fun x6 hx6 => ?_
 simp! [oks,e_and,e_or]
 refine (sp_pieces (m:=m+1) (k:=5) B h hc (by decide)).int_ fun x7 hx7 => ?_
 simp! [hG.full,one_sub hc,e_and,e_or]
 refine (sp_pieces (m:=m+1) (c:=1 - c) (k:=1) B h (by exact Z.sb) (by decide)).int_ fun x8 hx8 => ?_
 simp! [one_sub hc,e_and,e_or]
 refine (sp_pawn_attacks (c:=1 - c) hF hG hx8 (fun i hi=>by simp [B.out i hi]) (by exact Z.sb)).int_ fun x9 hx9 => ?_
 simp! [oks,e_and,e_or]
 refine congrArg (fun x=>(V.int x,σ)) (ibit_inj fun i => ?_)
 have h9:ibit x9 i=(hitL F R b (1 - c)).contains i:=by
  rw [Bool.eq_iff_iff,hx9]
  unfold hitL
  simp only [List.contains_iff_mem,List.mem_flatMap,List.mem_filter,List.mem_range]
  exact ⟨fun ⟨s,h1,h2,h3⟩=>⟨s,⟨h1,h2⟩,h3⟩,fun ⟨s,⟨h1,h2⟩,h3⟩=>⟨s,h1,h2,h3⟩⟩
 unfold areaL
 rw [ibit_filter,ibit_and,ibit_and,ibit_not,ibit_or,ibit_and,ibit_or,ibit_or,ibit_or,ibit_or,ibit_not,ibit_bitsOf,ibit_bitsOf,hx1,hx2,hx3,hx5,hx6,hx7,h9]
 by_cases hi:i<F*R
 ·unfold areaB
  have hmem:decide (i∈S)=S.contains i:=by rw [Bool.eq_iff_iff]; simp
  rw [hmem]
  simp only [List.mem_range,hi,decide_true,Bool.true_and]
  have key:(b i==8*c+1&&(((if c=0 then i / F==1 else i / F==R - 1 - 1)||(if c=0 then i / F==2 else i / F==R - 1 - 2))||upP F (F*R) (1 - c) (fun i=>b i != 0) i)) =
    (b i==8*c+1&&(decide (htOf F R c i<3)||b (if c=0 then i+F else i - F) != 0)):=by
   cases q:b i==8*c+1 with
   | false=>rfl
   | true =>
    have q:b i=8*c+1:=by simpa using q
    obtain ⟨p1,p2⟩:=B.pawn i (by exact Z.em (by decide) q)
    simp only [Bool.true_and]
    have:c=0\/c=1:=Z.or2 hc
    rcases this with rfl | rfl
    ·unfold htOf upP
     simp only [if_true,Nat.sub_zero,show ¬ (1=0) by decide,if_false]
     congr 1
     rw [Bool.eq_iff_iff]
     simp only [Bool.or_eq_true,beq_iff_eq,decide_eq_true_eq]
     exact dn3 _ (by exact Z.ltn (Nat.le_of_lt (Z.ltR p2 (Nat.le_trans hN.2.2.2.1 (by decide))))) p1
    ·unfold htOf upP
     have hFi:F<=i:=by
      have:=Nat.div_mul_le_self i F
      have:F*1<=F*(i / F):=Nat.mul_le_mul_left F p1
      rw [Nat.mul_comm F (i / F)] at this
      lia
     simp only [show ¬ (1=0) by decide,if_false,Nat.sub_self,if_true,hi,hFi,decide_true,Bool.true_and]
     congr 1
     rw [Bool.eq_iff_iff]
     simp only [Bool.or_eq_true,beq_iff_eq,decide_eq_true_eq]
     exact dn2 R (Nat.lt_succ_of_le hN.2.2.2.1) _ (by exact Z.ltn (Nat.le_of_lt p2)) ⟨p1,p2⟩
  rw [key]
  generalize (b i==8*c+1&&(decide (htOf F R c i<3)||b (if c=0 then i+F else i - F) != 0))=X
  have e5:(b i != 8*c+5) = !(b i==8*c+5):=rfl
  have e6:(b i != 8*c+6) = !(b i==8*c+6):=rfl
  rw [e5,e6]
  generalize (b i==8*c+5)=Y
  generalize (b i==8*c+6)=Z
  generalize S.contains i=W
  generalize (hitL F R b (1 - c)).contains i=U
  revert X Y Z W U
  decide
 ·simp [hi]
theorem sp_marea (B:BoardOk F R b kq) (h:PosAt P A F R b p σ) {c:Nat} (hc:c<2) :
  Ok (callN prog glb (m+6) 42 [.ref p,.int c] σ) (fun r=>Base σ r.2/\r.1 = .int (bitsOf (areaL F R b (shOf F R b kq c) c))):=by
 refine enter rfl rfl (by decide) fun P_ hR_ => ?_
 simp only [f_mobility_area,b_mobility_area]
 simp! [oks,e_and,e_or]
 refine (sp_blockers' B h hc).mono ?_
 rintro ⟨_,τ⟩
 intro zq
 refine an2 zq fun hB zq2 => ?_
 clear zq
 refine ex1 zq2 fun y zq3 => ?_
 clear zq2
 subst zq3
 dsimp only at hB
 have t0:getI τ (.tup [.int (bitsOf (shOf F R b kq c)),.int y]) (.int 0)=some (.int (bitsOf (shOf F R b kq c))):=rfl
 simp! [t0,e_and,e_or]
 refine (sp_area (m:=m+2) B (h.base hB) hc).at_ ?_
 show P_ _
 rw [hR_]
 exact ⟨hB,rfl⟩
end
theorem bt_2 {i j:Nat} {a b:Mob.A} {σ:H} {loc:List V}:bindT [i,j] (.tup [a,b]) σ loc=some ((loc.set i a.toV).set j b.toV):=rfl
theorem bt_5 {i1 i2 i3 i4 i5:Nat} {a b c d e:Mob.A} {σ:H} {loc:List V}:bindT [i1,i2,i3,i4,i5] (.tup [a,b,c,d,e]) σ loc=some (((((loc.set i1 a.toV).set i2 b.toV).set i3 c.toV).set i4 d.toV).set i5 e.toV):=rfl
theorem tv_int {i:Int}:(Mob.A.int i).toV = .int i:=rfl
theorem tv_ref {i:Nat}:(Mob.A.ref i).toV = .ref i:=rfl
theorem walkL_sublist {p:Nat->Bool}:∀ L:List Nat,(walkL p L).Sublist L
 | [] => .slnil
 | t::r=>by
  unfold walkL
  split
  ·exact (List.nil_sublist r).cons_cons t
  ·exact (walkL_sublist r).cons_cons t
theorem flatMap_sublist {f g:Nat->List Nat} (h:∀ d,(f d).Sublist (g d)):∀ ds:List Nat,(ds.flatMap f).Sublist (ds.flatMap g)
 | [] => .slnil
 | d::ds=>by
  rw [List.flatMap_cons,List.flatMap_cons]
  exact (h d).append (flatMap_sublist h ds)
theorem flatMap_sub {f:Nat->List Nat} {ds es:List Nat} (h:ds.Sublist es):(ds.flatMap f).Sublist (es.flatMap f):=by
 induction h with
 | slnil=>exact .slnil
 | cons a _ ih=>rw [List.flatMap_cons]; exact ih.trans (List.sublist_append_right ..)
 | cons_cons a _ ih=>rw [List.flatMap_cons,List.flatMap_cons]; exact (List.Sublist.refl _).append ih
section
variable {P:PosR} {A:GeoR} {F R p g:Nat} {b kq:Nat->Nat} {σ:H} {m:Nat}
theorem slide_nd (hF:(F,R)∈FRs) {p:Nat->Bool} {ds:List Nat} {s:Nat} (hs:s<F*R) (hd:ds.Sublist allDirs):(slideL F R p ds s).Nodup:=by
 have h:=(slide_nodup hF hs).1
 rw [List.nodup_cons] at h
 exact h.2.sublist ((flatMap_sublist (fun d=>walkL_sublist (rayL F R d s)) ds).trans (flatMap_sub hd))
theorem sees_nd (hF:(F,R)∈FRs) {p:Nat->Bool} {c k s:Nat} (hs:s<F*R) (hc:c<2):(seesL F R p c k s).Nodup:=by
 unfold seesL
 split
 ·exact (hops_ok hF hs (pawnSteps_mem hc)).1
 ·split
  ·exact (hops_ok hF hs (by simp)).1
  ·split
   ·exact (hops_ok hF hs (by simp)).1
   ·refine slide_nd hF hs ?_
    unfold dirsOf allDirs
    split
    ·decide
    ·split <;> decide
theorem rc_nd (hF:(F,R)∈FRs) {c k s:Nat} (hs:s<F*R) (hc:c<2):(rc F R b kq c k s).Nodup:=by
 unfold rc reachL
 split
 ·exact sees_nd hF hs hc
 ·exact (sees_nd hF hs hc).filter _
theorem rc_lt (hF:(F,R)∈FRs) {c k s t:Nat} (hs:s<F*R) (hc:c<2) (h:t∈rc F R b kq c k s):t<F*R:=by
 unfold rc reachL at h
 split at h
 ·exact sees_lt hF hs hc h
 ·exact sees_lt hF hs hc (List.mem_filter.mp h).1
noncomputable def reE (D:List (Nat × Nat)):List (Nat × Nat):=D.filter fun q=>q.1 != 1&&q.1 != 6
theorem reL_eq {c:Nat} {D:List (Nat × Nat)}:reL F R b kq c D=(reE D).map fun q=>V.tup [.int q.1,.int (bitsOf (rc F R b kq c q.1 q.2))]:=rfl
theorem plA_mem {c:Nat} {q:Nat × Nat} (B:BoardOk F R b kq) (h:q∈plA b c):1<=q.1/\q.1<=6/\q.2<F*R/\b q.2=8*c+q.1:=by
 unfold plA plK at h
 rw [List.mem_flatMap] at h
 refine ea1_2 h fun k hk h => ?_
 rw [List.mem_map] at h
 refine ea1_2 h fun t ht zq => ?_
 try clear h
 subst zq
 rw [List.mem_filter] at ht
 simp at hk ht
 refine ⟨(Z.ro16 hk).1,(Z.ro16 hk).2,?_,ht.2⟩
 rcases Nat.lt_or_ge t (F*R) with z | z
 ·exact z
 ·exact absurd (ht.2.symm.trans (B.out t z)) (Nat.ne_of_gt (Nat.lt_of_lt_of_le (Nat.pos_of_ne_zero (Nat.ne_of_gt (Z.ro16 hk).1)) (Nat.le_add_left _ _)))
theorem reE_mem {c:Nat} {q:Nat × Nat} (B:BoardOk F R b kq) (h:q∈reE (plA b c)):2<=q.1/\q.1<=5/\q.2<F*R/\b q.2=8*c+q.1:=by
 unfold reE at h
 rw [List.mem_filter] at h
 obtain ⟨h1,h2⟩:=h
 have:=plA_mem B h1
 simp at h2
 exact ⟨(Z.l25 this.1 this.2.1 h2).1,(Z.l25 this.1 this.2.1 h2).2,this.2.2⟩
noncomputable def cA (F R:Nat) (b kq:Nat->Nat) (c:Nat) (ar:List Nat) (k t:Nat):Nat:=((rc F R b kq c k t).filter fun u=>ar.contains u).length
theorem cA_le (hF:(F,R)∈FRs) {c k t:Nat} {ar:List Nat} (ht:t<F*R) (hc:c<2):cA F R b kq c ar k t<=30:=by
 unfold cA
 have h2:(rc F R b kq c k t).length<=30:=by
  have hN:=FRs_le hF
  have:=countP_mem (n:=F*R) (rc_nd (b:=b) (kq:=kq) (k:=k) hF ht hc) (fun u hu=>rc_lt hF ht hc hu)
  rw [<- this]
  exact Nat.le_trans List.countP_le_length (by rw [List.length_range]; exact hN.2.2.2.2)
 exact Nat.le_trans (List.length_filter_le _ _) h2
theorem sp_cA (hF:(F,R)∈FRs) {c k t:Nat} {ar:List Nat} (ht:t<F*R) (hc:c<2) :
  Ok (callN prog glb (m+1) 2 [.int (bitAnd (bitsOf (rc F R b kq c k t)) (bitsOf ar))] σ) (fun r=>r=(.int (cA F R b kq c ar k t:Nat),σ)):=by
 rw [bits_mem_and]
 have nd:=(rc_nd (b:=b) (kq:=kq) (k:=k) hF ht hc).filter (fun u=>ar.contains u)
 have lt:∀ u∈(rc F R b kq c k t).filter (fun u=>ar.contains u),u<32:=fun u hu=>by
  have:=rc_lt hF ht hc (List.mem_filter.mp hu).1
  have:=FRs_le hF
  lia
 have hp:=pc_mem nd lt
 unfold cA
 rw [<- hp]
 exact sp_count (fun i=>ibit_bitsOf _ i) fun i hi=>by
  rw [decide_eq_false]
  intro z
  have:=lt i z
  lia
noncomputable def smK (f:Nat->Nat->Nat) (E:List (Nat × Nat)) (j:Nat):Nat:=((E.filter fun q=>q.1==j).map fun q=>f q.1 q.2).sum
noncomputable def smL (f:Nat->Nat->Nat) (E:List (Nat × Nat)):List V:=(List.range 7).map fun j=>V.int (smK f E j:Nat)
theorem smL_get {f:Nat->Nat->Nat} {E:List (Nat × Nat)} {j:Nat} (hj:j<7):(smL f E)[j]? = some (.int (smK f E j:Nat)):=by
 unfold smL
 rw [List.getElem?_map,List.getElem?_range hj]; rfl
theorem smL_len {f:Nat->Nat->Nat} {E:List (Nat × Nat)}:(smL f E).length=7:=by unfold smL; simp
theorem smK_snoc {f:Nat->Nat->Nat} {E:List (Nat × Nat)} {k t j:Nat}:smK f (E++[(k,t)]) j=smK f E j+if k=j then f k t else 0:=by
 unfold smK
 rw [List.filter_append,List.map_append,List.sum_append]
 by_cases h:k=j
 ·subst h; simp
 ·have:(k==j)=false:=by simpa using h
  simp [this,h]
theorem smL_snoc {f:Nat->Nat->Nat} {E:List (Nat × Nat)} {k t:Nat} (hk:k<7):smL f (E++[(k,t)])=(smL f E).set k (.int ((smK f E k:Nat)+(f k t:Nat):Int)):=by
 revert f E k t
 exists f,E,k,t
 intro hk
 refine List.ext_getElem? fun j => ?_
 by_cases hj:j<7
 ·rw [smL_get hj,smK_snoc,List.getElem?_set]
  by_cases h1:k=j
  ·subst h1
   simp [smL_len,hk]
  ·simp [h1,smL_get hj]
 ·rw [List.getElem?_eq_none (by rw [smL_len]; exact Z.nle hj),List.getElem?_eq_none (by rw [List.length_set,smL_len]; exact Z.nle hj)]
theorem sp_mobility (B:BoardOk F R b kq) (h:PosAt P A F R b p σ) {c:Nat} (hc:c<2) :
  Ok (callN prog glb (m+9) 43 [.ref p,.int c] σ) (fun r=>Base σ r.2/\∃ a,r.1 = .ref a/\r.2[a]? = some (.list false (smL (cA F R b kq c (areaL F R b (shOf F R b kq c) c)) (reE (plA b c))))):=by
 revert P A F R p b kq σ m c
 exists P,A,F,R,p,b,kq,σ,m
 intro B h
 exists c
 intro hc
 refine enter rfl rfl (by decide) fun P_ hR_ => ?_
 simp only [f_mobility,b_mobility]
 simp! [oks,e_and,e_or]
 refine (sp_marea (m:=m+2) B h hc).mono ?_
 rintro ⟨v,τ0⟩
 intro zq
 refine an2 zq fun hB0 e => ?_
 clear zq
 dsimp only at hB0 e
 subst e
 generalize areaL F R b (shOf F R b kq c) c=ar at hR_ ⊢
 refine nm (τ0++[O.list false [V.int 0]]) fun τ1 e1 => ?_
 have m1:binV .mul (.ref τ0.length) (.int 7) τ1=some (.ref τ1.length,τ1++[O.list false (List.replicate 7 (V.int 0))]):=mul_at (σ:=τ1) (a:=τ0.length) (x := .int 0) (n:=7) (by rw [e1]; exact get_push) (by decide)
 refine nm (τ1++[O.list false (List.replicate 7 (V.int 0))]) fun τ2 e2 => ?_
 rw [<- e2] at m1
 have hB1:Base σ τ1:=e1 ▸ hB0.push _
 have hB2:Base σ τ2:=e2 ▸ hB1.push _
 have c2:τ2[τ1.length]? = some (.list false (smL (cA F R b kq c ar) [])):=by rw [e2,get_push]; rfl
 simp! [<- e1,m1,e_and,e_or]
 refine ⟨(by decide:1<=LIM),?_⟩
 refine (sp_attack_map B (h.base hB2) hc).mono ?_
 rintro ⟨_,τ3⟩
 intro zq
 refine an2 zq fun hB3 zq2 => ?_
 clear zq
 refine ea1_2 zq2 fun a zq3 => ?_
 clear zq2
 subst zq3
 intro am
 dsimp only at hB3 am
 obtain ⟨rx,q1,q2⟩:=am.reaches
 simp! [q1,items_at q2,e_and,e_or]
 have L1:σ.length<=τ1.length:=hB1.len
 have rlt:τ1.length≠rx:=by
  intro z
  have:=hB3.get c2
  rw [z,q2,reL_eq] at this
  simp only [Option.some.injEq,O.list.injEq,true_and] at this
  have:=congrArg List.head? this
  cases hE:reE (plA b c) with
  | nil =>
   have:=hB3.get c2
   rw [z,q2,reL_eq,hE] at this
   simp only [Option.some.injEq,O.list.injEq,true_and] at this
   have:=congrArg List.length this
   rw [smL_len] at this
   cases this
  | cons u E=>rw [hE] at this; simp [smL,List.range_succ_eq_map] at this
 refine ok_for (fun r loc τ=>∃ (E1 E2:List (Nat × Nat)) (w4 w5:V),E1++E2=reE (plA b c)/\r=E2.map (fun q=>V.tup [.int q.1,.int (bitsOf (rc F R b kq c q.1 q.2))])/\loc=[.ref p,.int c,.int (bitsOf ar),.ref τ1.length,w4,w5] /\
   Base σ τ/\τ[τ1.length]? = some (.list false (smL (cA F R b kq c ar) E1))/\τ[rx]? = some (.list false (reL F R b kq c (plA b c)))) ?_ ?_ ⟨[],reE (plA b c),.undef,.undef,rfl,rfl,rfl,hB2.trans hB3,hB3.get c2,q2⟩
 ·rintro I_ hI_ v r loc τ ⟨E1,E2,w4,w5,p1,p2,rfl,bτ,cτ,rτ⟩
  induction E2,v,r,p2 using map2_c with
  | k k t E2 =>
   obtain ⟨k1,k2,k3,k4⟩:=reE_mem (c:=c) B (q:=(k,t)) (by rw [<- p1]; simp)
   dsimp only at k1 k2 k3 k4
   refine ⟨still_at rτ,?_⟩
   have gk:getI τ (.ref τ1.length) (.int k)=some (.int (smK (cA F R b kq c ar) E1 k:Nat)):=getI_at cτ (smL_get (by exact Nat.lt_of_le_of_lt k2 (by decide)))
   have sk:setI τ (.ref τ1.length) (.int k) (.int ((smK (cA F R b kq c ar) E1 k:Nat)+(cA F R b kq c ar k t:Nat):Int))=some (τ.set τ1.length (.list false (smL (cA F R b kq c ar) (E1++[(k,t)])))):=by
    rw [smL_snoc (by exact Nat.lt_of_le_of_lt k2 (by decide))]
    exact setI_at cτ (by rw [smL_len]; exact Nat.lt_of_le_of_lt k2 (by decide))
   simp! [bt_2,tv_int,gk,e_and,e_or]
   refine (sp_cA (m:=m+7) B.fr k3 hc).at_ ?_
   simp! [sk,e_and,e_or]
   exact ⟨E1++[(k,t)],E2,_,_,by rw [<- p1,List.append_assoc]; rfl,rfl,rfl,bτ.set L1 _,set_eq cτ,by rw [set_ne rlt]; exact rτ⟩
 ·rintro loc τ ⟨E1,E2,w4,w5,p1,p2,rfl,bτ,cτ,rτ⟩
  have:E2=[]:=List.map_eq_nil_iff.mp p2.symm
  subst this
  rw [List.append_nil] at p1
  subst p1
  refine ⟨still_at rτ,?_⟩
  simp! [oks,e_and,e_or]
  exact ⟨bτ,_,rfl,cτ⟩
end
theorem gl_11:glb 11 = .ref 1:=rfl
theorem gl_12:glb 12 = .ref 2:=rfl
theorem gl_13:glb 13 = .ref 3:=rfl
theorem gl_14:glb 14 = .ref 4:=rfl
theorem gl_15:glb 15 = .ref 11:=rfl
theorem gl_16:glb 16 = .ref 12:=rfl
noncomputable def enT (k:Nat):Int × Int × Int × Int × Int:=if k=2 then (-62,33,-79,27,8) else if k=3 then (-47,97,-59,88,13) else if k=4 then (-60,62,-82,170,14) else (-29,112,-49,204,27)
noncomputable def sideV (l h ms n:Int):Int:=l+((h - l)*(n*(2*ms - n))).fdiv (ms*ms)
noncomputable def mbV (k n:Nat):Int:=sideV (enT k).2.2.1 (enT k).2.2.2.1 (enT k).2.2.2.2 n*2^16+sideV (enT k).1 (enT k).2.1 (enT k).2.2.2.2 n
theorem side_ok:∀ n:Fin 31,∀ k:Fin 4,(sideV (enT (k.val+2)).2.2.1 (enT (k.val+2)).2.2.2.1 (enT (k.val+2)).2.2.2.2 n.val).natAbs<2^64:=by decide +kernel
section
variable {P:PosR} {A:GeoR} {F R p g:Nat} {b kq:Nat->Nat} {σ:H} {m:Nat} {script:List Int}
theorem sp_score {mg eg:Int} (h:eg.natAbs<2^64):Ok (callN prog glb (m+1) 35 [.int mg,.int eg] σ) (fun r=>r=(.int (eg*2^16+mg),σ)):=by
 refine enter rfl rfl (by decide) fun P_ hR_ => ?_
 simp only [f_make_score,b_make_score]
 simp! [oks,e_and,e_or]
 exact h
theorem sp_bonus (hT:Base (heap0 script) σ) {k n:Nat} (hk:2<=k/\k<=5) (hn:n<=30):Ok (callN prog glb (m+2) 44 [.int k,.int n] σ) (fun r=>r=(.int (mbV k n),σ)):=by
 revert σ m script k n
 exists σ,m,script
 intro hT
 exists k,n
 intro hk hn
 have ok:=side_ok ⟨n,by exact Nat.lt_of_le_of_lt hn (by decide)⟩ ⟨k - 2,by exact Z.sk hk⟩
 rw [show k - 2+2=k by exact Nat.sub_add_cancel hk.1] at ok
 dsimp only at ok
 refine enter rfl rfl (by decide) fun P_ hR_ => ?_
 simp only [f_mobility_bonus,b_mobility_bonus]
 have:k=2\/k=3\/k=4\/k=5:=by exact Z.or25 hk.1 hk.2
 rcases this with rfl | rfl | rfl | rfl
 ·have g2:getI σ (.ref 1) (.int ((2:Nat):Int))=some (.tup [.int (-62),.int 33,.int (-79),.int 27,.int 8]):=getI_base hT rfl
  simp! [gl_11,g2,bt_5,tv_int,e_and,e_or]
  refine ⟨by decide,by exact Z.na hn (by decide),by decide,by decide,by decide,by decide,by decide,by decide,(sp_score ok).mono ?_⟩
  rintro _ rfl
  show P_ _
  rw [hR_]
  rfl
 ·have g2:getI σ (.ref 1) (.int ((3:Nat):Int))=some (.tup [.int (-47),.int 97,.int (-59),.int 88,.int 13]):=getI_base hT rfl
  simp! [gl_11,g2,bt_5,tv_int,e_and,e_or]
  refine ⟨by decide,by exact Z.na hn (by decide),by decide,by decide,by decide,by decide,by decide,by decide,(sp_score ok).mono ?_⟩
  rintro _ rfl
  show P_ _
  rw [hR_]
  rfl
 ·have g2:getI σ (.ref 1) (.int ((4:Nat):Int))=some (.tup [.int (-60),.int 62,.int (-82),.int 170,.int 14]):=getI_base hT rfl
  simp! [gl_11,g2,bt_5,tv_int,e_and,e_or]
  refine ⟨by decide,by exact Z.na hn (by decide),by decide,by decide,by decide,by decide,by decide,by decide,(sp_score ok).mono ?_⟩
  rintro _ rfl
  show P_ _
  rw [hR_]
  rfl
 ·have g2:getI σ (.ref 1) (.int ((5:Nat):Int))=some (.tup [.int (-29),.int 112,.int (-49),.int 204,.int 27]):=getI_base hT rfl
  simp! [gl_11,g2,bt_5,tv_int,e_and,e_or]
  refine ⟨by decide,by lia,by decide,by decide,by decide,by decide,by decide,by decide,(sp_score ok).mono ?_⟩
  rintro _ rfl
  show P_ _
  rw [hR_]
  rfl
structure MapsAt (F R:Nat) (b kq:Nat->Nat) (mp:Nat) (ma:Nat->Nat) (τ:H):Prop where
 g:∀ (c:Nat),c<2->getI τ (.ref mp) (.int c)=some (.ref (ma c))
 am:∀ (c:Nat),c<2->AMAt F R b kq c (ma c) τ
theorem MapsAt.base {mp:Nat} {ma:Nat->Nat} {σ τ:H} (B:Base σ τ) (h:MapsAt F R b kq mp ma σ):MapsAt F R b kq mp ma τ :=
 ⟨fun c hc=>getI_base B (h.g c hc),fun c hc=>(h.am c hc).base B⟩
noncomputable def scV (F R:Nat) (b kq:Nat->Nat) (c:Nat) (ar:List Nat) (E:List (Nat × Nat)):Int:=(E.map fun q=>mbV q.1 (cA F R b kq c ar q.1 q.2)).sum
theorem sp_mscore (hT:Base (heap0 script) σ) (B:BoardOk F R b kq) (h:PosAt P A F R b p σ) {mp:Nat} {ma:Nat->Nat} (M:MapsAt F R b kq mp ma σ) {c:Nat} (hc:c<2) :
  Ok (callN prog glb (m+4) 45 [.ref p,.int c,.ref mp] σ) (fun r=>r=(.int (scV F R b kq c (areaL F R b (shOf F R b kq c) c) (reE (plA b c))),σ)):=by
 revert P A F R p b kq σ m script mp ma c
 exists P,A,F,R,p,b,kq,σ,m,script
 intro hT B h
 exists mp,ma
 intro M
 exists c
 intro hc
 have am:=M.am c hc
 obtain ⟨rx,q1,q2⟩:=am.reaches
 refine enter rfl rfl (by decide) fun P_ hR_ => ?_
 simp only [f_mobility_score,b_mobility_score]
 simp! [M.g c hc,am.shields,e_and,e_or]
 refine (sp_area B h hc).at_ ?_
 generalize areaL F R b (shOf F R b kq c) c=ar at hR_ ⊢
 simp! [M.g c hc,q1,items_at q2,e_and,e_or]
 refine ok_for (fun r loc τ=>τ=σ/\∃ (E1 E2:List (Nat × Nat)) (w4 w5:V),E1++E2=reE (plA b c)/\r=E2.map (fun q=>V.tup [.int q.1,.int (bitsOf (rc F R b kq c q.1 q.2))])/\loc=[.ref p,.int c,.ref mp,.int (bitsOf ar),.int (scV F R b kq c ar E1),w4,w5]) ?_ ?_ ⟨rfl,[],reE (plA b c),.undef,.undef,rfl,rfl,rfl⟩
 ·rintro I_ hI_ v r loc _ ⟨rfl,E1,E2,w4,w5,p1,p2,rfl⟩
  induction E2,v,r,p2 using map2_c with
  | k k t E2 =>
   obtain ⟨k1,k2,k3,k4⟩:=reE_mem (c:=c) B (q:=(k,t)) (by rw [<- p1]; simp)
   dsimp only at k1 k2 k3 k4
   refine ⟨still_at q2,?_⟩
   simp! [bt_2,tv_int,e_and,e_or]
   refine (sp_cA (m:=m+2) B.fr k3 hc).at_ ?_
   simp! [oks,e_and,e_or]
   refine (sp_bonus (m:=m+1) hT ⟨k1,k2⟩ (cA_le B.fr k3 hc)).at_ ?_
   simp! [oks,e_and,e_or]
   have:scV F R b kq c ar (E1++[(k,t)])=scV F R b kq c ar E1+mbV k (cA F R b kq c ar k t):=by
    unfold scV
    rw [List.map_append,List.sum_append]
    simp
   exact ⟨E1++[(k,t)],E2,.int k,.int (bitsOf (rc F R b kq c k t)),by rw [<- p1,List.append_assoc]; rfl,rfl,by rw [this]⟩
 ·rintro loc _ ⟨rfl,E1,E2,w4,w5,p1,p2,rfl⟩
  have:E2=[]:=List.map_eq_nil_iff.mp p2.symm
  subst this
  rw [List.append_nil] at p1
  subst p1
  refine ⟨still_at q2,?_⟩
  simp! [oks,e_and,e_or]
end
noncomputable def oe (n cnt:Int):Int:=if cnt<3 then n else min (max n 1) (cnt - 2)
noncomputable def cenI (F R t:Nat):Int:=oe ((t / F:Nat)) R*F+oe ((t%F:Nat)) F
noncomputable def ringL (F R t:Nat):List Nat :=
 let f:Int:=if 2<F then min (max ((t%F:Nat):Int) 1) ((F:Int) - 2) else (t%F:Nat)
 let r:Int:=min (max ((t / F:Nat):Int) 1) ((R:Int) - 2)
 ([r - 1,r,r+1]:List Int).flatMap fun b=>(([f - 1,f,f+1]:List Int).filter fun a:Int=>decide (0<=a)&&decide (a<(F:Int))).map fun a:Int=>(b*(F:Int)+a).toNat
noncomputable def chkRing (F R:Nat):Bool:=(List.range (F*R)).all fun t=>decide (0<=cenI F R t)&&decide (cenI F R t<(F*R:Nat))&&(bitOr (bitsOf (hopsL F R (cenI F R t).toNat ways)) (2^(cenI F R t).toNat)==bitsOf (ringL F R t))&&noDup (ringL F R t)&&(ringL F R t).all fun u=>decide (u<F*R)
theorem chkRing_all:(FRs.all fun p=>chkRing p.1 p.2)=true:=by decide +kernel
section
variable {P:PosR} {A:GeoR} {F R p g:Nat} {b kq:Nat->Nat} {σ:H} {m:Nat} {script:List Int}
theorem ring_ok (hF:(F,R)∈FRs) {t:Nat} (ht:t<F*R):0<=cenI F R t/\cenI F R t<(F*R:Nat)/\bitOr (bitsOf (hopsL F R (cenI F R t).toNat ways)) (2^(cenI F R t).toNat)=bitsOf (ringL F R t)/\(ringL F R t).Nodup/\∀ u∈ringL F R t,u<F*R:=by
 have h:=List.all_eq_true.mp chkRing_all (F,R) hF
 have h:=List.all_eq_true.mp h t (List.mem_range.mpr ht)
 simp only [Bool.and_eq_true,decide_eq_true_eq,beq_iff_eq,List.all_eq_true] at h
 exact ⟨h.1.1.1.1,h.1.1.1.2,h.1.1.2,noDup_is h.1.2,h.2⟩
theorem sp_oe {n cnt:Int}:Ok (callN prog glb (m+1) 46 [.int n,.int cnt] σ) (fun r=>r=(.int (oe n cnt),σ)):=by
 refine enter rfl rfl (by decide) fun P_ hR_ => ?_
 simp only [f_off_edge,b_off_edge]
 simp! [oks,e_and,e_or]
 unfold oe
 refine ⟨fun h => ?_,fun h => ?_⟩
 ·rw [if_pos (by simpa using h)]
 ·rw [if_neg (by simpa using h)]
theorem oe_abs {n cnt:Nat} (hn:n<100) (hc:cnt<100):(oe n cnt).natAbs<2^64:=by
 unfold oe
 split
 ·exact Nat.lt_trans hn (by decide)
 ·exact Nat.lt_trans (mm_abs (by lia) hc) (by decide)
theorem sp_ring (hF:(F,R)∈FRs) (G:GeoAt A F R g σ) {t:Nat} (ht:t<F*R) :
  Ok (callN prog glb (m+2) 47 [.ref g,.int t] σ) (fun r=>r=(.int (bitsOf (ringL F R t)),σ)):=by
 revert A F R g σ m t
 exists A,F,R,g,σ,m
 intro hF G
 exists t
 intro ht
 have hN:=FRs_le hF
 refine an4 (ring_ok hF ht) fun c1 c2 c3 _ => ?_
 have d1:(t:Int).fdiv F=((t / F:Nat):Int):=by rw [Int.fdiv_eq_ediv_of_nonneg _ (by exact Z.c0)]; rfl
 have d2:(t:Int).fmod F=((t%F:Nat):Int):=by rw [Int.fmod_eq_emod_of_nonneg _ (by exact Z.c0)]; rfl
 have hdiv:t / F<100:=Nat.lt_of_le_of_lt (Nat.div_le_self t F) (by exact Z.ltR ht (Nat.le_trans hN.2.2.2.2 (by decide)))
 refine enter rfl rfl (by decide) fun P_ hR_ => ?_
 simp only [f_king_ring,b_king_ring]
 simp! [G.files,G.ranks,G.king,d1,d2,e_and,e_or]
 refine ⟨⟨by lia,by exact Z.na hN.2.1 (by decide)⟩,sp_oe.mono ?_⟩
 rintro _ rfl
 simp! [G.files,G.ranks,G.king,d1,d2,e_and,e_or]
 refine ⟨oe_abs hdiv (by exact Nat.lt_of_le_of_lt hN.2.2.2.1 (by decide)),⟨by lia,by exact Z.na hN.2.1 (by decide)⟩,sp_oe.mono ?_⟩
 rintro _ rfl
 have e:oe ((t / F:Nat):Int) R*F+oe ((t%F:Nat):Int) F=(((cenI F R t).toNat:Nat):Int):=by
  rw [Int.toNat_of_nonneg c1]; rfl
 simp! [e,G.king,G.kingI (cenI F R t).toNat (by exact Z.tlt0 c1 c2),e_and,e_or]
 refine ⟨by exact Z.tbt c2 hN.2.2.2.2,?_⟩
 rw [Int.one_mul,Int.toNat_natCast,c3]
noncomputable def guardL (F R:Nat) (b:Nat->Nat) (c k:Nat):List Nat:=(ringL F R k).filter fun i=>decide ((hitL F R b c).count i<2)
theorem filter32 (B:BoardOk F R b kq) {v:Nat} (hv:v≠0):(List.range 32).filter (fun i=>b i==v)=(List.range (F*R)).filter (fun i=>b i==v):=by
 refine filter_range_none (fun i h1 h2 => ?_) (by have:=FRs_le B.fr; exact Nat.le_trans this.2.2.2.2 (by decide))
 have:=B.out i h1
 simp
 lia
theorem count_nd {l:List Nat} (h:l.Nodup) (i:Nat):l.count i=if i∈l then 1 else 0:=h.count
theorem sp_guard (B:BoardOk F R b kq) (h:PosAt P A F R b p σ) {c k:Nat} (hc:c<2) (hk:k<F*R) :
  Ok (callN prog glb (m+3) 48 [.ref p,.int c,.int k] σ) (fun r=>Base σ r.2/\r.1 = .int (bitsOf (guardL F R b c k))):=by
 revert P A F R p b kq σ m c k
 exists P,A,F,R,p,b,kq,σ,m
 intro B h
 exists c,k
 intro hc hk
 have hN:=FRs_le B.fr
 refine enter rfl rfl (by decide) fun P_ hR_ => ?_
 simp only [f_guarded_ring,b_guarded_ring]
 simp! [oks,e_and,e_or]
 refine (sp_pieces (m:=m+1) (k:=1) B h hc (by decide)).int_ fun x hx => ?_
 simp! [oks,e_and,e_or]
 refine (sp_squares (m:=m+1) hx (fun i hi=>by simp [B.lt32 hi])).at_ ?_
 rw [filter32 B (by exact Nat.ne_of_gt (Z.ltn (Nat.le_add_left _ _)))]
 generalize hL:(List.range (F*R)).filter (fun i=>b i==8*c+1)=L at hR_ ⊢
 refine nm (σ++[O.list false (intsOf L)]) fun τ eτ => ?_
 have bτ:Base σ τ:=eτ ▸ Base.refl.push _
 have hτ:τ[σ.length]? = some (.list false (intsOf L)):=eτ ▸ get_push
 have hP:=h.base bτ
 simp! [<- eτ,items_at hτ,e_and,e_or]
 refine ok_for (fun r loc υ=>υ=τ/\∃ (L1 L2:List Nat) (o w:Int) (w5:V),L1++L2=L/\r=intsOf L2/\loc=[.ref p,.int c,.int k,.int o,.int w,w5] /\
  (∀ i,ibit o i=decide (1<=(L1.flatMap fun s=>hopsL F R s (pawnSteps c)).count i))/\∀ i,ibit w i=decide (2<=(L1.flatMap fun s=>hopsL F R s (pawnSteps c)).count i)) ?_ ?_ ⟨rfl,[],L,0,0,.undef,rfl,rfl,rfl,fun i=>by simp [ibit_zero],fun i=>by simp [ibit_zero]⟩
 ·intro I_ hI_ v r loc _ zq
  refine an2 zq fun zq2 => ?_
  clear zq
  subst zq2
  intro zq3
  refine ea5_5 zq3 fun L1 L2 o w w5 p1 p2 zq4 => ?_
  clear zq3
  subst zq4
  intro ho hw
  induction L2,v,r,p2 using intsOf_c with
  | k s L2 =>
   have hs:s<F*R:=by
    have:s∈L:=by rw [<- p1]; simp
    rw [<- hL,List.mem_filter,List.mem_range] at this
    exact this.1
   have nd:=(hops_ok B.fr hs (pawnSteps_mem hc)).1
   refine ⟨still_at hτ,?_⟩
   simp! [hP.geo,hP.G.pawn,hP.G.pw c hc,hP.G.pwI c s hc hs,e_and,e_or]
   have key:∀ i,((L1++[s]).flatMap fun s=>hopsL F R s (pawnSteps c)).count i=(L1.flatMap fun s=>hopsL F R s (pawnSteps c)).count i+if i∈hopsL F R s (pawnSteps c) then 1 else 0:=by
    intro i
    rw [List.flatMap_append,List.count_append,List.flatMap_cons,List.flatMap_nil,List.append_nil,count_nd nd]
   refine ⟨L1++[s],L2,_,_,.int s,by rw [<- p1,List.append_assoc]; rfl,rfl,rfl,fun i => ?_,fun i => ?_⟩
   ·rw [ibit_or,ho,ibit_bitsOf,key]
    by_cases q:i∈hopsL F R s (pawnSteps c) <;> simp [q]
   ·rw [ibit_or,hw,ibit_and,ho,ibit_bitsOf,key]
    by_cases q:i∈hopsL F R s (pawnSteps c)
    ·simp only [q,decide_true,Bool.and_true,if_true]
     rw [Bool.eq_iff_iff]
     simp only [Bool.or_eq_true,decide_eq_true_eq]
     exact Z.or21
    ·simp [q]
 ·intro loc _ zq
  refine an2 zq fun zq2 => ?_
  clear zq
  subst zq2
  intro zq3
  refine ea5_5 zq3 fun L1 L2 o w w5 p1 p2 zq4 => ?_
  clear zq3
  subst zq4
  intro ho hw
  have:L2=[]:=List.map_eq_nil_iff.mp p2.symm
  subst this
  rw [List.append_nil] at p1
  subst p1
  refine ⟨still_at hτ,?_⟩
  simp! [hP.geo,e_and,e_or]
  refine (sp_ring (m:=m) B.fr hP.G hk).at_ ?_
  simp! [oks,e_and,e_or]
  refine ⟨bτ,congrArg V.int (ibit_inj fun i => ?_)⟩
  rw [ibit_and,ibit_not,ibit_bitsOf,ibit_bitsOf,hw]
  unfold guardL hitL
  rw [hL]
  simp only [List.mem_filter,decide_eq_true_eq]
  rw [Bool.eq_iff_iff]
  simp only [Bool.and_eq_true,Bool.not_eq_true',decide_eq_true_eq,decide_eq_false_iff_not]
  exact and_congr_right fun _=>by lia
end
theorem and_congr_b {p:Prop} [Decidable p] {x y:Bool} (h:p->x=y):(decide p&&x)=(decide p&&y):=by by_cases z:p <;> simp [z,h]
section
variable {P:PosR} {A:GeoR} {F R p g:Nat} {b kq:Nat->Nat} {σ:H} {m:Nat} {script:List Int}
theorem AMAt.byI {c a:Nat} (h:AMAt F R b kq c a σ):∃ x,attrOf σ (.ref a) 22=some (.ref x)/\∀ (k:Nat),k<7->getI σ (.ref x) (.int k)=some (.int (byV F R b kq c (plA b c) k)):=by
 obtain ⟨x,h1,h2⟩:=h.by_
 exact ⟨x,h1,fun k hk=>getI_at h2 (byL_get hk)⟩
noncomputable def weakB (F R:Nat) (b kq:Nat->Nat) (c i:Nat):Bool :=
 decide (1<=cntR F R b kq (1 - c) (plA b (1 - c)) i) && !decide (2<=cntR F R b kq c (plA b c) i)&&(!decide (1<=cntR F R b kq c (plA b c) i)||ibit (byV F R b kq c (plA b c) 6) i||ibit (byV F R b kq c (plA b c) 5) i)
theorem sp_weak {mp:Nat} {ma:Nat->Nat} (M:MapsAt F R b kq mp ma σ) {c:Nat} (hc:c<2) :
  Ok (callN prog glb (m+1) 50 [.int c,.ref mp] σ) (fun r=>r.2=σ/\∃ y,r.1 = .int y/\Bits y (weakB F R b kq c)):=by
 revert F R b kq σ m mp ma c
 exists F,R,b,kq,σ,m,mp,ma
 intro M
 exists c
 intro hc
 have g1:=M.g c hc
 have g2:=M.g (1 - c) (by exact Z.sb)
 refine ea1_2 ((M.am c hc).byI) fun x a1 a2 => ?_
 refine ea1_2 ((M.am (1 - c) (by exact Z.sb)).byI) fun y a3 a4 => ?_
 refine ea1_2 ((M.am c hc).twice) fun tw a5 a6 => ?_
 have b0:getI σ (.ref x) (.int 0)=_:=a2 0 (by decide)
 have b5:getI σ (.ref x) (.int 5)=_:=a2 5 (by decide)
 have b6:getI σ (.ref x) (.int 6)=_:=a2 6 (by decide)
 have d0:getI σ (.ref y) (.int 0)=_:=a4 0 (by decide)
 refine enter rfl rfl (by decide) fun P_ hR_ => ?_
 simp only [f_weak_squares,b_weak_squares]
 simp! [one_sub hc,g1,g2,a1,a3,a5,b0,b5,b6,d0,e_and,e_or]
 refine ⟨_,rfl,fun i => ?_⟩
 rw [ibit_and,ibit_and,ibit_or,ibit_or,ibit_not,ibit_not,by0_bits,by0_bits,a6]
 rfl
theorem sp_ff (hF:(F,R)∈FRs) (G:GeoAt A F R g σ) {t:Nat} (ht:t<F*R) :
  Ok (callN prog glb (m+1) 51 [.ref g,.int t] σ) (fun r=>r.2=σ/\∃ y,r.1 = .int y/\Bits y (fun i=>decide (i<F*R)&&decide ((((i%F:Nat):Int) - ((t%F:Nat):Int)).natAbs<3))):=by
 revert A F R g σ m t
 exists A,F,R,g,σ,m
 intro hF G
 exists t
 intro ht
 have hN:=FRs_le hF
 have d2:(t:Int).fmod F=((t%F:Nat):Int):=by rw [Int.fmod_eq_emod_of_nonneg _ (by exact Z.c0)]; rfl
 refine enter rfl rfl (by decide) fun P_ hR_ => ?_
 simp only [f_flank_files,b_flank_files]
 simp! [G.files,items_range (n:=F) (by simp [LIM,e_and,e_or]; exact Nat.le_trans hN.2.1 (by decide)) rfl]
 refine ok_for_range (fun j loc τ=>τ=σ/\∃ (o:Int) (w3:V),loc=[.ref g,.int t,.int o,w3]/\∀ i,ibit o i=(decide (i<F*R)&&decide (i%F<j)&&decide ((((i%F:Nat):Int) - ((t%F:Nat):Int)).natAbs<3))) ?_ ?_ ⟨rfl,0,.undef,rfl,fun i=>by simp [ibit_zero]⟩
 ·intro I_ hI_ j loc τ hj zq
  refine an2 zq fun eτ zq2 => ?_
  clear zq
  refine ea2_2 zq2 fun o w3 zq3 => ?_
  clear zq2
  subst zq3
  intro ho
  obtain rfl:σ=τ:=eτ.symm
  refine ⟨rfl,?_⟩
  simp! [G.files,G.fm,G.fmI j hj,d2,e_and,e_or]
  refine ⟨⟨by lia,by exact Z.na hN.2.1 (by decide)⟩,fun q => ?_,fun q => ?_⟩
  ·refine ix2 _ _ ⟨rfl,fun i => ?_⟩
   rw [ibit_or,ho,ibit_filter]
   have q:(((j:Nat):Int) - ((t%F:Nat):Int)).natAbs<3:=by
    have:=of_decide_eq_true q
    exact Z.ucl (Int.lt_of_le_of_lt this (by decide))
   cases z1:decide (i<F*R) with
   | false=>simp
   | true =>
    by_cases z2:i%F=j
    ·subst z2
     simp only [Bool.true_and,beq_self_eq_true,Bool.or_true,decide_eq_true q,Bool.and_true]
     exact (decide_eq_true (Nat.lt_succ_self _)).symm
    ·have:decide (i%F<j)=decide (i%F<j+1):=by rw [Bool.eq_iff_iff]; simp only [decide_eq_true_eq]; exact Z.ln1 z2
     rw [this]
     simp [z2]
  ·refine ix2 _ _ ⟨rfl,fun i => ?_⟩
   rw [ho]
   have q:¬ (((j:Nat):Int) - ((t%F:Nat):Int)).natAbs<3:=by
    have:=of_decide_eq_false q
    lia
   by_cases z2:i%F=j
   ·subst z2
    rw [decide_eq_false q]
    simp
   ·have:decide (i%F<j)=decide (i%F<j+1):=by rw [Bool.eq_iff_iff]; simp only [decide_eq_true_eq]; exact Z.ln1 z2
    rw [this]
 ·intro loc τ zq
  refine an2 zq fun eτ zq2 => ?_
  clear zq
  refine ea2_2 zq2 fun o w3 zq3 => ?_
  clear zq2
  subst zq3
  intro ho
  obtain rfl:σ=τ:=eτ.symm
  refine ⟨rfl,?_⟩
  simp! [oks,e_and,e_or]
  refine ⟨_,rfl,fun i => ?_⟩
  rw [ho,decide_eq_true (Nat.mod_lt i (by exact Z.ltR (by decide) hN.1:F > 0)),Bool.and_true]
noncomputable def flankB (F R:Nat) (c k i:Nat):Bool:=decide (i<F*R)&&decide (htOf F R c i<R*5 / 8)&&decide ((((i%F:Nat):Int) - ((k%F:Nat):Int)).natAbs<3)
theorem sp_flank (hF:(F,R)∈FRs) (G:GeoAt A F R g σ) {c t:Nat} (hc:c<2) (ht:t<F*R) :
  Ok (callN prog glb (m+2) 52 [.ref g,.int c,.int t] σ) (fun r=>r.2=σ/\∃ y,r.1 = .int y/\Bits y (flankB F R c t)):=by
 revert A F R g σ m c t
 exists A,F,R,g,σ,m
 intro hF G
 exists c,t
 intro hc ht
 have hN:=FRs_le hF
 have e:((R:Int)*5).fdiv 8=((R*5 / 8:Nat):Int):=by rw [Int.fdiv_eq_ediv_of_nonneg _ (by decide)]; rfl
 refine enter rfl rfl (by decide) fun P_ hR_ => ?_
 simp only [f_flank_squares,b_flank_squares]
 simp! [G.ranks,e,items_range (n:=R*5 / 8) (by simp [LIM,e_and,e_or]; exact Z.r58b hN.2.2.2.1) rfl]
 refine ⟨by exact Z.na hN.2.2.2.1 (by decide),by decide,?_⟩
 refine ok_for_range (fun j loc τ=>τ=σ/\∃ (o:Int) (w4:V),loc=[.ref g,.int c,.int t,.int o,w4]/\∀ i,ibit o i=(decide (i<F*R)&&decide (htOf F R c i<j))) ?_ ?_ ⟨rfl,0,.undef,rfl,fun i=>by simp [ibit_zero]⟩
 ·intro I_ hI_ j loc τ hj zq
  refine an2 zq fun eτ zq2 => ?_
  clear zq
  refine ea2_2 zq2 fun o w4 zq3 => ?_
  clear zq2
  subst zq3
  intro ho
  obtain rfl:σ=τ:=eτ.symm
  refine ⟨rfl,?_⟩
  simp! [oks,e_and,e_or]
  refine (sp_rank (m:=m) (r:=j) hF G hc (by exact Z.r58a hj)).int_ fun y hy => ?_
  simp! [oks,e_and,e_or]
  refine ix2 _ _ ⟨rfl,fun i => ?_⟩
  rw [ibit_or,ho,hy,<- Bool.and_or_distrib_left]
  refine and_congr_b fun hi => ?_
  have hR:i / F<R:=Nat.div_lt_of_lt_mul hi
  unfold htOf
  rw [Bool.eq_iff_iff]
  have:c=0\/c=1:=by lia
  rcases this with rfl | rfl
  ·simp only [if_true,Bool.or_eq_true,decide_eq_true_eq,beq_iff_eq]
   exact Z.lo1
  ·simp only [Nat.one_ne_zero,if_false,Bool.or_eq_true,decide_eq_true_eq,beq_iff_eq]
   exact dn1 R (Nat.lt_succ_of_le hN.2.2.2.1) _ hR j (Nat.lt_of_lt_of_le hj (by exact Z.r58))
 ·intro loc τ zq
  refine an2 zq fun eτ zq2 => ?_
  clear zq
  refine ea2_2 zq2 fun o w4 zq3 => ?_
  clear zq2
  subst zq3
  intro ho
  obtain rfl:σ=τ:=eτ.symm
  refine ⟨rfl,?_⟩
  simp! [oks,e_and,e_or]
  refine (sp_ff (m:=m) hF G ht).int_ fun y hy => ?_
  simp! [oks,e_and,e_or]
  refine ⟨_,rfl,fun i => ?_⟩
  rw [ibit_and,ho,hy]
  unfold flankB
  by_cases hi:i<F*R <;> simp [hi]
noncomputable def stormN (F R:Nat) (b kq:Nat->Nat) (c:Nat):Nat :=
 pc (fun i=>decide (1<=cntR F R b kq (1 - c) (plA b (1 - c)) i)&&flankB F R c (kq c) i)+pc (fun i=>decide (2<=cntR F R b kq (1 - c) (plA b (1 - c)) i)&&flankB F R c (kq c) i)
theorem sp_storm (B:BoardOk F R b kq) (G:GeoAt A F R g σ) {mp:Nat} {ma:Nat->Nat} (M:MapsAt F R b kq mp ma σ) {c:Nat} (hc:c<2) :
  Ok (callN prog glb (m+3) 53 [.ref g,.int c,.ref mp] σ) (fun r=>r=(.int (stormN F R b kq c:Nat),σ)):=by
 revert A F R g b kq σ m mp ma c
 exists A,F,R,g,b,kq,σ,m
 intro B G
 exists mp,ma
 intro M
 exists c
 intro hc
 have hN:=FRs_le B.fr
 have g1:=M.g c hc
 have g2:=M.g (1 - c) (by exact Z.sb)
 refine ea1_2 ((M.am (1 - c) (by lia)).byI) fun y a3 a4 => ?_
 refine ea1_2 ((M.am (1 - c) (by lia)).twice) fun tw a5 a6 => ?_
 have d0:getI σ (.ref y) (.int 0)=_:=a4 0 (by decide)
 have k1:=(M.am c hc).king
 have z:∀ i,32<=i->flankB F R c (kq c) i=false:=fun i hi=>by unfold flankB; rw [decide_eq_false (by exact Nat.not_lt_of_le (Nat.le_trans hN.2.2.2.2 (Nat.le_trans (by decide) hi)))]; rfl
 refine enter rfl rfl (by decide) fun P_ hR_ => ?_
 simp only [f_storm_count,b_storm_count]
 simp! [g1,k1,e_and,e_or]
 refine (sp_flank (m:=m) B.fr G hc (B.klt c hc)).int_ fun x hx => ?_
 simp! [one_sub hc,g2,a3,d0,e_and,e_or]
 refine (sp_count (m:=m+1) (q:=fun i=>decide (1<=cntR F R b kq (1 - c) (plA b (1 - c)) i)&&flankB F R c (kq c) i) (fun i=>by rw [ibit_and,by0_bits,hx]) fun i hi=>by rw [z i hi,Bool.and_false]).at_ ?_
 simp! [one_sub hc,g2,a5,e_and,e_or]
 refine (sp_count (m:=m+1) (q:=fun i=>decide (2<=cntR F R b kq (1 - c) (plA b (1 - c)) i)&&flankB F R c (kq c) i) (fun i=>by rw [ibit_and,a6,hx]) fun i hi=>by rw [z i hi,Bool.and_false]).at_ ?_
 simp! [oks,e_and,e_or]
 rfl
noncomputable def wt (k:Nat):Int:=if k=2 then 81 else if k=3 then 52 else if k=4 then 44 else 10
noncomputable def hitQ (F R:Nat) (b kq:Nat->Nat) (c:Nat) (gl:List Nat) (q:Nat × Nat):Bool:=(rc F R b kq c q.1 q.2).any fun i=>gl.contains i
noncomputable def raE (F R:Nat) (b kq:Nat->Nat) (c:Nat) (gl:List Nat) (E:List (Nat × Nat)):List (Nat × Nat):=E.filter (hitQ F R b kq (1 - c) gl)
noncomputable def raN (F R:Nat) (b kq:Nat->Nat) (c:Nat) (q:Nat × Nat):Nat:=pc fun i=>decide (i∈rc F R b kq (1 - c) q.1 q.2)&&ibit (byV F R b kq c (plA b c) 6) i
noncomputable def ra0 (F R:Nat) (b kq:Nat->Nat) (c:Nat):Nat:=pc fun i=>decide (i∈ringL F R (kq c))&&ibit (byV F R b kq (1 - c) (plA b (1 - c)) 1) i
theorem sp_into (hT:Base (heap0 script) σ) (B:BoardOk F R b kq) (G:GeoAt A F R g σ) {mp:Nat} {ma:Nat->Nat} (M:MapsAt F R b kq mp ma σ) {c:Nat} (hc:c<2) {gl:List Nat} :
  Ok (callN prog glb (m+3) 49 [.ref g,.int c,.ref mp,.int (bitsOf gl)] σ) (fun r=>r=(.tup [.int ((ra0 F R b kq c:Nat)+((raE F R b kq c gl (reE (plA b (1 - c)))).length:Nat):Int),.int ((raE F R b kq c gl (reE (plA b (1 - c)))).map fun q=>wt q.1).sum,.int (((raE F R b kq c gl (reE (plA b (1 - c)))).map (raN F R b kq c)).sum:Nat)],σ)):=by
 revert A F R g b kq σ m script mp ma c gl
 exists A,F,R,g,b,kq,σ,m,script
 intro hT B G
 exists mp,ma
 intro M
 exists c
 intro hc
 exists gl
 have hN:=FRs_le B.fr
 have hc':1 - c<2:=by lia
 have g1:=M.g c hc
 have g2:=M.g (1 - c) hc'
 refine ea1_2 ((M.am c hc).byI) fun x a1 a2 => ?_
 refine ea1_2 ((M.am (1 - c) hc').byI) fun y a3 a4 => ?_
 refine ea1_2 ((M.am (1 - c) hc').reaches) fun rx q1 q2 => ?_
 have b6:getI σ (.ref x) (.int 6)=_:=a2 6 (by decide)
 have d1:getI σ (.ref y) (.int 1)=_:=a4 1 (by decide)
 have k1:=(M.am c hc).king
 have ring:=(ring_ok B.fr (B.klt c hc)).2.2.2
 refine enter rfl rfl (by decide) fun P_ hR_ => ?_
 simp only [f_ring_attackers,b_ring_attackers]
 simp! [one_sub hc,g1,g2,a1,b6,k1,e_and,e_or]
 refine (sp_ring (m:=m) B.fr G (B.klt c hc)).at_ ?_
 simp! [a3,d1,e_and,e_or]
 refine (sp_count (m:=m+1) (q:=fun i=>decide (i∈ringL F R (kq c))&&ibit (byV F R b kq (1 - c) (plA b (1 - c)) 1) i) (fun i=>by rw [ibit_and,ibit_bitsOf]) fun i hi=>by
  rw [decide_eq_false (fun z=>by have:=ring.2 i z; lia),Bool.false_and]).at_ ?_
 simp! [q1,items_at q2,e_and,e_or]
 rw [reL_eq]
 refine ok_for (fun r loc τ=>τ=σ/\∃ (E1 E2:List (Nat × Nat)) (w9 w10:V),E1++E2=reE (plA b (1 - c))/\r=E2.map (fun q=>V.tup [.int q.1,.int (bitsOf (rc F R b kq (1 - c) q.1 q.2))]) /\
  loc=[.ref g,.int c,.ref mp,.int (bitsOf gl),.ref (ma (1 - c)),.int (byV F R b kq c (plA b c) 6),.int ((ra0 F R b kq c:Nat)+((raE F R b kq c gl E1).length:Nat):Int),.int ((raE F R b kq c gl E1).map fun q=>wt q.1).sum,.int (((raE F R b kq c gl E1).map (raN F R b kq c)).sum:Nat),w9,w10]) ?_ ?_ ⟨rfl,[],reE (plA b (1 - c)),.undef,.undef,rfl,rfl,rfl⟩
 ·intro I_ hI_ v r loc τ zq
  refine an2 zq fun eτ zq2 => ?_
  clear zq
  refine ea4_3 zq2 fun E1 E2 w9 w10 p1 p2 zq3 => ?_
  clear zq2
  subst zq3
  obtain rfl:σ=τ:=eτ.symm
  induction E2,v,r,p2 using map2_c with
  | k k t E2 =>
   obtain ⟨z1,z2,z3,z4⟩:=reE_mem (c:=1 - c) B (q:=(k,t)) (by rw [<- p1]; simp)
   dsimp only at z1 z2 z3 z4
   refine ⟨by rw [<- reL_eq]; exact still_at q2,?_⟩
   have gw:getI σ (.ref 2) (.int k)=some (.int (wt k)):=by
    have:k=2\/k=3\/k=4\/k=5:=by exact Z.or25 z1 z2
    rcases this with rfl | rfl | rfl | rfl <;> exact getI_base hT rfl
   simp! [bt_2,tv_int,gl_12,gw,e_and,e_or]
   have key:(bitAnd (bitsOf (rc F R b kq (1 - c) k t)) (bitsOf gl) != 0)=hitQ F R b kq (1 - c) gl (k,t):=by
    rw [bits_mem_and,Bool.eq_iff_iff,ne_zero_of]
    unfold hitQ
    rw [List.any_eq_true,ne_eq,List.filter_eq_nil_iff]
    simp
   rw [key]
   refine ⟨fun h => ?_,fun h => ?_⟩
   ·refine (sp_count (m:=m+1) (q:=fun i=>decide (i∈rc F R b kq (1 - c) k t)&&ibit (byV F R b kq c (plA b c) 6) i) (fun i=>by rw [ibit_and,ibit_bitsOf]) fun i hi=>by
     rw [decide_eq_false (fun z=>by have:=rc_lt (b:=b) (kq:=kq) B.fr z3 hc' z; lia),Bool.false_and]).at_ ?_
    simp! [oks,e_and,e_or]
    have e:raE F R b kq c gl (E1++[(k,t)])=raE F R b kq c gl E1++[(k,t)]:=by
     unfold raE
     rw [List.filter_append,List.filter_cons_of_pos h,List.filter_nil]
    refine ⟨E1++[(k,t)],E2,.int k,.int (bitsOf (rc F R b kq (1 - c) k t)),by rw [<- p1,List.append_assoc]; rfl,rfl,?_⟩
    rw [e,List.length_append,List.map_append,List.sum_append,List.map_append,List.sum_append]
    simp only [List.map_cons,List.map_nil,List.sum_cons,List.sum_nil,List.length_cons,List.length_nil,Int.add_zero,Nat.add_zero,Nat.zero_add,Int.natCast_add,Int.add_assoc]
    rfl
   ·have e:raE F R b kq c gl (E1++[(k,t)])=raE F R b kq c gl E1:=by
     unfold raE
     rw [List.filter_append,List.filter_cons_of_neg (by rw [h]; decide),List.filter_nil,List.append_nil]
    refine ⟨E1++[(k,t)],E2,.int k,.int (bitsOf (rc F R b kq (1 - c) k t)),by rw [<- p1,List.append_assoc]; rfl,rfl,?_⟩
    rw [e]
 ·intro loc τ zq
  refine an2 zq fun eτ zq2 => ?_
  clear zq
  refine ea4_3 zq2 fun E1 E2 w9 w10 p1 p2 zq3 => ?_
  clear zq2
  subst zq3
  obtain rfl:σ=τ:=eτ.symm
  have:E2=[]:=List.map_eq_nil_iff.mp p2.symm
  subst this
  rw [List.append_nil] at p1
  subst p1
  refine ⟨by rw [<- reL_eq]; exact still_at q2,?_⟩
  simp! [oks,e_and,e_or]
  exact (by decide:3<=LIM)
end
section
variable {σ:H} {m:Nat} {a:Nat} {fz:Bool} {L M:List Nat}
theorem toIs_ints:∀ L:List Nat,toIs (intsOf L)=some (L.map fun t:Nat=>(t:Int))
 | []=>rfl
 | t::r=>by
  have:=toIs_ints r
  unfold intsOf at this ⊢
  rw [List.map_cons,toIs,this]
  rfl
theorem contains_cast {t:Nat}:(L.map fun t:Nat=>(t:Int)).contains (t:Int)=L.contains t:=by
 rw [Bool.eq_iff_iff,List.contains_iff_mem,List.contains_iff_mem,List.mem_map]
 constructor
 ·intro zq
  refine ea1_2 zq fun u hu e => ?_
  clear zq
  have:u=t:=by exact Z.ueq e
  exact this ▸ hu
 ·exact fun h=>⟨t,h,rfl⟩
theorem in_at {t:Nat} (h:σ[a]? = some (.list fz (intsOf L))):cmpV .inn σ (.int t) (.ref a)=some (L.contains t):=by
 show inV σ (.int t) (.ref a)=some (L.contains t)
 unfold inV
 simp only [h,toIs_ints,Option.map_some,contains_cast]
theorem nin_at {t:Nat} (h:σ[a]? = some (.list fz (intsOf L))):cmpV .nin σ (.int t) (.ref a)=some (!L.contains t):=by
 show (inV σ (.int t) (.ref a)).map (!·)=some (!L.contains t)
 have:inV σ (.int t) (.ref a)=some (L.contains t):=in_at h
 rw [this]; rfl
theorem count_cast {t:Nat}:∀ L:List Nat,(L.map fun t:Nat=>(t:Int)).count (t:Int)=L.count t
 | []=>rfl
 | u::r=>by
  rw [List.map_cons,List.count_cons,List.count_cons,count_cast r]
  congr 1
  by_cases h:u=t
  ·simp [h]
  ·have:¬ ((u:Int)=(t:Int)):=by lia
   simp [h,this]
theorem cnt_at {t:Nat} (h:σ[a]? = some (.list false (intsOf L))):methV .count (.ref a) (.int t) σ=some (.int (L.count t:Nat),σ):=by
 unfold methV
 simp only [h,toIs_ints,count_cast]
theorem findI_map {t:Nat}:∀ (L:List Nat) (n k:Nat),k<L.length->(∀ j,j<k->L[j]? ≠ some t)->L[k]? = some t->findI (t:Int) (L.map fun t:Nat=>(t:Int)) n=some (n+k)
 | u::r,n,0,_,_,h=>by
  simp at h
  subst h
  simp [findI]
 | u::r,n,k+1,hk,h1,h2=>by
  have:¬ ((u:Int)=(t:Int)):=by
   have:=h1 0 (by exact Z.ltn (Nat.le_add_left _ _))
   simp at this
   lia
  rw [List.map_cons,findI,if_neg this,findI_map r (n+1) k (by simpa using hk) (fun j hj=>by simpa using h1 (j+1) (by exact Nat.add_lt_add_of_lt_of_le hj (by decide))) (by simpa using h2)]
  congr 1
  exact Z.i1c
theorem len_at {xs:List V} (h:σ[a]? = some (.list fz xs)):biV .len [.ref a] σ=some (.int xs.length,σ):=by
 show (match σ[a]? with | some (.list _ xs)=>some (V.int xs.length,σ) | _=>none)=_
 rw [h]
theorem tr_at {xs:List V} (h:σ[a]? = some (.list fz xs)):truth σ (.ref a)=some (!xs.isEmpty):=by
 unfold truth
 simp only [h]
theorem add_at {c:Nat} {xs ys:List V} (h:σ[a]? = some (.list false xs)) (h':σ[c]? = some (.list false ys)) (hz:xs.length+ys.length<=LIM):binV .add (.ref a) (.ref c) σ=some (.ref σ.length,σ++[.list false (xs++ys)]):=by
 unfold binV
 simp only [h,h',if_pos hz]
theorem aug_at {c:Nat} {xs ys:List V} (h:σ[a]? = some (.list false xs)) (h':σ[c]? = some (.list false ys)) (hz:xs.length+ys.length<=LIM) (hn:a≠c):augO .add (.ref a) (.ref c) σ=some (.ref a,σ.set a (.list false (xs++ys))):=by
 unfold augO
 simp only [h,h',if_pos (And.intro hz hn)]
theorem intsOf_append:intsOf (L++M)=intsOf L++intsOf M:=List.map_append
theorem intsOf_len:(intsOf L).length=L.length:=List.length_map _
theorem ok_sift {Φ:Φt} {G:Nat->V} {ifs:Es} {j:Nat} {v:V} {xs:List V} {loc:List V} {Q:H->Prop} (L:List Nat) (q:Nat->Bool) (he:xs=intsOf L) (hj:j<loc.length) (hl:L.length<=1000) (hst:∀ τ,Base σ τ->still v xs τ=true)
  (h:∀ t∈L,∀ τ,Base σ τ->Ok (evIf Φ G ifs (loc.set j (.int t)) τ) (fun r=>r=(q t,τ))) (hQ:Q (σ++[.list false (intsOf (L.filter q))])) :
  Ok (compN [j] (still v xs) (evC (evIf Φ G ifs) (evG Φ G .nil (evM (evE Φ G (.var j)) σ.length))) xs loc (σ++[.list false []])) Q:=by
 refine ok_compN (fun r τ=>∃ L1 L2,L1++L2=L/\r=intsOf L2/\τ=σ++[.list false (intsOf (L1.filter q))]) ?_ ?_ ⟨[],L,rfl,he,rfl⟩
 ·intro I_ hI_ x r τ zq
  refine ea2_3 zq fun L1 L2 p1 p2 zq2 => ?_
  clear zq
  subst zq2
  induction L2,x,r,p2 using intsOf_c with
  | k s L2 =>
   refine ⟨hst _ (Base.refl.push _),?_⟩
   rw [bt_1,ok_some,KBd,ok_evC]
   refine (h s (by rw [<- p1]; simp) _ (Base.refl.push _)).at_ ?_
   show (_->_)/\(_->_)
   refine ⟨fun z => ?_,fun z => ?_⟩
   ·dsimp only at z ⊢
    rw [hI_]
    refine ⟨L1++[s],L2,by rw [<- p1,List.append_assoc]; rfl,rfl,?_⟩
    rw [List.filter_append,List.filter_cons_of_neg (by rw [z]; decide),List.filter_nil,List.append_nil]
   ·dsimp only at z ⊢
    rw [g_nil,ok_evM,wE_eq,e_var,VarC,List.getElem?_set_self (by simpa using hj)]
    simp! [Option.bind_some,rd_int,e_and,e_or]
    have:(intsOf (L1.filter q)).length<LIM:=by
     rw [intsOf_len]
     have h1:=List.length_filter_le q L1
     have h2:L1.length<=L.length:=by rw [<- p1]; simp
     unfold LIM
     exact Nat.lt_of_le_of_lt h1 (Nat.lt_of_le_of_lt h2 (Nat.lt_of_le_of_lt hl (by decide)))
    rw [app_push this,ok_some,KMm2,hI_]
    refine ⟨L1++[s],L2,by rw [<- p1,List.append_assoc]; rfl,rfl,?_⟩
    rw [List.filter_append,List.filter_cons_of_pos z,List.filter_nil,intsOf_append]
    rfl
 ·intro τ zq
  refine ea2_3 zq fun L1 L2 p1 p2 zq2 => ?_
  clear zq
  subst zq2
  have:L2=[]:=List.map_eq_nil_iff.mp p2.symm
  subst this
  rw [List.append_nil] at p1
  subst p1
  exact ⟨hst _ (Base.refl.push _),hQ⟩
theorem sp_bits (h:σ[a]? = some (.list fz (intsOf L))) (hL:∀ t∈L,t<=1000):Ok (callN prog glb (m+1) 56 [.ref a] σ) (fun r=>r=(.int (bitsOf L),σ)):=by
 revert σ m a fz L
 exists σ,m,a,fz,L
 intro h hL
 refine enter rfl rfl (by decide) fun P_ hR_ => ?_
 simp only [f_law_bits,b_law_bits]
 simp! [items_at h,e_and,e_or]
 refine ok_for (fun r loc τ=>τ=σ/\∃ (L1 L2:List Nat) (o:Int) (w2:V),L1++L2=L/\r=intsOf L2/\loc=[.ref a,.int o,w2]/\∀ i,ibit o i=decide (i∈L1)) ?_ ?_ ⟨rfl,[],L,0,.undef,rfl,rfl,rfl,fun i=>by simp [ibit_zero]⟩
 ·intro I_ hI_ v r loc τ zq
  refine an2 zq fun eτ zq2 => ?_
  clear zq
  refine ea4_4 zq2 fun L1 L2 o w2 p1 p2 zq3 => ?_
  clear zq2
  subst zq3
  intro ho
  obtain rfl:σ=τ:=eτ.symm
  induction L2,v,r,p2 using intsOf_c with
  | k s L2 =>
   have:=hL s (by rw [<- p1]; simp)
   refine ⟨still_at h,?_⟩
   simp! [oks,e_and,e_or]
   refine ⟨⟨by exact Z.c0,by exact Z.cle this⟩,L1++[s],L2,_,_,by rw [<- p1,List.append_assoc]; rfl,rfl,rfl,fun i => ?_⟩
   rw [ibit_or,ho,Int.one_mul,Int.toNat_natCast,ibit_pow,Bool.eq_iff_iff]
   simp
 ·intro loc τ zq
  refine an2 zq fun eτ zq2 => ?_
  clear zq
  refine ea4_4 zq2 fun L1 L2 o w2 p1 p2 zq3 => ?_
  clear zq2
  subst zq3
  intro ho
  obtain rfl:σ=τ:=eτ.symm
  have:L2=[]:=List.map_eq_nil_iff.mp p2.symm
  subst this
  rw [List.append_nil] at p1
  subst p1
  refine ⟨still_at h,?_⟩
  simp! [oks,e_and,e_or]
  exact congrArg (fun x=>(V.int x,σ)) (ibit_inj fun i=>by rw [ho,ibit_bitsOf])
theorem ok_onB {Φ:Φt} {G:Nat->V} {Q:V × H->Prop} {F R:Nat} {f r:Int} {v2 v3 v4 v5 v6:V} :
  wE Φ G (.and (.cons (.cmp2 .le .lt (.int 0) (.var 7) (.var 0)) (.cons (.cmp2 .le .lt (.int 0) (.var 8) (.var 1)) .nil))) [.int F,.int R,v2,v3,v4,v5,v6,.int f,.int r] σ Q↔Q (.bool (onB F R f r),σ):=by
 revert σ Φ G Q F R f r v2 v3 v4 v5 v6
 exists σ,Φ,G,Q,F,R,f,r,v2,v3,v4,v5,v6
 unfold onB
 simp! [oks,e_and,e_or]
 by_cases h1:(0:Int)<=f <;> by_cases h2:f<F <;> by_cases h3:(0:Int)<=r <;> by_cases h4:r<R <;> simp [h1,h2,h3,h4]
end
theorem gt_0 {σ:H} {x y:Int}:getI σ (.tup [.int x,.int y]) (.int 0)=some (.int x):=rfl
theorem gt_1 {σ:H} {x y:Int}:getI σ (.tup [.int x,.int y]) (.int 1)=some (.int y):=rfl
noncomputable def brdL (N:Nat) (b:Nat->Nat):List Nat:=(List.range N).map b
noncomputable def stepsV (st:List (Int × Int)):List V:=st.map fun x=>V.tup [.int x.1,.int x.2]
section
variable {F R:Nat} {b kq:Nat->Nat} {σ:H} {m:Nat} {bd th st:Nat} {fz:Bool}
theorem brd_get (hb:σ[bd]? = some (.list false (intsOf (brdL (F*R) b)))) {t:Nat} (ht:t<F*R):getI σ (.ref bd) (.int t)=some (.int (b t)):=by
 refine getI_at hb ?_
 unfold intsOf brdL
 rw [List.map_map,List.getElem?_map,List.getElem?_range ht]; rfl
theorem onB_at {f r:Int} (h:onB F R f r=true):∃ t:Nat,t<F*R/\r*F+f=t/\(r*F+f).toNat=t:=by
 unfold onB at h
 simp only [Bool.and_eq_true,decide_eq_true_eq] at h
 refine an2 h fun zq => ?_
 try clear h
 refine an2 zq fun zq2 => ?_
 clear zq
 refine an2 zq2 fun h1 h2 => ?_
 clear zq2
 intro h3
 intro h4
 obtain ⟨x,rfl⟩:=Int.eq_ofNat_of_zero_le h1
 obtain ⟨y,rfl⟩:=Int.eq_ofNat_of_zero_le h3
 have hx:x<F:=by exact Z.ucl h2
 have hy:y<R:=by exact Z.ucl h4
 refine ⟨y*F+x,?_,by simp,by rw [<- Int.natCast_mul,<- Int.natCast_add]; exact Int.toNat_natCast _⟩
 have:(y+1)*F<=R*F:=Nat.mul_le_mul_right F hy
 rw [Nat.add_mul,Nat.mul_comm R F] at this
 exact Z.yf hx this
theorem onB_far (hF:(F,R)∈FRs) {d s j:Nat} (hd:d<8) (hs:s<F*R) (h:onB F R ((s%F:Nat)+j*(way d).1) ((s / F:Nat)+j*(way d).2)=true):j<9:=by
 revert F R d s j
 exists F,R
 intro hF
 exists d,s,j
 intro hd hs h
 have hN:=FRs_le hF
 unfold onB at h
 simp only [Bool.and_eq_true,decide_eq_true_eq] at h
 have h1:s%F<F:=Nat.mod_lt _ (by exact Z.ltR (by decide) hN.1)
 have h2:s / F<R:=Nat.div_lt_of_lt_mul hs
 generalize s%F=x at h h1
 generalize s / F=y at h h2
 have:d=0\/d=1\/d=2\/d=3\/d=4\/d=5\/d=6\/d=7:=by exact Z.or8 hd
 rcases this with rfl | rfl | rfl | rfl | rfl | rfl | rfl | rfl <;> simp [way,ways,sfs,srs] at h <;> (first | exact Z.j9 h.2 hN.2.2.2.1 (by decide) | exact Z.j9 h.1.2 hN.2.1 (by decide) | exact Z.j9a h.1.2 h2 hN.2.2.2.1 (by decide) | exact Z.j9a h.1.1 h1 hN.2.1 (by decide) | exact Z.j9 h.1.1.2 hN.2.1 (by decide) | exact Z.j9a h.1.1.1 h1 hN.2.1 (by decide))
noncomputable def thP (T:List Nat) (b:Nat->Nat) (t:Nat):Bool := !T.contains (b t)
theorem sp_lray (hF:(F,R)∈FRs) (hb:σ[bd]? = some (.list false (intsOf (brdL (F*R) b)))) {d s:Nat} (hd:d<8) (hs:s<F*R) {T:List Nat} (hT:σ[th]? = some (.list fz (intsOf T))) :
  Ok (callN prog glb (m+1) 57 [.int F,.int R,.ref bd,.int s,.tup [.int (way d).1,.int (way d).2],.ref th] σ) (fun r=>r=(.ref σ.length,σ++[.list false (intsOf (walkL (thP T b) (rayL F R d s)))])):=by
 revert F R b σ m bd th fz d s T
 exists F,R,b,σ,m,bd,th,fz
 intro hF hb
 exists d,s
 intro hd hs
 exists T
 intro hT
 have hN:=FRs_le hF
 have d1:(s:Int).fdiv F=((s / F:Nat):Int):=by rw [Int.fdiv_eq_ediv_of_nonneg _ (by exact Z.c0)]; rfl
 have d2:(s:Int).fmod F=((s%F:Nat):Int):=by rw [Int.fmod_eq_emod_of_nonneg _ (by exact Z.c0)]; rfl
 refine enter rfl rfl (by decide) fun P_ hR_ => ?_
 simp only [f_law_ray,b_law_ray]
 simp! [d1,d2,gt_0,gt_1,e_and,e_or]
 refine ⟨(by decide:0<=LIM),⟨by lia,by exact Z.na hN.2.1 (by decide)⟩,⟨by lia,by exact Z.na hN.2.1 (by decide)⟩,?_⟩
 refine ok_while (fun k loc τ=>∃ (j:Nat) (L1:List Nat) (f r:Int),j+k=9/\f=(s%F:Nat)+j*(way d).1/\r=(s / F:Nat)+j*(way d).2/\L1.length<=j /\
  loc=[.int F,.int R,.ref bd,.int s,.tup [.int (way d).1,.int (way d).2],.ref th,.ref σ.length,.int f,.int r]/\τ=σ++[.list false (intsOf L1)] /\
  L1++walkL (thP T b) (rayGo F R (way d).1 (way d).2 k f r)=walkL (thP T b) (rayL F R d s)) ?_ (k:=8) (by decide)
  ⟨1,[],_,_,rfl,by simp,by simp,by decide,rfl,rfl,rfl⟩
 intro I_ hI_ k loc τ zq
 refine ea4_7 zq fun j L1 f r hj ef er hl zq2 => ?_
 clear zq
 subst zq2
 intro zq3
 subst zq3
 intro hw
 have hB:Base σ (σ++[.list false (intsOf L1)]):=Base.refl.push _
 simp! [↓ok_onB,e_and,e_or]
 refine ⟨fun z => ?_,fun z => ?_⟩
 ·have:rayGo F R (way d).1 (way d).2 k f r=[]:=by
   cases k with
   | zero=>rfl
   | succ k=>unfold rayGo; rw [if_neg (by rw [z]; decide)]
  rw [this] at hw
  rw [<- hw]
  simp [walkL]
 ·have far:=onB_far (j:=j) hF hd hs (by rw [<- ef,<- er]; exact z)
  obtain ⟨k,rfl⟩:∃ k',k=k'+1:=⟨k - 1,(Nat.sub_add_cancel (Nat.pos_of_ne_zero fun z=>absurd hj (by rw [z]; exact Nat.ne_of_lt far))).symm⟩
  refine ea1_3 (onB_at z) fun t t1 t2 t3 => ?_
  have hr:rayGo F R (way d).1 (way d).2 (k+1) f r=t::rayGo F R (way d).1 (way d).2 k (f+(way d).1) (r+(way d).2):=by
   rw [rayGo,if_pos z,t3]
  rw [hr] at hw
  have hz:(intsOf L1).length<LIM:=by rw [intsOf_len]; unfold LIM; exact Nat.lt_of_le_of_lt hl (Z.ltR far (by decide))
  have hB1:Base σ (σ++[.list false (intsOf L1++[V.int (t:Int)])]):=Base.refl.push _
  have n1:cmpV .nin (σ++[.list false (intsOf L1++[V.int (t:Int)])]) (.int (b t)) (.ref th)=some (!T.contains (b t)):=nin_at (hB1.get hT)
  have n2:getI (σ++[.list false (intsOf L1++[V.int (t:Int)])]) (.ref bd) (.int t)=some (.int (b t)):=brd_get (hB1.get hb) t1
  have habs:r.natAbs<2^64:=by
   unfold onB at z
   simp only [Bool.and_eq_true,decide_eq_true_eq] at z
   exact Z.nay z.1.2 z.2 (Nat.le_trans hN.2.2.2.1 (by decide))
  simp! [isL_push,app_push hz,t2,n1,n2,gt_0,gt_1,e_and,e_or]
  refine ⟨habs,habs,fun q => ?_,fun q => ?_⟩
  ·rw [<- hw]
   unfold walkL
   rw [if_pos (by exact q),intsOf_append]
   rfl
  ·refine ⟨k,by exact Z.ltn (Nat.le_refl _),j+1,L1++[t],_,_,by exact Eq.trans Z.i1c hj,?_,?_,by simp; exact hl,rfl,by rw [intsOf_append]; rfl,?_⟩
   ·rw [ef]; rw [Int.natCast_add,Int.add_mul]; simp; lia
   ·rw [er]; rw [Int.natCast_add,Int.add_mul]; simp; lia
   ·rw [<- hw,List.append_assoc]
    conv=>rhs; unfold walkL
    rw [if_neg (by show ¬ (!T.contains (b t))=true; rw [q]; decide)]
    rfl
theorem sp_lhops (hF:(F,R)∈FRs) {s:Nat} (hs:s<F*R) {steps:List (Int × Int)} (hst:σ[st]? = some (.list fz (stepsV steps))) (hl:steps.length<=100) :
  Ok (callN prog glb (m+1) 58 [.int F,.int R,.int s,.ref st] σ) (fun r=>r=(.ref σ.length,σ++[.list false (intsOf (hopsL F R s steps))])):=by
 revert F R σ m st fz s steps
 exists F,R,σ,m,st,fz
 intro hF
 exists s
 intro hs
 exists steps
 intro hst hl
 have hN:=FRs_le hF
 have d1:(s:Int).fdiv F=((s / F:Nat):Int):=by rw [Int.fdiv_eq_ediv_of_nonneg _ (by exact Z.c0)]; rfl
 have d2:(s:Int).fmod F=((s%F:Nat):Int):=by rw [Int.fmod_eq_emod_of_nonneg _ (by exact Z.c0)]; rfl
 refine enter rfl rfl (by decide) fun P_ hR_ => ?_
 simp only [f_law_hops,b_law_hops]
 simp! [items_at (Base.get (Base.refl.push _) hst),e_and,e_or]
 refine ⟨(by decide:0<=LIM),?_⟩
 refine ok_for (fun r loc τ=>∃ (S1 S2:List (Int × Int)) (L1:List Nat) (w5 w6 w7 w8:V),S1++S2=steps/\r=stepsV S2/\L1.length<=S1.length/\L1++hopsL F R s S2=hopsL F R s steps /\
  loc=[.int F,.int R,.int s,.ref st,.ref σ.length,w5,w6,w7,w8]/\τ=σ++[.list false (intsOf L1)]) ?_ ?_ ⟨[],steps,[],_,_,_,_,rfl,rfl,by simp,rfl,rfl,rfl⟩
 ·intro I_ hI_ v r loc τ zq
  refine ea7_6 zq fun S1 S2 L1 w5 w6 w7 w8 p1 p2 hl1 hh zq2 => ?_
  clear zq
  subst zq2
  intro zq3
  subst zq3
  cases S2 with
  | nil=>cases p2
  | cons x S2 =>
   obtain ⟨df,dr⟩:=x
   unfold stepsV at p2
   rw [List.map_cons] at p2
   injection p2 with p2 p3
   subst p2 p3
   have hls:S1.length+S2.length+1<=100:=by rw [<- p1] at hl; simpa [Nat.add_assoc] using hl
   refine ⟨still_at (Base.get (Base.refl.push _) hst),?_⟩
   simp! [bt_2,tv_int,d1,d2]
   simp! [↓ok_onB,e_and,e_or]
   refine ⟨⟨by lia,by exact Z.na hN.2.1 (by decide)⟩,⟨by lia,by lia⟩,fun z => ?_,fun z => ?_⟩
   ·refine ea1_3 (onB_at z) fun t t1 t2 t3 => ?_
    have hz:(intsOf L1).length<LIM:=by rw [intsOf_len]; unfold LIM; lia
    have habs:(((s / F:Nat):Int)+dr).natAbs<2^64:=by
     unfold onB at z
     simp only [Bool.and_eq_true,decide_eq_true_eq] at z
     exact Z.nay z.1.2 z.2 (Nat.le_trans hN.2.2.2.1 (by decide))
    simp! [isL_push,app_push hz,t2,e_and,e_or]
    refine ⟨habs,S1++[(df,dr)],S2,L1++[t],_,_,_,_,by rw [<- p1,List.append_assoc]; rfl,rfl,by simp; exact hl1,?_,rfl,by rw [intsOf_append]; rfl⟩
    rw [<- hh,List.append_assoc,hopsL,if_pos z,t3]
    rfl
   ·refine ⟨S1++[(df,dr)],S2,L1,_,_,_,_,by rw [<- p1,List.append_assoc]; rfl,rfl,by simp; exact Nat.le_of_lt (Nat.lt_succ_of_le hl1),?_,rfl,rfl⟩
    rw [<- hh,hopsL,if_neg (by rw [z]; decide)]
 ·intro loc τ zq
  refine ea7_6 zq fun S1 S2 L1 w5 w6 w7 w8 p1 p2 hl1 hh zq2 => ?_
  clear zq
  subst zq2
  intro zq3
  subst zq3
  have:S2=[]:=List.map_eq_nil_iff.mp p2.symm
  subst this
  rw [hopsL,List.append_nil] at hh
  subst hh
  refine ⟨still_at (Base.get (Base.refl.push _) hst),?_⟩
  simp! [oks,e_and,e_or]
end
theorem bl_15 {σ:H}:biV .list [.rng 0 15 1] σ=some (.ref σ.length,σ++[.list false (intsOf (List.range 15))]):=rfl
noncomputable def KIi2 (x y:Int) (σ:H) (Q:V × H->Prop) (c:Bool):Prop:=Q (.int (if c=true then x else y),σ)
noncomputable def KIi (x y:Int) (Q:V × H->Prop) (p:V × H):Prop:=Ok (truth p.2 p.1) (KIi2 x y p.2 Q)
noncomputable def IfIC (x y:Int) (t:WE) (loc:List V) (σ:H) (Q:V × H->Prop):Prop:=t loc σ (KIi x y Q)
theorem ok_ifeI {Φ:Φt} {G:Nat->V} {t:E} {x y:Int}:wE Φ G (.ife t (.int x) (.int y))=IfIC x y (wE Φ G t):=by
 funext loc σ Q
 show wE Φ G t loc σ (KI1 (ValC (.int x)) (ValC (.int y)) loc Q)=wE Φ G t loc σ (KIi x y Q)
 refine congrArg _ (funext fun p => ?_)
 show Ok (truth p.2 p.1) (KI2 (ValC (.int x)) (ValC (.int y)) loc p.2 Q)=Ok (truth p.2 p.1) (KIi2 x y p.2 Q)
 refine congrArg _ (funext fun c => ?_)
 cases c with
 | false=>exact ft_f _ _
 | true=>exact ft_t _ _
theorem rayGo_len {F R:Nat} {df dr:Int}:∀ (n:Nat) (f r:Int),(rayGo F R df dr n f r).length<=n
 | 0,_,_=>by simp [rayGo]
 | n+1,f,r=>by
  unfold rayGo
  split
  ·simp only [List.length_cons]; have:=rayGo_len (F:=F) (R:=R) (df:=df) (dr:=dr) n (f+df) (r+dr); exact Nat.add_le_add this (by decide)
  ·simp
section
variable {F R:Nat} {b kq:Nat->Nat} {σ:H} {m:Nat} {bd:Nat} {script:List Int}
theorem BoardOk.v15 (B:BoardOk F R b kq) (i:Nat):b i<15:=by
 by_cases h:b i=0
 ·lia
 ·have:=B.val i h
  exact Z.b15 this.2.2 this.2.1
theorem idx_king (B:BoardOk F R b kq) (hb:σ[bd]? = some (.list false (intsOf (brdL (F*R) b)))) {c:Nat} (hc:c<2):methV .index (.ref bd) (.int ((c:Int)*8+6)) σ=some (.int (kq c),σ):=by
 unfold methV
 simp only [hb,toIs_ints]
 rw [show ((c:Int)*8+6)=((8*c+6:Nat):Int) by lia,findI_map (k:=kq c)]
 ·simp
 ·unfold brdL; simp [B.klt c hc]
 ·intro j hj z
  have hlt:=B.klt c hc
  unfold brdL at z
  rw [List.getElem?_map,List.getElem?_range (by exact Nat.lt_trans hj hlt)] at z
  have:=(B.king c j hc).mp (by simpa using z)
  lia
 ·unfold brdL
  rw [List.getElem?_map,List.getElem?_range (B.klt c hc)]
  simp [(B.king c (kq c) hc).mpr rfl]
theorem way_get (hT:Base (heap0 script) σ) {d:Nat} (hd:d<8):getI σ (.ref 11) (.int d)=some (.tup [.int (way d).1,.int (way d).2]):=by
 revert σ script d
 exists σ,script
 intro hT
 exists d
 intro hd
 have:d=0\/d=1\/d=2\/d=3\/d=4\/d=5\/d=6\/d=7:=by exact Z.or8 hd
 rcases this with rfl | rfl | rfl | rfl | rfl | rfl | rfl | rfl <;> exact getI_base hT rfl
theorem walk_all (B:BoardOk F R b kq):∀ L:List Nat,walkL (thP (List.range 15) b) L=L
 | []=>rfl
 | t::r=>by
  unfold walkL
  rw [if_neg,walk_all B r]
  unfold thP
  have:=B.v15 t
  simp [this]
theorem len1 {x:Nat}:(((x+1+1:Nat):Int)==1)=false:=by
 rw [Bool.eq_false_iff]; simp; lia
theorem sp_lshields (hT:Base (heap0 script) σ) (B:BoardOk F R b kq) (hb:σ[bd]? = some (.list false (intsOf (brdL (F*R) b)))) {c:Nat} (hc:c<2) :
  Ok (callN prog glb (m+2) 59 [.int F,.int R,.ref bd,.int c] σ) (fun r=>Base σ r.2/\∃ a,σ.length<=a/\r.1 = .ref a/\r.2[a]? = some (.list false (intsOf (shOf F R b kq c)))):=by
 revert F R b kq σ m bd script c
 exists F,R,b,kq,σ,m,bd,script
 intro hT B hb
 exists c
 intro hc
 have hN:=FRs_le B.fr
 have hk:=B.klt c hc
 refine nm (σ++[O.list false []]) fun τ0 e0 => ?_
 have b0:Base σ τ0:=e0 ▸ Base.refl.push _
 have f0:τ0[σ.length]? = some (.list false (intsOf [])):=by rw [e0]; exact get_push
 refine enter rfl rfl (by decide) fun P_ hR_ => ?_
 simp only [f_law_shields,b_law_shields]
 simp! [isL_at hb,idx_king B hb hc,items_range (n:=8) (by decide) rfl,e_and,e_or]
 refine ⟨by exact Z.na1 hc (by decide),(by decide:0<=LIM),?_⟩
 rw [<- e0]
 have i8:items τ0 (.rng 0 8 1)=some ((List.range 8).map fun k:Nat=>V.int k):=items_range (n:=8) (by decide) rfl
 rw [i8,ok_some]
 refine ok_for_range (fun d loc τ=>∃ (fo:List Nat) (w6 w7 w8 w9:V),loc=[.int F,.int R,.ref bd,.int c,.int (kq c),.ref σ.length,w6,w7,w8,w9]/\Base σ τ/\τ[σ.length]? = some (.list false (intsOf fo))/\fo=shieldsL F R b (kq c) c (List.range d)/\fo.length<=8*d) ?_ ?_ ⟨[],_,_,_,_,rfl,b0,f0,rfl,by simp⟩
 ·intro I_ hI_ d loc τ hd zq
  refine ea5_5 zq fun fo w6 w7 w8 w9 zq2 => ?_
  clear zq
  subst zq2
  intro bτ fτ efo lfo
  refine ⟨rfl,?_⟩
  have lτ:σ.length<τ.length:=by
   apply Classical.byContradiction; intro z
   rw [List.getElem?_eq_none (by exact Z.nle z)] at fτ; cases fτ
  obtain ⟨x,ex⟩:∃ x:Nat,x=(if d<4 then 4 else 3)+8*(1 - c):=⟨_,rfl⟩
  obtain ⟨y,ey⟩:∃ y:Nat,y=5+8*(1 - c):=⟨_,rfl⟩
  have ex':(if decide ((d:Int)<4)=true then (4:Int) else 3)+((1 - c:Nat):Int)*8=((x:Nat):Int):=by
   rw [ex]
   by_cases h:d<4
   ·have:(d:Int)<4:=by exact Z.cltl h
    simp [h,this]; lia
   ·have:¬ (d:Int)<4:=by lia
    simp [h,this]; lia
  have ey':(5:Int)+((1 - c:Nat):Int)*8=((y:Nat):Int):=by rw [ey]; lia
  refine nm (τ++[O.list false (intsOf [x,y])]) fun τ1 e1 => ?_
  refine nm (τ1++[O.list false (intsOf [])]) fun τ2 e2 => ?_
  refine nm (τ2++[O.list false (intsOf (List.range 15))]) fun τ3 e3 => ?_
  have B1:Base τ τ1:=e1 ▸ Base.refl.push _
  have B2:Base τ1 τ2:=e2 ▸ Base.refl.push _
  have B3:Base τ2 τ3:=e3 ▸ Base.refl.push _
  have l1:τ1.length=τ.length+1:=by rw [e1]; simp
  have l2:τ2.length=τ.length+2:=by rw [e2,List.length_append,l1]; rfl
  have l3:τ3.length=τ.length+3:=by rw [e3,List.length_append,l2]; rfl
  have wg:getI τ2 (.ref 11) (.int d)=_:=way_get (hT.trans (bτ.trans (B1.trans B2))) hd
  have E1:τ++[O.list false [V.int (x:Int),V.int (y:Int)]]=τ1:=e1.symm
  have E2:τ1++[O.list false []]=τ2:=e2.symm
  have E3:τ2++[O.list false (intsOf (List.range 15))]=τ3:=e3.symm
  simp! [↓ok_ifeI,IfIC,KIi,KIi2,one_sub hc,ex',ey',E1,E2,gl_15,wg,bl_15,E3,e_and,e_or]
  refine ⟨by exact Z.sbn,by exact Z.sbn,(by decide:2<=LIM),(by decide:0<=LIM),?_⟩
  refine (sp_lray (m:=m) (th:=τ2.length) B.fr (((bτ.trans B1).trans B2).trans B3 |>.get hb) hd hk (by rw [e3]; exact get_push)).at_ ?_
  simp! [oks,e_and,e_or]
  rw [walk_all B]
  refine nm (rayL F R d (kq c)) fun ray er => ?_
  have lr:ray.length<=8:=by rw [er]; exact rayGo_len _ _ _
  rw [<- er]
  refine nm (τ3++[O.list false (intsOf ray)]) fun τ4 e4 => ?_
  have B4:Base τ3 τ4:=e4 ▸ Base.refl.push _
  rw [<- e4]
  have g4:τ4[τ3.length]? = some (.list false (intsOf ray)):=by rw [e4]; exact get_push
  rw [items_at g4,ok_some,KFo2]
  have sh:shieldsL F R b (kq c) c (List.range (d+1))=scanD (snD b c d) (fun t=>b t != 0) ray [] fo:=by
   unfold shieldsL at efo ⊢
   rw [List.range_succ,List.foldl_append,<- efo,er]
   rfl
  refine ok_for (fun r loc υ=>∃ (L1 L2 st fo:List Nat) (w9:V),L1++L2=ray/\r=intsOf L2/\loc=[.int F,.int R,.ref bd,.int c,.int (kq c),.ref σ.length,.int d,.ref τ.length,.ref τ1.length,w9]/\Base σ υ /\
   υ[σ.length]? = some (.list false (intsOf fo))/\υ[τ1.length]? = some (.list false (intsOf st))/\υ[τ.length]? = some (.list false (intsOf [x,y]))/\υ[τ3.length]? = some (.list false (intsOf ray)) /\
   scanD (snD b c d) (fun t=>b t != 0) L2 st fo=shieldsL F R b (kq c) c (List.range (d+1))/\st.length<=L1.length/\fo.length<=8*d+L1.length) ?_ ?_
   ⟨[],ray,[],fo,_,rfl,rfl,rfl,bτ.trans (B1.trans (B2.trans (B3.trans B4))),(B1.trans (B2.trans (B3.trans B4))).get fτ,(B3.trans B4).get (by rw [e2]; exact get_push),(B2.trans (B3.trans B4)).get (by rw [e1]; exact get_push),g4,sh.symm,by simp,by simpa using lfo⟩
  ·intro I_ hI_ v r loc υ zq
   refine ea5_11 zq fun L1 L2 st fo w9 p1 p2 zq2 => ?_
   clear zq
   subst zq2
   intro bυ fυ sυ nυ rυ sc ls lf
   induction L2,v,r,p2 using intsOf_c with
   | k t L2 =>
    have htr:t∈ray:=by rw [<- p1]; simp
    have ht:t<F*R:=ray_lt B.fr hk hd (er ▸ htr)
    have hl:L1.length+L2.length+1<=8:=by rw [<- p1] at lr; simpa [Nat.add_assoc] using lr
    have gb:getI υ (.ref bd) (.int t)=some (.int (b t)):=brd_get (bυ.get hb) ht
    have gn:cmpV .inn υ (.int (b t)) (.ref τ.length)=some (snD b c d t):=by
     rw [in_at nυ]
     unfold snD
     rw [<- ex,<- ey]
     congr 1
     rw [Bool.eq_iff_iff]
     simp
    have lst:biV .len [.ref τ1.length] υ=some (.int (st.length:Nat),υ):=by rw [len_at sυ,intsOf_len]
    refine ⟨still_at rυ,?_⟩
    simp! [gb,gn,lst,e_and,e_or]
    have done:∀ (υ':H) (st' fo':List Nat),Base σ υ'->υ'[σ.length]? = some (.list false (intsOf fo'))->υ'[τ1.length]? = some (.list false (intsOf st'))->υ'[τ.length]? = some (.list false (intsOf [x,y]))->υ'[τ3.length]? = some (.list false (intsOf ray)) ->
      scanD (snD b c d) (fun t=>b t != 0) L2 st' fo'=shieldsL F R b (kq c) c (List.range (d+1))->st'.length<=st.length+1->fo'.length<=fo.length+1 ->
      ∃ (L1' L2' st fo:List Nat) (w9:V),L1'++L2'=ray/\List.map (fun t:Nat=>V.int (t:Int)) L2=intsOf L2'/\[V.int F,.int R,.ref bd,.int c,.int (kq c),.ref σ.length,.int d,.ref τ.length,.ref τ1.length,.int t]=[.int F,.int R,.ref bd,.int c,.int (kq c),.ref σ.length,.int d,.ref τ.length,.ref τ1.length,w9]/\Base σ υ' /\
   υ'[σ.length]? = some (.list false (intsOf fo))/\υ'[τ1.length]? = some (.list false (intsOf st))/\υ'[τ.length]? = some (.list false (intsOf [x,y]))/\υ'[τ3.length]? = some (.list false (intsOf ray)) /\
   scanD (snD b c d) (fun t=>b t != 0) L2' st fo=shieldsL F R b (kq c) c (List.range (d+1))/\st.length<=L1'.length/\fo.length<=8*d+L1'.length:=fun υ' st' fo' h1 h2 h3 h4 h5 h6 h7 h8 =>
     ⟨L1++[t],L2,st',fo',.int t,by rw [<- p1,List.append_assoc]; rfl,rfl,rfl,h1,h2,h3,h4,h5,h6,by rw [List.length_append]; simp; exact Nat.le_trans h7 (Nat.add_le_add ls (by decide)),by rw [List.length_append]; simp; exact Nat.le_trans h8 (Nat.succ_le_succ lf)⟩
    refine ⟨fun z => ?_,fun z => ?_⟩
    ·unfold scanD at sc
     rw [if_pos z] at sc
     rcases st with _ | ⟨s,_ | ⟨s2,st'⟩⟩
     ·refine ⟨fun q=>Bool.noConfusion q,fun _=>⟨fun q=>Bool.noConfusion q,fun _=>done υ [] fo bυ fυ sυ nυ rυ sc (by simp) (by simp)⟩⟩
     ·have g0:getI υ (.ref τ1.length) (.int 0)=some (.int s):=getI_at (k:=0) sυ rfl
      refine ⟨fun _ => ?_,fun q=>Bool.noConfusion q⟩
      simp! [g0,nin_at fυ,e_and,e_or]
      refine ⟨fun q => ?_,fun q => ?_⟩
      ·have hz:(intsOf fo).length<LIM:=by rw [intsOf_len]; unfold LIM; lia
       dsimp only at sc
       rw [if_neg (by intro w; rw [w] at q; exact Bool.noConfusion q)] at sc
       simp! [isL_at fυ,g0,app_at fυ hz,e_and,e_or]
       exact done _ [s] (fo++[s]) (bυ.set (Nat.le_refl _) _) (by rw [set_eq fυ,intsOf_append]; rfl) (by rw [set_ne (by lia)]; exact sυ) (by rw [set_ne (by exact Nat.ne_of_lt lτ)]; exact nυ) (by rw [set_ne (by lia)]; exact rυ) sc (by simp) (by simp)
      ·dsimp only at sc
       rw [if_pos (by simpa using q)] at sc
       exact done υ [s] fo bυ fυ sυ nυ rυ sc (by simp) (by simp)
     ·have no:∀ {α:Prop},(((s::s2::st').length:Int)==1)=true->α:=fun q=>by
       rw [List.length_cons,List.length_cons,len1] at q
       exact Bool.noConfusion q
      exact ⟨fun q=>no q,fun _=>⟨fun q=>no q,fun _=>done υ _ fo bυ fυ sυ nυ rυ sc (by simp) (by simp)⟩⟩
    ·unfold scanD at sc
     rw [if_neg (by rw [z]; decide)] at sc
     refine ⟨fun q => ?_,fun q => ?_⟩
     ·have hz:(intsOf st).length<LIM:=by rw [intsOf_len]; unfold LIM; lia
      have q':(b t != 0)=true:=by simpa using q
      rw [if_pos q'] at sc
      simp! [isL_at sυ,app_at sυ hz,e_and,e_or]
      exact done _ (st++[t]) fo (bυ.set (by lia) _) (by rw [set_ne (by lia)]; exact fυ) (by rw [set_eq sυ,intsOf_append]; rfl) (by rw [set_ne (by exact Nat.ne_of_gt (Z.ltn (Nat.le_of_eq (Eq.symm l1))))]; exact nυ) (by rw [set_ne (by lia)]; exact rυ) sc (by simp) (by simp)
     ·have q':(b t != 0)=false:=by simpa using q
      rw [if_neg (by rw [q']; decide)] at sc
      exact done υ st fo bυ fυ sυ nυ rυ sc (by simp) (by simp)
  ·intro loc υ zq
   refine ea5_11 zq fun L1 L2 st fo' w9 p1 p2 zq2 => ?_
   clear zq
   subst zq2
   intro bυ fυ sυ nυ rυ sc ls lf
   have:L2=[]:=List.map_eq_nil_iff.mp p2.symm
   subst this
   rw [List.append_nil] at p1
   subst p1
   refine ⟨still_at rυ,?_⟩
   simp! [oks,e_and,e_or]
   exact ix5 fo' _ _ _ _ ⟨rfl,bυ,fυ,sc,by exact Nat.le_trans lf (Nat.add_le_add (Nat.le_refl _) lr)⟩
 ·intro loc τ zq
  refine ea5_5 zq fun fo w6 w7 w8 w9 zq2 => ?_
  clear zq
  subst zq2
  intro bτ fτ efo lfo
  refine ⟨rfl,?_⟩
  simp! [oks,e_and,e_or]
  exact ⟨bτ,_,Nat.le_refl _,rfl,by rw [fτ,efo]; rfl⟩
end
noncomputable def ssT:Ss->Ss
 | .cons _ r=>r
 | .nil => .nil
noncomputable def ssH:Ss->S
 | .cons s _=>s
 | .nil => .fail
noncomputable def rest60:Ss:=ssT (ssT (ssT (ssT (ssT (ssT b_law_reach)))))
theorem b60:b_law_reach = .cons (ssH b_law_reach) (.cons (ssH (ssT b_law_reach)) (.cons (ssH (ssT (ssT b_law_reach))) (.cons (ssH (ssT (ssT (ssT b_law_reach)))) (.cons (ssH (ssT (ssT (ssT (ssT b_law_reach))))) (.cons (ssH (ssT (ssT (ssT (ssT (ssT b_law_reach)))))) rest60))))):=rfl
noncomputable def inD (k d:Nat):Bool:=k==5||(k==4&&decide (d<4))||(k==3&&decide (3<d))
section
variable {F R:Nat} {b kq:Nat->Nat} {σ τ:H} {m:Nat} {bd sh oa:Nat} {script:List Int}
theorem ok_inD {Φ:Φt} {G:Nat->V} {Q:V × H->Prop} {k d:Nat} {v0 v1 v2 v3 v4 v5 v7 v8 v10 v11 v12 v13:V} :
  wE Φ G (.or (.cons (.cmp .eq (.var 6) (.int 5)) (.cons (.and (.cons (.cmp .eq (.var 6) (.int 4)) (.cons (.cmp .lt (.var 9) (.int 4)) .nil))) (.cons (.and (.cons (.cmp .eq (.var 6) (.int 3)) (.cons (.cmp .gt (.var 9) (.int 3)) .nil))) .nil)))) [v0,v1,v2,v3,v4,v5,.int k,v7,v8,.int d,v10,v11,v12,v13] σ Q↔Q (.bool (inD k d),σ):=by
 revert σ Φ G Q k d v0 v1 v2 v3 v4 v5 v7 v8 v10 v11 v12 v13
 exists σ,Φ,G,Q,k,d,v0,v1,v2,v3,v4,v5,v7,v8,v10,v11,v12,v13
 unfold inD
 simp! [oks,e_and,e_or]
 have c5:(((k:Nat):Int)==5)=(k==5):=by rw [Bool.eq_iff_iff]; simp; exact Z.ieq
 have c4:(((k:Nat):Int)==4)=(k==4):=by rw [Bool.eq_iff_iff]; simp; exact Z.ieq
 have c3:(((k:Nat):Int)==3)=(k==3):=by rw [Bool.eq_iff_iff]; simp; exact Z.ieq
 have d4:decide ((d:Int)<4)=decide (d<4):=by rw [Bool.eq_iff_iff]; simp; exact Z.iltr
 have d3:decide ((3:Int)<d)=decide (3<d):=by rw [Bool.eq_iff_iff]; simp; exact Z.iltr
 rw [c5,c4,c3,d4,d3]
 cases (k==5) with
 | true=>simp
 | false =>
  cases (k==4) with
  | false=>cases (k==3) with
   | false=>simp
   | true=>cases decide (3<d) <;> simp
  | true=>cases decide (d<4) with
   | true=>simp
   | false=>cases (k==3) with
    | false=>simp
    | true=>cases decide (3<d) <;> simp
theorem walk_len {p:Nat->Bool} {d s:Nat}:(walkL p (rayL F R d s)).length<=8:=Nat.le_trans (walkL_sublist _).length_le (rayGo_len _ _ _)
theorem inD_dirs {k:Nat} (hk:k=3\/k=4\/k=5):(List.range 8).filter (inD k)=dirsOf k:=by
 rcases hk with rfl | rfl | rfl <;> decide
theorem inD_none:(List.range 8).filter (inD 2)=[]:=by decide
theorem thP_stop (B:BoardOk F R b kq) {c k:Nat} (hk:2<=k/\k<=5) {T:List Nat} (hT:T=if k=3 then [0,5,13] else if k=4 then [0,5,13,8*c+4] else [0]):thP T b=stopP b c k:=by
 revert F R b kq c k T
 exists F,R,b,kq
 intro B
 exists c,k
 intro hk
 exists T
 intro hT
 funext i
 unfold thP stopP
 have:=B.v15 i
 have:k=2\/k=3\/k=4\/k=5:=by exact Z.or25 hk.1 hk.2
 rw [Bool.eq_iff_iff]
 rcases this with rfl | rfl | rfl | rfl <;> simp [hT] <;> (first | exact Z.st15 ‹_› | exact Z.st15b ‹_› | lia)
theorem nsub {x y:Nat} (hx:x<100) (hy:y<100):((x:Int) - (y:Int)).natAbs<2^64:=by exact Z.nde (Z.na1 hx (by decide)) (Z.na1 hy (by decide))
theorem reach_rest (hT:Base (heap0 script) σ) (B:BoardOk F R b kq) (hb:σ[bd]? = some (.list false (intsOf (brdL (F*R) b)))) {c k s:Nat} (hc:c<2) (hk:2<=k/\k<=5) (hs:s<F*R) {S:List Nat} (hS:σ[sh]? = some (.list false (intsOf S)))
  (bτ:Base σ τ) {pre:List Nat} (ho:τ[oa]? = some (.list false (intsOf pre))) (hoa:σ.length<=oa) (hl:pre.length<=100) (hp:∀ t∈pre,t<F*R) {w8 w9 w10 w11 w12 w13:V} :
  Ok (evSs (callN prog glb (m+1)) glb rest60 [.int F,.int R,.ref bd,.int s,.ref sh,.int c,.int k,.ref oa,w8,w9,w10,w11,w12,w13] τ) (KR fun r=>Base σ r.2/\∃ a,σ.length<=a/\r.1 = .ref a /\
   r.2[a]? = some (.list false (intsOf (if s∈S then (pre++slideL F R (stopP b c k) ((List.range 8).filter (inD k)) s).filter (colin F (kq c) s) else pre++slideL F R (stopP b c k) ((List.range 8).filter (inD k)) s)))):=by
 revert F R b kq σ τ m bd sh oa script c k s S pre w8 w9 w10 w11 w12 w13
 exists F,R,b,kq,σ,τ,m,bd,sh,oa,script
 intro hT B hb
 exists c,k,s
 intro hc hk hs
 exists S
 intro hS bτ
 exists pre
 intro ho hoa hl hp
 exists w8,w9,w10,w11,w12,w13
 have hN:=FRs_le B.fr
 have hkq:=B.klt c hc
 have dd:∀ t:Nat,(t:Int).fdiv F=((t / F:Nat):Int):=fun t=>by rw [Int.fdiv_eq_ediv_of_nonneg _ (by exact Z.c0)]; rfl
 have dm:∀ t:Nat,(t:Int).fmod F=((t%F:Nat):Int):=fun t=>by rw [Int.fmod_eq_emod_of_nonneg _ (by exact Z.c0)]; rfl
 have loa:oa<τ.length:=by
  apply Classical.byContradiction; intro z
  rw [List.getElem?_eq_none (by exact Z.nle z)] at ho; cases ho
 obtain ⟨x,ex⟩:∃ x:Nat,x=8*c+4:=⟨_,rfl⟩
 have ex':(c:Int)*8+4=(x:Int):=by lia
 refine nm (τ++[O.list false (intsOf [0,5,13])]) fun τ1 e1 => ?_
 refine nm (τ1++[O.list false (intsOf [0,5,13,x])]) fun τ2 e2 => ?_
 refine nm (τ2++[O.list false (intsOf [0])]) fun τ3 e3 => ?_
 refine nm (τ3++[O.list false [V.ref τ.length,V.ref τ1.length,V.ref τ2.length]]) fun τ4 e4 => ?_
 have B1:Base τ τ1:=e1 ▸ Base.refl.push _
 have B2:Base τ1 τ2:=e2 ▸ Base.refl.push _
 have B3:Base τ2 τ3:=e3 ▸ Base.refl.push _
 have B4:Base τ3 τ4:=e4 ▸ Base.refl.push _
 have l1:τ1.length=τ.length+1:=by rw [e1]; simp
 have l2:τ2.length=τ.length+2:=by rw [e2,List.length_append,l1]; rfl
 have E1:τ++[O.list false [V.int 0,V.int 5,V.int 13]]=τ1:=e1.symm
 have E2:τ1++[O.list false [V.int 0,V.int 5,V.int 13,V.int x]]=τ2:=e2.symm
 have E3:τ2++[O.list false [V.int 0]]=τ3:=e3.symm
 have E4:τ3++[O.list false [V.ref τ.length,V.ref τ1.length,V.ref τ2.length]]=τ4:=e4.symm
 have g4:τ4[τ3.length]? = some (.list false [V.ref τ.length,V.ref τ1.length,V.ref τ2.length]):=by rw [e4]; exact get_push
 obtain ⟨th,T,hth,hT4,hP,lth⟩:∃ th T,getI τ4 (.ref τ3.length) (.int (max (k:Int) 3 - 3))=some (.ref th)/\τ4[th]? = some (.list false (intsOf T))/\(3<=k->thP T b=stopP b c k)/\τ.length<=th:=by
  have:k=2\/k=3\/k=4\/k=5:=by exact Z.or25 hk.1 hk.2
  rcases this with rfl | rfl | rfl | rfl
  ·exact ⟨τ.length,_,getI_at (k:=0) g4 rfl,(B2.trans (B3.trans B4)).get (by rw [e1]; exact get_push),fun q=>absurd q (by decide),Nat.le_refl _⟩
  ·exact ⟨τ.length,_,getI_at (k:=0) g4 rfl,(B2.trans (B3.trans B4)).get (by rw [e1]; exact get_push),fun _=>thP_stop B hk rfl,Nat.le_refl _⟩
  ·exact ⟨τ1.length,_,getI_at (k:=1) g4 rfl,(B3.trans B4).get (by rw [e2]; exact get_push),fun _=>thP_stop B hk (by rw [ex]; rfl),by exact Nat.le_of_lt (Z.ltn (Nat.le_of_eq (Eq.symm l1)))⟩
  ·exact ⟨τ2.length,_,getI_at (k:=2) g4 rfl,B4.get (by rw [e3]; exact get_push),fun _=>thP_stop B hk rfl,by lia⟩
 have B14:=B1.trans (B2.trans (B3.trans B4))
 simp only [rest60,ssT,b_law_reach]
 simp! [ex',E1,E2,E3,E4,hth,items_range (n:=8) (by decide) rfl,e_and,e_or]
 refine ⟨(by decide:3<=LIM),by exact Z.na1 hc (by decide),(by decide:4<=LIM),(by decide:1<=LIM),(by decide:3<=LIM),?_⟩
 have i8:items τ4 (.rng 0 8 1)=some ((List.range 8).map fun k:Nat=>V.int k):=items_range (n:=8) (by decide) rfl
 rw [i8,ok_some]
 refine ok_for_range (fun j loc υ=>∃ (w9 w10 w11 w12 w13:V),loc=[.int F,.int R,.ref bd,.int s,.ref sh,.int c,.int k,.ref oa,.ref th,w9,w10,w11,w12,w13]/\Base σ υ/\υ[th]? = some (.list false (intsOf T)) /\
  υ[oa]? = some (.list false (intsOf (pre++slideL F R (stopP b c k) ((List.range j).filter (inD k)) s)))/\(slideL F R (stopP b c k) ((List.range j).filter (inD k)) s).length<=8*j) ?_ ?_ ⟨_,_,_,_,_,rfl,bτ.trans B14,hT4,by rw [B14.get ho]; simp [slideL],by simp [slideL]⟩
 ·intro I_ hI_ j loc υ hj zq
  refine ea5_5 zq fun w9 w10 w11 w12 w13 zq2 => ?_
  clear zq
  subst zq2
  intro bυ tυ oυ ll
  refine ⟨rfl,?_⟩
  simp! [Nat.sub_self]
  simp! [↓ok_inD,e_and,e_or]
  refine ⟨fun z => ?_,fun z => ?_⟩
  ·have wg:getI υ (.ref 11) (.int j)=_:=way_get (hT.trans bυ) hj
   simp! [gl_15,wg,e_and,e_or]
   refine (sp_lray (m:=m) B.fr (bυ.get hb) hj hs tυ).at_ ?_
   simp! [oks,e_and,e_or]
   rw [hP (by
    unfold inD at z
    simp only [Bool.or_eq_true,Bool.and_eq_true,beq_iff_eq] at z
    lia)]
   have lw:=walk_len (F:=F) (R:=R) (p:=stopP b c k) (d:=j) (s:=s)
   refine nm (υ++[O.list false (intsOf (walkL (stopP b c k) (rayL F R j s)))]) fun υ' eυ => ?_
   have bυ':Base υ υ':=eυ ▸ Base.refl.push _
   have rυ:υ'[υ.length]? = some (.list false (intsOf (walkL (stopP b c k) (rayL F R j s)))):=by rw [eυ]; exact get_push
   have lυ:oa<υ.length:=by
    apply Classical.byContradiction; intro q
    rw [List.getElem?_eq_none (by exact Z.nle q)] at oυ; cases oυ
   rw [<- eυ,aug_at (bυ'.get oυ) rυ (by rw [intsOf_len,intsOf_len,List.length_append]; unfold LIM; exact Z.p8 hl ll lw hj) (by exact Nat.ne_of_lt lυ),ok_some,<- intsOf_append,List.append_assoc]
   have sl:slideL F R (stopP b c k) ((List.range (j+1)).filter (inD k)) s=slideL F R (stopP b c k) ((List.range j).filter (inD k)) s++walkL (stopP b c k) (rayL F R j s):=by
    unfold slideL
    rw [List.range_succ,List.filter_append,List.filter_cons_of_pos z,List.filter_nil,List.flatMap_append]
    simp
   simp! [oks,e_and,e_or]
   exact ⟨_,_,_,_,_,rfl,(bυ.trans bυ').set hoa _,by rw [set_ne (by exact Nat.ne_of_lt (Z.ltR loa lth))]; exact bυ'.get tυ,by rw [sl,set_eq (bυ'.get oυ)],by rw [sl,List.length_append]; exact Nat.add_le_add ll lw⟩
  ·have sl:slideL F R (stopP b c k) ((List.range (j+1)).filter (inD k)) s=slideL F R (stopP b c k) ((List.range j).filter (inD k)) s:=by
    unfold slideL
    rw [List.range_succ,List.filter_append,List.filter_cons_of_neg (by rw [z]; decide),List.filter_nil,List.append_nil]
   exact ⟨_,_,_,_,_,rfl,bυ,tυ,by rw [sl]; exact oυ,by rw [sl]; exact Nat.le_trans ll (Nat.le_add_right _ _)⟩
 ·intro loc υ zq
  refine ea5_5 zq fun w9 w10 w11 w12 w13 zq2 => ?_
  clear zq
  subst zq2
  intro bυ tυ oυ ll
  refine ⟨rfl,?_⟩
  refine nm (pre++slideL F R (stopP b c k) ((List.range 8).filter (inD k)) s) fun L eL => ?_
  have lL:L.length<=1000:=by rw [eL,List.length_append]; lia
  rw [<- eL] at oυ ⊢
  simp! [in_at (bυ.get hS),isL_at (bυ.get hb),idx_king B (bυ.get hb) hc,dd,dm,e_comp,items_at oυ,e_and,e_or]
  refine ⟨fun z => ?_,fun z => ?_⟩
  ·have z:s∈S:=by simpa using z
   refine ⟨by exact Z.na1 hc (by decide),⟨by lia,by exact Z.na hN.2.1 (by decide)⟩,⟨by lia,by exact Z.na hN.2.1 (by decide)⟩,⟨by lia,by exact Z.na hN.2.1 (by decide)⟩,⟨by lia,by lia⟩,?_⟩
   refine ok_sift L (colin F (kq c) s) rfl (by simp) lL (fun υ' h'=>still_at (h'.get oυ)) (fun t ht υ' h' => ?_) ?_
   ·simp! [if_cons,if_nil,dd,dm,e_and,e_or]
    have m1:t%F<F:=Nat.mod_lt _ (by exact Z.ltR (by decide) hN.1)
    have m2:kq c%F<F:=Nat.mod_lt _ (by exact Z.ltR (by decide) hN.1)
    have m3:t<F*R:=by
     rw [eL,List.mem_append] at ht
     rcases ht with ht | ht
     ·exact hp t ht
     ·unfold slideL at ht
      rw [List.mem_flatMap] at ht
      refine ea1_2 ht fun d h1 h2 => ?_
      try clear ht
      exact ray_lt B.fr hs (List.mem_range.mp (List.mem_filter.mp h1).1) (walkL_sub h2)
    have m4:t / F<=t:=Nat.div_le_self _ _
    have m5:kq c / F<=kq c:=Nat.div_le_self _ _
    refine ⟨⟨by lia,by lia⟩,⟨by lia,by lia⟩,nsub (by exact Z.ltR m1 (Nat.le_trans hN.2.1 (by decide))) (by exact Z.ltR m2 (Nat.le_trans hN.2.1 (by decide))),⟨by lia,by lia⟩,⟨by lia,by lia⟩,nsub (Nat.lt_of_le_of_lt m4 (by exact Z.ltR m3 (Nat.le_trans hN.2.2.2.2 (by decide)))) (Nat.lt_of_le_of_lt m5 (by exact Z.ltR hkq (Nat.le_trans hN.2.2.2.2 (by decide)))),fun q => ?_,fun q => ?_⟩
    ·unfold colin
     rw [decide_eq_false (by simpa using q)]
    ·unfold colin
     rw [decide_eq_true (by simpa using q)]
   ·rw [if_pos z]
    exact ⟨bυ.push _,_,bυ.len,rfl,get_push⟩
  ·have z:s ∉ S:=by simpa using z
   rw [if_neg z]
   exact ⟨bυ,_,hoa,rfl,oυ⟩
theorem ways_at (hT:Base (heap0 script) σ):σ[11]? = some (.list true (stepsV ways)):=hT.get rfl
theorem jumps_at (hT:Base (heap0 script) σ):σ[12]? = some (.list true (stepsV jumps)):=hT.get rfl
theorem hops_len {F R s:Nat}:∀ L:List (Int × Int),(hopsL F R s L).length<=L.length
 | []=>by simp [hopsL]
 | (x,y)::r=>by
  unfold hopsL
  have:=hops_len (F:=F) (R:=R) (s:=s) r
  split <;> simp <;> (first | exact this | exact Z.mpr1 this)
theorem sp_lreach (hT:Base (heap0 script) σ) (B:BoardOk F R b kq) (hb:σ[bd]? = some (.list false (intsOf (brdL (F*R) b)))) {c k s:Nat} (hc:c<2) (hk:1<=k/\k<=6) (hs:s<F*R) (hbs:b s=8*c+k) {S:List Nat} (hS:σ[sh]? = some (.list false (intsOf S))) :
  Ok (callN prog glb (m+2) 60 [.int F,.int R,.ref bd,.int s,.ref sh] σ) (fun r=>Base σ r.2/\∃ a,σ.length<=a/\r.1 = .ref a/\r.2[a]? = some (.list false (intsOf (reachL F R b (kq c) S c k s)))):=by
 revert F R b kq σ m bd sh script c k s S
 exists F,R,b,kq,σ,m,bd,sh,script
 intro hT B hb
 exists c,k,s
 intro hc hk hs hbs
 exists S
 intro hS
 have hN:=FRs_le B.fr
 have g1:getI σ (.ref bd) (.int s)=some (.int (b s)):=brd_get hb hs
 have q1:((b s:Nat):Int).fdiv 8=(c:Int):=by rw [Int.fdiv_eq_ediv_of_nonneg _ (by decide),hbs]; exact Z.e8d hk
 have q2:((b s:Nat):Int).fmod 8=(k:Int):=by rw [Int.fmod_eq_emod_of_nonneg _ (by decide),hbs]; exact Z.e8m hk
 refine enter rfl rfl (by decide) fun P_ hR_ => ?_
 simp only [f_law_reach]
 rw [b60]
 simp only [ssH,ssT,b_law_reach]
 have mid:2<=k/\k<=5->∀ {τ:H} {oa:Nat},Base σ τ->τ[oa]? = some (.list false (intsOf (if k=2 then hopsL F R s jumps else [])))->σ.length<=oa->∀ {w8 w9 w10 w11 w12 w13:V},Ok (evSs (callN prog glb (m+1)) glb rest60 [.int F,.int R,.ref bd,.int s,.ref sh,.int c,.int k,.ref oa,w8,w9,w10,w11,w12,w13] τ)
   (KR P_):=by
  intro hk' τ oa h1 h2 h3 w8 w9 w10 w11 w12 w13
  have e:(if k=2 then hopsL F R s jumps else [])++slideL F R (stopP b c k) ((List.range 8).filter (inD k)) s=seesL F R (stopP b c k) c k s:=by
   unfold seesL
   by_cases z:k=2
   ·subst z
    rw [if_pos rfl,inD_none]
    simp [slideL]
   ·rw [if_neg z,inD_dirs (by exact Z.or35 hk' z),if_neg (by exact Z.ne_gt (Z.ltn hk'.1)),if_neg (by exact z),if_neg (by exact Z.ne_lt (Nat.lt_of_le_of_lt hk'.2 (by decide)))]; rfl
  refine (reach_rest (m:=m) hT B hb hc hk' hs hS h1 h2 h3 ?_ ?_).mono ?_
  ·split
   ·exact Nat.le_trans (hops_len _) (by decide)
   ·simp
  ·split
   ·exact (hops_ok B.fr hs (by simp)).2
   ·simp
  ·rw [e]
   have e':(if s∈S then (seesL F R (stopP b c k) c k s).filter (colin F (kq c) s) else seesL F R (stopP b c k) c k s)=reachL F R b (kq c) S c k s:=by
    unfold reachL
    by_cases z:s∈S
    ·rw [if_pos z,if_neg (by simp [z]; exact ⟨(Z.ne_gt (Z.ltn hk'.1)),(Z.ne_lt (Nat.lt_of_le_of_lt hk'.2 (by decide)))⟩)]
    ·rw [if_neg z,if_pos (.inr (.inr z))]
   rw [e']
   rintro ⟨f,l,s⟩
   intro h
   cases f with
   | next=>exact Eq.mpr (hR_ _) h
   | ret v=>exact Eq.mpr (hR_ _) h
   | brk=>exact h
   | cont=>exact h
 simp only [wSs_eq] at mid
 simp! [g1,q1,q2,gl_15,gl_16,e_and,e_or]
 refine ⟨by decide,by decide,fun z1=>⟨by decide,(by decide:2<=LIM),by decide,(by decide:2<=LIM),(by decide:2<=LIM),?_⟩,fun z1=>⟨fun z6 => ?_,fun z6=>⟨(by decide:0<=LIM),fun z2 => ?_,fun z2 => ?_⟩⟩⟩
 ·obtain rfl:k=1:=by have:=eq_of_beq z1; exact Z.ueq this
  have est:[V.tup [Mob.A.int (-1),Mob.A.int (1 - 2*c)],V.tup [Mob.A.int 1,Mob.A.int (1 - 2*c)]]=stepsV (pawnSteps c):=by
   have:c=0\/c=1:=by lia
   rcases this with rfl | rfl <;> rfl
  rw [est]
  refine (sp_lhops (m:=m) B.fr hs (steps:=pawnSteps c) get_push (by unfold pawnSteps; split <;> decide)).at_ ?_
  simp! [oks,e_and,e_or]
  exact ⟨(Base.refl.push _).push _,_,by simp,rfl,get_push⟩
 ·obtain rfl:k=6:=by have:=eq_of_beq z6; exact Z.ueq this
  refine (sp_lhops (m:=m) B.fr hs (steps:=ways) (ways_at hT) (by decide)).at_ ?_
  simp! [oks,e_and,e_or]
  exact ⟨Base.refl.push _,_,Nat.le_refl _,rfl,get_push⟩
 ·obtain rfl:k=2:=by have:=eq_of_beq z2; exact Z.ueq this
  refine (sp_lhops (m:=m) B.fr hs (steps:=jumps) (jumps_at (hT.push _)) (by decide)).at_ ?_
  simp! [oks,e_and,e_or]
  exact mid (by decide) ((Base.refl.push _).push _) get_push (by simp)
 ·have n1:(k:Int)≠1:=ne_of_beq_false z1
  have n6:(k:Int)≠6:=ne_of_beq_false z6
  have n2:(k:Int)≠2:=ne_of_beq_false z2
  exact mid (by exact Z.r25 hk z1 z6) (Base.refl.push _) (by rw [if_neg (by exact Z.nk2 z2)]; exact get_push) (Nat.le_refl _)
end
noncomputable def Li7C (loc:List V) (σ:H) (Q:V × H->Prop):Prop:=Q (.ref (σ.length+7),σ++(List.replicate 7 (O.list false [])++[O.list false ((List.range 7).map fun k=>V.ref (σ.length+k))]))
theorem ok_list7 {Φ:Φt} {G:Nat->V}:wE Φ G (.list (.cons (.list .nil) (.cons (.list .nil) (.cons (.list .nil) (.cons (.list .nil) (.cons (.list .nil) (.cons (.list .nil) (.cons (.list .nil) .nil))))))))=Li7C:=by
 funext loc σ Q
 refine propext ?_
 unfold Li7C
 have l0:([]:List V).length<=LIM:=by decide
 simp only [e_list,es_cons,es_nil,l0,true_and,LstC,ConC,NilC,KLi,KE1,KE2]
 have h7:∀ a b c d e f g:V,[a,b,c,d,e,f,g].length<=LIM:=fun _ _ _ _ _ _ _=>(by decide:7<=LIM)
 simp only [h7,true_and,List.append_assoc,List.cons_append,List.nil_append,List.length_append,List.length_cons,List.length_nil]
 exact ⟨fun h=>h.2,fun h=>⟨by decide,h⟩⟩
noncomputable def pcsL (b:Nat->Nat) (c j:Nat):List Nat:=(List.range j).filter fun t=>b t != 0&&b t / 8==c
section
variable {F R:Nat} {b kq:Nat->Nat} {σ τ:H} {m:Nat} {bd sh:Nat} {script:List Int}
noncomputable def bykL (F R:Nat) (b kq:Nat->Nat) (c j k:Nat):List Nat:=((pcsL b c j).filter fun t=>b t%8==k).flatMap fun t=>rc F R b kq c (b t%8) t
noncomputable def tmN (F R:Nat) (b kq:Nat->Nat) (c j i:Nat):Nat:=(pcsL b c j).countP fun t=>decide (i∈rc F R b kq c (b t%8) t)
theorem pcsL_succ {c j:Nat}:pcsL b c (j+1)=if (b j != 0&&b j / 8==c)=true then pcsL b c j++[j] else pcsL b c j:=by
 unfold pcsL
 rw [List.range_succ,List.filter_append,List.filter_cons]
 split <;> simp
theorem pcsL_mem {c j t:Nat} (h:t∈pcsL b c j):t<j/\b t≠0/\b t / 8=c:=by
 unfold pcsL at h
 rw [List.mem_filter,List.mem_range] at h
 simpa using h
theorem rc_len (B:BoardOk F R b kq) {c k s:Nat} (hs:s<F*R) (hc:c<2):(rc F R b kq c k s).length<=32:=by
 rw [<- pc_mem (rc_nd B.fr hs hc) (fun t ht=>by have:=rc_lt B.fr hs hc ht; have:=FRs_le B.fr; lia)]
 exact pc_le
structure LkAt (F R:Nat) (b kq:Nat->Nat) (c j n0:Nat) (xa:Nat->Nat) (υ:H):Prop where
 len:n0+11<=υ.length
 re:υ[n0]? = some (.list false ((pcsL b c j).map fun t=>V.tup [.int (b t%8:Nat),.ref (xa t)]))
 xs:∀ t∈pcsL b c j,n0+11<=xa t/\υ[xa t]? = some (.list false (intsOf (rc F R b kq c (b t%8) t)))
 by_:υ[n0+8]? = some (.list false ((List.range 7).map fun k=>V.ref (n0+1+k)))
 bys:∀ k,k<7->υ[n0+1+k]? = some (.list false (intsOf (bykL F R b kq c j k)))
 ti:υ[n0+10]? = some (.list false (intsOf ((List.range (F*R)).map fun i=>tmN F R b kq c j i)))
theorem LkAt.base {c j n0:Nat} {xa:Nat->Nat} {σ τ:H} (B:Base σ τ) (h:LkAt F R b kq c j n0 xa σ):LkAt F R b kq c j n0 xa τ :=
 ⟨Nat.le_trans h.len B.len,B.get h.re,fun t ht=>⟨(h.xs t ht).1,B.get (h.xs t ht).2⟩,B.get h.by_,fun k hk=>B.get (h.bys k hk),B.get h.ti⟩
theorem set_same {σ:H} {a:Nat} {o:O} (h:σ[a]? = some o):σ.set a o=σ:=by
 apply List.ext_getElem?
 intro i
 by_cases e:a=i
 ·subst e; rw [set_eq h,h]
 ·rw [set_ne e]
theorem map_set {f:Nat->V} {n k:Nat} (hk:k<n):((List.range n).map f).set k (f k)=(List.range n).map f:=by
 apply List.ext_getElem?
 intro i
 by_cases e:k=i
 ·subst e; rw [List.getElem?_set_self (by simpa using hk)]; simp [hk]
 ·rw [List.getElem?_set_ne e]
theorem ints_set {f g:Nat->Nat} {n k:Nat} (hk:k<n) (hg:∀ i,i<n->g i=if i=k then f i+1 else f i):(intsOf ((List.range n).map f)).set k (V.int ((f k:Nat)+1:Int))=intsOf ((List.range n).map g):=by
 unfold intsOf
 rw [List.map_map,List.map_map]
 apply List.ext_getElem?
 intro i
 by_cases e:k=i
 ·subst e
  rw [List.getElem?_set_self (by simpa using hk),List.getElem?_map,List.getElem?_range hk]
  simp [hg k hk]
 ·rw [List.getElem?_set_ne e,List.getElem?_map,List.getElem?_map]
  by_cases hi:i<n
  ·rw [List.getElem?_range hi]
   simp [hg i hi,Ne.symm e]
  ·rw [List.getElem?_eq_none (by simpa using hi)]; rfl
theorem byk_len (B:BoardOk F R b kq) {c k:Nat} (hc:c<2):∀ j,j<=F*R->(bykL F R b kq c j k).length<=32*j
 | 0,_=>by simp [bykL,pcsL]
 | j+1,hj=>by
  have ih:=byk_len B (k:=k) hc j (by exact Nat.le_of_lt (Z.ltn hj))
  have:=rc_len (k:=b j%8) B (s:=j) (by exact Z.ltn hj) hc
  unfold bykL at ih ⊢
  rw [pcsL_succ]
  split
  ·rw [List.filter_append,List.flatMap_append,List.length_append,List.filter_cons]
   split
   ·rw [List.filter_nil,List.flatMap_cons,List.flatMap_nil,List.append_nil]; exact Nat.add_le_add ih this
   ·rw [List.filter_nil,List.flatMap_nil,List.length_nil]; exact Nat.add_le_add ih (by decide)
  ·exact Nat.le_trans ih (Nat.le_add_right _ _)
theorem look_turn (hT:Base (heap0 script) σ) (B:BoardOk F R b kq) (hb:σ[bd]? = some (.list false (intsOf (brdL (F*R) b)))) {c:Nat} (hc:c<2) {τ0:H} (b0:Base σ τ0) (hS:τ0[sh]? = some (.list false (intsOf (shOf F R b kq c))))
  {j:Nat} (hj:j<F*R) {xa:Nat->Nat} {υ:H} (bυ:Base τ0 υ) (L:LkAt F R b kq c j τ0.length xa υ) (hcnd:b j≠0/\b j / 8=c) {w9 w10:V} {Q:Fl × List V × H->Prop}
  (hQ:∀ xa' υ' w9 w10,Base τ0 υ'->LkAt F R b kq c (j+1) τ0.length xa' υ'->Q (.next,[.int F,.int R,.ref bd,.int c,.ref sh,.ref τ0.length,.ref (τ0.length+8),.ref (τ0.length+10),.int j,w9,w10],υ')) :
  Ok (evSs (callN prog glb (m+2)) glb (.cons (.asg 9 (.call 60 (.cons (.var 0) (.cons (.var 1) (.cons (.var 2) (.cons (.var 8) (.cons (.var 4) .nil)))))))
 (.cons (.expr (.meth .append (.var 5) (.tup (.cons (.bin .mod (.sub (.var 2) (.var 8)) (.int 8)) (.cons (.var 9) .nil)))))
 (.cons (.augI (.var 6) (.bin .mod (.sub (.var 2) (.var 8)) (.int 8)) .add (.var 9))
 (.cons (.for_ [10] (.var 9) (.cons (.augI (.var 7) (.var 10) .add (.int 1))
 .nil))
 .nil)))) [.int F,.int R,.ref bd,.int c,.ref sh,.ref τ0.length,.ref (τ0.length+8),.ref (τ0.length+10),.int j,w9,w10] υ) Q:=by
 revert F R b kq σ m bd sh script c τ0 j xa υ w9 w10 Q
 exists F,R,b,kq,σ,m,bd,sh,script
 intro hT B hb
 exists c
 intro hc
 exists τ0
 intro b0 hS
 exists j
 intro hj
 exists xa,υ
 intro bυ L hcnd
 exists w9,w10,Q
 intro hQ
 have hN:=FRs_le B.fr
 have hv:=B.val j hcnd.1
 refine nm (b j%8) fun k hk => ?_
 have hk6:1<=k/\k<=6:=by exact Z.k16 hk hv.1 hv.2.1
 have hbj:b j=8*c+k:=by exact Z.en hcnd.2 hk
 have q2:((b j:Nat):Int).fmod 8=(k:Int):=by rw (config:={}) [Int.fmod_eq_emod_of_nonneg _ (by decide)]; lia
 have bσ:=b0.trans bυ
 simp! [oks,e_and,e_or]
 refine (sp_lreach (m:=m) (hT.trans bσ) B (bσ.get hb) hc hk6 hj hbj (bυ.get hS)).mono ?_
 rintro ⟨_,υ1⟩
 intro zq
 refine an2 zq fun b1 zq2 => ?_
 clear zq
 refine ea1_3 zq2 fun a ha zq3 => ?_
 clear zq2
 subst zq3
 intro ga
 dsimp only at b1 ga ⊢
 have L1:=L.base b1
 have hl:=L.len
 have ga:υ1[a]? = some (.list false (intsOf (rc F R b kq c k j))):=ga
 have gb1:getI υ1 (.ref bd) (.int j)=some (.int (b j)):=brd_get ((bσ.trans b1).get hb) hj
 have lp:(pcsL b c j).length<=j:=by unfold pcsL; exact Nat.le_trans (List.length_filter_le _ _) (by simp)
 refine nm (υ1.set τ0.length (.list false (((pcsL b c j).map fun t=>V.tup [.int (b t%8:Nat),.ref (xa t)])++[V.tup [.int k,.ref a]]))) fun υ2 e2 => ?_
 have ap:methV .append (.ref τ0.length) (.tup [.int k,.ref a]) υ1=some (.none,υ2):=by rw (config:={}) [e2]; exact app_at L1.re (by rw (config:={}) [List.length_map]; unfold LIM; exact Nat.lt_of_le_of_lt lp (Z.ltR hj (Nat.le_trans hN.2.2.2.2 (by decide))))
 have gb2:getI υ2 (.ref bd) (.int j)=some (.int (b j)):=by
  refine brd_get ?_ hj
  have:=b0.get hb
  have lbd:bd<τ0.length:=by
   apply Classical.byContradiction; intro z
   rw (config:={}) [List.getElem?_eq_none (by exact Z.nle z)] at this; cases this
  rw (config:={}) [e2,set_ne (by exact Nat.ne_of_gt lbd)]
  exact (bσ.trans b1).get hb
 have gy:υ2[τ0.length+8]? = some (.list false ((List.range 7).map fun k=>V.ref (τ0.length+1+k))):=by rw (config:={}) [e2,set_ne (by exact Nat.ne_of_lt (Nat.lt_succ_of_le (Nat.le_add_right _ _)))]; exact L1.by_
 have gyk:getI υ2 (.ref (τ0.length+8)) (.int k)=some (.ref (τ0.length+1+k)):=getI_at gy (by rw (config:={}) [List.getElem?_map,List.getElem?_range (by exact Nat.lt_of_le_of_lt hk6.2 (by decide))]; rfl)
 have gk:υ2[τ0.length+1+k]? = some (.list false (intsOf (bykL F R b kq c j k))):=by rw (config:={}) [e2,set_ne (by exact Nat.ne_of_lt (Z.ltn (Nat.le_add_right _ _)))]; exact L1.bys k (by exact Z.k7 hk hv.2.1)
 have gout:υ2[a]? = some (.list false (intsOf (rc F R b kq c k j))):=by rw (config:={}) [e2,set_ne (by lia)]; exact ga
 have lb:=byk_len B (k:=k) hc j (by exact Nat.le_of_lt hj)
 have lr:=rc_len (k:=k) B hj hc
 refine nm (υ2.set (τ0.length+1+k) (.list false (intsOf (bykL F R b kq c j k++rc F R b kq c k j)))) fun υ3 e3 => ?_
 have ag:augO .add (.ref (τ0.length+1+k)) (.ref a) υ2=some (.ref (τ0.length+1+k),υ3):=by
  rw (config:={}) [e3,intsOf_append]; exact aug_at gk gout (by rw (config:={}) [intsOf_len,intsOf_len]; unfold LIM; exact Z.q32 lb lr hj hN.2.2.2.2) (by exact Z.lka hk hl ha)
 have gy3:υ3[τ0.length+8]? = some (.list false ((List.range 7).map fun k=>V.ref (τ0.length+1+k))):=by rw (config:={}) [e3,set_ne (by exact Z.lk8 hk hv.2.1)]; exact gy
 have st3:setI υ3 (.ref (τ0.length+8)) (.int k) (.ref (τ0.length+1+k))=some υ3:=by
  rw (config:={}) [setI_at gy3 (by simp; exact Z.k7 hk hv.2.1),map_set (f:=fun k=>V.ref (τ0.length+1+k)) (by lia),set_same gy3]
 have go3:υ3[a]? = some (.list false (intsOf (rc F R b kq c k j))):=by rw (config:={}) [e3,set_ne (by exact Z.lka hk hl ha)]; exact gout
 have gt3:υ3[τ0.length+10]? = some (.list false (intsOf ((List.range (F*R)).map fun i=>tmN F R b kq c j i))):=by rw (config:={}) [e3,set_ne (by exact Z.lk10 hk),e2,set_ne (by exact Nat.ne_of_lt (Nat.lt_succ_of_le (Nat.le_add_right _ _)))]; exact L1.ti
 simp! [gb1,q2,isL_at L1.re,ap,gb2,gyk,ag,st3,items_at go3,e_and,e_or]
 refine ⟨by decide,(by decide:2<=LIM),by decide,?_⟩
 refine ok_for (fun r loc τ=>∃ (L1 L2:List Nat) (w10:V),L1++L2=rc F R b kq c k j/\r=intsOf L2/\loc=[.int F,.int R,.ref bd,.int c,.ref sh,.ref τ0.length,.ref (τ0.length+8),.ref (τ0.length+10),.int j,.ref a,w10] /\
  τ=υ3.set (τ0.length+10) (.list false (intsOf ((List.range (F*R)).map fun i=>tmN F R b kq c j i+L1.count i)))) ?_ ?_ ⟨[],_,_,rfl,rfl,rfl,by simp only [List.count_nil,Nat.add_zero]; rw (config:={}) [set_same gt3]⟩
 ·intro I_ hI_ v r loc τ zq
  refine ea3_4 zq fun L1 L2 w10 p1 p2 zq2 => ?_
  clear zq
  subst zq2
  intro zq3
  subst zq3
  induction L2,v,r,p2 using intsOf_c with
  | k u L2 =>
   have hu:u<F*R:=rc_lt B.fr hj hc (by rw (config:={}) [<- p1]; simp)
   have gs:(υ3.set (τ0.length+10) (.list false (intsOf ((List.range (F*R)).map fun i=>tmN F R b kq c j i+L1.count i))))[τ0.length+10]? = some (.list false (intsOf ((List.range (F*R)).map fun i=>tmN F R b kq c j i+L1.count i))):=set_eq gt3
   have gu:=getI_at (k:=u) (w := .int (tmN F R b kq c j u+L1.count u:Nat)) gs (by unfold intsOf; rw (config:={}) [List.map_map,List.getElem?_map,List.getElem?_range hu]; rfl)
   have su:=setI_at (k:=u) (w := .int ((tmN F R b kq c j u+L1.count u:Nat)+1:Int)) gs (by simp [intsOf,hu])
   rw (config:={}) [ints_set (f:=fun i=>tmN F R b kq c j i+L1.count i) (g:=fun i=>tmN F R b kq c j i+(L1++[u]).count i) hu (fun i hi=>by
    rw (config:={}) [List.count_append,List.count_cons,List.count_nil]
    by_cases z:i=u
    ·subst z; simp; exact rfl
    ·have:u≠i:=fun q=>z q.symm
     simp [z,this]),List.set_set] at su
   refine ⟨still_at (by rw (config:={}) [set_ne (by exact Nat.ne_of_lt (Z.ltn (Nat.le_trans hl ha)))]; exact go3),?_⟩
   simp! [gu,su,e_and,e_or]
   exact ⟨L1++[u],L2,_,by rw (config:={}) [<- p1,List.append_assoc]; rfl,rfl,rfl,rfl⟩
 ·intro loc τ zq
  refine ea3_4 zq fun L1' L2 w10 p1 p2 zq2 => ?_
  clear zq
  subst zq2
  intro zq3
  subst zq3
  have:L2=[]:=List.map_eq_nil_iff.mp p2.symm
  subst this
  rw (config:={}) [List.append_nil] at p1
  subst p1
  refine ⟨still_at (by rw (config:={}) [set_ne (by exact Nat.ne_of_lt (Z.ltn (Nat.le_trans hl ha)))]; exact go3),?_⟩
  simp! [oks,e_and,e_or]
  have ps:pcsL b c (j+1)=pcsL b c j++[j]:=by rw (config:={}) [pcsL_succ,if_pos (by simp [hcnd.1,hcnd.2])]
  refine hQ (fun t=>if t=j then a else xa t) _ _ _ ?_ ⟨?_,?_,?_,?_,?_,?_⟩
  ·rw (config:={}) [e3,e2]
   exact (((bυ.trans b1).set (Nat.le_refl _) _).set (by exact Nat.le_of_lt (Z.ltn (Nat.le_add_right _ _))) _).set (by exact Nat.le_add_right _ _) _
  ·rw (config:={}) [List.length_set,e3,List.length_set,e2,List.length_set]; have:=b1.len; exact Nat.le_trans hl this
  ·rw (config:={}) [set_ne (by exact Nat.ne_of_gt (Nat.lt_succ_of_le (Nat.le_add_right _ _))),e3,set_ne (by exact Nat.ne_of_gt (Z.ltn (Nat.le_add_right _ _))),e2,set_eq L1.re,ps,List.map_append,hk]
   congr 3
   ·exact List.map_congr_left fun t ht=>by have:=(pcsL_mem ht).1; rw (config:={}) [if_neg (by exact Z.ne_lt this)]
   ·simp
  ·intro t ht
   rw (config:={}) [ps,List.mem_append] at ht
   rcases ht with ht | ht
   ·have:=(pcsL_mem ht).1
    rw (config:={}) [if_neg (by exact Z.ne_lt this)]
    obtain ⟨h1,h2⟩:=L1.xs t ht
    exact ⟨h1,by rw (config:={}) [set_ne (by exact Nat.ne_of_lt (Z.ltn h1)),e3,set_ne (by exact Z.lkx hk h1),e2,set_ne (by exact Nat.ne_of_lt (Z.ltR (Nat.lt_succ_of_le (Nat.le_add_right _ _)) h1))]; exact h2⟩
   ·have:t=j:=by simpa using ht
    subst this
    rw (config:={}) [if_pos rfl,<- hk]
    exact ⟨by exact Nat.le_trans hl ha,by rw (config:={}) [set_ne (by lia)]; exact go3⟩
  ·rw (config:={}) [set_ne (by exact Nat.ne_of_gt (Nat.add_lt_add_of_le_of_lt (Nat.le_refl _) (by decide)))]; exact gy3
  ·intro i hi
   rw (config:={}) [set_ne (by lia)]
   have bk:bykL F R b kq c (j+1) i=if i=k then bykL F R b kq c j k++rc F R b kq c k j else bykL F R b kq c j i:=by
    unfold bykL
    rw (config:={}) [ps,List.filter_append,List.flatMap_append,List.filter_cons,<- hk]
    by_cases z:i=k
    ·subst z; simp [<- hk]
    ·have:k≠i:=fun q=>z q.symm
     simp [z,this]
   rw (config:={}) [bk,e3]
   by_cases z:i=k
   ·subst z; rw (config:={}) [set_eq gk,if_pos rfl]
   ·rw (config:={}) [if_neg z,set_ne (by exact Z.lki z),e2,set_ne (by exact Nat.ne_of_lt (Z.ltn (Nat.le_add_right _ _)))]; exact L1.bys i hi
  ·rw (config:={}) [set_eq gt3]
   congr 3
   refine List.map_congr_left fun i hi => ?_
   unfold tmN
   rw (config:={}) [ps,List.countP_append,List.countP_cons,List.countP_nil,<- hk,count_nd (rc_nd B.fr hj hc)]
   simp
theorem look_cond {Φ:Φt} {G:Nat->V} {A B:Ss} {c j:Nat} {υ:H} {v0 v1 v4 v5 v6 v7 v9 v10:V} {Q:Fl × List V × H->Prop} (h:getI υ (.ref bd) (.int j)=some (.int (b j)))
  (h1:b j≠0/\b j / 8=c->Ok (evSs Φ G A [v0,v1,.ref bd,.int c,v4,v5,v6,v7,.int j,v9,v10] υ) Q) (h2:¬ (b j≠0/\b j / 8=c)->Ok (evSs Φ G B [v0,v1,.ref bd,.int c,v4,v5,v6,v7,.int j,v9,v10] υ) Q) :
  wS Φ G (.ite (.and (.cons (.sub (.var 2) (.var 8)) (.cons (.cmp .eq (.bin .fdiv (.sub (.var 2) (.var 8)) (.int 8)) (.var 3)) .nil))) A B) [v0,v1,.ref bd,.int c,v4,v5,v6,v7,.int j,v9,v10] υ Q:=by
 have q1:((b j:Nat):Int).fdiv 8=((b j / 8:Nat):Int):=by rw [Int.fdiv_eq_ediv_of_nonneg _ (by decide)]; rfl
 simp! [h,q1,e_and,e_or]
 simp only [wSs_eq] at h1 h2
 refine ⟨fun z=>⟨by decide,fun z'=>h1 ⟨?_,?_⟩,fun z'=>h2 fun q => ?_⟩,fun z=>⟨fun z' => ?_,fun z'=>h2 fun q => ?_⟩⟩
 ·simpa using z
 ·have:=eq_of_beq z'; exact Z.ueq this
 ·have:=ne_of_beq_false z'; lia
 ·rw [z] at z'; cases z'
 ·exact q.1 (by simpa using z)
theorem brd_len {N:Nat}:(intsOf (brdL N b)).length=N:=by unfold brdL; rw [intsOf_len]; simp
theorem sp_looks (hT:Base (heap0 script) σ) (B:BoardOk F R b kq) (hb:σ[bd]? = some (.list false (intsOf (brdL (F*R) b)))) {c:Nat} (hc:c<2) :
  Ok (callN prog glb (m+3) 61 [.int F,.int R,.ref bd,.int c] σ) (fun r=>Base σ r.2/\∃ sh n0 xa,r.1 = .tup [.ref sh,.ref n0,.ref (n0+8),.ref (n0+10)]/\r.2[sh]? = some (.list false (intsOf (shOf F R b kq c)))/\LkAt F R b kq c (F*R) n0 xa r.2):=by
 revert F R b kq σ m bd script c
 exists F,R,b,kq,σ,m,bd,script
 intro hT B hb
 exists c
 intro hc
 have hN:=FRs_le B.fr
 refine enter rfl rfl (by decide) fun P_ hR_ => ?_
 simp only [f_law_looks,b_law_looks]
 simp! [↓ok_list7,Li7C,e_and,e_or]
 refine (sp_lshields (m:=m) hT B hb hc).mono ?_
 rintro ⟨_,τ0⟩
 intro zq
 refine an2 zq fun b0 zq2 => ?_
 clear zq
 refine ea1_3 zq2 fun sh hsh zq3 => ?_
 clear zq2
 subst zq3
 intro gS
 dsimp only at b0 gS ⊢
 refine nm (τ0++[O.list false []]) fun τ1 e1 => ?_
 refine nm (τ1++[O.list false [],O.list false [],O.list false [],O.list false [],O.list false [],O.list false [],O.list false [],O.list false ((List.range 7).map fun k=>V.ref (τ1.length+k))]) fun τ2 e2 => ?_
 refine nm (τ2++[O.list false [V.int 0]]) fun τ3 e3 => ?_
 refine nm (τ3++[O.list false (List.replicate (F*R) (V.int 0))]) fun τ4 e4 => ?_
 have B1:Base τ0 τ1:=e1 ▸ Base.refl.push _
 have B2:Base τ1 τ2:=⟨_,e2⟩
 have B3:Base τ2 τ3:=e3 ▸ Base.refl.push _
 have B4:Base τ3 τ4:=e4 ▸ Base.refl.push _
 have l1:τ1.length=τ0.length+1:=by rw [e1]; simp
 have l2:τ2.length=τ0.length+9:=by rw [e2,List.length_append,l1]; simp
 have l3:τ3.length=τ0.length+10:=by rw [e3,List.length_append,l2]; rfl
 have l4:τ4.length=τ0.length+11:=by rw [e4,List.length_append,l3]; rfl
 have lnb:∀ {τ},Base σ τ->biV .len [.ref bd] τ=some (.int (F*R:Nat),τ):=fun h=>by rw [len_at (h.get hb),brd_len]
 have mu:binV .mul (.ref τ2.length) (.int (F*R:Nat)) τ3=some (.ref τ3.length,τ4):=by rw [e4]; exact mul_at (by rw [e3]; exact get_push) (by exact Nat.le_trans hN.2.2.2.2 (by decide))
 have E1:τ0++[O.list false []]=τ1:=e1.symm
 have E2:τ1++[O.list false [],O.list false [],O.list false [],O.list false [],O.list false [],O.list false [],O.list false [],O.list false ((List.range 7).map fun k=>V.ref (τ1.length+k))]=τ2:=e2.symm
 have E3:τ2++[O.list false [V.int 0]]=τ3:=e3.symm
 have ln3:=lnb (b0.trans (B1.trans (B2.trans B3)))
 have ln4:=lnb (b0.trans (B1.trans (B2.trans (B3.trans B4))))
 have it4:items τ4 (.rng 0 (F*R:Nat) 1)=_:=items_range (by unfold LIM; exact Nat.le_trans hN.2.2.2.2 (by decide)) rfl
 simp! [Li7C,E1,E2,E3,ln3,mu,ln4,it4,e_and,e_or]
 refine ⟨(by decide:0<=LIM),(by decide:1<=LIM),?_⟩
 rw [show τ1.length+7=τ0.length+8 by lia,l3]
 have X1:∀ k,k<8->τ4[τ0.length+1+k]? = ([O.list false [],O.list false [],O.list false [],O.list false [],O.list false [],O.list false [],O.list false [],O.list false ((List.range 7).map fun k=>V.ref (τ1.length+k))]:List O)[k]? := by
  intro k hk
  have:τ2[τ0.length+1+k]? = ([O.list false [],O.list false [],O.list false [],O.list false [],O.list false [],O.list false [],O.list false [],O.list false ((List.range 7).map fun k=>V.ref (τ1.length+k))]:List O)[k]? := by
   rw [e2,List.getElem?_append_right (by exact Z.nle (Z.fn (Nat.not_lt_of_le (Nat.le_of_eq l1))))]
   congr 1
   exact Z.pl l1
  have g:∃ o,([O.list false [],O.list false [],O.list false [],O.list false [],O.list false [],O.list false [],O.list false [],O.list false ((List.range 7).map fun k=>V.ref (τ1.length+k))]:List O)[k]? = some o:=by
   have:k<([O.list false [],O.list false [],O.list false [],O.list false [],O.list false [],O.list false [],O.list false [],O.list false ((List.range 7).map fun k=>V.ref (τ1.length+k))]:List O).length:=hk
   exact ⟨_,List.getElem?_eq_getElem this⟩
  obtain ⟨o,go⟩:=g
  rw [go] at this ⊢
  exact (B3.trans B4).get this
 have L0:LkAt F R b kq c 0 τ0.length (fun _=>0) τ4:=by
  refine ⟨by exact Nat.le_of_eq (Eq.symm l4),?_,?_,?_,?_,?_⟩
  ·exact (B2.trans (B3.trans B4)).get (by rw [e1]; exact get_push)
  ·intro t ht; simp [pcsL] at ht
  ·rw [show τ0.length+8=τ0.length+1+7 by exact rfl,X1 7 (by decide),l1]; rfl
  ·intro k hk
   rw [X1 k (by exact Z.ltR hk (by decide))]
   have:k=0\/k=1\/k=2\/k=3\/k=4\/k=5\/k=6:=by exact Z.or7 hk
   rcases this with rfl | rfl | rfl | rfl | rfl | rfl | rfl <;> rfl
  ·rw [<- l3,e4,get_push]
   congr 2
   unfold intsOf
   rw [List.map_map]
   apply List.ext_getElem?
   intro i
   by_cases hi:i<F*R
   ·rw [List.getElem?_replicate,if_pos hi,List.getElem?_map,List.getElem?_range hi]; rfl
   ·rw [List.getElem?_replicate,if_neg hi,List.getElem?_eq_none (by simpa using hi)]
 refine ok_for_range (fun j loc υ=>∃ xa w8 w9 w10,loc=[.int F,.int R,.ref bd,.int c,.ref sh,.ref τ0.length,.ref (τ0.length+8),.ref (τ0.length+10),w8,w9,w10]/\Base τ0 υ/\LkAt F R b kq c j τ0.length xa υ) ?_ ?_ ⟨_,_,_,_,rfl,B1.trans (B2.trans (B3.trans B4)),L0⟩
 ·intro I_ hI_ j loc υ hj zq
  refine ea4_3 zq fun xa w8 w9 w10 zq2 => ?_
  clear zq
  subst zq2
  intro bυ Lj
  refine ⟨rfl,?_⟩
  rw [bt_1,ok_some,KBd,wSs_eq,ss_cons',SeqC]
  simp only [List.set_cons_succ,List.set_cons_zero]
  refine look_cond (b:=b) (c:=c) (j:=j) (brd_get ((b0.trans bυ).get hb) hj) (fun hcnd => ?_) (fun hcnd => ?_)
  ·refine look_turn (m:=m) hT B hb hc b0 gS hj bυ Lj hcnd ?_
   intro xa' υ' w9 w10 h1 h2
   simp! [oks,e_and,e_or]
   exact ⟨xa',_,_,_,rfl,h1,h2⟩
  ·simp! [oks,e_and,e_or]
   have ps:pcsL b c (j+1)=pcsL b c j:=by rw [pcsL_succ,if_neg (by simpa using hcnd)]
   refine ⟨xa,_,_,_,rfl,bυ,Lj.len,by rw [ps]; exact Lj.re,by rw [ps]; exact Lj.xs,Lj.by_,?_,?_⟩
   ·unfold bykL; rw [ps]; exact Lj.bys
   ·unfold tmN; rw [ps]; exact Lj.ti
 ·intro loc υ zq
  refine ea4_3 zq fun xa w8 w9 w10 zq2 => ?_
  clear zq
  subst zq2
  intro bυ Lj
  refine ⟨rfl,?_⟩
  simp! [oks,e_and,e_or]
  exact ⟨(by decide:4<=LIM),b0.trans bυ,sh,τ0.length,xa,rfl,bυ.get gS,Lj⟩
end
section
variable {F R:Nat} {b kq:Nat->Nat} {σ τ:H} {m:Nat} {bd sh ht:Nat} {script:List Int}
theorem byk1 {c:Nat} (B:BoardOk F R b kq):bykL F R b kq c (F*R) 1=hitL F R b c:=by
 revert F R b kq c
 exists F,R,b,kq,c
 intro B
 unfold bykL hitL pcsL
 rw [List.filter_filter]
 have e:(List.range (F*R)).filter (fun t=>(b t%8==1)&&(b t != 0&&b t / 8==c))=(List.range (F*R)).filter (fun s=>b s==8*c+1):=by
  refine List.filter_congr fun t _ => ?_
  rw [Bool.eq_iff_iff]
  simp only [Bool.and_eq_true,beq_iff_eq,bne_iff_ne]
  rw [and_comm]
  exact enc0 (by decide) (by decide)
 rw [e]
 have key:∀ l:List Nat,(∀ t∈l,b t%8=1)->l.flatMap (fun t=>rc F R b kq c (b t%8) t)=l.flatMap fun s=>hopsL F R s (pawnSteps c):=by
  intro l
  induction l with
  | nil=>intro _; rfl
  | cons t l ih =>
   intro h
   rw [List.flatMap_cons,List.flatMap_cons,ih fun u hu=>h u (List.mem_cons_of_mem _ hu),h t List.mem_cons_self]
   unfold rc reachL seesL
   simp
 exact key _ fun t h=>by
  rw [List.mem_filter] at h
  have:=eq_of_beq h.2; exact Z.em (by decide) this
theorem int_beq {x y:Nat}:(((x:Nat):Int)==((y:Nat):Int))=(x==y):=by rw [Bool.eq_iff_iff]; simp; exact Z.ieq
theorem ok_ht {Φ:Φt} {G:Nat->V} {Q:V × H->Prop} {c t:Nat} {v2 v4 v5 v6 v8:V} (hF:2<=F/\F<=6/\3<=R/\R<=5/\F*R<=30) (ht:t<F*R) :
  wE Φ G (.ife (.cmp .eq (.var 3) (.int 0)) (.bin .fdiv (.var 7) (.var 0)) (.bin .sub (.bin .sub (.var 1) (.int 1)) (.bin .fdiv (.var 7) (.var 0)))) [.int F,.int R,v2,.int c,v4,v5,v6,.int t,v8] σ Q↔Q (.int (htOf F R c t),σ):=by
 have dd:(t:Int).fdiv F=((t / F:Nat):Int):=by rw [Int.fdiv_eq_ediv_of_nonneg _ (by exact Z.c0)]; rfl
 have hR:t / F<R:=Nat.div_lt_of_lt_mul ht
 simp! [dd,e_and,e_or]
 unfold htOf
 have c0:((c:Int)==0)=decide (c=0):=by rw [Bool.eq_iff_iff]; simp
 rw [c0]
 by_cases z:c=0
 ·simp only [z,decide_true,if_true,forall_const,Bool.true_eq_false,false_implies,and_true]
  exact ⟨fun h=>h.2,fun h=>⟨⟨by lia,by exact Z.na hF.2.1 (by decide)⟩,h⟩⟩
 ·simp only [z,decide_false,if_false,forall_const,Bool.false_eq_true,false_implies,true_and]
  have:(R:Int) - 1 - ((t / F:Nat):Int)=((R - 1 - t / F:Nat):Int):=by exact Z.csr hR
  rw [this]
  exact ⟨fun h=>h.2,fun h=>⟨⟨by lia,by exact Z.na hF.2.1 (by decide)⟩,h⟩⟩
theorem ite_cond {Φ:Φt} {G:Nat->V} {loc:List V} {t:E} {A B:Ss} {Q:Fl × List V × H->Prop} (cv:Bool) (h:Ok (evE Φ G t loc σ) fun p=>p.2=σ/\truth σ p.1=some cv) (h1:cv=true->Ok (evSs Φ G A loc σ) Q) (h2:cv=false->Ok (evSs Φ G B loc σ) Q) :
  wS Φ G (.ite t A B) loc σ Q:=by
 rw [s_ite,IteC,<- wE_eq]
 refine h.mono ?_
 rintro ⟨v,τ⟩
 intro zq
 refine an2 zq fun e ht => ?_
 clear zq
 dsimp only at e ht ⊢
 subst e
 rw [KIf,ht,ok_some,KIf2,<- wSs_eq,<- wSs_eq]
 exact ⟨h1,h2⟩
theorem nt {p:Bool} (h:(!p)=true):p=false:=by cases p <;> first | rfl | cases h
theorem nf {p:Bool} (h:(!p)=false):p=true:=by cases p <;> first | rfl | cases h
theorem four {p1 p2 p3 p4:Bool} {A B Y N:Prop} (ha:A) (hb:B) (y:(!p1 && !p2 && !p3 && !p4)=true->Y) (n:(!p1 && !p2 && !p3 && !p4)=false->N) :
  A/\((!p1)=true->B/\((!p2)=true->((!p3)=true->((!p4)=true->Y)/\((!p4)=false->N))/\((!p3)=false->((!p3)=true->Y)/\((!p3)=false->N)))/\((!p2)=false->((!p2)=true->Y)/\((!p2)=false->N)))/\((!p1)=false->((!p1)=true->Y)/\((!p1)=false->N)):=by
 revert p1 p2 p3 p4 A B Y N
 exists p1,p2,p3,p4,A,B,Y,N
 intro ha hb y n
 repeat' first
  | exact ha
  | exact hb
  | exact y rfl
  | exact n rfl
  | refine And.intro ?_ ?_
  | (intro h; have h:=nt h; first | subst h | cases h)
  | (intro h; have h:=nf h; first | subst h | cases h)
theorem sp_larea (B:BoardOk F R b kq) (hb:σ[bd]? = some (.list false (intsOf (brdL (F*R) b)))) {c:Nat} (hc:c<2) {S:List Nat} (hS:σ[sh]? = some (.list false (intsOf S))) (hH:σ[ht]? = some (.list false (intsOf (hitL F R b (1 - c))))) :
  Ok (callN prog glb (m+1) 62 [.int F,.int R,.ref bd,.int c,.ref sh,.ref ht] σ) (fun r=>r=(.ref σ.length,σ++[.list false (intsOf (areaL F R b S c))])):=by
 revert F R b kq σ m bd sh ht c S
 exists F,R,b,kq,σ,m,bd,sh,ht
 intro B hb
 exists c
 intro hc
 exists S
 intro hS hH
 have hN:=FRs_le B.fr
 have lnb:∀ {τ},Base σ τ->biV .len [.ref bd] τ=some (.int (F*R:Nat),τ):=fun h=>by rw [len_at (h.get hb),brd_len]
 have it:∀ τ,items τ (.rng 0 (F*R:Nat) 1)=some ((List.range (F*R)).map fun k:Nat=>V.int k):=fun τ=>items_range (by unfold LIM; exact Nat.le_trans hN.2.2.2.2 (by decide)) rfl
 refine enter rfl rfl (by decide) fun P_ hR_ => ?_
 simp only [f_law_area,b_law_area]
 simp! [lnb (Base.refl.push _),it]
 refine ⟨(by decide:0<=LIM),?_⟩
 refine ok_for_range (fun j loc τ=>∃ w7 w8,loc=[.int F,.int R,.ref bd,.int c,.ref sh,.ref ht,.ref σ.length,w7,w8]/\τ=σ++[.list false (intsOf ((List.range j).filter (areaB F R b S c)))]) ?_ ?_ ⟨_,_,rfl,rfl⟩
 ·intro I_ hI_ j loc τ hj zq
  refine ea2_2 zq fun w7 w8 zq2 => ?_
  clear zq
  subst zq2
  intro zq3
  subst zq3
  refine ⟨rfl,?_⟩
  have bτ:Base σ (σ++[.list false (intsOf ((List.range j).filter (areaB F R b S c)))]):=Base.refl.push _
  generalize hX:(List.range j).filter (areaB F R b S c)=X at bτ
  have lX:X.length<=j:=by rw [<- hX]; exact Nat.le_trans (List.length_filter_le _ _) (by simp)
  have hz:(intsOf X).length<LIM:=by rw [intsOf_len]; unfold LIM; exact Nat.lt_of_le_of_lt lX (Z.ltR hj (Nat.le_trans hN.2.2.2.2 (by decide)))
  have gb:getI (σ++[.list false (intsOf X)]) (.ref bd) (.int j)=some (.int (b j)):=brd_get (bτ.get hb) hj
  have k1:(((b j:Nat):Int)==(c:Int)*8+1)=(b j==8*c+1):=by rw [<- int_beq]; congr 1; lia
  have k5:(((b j:Nat):Int)==(c:Int)*8+5)=(b j==8*c+5):=by rw [<- int_beq]; congr 1; lia
  have k6:(((b j:Nat):Int)==(c:Int)*8+6)=(b j==8*c+6):=by rw [<- int_beq]; congr 1; lia
  have cont:areaB F R b S c j=false->∃ w7' w8':V,[V.int F,.int R,.ref bd,.int c,.ref sh,.ref ht,.ref σ.length,.int j,.int (htOf F R c j)]=[.int F,.int R,.ref bd,.int c,.ref sh,.ref ht,.ref σ.length,w7',w8']/\σ++[O.list false (intsOf X)]=σ++[.list false (intsOf ((List.range (j+1)).filter (areaB F R b S c)))]:=fun q =>
   ⟨_,_,rfl,by rw [List.range_succ,List.filter_append,List.filter_cons_of_neg (by rw [q]; decide),hX]; simp⟩
  have abs1:(c:Int).natAbs<2^64:=by exact Z.na1 hc (by decide)
  have absF:(F:Int).natAbs<2^64:=by exact Z.na hN.2.1 (by decide)
  have ht3:decide (((htOf F R c j:Nat):Int)<3)=decide (htOf F R c j<3):=by rw [Bool.eq_iff_iff]; simp; exact Z.iltr
  have tail:(b j==8*c+1&&(decide (htOf F R c j<3)||b (if c=0 then j+F else j - F) != 0))=false ->
    wS (callN prog glb m) glb (.ite (.and (.cons (.cmp .ne (.sub (.var 2) (.var 7)) (.bin .add (.bin .mul (.var 3) (.int 8)) (.int 5))) (.cons (.cmp .ne (.sub (.var 2) (.var 7)) (.bin .add (.bin .mul (.var 3) (.int 8)) (.int 6))) (.cons (.cmp .nin (.var 7) (.var 4)) (.cons (.cmp .nin (.var 7) (.var 5)) .nil))))) (.cons (.expr (.meth .append (.var 6) (.var 7))) .nil) .nil) [.int F,.int R,.ref bd,.int c,.ref sh,.ref ht,.ref σ.length,.int j,.int (htOf F R c j)] (σ++[.list false (intsOf X)])
     (KS (FloC .next) (KF (I_ (j+1)) (KS (SeqC (RetC (VarC 6)) (FloC .next)) (KR P_)))):=by
   intro q
   simp! [gb,k5,k6,nin_at (bτ.get hS),nin_at (bτ.get hH),isL_push,app_push hz,e_and,e_or]
   have e:areaB F R b S c j=(!(b j==8*c+5) && !(b j==8*c+6) && !S.contains j && !(hitL F R b (1 - c)).contains j):=by
    unfold areaB; rw [q]; rfl
   have yes:areaB F R b S c j=true->∃ w7' w8':V,[V.int F,.int R,.ref bd,.int c,.ref sh,.ref ht,.ref σ.length,.int j,.int (htOf F R c j)]=[.int F,.int R,.ref bd,.int c,.ref sh,.ref ht,.ref σ.length,w7',w8']/\σ++[O.list false (intsOf X++[V.int j])]=σ++[.list false (intsOf ((List.range (j+1)).filter (areaB F R b S c)))]:=fun q =>
    ⟨_,_,rfl,by rw [List.range_succ,List.filter_append,List.filter_cons_of_pos q,hX,List.filter_nil,intsOf_append]; rfl⟩
   rw [e] at cont yes
   exact four abs1 abs1 yes cont
  rw [bt_1,ok_some,KBd,wSs_eq]
  simp only [List.set_cons_succ,List.set_cons_zero,ss_cons',SeqC,s_asg,AsgC,KAs,ok_ht hN hj,ks_next]
  refine ite_cond (b j==8*c+1&&(decide (htOf F R c j<3)||b (if c=0 then j+F else j - F) != 0)) ?_ (fun q => ?_) (fun q => ?_)
  ·by_cases hp:b j=8*c+1
   ·have pw:=B.pawn j (by exact Z.em (by decide) hp)
    have hjF:j / F*F<=j:=Nat.div_mul_le_self j F
    have hj2:j<(j / F+1)*F:=by rw [Nat.mul_comm]; exact Nat.lt_mul_div_succ j (by exact Z.ltR (by decide) hN.1)
    have h1:F<=j:=by
     have:1*F<=j / F*F:=Nat.mul_le_mul_right F pw.1
     lia
    have h2:j+F<F*R:=by
     have:(j / F+1+1)*F<=R*F:=Nat.mul_le_mul_right F pw.2
     rw [Nat.add_mul (j / F+1) 1 F] at this
     rw [Nat.mul_comm F R]
     lia
    have ei:(j:Int)+(F:Int)*(1 - 2*(c:Int))=((if c=0 then j+F else j - F:Nat):Int):=by
     have:c=0\/c=1:=by lia
     rcases this with rfl | rfl
     ·simp
     ·simp; exact Z.csa h1
    have gb2:getI (σ++[.list false (intsOf X)]) (.ref bd) (.int ((if c=0 then j+F else j - F:Nat):Int))=some (.int (b (if c=0 then j+F else j - F))):=brd_get (bτ.get hb) (by split <;> (first | exact h2 | exact Nat.lt_of_le_of_lt (Nat.sub_le _ _) hj))
    generalize hn:(if c=0 then j+F else j - F)=n at gb2 ei
    simp! [gb,k1,ht3,ei,gb2,e_and,e_or]
    have bn:(((b n:Nat):Int) != 0)=(b n != 0):=by rw [bne,bne,show (0:Int)=((0:Nat):Int) from rfl,int_beq]
    rw [hp,beq_self_eq_true,bn]
    refine ⟨abs1,fun _=>⟨fun z=>⟨by decide,absF,?_⟩,fun z => ?_⟩,fun z=>by cases z⟩
    ·rw [z]; rfl
    ·rw [z]; rfl
   ·have hp':(b j==8*c+1)=false:=by simpa using hp
    simp! [gb,k1,hp',e_and,e_or]
    exact ⟨abs1,rfl⟩
  ·have q':areaB F R b S c j=false:=by unfold areaB; rw [q]; rfl
   simp! [oks,e_and,e_or]
   exact cont q'
  ·rw [wSs_eq,ss_nil',FloC,ks_next,SeqC]
   exact tail q
 ·intro loc τ zq
  refine ea2_2 zq fun w7 w8 zq2 => ?_
  clear zq
  subst zq2
  intro zq3
  subst zq3
  refine ⟨rfl,?_⟩
  simp! [oks,e_and,e_or]
  rfl
theorem ok_compA {ts:List Nat} {ok:H->Bool} {body:List V->H->Option H} {loc:List V} {Q:H->Prop} {σ0:H} (g:V->List V) {K:Nat} (hok:∀ ys,ok (σ0++[.list false ys])=true):∀ {xs ys0:List V},ys0.length+xs.length*10<=K->(∀ x∈xs,(g x).length<=10) ->
  (∀ x∈xs,∀ ys:List V,ys.length<=K->Ok (bindT ts x (σ0++[.list false ys]) loc) (KBd body (σ0++[.list false ys]) (fun τ=>τ=σ0++[.list false (ys++g x)])))->Q (σ0++[.list false (ys0++xs.flatMap g)]) ->
  Ok (compN ts ok body xs loc (σ0++[.list false ys0])) Q
 | [],ys0,_,_,_,hQ=>by
  unfold compN
  rw [if_pos (hok _),ok_some]
  simpa using hQ
 | x::r,ys0,hl,hg,hs,hQ=>by
  obtain ⟨l,e1,τ,e2,rfl⟩:=hs x List.mem_cons_self ys0 (by exact Nat.le_trans (Nat.le_add_right _ _) hl)
  have h10:=hg x List.mem_cons_self
  rw [List.length_cons] at hl
  unfold compN
  rw [if_pos (hok _),e1]
  dsimp only
  rw [e2]
  refine ok_compA g hok (by rw [List.length_append]; lia) (fun y hy=>hg y (List.mem_cons_of_mem _ hy)) (fun y hy=>hs y (List.mem_cons_of_mem _ hy)) ?_
  rw [List.flatMap_cons] at hQ
  rw [List.append_assoc]; exact hQ
noncomputable def ringF (F t:Nat):Int:=if 2<F then min (max ((t%F:Nat):Int) 1) ((F:Int) - 2) else (t%F:Nat)
noncomputable def ringR (F R t:Nat):Int:=min (max ((t / F:Nat):Int) 1) ((R:Int) - 2)
noncomputable def ringG (F:Nat) (y:Int):V->List V
 | .int a=>if 0<=a/\a<(F:Int) then [.int (y*F+a)] else []
 | _=>[]
theorem ringG_int {F:Nat} {y a:Int}:ringG F y (.int a)=if 0<=a/\a<(F:Int) then [.int (y*F+a)] else []:=rfl
noncomputable def ringO (F:Nat) (f:Int):V->List V
 | .int y=>([V.int (f - 1),.int f,.int (f+1)]).flatMap (ringG F y)
 | _=>[]
theorem ringL_eq {t:Nat} (hF:(F,R)∈FRs) (ht:t<F*R):([V.int (ringR F R t - 1),.int (ringR F R t),.int (ringR F R t+1)]).flatMap (ringO F (ringF F t))=intsOf (ringL F R t):=by
 revert F R t
 exists F,R,t
 intro hF ht
 have hN:=FRs_le hF
 have hr:1<=ringR F R t:=by
  exact (mm_bd hN.2.2.1).1
 unfold ringL
 rw [show (min (max ((t / F:Nat):Int) 1) ((R:Int) - 2))=ringR F R t from rfl,show (if 2<F then min (max ((t%F:Nat):Int) 1) ((F:Int) - 2) else (t%F:Nat))=ringF F t from rfl]
 generalize ringR F R t=y at hr
 generalize ringF F t=x
 dsimp only
 have one:∀ z:Int,0<=z->ringO F x (.int z)=intsOf ((([x - 1,x,x+1]:List Int).filter fun a:Int=>decide (0<=a)&&decide (a<(F:Int))).map fun a:Int=>(z*(F:Int)+a).toNat):=by
  intro z hz
  unfold ringO
  have key:∀ l:List Int,(l.map V.int).flatMap (ringG F z)=intsOf ((l.filter fun a:Int=>decide (0<=a)&&decide (a<(F:Int))).map fun a:Int=>(z*(F:Int)+a).toNat):=by
   intro l
   induction l with
   | nil=>rfl
   | cons a l ih =>
    rw [List.map_cons,List.flatMap_cons,ih,List.filter_cons]
    by_cases q:0<=a/\a<(F:Int)
    ·have:0<=z*(F:Int)+a:=Int.add_nonneg (Int.mul_nonneg hz (by exact Z.c0)) q.1
     rw [if_pos (by simp [q.1,q.2])]
     unfold intsOf
     rw [ringG_int,if_pos q,List.map_cons,List.map_cons,Int.toNat_of_nonneg this]
     rfl
    ·rw [if_neg (by simpa using q)]
     rw [ringG_int,if_neg q]; rfl
  exact key [x - 1,x,x+1]
 rw [List.flatMap_cons,List.flatMap_cons,List.flatMap_cons,List.flatMap_nil,one _ (by lia),one _ (by exact Int.le_trans (by decide) hr),one _ (by lia),List.flatMap_cons,List.flatMap_cons,List.flatMap_cons,List.flatMap_nil,List.append_nil,List.append_nil,intsOf_append,intsOf_append]
theorem ringG_len {y:Int} {v:V}:(ringG F y v).length<=1:=by
 unfold ringG
 split
 ·split <;> simp
 ·simp
set_option tactic.hygienic true in
theorem ringO_len {x:Int} {v:V}:(ringO F x v).length<=10:=by
 unfold ringO
 split
 ·simp only [List.flatMap_cons,List.flatMap_nil,List.length_append,List.length_nil]
  rename_i y
  have h1:=ringG_len (F:=F) (y:=y) (v := .int (x - 1))
  have h2:=ringG_len (F:=F) (y:=y) (v := .int x)
  have h3:=ringG_len (F:=F) (y:=y) (v := .int (x+1))
  exact Z.s3 h1 h2 h3
 ·simp
theorem sp_lring (hF:(F,R)∈FRs) {t:Nat} (ht:t<F*R):Ok (callN prog glb (m+1) 63 [.int F,.int R,.int t] σ) (fun r=>r=(.ref σ.length,σ++[.list false (intsOf (ringL F R t))])):=by
 revert F R σ m t
 exists F,R,σ,m
 intro hF
 exists t
 intro ht
 have hN:=FRs_le hF
 have hR:t / F<R:=Nat.div_lt_of_lt_mul ht
 have dd:(t:Int).fdiv F=((t / F:Nat):Int):=by rw [Int.fdiv_eq_ediv_of_nonneg _ (by exact Z.c0)]; rfl
 have dm:(t:Int).fmod F=((t%F:Nat):Int):=by rw [Int.fmod_eq_emod_of_nonneg _ (by exact Z.c0)]; rfl
 have h1:t%F<F:=Nat.mod_lt _ (by exact Z.ltR (by decide) hN.1)
 have eR:min (max ((t / F:Nat):Int) 1) ((R:Int) - 2)=ringR F R t:=rfl
 have go:∀ {v3 v4 v5 v6:V} {x y:Int},x=ringF F t->y=ringR F R t ->
    Ok (evE (callN prog glb m) glb (.comp (.bin .add (.bin .mul (.var 5) (.var 0)) (.var 6)) [5] (.tup (.cons (.bin .sub (.var 4) (.int 1)) (.cons (.var 4) (.cons (.bin .add (.var 4) (.int 1)) .nil)))) .nil (.cons [6] (.tup (.cons (.bin .sub (.var 3) (.int 1)) (.cons (.var 3) (.cons (.bin .add (.var 3) (.int 1)) .nil)))) (.cons (.cmp2 .le .lt (.int 0) (.var 6) (.var 0)) .nil) .nil)) [.int F,.int R,.int t,.int x,.int y,v5,v6] σ)
   (fun r=>r=(.ref σ.length,σ++[.list false (intsOf (ringL F R t))])):=by
  intro v3 v4 v5 v6 x y ex ey
  have hy:y.natAbs<100:=by rw [ey]; exact mm_abs hN.2.2.1 (by exact Nat.lt_of_le_of_lt hN.2.2.2.1 (by decide))
  simp! [e_comp,e_and,e_or]
  refine ⟨(by decide:3<=LIM),?_⟩
  refine ok_compA (K:=1000) (ringO F (ringF F t)) (fun ys=>rfl) (by simp) (fun v _=>ringO_len) ?_ (by rw [List.nil_append,<- ringL_eq hF ht,<- ey]; rfl)
  intro v hv ys hys
  have:∃ z:Int,v = .int z/\z.natAbs<102:=by
   simp only [List.map_cons,List.map_nil,Mob.A.toV,List.mem_cons,List.not_mem_nil,or_false] at hv
   rcases hv with rfl | rfl | rfl
   ·exact ⟨_,rfl,abs_near (d := -1) hy (by decide)⟩
   ·exact ⟨_,rfl,Nat.lt_trans hy (by decide)⟩
   ·exact ⟨_,rfl,abs_near hy (by decide)⟩
  refine ea1_2 this fun z zq => ?_
  try clear this
  subst zq
  intro hz
  simp! [ok_evC,if_nil,g_cons,e_and,e_or]
  refine ⟨(by decide:3<=LIM),?_⟩
  refine ok_compA (K:=2000) (ringG F z) (fun ys=>rfl) (by simp; exact Nat.le_trans hys (by decide)) (fun v _=>Nat.le_trans ringG_len (by decide)) ?_ (by rw [ex]; rfl)
  intro v hv ys hys
  have:∃ w:Int,v = .int w:=by
   simp only [List.map_cons,List.map_nil,Mob.A.toV,List.mem_cons,List.not_mem_nil,or_false] at hv
   rcases hv with rfl | rfl | rfl <;> exact ⟨_,rfl⟩
  obtain ⟨w,rfl⟩:=this
  simp! [ok_evC,if_cons,if_nil,g_nil,ok_evM,e_and,e_or]
  have hz':z.natAbs<2^64:=by exact Z.nat hz (by decide)
  have gt:0<=w/\w<(F:Int)->ringG F z (.int w)=[.int (z*F+w)]:=fun q=>by rw [ringG_int,if_pos q]
  have gf:¬ (0<=w/\w<(F:Int))->ringG F z (.int w)=[]:=fun q=>by rw [ringG_int,if_neg q]
  have ap:∀ v:V,methV .append (.ref σ.length) v (σ++[.list false ys])=some (.none,σ++[.list false (ys++[v])]):=fun v=>app_push (by unfold LIM; exact Nat.lt_of_le_of_lt hys (by decide))
  refine ⟨fun q => ?_,fun q=>⟨fun q' => ?_,fun q'=>⟨hz',?_⟩⟩⟩
  ·rw [gf (fun w=>by have:=of_decide_eq_false q; lia),List.append_nil]
  ·rw [gf (fun w=>by have:=of_decide_eq_false q'; lia),List.append_nil]
  ·rw [ap,ok_some,gt ⟨of_decide_eq_true q,of_decide_eq_true q'⟩,KMm2]
 refine enter rfl rfl (by decide) fun P_ hR_ => ?_
 simp only [f_law_ring,b_law_ring]
 simp! [dd,dm,eR]
 refine ⟨⟨by lia,by exact Z.na hN.2.1 (by decide)⟩,fun q=>⟨⟨by lia,by lia⟩,?_⟩,fun q=>⟨⟨by lia,by exact Z.na hN.2.1 (by decide)⟩,?_⟩⟩
 ·rw [<- wE_eq]; exact (go (v3 := .none) (v4 := .none) (by unfold ringF; rw [if_pos (by have:=of_decide_eq_true q; exact Z.ucl this)]) rfl).mono fun r h=>Eq.mpr (hR_ r) h
 ·rw [<- wE_eq]; exact (go (v3 := .none) (v4 := .none) (by unfold ringF; rw [if_neg (by have:=of_decide_eq_false q; lia)]) rfl).mono fun r h=>Eq.mpr (hR_ r) h
end
theorem ok_iteB {Φ:Φt} {G:Nat->V} {loc:List V} {σ:H} {t:E} {X Y:Ss} {Q:Fl × List V × H->Prop} (cv:Bool) (h:Ok (evE Φ G t loc σ) fun p=>Base σ p.2/\truth p.2 p.1=some cv) (h1:∀ τ,Base σ τ->cv=true->Ok (evSs Φ G X loc τ) Q) (h2:∀ τ,Base σ τ->cv=false->Ok (evSs Φ G Y loc τ) Q) :
  wS Φ G (.ite t X Y) loc σ Q:=by
 rw [s_ite,IteC,<- wE_eq]
 refine h.mono ?_
 rintro ⟨v,τ⟩
 intro zq
 refine an2 zq fun e ht => ?_
 clear zq
 dsimp only at e ht ⊢
 rw [KIf,ht,ok_some,KIf2,<- wSs_eq,<- wSs_eq]
 exact ⟨h1 τ e,h2 τ e⟩
noncomputable def lkV (sh n0:Nat):V := .tup [.ref sh,.ref n0,.ref (n0+8),.ref (n0+10)]
theorem lk_1 {σ:H} {sh n0:Nat}:getI σ (lkV sh n0) (.int 1)=some (.ref n0):=rfl
theorem lk_2 {σ:H} {sh n0:Nat}:getI σ (lkV sh n0) (.int 2)=some (.ref (n0+8)):=rfl
theorem lk_3 {σ:H} {sh n0:Nat}:getI σ (lkV sh n0) (.int 3)=some (.ref (n0+10)):=rfl
theorem rd_lk {sh n0:Nat}:rdV (lkV sh n0)=some (lkV sh n0):=rfl
section
variable {F R:Nat} {b kq:Nat->Nat} {σ τ:H} {m:Nat} {script:List Int}
theorem LkAt.byG {c j n0 k:Nat} {xa:Nat->Nat} (L:LkAt F R b kq c j n0 xa σ) (hk:k<7):getI σ (.ref (n0+8)) (.int k)=some (.ref (n0+1+k)) :=
 getI_at L.by_ (by rw [List.getElem?_map,List.getElem?_range hk]; rfl)
noncomputable def inE (F R:Nat) (b kq:Nat->Nat) (c:Nat) (gd:List Nat) (t:Nat):Bool:=decide (2<=b t%8)&&decide (b t%8<=5)&&(rc F R b kq c (b t%8) t).any fun i=>gd.contains i
noncomputable def liN (F R:Nat) (b kq:Nat->Nat) (c:Nat) (t:Nat):Nat:=((rc F R b kq (1 - c) (b t%8) t).filter fun u=>(bykL F R b kq c (F*R) 6).contains u).length
theorem sp_linto (hT:Base (heap0 script) σ) (B:BoardOk F R b kq) {c:Nat} (hc:c<2) {s0 n0 s1 n1 rga gda:Nat} {xa xb:Nat->Nat} (L0:LkAt F R b kq c (F*R) n0 xa σ) (L1:LkAt F R b kq (1 - c) (F*R) n1 xb σ)
  {rg gd:List Nat} (hr:σ[rga]? = some (.list false (intsOf rg))) (hg:σ[gda]? = some (.list false (intsOf gd))) (lr:rg.length<=1000) :
  Ok (callN prog glb (m+1) 64 [lkV s0 n0,lkV s1 n1,.ref rga,.ref gda] σ) (fun r=>Base σ r.2/\r.1 = .tup [.int (((rg.filter fun t=>(bykL F R b kq (1 - c) (F*R) 1).contains t).length:Nat)+(((pcsL b (1 - c) (F*R)).filter (inE F R b kq (1 - c) gd)).length:Nat):Int),
   .int (((pcsL b (1 - c) (F*R)).filter (inE F R b kq (1 - c) gd)).map fun t=>wt (b t%8)).sum,.int ((((pcsL b (1 - c) (F*R)).filter (inE F R b kq (1 - c) gd)).map (liN F R b kq c)).sum:Nat)]):=by
 revert F R b kq σ m script c s0 n0 s1 n1 rga gda xa xb rg gd
 exists F,R,b,kq,σ,m,script
 intro hT B
 exists c
 intro hc
 exists s0,n0,s1,n1,rga,gda,xa,xb
 intro L0 L1
 exists rg,gd
 intro hr hg lr
 have hN:=FRs_le B.fr
 have hc':1 - c<2:=by exact Z.sb
 have g6:getI σ (.ref (n0+8)) (.int 6)=some (.ref (n0+1+6)):=L0.byG (k:=6) (by decide)
 refine enter rfl rfl (by decide) fun P_ hR_ => ?_
 simp only [f_law_into,b_law_into]
 simp! [lk_1,lk_2,rd_lk,g6,e_comp,items_at hr]
 refine ok_sift rg (fun t=>(bykL F R b kq (1 - c) (F*R) 1).contains t) rfl (by simp) lr (fun υ h=>still_at (h.get hr)) (fun t ht υ h => ?_) ?_
 ·have g1:getI υ (.ref (n1+8)) (.int 1)=some (.ref (n1+1+1)):=(L1.base h).byG (k:=1) (by decide)
  simp! [if_cons,if_nil,lk_2,rd_lk,g1,in_at ((L1.base h).bys 1 (by decide)),e_and,e_or]
  exact ⟨fun q=>by rw [q],fun q=>by rw [q]⟩
 refine nm (σ++[O.list false (intsOf (rg.filter fun t=>(bykL F R b kq (1 - c) (F*R) 1).contains t))]) fun τ e => ?_
 have bτ:Base σ τ:=e ▸ Base.refl.push _
 have gτ:τ[σ.length]? = some (.list false (intsOf (rg.filter fun t=>(bykL F R b kq (1 - c) (F*R) 1).contains t))):=by rw [e]; exact get_push
 rw [<- e]
 simp! [len_at gτ,intsOf_len,lk_1,rd_lk,items_at (bτ.get L1.re)]
 generalize (rg.filter fun t=>(bykL F R b kq (1 - c) (F*R) 1).contains t).length=N0 at hR_ ⊢
 refine ok_for (fun r loc υ=>∃ (E1 E2:List Nat) (w8 w9 w10 w11 w12:V),E1++E2=pcsL b (1 - c) (F*R)/\r=E2.map (fun t=>V.tup [.int (b t%8:Nat),.ref (xb t)])/\Base σ υ /\
  loc=[lkV s0 n0,lkV s1 n1,.ref rga,.ref gda,.ref (n0+1+6),.int ((N0:Nat)+((E1.filter (inE F R b kq (1 - c) gd)).length:Nat):Int),.int ((E1.filter (inE F R b kq (1 - c) gd)).map fun t=>wt (b t%8)).sum,.int (((E1.filter (inE F R b kq (1 - c) gd)).map (liN F R b kq c)).sum:Nat),w8,w9,w10,w11,w12]) ?_ ?_ ⟨[],_,_,_,_,_,_,rfl,rfl,bτ,rfl⟩
 ·intro I_ hI_ v r loc υ zq
  refine ea7_4 zq fun E1 E2 w8 w9 w10 w11 w12 p1 p2 bυ zq2 => ?_
  clear zq
  subst zq2
  induction E2,v,r,p2 using map_c with
  | k t E2 =>
   have htm:t∈pcsL b (1 - c) (F*R):=by rw [<- p1]; simp
   have hpm:=pcsL_mem htm
   have ho:=(L1.xs t htm).2
   have lo:=rc_len (k:=b t%8) B hpm.1 hc'
   refine ⟨still_at (bυ.get L1.re),?_⟩
   rw [bt_2,ok_some,KBd,wSs_eq,ss_cons',SeqC]
   simp only [List.set_cons_succ,List.set_cons_zero,tv_int,tv_ref]
   have hv8:=(B.val t hpm.2.1).2.1
   refine ok_iteB (inE F R b kq (1 - c) gd t) ?_ (fun υ' b' q => ?_) (fun υ' b' q => ?_)
   ·have c2:decide ((2:Int)<=((b t%8:Nat):Int))=decide (2<=b t%8):=by rw [Bool.eq_iff_iff]; simp; exact Z.iml
    have c5:decide (((b t%8:Nat):Int)<=5)=decide (b t%8<=5):=by rw [Bool.eq_iff_iff]; simp; exact Z.imr
    simp! [e_comp,items_at (bυ.get ho),c2,c5,e_and,e_or]
    unfold inE
    refine ⟨fun q=>⟨Base.refl,by rw [q]; rfl⟩,fun q=>⟨fun q' => ?_,fun q'=>⟨Base.refl,by rw [q,q']; rfl⟩⟩⟩
    rw [q,q']
    refine ok_sift (rc F R b kq (1 - c) (b t%8) t) (fun u=>gd.contains u) rfl (by simp) (by exact Nat.le_trans lo (by decide)) (fun υ' h=>still_at ((bυ.trans h).get ho)) (fun u hu υ' h => ?_) ?_
    ·simp! [if_cons,if_nil,in_at ((bυ.trans h).get hg),e_and,e_or]
     exact ⟨fun q=>by rw [q],fun q=>by rw [q]⟩
    ·refine ⟨Base.refl.push _,?_⟩
     rw [tr_at get_push]
     congr 1
     rw [Bool.eq_iff_iff,Bool.true_and,Bool.true_and,List.any_eq_true]
     unfold intsOf
     simp
   ·have q2:2<=b t%8/\b t%8<=5:=by
     unfold inE at q
     simp only [Bool.and_eq_true,decide_eq_true_eq] at q
     exact q.1
    have gw:getI υ' (.ref 3) (.int (b t%8:Nat))=some (.int (wt (b t%8))):=by
     have:b t%8=2\/b t%8=3\/b t%8=4\/b t%8=5:=by exact Z.or25 q2.1 q2.2
     rcases this with h | h | h | h <;> rw [h] <;> exact getI_base (hT.trans (bυ.trans b')) rfl
    simp! [gl_13,gw,e_comp,items_at ((bυ.trans b').get ho)]
    refine ok_sift (rc F R b kq (1 - c) (b t%8) t) (fun u=>(bykL F R b kq c (F*R) 6).contains u) rfl (by simp) (by exact Nat.le_trans lo (by decide)) (fun υ2 h=>still_at ((bυ.trans (b'.trans h)).get ho)) (fun u hu υ2 h => ?_) ?_
    ·simp! [if_cons,if_nil,in_at ((L0.base (bυ.trans (b'.trans h))).bys 6 (by decide)),e_and,e_or]
     exact ⟨fun q=>by rw [q],fun q=>by rw [q]⟩
    ·simp! [len_at (get_push (σ:=υ')),intsOf_len,e_and,e_or]
     refine ⟨E1++[t],E2,.int (b t%8:Nat),.ref (xb t),w10,w11,w12,by rw [<- p1,List.append_assoc]; rfl,rfl,(bυ.trans b').push _,?_⟩
     have e:(E1++[t]).filter (inE F R b kq (1 - c) gd)=E1.filter (inE F R b kq (1 - c) gd)++[t]:=by rw [List.filter_append,List.filter_cons_of_pos q,List.filter_nil]
     rw [e,List.length_append,List.map_append,List.sum_append,List.map_append,List.sum_append]
     simp only [List.map_cons,List.map_nil,List.sum_cons,List.sum_nil,List.length_cons,List.length_nil,Int.add_zero,Nat.add_zero,Nat.zero_add,Int.natCast_add,Int.add_assoc]
     rfl
   ·simp! [oks,e_and,e_or]
    refine ⟨E1++[t],E2,.int (b t%8:Nat),.ref (xb t),w10,w11,w12,by rw [<- p1,List.append_assoc]; rfl,rfl,bυ.trans b',?_⟩
    have e:(E1++[t]).filter (inE F R b kq (1 - c) gd)=E1.filter (inE F R b kq (1 - c) gd):=by rw [List.filter_append,List.filter_cons_of_neg (by rw [q]; decide),List.filter_nil,List.append_nil]
    rw [e]
 ·intro loc υ zq
  refine ea7_4 zq fun E1 E2 w8 w9 w10 w11 w12 p1 p2 bυ zq2 => ?_
  clear zq
  subst zq2
  have:E2=[]:=List.map_eq_nil_iff.mp p2.symm
  subst this
  rw [List.append_nil] at p1
  subst p1
  refine ⟨still_at (bυ.get L1.re),?_⟩
  simp! [oks,e_and,e_or]
  exact ⟨(by decide:3<=LIM),bυ⟩
end
section
variable {F R:Nat} {b kq:Nat->Nat}
theorem plA_iff {c:Nat} {q:Nat × Nat}:q∈plA b c↔(1<=q.1/\q.1<=6)/\q.2<32/\b q.2=8*c+q.1:=by
 obtain ⟨k,t⟩:=q
 unfold plA plK
 simp only [List.mem_flatMap,List.mem_map,List.mem_filter,List.mem_range,beq_iff_eq,Prod.mk.injEq]
 constructor
 ·intro zq
  refine ea1_2 zq fun k' hk zq2 => ?_
  clear zq
  refine ea1_3 zq2 fun t' zq3 => ?_
  clear zq2
  refine an2 zq3 fun h1 h2 => ?_
  clear zq3
  intro zq4
  subst zq4
  intro zq5
  subst zq5
  refine ⟨?_,h1,h2⟩
  simp at hk
  exact Z.ro16 hk
 ·intro zq
  refine an3 zq fun hk h1 h2 => ?_
  clear zq
  exact ⟨k,by simp; exact Z.or16 hk,t,⟨h1,h2⟩,rfl,rfl⟩
theorem plA_nd {c:Nat}:(plA b c).Nodup:=by
 unfold plA List.Nodup
 rw [List.pairwise_flatMap]
 refine ⟨fun k _ => ?_,?_⟩
 ·unfold plK
  rw [List.pairwise_map]
  have:((List.range 32).filter fun i=>b i==8*c+k).Nodup:=List.nodup_range.filter _
  exact List.Pairwise.imp (fun h e=>h (by cases e; rfl)) this
 ·have:([1,2,3,4,5,6]:List Nat).Pairwise (· ≠ ·):=by decide
  refine List.Pairwise.imp (fun {k k'} h => ?_) this
  intro x hx y hy e
  unfold plK at hx hy
  rw [List.mem_map] at hx hy
  refine ea1_2 hx fun t _ zq => ?_
  try clear hx
  subst zq
  refine ea1_2 hy fun t' _ zq => ?_
  try clear hy
  subst zq
  cases e
  exact h rfl
noncomputable def pcsK (b:Nat->Nat) (c N:Nat):List (Nat × Nat):=(pcsL b c N).map fun t=>(b t%8,t)
theorem plA_perm (B:BoardOk F R b kq) {c:Nat}:(plA b c).Perm (pcsK b c (F*R)):=by
 have nd:(pcsK b c (F*R)).Nodup:=by
  unfold pcsK List.Nodup
  rw [List.pairwise_map]
  have:(pcsL b c (F*R)).Nodup:=List.nodup_range.filter _
  exact List.Pairwise.imp (fun h e=>h (congrArg Prod.snd e)) this
 refine (List.perm_ext_iff_of_nodup plA_nd nd).mpr ?_
 rintro ⟨k,t⟩
 rw [plA_iff]
 unfold pcsK pcsL
 simp only [List.mem_map,List.mem_filter,List.mem_range,Bool.and_eq_true,bne_iff_ne,beq_iff_eq,Prod.mk.injEq]
 constructor
 ·intro zq
  refine an3 zq fun hk h1 h2 => ?_
  clear zq
  refine ⟨t,⟨?_,by lia,by exact Z.ed hk h2⟩,by exact Z.em hk h2,rfl⟩
  apply Classical.byContradiction
  intro z
  have:=B.out t (by exact Z.nle z)
  lia
 ·intro zq
  refine ea1_3 zq fun t' zq2 => ?_
  clear zq
  refine an3 zq2 fun h1 h2 h3 => ?_
  clear zq2
  intro h4 zq3
  subst zq3
  have:=B.val t' h2
  have:=FRs_le B.fr
  refine ⟨by lia,by exact Z.ltR h1 (Nat.le_trans this.2.2.2.2 (by decide)),by exact Z.en h3 (Eq.symm h4)⟩
theorem cnt_tm (B:BoardOk F R b kq) {c i:Nat}:cntR F R b kq c (plA b c) i=tmN F R b kq c (F*R) i:=by
 unfold cntR tmN
 rw [(plA_perm B).countP_eq]
 unfold pcsK
 rw [List.countP_map]
 rfl
theorem by_byk (B:BoardOk F R b kq) {c k:Nat} (hk:1<=k):byV F R b kq c (plA b c) k=bitsOf (bykL F R b kq c (F*R) k):=by
 unfold byV
 rw [if_neg (by exact Z.nz hk (by decide))]
 refine ibit_inj fun i => ?_
 rw [ibit_bitsOf,ibit_bitsOf,Bool.eq_iff_iff,decide_eq_true_eq,decide_eq_true_eq]
 unfold bykL
 simp only [List.mem_flatMap,List.mem_filter,beq_iff_eq]
 constructor
 ·intro zq
  refine ea1_2 zq fun q zq2 => ?_
  clear zq
  refine an2 zq2 fun h1 h2 => ?_
  clear zq2
  intro h3
  rw [(plA_perm B).mem_iff] at h1
  unfold pcsK at h1
  rw [List.mem_map] at h1
  refine ea1_2 h1 fun t h4 zq => ?_
  try clear h1
  subst zq
  exact ⟨t,⟨h4,h2⟩,h3⟩
 ·intro zq
  refine ea1_2 zq fun t zq2 => ?_
  clear zq
  refine an2 zq2 fun h1 h2 => ?_
  clear zq2
  intro h3
  exact ⟨(b t%8,t),⟨(plA_perm B).mem_iff.mpr (by unfold pcsK; exact List.mem_map_of_mem h1),h2⟩,h3⟩
theorem by0_tm (B:BoardOk F R b kq) {c:Nat}:byV F R b kq c (plA b c) 0=bitsOf ((List.range (F*R)).filter fun t=>tmN F R b kq c (F*R) t != 0):=by
 refine ibit_inj fun i => ?_
 rw [by0_bits,ibit_filter,cnt_tm B,Bool.eq_iff_iff]
 simp only [decide_eq_true_eq,Bool.and_eq_true,bne_iff_ne]
 constructor
 ·intro h
  refine ⟨?_,by exact Nat.ne_of_gt (Z.ltn h)⟩
  unfold tmN at h
  refine ea1_2 (List.countP_pos_iff.mp h) fun t h1 h2 => ?_
  have hp:=pcsL_mem h1
  have:=B.val t hp.2.1
  exact rc_lt B.fr hp.1 (by exact Z.c2 hp.2.2 this.2.2) (of_decide_eq_true h2)
 ·lia
theorem tm_lt (B:BoardOk F R b kq) {c i:Nat} (h:1<=tmN F R b kq c (F*R) i):i<F*R:=by
 unfold tmN at h
 refine ea1_2 (List.countP_pos_iff.mp h) fun t h1 h2 => ?_
 have hp:=pcsL_mem h1
 have:=B.val t hp.2.1
 exact rc_lt B.fr hp.1 (by exact Z.c2 hp.2.2 this.2.2) (of_decide_eq_true h2)
theorem tw_tm (B:BoardOk F R b kq) {c:Nat} {y:Int} (h:∀ i,ibit y i=decide (2<=cntR F R b kq c (plA b c) i)):y=bitsOf ((List.range (F*R)).filter fun t=>decide (1<tmN F R b kq c (F*R) t)):=by
 refine ibit_inj fun i => ?_
 rw [h,ibit_filter,cnt_tm B,Bool.eq_iff_iff]
 simp only [decide_eq_true_eq,Bool.and_eq_true]
 exact ⟨fun h=>⟨tm_lt B (Nat.le_trans (by decide) h),h⟩,fun h=>h.2⟩
noncomputable def midL (b:Nat->Nat) (c N:Nat):List Nat:=(pcsL b c N).filter fun t=>decide (2<=b t%8)&&decide (b t%8<=5)
theorem reE_perm (B:BoardOk F R b kq) {c:Nat}:(reE (plA b c)).Perm ((midL b c (F*R)).map fun t=>(b t%8,t)):=by
 unfold reE midL
 refine ((plA_perm B).filter _).trans ?_
 unfold pcsK
 rw [List.filter_map]
 refine List.Perm.of_eq ?_
 congr 1
 refine List.filter_congr fun t ht => ?_
 have hp:=pcsL_mem ht
 have:=B.val t hp.2.1
 rw [Bool.eq_iff_iff]
 simp
 exact Z.m25 (Z.k16 rfl this.1 this.2.1)
theorem sum_permI {l1 l2:List Int} (h:l1.Perm l2):l1.sum=l2.sum:=by
 induction h with
 | nil=>rfl
 | cons x _ ih=>rw [List.sum_cons,List.sum_cons,ih]
 | swap x y l=>rw [List.sum_cons,List.sum_cons,List.sum_cons,List.sum_cons]; lia
 | trans _ _ ih1 ih2=>exact ih1.trans ih2
theorem sum_permN {l1 l2:List Nat} (h:l1.Perm l2):l1.sum=l2.sum:=by
 induction h with
 | nil=>rfl
 | cons x _ ih=>rw [List.sum_cons,List.sum_cons,ih]
 | swap x y l=>rw [List.sum_cons,List.sum_cons,List.sum_cons,List.sum_cons]; lia
 | trans _ _ ih1 ih2=>exact ih1.trans ih2
theorem ra_mid (B:BoardOk F R b kq) {c:Nat} (hc:c<2) {gl:List Nat}:(raE F R b kq c gl (reE (plA b (1 - c)))).Perm (((pcsL b (1 - c) (F*R)).filter (inE F R b kq (1 - c) gl)).map fun t=>(b t%8,t)):=by
 unfold raE
 refine ((reE_perm B).filter _).trans (List.Perm.of_eq ?_)
 rw [List.filter_map]
 unfold midL
 rw [List.filter_filter]
 congr 1
 refine List.filter_congr fun t ht => ?_
 unfold inE hitQ
 rw [Bool.eq_iff_iff]
 simp only [Function.comp,Bool.and_eq_true]
 exact ⟨fun h=>⟨h.2,h.1⟩,fun h=>⟨h.2,h.1⟩⟩
theorem pc_cap (B:BoardOk F R b kq) {L M:List Nat} (nd:L.Nodup) (hl:∀ t∈L,t<F*R):pc (fun i=>decide (i∈L)&&ibit (bitsOf M) i)=(L.filter fun u=>M.contains u).length:=by
 have hN:=FRs_le B.fr
 rw [<- pc_mem (nd.filter fun u=>M.contains u) (fun t ht=>by have:=hl t (List.mem_filter.mp ht).1; exact Z.ltR this (Nat.le_trans hN.2.2.2.2 (by decide)))]
 refine pc_congr fun i => ?_
 rw [ibit_bitsOf,Bool.eq_iff_iff]
 simp [List.mem_filter]
end
noncomputable def rest65a:Ss:=ssT (ssT (ssT (ssT b_law_side)))
theorem b65:b_law_side = .cons (ssH b_law_side) (.cons (ssH (ssT b_law_side)) (.cons (ssH (ssT (ssT b_law_side))) (.cons (ssH (ssT (ssT (ssT b_law_side)))) rest65a))):=rfl
theorem bt_lk {i j k l sh n0:Nat} {σ:H} {loc:List V}:bindT [i,j,k,l] (lkV sh n0) σ loc=some ((((loc.set i (.ref sh)).set j (.ref n0)).set k (.ref (n0+8))).set l (.ref (n0+10))):=rfl
theorem ne_at {σ:H} {a c:Nat} {fz fz':Bool} {xs ys:List Int} (h:σ[a]? = some (.list fz (xs.map V.int))) (h':σ[c]? = some (.list fz' (ys.map V.int))):cmpV .ne σ (.ref a) (.ref c)=some (!(xs==ys)):=by
 have t:∀ zs:List Int,toIs (zs.map V.int)=some zs:=by
  intro zs
  induction zs with
  | nil=>rfl
  | cons z zs ih=>rw [List.map_cons,toIs,ih]; rfl
 show (eqV σ (.ref a) (.ref c)).map (!·)=some (!(xs==ys))
 unfold eqV
 simp only [h,h',t]
 rfl
structure SideH (P:PosR) (A:GeoR) (script:List Int) (F R:Nat) (b kq:Nat->Nat) (c bd p mp:Nat) (ma:Nat->Nat) (s0 n0 s1 n1:Nat) (xa xb:Nat->Nat) (σ:H):Prop where
 hT:Base (heap0 script) σ
 B:BoardOk F R b kq
 hb:σ[bd]? = some (.list false (intsOf (brdL (F*R) b)))
 pos:PosAt P A F R b p σ
 M:MapsAt F R b kq mp ma σ
 hc:c<2
 S0:σ[s0]? = some (.list false (intsOf (shOf F R b kq c)))
 L0:LkAt F R b kq c (F*R) n0 xa σ
 L1:LkAt F R b kq (1 - c) (F*R) n1 xb σ
section
variable {P:PosR} {A:GeoR} {F R:Nat} {b kq ma xa xb:Nat->Nat} {σ τ:H} {m c bd p mp s0 n0 s1 n1:Nat} {script:List Int}
theorem SideH.base (h:SideH P A script F R b kq c bd p mp ma s0 n0 s1 n1 xa xb σ) (B:Base σ τ):SideH P A script F R b kq c bd p mp ma s0 n0 s1 n1 xa xb τ :=
 ⟨h.hT.trans B,h.B,B.get h.hb,h.pos.base B,h.M.base B,h.hc,B.get h.S0,h.L0.base B,h.L1.base B⟩
theorem LkAt.tiG {n:Nat} {xa:Nat->Nat} (L:LkAt F R b kq c (F*R) n xa σ) {t:Nat} (ht:t<F*R):getI σ (.ref (n+10)) (.int t)=some (.int (tmN F R b kq c (F*R) t:Nat)) :=
 getI_at L.ti (by unfold intsOf; rw [List.map_map,List.getElem?_map,List.getElem?_range ht]; rfl)
theorem rng_it (hN:2<=F/\F<=6/\3<=R/\R<=5/\F*R<=30):items σ (.rng 0 (F*R:Nat) 1)=some (intsOf (List.range (F*R))):=items_range (by unfold LIM; exact Nat.le_trans hN.2.2.2.2 (by decide)) rfl
theorem r17 {σ:H}:items σ (.rng 1 7 1)=some (intsOf [1,2,3,4,5,6]):=rfl
theorem tm_ne {n:Nat}:(((n:Nat):Int) != 0)=(n != 0):=by rw [bne,bne,show (0:Int)=((0:Nat):Int) from rfl,int_beq]
theorem byk_lt (B:BoardOk F R b kq) (hc:c<2) {k t:Nat} (h:t∈bykL F R b kq c (F*R) k):t<F*R:=by
 unfold bykL at h
 rw [List.mem_flatMap] at h
 refine ea1_2 h fun s h1 h2 => ?_
 try clear h
 exact rc_lt B.fr (pcsL_mem (List.mem_filter.mp h1).1).1 hc h2
theorem side1 (X:SideH P A script F R b kq c bd p mp ma s0 n0 s1 n1 xa xb σ) {Q:Fl × List V × H->Prop}
  (hQ:∀ τ,Base σ τ->Ok (evSs (callN prog glb (m+9)) glb rest65a [.int F,.int R,.ref bd,.ref p,.ref mp,.int c,lkV s0 n0,lkV s1 n1,.ref s0,.ref n0,.ref (n0+8),.ref (n0+10),.rng 0 (F*R:Nat) 1,.undef,.undef,.undef,.undef,.undef,.undef,.undef,.undef,.undef,.undef,.undef,.undef,.undef,.undef,.undef,.undef,.undef,.undef,.undef,.undef,.undef,.undef,.undef,.undef] τ) Q) :
  Ok (evSs (callN prog glb (m+9)) glb b_law_side [.int F,.int R,.ref bd,.ref p,.ref mp,.int c,lkV s0 n0,lkV s1 n1,.undef,.undef,.undef,.undef,.undef,.undef,.undef,.undef,.undef,.undef,.undef,.undef,.undef,.undef,.undef,.undef,.undef,.undef,.undef,.undef,.undef,.undef,.undef,.undef,.undef,.undef,.undef,.undef,.undef] σ) Q:=by
 revert P A F R b kq ma xa xb σ m c bd p mp s0 n0 s1 n1 script Q
 exists P,A,F,R,b,kq,ma,xa,xb,σ,m,c,bd,p,mp,s0,n0,s1,n1,script
 intro X
 exists Q
 intro hQ
 have hN:=FRs_le X.B.fr
 have hc:=X.hc
 have lnb:biV .len [.ref bd] σ=some (.int (F*R:Nat),σ):=by rw [len_at X.hb,brd_len]
 have g0:=X.M.g c hc
 refine ea1_2 ((X.M.am c hc).by_) fun x a1 a2 => ?_
 rw [b65]
 obtain ⟨rst,er⟩:∃ r,r=rest65a:=⟨_,rfl⟩
 rw [<- er] at hQ ⊢
 simp only [ssH,ssT,b_law_side]
 simp! [rd_lk,bt_lk,lnb,g0,a1,e_comp,rng_it hN]
 refine ok_sift (List.range (F*R)) (fun t=>tmN F R b kq c (F*R) t != 0) rfl (by simp) (by simp; exact Nat.le_trans hN.2.2.2.2 (by decide)) (fun _ _=>rfl) (fun t ht υ h => ?_) ?_
 ·simp! [if_cons,if_nil,(X.L0.base h).tiG (List.mem_range.mp ht),tm_ne,e_and,e_or]
  exact ⟨fun q=>by rw [q],fun q=>by rw [q]⟩
 refine nm (σ++[O.list false (intsOf ((List.range (F*R)).filter fun t=>tmN F R b kq c (F*R) t != 0))]) fun τ1 e1 => ?_
 have B1:Base σ τ1:=e1 ▸ Base.refl.push _
 rw [<- e1]
 refine (sp_bits (m:=m+8) (fz:=false) (L:=(List.range (F*R)).filter fun t=>tmN F R b kq c (F*R) t != 0) (by rw [e1]; exact get_push) (fun t ht=>by have:=List.mem_range.mp (List.mem_filter.mp ht).1; exact Nat.le_of_lt (Z.ltR this (Nat.le_trans hN.2.2.2.2 (by decide))))).at_ ?_
 refine nm (τ1++[O.list false ([bitsOf ((List.range (F*R)).filter fun t=>tmN F R b kq c (F*R) t != 0)].map V.int)]) fun τ2 e2 => ?_
 have B2:Base τ1 τ2:=e2 ▸ Base.refl.push _
 have E2:τ1++[O.list false [V.int (bitsOf ((List.range (F*R)).filter fun t=>tmN F R b kq c (F*R) t != 0))]]=τ2:=e2.symm
 simp! [e_comp,E2,r17]
 refine ⟨(by decide:1<=LIM),?_⟩
 have X2:=X.base (B1.trans B2)
 refine ok_compA (K:=1000) (fun v=>match v with | .int k=>[V.int (bitsOf (bykL F R b kq c (F*R) k.toNat))] | _=>[]) (fun ys=>rfl) (by decide) (fun v _=>by split <;> simp) (fun v hv ys hys => ?_) ?_
 ·have:∃ k:Nat,v = .int k/\k<7:=by
   unfold intsOf at hv
   rw [List.mem_map] at hv
   refine ea1_2 hv fun k hk zq => ?_
   try clear hv
   subst zq
   exact ⟨k,rfl,by simp at hk; exact Z.ro17 hk⟩
  refine ea1_2 this fun k zq => ?_
  try clear this
  subst zq
  intro hk
  have Bp:Base τ2 (τ2++[O.list false ys]):=Base.refl.push _
  simp! [ok_evC,if_nil,g_nil,ok_evM,(X2.L0.base Bp).byG hk,e_and,e_or]
  refine (sp_bits (m:=m+8) (fz:=false) (L:=bykL F R b kq c (F*R) k) ((X2.L0.base Bp).bys k hk) (fun t ht=>by have:=byk_lt X.B hc ht; exact Nat.le_of_lt (Z.ltR this (Nat.le_trans hN.2.2.2.2 (by decide))))).at_ ?_
  simp! [oks,e_and,e_or]
  rw [app_push (by unfold LIM; exact Nat.lt_of_le_of_lt hys (by decide)),ok_some]
  rfl
 refine nm (τ2++[O.list false (([1,2,3,4,5,6].map fun k=>bitsOf (bykL F R b kq c (F*R) k)).map V.int)]) fun τ3 e3 => ?_
 have B3:Base τ2 τ3:=e3 ▸ Base.refl.push _
 have E3:τ2++[O.list false ([]++(intsOf [1,2,3,4,5,6]).flatMap fun v=>match v with | .int k=>[V.int (bitsOf (bykL F R b kq c (F*R) k.toNat))] | _=>[])]=τ3:=e3.symm
 rw [E3]
 have n2:τ3[τ1.length]? = some (O.list false ([bitsOf ((List.range (F*R)).filter fun t=>tmN F R b kq c (F*R) t != 0)].map V.int)):=B3.get (by rw [e2]; exact get_push)
 have n3:τ3[τ2.length]? = some (O.list false (([1,2,3,4,5,6].map fun k=>bitsOf (bykL F R b kq c (F*R) k)).map V.int)):=by rw [e3]; exact get_push
 refine nm ([bitsOf ((List.range (F*R)).filter fun t=>tmN F R b kq c (F*R) t != 0)]++[1,2,3,4,5,6].map fun k=>bitsOf (bykL F R b kq c (F*R) k)) fun ys eys => ?_
 refine nm (τ3++[O.list false (ys.map V.int)]) fun τ4 e4 => ?_
 have B4:Base τ3 τ4:=e4 ▸ Base.refl.push _
 have add:binV .add (.ref τ1.length) (.ref τ2.length) τ3=some (.ref τ3.length,τ4):=by
  rw [add_at n2 n3 (by simp; decide),e4,eys,List.map_append]
 have n4:τ4[τ3.length]? = some (.list false (ys.map V.int)):=by rw [e4]; exact get_push
 have nx:τ4[x]? = some (.list false (((List.range 7).map fun k=>byV F R b kq c (plA b c) k).map V.int)):=by
  rw [List.map_map]; exact (B1.trans (B2.trans (B3.trans B4))).get a2
 have same:((List.range 7).map fun k=>byV F R b kq c (plA b c) k)=ys:=by
  rw [eys]
  have:List.range 7=[0,1,2,3,4,5,6]:=by decide
  rw [this]
  simp only [List.map_cons,List.map_nil,List.cons_append,List.nil_append,by0_tm X.B,by_byk X.B (show 1<=1 by decide),by_byk X.B (show 1<=2 by decide),by_byk X.B (show 1<=3 by decide),by_byk X.B (show 1<=4 by decide),by_byk X.B (show 1<=5 by decide),by_byk X.B (show 1<=6 by decide)]
 have cmp:cmpV .ne τ4 (.ref x) (.ref τ3.length)=some false:=by rw [ne_at nx n4,same]; simp
 have X4:=X2.base (B3.trans B4)
 have g4:=X4.M.g c hc
 refine ea1_2 ((X4.M.am c hc).twice) fun y t1 t2 => ?_
 simp! [add,cmp,g4,t1,e_comp,rng_it hN]
 refine ok_sift (List.range (F*R)) (fun t=>decide (1<tmN F R b kq c (F*R) t)) rfl (by simp) (by simp; exact Nat.le_trans hN.2.2.2.2 (by decide)) (fun _ _=>rfl) (fun t ht υ h => ?_) ?_
 ·have e:decide ((1:Int)<((tmN F R b kq c (F*R) t:Nat):Int))=decide (1<tmN F R b kq c (F*R) t):=by rw [Bool.eq_iff_iff]; simp; exact Z.iltr
  simp! [if_cons,if_nil,(X4.L0.base h).tiG (List.mem_range.mp ht),e,e_and,e_or]
  exact ⟨fun q=>by rw [q],fun q=>by rw [q]⟩
 refine (sp_bits (m:=m+8) (fz:=false) (L:=(List.range (F*R)).filter fun t=>decide (1<tmN F R b kq c (F*R) t)) get_push (fun t ht=>by have:=List.mem_range.mp (List.mem_filter.mp ht).1; lia)).at_ ?_
 rw [tw_tm X.B t2]
 simp! [beq_self_eq_true]
 rw [<- wSs_eq]
 exact hQ _ ((B1.trans (B2.trans (B3.trans B4))).push _)
end
noncomputable def rest65b:Ss:=ssT (ssT (ssT (ssT (ssT (ssT rest65a)))))
theorem b65a:rest65a = .cons (ssH rest65a) (.cons (ssH (ssT rest65a)) (.cons (ssH (ssT (ssT rest65a))) (.cons (ssH (ssT (ssT (ssT rest65a)))) (.cons (ssH (ssT (ssT (ssT (ssT rest65a))))) (.cons (ssH (ssT (ssT (ssT (ssT (ssT rest65a)))))) rest65b))))):=rfl
noncomputable def lawP (l h ms n:Int):Int:=l+((h - l)*(ms*ms - (ms - n)*(ms - n))).fdiv (ms*ms)
theorem law_mb:∀ n:Fin 31,∀ k:Fin 4,lawP (enT (k.val+2)).1 (enT (k.val+2)).2.1 (enT (k.val+2)).2.2.2.2 n.val+65536*lawP (enT (k.val+2)).2.2.1 (enT (k.val+2)).2.2.2.1 (enT (k.val+2)).2.2.2.2 n.val=mbV (k.val+2) n.val:=by decide +kernel
theorem law_mb' {k n:Nat} (hk:2<=k/\k<=5) (hn:n<=30):lawP (enT k).1 (enT k).2.1 (enT k).2.2.2.2 n+65536*lawP (enT k).2.2.1 (enT k).2.2.2.1 (enT k).2.2.2.2 n=mbV k n:=by
 have:=law_mb ⟨n,by exact Nat.lt_of_le_of_lt hn (by decide)⟩ ⟨k - 2,by exact Z.sk hk⟩
 rw [show k - 2+2=k by exact Nat.sub_add_cancel hk.1] at this
 exact this
theorem bt_5r {i1 i2 i3 i4 i5 a:Nat} {fz:Bool} {x1 x2 x3 x4 x5:V} {σ:H} {loc:List V} (h:σ[a]? = some (.list fz [x1,x2,x3,x4,x5])):bindT [i1,i2,i3,i4,i5] (.ref a) σ loc=some (((((loc.set i1 x1).set i2 x2).set i3 x3).set i4 x4).set i5 x5):=by
 unfold bindT
 simp only [items_at h]
 rfl
theorem en_get {σ:H} {script:List Int} (hT:Base (heap0 script) σ) {k:Nat} (hk:2<=k/\k<=5):∃ a,getI σ (.ref 4) (.int k)=some (.ref a)/\σ[a]? = some (.list true [.int (enT k).1,.int (enT k).2.1,.int (enT k).2.2.1,.int (enT k).2.2.2.1,.int (enT k).2.2.2.2]):=by
 revert σ script k
 exists σ,script
 intro hT
 exists k
 intro hk
 have:k=2\/k=3\/k=4\/k=5:=by exact Z.or25 hk.1 hk.2
 rcases this with rfl | rfl | rfl | rfl
 ·exact ⟨7,getI_base hT rfl,hT.get rfl⟩
 ·exact ⟨8,getI_base hT rfl,hT.get rfl⟩
 ·exact ⟨9,getI_base hT rfl,hT.get rfl⟩
 ·exact ⟨10,getI_base hT rfl,hT.get rfl⟩
theorem en_bd {k:Nat}:(enT k).1.natAbs<1000/\(enT k).2.1.natAbs<1000/\(enT k).2.2.1.natAbs<1000/\(enT k).2.2.2.1.natAbs<1000/\8<=(enT k).2.2.2.2/\(enT k).2.2.2.2<=27/\1<=(enT k).2.2.2.2*(enT k).2.2.2.2/\(enT k).2.2.2.2*(enT k).2.2.2.2<=1000:=by
 revert k
 exists k
 unfold enT
 split
 ·decide
 ·split
  ·decide
  ·split <;> decide
theorem lawP_bd:∀ n:Fin 31,∀ k:Fin 4,(lawP (enT (k.val+2)).2.2.1 (enT (k.val+2)).2.2.2.1 (enT (k.val+2)).2.2.2.2 n.val).natAbs<2^30:=by decide +kernel
theorem smK_perm {f:Nat->Nat->Nat} {E E':List (Nat × Nat)} (h:E.Perm E') {j:Nat}:smK f E j=smK f E' j:=by
 unfold smK
 exact sum_permN ((h.filter _).map _)
noncomputable def midB (b:Nat->Nat) (t:Nat):Bool:=decide (2<=b t%8)&&decide (b t%8<=5)
noncomputable def prs (b:Nat->Nat) (E:List Nat):List (Nat × Nat):=(E.filter (midB b)).map fun t=>(b t%8,t)
section
variable {P:PosR} {A:GeoR} {F R:Nat} {b kq ma xa xb:Nat->Nat} {σ τ:H} {m c bd p mp s0 n0 s1 n1:Nat} {script:List Int}
theorem sc_snoc {ar:List Nat} {E:List (Nat × Nat)} {k t:Nat}:scV F R b kq c ar (E++[(k,t)])=scV F R b kq c ar E+mbV k (cA F R b kq c ar k t):=by
 unfold scV
 rw [List.map_append,List.sum_append]
 simp
theorem sc_perm {ar:List Nat} {E E':List (Nat × Nat)} (h:E.Perm E'):scV F R b kq c ar E=scV F R b kq c ar E':=by
 unfold scV
 exact sum_permI (h.map _)
theorem prs_perm (B:BoardOk F R b kq):(reE (plA b c)).Perm (prs b (pcsL b c (F*R))):=reE_perm B
theorem prs_snoc1 {E:List Nat} {t:Nat} (h:midB b t=true):prs b (E++[t])=prs b E++[(b t%8,t)]:=by
 unfold prs
 rw [List.filter_append,List.filter_cons_of_pos h,List.filter_nil,List.map_append]; rfl
theorem prs_snoc0 {E:List Nat} {t:Nat} (h:midB b t=false):prs b (E++[t])=prs b E:=by
 unfold prs
 rw [List.filter_append,List.filter_cons_of_neg (by rw [h]; decide),List.filter_nil,List.append_nil]
theorem side2 (X:SideH P A script F R b kq c bd p mp ma s0 n0 s1 n1 xa xb σ) {Q:Fl × List V × H->Prop}
  (hQ:∀ τ w13 w14 w15 w16 w17 w18 w19 w20 w21 w22 w23 w34,Base σ τ->Ok (evSs (callN prog glb (m+9)) glb rest65b [.int F,.int R,.ref bd,.ref p,.ref mp,.int c,lkV s0 n0,lkV s1 n1,.ref s0,.ref n0,.ref (n0+8),.ref (n0+10),.rng 0 (F*R:Nat) 1,w13,w14,w15,w16,w17,w18,w19,w20,w21,w22,w23,.undef,.undef,.undef,.undef,.undef,.undef,.undef,.undef,.undef,.undef,w34,.undef,.undef] τ) Q) :
  Ok (evSs (callN prog glb (m+9)) glb rest65a [.int F,.int R,.ref bd,.ref p,.ref mp,.int c,lkV s0 n0,lkV s1 n1,.ref s0,.ref n0,.ref (n0+8),.ref (n0+10),.rng 0 (F*R:Nat) 1,.undef,.undef,.undef,.undef,.undef,.undef,.undef,.undef,.undef,.undef,.undef,.undef,.undef,.undef,.undef,.undef,.undef,.undef,.undef,.undef,.undef,.undef,.undef,.undef] σ) Q:=by
 revert P A F R b kq ma xa xb σ m c bd p mp s0 n0 s1 n1 script Q
 exists P,A,F,R,b,kq,ma,xa,xb,σ,m,c,bd,p,mp,s0,n0,s1,n1,script
 intro X
 exists Q
 intro hQ
 have hN:=FRs_le X.B.fr
 have hc:=X.hc
 have hc':1 - c<2:=by exact Z.sb
 have g1:getI σ (.ref (n1+8)) (.int 1)=some (.ref (n1+1+1)):=X.L1.byG (k:=1) (by decide)
 rw [b65a]
 obtain ⟨rst,er⟩:∃ r,r=rest65b:=⟨_,rfl⟩
 rw [<- er] at hQ ⊢
 simp only [ssH,ssT,rest65a,b_law_side]
 simp! [rd_lk,lk_2,g1]
 refine (sp_larea (m:=m+8) (S:=shOf F R b kq c) X.B X.hb hc X.S0 (by rw [<- byk1 X.B]; exact X.L1.bys 1 (by decide))).at_ ?_
 generalize ear:areaL F R b (shOf F R b kq c) c=ar
 refine nm (σ++[O.list false (intsOf ar)]) fun τ1 e1 => ?_
 refine nm (τ1++[O.list false [V.int 0]]) fun τ2 e2 => ?_
 refine nm (τ2++[O.list false (List.replicate 7 (V.int 0))]) fun τ3 e3 => ?_
 have B1:Base σ τ1:=e1 ▸ Base.refl.push _
 have B2:Base τ1 τ2:=e2 ▸ Base.refl.push _
 have B3:Base τ2 τ3:=e3 ▸ Base.refl.push _
 have E2:τ1++[O.list false [V.int 0]]=τ2:=e2.symm
 have mu:binV .mul (.ref τ1.length) (.int 7) τ2=some (.ref τ2.length,τ3):=by rw [e3]; exact mul_at (n:=7) (by rw [e2]; exact get_push) (by decide)
 have X3:=X.base (B1.trans (B2.trans B3))
 have ga3:τ3[σ.length]? = some (.list false (intsOf ar)):=(B2.trans B3).get (by rw [e1]; exact get_push)
 have gc3:τ3[τ2.length]? = some (.list false (smL (cA F R b kq c ar) [])):=by rw [e3]; exact get_push
 have l1:τ1.length=σ.length+1:=by rw [e1]; simp
 have l2:τ2.length=σ.length+2:=by rw [e2,List.length_append,l1]; rfl
 have lx:∀ t∈pcsL b c (F*R),xa t<σ.length:=fun t ht=>by
  apply Classical.byContradiction; intro z
  have:=(X.L0.xs t ht).2
  rw [List.getElem?_eq_none (by exact Z.nle z)] at this; cases this
 have ln0:n0<σ.length:=by have:=X.L0.len; exact Z.ltR (Nat.lt_succ_of_le (Nat.le_add_right _ _)) this
 rw [<- e1]
 simp! [E2,mu,items_at X3.L0.re]
 refine ⟨(by decide:1<=LIM),?_⟩
 refine ok_for (fun r loc υ=>∃ (E1 E2:List Nat) (w16 w17 w18 w19 w20 w21 w22 w23 w34:V),E1++E2=pcsL b c (F*R)/\r=E2.map (fun t=>V.tup [.int (b t%8:Nat),.ref (xa t)])/\Base σ υ/\υ[σ.length]? = some (.list false (intsOf ar)) /\
  υ[τ2.length]? = some (.list false (smL (cA F R b kq c ar) (prs b E1))) /\
  loc=[.int F,.int R,.ref bd,.ref p,.ref mp,.int c,lkV s0 n0,lkV s1 n1,.ref s0,.ref n0,.ref (n0+8),.ref (n0+10),.rng 0 (F*R:Nat) 1,.ref σ.length,.ref τ2.length,.int (scV F R b kq c ar (prs b E1)),w16,w17,w18,w19,w20,w21,w22,w23,.undef,.undef,.undef,.undef,.undef,.undef,.undef,.undef,.undef,.undef,w34,.undef,.undef]) ?_ ?_ ⟨[],_,_,_,_,_,_,_,_,_,_,rfl,rfl,B1.trans (B2.trans B3),ga3,gc3,rfl⟩
 ·intro I_ hI_ v r loc υ zq
  refine ex8 zq fun E1 E2 w16 w17 w18 w19 w20 w21 zq2 => ?_
  clear zq
  refine ea3_6 zq2 fun w22 w23 w34 p1 p2 bυ aυ cυ zq3 => ?_
  clear zq2
  subst zq3
  induction E2,v,r,p2 using map_c with
  | k t E2 =>
   have htm:t∈pcsL b c (F*R):=by rw [<- p1]; simp
   have hpm:=pcsL_mem htm
   have ho:=(X.L0.xs t htm).2
   have lxt:=lx t htm
   have lo:=rc_len (k:=b t%8) X.B hpm.1 hc
   refine nm (b t%8) fun k ek => ?_
   refine ⟨still_at (bυ.get X.L0.re),?_⟩
   rw [bt_2,ok_some,KBd,wSs_eq,ss_cons',SeqC]
   simp only [List.set_cons_succ,List.set_cons_zero,tv_int,tv_ref]
   refine ite_cond (midB b t) ?_ (fun q => ?_) (fun q => ?_)
   ·have c2:decide ((2:Int)<=((b t%8:Nat):Int))=decide (2<=b t%8):=by rw [Bool.eq_iff_iff]; simp; exact Z.iml
    have c5:decide (((b t%8:Nat):Int)<=5)=decide (b t%8<=5):=by rw [Bool.eq_iff_iff]; simp; exact Z.imr
    simp! [c2,c5,e_and,e_or]
    unfold midB
    exact ⟨fun q=>by rw [q]; rfl,fun q=>by rw [q]; rfl⟩
   ·have hk:2<=k/\k<=5:=by
     unfold midB at q
     simp only [Bool.and_eq_true,decide_eq_true_eq] at q
     exact Z.k25 ek q
    rw [<- ek] at ho lo ⊢
    refine ea1_2 (en_get (X.hT.trans bυ) hk) fun a ga gt => ?_
    have hn:=cA_le (b:=b) (kq:=kq) (k:=k) (ar:=ar) X.B.fr hpm.1 hc
    have eb:=en_bd (k:=k)
    have lb:=lawP_bd ⟨cA F R b kq c ar k t,by exact Nat.lt_of_le_of_lt hn (by decide)⟩ ⟨k - 2,Nat.sub_lt_left_of_lt_add hk.1 (Nat.lt_succ_of_le hk.2)⟩
    rw [Nat.sub_add_cancel hk.1] at lb
    dsimp only at lb
    have lm:=law_mb' hk hn
    simp! [gl_14,ga,bt_5r gt,e_comp,items_at (bυ.get ho)]
    refine ok_sift (rc F R b kq c k t) (fun u=>ar.contains u) rfl (by simp) (by exact Nat.le_trans lo (by decide)) (fun υ2 h=>still_at ((bυ.trans h).get ho)) (fun u hu υ2 h => ?_) ?_
    ·simp! [if_cons,if_nil,in_at (h.get aυ),e_and,e_or]
     exact ⟨fun q=>by rw [q],fun q=>by rw [q]⟩
    refine nm (υ++[O.list false (intsOf ((rc F R b kq c k t).filter fun u=>ar.contains u))]) fun υ1 eu => ?_
    have bu:Base υ υ1:=eu ▸ Base.refl.push _
    have gu:υ1[υ.length]? = some (.list false (intsOf ((rc F R b kq c k t).filter fun u=>ar.contains u))):=by rw [eu]; exact get_push
    have en:((rc F R b kq c k t).filter fun u=>ar.contains u).length=cA F R b kq c ar k t:=rfl
    have gk:getI υ1 (.ref τ2.length) (.int k)=some (.int (smK (cA F R b kq c ar) (prs b E1) k:Nat)):=getI_at (bu.get cυ) (smL_get (by exact Nat.lt_of_le_of_lt hk.2 (by decide)))
    generalize hnn:cA F R b kq c ar k t=n at hn lb lm en
    have e2n:(enT k).2.2.2.2 - ((enT k).2.2.2.2 - (n:Int))=n:=by lia
    have sk:setI υ1 (.ref τ2.length) (.int k) (.int ((smK (cA F R b kq c ar) (prs b E1) k:Nat)+(n:Nat):Int))=some (υ1.set τ2.length (.list false (smL (cA F R b kq c ar) (prs b E1++[(k,t)])))):=by
     rw [smL_snoc (by exact Z.k75 hk),hnn]
     exact setI_at (bu.get cυ) (by rw [smL_len]; exact Z.k75 hk)
    rw [<- eu]
    simp! [len_at gu,intsOf_len,en,gk,e2n,sk]
    refine an8 eb fun y1 y2 y3 y4 y5 y6 y7 y8 => ?_
    try clear eb
    generalize enT k=e5 at y1 y2 y3 y4 y5 y6 y7 y8 lb lm ⊢
    obtain ⟨f1,f2,f3,f4,f5⟩:=e5
    dsimp only at y1 y2 y3 y4 y5 y6 y7 y8 lb lm ⊢
    have ab2:(f2 - f1).natAbs<2^64:=Nat.lt_of_le_of_lt (Int.natAbs_sub_le _ _) (Nat.lt_trans (Nat.add_lt_add y2 y1) (by decide))
    refine ⟨by first | assumption | exact Z.nax (Int.le_trans (by decide) y5) y6 (by decide),by first | assumption | exact Z.nde (Z.nax (Int.le_trans (by decide) y5) y6 (by decide)) (Z.na hn (by decide)),by first | assumption | lia,by first | assumption | exact Z.nax (Int.le_trans (by decide) y5) y6 (by decide),⟨by first | assumption | lia,by first | assumption | exact Z.nax (Int.le_trans (by decide) y7) y8 (by decide)⟩,by first | assumption | exact Z.nax (Int.le_trans (by decide) y5) y6 (by decide),by first | assumption | lia,by first | assumption | exact Z.nde y4 y3,by first | assumption | lia,⟨by lia,by exact Z.nax (Int.le_trans (by decide) y7) y8 (by decide)⟩,by decide,E1++[t],E2,.int k,.ref (xa t),.int (f5 - n),.int f1,.int f2,.int f3,.int f4,.int f5,w34,by rw [<- p1,List.append_assoc]; rfl,rfl,(bυ.trans bu).set (by lia) _,by rw [set_ne (by lia)]; exact bu.get aυ,by rw [set_eq (bu.get cυ),prs_snoc1 q,<- ek],?_⟩
    rw [prs_snoc1 q,<- ek,sc_snoc,hnn,<- lm]
    unfold lawP
    simp only [Int.add_assoc]
   ·simp! [oks,e_and,e_or]
    exact ⟨E1++[t],E2,_,_,_,_,_,_,_,_,_,by rw [<- p1,List.append_assoc]; rfl,rfl,bυ,aυ,by rw [prs_snoc0 q]; exact cυ,by rw [prs_snoc0 q]⟩
 ·intro loc υ zq
  refine ex8 zq fun E1 E2 w16 w17 w18 w19 w20 w21 zq2 => ?_
  clear zq
  refine ea3_6 zq2 fun w22 w23 w34 p1 p2 bυ aυ cυ zq3 => ?_
  clear zq2
  subst zq3
  have:E2=[]:=List.map_eq_nil_iff.mp p2.symm
  subst this
  rw [List.append_nil] at p1
  subst p1
  refine ⟨still_at (bυ.get X.L0.re),?_⟩
  have Xυ:=X.base bυ
  simp! [oks,e_and,e_or]
  refine (sp_mscore (m:=m+5) Xυ.hT Xυ.B Xυ.pos Xυ.M hc).at_ ?_
  rw [ear]
  have e1:scV F R b kq c ar (reE (plA b c))=scV F R b kq c ar (prs b (pcsL b c (F*R))):=sc_perm (prs_perm X.B)
  rw [e1]
  simp! [beq_self_eq_true,e_and,e_or]
  refine (sp_marea (m:=m+3) Xυ.B Xυ.pos hc).mono ?_
  rintro ⟨v,υ1⟩
  intro zq
  refine an2 zq fun b1 e => ?_
  clear zq
  dsimp only at b1 e
  subst e
  rw [ear]
  simp! [rd_lk]
  have la:∀ t∈ar,t<=1000:=fun t ht=>by
   rw [<- ear] at ht
   unfold areaL at ht
   have:=List.mem_range.mp (List.mem_filter.mp ht).1
   exact Nat.le_of_lt (Z.ltR this (Nat.le_trans hN.2.2.2.2 (by decide)))
  refine (sp_bits (m:=m+8) (fz:=false) (L:=ar) (b1.get aυ) la).at_ ?_
  simp! [beq_self_eq_true,e_and,e_or]
  have X1:=Xυ.base b1
  refine (sp_mobility (m:=m) X1.B X1.pos hc).mono ?_
  rintro ⟨v,υ2⟩
  intro zq
  refine an2 zq fun b2 zq2 => ?_
  clear zq
  refine ea1_2 zq2 fun a e ga => ?_
  clear zq2
  dsimp only at b2 e ga
  subst e
  have m1:υ2[a]? = some (.list false (((List.range 7).map fun j=>((smK (cA F R b kq c ar) (reE (plA b c)) j:Nat):Int)).map V.int)):=by
   rw [List.map_map,<- ear]; exact ga
  have m2:υ2[τ2.length]? = some (.list false (((List.range 7).map fun j=>((smK (cA F R b kq c ar) (prs b (pcsL b c (F*R))) j:Nat):Int)).map V.int)):=by
   rw [List.map_map]; exact (b1.trans b2).get cυ
  have cmp:cmpV .ne υ2 (.ref a) (.ref τ2.length)=some false:=by
   rw [ne_at m1 m2]
   have:((List.range 7).map fun j=>((smK (cA F R b kq c ar) (reE (plA b c)) j:Nat):Int))=(List.range 7).map fun j=>((smK (cA F R b kq c ar) (prs b (pcsL b c (F*R))) j:Nat):Int) :=
    List.map_congr_left fun j _=>by rw [smK_perm (prs_perm X.B)]
   rw [this]
   simp
  simp! [cmp]
  rw [<- wSs_eq]
  exact hQ _ _ _ _ _ _ _ _ _ _ _ _ _ (bυ.trans (b1.trans b2))
end
noncomputable def rest65c:Ss:=ssT (ssT (ssT (ssT (ssT rest65b))))
theorem b65b:rest65b = .cons (ssH rest65b) (.cons (ssH (ssT rest65b)) (.cons (ssH (ssT (ssT rest65b))) (.cons (ssH (ssT (ssT (ssT rest65b)))) (.cons (ssH (ssT (ssT (ssT (ssT rest65b))))) rest65c)))):=rfl
theorem ne_tup {σ:H} {x y z x' y' z':Int} (h1:x=x') (h2:y=y') (h3:z=z'):cmpV .ne σ (.tup [.int x,.int y,.int z]) (.tup [.int x',.int y',.int z'])=some false:=by
 subst h1 h2 h3
 show (eqV σ (.tup [.int x,.int y,.int z]) (.tup [.int x,.int y,.int z])).map (!·)=some false
 unfold eqV
 simp [atoIs,Mob.A.toI]
section
variable {P:PosR} {A:GeoR} {F R:Nat} {b kq ma xa xb:Nat->Nat} {σ τ:H} {m c bd p mp s0 n0 s1 n1:Nat} {script:List Int}
theorem ra0_eq (B:BoardOk F R b kq) (hc:c<2):ra0 F R b kq c=((ringL F R (kq c)).filter fun t=>(bykL F R b kq (1 - c) (F*R) 1).contains t).length:=by
 have h:=(ring_ok B.fr (B.klt c hc)).2.2.2
 unfold ra0
 rw [by_byk B (Nat.le_refl 1),pc_cap B h.1 h.2]
theorem raN_eq (B:BoardOk F R b kq) (hc:c<2) {t:Nat} (ht:t<F*R):raN F R b kq c (b t%8,t)=liN F R b kq c t:=by
 have hc':1 - c<2:=by exact Z.sb
 unfold raN liN
 rw [by_byk B (by decide),pc_cap B (rc_nd B.fr ht hc') (fun u hu=>rc_lt B.fr ht hc' hu)]
theorem side3 (X:SideH P A script F R b kq c bd p mp ma s0 n0 s1 n1 xa xb σ) {w13 w14 w15 w16 w17 w18 w19 w20 w21 w22 w23 w34:V} {Q:Fl × List V × H->Prop}
  (hQ:∀ τ w25 w26,Base σ τ->Ok (evSs (callN prog glb (m+9)) glb rest65c [.int F,.int R,.ref bd,.ref p,.ref mp,.int c,lkV s0 n0,lkV s1 n1,.ref s0,.ref n0,.ref (n0+8),.ref (n0+10),.rng 0 (F*R:Nat) 1,w13,w14,w15,w16,w17,w18,w19,w20,w21,w22,w23,.int (kq c),w25,w26,.undef,.undef,.undef,.undef,.undef,.undef,.undef,w34,.undef,.undef] τ) Q) :
  Ok (evSs (callN prog glb (m+9)) glb rest65b [.int F,.int R,.ref bd,.ref p,.ref mp,.int c,lkV s0 n0,lkV s1 n1,.ref s0,.ref n0,.ref (n0+8),.ref (n0+10),.rng 0 (F*R:Nat) 1,w13,w14,w15,w16,w17,w18,w19,w20,w21,w22,w23,.undef,.undef,.undef,.undef,.undef,.undef,.undef,.undef,.undef,.undef,w34,.undef,.undef] σ) Q:=by
 revert P A F R b kq ma xa xb σ m c bd p mp s0 n0 s1 n1 script w13 w14 w15 w16 w17 w18 w19 w20 w21 w22 w23 w34 Q
 exists P,A,F,R,b,kq,ma,xa,xb,σ,m,c,bd,p,mp,s0,n0,s1,n1,script
 intro X
 exists w13,w14,w15,w16,w17,w18,w19,w20,w21,w22,w23,w34,Q
 intro hQ
 have hN:=FRs_le X.B.fr
 have hc:=X.hc
 have hc':1 - c<2:=by exact Z.sb
 have hk:=X.B.klt c hc
 rw [b65b]
 obtain ⟨rst,er⟩:∃ r,r=rest65c:=⟨_,rfl⟩
 rw [<- er] at hQ ⊢
 simp only [ssH,ssT,rest65b,rest65a,b_law_side]
 simp! [isL_at X.hb,idx_king X.B X.hb hc]
 refine ⟨by exact Z.na1 hc (by decide),?_⟩
 refine (sp_lring (m:=m+8) X.B.fr hk).at_ ?_
 refine nm (σ++[O.list false (intsOf (ringL F R (kq c)))]) fun τ1 e1 => ?_
 have B1:Base σ τ1:=e1 ▸ Base.refl.push _
 have r1:τ1[σ.length]? = some (.list false (intsOf (ringL F R (kq c)))):=by rw [e1]; exact get_push
 have X1:=X.base B1
 have ring:=(ring_ok X.B.fr hk).2.2.2
 have lring:(ringL F R (kq c)).length<=32:=by rw [<- pc_mem ring.1 (fun t ht=>by have:=ring.2 t ht; exact Z.ltR this (Nat.le_trans hN.2.2.2.2 (by decide)))]; exact pc_le
 rw [<- e1]
 simp! [e_comp,items_at r1]
 refine ok_sift (ringL F R (kq c)) (fun i=>decide ((hitL F R b c).count i<2)) rfl (by simp) (by exact Nat.le_trans lring (by decide)) (fun υ h=>still_at (h.get r1)) (fun t ht υ h => ?_) ?_
 ·have g1:getI υ (.ref (n0+8)) (.int 1)=some (.ref (n0+1+1)):=(X1.L0.base h).byG (k:=1) (by decide)
  have g2:υ[n0+1+1]? = some (.list false (intsOf (hitL F R b c))):=by rw [<- byk1 X.B]; exact (X1.L0.base h).bys 1 (by decide)
  have e:decide ((((hitL F R b c).count t:Nat):Int)<2)=decide ((hitL F R b c).count t<2):=by rw [Bool.eq_iff_iff]; simp; exact Z.iltr
  simp! [if_cons,if_nil,g1,isL_at g2,cnt_at g2,e,e_and,e_or]
  exact ⟨fun q=>by rw [q],fun q=>by rw [q]⟩
 have eg:(ringL F R (kq c)).filter (fun i=>decide ((hitL F R b c).count i<2))=guardL F R b c (kq c):=rfl
 rw [eg]
 have lgd:∀ t∈guardL F R b c (kq c),t<=1000:=fun t ht=>by
  have:=ring.2 t (List.mem_filter.mp ht).1
  exact Nat.le_of_lt (Z.ltR this (Nat.le_trans hN.2.2.2.2 (by decide)))
 refine nm (τ1++[O.list false (intsOf (guardL F R b c (kq c)))]) fun τ2 e2 => ?_
 have B2:Base τ1 τ2:=e2 ▸ Base.refl.push _
 have r2:τ2[τ1.length]? = some (.list false (intsOf (guardL F R b c (kq c)))):=by rw [e2]; exact get_push
 rw [<- e2]
 have X2:=X1.base B2
 have gm:=X2.M.g c hc
 simp! [gm,(X2.M.am c hc).king,beq_self_eq_true]
 simp! [gm,(X2.M.am c hc).king,beq_self_eq_true,e_and,e_or]
 refine (sp_guard (m:=m+6) X2.B X2.pos hc hk).mono ?_
 rintro ⟨v,υ1⟩
 intro zq
 refine an2 zq fun b1 e => ?_
 clear zq
 dsimp only at b1 e
 subst e
 simp! [rd_lk]
 refine (sp_bits (m:=m+8) (fz:=false) (L:=guardL F R b c (kq c)) (b1.get r2) lgd).at_ ?_
 have X3:=X2.base b1
 simp! [beq_self_eq_true,X3.pos.geo]
 refine (sp_bits (m:=m+8) (fz:=false) (L:=guardL F R b c (kq c)) (b1.get r2) lgd).at_ ?_
 refine (sp_into (m:=m+6) (gl:=guardL F R b c (kq c)) X3.hT X3.B X3.pos.G X3.M hc).at_ ?_
 simp! [rd_lk]
 refine (sp_linto (m:=m+8) X3.hT X3.B hc X3.L0 X3.L1 ((B2.trans b1).get r1) (b1.get r2) (by exact Nat.le_trans lring (by decide))).mono ?_
 rintro ⟨v,υ2⟩
 intro zq
 refine an2 zq fun b2 e => ?_
 clear zq
 dsimp only at b2 e
 subst e
 have pm:=ra_mid (c:=c) (gl:=guardL F R b c (kq c)) X.B hc
 have h1:(raE F R b kq c (guardL F R b c (kq c)) (reE (plA b (1 - c)))).length=((pcsL b (1 - c) (F*R)).filter (inE F R b kq (1 - c) (guardL F R b c (kq c)))).length:=by rw [pm.length_eq,List.length_map]
 have h2:((raE F R b kq c (guardL F R b c (kq c)) (reE (plA b (1 - c)))).map fun q=>wt q.1).sum=(((pcsL b (1 - c) (F*R)).filter (inE F R b kq (1 - c) (guardL F R b c (kq c)))).map fun t=>wt (b t%8)).sum:=by
  rw [sum_permI (pm.map _),List.map_map]; rfl
 have h3:((raE F R b kq c (guardL F R b c (kq c)) (reE (plA b (1 - c)))).map (raN F R b kq c)).sum=(((pcsL b (1 - c) (F*R)).filter (inE F R b kq (1 - c) (guardL F R b c (kq c)))).map (liN F R b kq c)).sum:=by
  rw [sum_permN (pm.map _),List.map_map]
  congr 1
  exact List.map_congr_left fun t ht=>raN_eq X.B hc (pcsL_mem (List.mem_filter.mp ht).1).1
 rw [KC2]
 dsimp only
 rw [ne_tup (by rw [ra0_eq X.B hc,h1]) h2 (by rw [h3]),ok_some]
 simp! [rd_lk]
 rw [<- wSs_eq]
 exact hQ _ _ _ (B1.trans (B2.trans (b1.trans b2)))
end
section
variable {P:PosR} {A:GeoR} {F R:Nat} {b kq ma xa xb:Nat->Nat} {σ τ:H} {m c bd p mp s0 n0 s1 n1:Nat} {script:List Int}
noncomputable def weakQ (F R:Nat) (b kq:Nat->Nat) (c t:Nat):Bool:=tmN F R b kq (1 - c) (F*R) t != 0&&(tmN F R b kq c (F*R) t==0||(tmN F R b kq c (F*R) t==1&&((bykL F R b kq c (F*R) 5).contains t||(bykL F R b kq c (F*R) 6).contains t)))
theorem weak_eq (B:BoardOk F R b kq) {y:Int} (h:Bits y (weakB F R b kq c)):y=bitsOf ((List.range (F*R)).filter (weakQ F R b kq c)):=by
 revert F R b kq c y
 exists F,R,b,kq,c
 intro B
 exists y
 intro h
 refine ibit_inj fun i => ?_
 rw [h,ibit_filter]
 unfold weakB weakQ
 rw [cnt_tm B,cnt_tm B,by_byk B (by decide),by_byk B (by decide),ibit_bitsOf,ibit_bitsOf,Bool.eq_iff_iff]
 simp only [Bool.and_eq_true,Bool.or_eq_true,decide_eq_true_eq,Bool.not_eq_true',decide_eq_false_iff_not,bne_iff_ne,beq_iff_eq,List.contains_iff_mem]
 constructor
 ·intro zq
  refine an2 zq fun zq2 => ?_
  clear zq
  refine an2 zq2 fun h1 h2 => ?_
  clear zq2
  intro h3
  refine ⟨tm_lt B h1,by exact Nat.ne_of_gt (Z.ltn h1),?_⟩
  rcases h3 with (h3 | h3) | h3
  ·exact .inl (by exact Nat.le_antisymm (Nat.le_of_lt_succ (Z.nlt h3)) (Z.ule Z.c0))
  ·by_cases z:tmN F R b kq c (F*R) i=0
   ·exact .inl z
   ·exact .inr ⟨by exact Nat.le_antisymm (Nat.le_of_lt_succ (Z.nlt h2)) (Z.le_lt (Z.zp z)),.inr h3⟩
  ·by_cases z:tmN F R b kq c (F*R) i=0
   ·exact .inl z
   ·exact .inr ⟨by exact Nat.le_antisymm (Nat.le_of_lt_succ (Z.nlt h2)) (Z.le_lt (Z.zp z)),.inl h3⟩
 ·intro zq
  refine an3 zq fun h0 h1 h2 => ?_
  clear zq
  rcases h2 with h2 | ⟨h2,h3⟩
  ·exact ⟨⟨by exact Z.le_lt (Nat.pos_of_ne_zero h1),by exact Nat.not_le_of_lt (Z.r58a (Nat.lt_succ_of_le (Z.lz h2)))⟩,.inl (.inl (by exact Nat.not_le_of_lt (Nat.lt_succ_of_le (Z.lz h2))))⟩
  ·refine ⟨⟨by exact Z.le_lt (Nat.pos_of_ne_zero h1),by exact Nat.not_le_of_lt (Nat.lt_succ_of_le (Nat.le_of_eq h2))⟩,?_⟩
   rcases h3 with h3 | h3
   ·exact .inr h3
   ·exact .inl (.inr h3)
noncomputable def stQ (F R c k t:Nat):Bool:=decide ((((t%F:Nat):Int) - ((k%F:Nat):Int)).natAbs<3)&&decide (htOf F R c t<R*5 / 8)
noncomputable def stS (F R:Nat) (b kq:Nat->Nat) (c j:Nat):Nat:=((List.range j).map fun t=>if stQ F R c (kq c) t=true then min (tmN F R b kq (1 - c) (F*R) t) 2 else 0).sum
theorem stS_succ {j:Nat}:stS F R b kq c (j+1)=stS F R b kq c j+if stQ F R c (kq c) j=true then min (tmN F R b kq (1 - c) (F*R) j) 2 else 0:=by
 unfold stS
 rw [List.range_succ,List.map_append,List.sum_append]
 simp
theorem storm_eq (B:BoardOk F R b kq):stormN F R b kq c=stS F R b kq c (F*R):=by
 revert F R b kq c
 exists F,R,b,kq,c
 intro B
 have hN:=FRs_le B.fr
 have cut:∀ q:Nat->Bool,(∀ i,F*R<=i->q i=false)->pc q=(List.range (F*R)).countP q:=by
  intro q hq
  unfold pc
  rw (config:={}) [List.countP_eq_length_filter,List.countP_eq_length_filter,filter_range_none (a:=F*R) (fun i h1 _=>hq i h1) (by exact Nat.le_trans hN.2.2.2.2 (by decide))]
 have z:∀ i,F*R<=i->flankB F R c (kq c) i=false:=fun i hi=>by unfold flankB; rw (config:={}) [decide_eq_false (by exact Nat.not_lt_of_le hi)]; rfl
 unfold stormN
 rw (config:={}) [cut _ (fun i hi=>by rw (config:={}) [z i hi,Bool.and_false]),cut _ (fun i hi=>by rw (config:={}) [z i hi,Bool.and_false])]
 have key:∀ j,j<=F*R->(List.range j).countP (fun i=>decide (1<=cntR F R b kq (1 - c) (plA b (1 - c)) i)&&flankB F R c (kq c) i)+(List.range j).countP (fun i=>decide (2<=cntR F R b kq (1 - c) (plA b (1 - c)) i)&&flankB F R c (kq c) i)=stS F R b kq c j:=by
  intro j
  induction j with
  | zero=>intro _; rfl
  | succ j ih =>
   intro hj
   have ih:=ih (by exact Nat.le_of_lt (Z.ltn hj))
   rw (config:={}) [stS_succ,<- ih,List.range_succ,List.countP_append,List.countP_append,List.countP_singleton,List.countP_singleton,cnt_tm B]
   have e:flankB F R c (kq c) j=stQ F R c (kq c) j:=by
    unfold flankB stQ
    rw (config:={}) [decide_eq_true (show j<F*R by exact Z.ltn hj),Bool.true_and,Bool.and_comm]
   rw (config:={}) [e]
   cases stQ F R c (kq c) j with
   | false=>simp
   | true =>
    simp only [Bool.and_true,decide_eq_true_eq,if_true]
    split <;> split <;> lia
 exact key _ (Nat.le_refl _)
theorem ok_ht2 {Φ:Φt} {G:Nat->V} {Q:V × H->Prop} {t:Nat} {loc:List V} (hF:2<=F/\F<=6/\3<=R/\R<=5/\F*R<=30) (ht:t<F*R) (l0:loc[0]? = some (.int F)) (l1:loc[1]? = some (.int R)) (l5:loc[5]? = some (.int c)) (l29:loc[29]? = some (.int t)) :
  wE Φ G (.ife (.cmp .eq (.var 5) (.int 0)) (.bin .fdiv (.var 29) (.var 0)) (.bin .sub (.bin .sub (.var 1) (.int 1)) (.bin .fdiv (.var 29) (.var 0)))) loc σ Q↔Q (.int (htOf F R c t),σ):=by
 revert F R σ c Φ G Q t loc
 exists F,R,σ,c,Φ,G,Q,t,loc
 intro hF ht l0 l1 l5 l29
 have dd:(t:Int).fdiv F=((t / F:Nat):Int):=by rw [Int.fdiv_eq_ediv_of_nonneg _ (by exact Z.c0)]; rfl
 have hR:t / F<R:=Nat.div_lt_of_lt_mul ht
 simp! [dd,l0,l1,l5,l29,e_and,e_or]
 unfold htOf
 have c0:((c:Int)==0)=decide (c=0):=by rw [Bool.eq_iff_iff]; simp
 rw [c0]
 by_cases z:c=0
 ·simp only [z,decide_true,if_true,forall_const,Bool.true_eq_false,false_implies,and_true]
  exact ⟨fun h=>h.2,fun h=>⟨⟨by lia,by exact Z.na hF.2.1 (by decide)⟩,h⟩⟩
 ·simp only [z,decide_false,if_false,forall_const,Bool.false_eq_true,false_implies,true_and]
  have:(R:Int) - 1 - ((t / F:Nat):Int)=((R - 1 - t / F:Nat):Int):=by exact Z.csr hR
  rw [this]
  exact ⟨fun h=>h.2,fun h=>⟨⟨by lia,by exact Z.na hF.2.1 (by decide)⟩,h⟩⟩
theorem if1 {p1 p2 p3 p4 p5:Bool} {Y N:Prop} (y:(p1&&(p2||(p3&&(p4||p5))))=true->Y) (n:(p1&&(p2||(p3&&(p4||p5))))=false->N) :
  (p1=true->(p2=false->(p3=true->(p4=false->(p5=false->N)/\(p5=true->Y))/\(p4=true->(p4=false->N)/\(p4=true->Y)))/\(p3=false->(p3=false->N)/\(p3=true->Y)))/\(p2=true->(p2=false->N)/\(p2=true->Y)))/\(p1=false->(p1=false->N)/\(p1=true->Y)):=by
 revert p1 p2 p3 p4 p5 Y N
 exists p1,p2,p3,p4,p5,Y,N
 intro y n
 repeat' first
  | exact y rfl
  | exact n rfl
  | refine And.intro ?_ ?_
  | (intro h; first | subst h | cases h)
theorem side4 (X:SideH P A script F R b kq c bd p mp ma s0 n0 s1 n1 xa xb σ) {w13 w14 w15 w16 w17 w18 w19 w20 w21 w22 w23 w25 w26 w34:V} {Q:V × H->Prop} (hQ:∀ τ,Base σ τ->Q (.bool true,τ)) :
  Ok (evSs (callN prog glb (m+9)) glb rest65c [.int F,.int R,.ref bd,.ref p,.ref mp,.int c,lkV s0 n0,lkV s1 n1,.ref s0,.ref n0,.ref (n0+8),.ref (n0+10),.rng 0 (F*R:Nat) 1,w13,w14,w15,w16,w17,w18,w19,w20,w21,w22,w23,.int (kq c),w25,w26,.undef,.undef,.undef,.undef,.undef,.undef,.undef,w34,.undef,.undef] σ) (KR Q):=by
 revert P A F R b kq ma xa xb σ m c bd p mp s0 n0 s1 n1 script w13 w14 w15 w16 w17 w18 w19 w20 w21 w22 w23 w25 w26 w34 Q
 exists P,A,F,R,b,kq,ma,xa,xb,σ,m,c,bd,p,mp,s0,n0,s1,n1,script
 intro X
 exists w13,w14,w15,w16,w17,w18,w19,w20,w21,w22,w23,w25,w26,w34,Q
 intro hQ
 have hN:=FRs_le X.B.fr
 have hc:=X.hc
 have hc':1 - c<2:=by exact Z.sb
 have hk:=X.B.klt c hc
 have dm:∀ t:Nat,(t:Int).fmod F=((t%F:Nat):Int):=fun t=>by rw [Int.fmod_eq_emod_of_nonneg _ (by exact Z.c0)]; rfl
 simp only [rest65c,ssT,rest65b,rest65a,b_law_side]
 simp! [e_comp,rng_it hN]
 refine ok_sift (List.range (F*R)) (weakQ F R b kq c) rfl (by simp) (by simp; exact Nat.le_trans hN.2.2.2.2 (by decide)) (fun _ _=>rfl) (fun t ht υ h => ?_) ?_
 ·have Xh:=X.base h
  have ht:=List.mem_range.mp ht
  have c0:(((tmN F R b kq c (F*R) t:Nat):Int)==0)=(tmN F R b kq c (F*R) t==0):=by rw [show (0:Int)=((0:Nat):Int) from rfl,int_beq]
  have c1:(((tmN F R b kq c (F*R) t:Nat):Int)==1)=(tmN F R b kq c (F*R) t==1):=by rw [show (1:Int)=((1:Nat):Int) from rfl,int_beq]
  have g5:getI υ (.ref (n0+8)) (.int 5)=some (.ref (n0+1+5)):=Xh.L0.byG (k:=5) (by decide)
  have g6:getI υ (.ref (n0+8)) (.int 6)=some (.ref (n0+1+6)):=Xh.L0.byG (k:=6) (by decide)
  simp! [if_cons,if_nil,rd_lk,lk_3,Xh.L1.tiG ht,Xh.L0.tiG ht,tm_ne,c0,c1,g5,g6,in_at (Xh.L0.bys 5 (by decide)),in_at (Xh.L0.bys 6 (by decide)),e_and,e_or]
  unfold weakQ
  exact if1 (fun q=>by rw [q]) (fun q=>by rw [q])
 refine nm (σ++[O.list false (intsOf ((List.range (F*R)).filter (weakQ F R b kq c)))]) fun τ1 e1 => ?_
 have B1:Base σ τ1:=e1 ▸ Base.refl.push _
 have r1:τ1[σ.length]? = some (.list false (intsOf ((List.range (F*R)).filter (weakQ F R b kq c)))):=by rw [e1]; exact get_push
 have X1:=X.base B1
 rw [<- e1]
 simp! [rng_it hN]
 refine ok_for_range (fun j loc υ=>υ=τ1/\∃ w29 w30,loc=[.int F,.int R,.ref bd,.ref p,.ref mp,.int c,lkV s0 n0,lkV s1 n1,.ref s0,.ref n0,.ref (n0+8),.ref (n0+10),.rng 0 (F*R:Nat) 1,w13,w14,w15,w16,w17,w18,w19,w20,w21,w22,w23,.int (kq c),w25,w26,.ref σ.length,.int (stS F R b kq c j:Nat),w29,w30,.undef,.undef,.undef,w34,.undef,.undef]) ?_ ?_ ⟨rfl,_,_,rfl⟩
 ·intro I_ hI_ j loc υ hj zq
  refine an2 zq fun eυ zq2 => ?_
  clear zq
  refine ex2 zq2 fun w29 w30 zq3 => ?_
  clear zq2
  subst zq3
  obtain rfl:τ1=υ:=eυ.symm
  refine ⟨rfl,?_⟩
  rw [bt_1,ok_some,KBd,wSs_eq,ss_cons',SeqC,s_asg,AsgC]
  rw [ok_ht2 (c:=c) (t:=j) hN hj rfl rfl rfl rfl,KAs,ks_next,ss_cons',SeqC]
  simp only [List.set_cons_succ,List.set_cons_zero]
  refine ite_cond (stQ F R c (kq c) j) ?_ (fun q => ?_) (fun q => ?_)
  ·have h8:((R:Int)*5).fdiv 8=((R*5 / 8:Nat):Int):=by rw [Int.fdiv_eq_ediv_of_nonneg _ (by decide)]; rfl
   have e3:decide (((((((j%F:Nat):Int) - ((kq c%F:Nat):Int)).natAbs:Nat):Int))<3)=decide (((((j%F:Nat):Int) - ((kq c%F:Nat):Int)).natAbs)<3):=by rw [Bool.eq_iff_iff]; simp; exact Z.iltr
   have e8:decide (((htOf F R c j:Nat):Int)<((R*5 / 8:Nat):Int))=decide (htOf F R c j<R*5 / 8):=by rw [Bool.eq_iff_iff]; simp only [decide_eq_true_eq]; exact Z.iltr
   simp! [dm,e3,h8,e8,e_and,e_or]
   unfold stQ
   exact ⟨⟨by lia,by exact Z.na hN.2.1 (by decide)⟩,⟨by lia,by lia⟩,fun q=>⟨by exact Z.na hN.2.2.2.1 (by decide),by decide,by rw [q]; rfl⟩,fun q=>by rw [q]; rfl⟩
  ·have e2:min ((tmN F R b kq (1 - c) (F*R) j:Nat):Int) 2=((min (tmN F R b kq (1 - c) (F*R) j) 2:Nat):Int):=by exact Z.mn2
   simp! [rd_lk,lk_3,X1.L1.tiG hj,e2,e_and,e_or]
   exact ⟨.int j,.int (htOf F R c j:Nat),by rw [stS_succ,if_pos q,Int.natCast_add]⟩
  ·simp! [oks,e_and,e_or]
   exact ⟨.int j,.int (htOf F R c j:Nat),by rw [stS_succ,if_neg (by rw [q]; decide),Nat.add_zero (stS F R b kq c j)]⟩
 ·intro loc υ zq
  refine an2 zq fun eυ zq2 => ?_
  clear zq
  refine ex2 zq2 fun w29 w30 zq3 => ?_
  clear zq2
  subst zq3
  obtain rfl:τ1=υ:=eυ.symm
  refine ⟨rfl,?_⟩
  simp! [oks,e_and,e_or]
  refine (sp_weak (m:=m+8) X1.M hc).mono ?_
  rintro ⟨v,υ⟩
  intro zq
  refine an2 zq fun e zq2 => ?_
  clear zq
  refine ea1_2 zq2 fun y e' hy => ?_
  clear zq2
  dsimp only at e e'
  subst e' e
  rw [weak_eq X.B hy]
  simp! [oks,e_and,e_or]
  refine (sp_bits (m:=m+8) (fz:=false) (L:=(List.range (F*R)).filter (weakQ F R b kq c)) r1 (fun t ht=>by have:=List.mem_range.mp (List.mem_filter.mp ht).1; exact Nat.le_of_lt (Z.ltR this (Nat.le_trans hN.2.2.2.2 (by decide))))).at_ ?_
  simp! [beq_self_eq_true,X1.pos.geo,e_and,e_or]
  refine (sp_storm (m:=m+6) X1.B X1.pos.G X1.M hc).at_ ?_
  rw [storm_eq X.B]
  simp! [beq_self_eq_true,e_and,e_or]
  exact hQ _ B1
theorem sp_lside (X:SideH P A script F R b kq c bd p mp ma s0 n0 s1 n1 xa xb σ) :
  Ok (callN prog glb (m+10) 65 [.int F,.int R,.ref bd,.ref p,.ref mp,.int c,lkV s0 n0,lkV s1 n1] σ) (fun r=>Base σ r.2/\r.1 = .bool true):=by
 refine enter rfl rfl (by decide) fun P_ hR_ => ?_
 simp only [f_law_side]
 refine side1 (m:=m) X fun τ1 b1 => ?_
 refine side2 (m:=m) (X.base b1) fun τ2 w13 w14 w15 w16 w17 w18 w19 w20 w21 w22 w23 w34 b2 => ?_
 refine side3 (m:=m) (X.base (b1.trans b2)) fun τ3 w25 w26 b3 => ?_
 exact side4 (m:=m) (X.base (b1.trans (b2.trans b3))) fun τ4 b4=>Eq.mpr (hR_ _) ⟨b1.trans (b2.trans (b3.trans b4)),rfl⟩
end
noncomputable def upd (b:Nat->Nat) (s v:Nat):Nat->Nat:=fun i=>if i=s then v else b i
section
variable {F R:Nat} {b kq:Nat->Nat} {σ τ:H} {m na:Nat} {script:List Int}
theorem brd_set {N s v:Nat} (h:s<N):(intsOf (brdL N b)).set s (.int (v:Nat))=intsOf (brdL N (upd b s v)):=by
 unfold intsOf brdL
 rw [List.map_map,List.map_map]
 apply List.ext_getElem?
 intro i
 by_cases e:s=i
 ·subst e
  rw [List.getElem?_set_self (by simpa using h),List.getElem?_map,List.getElem?_range h]
  simp [upd]
 ·rw [List.getElem?_set_ne e,List.getElem?_map,List.getElem?_map]
  by_cases hi:i<N
  ·rw [List.getElem?_range hi]
   have:i≠s:=fun q=>e q.symm
   simp [upd,this]
  ·rw [List.getElem?_eq_none (by simpa using hi)]; rfl
set_option tactic.hygienic true in
theorem BoardOk.upd (B:BoardOk F R b kq) {s k d:Nat} (hs:s<F*R) (hb:b s=0) (hk:1<=k/\k<=5) (hd:d<2) (hp:k=1->1<=s / F/\s / F+1<R):BoardOk F R (upd b s (k+8*d)) kq:=by
 refine ⟨B.fr,fun i hi => ?_,fun i hi => ?_,B.klt,fun c i hc => ?_,fun i hi => ?_⟩
 ·unfold Mob.upd at hi ⊢
  split at hi
  ·rename_i q; rw [if_pos q]; exact Z.up8 hk hd
  ·rename_i q; rw [if_neg q]; exact B.val i hi
 ·unfold Mob.upd
  rw [if_neg (by exact Z.ne_gt (Z.ltR hs hi))]; exact B.out i hi
 ·unfold Mob.upd
  split
  ·rename_i q
   subst q
   constructor
   ·lia
   ·intro z
    have:=(B.king c i hc).mpr z
    lia
  ·exact B.king c i hc
 ·unfold Mob.upd at hi
  split at hi
  ·rename_i q; rw [q]; exact hp (by exact Z.m81 hk hi)
  ·exact B.pawn i hi
set_option tactic.hygienic true in
theorem board0 (hF:(F,R)∈FRs) {w x:Nat} (hw:w<F*R) (hx:x<F*R) (hn:w≠x):BoardOk F R (upd (upd (fun _=>0) w 6) x 14) (fun c=>if c=0 then w else x):=by
 revert F R w x
 exists F,R
 intro hF
 exists w,x
 intro hw hx hn
 refine ⟨hF,fun i hi => ?_,fun i hi => ?_,fun c hc => ?_,fun c i hc => ?_,fun i hi => ?_⟩
 ·unfold upd at hi ⊢
  split
  ·decide
  ·split
   ·decide
   ·rename_i q q'; rw [if_neg q,if_neg q'] at hi; exact absurd rfl hi
 ·unfold upd; rw [if_neg (by exact Z.ne_gt (Z.ltR hx hi)),if_neg (by exact Z.ne_gt (Z.ltR hw hi))]
 ·show (if c=0 then w else x)<F*R
  split <;> (first | exact hw | exact hx)
 ·have:c=0\/c=1:=by lia
  unfold upd
  rcases this with rfl | rfl
  ·simp only [if_true]
   split
   ·lia
   ·split <;> lia
  ·simp only [Nat.one_ne_zero,if_false]
   split
   ·lia
   ·split <;> lia
 ·unfold upd at hi
  split at hi
  ·lia
  ·split at hi
   ·lia
   ·simp at hi
theorem ok_out {Φ:Φt} {G:Nat->V} {Q:V × H->Prop} {q:Nat} {loc:List V} (hF:2<=F/\F<=6/\3<=R/\R<=5/\F*R<=30) (l0:loc[0]? = some (.int F)) (l1:loc[1]? = some (.int R)) (l7:loc[7]? = some (.int q)) :
  wE Φ G (.or (.cons (.cmp .eq (.bin .fdiv (.var 7) (.var 0)) (.int 0)) (.cons (.cmp .eq (.bin .fdiv (.var 7) (.var 0)) (.bin .sub (.var 1) (.int 1))) .nil))) loc σ Q↔Q (.bool (q / F==0||q / F==R - 1),σ):=by
 revert F R σ Φ G Q q loc
 exists F,R,σ,Φ,G,Q,q,loc
 intro hF l0 l1 l7
 have dd:(q:Int).fdiv F=((q / F:Nat):Int):=by rw [Int.fdiv_eq_ediv_of_nonneg _ (by exact Z.c0)]; rfl
 have c0:(((q / F:Nat):Int)==0)=(q / F==0):=by rw [show (0:Int)=((0:Nat):Int) from rfl,int_beq]
 have c1:(((q / F:Nat):Int)==(R:Int) - 1)=(q / F==R - 1):=by rw [<- int_beq]; congr 1; exact Z.csn (Nat.le_trans (by decide) hF.2.2.1)
 have f1:¬ (F:Int)=0/\(F:Int).natAbs<1073741824:=⟨by lia,by exact Z.na hF.2.1 (by decide)⟩
 simp! [dd,l0,l1,l7,c0,c1,f1,e_and,e_or]
 cases (q / F==0) <;> cases (q / F==R - 1) <;> simp
theorem fmod_nat {n:Int} {s:Nat} (hs:0<s):∃ q:Nat,q<s/\n.fmod s=(q:Int):=by
 rw [Int.fmod_eq_emod_of_nonneg _ (by exact Z.c0)]
 have h1:=Int.emod_nonneg n (show (s:Int)≠0 by lia)
 have h2:=Int.emod_lt_of_pos n (show (0:Int)<s by exact Z.cltl hs)
 exact ⟨(n%s).toNat,by exact Z.tlt0 h1 h2,by exact Z.cst h1⟩
theorem sp_lboard (hF:(F,R)∈FRs) {xs:List Int} (hx:σ[na]? = some (.list false (xs.map V.int))) (hl:xs.length<=100) :
  Ok (callN prog glb (m+1) 54 [.int F,.int R,.ref na] σ) (fun r=>Base σ r.2/\∃ a b kq,r.1 = .ref a/\σ.length<=a/\BoardOk F R b kq/\r.2[a]? = some (.list false (intsOf (brdL (F*R) b)))):=by
 revert F R σ m na xs
 exists F,R,σ,m,na
 intro hF
 exists xs
 intro hx hl
 have hN:=FRs_le hF
 have hN2:6<=F*R:=Nat.mul_le_mul hN.1 hN.2.2.1
 have eN:(F:Int)*R=((F*R:Nat):Int):=by simp
 have hFn:(F:Int).natAbs<2^64:=by exact Z.na hN.2.1 (by decide)
 refine nm (xs++([0,9]:List Int).drop xs.length) fun ys eys => ?_
 have ly:2<=ys.length/\ys.length<=102:=by rw [eys,List.length_append,List.length_drop]; simp; exact Z.pad2 hl
 refine nm (σ++[O.list false [V.int 0,V.int 9]]) fun τ1 e1 => ?_
 refine nm (τ1++[O.list false ((([0,9]:List Int).drop xs.length).map V.int)]) fun τ2 e2 => ?_
 refine nm (τ2++[O.list false (ys.map V.int)]) fun τ3 e3 => ?_
 refine nm (τ3++[O.list false [V.int 0]]) fun τ4 e4 => ?_
 refine nm (τ4++[O.list false (List.replicate (F*R) (V.int 0))]) fun τ5 e5 => ?_
 have B1:Base σ τ1:=e1 ▸ Base.refl.push _
 have B2:Base τ1 τ2:=e2 ▸ Base.refl.push _
 have B3:Base τ2 τ3:=e3 ▸ Base.refl.push _
 have B4:Base τ3 τ4:=e4 ▸ Base.refl.push _
 have B5:Base τ4 τ5:=e5 ▸ Base.refl.push _
 have E1:σ++[O.list false [V.int 0,V.int 9]]=τ1:=e1.symm
 have E4:τ3++[O.list false [V.int 0]]=τ4:=e4.symm
 have ln:biV .len [.ref na] τ1=some (.int xs.length,τ1):=by rw [len_at (B1.get hx),List.length_map]
 have sl:sliceV τ1 (.ref σ.length) (.int xs.length) none=some (.ref τ1.length,τ2):=by
  have g:τ1[σ.length]? = some (.list false (([0,9]:List Int).map V.int)):=by rw [e1]; exact get_push
  show (match τ1[σ.length]? with | some (.list _ xs')=>if 0<=(xs.length:Int) then (sliceXs xs' (xs.length:Int).toNat none).map fun ys=>(V.ref τ1.length,τ1++[O.list false ys]) else none | _=>none)=_
  rw [g]
  dsimp only
  rw [if_pos (by exact Z.c0)]
  unfold sliceXs
  rw [Option.map_some,Int.toNat_natCast,e2,List.map_drop]
 have ad:binV .add (.ref na) (.ref τ1.length) τ2=some (.ref τ2.length,τ3):=by
  rw [add_at ((B1.trans B2).get hx) (by rw [e2]; exact get_push) (by rw [List.length_map,List.length_map,List.length_drop]; simp [LIM]; exact Z.pad2a hl),e3,eys,List.map_append]
 have mu:binV .mul (.ref τ3.length) (.int (F*R:Nat)) τ4=some (.ref τ4.length,τ5):=by rw [e5]; exact mul_at (by rw [e4]; exact get_push) (by exact Nat.le_trans hN.2.2.2.2 (by decide))
 have gy:τ5[τ2.length]? = some (.list false (ys.map V.int)):=(B4.trans B5).get (by rw [e3]; exact get_push)
 have g5:τ5[τ4.length]? = some (.list false (intsOf (brdL (F*R) fun _=>0))):=by
  rw [e5,get_push]
  congr 2
  unfold intsOf brdL
  rw [List.map_map]
  apply List.ext_getElem?
  intro i
  by_cases hi:i<F*R
  ·rw [List.getElem?_replicate,if_pos hi,List.getElem?_map,List.getElem?_range hi]; rfl
  ·rw [List.getElem?_replicate,if_neg hi,List.getElem?_eq_none (by simpa using hi)]
 obtain ⟨y0,y1,zs,rfl⟩:∃ y0 y1 zs,ys=y0::y1::zs:=by
  rcases ys with _ | ⟨y0,_ | ⟨y1,zs⟩⟩
  ·exact absurd ly.1 (by decide)
  ·exact absurd ly.1 (Nat.not_succ_le_self 1)
  ·exact ⟨y0,y1,zs,rfl⟩
 refine ea1_2 (fmod_nat (n:=y0) (s:=F*R) (by exact Z.ltR (by decide) hN2)) fun w hw ew => ?_
 refine ea1_2 (fmod_nat (n:=y1) (s:=F*R - 1) (by exact Z.p0 hN2)) fun u hu eu => ?_
 refine ea1_2 (fmod_nat (n:=(w:Int)+1+u) (s:=F*R) (by exact Z.ltR (by decide) hN2)) fun x hx' ex => ?_
 have eN1:((F*R:Nat):Int) - 1=((F*R - 1:Nat):Int):=by exact Z.csn (Nat.le_trans (by decide) hN2)
 have hne:w≠x:=by
  intro z
  rw [Int.fmod_eq_emod_of_nonneg _ (by exact Z.c0)] at ex
  subst z
  have h1:((w:Int)+1+u)%(F*R:Nat)=(w:Int):=ex
  have h2:(w+1+u)%(F*R)=w:=by exact_mod_cast h1
  by_cases q:w+1+u<F*R
  ·rw [Nat.mod_eq_of_lt q] at h2; lia
  ·rw [Nat.mod_eq_sub_mod (by exact Z.nle q),Nat.mod_eq_of_lt (by exact Z.wua hw hu)] at h2; exact Z.wu hu h2 q
 have l4:τ2.length<τ4.length:=by rw [e4,e3]; simp
 have lσ:σ.length<=τ4.length:=(B1.trans (B2.trans (B3.trans B4))).len
 have gy0:getI τ5 (.ref τ2.length) (.int 0)=some (.int y0):=getI_at (k:=0) gy rfl
 refine nm (τ5.set τ4.length (.list false (intsOf (brdL (F*R) (upd (fun _=>0) w 6))))) fun τ6 e6 => ?_
 have s6:setI τ5 (.ref τ4.length) (.int w) (.int 6)=some τ6:=by
  rw [e6,<- brd_set hw]; exact setI_at g5 (by rw [brd_len]; exact hw)
 have g6:τ6[τ4.length]? = some (.list false (intsOf (brdL (F*R) (upd (fun _=>0) w 6)))):=by rw [e6,set_eq g5]
 have gy6:τ6[τ2.length]? = some (.list false ((y0::y1::zs).map V.int)):=by rw [e6,set_ne (by exact Nat.ne_of_gt l4)]; exact gy
 have gy1:getI τ6 (.ref τ2.length) (.int 1)=some (.int y1):=getI_at (k:=1) gy6 rfl
 refine nm (τ6.set τ4.length (.list false (intsOf (brdL (F*R) (upd (upd (fun _=>0) w 6) x 14))))) fun τ7 e7 => ?_
 have s7:setI τ6 (.ref τ4.length) (.int x) (.int 14)=some τ7:=by
  rw [e7,<- brd_set hx']; exact setI_at g6 (by rw [brd_len]; exact hx')
 have g7:τ7[τ4.length]? = some (.list false (intsOf (brdL (F*R) (upd (upd (fun _=>0) w 6) x 14)))):=by rw [e7,set_eq g6]
 have gy7:τ7[τ2.length]? = some (.list false ((y0::y1::zs).map V.int)):=by rw [e7,set_ne (by exact Nat.ne_of_gt l4)]; exact gy6
 refine nm (τ7++[O.list false (zs.map V.int)]) fun τ8 e8 => ?_
 have sl8:sliceV τ7 (.ref τ2.length) (.int 2) none=some (.ref τ7.length,τ8):=by
  show (match τ7[τ2.length]? with | some (.list _ xs')=>if 0<=(2:Int) then (sliceXs xs' (2:Int).toNat none).map fun ys=>(V.ref τ7.length,τ7++[O.list false ys]) else none | _=>none)=_
  rw [gy7,e8]; rfl
 have g8:τ8[τ7.length]? = some (.list false (zs.map V.int)):=by rw [e8]; exact get_push
 have B8:Base τ7 τ8:=e8 ▸ Base.refl.push _
 have Bσ:Base σ τ8:=by
  refine Base.trans ?_ B8
  rw [e7,e6]
  exact ((B1.trans (B2.trans (B3.trans (B4.trans B5)))).set lσ _).set lσ _
 have l7:τ4.length<τ7.length:=by
  apply Classical.byContradiction; intro z
  rw [List.getElem?_eq_none (by exact Z.nle z)] at g7; cases g7
 refine enter rfl rfl (by decide) fun P_ hR_ => ?_
 simp only [f_law_board,b_law_board]
 simp! [eN,E1,e_slice,ln,sl,ad,E4,mu,gy0,ew,s6,gy1,eN1,eu,ex,s7,sl8,items_at g8]
 have n1:¬ ((F*R:Nat):Int)=0/\((F*R:Nat):Int).natAbs<1073741824:=⟨by lia,by exact Z.na hN.2.2.2.2 (by decide)⟩
 refine ⟨hFn,(by decide:2<=LIM),(by decide:1<=LIM),n1,⟨by lia,by exact Z.nam hN.2.2.2.2 (by decide)⟩,n1,?_⟩
 refine ok_for (fun r loc υ=>∃ (z1 z2:List Int) (b kq:Nat->Nat) (w6 w7 w8 w9:V),z1++z2=zs/\r=z2.map V.int/\loc=[.int F,.int R,.ref τ2.length,.int (F*R:Nat),.ref τ4.length,.int w,w6,w7,w8,w9]/\Base σ υ/\BoardOk F R b kq /\
  υ[τ4.length]? = some (.list false (intsOf (brdL (F*R) b)))/\υ[τ7.length]? = some (.list false (zs.map V.int))) ?_ ?_ ⟨[],zs,_,_,_,_,_,_,rfl,rfl,rfl,Bσ,board0 hF hw hx' hne,B8.get g7,g8⟩
 ·intro I_ hI_ v r loc υ zq
  refine ea8_7 zq fun z1 z2 b kq w6 w7 w8 w9 p1 p2 zq2 => ?_
  clear zq
  subst zq2
  intro bυ Bk gb gz
  induction z2,v,r,p2 using map_c with
  | k n z2 =>
   refine ⟨still_at gz,?_⟩
   refine ea1_2 (fmod_nat (n:=n) (s:=F*R) (by exact Z.ltR (by decide) hN2)) fun q hq eq => ?_
   refine ea1_2 (fmod_nat (n:=n.fdiv (F*R:Nat)) (s:=5) (by decide)) fun k hk ek => ?_
   refine ea1_2 (fmod_nat (n:=n.fdiv (F*R*5:Nat)) (s:=2) (by decide)) fun d hd ed => ?_
   have ek:(n.fdiv (F*R:Nat)).fmod 5=(k:Int):=ek
   have ed:(n.fdiv (F*R*5:Nat)).fmod 2=(d:Int):=ed
   have e5:((F*R:Nat):Int)*5=((F*R*5:Nat):Int):=by simp
   have n5:¬ ((F*R*5:Nat):Int)=0/\((F*R*5:Nat):Int).natAbs<1073741824:=⟨by lia,by exact Z.nam5 hN.2.2.2.2 (by decide)⟩
   have gq:getI υ (.ref τ4.length) (.int q)=some (.int (b q)):=brd_get gb hq
   simp only [bt_1,oks,KBd,wSs_eq,ss_cons',SeqC,s_asg,AsgC,KAs,ks_next,List.set_cons_succ,List.set_cons_zero,e_bin,BinC,KB1,KB2,e_var,VarC,okr,KV,e_int,ValC,List.getElem?_cons_succ,List.getElem?_cons_zero,Option.bind_some,rd_int,rd_ref,bv_mod,bv_fdiv,bv_add,ok_ite,eq,ek]
   refine ⟨n1,n1,⟨by decide,by decide⟩,?_⟩
   rw [ok_out (q:=q) hN rfl rfl rfl]
   simp only [KAs,ks_next,SeqC,List.set_cons_succ,List.set_cons_zero]
   have kv:(1:Int)+(k:Int)=((1+k:Nat):Int):=by lia
   rw [kv]
   refine nm ((q / F==0||q / F==R - 1)) fun o eo => ?_
   rw [<- eo]
   refine ite_cond (b q==0 && !((1+k==1)&&o)) ?_ (fun z => ?_) (fun z => ?_)
   ·have c0:(((b q:Nat):Int)==0)=(b q==0):=by rw [show (0:Int)=((0:Nat):Int) from rfl,int_beq]
    have c1:(((1+k:Nat):Int)==1)=(1+k==1):=by rw [show (1:Int)=((1:Nat):Int) from rfl,int_beq]
    simp! [gq,c0,c1,e_and,e_or]
    cases (b q==0) <;> cases (1+k==1) <;> cases o <;> simp
   ·simp only [Bool.and_eq_true,Bool.not_eq_true',beq_iff_eq] at z
    have vv:((1+k:Nat):Int)+(d:Int)*8=((1+k+8*d:Nat):Int):=by lia
    have st:setI υ (.ref τ4.length) (.int q) (.int ((1+k+8*d:Nat):Int))=some (υ.set τ4.length (.list false (intsOf (brdL (F*R) (upd b q (1+k+8*d)))))):=by
     rw [<- brd_set hq]; exact setI_at gb (by rw [brd_len]; exact hq)
    simp! [e5,ed,vv,st,e_and,e_or]
    have hR:q / F<R:=Nat.div_lt_of_lt_mul hq
    refine ⟨by exact Z.nat n1.2 (by decide),n5,by decide,by exact Z.na1 hd (by decide),z1++[n],z2,upd b q (1+k+8*d),kq,_,_,_,_,by rw [<- p1,List.append_assoc]; rfl,rfl,rfl,bυ.set lσ _,?_,set_eq gb,by rw [set_ne (by exact Nat.ne_of_lt l7)]; exact gz⟩
    refine Bk.upd hq z.1 (by lia) hd (fun hk1 => ?_)
    have:=z.2
    rw [hk1,beq_self_eq_true,Bool.true_and,eo] at this
    simp only [Bool.or_eq_false_iff,beq_eq_false_iff_ne] at this
    generalize q / F=f at this hR ⊢
    exact Z.fr this hR
   ·simp! [oks,e_and,e_or]
    exact ⟨z1++[n],z2,b,kq,_,_,_,_,by rw [<- p1,List.append_assoc]; rfl,rfl,rfl,bυ,Bk,gb,gz⟩
 ·intro loc υ zq
  refine ea8_7 zq fun z1 z2 b kq w6 w7 w8 w9 p1 p2 zq2 => ?_
  clear zq
  subst zq2
  intro bυ Bk gb gz
  have:z2=[]:=List.map_eq_nil_iff.mp p2.symm
  subst this
  rw [List.append_nil] at p1
  subst p1
  refine ⟨still_at gz,?_⟩
  simp! [oks,e_and,e_or]
  exact ⟨bυ,_,b,kq,rfl,lσ,Bk,gb⟩
end
section
variable {σ:H} {L:List O} {m k:Nat} {F R:Nat}
theorem can_get:(σ++L)[σ.length+k]? = L[k]? := by rw [List.getElem?_append_right (by exact Nat.le_add_right _ _)]; congr 1; exact Nat.add_sub_cancel_left _ _
theorem can_get0:(σ++L)[σ.length]? = L[0]? := can_get (k:=0)
theorem can_set {o:O}:(σ++L).set (σ.length+k) o=σ++L.set k o:=by rw [List.set_append_right _ _ (by exact Nat.le_add_right _ _)]; congr 2; exact Nat.add_sub_cancel_left _ _
theorem can_attr {c:Nat} {fs:List (Nat × V)} {f:Nat}:attrOf (σ ++ .inst c fs::L) (.ref σ.length) f=fs.lookup f:=by
 unfold attrOf
 dsimp only
 rw [can_get0]
 rfl
theorem can_attrSet {c:Nat} {fs:List (Nat × V)} {f:Nat} {w:V}:attrSet (σ ++ .inst c fs::L) (.ref σ.length) f w=if fs.length<100 then some (σ ++ .inst c (putF fs f w)::L) else none:=by
 unfold attrSet
 dsimp only
 rw [can_get0]
 dsimp only [List.getElem?_cons_zero]
 rw [show σ.length=σ.length+0 from rfl,can_set]
 rfl
theorem can_app {xs:List V} {v:V} (h:L[k]? = some (.list false xs)) (hl:xs.length<LIM):methV .append (.ref (σ.length+k)) v (σ++L)=some (.none,σ++L.set k (.list false (xs++[v]))):=by
 rw [app_at (by rw [can_get]; exact h) hl,can_set]
theorem can_isL {xs:List V} (h:L[k]? = some (.list false xs)):isLst (σ++L) (.ref (σ.length+k))=true:=isL_at (by rw [can_get]; exact h)
theorem can_mul {x:V} {n:Int} (h:L[k]? = some (.list false [x])) (hn:0<=n/\n<=1000):binV .mul (.ref (σ.length+k)) (.int n) (σ++L)=some (.ref (σ.length+L.length),σ++(L++[.list false (List.replicate n.toNat x)])):=by
 obtain ⟨n',rfl⟩:=Int.eq_ofNat_of_zero_le hn.1
 rw [mul_at (by rw [can_get]; exact h) (by exact Z.ule hn.2),List.length_append,List.append_assoc]
 rfl
noncomputable def gfs (n F R:Nat) (fu:Int) (hd:Bool) (k7 k10:Nat):List (Nat × V) :=
 [(1,.int F),(2,.int R),(6,.int (F*R:Nat)),(5,.int fu),(25,.bool hd),(11,.bool false),(4,.ref (n+1)),(3,.ref (n+2)),(0,.ref (n+3)),(7,.ref (n+k7)),(9,.ref (n+5)),(8,.ref (n+8)),(12,.ref (n+9)),(10,.ref (n+k10))]
noncomputable def fullI (F R:Nat):Int:=2^(F*R) - 1
theorem can_step {c k f:Nat} {G:List (Nat × V)} {v:V} (h:putF (G.take k) f v=G.take (k+1)) (hk:decide ((G.take k).length<100)=true):attrSet (σ ++ .inst c (G.take k)::L) (.ref σ.length) f v=some (σ ++ .inst c (G.take (k+1))::L):=by rw [can_attrSet,if_pos (of_decide_eq_true hk),h]
theorem sp_newG (hF:(F,R)∈FRs):Ok (callN prog glb (m+1) 1001 [.ref σ.length,.int F,.int R,.bool true,.bool false] (σ++[.inst 1 []])) (fun r=>r=(.none,σ++[.inst 1 (gfs σ.length F R (fullI F R) (decide ((5:Int)<=R)) 4 10),.list false [],.list false [],.list false [],.list false [],.list false [],.list false [],.list false [],.list false [.ref (σ.length+6),.ref (σ.length+7)],.list false [],.list false []])):=by
 revert σ m F R
 exists σ,m,F,R
 intro hF
 have hN:=FRs_le hF
 have eN:(F:Int)*R=((F*R:Nat):Int):=by simp
 refine nm (gfs σ.length F R (fullI F R) (decide ((5:Int)<=R)) 4 10) fun G eG => ?_
 have s0:∀ {L},attrSet (σ ++ .inst 1 (G.take 0)::L) (.ref σ.length) 1 (.int F)=some (σ ++ .inst 1 (G.take 1)::L):=by rw [eG]; exact can_step (by kernel_rfl) (by kernel_rfl)
 have s1:∀ {L},attrSet (σ ++ .inst 1 (G.take 1)::L) (.ref σ.length) 2 (.int R)=some (σ ++ .inst 1 (G.take 2)::L):=by rw [eG]; exact can_step (by kernel_rfl) (by kernel_rfl)
 have s2:∀ {L},attrSet (σ ++ .inst 1 (G.take 2)::L) (.ref σ.length) 6 (.int (F*R:Nat))=some (σ ++ .inst 1 (G.take 3)::L):=by rw [eG]; exact can_step (by kernel_rfl) (by kernel_rfl)
 have s3:∀ {L},attrSet (σ ++ .inst 1 (G.take 3)::L) (.ref σ.length) 5 (.int (2^(F*R) - 1))=some (σ ++ .inst 1 (G.take 4)::L):=by rw [eG]; exact can_step (by kernel_rfl) (by kernel_rfl)
 have s4:∀ {L},attrSet (σ ++ .inst 1 (G.take 4)::L) (.ref σ.length) 25 (.bool (decide ((5:Int)<=R)))=some (σ ++ .inst 1 (G.take 5)::L):=by rw [eG]; exact can_step (by kernel_rfl) (by kernel_rfl)
 have s5:∀ {L},attrSet (σ ++ .inst 1 (G.take 5)::L) (.ref σ.length) 11 (.bool false)=some (σ ++ .inst 1 (G.take 6)::L):=by rw [eG]; exact can_step (by kernel_rfl) (by kernel_rfl)
 have s6:∀ {L},attrSet (σ ++ .inst 1 (G.take 6)::L) (.ref σ.length) 4 (.ref (σ.length+1))=some (σ ++ .inst 1 (G.take 7)::L):=by rw [eG]; exact can_step (by kernel_rfl) (by kernel_rfl)
 have s7:∀ {L},attrSet (σ ++ .inst 1 (G.take 7)::L) (.ref σ.length) 3 (.ref (σ.length+2))=some (σ ++ .inst 1 (G.take 8)::L):=by rw [eG]; exact can_step (by kernel_rfl) (by kernel_rfl)
 have s8:∀ {L},attrSet (σ ++ .inst 1 (G.take 8)::L) (.ref σ.length) 0 (.ref (σ.length+3))=some (σ ++ .inst 1 (G.take 9)::L):=by rw [eG]; exact can_step (by kernel_rfl) (by kernel_rfl)
 have s9:∀ {L},attrSet (σ ++ .inst 1 (G.take 9)::L) (.ref σ.length) 7 (.ref (σ.length+4))=some (σ ++ .inst 1 (G.take 10)::L):=by rw [eG]; exact can_step (by kernel_rfl) (by kernel_rfl)
 have s10:∀ {L},attrSet (σ ++ .inst 1 (G.take 10)::L) (.ref σ.length) 9 (.ref (σ.length+5))=some (σ ++ .inst 1 (G.take 11)::L):=by rw [eG]; exact can_step (by kernel_rfl) (by kernel_rfl)
 have s11:∀ {L},attrSet (σ ++ .inst 1 (G.take 11)::L) (.ref σ.length) 8 (.ref (σ.length+8))=some (σ ++ .inst 1 (G.take 12)::L):=by rw [eG]; exact can_step (by kernel_rfl) (by kernel_rfl)
 have s12:∀ {L},attrSet (σ ++ .inst 1 (G.take 12)::L) (.ref σ.length) 12 (.ref (σ.length+9))=some (σ ++ .inst 1 (G.take 13)::L):=by rw [eG]; exact can_step (by kernel_rfl) (by kernel_rfl)
 have s13:∀ {L},attrSet (σ ++ .inst 1 (G.take 13)::L) (.ref σ.length) 10 (.ref (σ.length+10))=some (σ ++ .inst 1 (G.take 14)::L):=by rw [eG]; exact can_step (by kernel_rfl) (by kernel_rfl)
 have fin:G.take 14=G:=by rw [eG]; rfl
 show Ok (callN prog glb (m+1) 1001 [.ref σ.length,.int F,.int R,.bool true,.bool false] (σ++[.inst 1 (G.take 0)])) _
 rw [<- eG]
 clear eG
 refine enter rfl rfl (by decide) fun P_ hR_ => ?_
 simp only [f_new_Geometry,b_new_Geometry]
 simp! [eN,s0,s1,s2,s3,s4,s5,s6,s7,s8,s9,s10,s11,s12,s13,List.length_nil,List.length_cons,if_true,if_false,Nat.reduceAdd,Nat.zero_add,reduceIte,List.append_assoc,List.length_append,Int.toNat_natCast,Int.one_mul,e_and,e_or]
 refine ⟨by exact Z.na hN.2.1 (by decide),by exact Z.na hN.2.1 (by decide),⟨by exact Z.c0,by exact Z.cle (Nat.le_trans hN.2.2.2.2 (by decide))⟩,by decide,by decide,by decide,by decide,by decide,by decide,by decide,by decide,by decide,by decide,?_⟩
 rw [fin]
section
variable {fu:Int} {hd:Bool} {k7 k10:Nat}
theorem ga1:attrOf (σ ++ .inst 1 (gfs σ.length F R fu hd k7 k10)::L) (.ref σ.length) 1=some (.int F):=can_attr.trans rfl
theorem ga2:attrOf (σ ++ .inst 1 (gfs σ.length F R fu hd k7 k10)::L) (.ref σ.length) 2=some (.int R):=can_attr.trans rfl
theorem ga4:attrOf (σ ++ .inst 1 (gfs σ.length F R fu hd k7 k10)::L) (.ref σ.length) 4=some (.ref (σ.length+1)):=can_attr.trans rfl
theorem ga3:attrOf (σ ++ .inst 1 (gfs σ.length F R fu hd k7 k10)::L) (.ref σ.length) 3=some (.ref (σ.length+2)):=can_attr.trans rfl
end
noncomputable def rmI (F r:Nat):Int:=(2^F - 1)*2^(r*F)
noncomputable def colI (F:Nat):Nat->Int
 | 0=>0
 | j+1=>bitOr (colI F j) (2^(j*F))
noncomputable def fmI (F R f:Nat):Int:=colI F R*2^f
noncomputable def chkMask (F R:Nat):Bool:=((List.range R).all fun r=>rmI F r==bitsOf ((List.range (F*R)).filter fun i=>i / F==r))&&((List.range F).all fun f=>fmI F R f==bitsOf ((List.range (F*R)).filter fun i=>i%F==f))&&decide ((colI F R).natAbs<2^64)&&(fullI F R==bitsOf (List.range (F*R)))
theorem chkMask_all:(FRs.all fun p=>chkMask p.1 p.2)=true:=by decide +kernel
theorem mask_ok (hF:(F,R)∈FRs):(∀ r,r<R->rmI F r=bitsOf ((List.range (F*R)).filter fun i=>i / F==r))/\(∀ f,f<F->fmI F R f=bitsOf ((List.range (F*R)).filter fun i=>i%F==f))/\(colI F R).natAbs<2^64/\fullI F R=bitsOf (List.range (F*R)):=by
 have h:=List.all_eq_true.mp chkMask_all (F,R) hF
 unfold chkMask at h
 simp only [Bool.and_eq_true,decide_eq_true_eq,beq_iff_eq,List.all_eq_true,List.mem_range] at h
 exact ⟨h.1.1.1,h.1.1.2,h.1.2,h.2⟩
noncomputable def tabV (n:Nat) (f:Nat->Int):List V:=(List.range n).map fun i=>V.int (f i)
theorem tabV_succ {n:Nat} {f:Nat->Int}:tabV (n+1) f=tabV n f++[.int (f n)]:=by
 unfold tabV
 rw [List.range_succ,List.map_append]; rfl
theorem tabV_len {n:Nat} {f:Nat->Int}:(tabV n f).length=n:=by unfold tabV; simp
theorem tabV_get {n:Nat} {f:Nat->Int} {i:Nat} (h:i<n):(tabV n f)[i]? = some (.int (f i)):=by
 unfold tabV
 rw [List.getElem?_map,List.getElem?_range h]; rfl
theorem sp_masks (hF:(F,R)∈FRs) {fu:Int} {hd:Bool} {k7 k10:Nat} {L:List O}:Ok (callN prog glb (m+1) 11 [.ref σ.length] (σ ++ .inst 1 (gfs σ.length F R fu hd k7 k10) :: .list false [] :: .list false []::L))
  (fun r=>r=(.none,σ ++ .inst 1 (gfs σ.length F R fu hd k7 k10) :: .list false (tabV F (fmI F R)) :: .list false (tabV R (rmI F))::L)):=by
 revert σ m F R fu hd k7 k10 L
 exists σ,m,F,R
 intro hF
 exists fu,hd,k7,k10,L
 have hN:=FRs_le hF
 refine an4 (mask_ok hF) fun _ _ hc _ => ?_
 have hrow:((2:Int)^F - 1).natAbs<2^64:=by
  have:F=2\/F=3\/F=4\/F=5\/F=6:=by exact Z.or26 hN.1 hN.2.1
  rcases this with rfl | rfl | rfl | rfl | rfl <;> decide
 have itR:∀ τ,items τ (.rng 0 R 1)=some ((List.range R).map fun k:Nat=>V.int k):=fun τ=>items_range (by unfold LIM; exact Nat.le_trans hN.2.2.2.1 (by decide)) rfl
 have itF:∀ τ,items τ (.rng 0 F 1)=some ((List.range F).map fun k:Nat=>V.int k):=fun τ=>items_range (by unfold LIM; exact Nat.le_trans hN.2.1 (by decide)) rfl
 refine enter rfl rfl (by decide) fun P_ hR_ => ?_
 simp only [f_add_masks,b_add_masks]
 simp! [ga1,ga2,Int.toNat_natCast,Int.one_mul,itR,e_and,e_or]
 refine ⟨⟨by exact Z.c0,by exact Z.cle (Nat.le_trans hN.2.1 (by decide))⟩,?_⟩
 refine ok_for_range (fun j loc υ=>∃ w3,loc=[.ref σ.length,.int (2^F - 1),.int (colI F j),w3,.undef]/\υ=σ ++ .inst 1 (gfs σ.length F R fu hd k7 k10) :: .list false [] :: .list false (tabV j (rmI F))::L) ?_ ?_ ⟨_,rfl,rfl⟩
 ·intro I_ hI_ j loc υ hj zq
  refine ea1_2 zq fun w3 zq2 => ?_
  clear zq
  subst zq2
  intro zq3
  subst zq3
  have eJ:(j:Int)*F=((j*F:Nat):Int):=by simp
  have hjF:j*F<=30:=by have:j*F<=R*F:=Nat.mul_le_mul_right F (by exact Nat.le_of_lt hj); rw [Nat.mul_comm R F] at this; exact Nat.le_trans this hN.2.2.2.2
  have il:isLst (σ ++ .inst 1 (gfs σ.length F R fu hd k7 k10) :: .list false [] :: .list false (tabV j (rmI F))::L) (.ref (σ.length+2))=true:=can_isL rfl
  have ap:methV .append (.ref (σ.length+2)) (.int ((2^F - 1)*2^(j*F))) (σ ++ .inst 1 (gfs σ.length F R fu hd k7 k10) :: .list false [] :: .list false (tabV j (rmI F))::L)=some (.none,σ ++ .inst 1 (gfs σ.length F R fu hd k7 k10) :: .list false [] :: .list false (tabV (j+1) (rmI F))::L):=by
   rw [can_app (k:=2) rfl (by rw [tabV_len]; unfold LIM; exact Z.ltR hj (Nat.le_trans hN.2.2.2.1 (by decide))),tabV_succ]; rfl
  refine ⟨rfl,?_⟩
  simp! [ga1,ga3,il,eJ,Int.toNat_natCast,ap,Int.one_mul,e_and,e_or]
  exact ⟨by exact Z.na1 hj (Nat.le_trans hN.2.2.2.1 (by decide)),⟨by exact Z.c0,by exact Z.cle (Nat.le_trans hjF (by decide)),hrow⟩,by exact Z.na1 hj (Nat.le_trans hN.2.2.2.1 (by decide)),⟨by exact Z.c0,by exact Z.cle (Nat.le_trans hjF (by decide))⟩,_,rfl⟩
 ·intro loc υ zq
  refine ea1_2 zq fun w3 zq2 => ?_
  clear zq
  subst zq2
  intro zq3
  subst zq3
  refine ⟨rfl,?_⟩
  simp! [ga1,itF,e_and,e_or]
  refine ok_for_range (fun j loc υ=>∃ w3 w4,loc=[.ref σ.length,.int (2^F - 1),.int (colI F R),w3,w4]/\υ=σ ++ .inst 1 (gfs σ.length F R fu hd k7 k10) :: .list false (tabV j (fmI F R)) :: .list false (tabV R (rmI F))::L) ?_ ?_ ⟨_,_,rfl,rfl⟩
  ·intro I_ hI_ j loc υ hj zq
   refine ea2_2 zq fun w3 w4 zq2 => ?_
   clear zq
   subst zq2
   intro zq3
   subst zq3
   have il:isLst (σ ++ .inst 1 (gfs σ.length F R fu hd k7 k10) :: .list false (tabV j (fmI F R)) :: .list false (tabV R (rmI F))::L) (.ref (σ.length+1))=true:=can_isL rfl
   have ap:methV .append (.ref (σ.length+1)) (.int (colI F R*2^j)) (σ ++ .inst 1 (gfs σ.length F R fu hd k7 k10) :: .list false (tabV j (fmI F R)) :: .list false (tabV R (rmI F))::L)=some (.none,σ ++ .inst 1 (gfs σ.length F R fu hd k7 k10) :: .list false (tabV (j+1) (fmI F R)) :: .list false (tabV R (rmI F))::L):=by
    rw [can_app (k:=1) rfl (by rw [tabV_len]; unfold LIM; exact Z.ltR hj (Nat.le_trans hN.2.1 (by decide))),tabV_succ]; rfl
   refine ⟨rfl,?_⟩
   simp! [ga4,il,Int.toNat_natCast,ap,e_and,e_or]
   exact ⟨⟨by exact Z.c0,by exact Z.cle (Nat.le_of_lt (Z.ltR hj (Nat.le_trans hN.2.1 (by decide)))),hc⟩,_,_,rfl⟩
  ·intro loc υ zq
   refine ea2_2 zq fun w3 w4 zq2 => ?_
   clear zq
   subst zq2
   intro zq3
   subst zq3
   refine ⟨rfl,?_⟩
   simp! [oks,e_and,e_or]
end
noncomputable def stepF (d:Nat):Int:=sfs.getD d 0
noncomputable def stepR (d:Nat):Int:=srs.getD d 0
noncomputable def ed1 (F R d:Nat):Int:=if 0<stepF d then bitOr 0 (fmI F R (F - 1)) else 0
noncomputable def ed2 (F R d:Nat):Int:=if stepF d<0 then bitOr (ed1 F R d) (fmI F R 0) else ed1 F R d
noncomputable def ed3 (F R d:Nat):Int:=if 0<stepR d then bitOr (ed2 F R d) (rmI F (R - 1)) else ed2 F R d
noncomputable def ed4 (F R d:Nat):Int:=if stepR d<0 then bitOr (ed3 F R d) (rmI F 0) else ed3 F R d
noncomputable def innI (F R d:Nat):Int:=bitAnd (fullI F R) (bitNot (ed4 F R d))
noncomputable def gdl (F d:Nat):Int:=stepR d*F+stepF d
noncomputable def chkGeo (F R:Nat):Bool:=(List.range 8).all fun d=>(List.range (F*R)).all fun s =>
 if bitAnd ((innI F R d).fdiv (2^s)) 1=0 then (rayL F R d s).isEmpty&&(hopsL F R s [way d]).isEmpty
 else
  let z:=(s:Int)+gdl F d
  decide (0<=z)&&decide (z<(F*R:Nat))&&decide (bitsOf (rayL F R d s)=bitOr (bitsOf (rayL F R d z.toNat)) (2^z.toNat))&&(hopsL F R s [way d]==[z.toNat])&&(if grows d then decide ((s:Int)<z) else decide (z<s))
theorem chkGeo_all:(FRs.all fun p=>chkGeo p.1 p.2)=true:=by decide +kernel
section
variable {σ:H} {m:Nat} {F R:Nat}
theorem geo_out (hF:(F,R)∈FRs) {d s:Nat} (hd:d<8) (hs:s<F*R) (h:bitAnd ((innI F R d).fdiv (2^s)) 1=0):rayL F R d s=[]/\hopsL F R s [way d]=[]:=by
 revert F R d s
 exists F,R
 intro hF
 exists d,s
 intro hd hs h
 have q:=List.all_eq_true.mp chkGeo_all (F,R) hF
 have q:=List.all_eq_true.mp q d (List.mem_range.mpr hd)
 have q:=List.all_eq_true.mp q s (List.mem_range.mpr hs)
 rw [if_pos h] at q
 simpa using q
set_option tactic.hygienic true in
theorem geo_in (hF:(F,R)∈FRs) {d s:Nat} (hd:d<8) (hs:s<F*R) (h:bitAnd ((innI F R d).fdiv (2^s)) 1≠0):∃ z:Nat,z<F*R/\(s:Int)+gdl F d=z/\bitsOf (rayL F R d s)=bitOr (bitsOf (rayL F R d z)) (2^z)/\hopsL F R s [way d]=[z]/\(if grows d then s<z else z<s):=by
 revert F R d s
 exists F,R
 intro hF
 exists d,s
 intro hd hs h
 have q:=List.all_eq_true.mp chkGeo_all (F,R) hF
 have q:=List.all_eq_true.mp q d (List.mem_range.mpr hd)
 have q:=List.all_eq_true.mp q s (List.mem_range.mpr hs)
 rw [if_neg h] at q
 simp only [Bool.and_eq_true,decide_eq_true_eq,beq_iff_eq] at q
 refine an2 q fun zq => ?_
 try clear q
 refine an2 zq fun zq2 => ?_
 clear zq
 refine an2 zq2 fun zq3 => ?_
 clear zq2
 refine an2 zq3 fun h1 h2 => ?_
 clear zq3
 intro h3
 intro h4
 intro h5
 refine ⟨((s:Int)+gdl F d).toNat,by exact Z.tlt0 h1 h2,by exact Z.cst h1,h3,h4,?_⟩
 split at h5
 ·rename_i g; rw [if_pos g]; have:=of_decide_eq_true h5; exact Z.lt_t this
 ·rename_i g; rw [if_neg g]; have:=of_decide_eq_true h5; exact Z.tlt0 h1 this
theorem hops_app {s:Nat}:∀ (l1 l2:List (Int × Int)),hopsL F R s (l1++l2)=hopsL F R s l1++hopsL F R s l2
 | [],l2=>rfl
 | (x,y)::r,l2=>by
  rw [List.cons_append,hopsL,hopsL,hops_app r l2]
  split <;> simp
noncomputable def wset (w:Nat->O) (k:Nat) (o:O):Nat->O:=fun i=>if i=k then o else w i
structure HV (σ:H) (w:Nat->O) (K:Nat) (υ:H):Prop where
 base:Base σ υ
 len:υ.length=σ.length+K
 at_:∀ k,k<K->υ[σ.length+k]? = some (w k)
theorem HV.set {w:Nat->O} {K k:Nat} {υ:H} (h:HV σ w K υ) (hk:k<K) (o:O):HV σ (wset w k o) K (υ.set (σ.length+k) o):=by
 refine ⟨h.base.set (by exact Nat.le_add_right _ _) _,by rw [List.length_set]; exact h.len,fun i hi => ?_⟩
 unfold wset
 by_cases e:i=k
 ·subst e; rw [if_pos rfl,set_eq (h.at_ i hi)]
 ·rw [if_neg e,set_ne (by lia)]; exact h.at_ i hi
theorem HV.push {w:Nat->O} {K:Nat} {υ:H} (h:HV σ w K υ) (o:O):HV σ (wset w K o) (K+1) (υ++[o]):=by
 refine ⟨h.base.push _,by rw [List.length_append,h.len]; rfl,fun i hi => ?_⟩
 unfold wset
 by_cases e:i=K
 ·subst e; rw [if_pos rfl,<- h.len]; exact get_push
 ·rw [if_neg e]; exact (Base.refl.push o).get (h.at_ i (by exact Z.lt1 hi e))
theorem HV.ofList {L:List O} {w:Nat->O} (h:∀ k,k<L.length->L[k]? = some (w k)):HV σ w L.length (σ++L) :=
 ⟨⟨L,rfl⟩,by simp,fun k hk=>by rw [can_get]; exact h k hk⟩
theorem gat {υ:H} {n:Nat} {c:Nat} {fs:List (Nat × V)} {f:Nat} {v:V} (h:υ[n]? = some (.inst c fs)) (hf:fs.lookup f=some v):attrOf υ (.ref n) f=some v:=by
 unfold attrOf
 simp only [h,hf]
theorem gset {υ:H} {n:Nat} {c:Nat} {fs:List (Nat × V)} {f:Nat} {v:V} (h:υ[n]? = some (.inst c fs)) (hl:fs.length<100):attrSet υ (.ref n) f v=some (υ.set n (.inst c (putF fs f v))):=by
 unfold attrSet
 simp only [h,if_pos hl]
theorem sp_inner (hF:(F,R)∈FRs) {υ:H} {n:Nat} {hd:Bool} {k7 k10 d:Nat} (h0:υ[n]? = some (.inst 1 (gfs n F R (fullI F R) hd k7 k10))) (h1:υ[n+1]? = some (.list false (tabV F (fmI F R)))) (h2:υ[n+2]? = some (.list false (tabV R (rmI F)))) (hd8:d<8) :
  Ok (callN prog glb (m+1) 12 [.ref n,.int d] υ) (fun r=>r=(.int (innI F R d),υ)):=by
 revert m F R υ n hd k7 k10 d
 exists m,F,R
 intro hF
 exists υ,n,hd,k7,k10,d
 intro h0 h1 h2 hd8
 have hN:=FRs_le hF
 have a1:attrOf υ (.ref n) 1=some (.int F):=gat h0 rfl
 have a2:attrOf υ (.ref n) 2=some (.int R):=gat h0 rfl
 have a4:attrOf υ (.ref n) 4=some (.ref (n+1)):=gat h0 rfl
 have a3:attrOf υ (.ref n) 3=some (.ref (n+2)):=gat h0 rfl
 have a5:attrOf υ (.ref n) 5=some (.int (fullI F R)):=gat h0 rfl
 have f1:getI υ (.ref (n+1)) (.int (F - 1:Nat))=some (.int (fmI F R (F - 1))):=getI_at h1 (tabV_get (by exact Z.s1 (Nat.le_trans (by decide) hN.1)))
 have f0:getI υ (.ref (n+1)) (.int 0)=some (.int (fmI F R 0)):=getI_at (k:=0) h1 (tabV_get (by exact Z.ltR (by decide) hN.1))
 have r1:getI υ (.ref (n+2)) (.int (R - 1:Nat))=some (.int (rmI F (R - 1))):=getI_at h2 (tabV_get (by exact Z.s1 (Nat.le_trans (by decide) hN.2.2.1)))
 have r0:getI υ (.ref (n+2)) (.int 0)=some (.int (rmI F 0)):=getI_at (k:=0) h2 (tabV_get (by exact Z.ltR (by decide) hN.2.2.1))
 have eF:(F:Int) - 1=((F - 1:Nat):Int):=by exact Z.csn (Nat.le_trans (by decide) hN.1)
 have eR:(R:Int) - 1=((R - 1:Nat):Int):=by exact Z.csn (Nat.le_trans (by decide) hN.2.2.1)
 have gF:getI υ (glb 9) (.int d)=some (.int (stepF d)):=by
  have:d=0\/d=1\/d=2\/d=3\/d=4\/d=5\/d=6\/d=7:=by exact Z.or8 hd8
  rcases this with rfl | rfl | rfl | rfl | rfl | rfl | rfl | rfl <;> rfl
 have gR:getI υ (glb 10) (.int d)=some (.int (stepR d)):=by
  have:d=0\/d=1\/d=2\/d=3\/d=4\/d=5\/d=6\/d=7:=by exact Z.or8 hd8
  rcases this with rfl | rfl | rfl | rfl | rfl | rfl | rfl | rfl <;> rfl
 have rd9:rdV (glb 9)=some (glb 9):=rfl
 have rd10:rdV (glb 10)=some (glb 10):=rfl
 refine enter rfl rfl (by decide) fun P_ hR_ => ?_
 simp only [f_inner_squares,b_inner_squares]
 try simp only [wSs_eq,ss_cons',SeqC,s_asg,AsgC,KAs,e_int,ValC,ks_next,List.set_cons_succ,List.set_cons_zero,List.cons_append,List.nil_append,List.replicate_succ,List.replicate_zero,Nat.reduceSub]
 have seg:∀ {X:E} {Y:Ss} {rest:WS} {cv:Bool} {v v':Int} {Q:Fl × List V × H->Prop},Ok (evE (callN prog glb m) glb X [.ref n,.int d,.int v] υ) (fun p=>p.2=υ/\truth υ p.1=some cv) ->
   (cv=true->∀ {Q':Fl × List V × H->Prop},Q' (.next,[.ref n,.int d,.int v'],υ)->Ok (evSs (callN prog glb m) glb Y [.ref n,.int d,.int v] υ) Q')->(cv=false->v'=v) ->
   rest [.ref n,.int d,.int v'] υ Q->wS (callN prog glb m) glb (.ite X Y .nil) [.ref n,.int d,.int v] υ (KS rest Q):=by
  intro X Y rest cv v v' Q h1 h2 h3 h4
  refine ite_cond cv h1 (fun q=>h2 q (show KS rest Q (.next,_,υ) from h4)) (fun q => ?_)
  rw [wSs_eq,ss_nil',FloC,ks_next,<- h3 q]; exact h4
 refine seg (cv:=decide (0<stepF d)) (v':=ed1 F R d) ?_ (fun q Q' h => ?_) (fun q => ?_) ?_
 ·simp! [rd9,gF,e_and,e_or]
 ·simp! [a4,a1,eF,f1,e_and,e_or]
  unfold ed1 at h
  rw [if_pos (of_decide_eq_true q)] at h; exact h
 ·unfold ed1; rw [if_neg (of_decide_eq_false q)]
 rw [SeqC]
 refine seg (cv:=decide (stepF d<0)) (v':=ed2 F R d) ?_ (fun q Q' h => ?_) (fun q => ?_) ?_
 ·simp! [rd9,gF,e_and,e_or]
 ·simp! [a4,f0,e_and,e_or]
  unfold ed2 at h
  rw [if_pos (of_decide_eq_true q)] at h; exact h
 ·unfold ed2; rw [if_neg (of_decide_eq_false q)]
 rw [SeqC]
 refine seg (cv:=decide (0<stepR d)) (v':=ed3 F R d) ?_ (fun q Q' h => ?_) (fun q => ?_) ?_
 ·simp! [rd10,gR,e_and,e_or]
 ·simp! [a3,a2,eR,r1,e_and,e_or]
  unfold ed3 at h
  rw [if_pos (of_decide_eq_true q)] at h; exact h
 ·unfold ed3; rw [if_neg (of_decide_eq_false q)]
 rw [SeqC]
 refine seg (cv:=decide (stepR d<0)) (v':=ed4 F R d) ?_ (fun q Q' h => ?_) (fun q => ?_) ?_
 ·simp! [rd10,gR,e_and,e_or]
 ·simp! [a3,r0,e_and,e_or]
  unfold ed4 at h
  rw [if_pos (of_decide_eq_true q)] at h; exact h
 ·unfold ed4; rw [if_neg (of_decide_eq_false q)]
 simp! [a5,e_and,e_or]
 rfl
end
section
variable {σ:H} {m:Nat} {F R:Nat}
theorem downFrom_eq:∀ n:Nat,downFrom n ((n:Int) - 1)=(List.range n).reverse.map fun t:Nat=>(t:Int)
 | 0=>rfl
 | n+1=>by
  rw [List.range_succ,List.reverse_append,List.reverse_singleton,List.singleton_append,List.map_cons,<- downFrom_eq n,downFrom]
  have:((n+1:Nat):Int) - 1=(n:Int):=by lia
  rw [this]
theorem items_down {N:Nat} (h:N<=1000) (h1:1<=N):items σ (.rng ((N:Int) - 1) (-1) (-1))=some (intsOf (List.range N).reverse):=by
 unfold items
 have h2:((N:Int) - 1).natAbs<=LIM/\(-1:Int).natAbs<=LIM:=⟨by unfold LIM; exact Nat.le_of_lt (Z.nas h (by decide)),by decide⟩
 simp only [h2,and_self,if_true]
 unfold rngItems
 rw [if_neg (by decide),if_pos rfl]
 have:((N:Int) - 1 - -1).toNat=N:=by lia
 rw [this,downFrom_eq,Option.map_some,List.map_map]
 rfl
theorem tabV_set {n s:Nat} {f:Nat->Int} {v:Int} (h:s<n):(tabV n f).set s (.int v)=tabV n (fun i=>if i=s then v else f i):=by
 apply List.ext_getElem?
 intro i
 by_cases e:s=i
 ·subst e
  rw [List.getElem?_set_self (by rw [tabV_len]; exact h),tabV_get h,if_pos rfl]
 ·rw [List.getElem?_set_ne e]
  by_cases hi:i<n
  ·rw [tabV_get hi,tabV_get hi,if_neg (fun q=>e q.symm)]
  ·rw [List.getElem?_eq_none (by rw [tabV_len]; exact Z.nle hi),List.getElem?_eq_none (by rw [tabV_len]; exact Z.nle hi)]
theorem tabV_congr {n:Nat} {f g:Nat->Int} (h:∀ i,i<n->f i=g i):tabV n f=tabV n g:=by
 unfold tabV
 exact List.map_congr_left fun i hi=>by rw [h i (List.mem_range.mp hi)]
theorem bits_snoc {L:List Nat} {z:Nat}:bitOr (bitsOf L) (2^z)=bitsOf (L++[z]):=ibit_inj fun i=>by
 rw [ibit_or,ibit_bitsOf,ibit_bitsOf,ibit_pow,Bool.eq_iff_iff]
 simp
noncomputable def rayF (F R d:Nat) (L1:List Nat) (i:Nat):Int:=if i∈L1 then bitsOf (rayL F R d i) else 0
noncomputable def kgF (F R d:Nat) (L1:List Nat) (i:Nat):Int:=bitsOf (hopsL F R i (ways.take d)++if i∈L1 then hopsL F R i [way d] else [])
set_option tactic.hygienic true in
theorem rays_loop (hF:(F,R)∈FRs) {d kr:Nat} (hd:d<8) {ord:List Nat} (ho:∀ s∈ord,s<F*R) (hord:∀ L1 s L2,L1++s::L2=ord->∀ z,z<F*R->(if grows d then s<z else z<s)->z∈L1)
  {hdb:Bool} {w:Nat->O} {K:Nat} {υ:H} (hw:HV σ w K υ) (w0:w 0 = .inst 1 (gfs σ.length F R (fullI F R) hdb 12 10)) (wk:w 12 = .list false (tabV (F*R) (kgF F R d []))) (wr:w kr = .list false (tabV (F*R) (rayF F R d [])))
  (hk:13<=kr/\kr<K) {ok:H->Bool} (hok:∀ τ,ok τ=true) {v5 w6 w7:V} {Q:Fl × List V × H->Prop}
  (hQ:∀ w6 w7 υ',HV σ (wset (wset w kr (.list false (tabV (F*R) (rayF F R d ord)))) 12 (.list false (tabV (F*R) (kgF F R d ord)))) K υ'->Q (.next,[.ref σ.length,.int d,.int (innI F R d),.int (gdl F d),.ref (σ.length+kr),v5,w6,w7],υ')) :
  Ok (forN [6] ok (evSs (callN prog glb m) glb (.cons (.ite (.bin .band (.bin .shr (.var 2) (.var 6)) (.int 1)) (.cons (.asg 7 (.bin .add (.var 6) (.var 3)))
 (.cons (.setI (.var 4) (.var 6) (.bin .bor (.sub (.var 4) (.var 7)) (.bin .shl (.int 1) (.var 7))))
 (.cons (.augI (.attr (.var 0) 7) (.var 6) .bor (.bin .shl (.int 1) (.var 7)))
 .nil))) .nil)
 .nil)) (intsOf ord) [.ref σ.length,.int d,.int (innI F R d),.int (gdl F d),.ref (σ.length+kr),v5,w6,w7] υ) Q:=by
 revert σ m F R d kr ord hdb w K υ ok v5 w6 w7 Q
 exists σ,m,F,R
 intro hF
 exists d,kr
 intro hd
 exists ord
 intro ho hord
 exists hdb,w,K,υ
 intro hw w0 wk wr hk
 exists ok
 intro hok
 exists v5,w6,w7,Q
 intro hQ
 have hN:=FRs_le hF
 refine ok_for (fun r loc τ=>∃ (L1 L2:List Nat) (w6 w7:V),L1++L2=ord/\r=intsOf L2/\loc=[.ref σ.length,.int d,.int (innI F R d),.int (gdl F d),.ref (σ.length+kr),v5,w6,w7] /\
  HV σ (wset (wset w kr (.list false (tabV (F*R) (rayF F R d L1)))) 12 (.list false (tabV (F*R) (kgF F R d L1)))) K τ) ?_ ?_ ⟨[],ord,_,_,rfl,rfl,rfl,?_⟩
 ·intro I_ hI_ v r loc τ zq
  refine ea4_4 zq fun L1 L2 w6 w7 p1 p2 zq2 => ?_
  clear zq
  subst zq2
  intro h
  induction L2,v,r,p2 using intsOf_c with
  | k s L2 =>
   have hs:s<F*R:=ho s (by rw [<- p1]; simp)
   refine ⟨hok _,?_⟩
   rw [bt_1,ok_some,KBd,wSs_eq,ss_cons',SeqC]
   simp only [List.set_cons_succ,List.set_cons_zero]
   refine ite_cond (bitAnd ((innI F R d).fdiv (2^s)) 1 != 0) ?_ (fun q => ?_) (fun q => ?_)
   ·simp! [Int.toNat_natCast,e_and,e_or]
    exact Z.c0
   ·have q':bitAnd ((innI F R d).fdiv (2^s)) 1≠0:=by simpa using q
    refine ea1_5 (geo_in hF hd hs q') fun z hz ez hray hhop hdir => ?_
    have hzL:z∈L1:=hord L1 s L2 p1 z hz hdir
    have a0:τ[σ.length]? = some (.inst 1 (gfs σ.length F R (fullI F R) hdb 12 10)):=by
     have:=h.at_ 0 (by exact Nat.lt_of_le_of_lt (Nat.zero_le _) hk.2)
     unfold wset at this
     rw [if_neg (by decide),if_neg (by exact Z.ne_lt (Z.ltR (by decide) hk.1)),w0] at this
     exact this
    have ar:τ[σ.length+kr]? = some (.list false (tabV (F*R) (rayF F R d L1))):=by
     have:=h.at_ kr hk.2
     unfold wset at this
     rw [if_neg (by exact Z.ne_gt (Z.ltn hk.1)),if_pos rfl] at this
     exact this
    have gz:getI τ (.ref (σ.length+kr)) (.int z)=some (.int (bitsOf (rayL F R d z))):=by
     refine getI_at ar ?_
     rw [tabV_get hz]
     unfold rayF
     rw [if_pos hzL]
    have st:=setI_at (k:=s) (w := .int (bitOr (bitsOf (rayL F R d z)) (2^z))) ar (by rw [tabV_len]; exact hs)
    rw [tabV_set hs,<- hray] at st
    refine nm (τ.set (σ.length+kr) (.list false (tabV (F*R) fun i=>if i=s then bitsOf (rayL F R d s) else rayF F R d L1 i))) fun τ1 e1 => ?_
    rw [<- e1] at st
    have h1:=h.set hk.2 (.list false (tabV (F*R) fun i=>if i=s then bitsOf (rayL F R d s) else rayF F R d L1 i))
    rw [<- e1] at h1
    have a1:attrOf τ1 (.ref σ.length) 7=some (.ref (σ.length+12)):=by
     refine gat (c:=1) (fs:=gfs σ.length F R (fullI F R) hdb 12 10) ?_ rfl
     rw [e1,set_ne (by exact Nat.ne_of_gt (Z.ltn (Nat.add_le_add (Nat.le_refl _) (Nat.le_trans (by decide) hk.1))))]; exact a0
    have ak:τ1[σ.length+12]? = some (.list false (tabV (F*R) (kgF F R d L1))):=by
     have:=h1.at_ 12 (by exact Nat.lt_of_le_of_lt (Nat.le_trans (by decide) hk.1) hk.2)
     unfold wset at this
     rw [if_neg (by exact Z.ne_lt (Z.ltn hk.1)),if_pos rfl] at this
     exact this
    have gk:getI τ1 (.ref (σ.length+12)) (.int s)=some (.int (kgF F R d L1 s)):=getI_at ak (tabV_get hs)
    have sk:=setI_at (k:=s) (w := .int (bitOr (kgF F R d L1 s) (2^z))) ak (by rw [tabV_len]; exact hs)
    rw [tabV_set hs] at sk
    have h2:=h1.set (k:=12) (by exact Nat.lt_of_le_of_lt (Nat.le_trans (by decide) hk.1) hk.2) (.list false (tabV (F*R) fun i=>if i=s then bitOr (kgF F R d L1 s) (2^z) else kgF F R d L1 i))
    simp! [ez,gz,Int.toNat_natCast,Int.one_mul,<- hray,st,a1,gk,sk,e_and,e_or]
    refine ⟨⟨by exact Z.c0,by exact Z.cle (Nat.le_of_lt (Z.ltR hz (Nat.le_trans hN.2.2.2.2 (by decide))))⟩,⟨by exact Z.c0,by exact Z.cle (Nat.le_of_lt (Z.ltR hz (Nat.le_trans hN.2.2.2.2 (by decide))))⟩,L1++[s],L2,_,_,by rw [<- p1,List.append_assoc]; rfl,rfl,rfl,h2.base,h2.len,fun i hi => ?_⟩
    rw [h2.at_ i hi]
    have eR:tabV (F*R) (fun i=>if i=s then bitsOf (rayL F R d s) else rayF F R d L1 i)=tabV (F*R) (rayF F R d (L1++[s])):=tabV_congr fun i _=>by
     unfold rayF
     by_cases e:i=s
     ·subst e; simp
     ·simp [e]
    have eK:tabV (F*R) (fun i=>if i=s then bitOr (kgF F R d L1 s) (2^z) else kgF F R d L1 i)=tabV (F*R) (kgF F R d (L1++[s])):=tabV_congr fun i _=>by
     by_cases e:i=s
     ·subst e
      unfold kgF
      rw [if_pos rfl,hhop]
      refine ibit_inj fun j => ?_
      rw [ibit_or,ibit_pow,ibit_bitsOf,ibit_bitsOf,Bool.eq_iff_iff]
      by_cases q:i∈L1 <;> simp [q]
     ·unfold kgF
      rw [if_neg e]
      simp [e]
    unfold wset
    rw [eR,eK]
    by_cases e12:i=12
    ·simp only [if_pos e12]
    ·simp only [if_neg e12]
     by_cases ekr:i=kr
     ·simp only [if_pos ekr]
     ·simp only [if_neg ekr]
   ·have q':bitAnd ((innI F R d).fdiv (2^s)) 1=0:=by simpa using q
    obtain ⟨h1,h2⟩:=geo_out hF hd hs q'
    simp! [oks,e_and,e_or]
    refine ⟨L1++[s],L2,_,_,by rw [<- p1,List.append_assoc]; rfl,rfl,rfl,?_⟩
    have eR:tabV (F*R) (rayF F R d (L1++[s]))=tabV (F*R) (rayF F R d L1):=tabV_congr fun i _=>by
     unfold rayF
     by_cases e:i=s
     ·subst e; rw [h1]; simp [bitsOf]
     ·simp [e]
    have eK:tabV (F*R) (kgF F R d (L1++[s]))=tabV (F*R) (kgF F R d L1):=tabV_congr fun i _=>by
     unfold kgF
     by_cases e:i=s
     ·subst e; rw [h2]; simp
     ·simp [e]
    rw [eR,eK]; exact h
 ·intro loc τ zq
  refine ea4_4 zq fun L1 L2 w6 w7 p1 p2 zq2 => ?_
  clear zq
  subst zq2
  intro h
  have:L2=[]:=List.map_eq_nil_iff.mp p2.symm
  subst this
  rw [List.append_nil] at p1
  subst p1
  exact ⟨hok _,hQ _ _ _ h⟩
 ·refine ⟨hw.base,hw.len,fun i hi => ?_⟩
  rw [hw.at_ i hi]
  unfold wset
  split
  ·rename_i e; rw [e,wk]
  ·split
   ·rename_i e; rw [e,wr]
   ·rfl
end
noncomputable def forB:S->Ss
 | .for_ _ _ b=>b
 | _ => .nil
noncomputable def bodyR:Ss:=forB (ssH (ssT b_add_rays))
noncomputable def restR:Ss:=ssT (ssT (ssT (ssT (ssT bodyR))))
theorem bR:b_add_rays = .cons (ssH b_add_rays) (.cons (.for_ [1] (.bi .range (.cons (.int 8) .nil)) bodyR) .nil):=rfl
theorem bR2:bodyR = .cons (ssH bodyR) (.cons (ssH (ssT bodyR)) (.cons (ssH (ssT (ssT bodyR))) (.cons (ssH (ssT (ssT (ssT bodyR)))) (.cons (ssH (ssT (ssT (ssT (ssT bodyR))))) restR)))):=rfl
section
variable {σ:H} {m:Nat} {F R:Nat}
theorem br_3 {υ:H} {a:Int}:biV .range [.int a,.int (-1),.int (-1)] υ=some (.rng a (-1) (-1),υ):=rfl
theorem st9 {υ:H} {d:Nat} (hd:d<8):getI υ (glb 9) (.int d)=some (.int (stepF d)):=by
 revert υ d
 exists υ,d
 intro hd
 have:d=0\/d=1\/d=2\/d=3\/d=4\/d=5\/d=6\/d=7:=by exact Z.or8 hd
 rcases this with rfl | rfl | rfl | rfl | rfl | rfl | rfl | rfl <;> rfl
theorem st10 {υ:H} {d:Nat} (hd:d<8):getI υ (glb 10) (.int d)=some (.int (stepR d)):=by
 revert υ d
 exists υ,d
 intro hd
 have:d=0\/d=1\/d=2\/d=3\/d=4\/d=5\/d=6\/d=7:=by exact Z.or8 hd
 rcases this with rfl | rfl | rfl | rfl | rfl | rfl | rfl | rfl <;> rfl
theorem stR_abs {d:Nat} (hd:d<8):(stepR d).natAbs<2^64:=by
 revert d
 exists d
 intro hd
 have:d=0\/d=1\/d=2\/d=3\/d=4\/d=5\/d=6\/d=7:=by exact Z.or8 hd
 rcases this with rfl | rfl | rfl | rfl | rfl | rfl | rfl | rfl <;> decide
theorem ways_take {d:Nat} (hd:d<8):ways.take (d+1)=ways.take d++[way d]:=by
 revert d
 exists d
 intro hd
 have:d=0\/d=1\/d=2\/d=3\/d=4\/d=5\/d=6\/d=7:=by lia
 rcases this with rfl | rfl | rfl | rfl | rfl | rfl | rfl | rfl <;> rfl
theorem rep_tab {n:Nat}:List.replicate n (V.int 0)=tabV n (fun _=>0):=by
 apply List.ext_getElem?
 intro i
 by_cases hi:i<n
 ·rw [List.getElem?_replicate,if_pos hi,tabV_get hi]
 ·rw [List.getElem?_replicate,if_neg hi,List.getElem?_eq_none (by rw [tabV_len]; exact Z.nle hi)]
theorem ord_up {N:Nat} {L1 L2:List Nat} {s:Nat} (h:L1++s::L2=List.range N) {z:Nat} (hz:z<N) (hl:z<s):z∈L1:=by
 have p:(L1++s::L2).Pairwise (· < ·):=h ▸ List.pairwise_lt_range
 have hm:z∈L1++s::L2:=h ▸ List.mem_range.mpr hz
 rw [List.pairwise_append] at p
 rcases List.mem_append.mp hm with q | q
 ·exact q
 ·rcases List.mem_cons.mp q with q | q
  ·lia
  ·have:=(List.pairwise_cons.mp p.2.1).1 z q
   lia
theorem ord_down {N:Nat} {L1 L2:List Nat} {s:Nat} (h:L1++s::L2=(List.range N).reverse) {z:Nat} (hz:z<N) (hl:s<z):z∈L1:=by
 have p:(L1++s::L2).Pairwise (fun a b=>b<a):=by
  rw [h,List.pairwise_reverse]; exact List.pairwise_lt_range
 have hm:z∈L1++s::L2:=h ▸ List.mem_reverse.mpr (List.mem_range.mpr hz)
 rw [List.pairwise_append] at p
 rcases List.mem_append.mp hm with q | q
 ·exact q
 ·rcases List.mem_cons.mp q with q | q
  ·lia
  ·have:=(List.pairwise_cons.mp p.2.1).1 z q
   lia
structure RW (F R n:Nat) (hdb:Bool) (w w':Nat->O) (j:Nat):Prop where
 w0:w' 0 = .inst 1 (gfs n F R (fullI F R) hdb 12 10)
 w3:w' 3 = .list false ((List.range j).map fun i=>V.ref (n+(14+2*i)))
 wk:w' 12 = .list false (tabV (F*R) fun i=>bitsOf (hopsL F R i (ways.take j)))
 wr:∀ d,d<j->w' (14+2*d) = .list false (tabV (F*R) fun s=>bitsOf (rayL F R d s))
 wc:∀ k,(k=1\/k=2\/(5<=k/\k<=10))->w' k=w k
theorem sp_rays (hF:(F,R)∈FRs) {hdb:Bool} {w:Nat->O} {υ:H} (h:HV σ w 11 υ) (w0:w 0 = .inst 1 (gfs σ.length F R (fullI F R) hdb 4 10)) (w1:w 1 = .list false (tabV F (fmI F R))) (w2:w 2 = .list false (tabV R (rmI F))) (w3:w 3 = .list false []) :
  Ok (callN prog glb (m+2) 13 [.ref σ.length] υ) (fun r=>r.1 = .none/\∃ w',HV σ w' 29 r.2/\RW F R σ.length hdb w w' 8):=by
 revert σ m F R hdb w υ
 exists σ,m,F,R
 intro hF
 exists hdb,w,υ
 intro h w0 w1 w2 w3
 have hN:=FRs_le hF
 have h1:=h.push (.list false [.int 0])
 have h2:=h1.push (.list false (List.replicate (F*R) (V.int 0)))
 have h3:=h2.set (k:=0) (by decide) (.inst 1 (gfs σ.length F R (fullI F R) hdb 12 10))
 have a1:attrOf (υ++[.list false [.int 0]]) (.ref σ.length) 6=some (.int (F*R:Nat)):=by
  refine gat (c:=1) (fs:=gfs σ.length F R (fullI F R) hdb 4 10) ?_ rfl
  have:=h1.at_ 0 (by decide)
  unfold wset at this
  rw [if_neg (by decide),w0] at this
  exact this
 have mu:binV .mul (.ref υ.length) (.int (F*R:Nat)) (υ++[.list false [.int 0]])=some (.ref (σ.length+12),υ++[.list false [.int 0]]++[.list false (List.replicate (F*R) (V.int 0))]):=by
  rw [mul_at get_push (by exact Nat.le_trans hN.2.2.2.2 (by decide)),h1.len]
 have sa:attrSet (υ++[.list false [.int 0]]++[.list false (List.replicate (F*R) (V.int 0))]) (.ref σ.length) 7 (.ref (σ.length+12))=some ((υ++[O.list false [V.int 0]]++[O.list false (List.replicate (F*R) (V.int 0))]).set (σ.length+0) (.inst 1 (gfs σ.length F R (fullI F R) hdb 12 10))):=by
  have:(υ++[O.list false [V.int 0]]++[O.list false (List.replicate (F*R) (V.int 0))])[σ.length]? = some (.inst 1 (gfs σ.length F R (fullI F R) hdb 4 10)):=by
   have:=h2.at_ 0 (by decide)
   unfold wset at this
   rw [if_neg (by decide),if_neg (by decide),w0] at this
   exact this
  rw [gset this (by simp [gfs])]
  rfl
 refine nm ((υ++[O.list false [V.int 0]]++[O.list false (List.replicate (F*R) (V.int 0))]).set (σ.length+0) (.inst 1 (gfs σ.length F R (fullI F R) hdb 12 10))) fun τ eτ => ?_
 rw [<- eτ] at h3 sa
 have i8:∀ τ,items τ (.rng 0 8 1)=some ((List.range 8).map fun k:Nat=>V.int k):=fun τ=>items_range (n:=8) (by decide) rfl
 refine enter rfl rfl (by decide) fun P_ hR_ => ?_
 simp only [f_add_rays]
 rw [bR]
 simp only [ssH,b_add_rays]
 simp! [a1,mu,sa,i8,e_and,e_or]
 refine ⟨(by decide:1<=LIM),?_⟩
 refine ok_for_range (fun j loc τ=>∃ (w':Nat->O) (v1 v2 v3 v4 v5 v6 v7:V),loc=[.ref σ.length,v1,v2,v3,v4,v5,v6,v7]/\HV σ w' (13+2*j) τ/\RW F R σ.length hdb w w' j) ?_ ?_ ⟨_,_,_,_,_,_,_,_,rfl,h3,?_⟩
 ·intro I_ hI_ d loc τ hd zq
  refine ea8_3 zq fun w' v1 v2 v3 v4 v5 v6 v7 zq2 => ?_
  clear zq
  subst zq2
  intro hv rw'
  refine ⟨rfl,?_⟩
  have at0:=hv.at_ 0 (by exact Z.ltn (Z.nle (Z.fn (by decide))))
  rw [rw'.w0] at at0
  have at1:=hv.at_ 1 (by exact Z.ltn (Z.nle (Z.fn (by decide))))
  rw [rw'.wc 1 (by decide),w1] at at1
  have at2:=hv.at_ 2 (by exact Z.ltn (Z.nle (Z.fn (by decide))))
  rw [rw'.wc 2 (by decide),w2] at at2
  have b1:attrOf τ (.ref σ.length) 1=some (.int F):=gat at0 rfl
  have hp1:=hv.push (.list false [.int 0])
  have hp2:=hp1.push (.list false (List.replicate (F*R) (V.int 0)))
  refine nm (τ++[O.list false [V.int 0]]) fun τ1 e1 => ?_
  refine nm (τ1++[O.list false (List.replicate (F*R) (V.int 0))]) fun τ2 e2 => ?_
  rw [<- e1,<- e2] at hp2
  have b6:attrOf τ1 (.ref σ.length) 6=some (.int (F*R:Nat)):=gat (by rw [e1]; exact (Base.refl.push _).get at0) rfl
  have b62:attrOf τ2 (.ref σ.length) 6=some (.int (F*R:Nat)):=gat (by rw [e2,e1]; exact (Base.refl.push _).get ((Base.refl.push _).get at0)) rfl
  have mu:binV .mul (.ref τ.length) (.int (F*R:Nat)) τ1=some (.ref (σ.length+(14+2*d)),τ2):=by
   rw [e2,mul_at (by rw [e1]; exact get_push) (by exact Nat.le_trans hN.2.2.2.2 (by decide)),e1,List.length_append,hv.len]
   congr 3
   simp
   lia
  have E1:τ++[O.list false [V.int 0]]=τ1:=e1.symm
  have rd9:rdV (glb 9)=some (glb 9):=rfl
  have rd10:rdV (glb 10)=some (glb 10):=rfl
  rw [bt_1,ok_some]
  rw [bR2]
  simp only [ssH,ssT,bodyR,forB,b_add_rays]
  simp! [List.set_cons_succ,List.set_cons_zero,ss_cons',s_asg,e_call,es_cons,es_nil,e_var,List.getElem?_cons_succ,List.getElem?_cons_zero,Option.bind_some,rd_ref,rd_int,e_and,e_or]
  refine (sp_inner (m:=m) hF at0 at1 at2 hd).at_ ?_
  have rest:∀ (v5:V) (ord:List Nat),items τ2 v5=some (intsOf ord)->rdV v5=some v5->(∀ τ',still v5 (intsOf ord) τ'=true)->(∀ s∈ord,s<F*R)->(∀ s,s<F*R->s∈ord)->(∀ L1 s L2,L1++s::L2=ord->∀ z,z<F*R->(if grows d then s<z else z<s)->z∈L1)->∀ {Q:Fl × List V × H->Prop},
    (∀ (w'':Nat->O) τ' (v6 v7:V),HV σ w'' (13+2*(d+1)) τ'->RW F R σ.length hdb w w'' (d+1)->Q (.next,[.ref σ.length,.int d,.int (innI F R d),.int (gdl F d),.ref (σ.length+(14+2*d)),v5,v6,v7],τ')) ->
    Ok (evSs (callN prog glb (m+1)) glb restR [.ref σ.length,.int d,.int (innI F R d),.int (gdl F d),.ref (σ.length+(14+2*d)),v5,v6,v7] τ2) Q:=by
   intro v5 ord hi hrd hst ho hall hord Q hQ
   simp only [restR,ssT,bodyR,forB,ssH,b_add_rays]
   simp! [hrd,hi,e_and,e_or]
   refine rays_loop (m:=m+1) (hdb:=hdb) hF (kr:=14+2*d) hd ho hord hp2 ?_ ?_ ?_ (by exact ⟨(Z.nle (Z.fn (by decide))),(Nat.lt_succ_of_le (Nat.le_of_eq Z.i1c))⟩) (hst) ?_
   ·unfold wset; rw [if_neg (by exact Z.ne_lt (Z.ltn (Nat.le_add_left _ _))),if_neg (by exact Z.ne_lt (Z.ltn (Z.nle (Z.fn (by decide)))))]; exact rw'.w0
   ·unfold wset; rw [if_neg (by exact Z.ne_lt (Z.ltn (Z.mpr1 (Nat.le_add_right _ _)))),if_neg (by exact Z.ne_lt (Z.ltn (Nat.le_add_right _ _))),rw'.wk]
    congr 2
    funext i
    unfold kgF
    simp
   ·unfold wset; rw [if_pos (by exact Z.i1c),rep_tab]
    congr 2
   ·intro w6 w7 τ' hv'
    have c0:τ'[σ.length]? = some (.inst 1 (gfs σ.length F R (fullI F R) hdb 12 10)):=by
     have:=hv'.at_ 0 (by exact Z.ltn (Nat.le_add_left _ _))
     unfold wset at this
     rw [if_neg (by decide),if_neg (by exact Z.ne_lt (Z.ltn (Z.nle (Z.fn (by decide))))),if_neg (by exact Z.ne_lt (Z.ltn (Nat.le_add_left _ _))),if_neg (by lia),rw'.w0] at this
     exact this
    have g0:attrOf τ' (.ref σ.length) 0=some (.ref (σ.length+3)):=gat c0 rfl
    have c3:τ'[σ.length+3]? = some (.list false ((List.range d).map fun i=>V.ref (σ.length+(14+2*i)))):=by
     have:=hv'.at_ 3 (by lia)
     unfold wset at this
     rw [if_neg (by decide),if_neg (by exact Z.ne_lt (Z.ltn (Z.nle (Z.fn (by decide))))),if_neg (by exact Z.ne_lt (Nat.lt_succ_of_le (Z.nle (Z.fn (by decide))))),if_neg (by exact Z.ne_lt (Z.ltn (Z.nle (Z.fn (by decide))))),rw'.w3] at this
     exact this
    have ap:methV .append (.ref (σ.length+3)) (.ref (σ.length+(14+2*d))) τ'=some (.none,τ'.set (σ.length+3) (.list false ((List.range (d+1)).map fun i=>V.ref (σ.length+(14+2*i))))):=by
     rw [app_at c3 (by simp [LIM]; exact Z.ltR hd (by decide)),List.range_succ,List.map_append]; rfl
    have hv2:=hv'.set (k:=3) (by lia) (.list false ((List.range (d+1)).map fun i=>V.ref (σ.length+(14+2*i))))
    simp! [g0,isL_at c3,ap,e_and,e_or]
    refine hQ _ _ _ _ (by rw [show 13+2*(d+1)=13+2*d+1+1 by exact rfl]; exact hv2) ⟨?_,?_,?_,fun i hi' => ?_,fun k hk => ?_⟩
    ·unfold wset; rw [if_neg (by decide),if_neg (by decide),if_neg (by lia),if_neg (by lia),if_neg (by lia)]; exact rw'.w0
    ·unfold wset; rw [if_pos rfl]
    ·unfold wset; rw [if_neg (by lia),if_pos rfl]
     congr 1
     refine tabV_congr fun i hi' => ?_
     unfold kgF
     rw [if_pos (hall i hi'),ways_take hd,hops_app]
    ·unfold wset
     by_cases e:i=d
     ·subst e
      rw [if_neg (by exact Z.ne_gt (Z.ltn (Z.nle (Z.fn (by decide))))),if_neg (by exact Z.ne_gt (Z.ltn (Z.nle (Z.fn (by decide))))),if_pos rfl]
      congr 1
      refine tabV_congr fun s hs => ?_
      unfold rayF
      rw [if_pos (hall s hs)]
     ·rw [if_neg (by lia),if_neg (by lia),if_neg (by lia),if_neg (by lia),if_neg (by lia)]
      exact rw'.wr i (by exact Z.lt1 hi' e)
    ·unfold wset
     rw [if_neg (by lia),if_neg (by exact Z.kne4 hk),if_neg (by exact Z.kne1 hk),if_neg (by exact Z.kne2 hk),if_neg (by exact Z.kne hk)]
     exact rw'.wc k hk
  simp! [rd9,rd10,st9 hd,st10 hd,b1,E1,b6,mu,b62]
  refine ⟨stR_abs hd,(by decide:1<=LIM),?_⟩
  refine (sp_is_growing (m:=m) hd).at_ ?_
  simp! [b62,br_3]
  have fin:∀ (w'':Nat->O) τ' (v5 v6 v7:V),HV σ w'' (13+2*(d+1)) τ'->RW F R σ.length hdb w w'' (d+1)->∃ w' v1 v2 v3 v4 v5' v6' v7',[V.ref σ.length,.int d,.int (innI F R d),.int (gdl F d),.ref (σ.length+(14+2*d)),v5,v6,v7]=[V.ref σ.length,v1,v2,v3,v4,v5',v6',v7']/\HV σ w' (13+2*(d+1)) τ'/\RW F R σ.length hdb w w' (d+1) :=
   fun w'' τ' v5 v6 v7 h1 h2=>⟨w'',_,_,_,_,_,_,_,rfl,h1,h2⟩
  refine ⟨fun g => ?_,fun g => ?_⟩
  ·rw [<- wSs_eq]
   refine rest _ (List.range (F*R)).reverse (items_down (by exact Nat.le_trans hN.2.2.2.2 (by decide)) (by have:=Nat.mul_le_mul hN.1 hN.2.2.1; exact Nat.le_trans (by decide) this)) rfl (fun _=>rfl) (fun s hs=>List.mem_range.mp (List.mem_reverse.mp hs)) (fun s hs=>List.mem_reverse.mpr (List.mem_range.mpr hs)) (fun L1 s L2 h z hz q=>by
    rw [if_pos g] at q; exact ord_down h hz q) (fun w'' τ' v6 v7 h1 h2=>Eq.mpr (hI_ _ _ _) (fin w'' τ' _ v6 v7 h1 h2))
  ·rw [<- wSs_eq]
   refine rest _ (List.range (F*R)) (items_range (by unfold LIM; exact Nat.le_trans hN.2.2.2.2 (by decide)) rfl) rfl (fun _=>rfl) (fun s hs=>List.mem_range.mp hs) (fun s hs=>List.mem_range.mpr hs) (fun L1 s L2 h z hz q=>by
    rw [if_neg (by rw [g]; decide)] at q; exact ord_up h hz q) (fun w'' τ' v6 v7 h1 h2=>Eq.mpr (hI_ _ _ _) (fin w'' τ' _ v6 v7 h1 h2))
 ·intro loc τ zq
  refine ea8_3 zq fun w' v1 v2 v3 v4 v5 v6 v7 zq2 => ?_
  clear zq
  subst zq2
  intro hv rw'
  refine ⟨rfl,?_⟩
  simp! [oks,e_and,e_or]
  exact ⟨w',hv,rw'⟩
 ·refine ⟨rfl,?_,?_,fun d hd=>by lia,fun k hk => ?_⟩
  ·unfold wset; rw [if_neg (by decide),if_neg (by decide),if_neg (by decide)]; exact w3
  ·unfold wset; rw [if_neg (by decide),if_pos rfl,rep_tab]
   congr 1
  ·unfold wset; rw [if_neg (by lia),if_neg (by exact Z.kne4 hk),if_neg (by exact Z.kne3 hk)]
end
noncomputable def pwI (F R a e s:Nat):Int:=bitAnd (bitsOf (hopsL F R s ways)) (bitOr (bitsOf (rayL F R a s)) (bitsOf (rayL F R e s)))
noncomputable def nfI (F R:Nat):Int:=bitAnd (fullI F R) (bitNot (fmI F R 0))
noncomputable def nlI (F R:Nat):Int:=bitAnd (fullI F R) (bitNot (fmI F R (F - 1)))
noncomputable def nf2I (F R:Nat):Int:=bitAnd (nfI F R) (bitNot (fmI F R 1))
noncomputable def nl2I (F R:Nat):Int:=bitAnd (nlI F R) (bitNot (fmI F R (F - 2)))
noncomputable def nearI (F R s:Nat):Int:=bitOr (bitAnd (2^s*2^1) (nfI F R)) (bitAnd ((2^s:Int).fdiv (2^1)) (nlI F R))
noncomputable def farI (F R s:Nat):Int:=bitOr (bitAnd (2^s*2^2) (nf2I F R)) (bitAnd ((2^s:Int).fdiv (2^2)) (nl2I F R))
noncomputable def knI (F R s:Nat):Int:=bitAnd (bitOr (bitOr (bitOr (nearI F R s*2^(2*F)) ((nearI F R s).fdiv (2^(2*F)))) (farI F R s*2^F)) ((farI F R s).fdiv (2^F))) (fullI F R)
noncomputable def chkKn (F R:Nat):Bool:=(List.range (F*R)).all fun s=>(knI F R s==bitsOf (hopsL F R s jumps))&&decide ((nearI F R s).natAbs<2^64)&&decide ((farI F R s).natAbs<2^64)&&(pwI F R 4 7 s==bitsOf (hopsL F R s (pawnSteps 0)))&&(pwI F R 5 6 s==bitsOf (hopsL F R s (pawnSteps 1)))
theorem chkKn_all:(FRs.all fun p=>chkKn p.1 p.2)=true:=by decide +kernel
section
variable {σ:H} {m:Nat} {F R:Nat}
theorem kn_ok (hF:(F,R)∈FRs) {s:Nat} (hs:s<F*R):knI F R s=bitsOf (hopsL F R s jumps)/\(nearI F R s).natAbs<2^64/\(farI F R s).natAbs<2^64/\pwI F R 4 7 s=bitsOf (hopsL F R s (pawnSteps 0))/\pwI F R 5 6 s=bitsOf (hopsL F R s (pawnSteps 1)):=by
 have q:=List.all_eq_true.mp chkKn_all (F,R) hF
 have q:=List.all_eq_true.mp q s (List.mem_range.mpr hs)
 simp only [Bool.and_eq_true,decide_eq_true_eq,beq_iff_eq] at q
 exact ⟨q.1.1.1.1,q.1.1.1.2,q.1.1.2,q.1.2,q.2⟩
theorem pow_abs {s:Nat} (h:s<40):((2:Int)^s).natAbs<2^64:=by
 rw [Int.natAbs_pow]
 exact Nat.pow_lt_pow_right (by decide) (by exact Z.ltR h (by decide))
theorem hv_get {w:Nat->O} {K k:Nat} {υ:H} {o:O} (h:HV σ w K υ) (hk:k<K) (e:w k=o):υ[σ.length+k]? = some o:=by rw [h.at_ k hk,e]
set_option tactic.hygienic true in
theorem sp_pawnsG (hF:(F,R)∈FRs) {hdb:Bool} {w:Nat->O} {υ:H} (h:HV σ w 29 υ) (w0:w 0 = .inst 1 (gfs σ.length F R (fullI F R) hdb 12 10)) (w3:w 3 = .list false ((List.range 8).map fun i=>V.ref (σ.length+(14+2*i)))) (wk:w 12 = .list false (tabV (F*R) fun i=>bitsOf (hopsL F R i ways)))
  (wr:∀ d,d<8->w (14+2*d) = .list false (tabV (F*R) fun s=>bitsOf (rayL F R d s))) (w6:w 6 = .list false []) (w7:w 7 = .list false []) (w8:w 8 = .list false [.ref (σ.length+6),.ref (σ.length+7)]) :
  Ok (callN prog glb (m+1) 14 [.ref σ.length] υ) (fun r=>r.1 = .none/\HV σ (wset (wset w 6 (.list false (tabV (F*R) (pwI F R 4 7)))) 7 (.list false (tabV (F*R) (pwI F R 5 6)))) 29 r.2):=by
 revert σ m F R hdb w υ
 exists σ,m,F,R
 intro hF
 exists hdb,w,υ
 intro h w0 w3 wk wr w6 w7 w8
 have hN:=FRs_le hF
 have a6:attrOf υ (.ref σ.length) 6=some (.int (F*R:Nat)):=gat (hv_get (k:=0) h (by decide) w0) rfl
 refine enter rfl rfl (by decide) fun P_ hR_ => ?_
 simp only [f_add_pawns,b_add_pawns]
 simp! [a6,rng_it hN,e_and,e_or]
 refine ok_for_range (fun j loc τ=>∃ w1,loc=[.ref σ.length,w1]/\HV σ (wset (wset w 6 (.list false (tabV j (pwI F R 4 7)))) 7 (.list false (tabV j (pwI F R 5 6)))) 29 τ) ?_ ?_ ⟨_,rfl,?_⟩
 ·intro I_ hI_ j loc τ hj zq
  refine ea1_2 zq fun w1 zq2 => ?_
  clear zq
  subst zq2
  intro hv
  refine ⟨rfl,?_⟩
  have g:∀ {k:Nat} {o:O},k<29->k≠6->k≠7->w k=o->τ[σ.length+k]? = some o:=fun {k o} h1 h2 h3 h4=>hv_get hv h1 (by unfold wset; rw [if_neg h3,if_neg h2,h4])
  have p6:τ[σ.length+6]? = some (.list false (tabV j (pwI F R 4 7))):=hv_get hv (by decide) (by unfold wset; rw [if_neg (by decide),if_pos rfl])
  have gr:∀ {k:Nat} {o:O},k<29->k≠6->k≠7->w k=o->(τ.set (σ.length+6) (.list false (tabV (j+1) (pwI F R 4 7))))[σ.length+k]? = some o:=fun {k o} h1 h2 h3 h4=>by rw [set_ne (by lia)]; exact g h1 h2 h3 h4
  have p7:(τ.set (σ.length+6) (.list false (tabV (j+1) (pwI F R 4 7))))[σ.length+7]? = some (.list false (tabV j (pwI F R 5 6))):=by rw [set_ne (by exact Nat.ne_of_lt (Z.ltn (Nat.le_refl _)))]; exact hv_get hv (by decide) (by unfold wset; rw [if_pos rfl])
  have a8:attrOf τ (.ref σ.length) 8=some (.ref (σ.length+8)):=gat (g (k:=0) (by decide) (by decide) (by decide) w0) rfl
  have a7:attrOf τ (.ref σ.length) 7=some (.ref (σ.length+12)):=gat (g (k:=0) (by decide) (by decide) (by decide) w0) rfl
  have a0:attrOf τ (.ref σ.length) 0=some (.ref (σ.length+3)):=gat (g (k:=0) (by decide) (by decide) (by decide) w0) rfl
  have g80:getI τ (.ref (σ.length+8)) (.int 0)=some (.ref (σ.length+6)):=getI_at (k:=0) (g (by decide) (by decide) (by decide) w8) rfl
  have gk:getI τ (.ref (σ.length+12)) (.int j)=some (.int (bitsOf (hopsL F R j ways))):=getI_at (g (by decide) (by decide) (by decide) wk) (tabV_get hj)
  have g4:getI τ (.ref (σ.length+3)) (.int 4)=some (.ref (σ.length+(14+2*4))):=getI_at (k:=4) (g (by decide) (by decide) (by decide) w3) rfl
  have g7:getI τ (.ref (σ.length+3)) (.int 7)=some (.ref (σ.length+(14+2*7))):=getI_at (k:=7) (g (by decide) (by decide) (by decide) w3) rfl
  have r4:getI τ (.ref (σ.length+(14+2*4))) (.int j)=some (.int (bitsOf (rayL F R 4 j))):=getI_at (g (by decide) (by decide) (by decide) (wr 4 (by decide))) (tabV_get hj)
  have r7:getI τ (.ref (σ.length+(14+2*7))) (.int j)=some (.int (bitsOf (rayL F R 7 j))):=getI_at (g (by decide) (by decide) (by decide) (wr 7 (by decide))) (tabV_get hj)
  have ap1:methV .append (.ref (σ.length+6)) (.int (pwI F R 4 7 j)) τ=some (.none,τ.set (σ.length+6) (.list false (tabV (j+1) (pwI F R 4 7)))):=by
   rw [app_at p6 (by rw [tabV_len]; unfold LIM; exact Z.ltR hj (Nat.le_trans hN.2.2.2.2 (by decide))),tabV_succ]
  have h1:=hv.set (k:=6) (by decide) (.list false (tabV (j+1) (pwI F R 4 7)))
  refine nm (τ.set (σ.length+6) (.list false (tabV (j+1) (pwI F R 4 7)))) fun τ1 e1 => ?_
  rw [<- e1] at h1 ap1 p7
  simp only [<- e1] at gr
  have b8:attrOf τ1 (.ref σ.length) 8=some (.ref (σ.length+8)):=gat (gr (k:=0) (by decide) (by decide) (by decide) w0) rfl
  have b7:attrOf τ1 (.ref σ.length) 7=some (.ref (σ.length+12)):=gat (gr (k:=0) (by decide) (by decide) (by decide) w0) rfl
  have b0:attrOf τ1 (.ref σ.length) 0=some (.ref (σ.length+3)):=gat (gr (k:=0) (by decide) (by decide) (by decide) w0) rfl
  have g81:getI τ1 (.ref (σ.length+8)) (.int 1)=some (.ref (σ.length+7)):=getI_at (k:=1) (gr (by decide) (by decide) (by decide) w8) rfl
  have gk1:getI τ1 (.ref (σ.length+12)) (.int j)=some (.int (bitsOf (hopsL F R j ways))):=getI_at (gr (by decide) (by decide) (by decide) wk) (tabV_get hj)
  have g5:getI τ1 (.ref (σ.length+3)) (.int 5)=some (.ref (σ.length+(14+2*5))):=getI_at (k:=5) (gr (by decide) (by decide) (by decide) w3) rfl
  have g6:getI τ1 (.ref (σ.length+3)) (.int 6)=some (.ref (σ.length+(14+2*6))):=getI_at (k:=6) (gr (by decide) (by decide) (by decide) w3) rfl
  have r5:getI τ1 (.ref (σ.length+(14+2*5))) (.int j)=some (.int (bitsOf (rayL F R 5 j))):=getI_at (gr (by decide) (by decide) (by decide) (wr 5 (by decide))) (tabV_get hj)
  have r6:getI τ1 (.ref (σ.length+(14+2*6))) (.int j)=some (.int (bitsOf (rayL F R 6 j))):=getI_at (gr (by decide) (by decide) (by decide) (wr 6 (by decide))) (tabV_get hj)
  have ap2:methV .append (.ref (σ.length+7)) (.int (pwI F R 5 6 j)) τ1=some (.none,τ1.set (σ.length+7) (.list false (tabV (j+1) (pwI F R 5 6)))):=by
   rw [app_at p7 (by rw [tabV_len]; unfold LIM; exact Z.ltR hj (Nat.le_trans hN.2.2.2.2 (by decide))),tabV_succ]
  have h2:=h1.set (k:=7) (by decide) (.list false (tabV (j+1) (pwI F R 5 6)))
  have P1:bitAnd (bitsOf (hopsL F R j ways)) (bitOr (bitsOf (rayL F R 4 j)) (bitsOf (rayL F R 7 j)))=pwI F R 4 7 j:=rfl
  have P2:bitAnd (bitsOf (hopsL F R j ways)) (bitOr (bitsOf (rayL F R 5 j)) (bitsOf (rayL F R 6 j)))=pwI F R 5 6 j:=rfl
  simp! [a8,a7,a0,g80,isL_at p6,gk,g4,g7,r4,r7,P1,ap1,b8,b7,b0,g81,isL_at p7,gk1,g5,g6,r5,r6,P2,ap2,e_and,e_or]
  refine ⟨_,rfl,h2.base,h2.len,fun i hi => ?_⟩
  rw [h2.at_ i hi]
  unfold wset
  by_cases e7:i=7
  ·simp only [if_pos e7]
  ·simp only [if_neg e7]
   by_cases e6:i=6
   ·simp only [if_pos e6]
   ·simp only [if_neg e6]
 ·intro loc τ zq
  refine ea1_2 zq fun w1 zq2 => ?_
  clear zq
  subst zq2
  intro hv
  refine ⟨rfl,?_⟩
  simp! [oks,e_and,e_or]
  exact hv
 ·refine ⟨h.base,h.len,fun i hi => ?_⟩
  rw [h.at_ i hi]
  unfold wset
  split
  ·rename_i e; rw [e,w7]; rfl
  ·split
   ·rename_i e; rw [e,w6]; rfl
   ·rfl
set_option tactic.hygienic true in
theorem sp_knightsG (hF:(F,R)∈FRs) {hdb:Bool} {w:Nat->O} {υ:H} (h:HV σ w 29 υ) (w0:w 0 = .inst 1 (gfs σ.length F R (fullI F R) hdb 12 10)) (w1:w 1 = .list false (tabV F (fmI F R))) (w5:w 5 = .list false []) :
  Ok (callN prog glb (m+1) 15 [.ref σ.length] υ) (fun r=>r.1 = .none/\HV σ (wset w 5 (.list false (tabV (F*R) (knI F R)))) 29 r.2):=by
 revert σ m F R hdb w υ
 exists σ,m,F,R
 intro hF
 exists hdb,w,υ
 intro h w0 w1 w5
 have hN:=FRs_le hF
 have at0:=hv_get (k:=0) h (by decide) w0
 have at1:=hv_get h (by decide) w1
 have a1:attrOf υ (.ref σ.length) 1=some (.int F):=gat at0 rfl
 have a5:attrOf υ (.ref σ.length) 5=some (.int (fullI F R)):=gat at0 rfl
 have a4:attrOf υ (.ref σ.length) 4=some (.ref (σ.length+1)):=gat at0 rfl
 have a6:attrOf υ (.ref σ.length) 6=some (.int (F*R:Nat)):=gat at0 rfl
 have f0:getI υ (.ref (σ.length+1)) (.int 0)=some (.int (fmI F R 0)):=getI_at (k:=0) at1 (tabV_get (by exact Z.ltR (by decide) hN.1))
 have f1:getI υ (.ref (σ.length+1)) (.int 1)=some (.int (fmI F R 1)):=getI_at (k:=1) at1 (tabV_get (by exact Z.ltn hN.1))
 have e1:(F:Int) - 1=((F - 1:Nat):Int):=by exact Z.csn (Nat.le_trans (by decide) hN.1)
 have e2:(F:Int) - 2=((F - 2:Nat):Int):=by exact Z.csn hN.1
 have fl:getI υ (.ref (σ.length+1)) (.int (F - 1:Nat))=some (.int (fmI F R (F - 1))):=getI_at at1 (tabV_get (by exact Z.s1 (Nat.le_trans (by decide) hN.1)))
 have fl2:getI υ (.ref (σ.length+1)) (.int (F - 2:Nat))=some (.int (fmI F R (F - 2))):=getI_at at1 (tabV_get (by exact Z.s2 hN.1))
 have N1:bitAnd (fullI F R) (bitNot (fmI F R 0))=nfI F R:=rfl
 have N2:bitAnd (fullI F R) (bitNot (fmI F R (F - 1)))=nlI F R:=rfl
 have N3:bitAnd (nfI F R) (bitNot (fmI F R 1))=nf2I F R:=rfl
 have N4:bitAnd (nlI F R) (bitNot (fmI F R (F - 2)))=nl2I F R:=rfl
 refine enter rfl rfl (by decide) fun P_ hR_ => ?_
 simp only [f_add_knights,b_add_knights]
 simp! [a1,a5,a4,a6,f0,f1,e1,e2,fl,fl2,N1,N2,N3,N4,rng_it hN,e_and,e_or]
 refine ok_for_range (fun j loc τ=>∃ w6 w7 w8 w9 w10,loc=[.ref σ.length,.int F,.int (nfI F R),.int (nlI F R),.int (nf2I F R),.int (nl2I F R),w6,w7,w8,w9,w10]/\HV σ (wset w 5 (.list false (tabV j (knI F R)))) 29 τ) ?_ ?_ ⟨_,_,_,_,_,rfl,?_⟩
 ·intro I_ hI_ j loc τ hj zq
  refine ea5_2 zq fun w6 w7 w8 w9 w10 zq2 => ?_
  clear zq
  subst zq2
  intro hv
  refine ⟨rfl,?_⟩
  refine an4 (kn_ok hF hj) fun _ k1 k2 _ => ?_
  have p5:τ[σ.length+5]? = some (.list false (tabV j (knI F R))):=hv_get hv (by decide) (by unfold wset; rw [if_pos rfl])
  have q0:τ[σ.length]? = some (.inst 1 (gfs σ.length F R (fullI F R) hdb 12 10)):=hv_get (k:=0) hv (by decide) (by unfold wset; rw [if_neg (by decide),w0])
  have b9:attrOf τ (.ref σ.length) 9=some (.ref (σ.length+5)):=gat q0 rfl
  have b5:attrOf τ (.ref σ.length) 5=some (.int (fullI F R)):=gat q0 rfl
  have ap:methV .append (.ref (σ.length+5)) (.int (knI F R j)) τ=some (.none,τ.set (σ.length+5) (.list false (tabV (j+1) (knI F R)))):=by
   rw [app_at p5 (by rw [tabV_len]; unfold LIM; exact Z.ltR hj (Nat.le_trans hN.2.2.2.2 (by decide))),tabV_succ]
  have h2:=hv.set (k:=5) (by decide) (.list false (tabV (j+1) (knI F R)))
  have P1:bitOr (bitAnd (2^j*2^1) (nfI F R)) (bitAnd ((2^j:Int).fdiv (2^1)) (nlI F R))=nearI F R j:=rfl
  have P2:bitOr (bitAnd (2^j*2^2) (nf2I F R)) (bitAnd ((2^j:Int).fdiv (2^2)) (nl2I F R))=farI F R j:=rfl
  have P3:bitAnd (bitOr (bitOr (bitOr (nearI F R j*2^(2*F)) ((nearI F R j).fdiv (2^(2*F)))) (farI F R j*2^F)) ((farI F R j).fdiv (2^F))) (fullI F R)=knI F R j:=rfl
  have e2F:(2:Int)*F=((2*F:Nat):Int):=by simp
  have pa:=pow_abs (s:=j) (by exact Z.ltR hj (Nat.le_trans hN.2.2.2.2 (by decide)))
  simp! [Int.toNat_natCast,Int.one_mul,e2F,b5,b9,P1,P2,P3,isL_at p5,ap,e_and,e_or]
  refine ⟨⟨by exact Z.c0,by exact Z.cle (Nat.le_of_lt (Z.ltR hj (Nat.le_trans hN.2.2.2.2 (by decide))))⟩,pa,pa,by decide,⟨by exact Z.c0,by lia,k1⟩,by decide,by exact Z.c0,⟨by exact Z.c0,by exact Z.cle (Nat.le_trans hN.2.1 (by decide)),k2⟩,by exact Z.c0,_,_,_,_,_,rfl,h2.base,h2.len,fun i hi => ?_⟩
  rw [h2.at_ i hi]
  unfold wset
  split
  ·rfl
  ·first | rfl | (rename_i e; simp only [if_neg e])
 ·intro loc τ zq
  refine ea5_2 zq fun w6 w7 w8 w9 w10 zq2 => ?_
  clear zq
  subst zq2
  intro hv
  refine ⟨rfl,?_⟩
  simp! [oks,e_and,e_or]
  exact hv
 ·refine ⟨h.base,h.len,fun i hi => ?_⟩
  rw [h.at_ i hi]
  unfold wset
  split
  ·rename_i e; rw [e,w5]; rfl
  ·rfl
set_option tactic.hygienic true in
theorem sp_castlesG (hF:(F,R)∈FRs) {hdb:Bool} {w:Nat->O} {υ:H} (h:HV σ w 29 υ) (w0:w 0 = .inst 1 (gfs σ.length F R (fullI F R) hdb 12 10)) (w9:w 9 = .list false []) :
  Ok (callN prog glb (m+1) 16 [.ref σ.length] υ) (fun r=>r.1 = .none/\∃ w',HV σ w' 31 r.2/\w' 0 = .inst 1 (gfs σ.length F R (fullI F R) hdb 12 30)/\∀ k,k<29->k≠0->k≠9->w' k=w k):=by
 revert σ m F R hdb w υ
 exists σ,m,F,R
 intro hF
 exists hdb,w,υ
 intro h w0 w9
 have hN:=FRs_le hF
 have h1:=h.push (.list false [.int 0])
 have h2:=h1.push (.list false (List.replicate (F*R) (V.int 0)))
 have h3:=h2.set (k:=0) (by decide) (.inst 1 (gfs σ.length F R (fullI F R) hdb 12 30))
 refine nm (υ++[O.list false [V.int 0]]) fun υ1 e1 => ?_
 refine nm (υ1++[O.list false (List.replicate (F*R) (V.int 0))]) fun υ2 e2 => ?_
 refine nm (υ2.set (σ.length+0) (.inst 1 (gfs σ.length F R (fullI F R) hdb 12 30))) fun υ3 e3 => ?_
 rw [<- e1,<- e2,<- e3] at h3
 rw [<- e1,<- e2] at h2
 rw [<- e1] at h1
 have q1:υ1[σ.length]? = some (.inst 1 (gfs σ.length F R (fullI F R) hdb 12 10)):=hv_get (k:=0) h1 (by decide) (by unfold wset; rw [if_neg (by decide),w0])
 have q2:υ2[σ.length]? = some (.inst 1 (gfs σ.length F R (fullI F R) hdb 12 10)):=hv_get (k:=0) h2 (by decide) (by unfold wset; rw [if_neg (by decide),if_neg (by decide),w0])
 have q3:υ3[σ.length]? = some (.inst 1 (gfs σ.length F R (fullI F R) hdb 12 30)):=hv_get (k:=0) h3 (by decide) (by unfold wset; rw [if_pos rfl])
 have a6:attrOf υ1 (.ref σ.length) 6=some (.int (F*R:Nat)):=gat q1 rfl
 have mu:binV .mul (.ref υ.length) (.int (F*R:Nat)) υ1=some (.ref (σ.length+30),υ2):=by
  rw [e2,mul_at (by rw [e1]; exact get_push) (by exact Nat.le_trans hN.2.2.2.2 (by decide)),e1,List.length_append,h.len]
  rfl
 have sa:attrSet υ2 (.ref σ.length) 10 (.ref (σ.length+30))=some υ3:=by
  rw [gset q2 (by simp [gfs]),e3]; rfl
 have a1:attrOf υ3 (.ref σ.length) 1=some (.int F):=gat q3 rfl
 have E1:υ++[O.list false [V.int 0]]=υ1:=e1.symm
 have i4:∀ τ,items τ (.rng 0 4 1)=some ((List.range 4).map fun k:Nat=>V.int k):=fun τ=>items_range (n:=4) (by decide) rfl
 refine enter rfl rfl (by decide) fun P_ hR_ => ?_
 simp only [f_add_castles,b_add_castles]
 simp! [E1,a6,mu,sa,a1,i4,e_and,e_or]
 refine ⟨(by decide:1<=LIM),by decide,?_⟩
 refine ok_for_range (fun j loc τ=>∃ w2 w3 w4 w5 w6,loc=[.ref σ.length,.int ((F:Int).fdiv 2),w2,w3,w4,w5,w6]/\HV σ (wset (wset (wset (wset w 29 (.list false [.int 0])) 30 (.list false (List.replicate (F*R) (V.int 0)))) 0 (.inst 1 (gfs σ.length F R (fullI F R) hdb 12 30))) 9 (.list false (List.replicate j V.none))) 31 τ) ?_ ?_ ⟨_,_,_,_,_,rfl,?_⟩
 ·intro I_ hI_ j loc τ hj zq
  refine ea5_2 zq fun w2 w3 w4 w5 w6 zq2 => ?_
  clear zq
  subst zq2
  intro hv
  refine ⟨rfl,?_⟩
  have c0:τ[σ.length]? = some (.inst 1 (gfs σ.length F R (fullI F R) hdb 12 30)):=hv_get (k:=0) hv (by decide) (by unfold wset; rw [if_neg (by decide),if_pos rfl])
  have p9:τ[σ.length+9]? = some (.list false (List.replicate j V.none)):=hv_get hv (by decide) (by unfold wset; rw [if_pos rfl])
  have b1:attrOf τ (.ref σ.length) 1=some (.int F):=gat c0 rfl
  have b2:attrOf τ (.ref σ.length) 2=some (.int R):=gat c0 rfl
  have b11:attrOf τ (.ref σ.length) 11=some (.bool false):=gat c0 rfl
  have b12:attrOf τ (.ref σ.length) 12=some (.ref (σ.length+9)):=gat c0 rfl
  have ap:methV .append (.ref (σ.length+9)) .none τ=some (.none,τ.set (σ.length+9) (.list false (List.replicate (j+1) V.none))):=by
   rw [app_at p9 (by simp [LIM]; exact Z.ltR hj (by decide)),List.replicate_succ']
  have h4:=hv.set (k:=9) (by decide) (.list false (List.replicate (j+1) V.none))
  have ej:(j:Int).fdiv (2^1)=((j / 2:Nat):Int):=by rw [Int.fdiv_eq_ediv_of_nonneg _ (by decide)]; rfl
  have n1:((j / 2:Nat):Int).natAbs<2^64:=by exact Z.nad hj (by decide)
  have n2:(((j / 2:Nat):Int)*((R:Int) - 1)).natAbs<2^64:=by
   have:j / 2=0\/j / 2=1:=by lia
   rcases this with q | q <;> rw [q] <;> simp <;> exact Z.nas hN.2.2.2.1 (by decide)
  have hv':HV σ (wset (wset (wset (wset w 29 (.list false [.int 0])) 30 (.list false (List.replicate (F*R) (V.int 0)))) 0 (.inst 1 (gfs σ.length F R (fullI F R) hdb 12 30))) 9 (.list false (List.replicate (j+1) V.none))) 31 (τ.set (σ.length+9) (.list false (List.replicate (j+1) V.none))):=by
   refine ⟨h4.base,h4.len,fun i hi => ?_⟩
   rw [h4.at_ i hi]
   unfold wset
   split
   ·rfl
   ·first | rfl | (rename_i e; simp only [if_neg e])
  simp! [b1,b2,b11,b12,ej,isL_at p9,ap,e_and,e_or]
  exact ⟨n1,n2,fun _=>⟨by decide,_,_,_,_,_,rfl,hv'⟩,fun _=>⟨by decide,_,_,_,_,_,rfl,hv'⟩⟩
 ·intro loc τ zq
  refine ea5_2 zq fun w2 w3 w4 w5 w6 zq2 => ?_
  clear zq
  subst zq2
  intro hv
  refine ⟨rfl,?_⟩
  simp! [oks,e_and,e_or]
  refine ⟨_,hv,?_,fun k h1 h2 h3 => ?_⟩
  ·unfold wset; rw [if_neg (by decide),if_pos rfl]
  ·unfold wset; rw [if_neg h3,if_neg h2,if_neg (by exact Z.ne_lt (Z.ltR h1 (by decide))),if_neg (by exact Z.ne_lt h1)]
 ·refine ⟨h3.base,h3.len,fun i hi => ?_⟩
  rw [h3.at_ i hi]
  unfold wset
  by_cases e:i=9
  ·subst e; simp [w9]
  ·rw [if_neg e]
end
section
variable {σ:H} {m:Nat} {F R:Nat}
noncomputable def geoR (n:Nat):GeoR:=⟨n+1,n+2,n+12,n+5,n+3,fun d=>n+(14+2*d),n+8,fun c=>if c=0 then n+6 else n+7⟩
theorem sp_geo (hF:(F,R)∈FRs):Ok (callN prog glb (m+3) 17 [.int F,.int R,.bool true,.bool false] σ) (fun r=>r.1 = .ref σ.length/\Base σ r.2/\GeoAt (geoR σ.length) F R σ.length r.2):=by
 revert σ m F R
 exists σ,m,F,R
 intro hF
 have hN:=FRs_le hF
 refine enter rfl rfl (by decide) fun P_ hR_ => ?_
 simp only [f_make_geometry,b_make_geometry]
 rw [wSs_eq,ss_cons',SeqC]
 refine ite_cond false ?_ (fun q=>Bool.noConfusion q) (fun _ => ?_)
 ·have d1:decide ((F:Int)<2)=false:=decide_eq_false (by lia)
  have d2:decide ((8:Int)<F)=false:=decide_eq_false (by lia)
  have d3:decide ((R:Int)<3)=false:=decide_eq_false (by lia)
  have d4:decide ((8:Int)<R)=false:=decide_eq_false (by lia)
  simp! [d1,d2,d3,d4,e_and,e_or]
 simp! [oks,e_and,e_or]
 refine (sp_newG (m:=m+1) hF).at_ ?_
 show _/\_
 refine ⟨rfl,?_⟩
 simp! [oks,e_and,e_or]
 refine (sp_masks (m:=m+1) hF).at_ ?_
 show _/\_
 refine ⟨rfl,?_⟩
 simp! [oks,e_and,e_or]
 obtain ⟨L,eL⟩:∃ L:List O,L=[.inst 1 (gfs σ.length F R (fullI F R) (decide ((5:Int)<=R)) 4 10),.list false (tabV F (fmI F R)),.list false (tabV R (rmI F)),.list false [],.list false [],.list false [],.list false [],.list false [],.list false [.ref (σ.length+6),.ref (σ.length+7)],.list false [],.list false []]:=⟨_,rfl⟩
 have hv0:HV σ (fun k=>L.getD k (.list false [])) 11 (σ++L):=by
  have:L.length=11:=by rw [eL]; rfl
  rw [<- this]
  refine HV.ofList fun k hk => ?_
  rw [List.getD_eq_getElem?_getD]
  rw [List.getElem?_eq_getElem hk]; rfl
 rw [eL] at hv0
 refine (sp_rays (m:=m) hF hv0 rfl rfl rfl rfl).mono ?_
 rintro ⟨v,υ1⟩
 intro zq
 refine an2 zq fun zq2 => ?_
 clear zq
 subst zq2
 intro zq3
 refine ea1_2 zq3 fun w1 hv1 rw1 => ?_
 clear zq3
 dsimp only at hv1
 refine ⟨rfl,?_⟩
 simp! [oks,e_and,e_or]
 have wk1:w1 12 = .list false (tabV (F*R) fun i=>bitsOf (hopsL F R i ways)):=rw1.wk
 refine (sp_pawnsG (m:=m+1) hF hv1 rw1.w0 rw1.w3 wk1 rw1.wr (rw1.wc 6 (by decide)) (rw1.wc 7 (by decide)) (rw1.wc 8 (by decide))).mono ?_
 rintro ⟨v,υ2⟩
 intro zq
 refine an2 zq fun zq2 => ?_
 clear zq
 subst zq2
 intro hv2
 dsimp only at hv2
 refine ⟨rfl,?_⟩
 simp! [oks,e_and,e_or]
 refine (sp_knightsG (m:=m+1) (hdb:=decide ((5:Int)<=R)) hF hv2 (by unfold wset; rw [if_neg (by decide),if_neg (by decide)]; exact rw1.w0) (by unfold wset; rw [if_neg (by decide),if_neg (by decide)]; exact rw1.wc 1 (by decide)) (by unfold wset; rw [if_neg (by decide),if_neg (by decide)]; exact rw1.wc 5 (by decide))).mono ?_
 rintro ⟨v,υ3⟩
 intro zq
 refine an2 zq fun zq2 => ?_
 clear zq
 subst zq2
 intro hv3
 dsimp only at hv3
 refine ⟨rfl,?_⟩
 simp! [oks,e_and,e_or]
 refine (sp_castlesG (m:=m+1) (hdb:=decide ((5:Int)<=R)) hF hv3 (by unfold wset; rw [if_neg (by decide),if_neg (by decide),if_neg (by decide)]; exact rw1.w0) (by unfold wset; rw [if_neg (by decide),if_neg (by decide),if_neg (by decide)]; exact rw1.wc 9 (by decide))).mono ?_
 rintro ⟨v,υ4⟩
 intro zq
 refine an2 zq fun zq2 => ?_
 clear zq
 subst zq2
 intro zq3
 refine ea1_3 zq3 fun w4 hv4 z0 zk => ?_
 clear zq3
 dsimp only at hv4
 refine ⟨rfl,?_⟩
 simp! [oks,e_and,e_or]
 refine ⟨hv4.base,?_⟩
 have g:∀ {k:Nat} {o:O},k<29->k≠0->k≠9->k≠5->k≠7->k≠6->w1 k=o->υ4[σ.length+k]? = some o:=fun {k o} h1 h2 h3 h4 h5 h6 e=>hv_get hv4 (by exact Z.ltR h1 (by decide)) (by rw [zk k h1 h2 h3]; unfold wset; rw [if_neg h4,if_neg h5,if_neg h6,e])
 have q0:υ4[σ.length]? = some (.inst 1 (gfs σ.length F R (fullI F R) (decide ((5:Int)<=R)) 12 30)):=hv_get (k:=0) hv4 (by decide) z0
 refine an4 (mask_ok hF) fun m1 m2 _ m4 => ?_
 have p5:υ4[σ.length+5]? = some (.list false (tabV (F*R) (knI F R))):=hv_get hv4 (by decide) (by rw [zk 5 (by decide) (by decide) (by decide)]; unfold wset; rw [if_pos rfl])
 have p6:υ4[σ.length+6]? = some (.list false (tabV (F*R) (pwI F R 4 7))):=hv_get hv4 (by decide) (by rw [zk 6 (by decide) (by decide) (by decide)]; unfold wset; rw [if_neg (by decide),if_neg (by decide),if_pos rfl])
 have p7:υ4[σ.length+7]? = some (.list false (tabV (F*R) (pwI F R 5 6))):=hv_get hv4 (by decide) (by rw [zk 7 (by decide) (by decide) (by decide)]; unfold wset; rw [if_neg (by decide),if_pos rfl])
 refine { files:=gat q0 rfl,ranks:=gat q0 rfl,size:=gat q0 rfl,full := ?_,fm:=gat q0 rfl,fmI:=fun f hf => ?_,rm:=gat q0 rfl,rmI:=fun r hr => ?_,rays:=gat q0 rfl,ray:=fun d hd => ?_,rayI:=fun d s hd hs => ?_,king:=gat q0 rfl,kingI:=fun s hs => ?_,knight:=gat q0 rfl,knightI:=fun s hs => ?_,pawn:=gat q0 rfl,pw:=fun c hc => ?_,pwI:=fun c s hc hs => ?_ }
 ·rw [<- m4]; exact gat q0 rfl
 ·rw [<- m2 f hf]; exact getI_at (g (by decide) (by decide) (by decide) (by decide) (by decide) (by decide) (rw1.wc 1 (by decide))) (tabV_get hf)
 ·rw [<- m1 r hr]; exact getI_at (g (by decide) (by decide) (by decide) (by decide) (by decide) (by decide) (rw1.wc 2 (by decide))) (tabV_get hr)
 ·exact getI_at (g (by decide) (by decide) (by decide) (by decide) (by decide) (by decide) rw1.w3) (by rw [List.getElem?_map,List.getElem?_range hd]; rfl)
 ·exact getI_at (g (by lia) (by lia) (by lia) (by lia) (by lia) (by lia) (rw1.wr d hd)) (tabV_get hs)
 ·exact getI_at (g (by decide) (by decide) (by decide) (by decide) (by decide) (by decide) wk1) (tabV_get hs)
 ·rw [<- (kn_ok hF hs).1]; exact getI_at p5 (tabV_get hs)
 ·have p8:=g (k:=8) (by decide) (by decide) (by decide) (by decide) (by decide) (by decide) (rw1.wc 8 (by decide))
  have:c=0\/c=1:=by lia
  rcases this with rfl | rfl
  ·exact getI_at p8 rfl
  ·exact getI_at p8 rfl
 ·have:c=0\/c=1:=by lia
  rcases this with rfl | rfl
  ·rw [<- (kn_ok hF hs).2.2.2.1]; exact getI_at p6 (tabV_get hs)
  ·rw [<- (kn_ok hF hs).2.2.2.2]; exact getI_at p7 (tabV_get hs)
end
noncomputable def pfs (n g N:Nat) (key sd:Int):List (Nat × V):=[(19,.ref g),(17,.ref (n+35)),(13,.ref (n+38)),(14,.ref (n+40)),(15,.ref (n+41)),(24,.int sd),(26,.int 0),(27,.int (-1)),(28,.int 0),(5,.int 1),(16,.int key),(29,.ref (n+42))]
noncomputable def kj (b:Nat->Nat) (j k:Nat):Int:=if k=0 then 0 else bitsOf ((List.range j).filter fun i=>b i%8==k)
noncomputable def sj (b:Nat->Nat) (j c:Nat):Int:=bitsOf ((List.range j).filter fun i=>b i != 0&&b i / 8==c)
theorem kind16:∀ v:Fin 16,bitAnd ((v.val:Nat):Int) 7=((v.val%8:Nat):Int):=by decide
section
variable {σ:H} {m:Nat} {F R:Nat} {b kq:Nat->Nat} {g bd:Nat} {A:GeoR}
structure PSt (n g F R:Nat) (b:Nat->Nat) (j:Nat) (w:Nat->O):Prop where
 p:∃ key,w 36 = .inst 2 (pfs n g (F*R) key 0)
 bl:∃ xs,xs.length=F*R/\w 38 = .list false xs
 k:w 40 = .list false (tabV 7 (kj b j))
 s:w 41 = .list false (tabV 2 (sj b j))
 na:w 0 = .list false ((List.range 15).map fun i=>V.ref (n+(2+2*i)))
 ro:∀ i,i<15->w (2+2*i) = .list false (tabV (F*R) fun _=>0)
 z:∃ fs,w 35 = .inst 4 ((18,.ref n)::fs)
theorem sp_put (B:BoardOk F R b kq) {j:Nat} (hj:j<F*R) (hb:b j≠0) {w:Nat->O} {υ:H} (hv:HV σ w 43 υ) (S:PSt σ.length g F R b j w) :
  Ok (callN prog glb (m+2) 24 [.ref (σ.length+36),.int (b j),.int j] υ) (fun r=>r.1 = .none/\∃ w',HV σ w' 43 r.2/\PSt σ.length g F R b (j+1) w'):=by
 revert σ m F R b kq g j w υ
 exists σ,m,F,R,b,kq,g
 intro B
 exists j
 intro hj hb
 exists w,υ
 intro hv S
 have hN:=FRs_le B.fr
 have hval:=B.val j hb
 obtain ⟨key,hp⟩:=S.p
 obtain ⟨xs,hxs,hbl⟩:=S.bl
 obtain ⟨fs,hz⟩:=S.z
 refine nm (b j%8) fun k ek => ?_
 refine nm (b j / 8) fun c ec => ?_
 have hc:c<2:=by exact Z.c2a ec hval.2.2
 have q36:=hv_get hv (by decide) hp
 have q38:=hv_get hv (by decide) hbl
 have a13:attrOf υ (.ref (σ.length+36)) 13=some (.ref (σ.length+38)):=gat q36 rfl
 have s1:setI υ (.ref (σ.length+38)) (.int j) (.int (b j))=some (υ.set (σ.length+38) (.list false (xs.set j (.int (b j))))):=setI_at q38 (by exact Z.ltR hj (Nat.le_of_eq (Eq.symm hxs)))
 have h1:=hv.set (k:=38) (by decide) (.list false (xs.set j (.int (b j))))
 refine nm (υ.set (σ.length+38) (.list false (xs.set j (.int (b j))))) fun υ1 e1 => ?_
 rw [<- e1] at s1 h1
 have r36:=hv_get h1 (k:=36) (by decide) (by unfold wset; rw [if_neg (by decide),hp])
 have r40:=hv_get h1 (k:=40) (by decide) (by unfold wset; rw [if_neg (by decide),S.k])
 have a14:attrOf υ1 (.ref (σ.length+36)) 14=some (.ref (σ.length+40)):=gat r36 rfl
 have gk:getI υ1 (.ref (σ.length+40)) (.int k)=some (.int (kj b j k)):=getI_at r40 (tabV_get (by exact Z.eqk ek (Nat.lt_of_le_of_lt hval.2.1 (by decide))))
 have s2:=setI_at (k:=k) (w := .int (bitOr (kj b j k) (2^j))) r40 (by rw [tabV_len]; exact Z.k7 ek hval.2.1)
 rw [tabV_set (by exact Z.k7 ek hval.2.1)] at s2
 have h2:=h1.set (k:=40) (by decide) (.list false (tabV 7 fun i=>if i=k then bitOr (kj b j k) (2^j) else kj b j i))
 refine nm (υ1.set (σ.length+40) (.list false (tabV 7 fun i=>if i=k then bitOr (kj b j k) (2^j) else kj b j i))) fun υ2 e2 => ?_
 rw [<- e2] at s2 h2
 have t36:=hv_get h2 (k:=36) (by decide) (by unfold wset; rw [if_neg (by decide),if_neg (by decide),hp])
 have t41:=hv_get h2 (k:=41) (by decide) (by unfold wset; rw [if_neg (by decide),if_neg (by decide),S.s])
 have a15:attrOf υ2 (.ref (σ.length+36)) 15=some (.ref (σ.length+41)):=gat t36 rfl
 have gs:getI υ2 (.ref (σ.length+41)) (.int c)=some (.int (sj b j c)):=getI_at t41 (tabV_get hc)
 have s3:=setI_at (k:=c) (w := .int (bitOr (sj b j c) (2^j))) t41 (by rw [tabV_len]; exact hc)
 rw [tabV_set hc] at s3
 have h3:=h2.set (k:=41) (by decide) (.list false (tabV 2 fun i=>if i=c then bitOr (sj b j c) (2^j) else sj b j i))
 refine nm (υ2.set (σ.length+41) (.list false (tabV 2 fun i=>if i=c then bitOr (sj b j c) (2^j) else sj b j i))) fun υ3 e3 => ?_
 rw [<- e3] at s3 h3
 have u36:=hv_get h3 (k:=36) (by decide) (by unfold wset; rw [if_neg (by decide),if_neg (by decide),if_neg (by decide),hp])
 have u35:=hv_get h3 (k:=35) (by decide) (by unfold wset; rw [if_neg (by decide),if_neg (by decide),if_neg (by decide),hz])
 have u0:=hv_get h3 (k:=0) (by decide) (by unfold wset; rw [if_neg (by decide),if_neg (by decide),if_neg (by decide),S.na])
 have hb15:=B.v15 j
 have ur:=hv_get h3 (k:=2+2*b j) (by lia) (by unfold wset; rw [if_neg (by lia),if_neg (by lia),if_neg (by lia),S.ro (b j) hb15])
 have a16:attrOf υ3 (.ref (σ.length+36)) 16=some (.int key):=gat u36 rfl
 have a17:attrOf υ3 (.ref (σ.length+36)) 17=some (.ref (σ.length+35)):=gat u36 rfl
 have a18:attrOf υ3 (.ref (σ.length+35)) 18=some (.ref σ.length):=gat u35 rfl
 have gn:getI υ3 (.ref σ.length) (.int (b j))=some (.ref (σ.length+(2+2*b j))):=getI_at u0 (by rw [List.getElem?_map,List.getElem?_range hb15]; rfl)
 have gr:getI υ3 (.ref (σ.length+(2+2*b j))) (.int j)=some (.int 0):=getI_at ur (tabV_get hj)
 have s4:attrSet υ3 (.ref (σ.length+36)) 16 (.int (bitXor key 0))=some (υ3.set (σ.length+36) (.inst 2 (pfs σ.length g (F*R) (bitXor key 0) 0))):=by
  rw [gset u36 (by simp [pfs])]; rfl
 have h4:=h3.set (k:=36) (by decide) (.inst 2 (pfs σ.length g (F*R) (bitXor key 0) 0))
 have pa:=pow_abs (s:=j) (by exact Z.ltR hj (Nat.le_trans hN.2.2.2.2 (by decide)))
 have kof:Ok (callN prog glb (m+1) 1 [.int (b j)] υ1) (fun r=>r=(.int k,υ1)):=by
  refine enter rfl rfl (by decide) fun P_ hR_ => ?_
  simp only [f_kind_of,b_kind_of]
  simp! [oks,e_and,e_or]
  rw [ek,<- kind16 ⟨b j,hval.2.2⟩]
 have sof:Ok (callN prog glb (m+1) 0 [.int (b j)] υ2) (fun r=>r=(.int c,υ2)):=by
  refine enter rfl rfl (by decide) fun P_ hR_ => ?_
  simp only [f_side_of,b_side_of]
  simp! [oks,e_and,e_or]
  rw [ec,Int.fdiv_eq_ediv_of_nonneg _ (by decide)]
  rfl
 refine enter rfl rfl (by decide) fun P_ hR_ => ?_
 simp only [f_put_piece,b_put_piece]
 simp! [Int.toNat_natCast,Int.one_mul,a13,s1,a14,e_and,e_or]
 refine ⟨⟨by exact Z.c0,by exact Z.cle (Nat.le_of_lt (Z.ltR hj (Nat.le_trans hN.2.2.2.2 (by decide))))⟩,?_⟩
 refine kof.at_ ?_
 simp! [gk,s2,a15,e_and,e_or]
 refine sof.at_ ?_
 simp! [gs,s3,a16,a17,a18,gn,gr,s4,e_and,e_or]
 have nj:∀ {P:Nat->Bool},P j=true->bitOr (bitsOf ((List.range j).filter P)) (2^j)=bitsOf ((List.range (j+1)).filter P):=fun {P} h=>by
  rw [bits_snoc,List.range_succ,List.filter_append,List.filter_cons_of_pos h,List.filter_nil]
 have nj0:∀ {P:Nat->Bool},P j=false->bitsOf ((List.range j).filter P)=bitsOf ((List.range (j+1)).filter P):=fun {P} h=>by
  rw [List.range_succ,List.filter_append,List.filter_cons_of_neg (by rw [h]; decide),List.filter_nil,List.append_nil]
 refine ⟨_,h4,⟨_,by unfold wset; rw [if_pos rfl]⟩,⟨xs.set j (.int (b j)),by rw [List.length_set]; exact hxs,by unfold wset; rw [if_neg (by decide),if_neg (by decide),if_neg (by decide),if_pos rfl]⟩,?_,?_,?_,fun i hi => ?_,⟨fs,?_⟩⟩
 ·unfold wset
  rw [if_neg (by decide),if_neg (by decide),if_pos rfl]
  congr 1
  refine tabV_congr fun i hi => ?_
  unfold kj
  by_cases e:i=k
  ·subst e
   rw [if_pos rfl,if_neg (by lia),if_neg (by lia),nj (by simpa using ek.symm)]
  ·rw [if_neg e]
   split
   ·rfl
   ·rw [nj0 (by simp; lia)]
 ·unfold wset
  rw [if_neg (by decide),if_pos rfl]
  congr 1
  refine tabV_congr fun i hi => ?_
  unfold sj
  by_cases e:i=c
  ·subst e
   rw [if_pos rfl,nj (by simp [hb]; exact ec.symm)]
  ·rw [if_neg e,nj0 (by simp; lia)]
 ·unfold wset; rw [if_neg (by decide),if_neg (by decide),if_neg (by decide),if_neg (by decide)]; exact S.na
 ·unfold wset; rw [if_neg (by lia),if_neg (by lia),if_neg (by lia),if_neg (by lia)]; exact S.ro i hi
 ·unfold wset; rw [if_neg (by decide),if_neg (by decide),if_neg (by decide),if_neg (by decide)]; exact hz
theorem PSt.skip {j:Nat} {w:Nat->O} (S:PSt σ.length g F R b j w) (hb:b j=0):PSt σ.length g F R b (j+1) w:=by
 have nj0:∀ {P:Nat->Bool},P j=false->bitsOf ((List.range (j+1)).filter P)=bitsOf ((List.range j).filter P):=fun {P} h=>by
  rw [List.range_succ,List.filter_append,List.filter_cons_of_neg (by rw [h]; decide),List.filter_nil,List.append_nil]
 refine ⟨S.p,S.bl,?_,?_,S.na,S.ro,S.z⟩
 ·rw [S.k]
  congr 1
  refine tabV_congr fun i hi => ?_
  unfold kj
  split
  ·rfl
  ·rw [nj0 (by simp [hb]; lia)]
 ·rw [S.s]
  congr 1
  refine tabV_congr fun i hi => ?_
  unfold sj
  rw [nj0 (by simp [hb])]
theorem sp_newZ {v1 v2 v3 v4:V} (r1:rdV v1=some v1) (r2:rdV v2=some v2) (r3:rdV v3=some v3) (r4:rdV v4=some v4) :
  Ok (callN prog glb (m+1) 1004 [.ref σ.length,v1,v2,v3,v4] (σ++[.inst 4 []])) (fun r=>r=(.none,σ++[.inst 4 [(18,v1),(27,v2),(26,v3),(24,v4)]])):=by
 refine enter rfl rfl (by decide) fun P_ hR_ => ?_
 simp only [f_new_Zobrist,b_new_Zobrist]
 simp! [r1,r2,r3,r4,attrSet_push,putF,List.length_nil,List.length_cons,if_false,if_true,Nat.reduceEqDiff,Nat.reduceAdd,if_neg,reduceIte,e_and,e_or]
theorem sp_newP {z N:Nat} (hN:N<=1000) (hsz:∀ L:List O,attrOf (σ++L) (.ref g) 6=some (.int (N:Nat))) :
  Ok (callN prog glb (m+1) 1002 [.ref σ.length,.ref g,.ref z] (σ++[.inst 2 []])) (fun r=>r=(.none,σ++[.inst 2 [(19,.ref g),(17,.ref z),(13,.ref (σ.length+2)),(14,.ref (σ.length+4)),(15,.ref (σ.length+5)),(24,.int 0),(26,.int 0),(27,.int (-1)),(28,.int 0),(5,.int 1),(16,.int 0),(29,.ref (σ.length+6))],
   .list false [.int 0],.list false (List.replicate N (.int 0)),.list false [.int 0],.list false (List.replicate 7 (.int 0)),.list false [.int 0,.int 0],.list false []])):=by
 revert σ m g z N
 exists σ,m,g,z,N
 intro hN hsz
 refine nm (α:=List (Nat × V)) [(19,.ref g),(17,.ref z),(13,.ref (σ.length+2)),(14,.ref (σ.length+4)),(15,.ref (σ.length+5)),(24,.int 0),(26,.int 0),(27,.int (-1)),(28,.int 0),(5,.int 1),(16,.int 0),(29,.ref (σ.length+6))] fun G eG => ?_
 have s0:∀ {L},attrSet (σ ++ .inst 2 (G.take 0)::L) (.ref σ.length) 19 (.ref g)=some (σ ++ .inst 2 (G.take 1)::L):=by rw [eG]; exact can_step (by kernel_rfl) (by kernel_rfl)
 have s1:∀ {L},attrSet (σ ++ .inst 2 (G.take 1)::L) (.ref σ.length) 17 (.ref z)=some (σ ++ .inst 2 (G.take 2)::L):=by rw [eG]; exact can_step (by kernel_rfl) (by kernel_rfl)
 have s2:∀ {L},attrSet (σ ++ .inst 2 (G.take 2)::L) (.ref σ.length) 13 (.ref (σ.length+2))=some (σ ++ .inst 2 (G.take 3)::L):=by rw [eG]; exact can_step (by kernel_rfl) (by kernel_rfl)
 have s3:∀ {L},attrSet (σ ++ .inst 2 (G.take 3)::L) (.ref σ.length) 14 (.ref (σ.length+4))=some (σ ++ .inst 2 (G.take 4)::L):=by rw [eG]; exact can_step (by kernel_rfl) (by kernel_rfl)
 have s4:∀ {L},attrSet (σ ++ .inst 2 (G.take 4)::L) (.ref σ.length) 15 (.ref (σ.length+5))=some (σ ++ .inst 2 (G.take 5)::L):=by rw [eG]; exact can_step (by kernel_rfl) (by kernel_rfl)
 have s5:∀ {L},attrSet (σ ++ .inst 2 (G.take 5)::L) (.ref σ.length) 24 (.int 0)=some (σ ++ .inst 2 (G.take 6)::L):=by rw [eG]; exact can_step (by kernel_rfl) (by kernel_rfl)
 have s6:∀ {L},attrSet (σ ++ .inst 2 (G.take 6)::L) (.ref σ.length) 26 (.int 0)=some (σ ++ .inst 2 (G.take 7)::L):=by rw [eG]; exact can_step (by kernel_rfl) (by kernel_rfl)
 have s7:∀ {L},attrSet (σ ++ .inst 2 (G.take 7)::L) (.ref σ.length) 27 (.int (-1))=some (σ ++ .inst 2 (G.take 8)::L):=by rw [eG]; exact can_step (by kernel_rfl) (by kernel_rfl)
 have s8:∀ {L},attrSet (σ ++ .inst 2 (G.take 8)::L) (.ref σ.length) 28 (.int 0)=some (σ ++ .inst 2 (G.take 9)::L):=by rw [eG]; exact can_step (by kernel_rfl) (by kernel_rfl)
 have s9:∀ {L},attrSet (σ ++ .inst 2 (G.take 9)::L) (.ref σ.length) 5 (.int 1)=some (σ ++ .inst 2 (G.take 10)::L):=by rw [eG]; exact can_step (by kernel_rfl) (by kernel_rfl)
 have s10:∀ {L},attrSet (σ ++ .inst 2 (G.take 10)::L) (.ref σ.length) 16 (.int 0)=some (σ ++ .inst 2 (G.take 11)::L):=by rw [eG]; exact can_step (by kernel_rfl) (by kernel_rfl)
 have s11:∀ {L},attrSet (σ ++ .inst 2 (G.take 11)::L) (.ref σ.length) 29 (.ref (σ.length+6))=some (σ ++ .inst 2 (G.take 12)::L):=by rw [eG]; exact can_step (by kernel_rfl) (by kernel_rfl)
 have mu1:binV .mul (.ref (σ.length+1)) (.int (N:Nat)) (σ++[.inst 2 (G.take 2),.list false [.int 0]])=some (.ref (σ.length+2),σ++[.inst 2 (G.take 2),.list false [.int 0],.list false (List.replicate N (.int 0))]):=by
  rw [can_mul (k:=1) (x := .int 0) rfl ⟨by exact Z.c0,by exact Z.cle hN⟩]; rfl
 have mu2:binV .mul (.ref (σ.length+3)) (.int 7) (σ++[.inst 2 (G.take 3),.list false [.int 0],.list false (List.replicate N (.int 0)),.list false [.int 0]])=some (.ref (σ.length+4),σ++[.inst 2 (G.take 3),.list false [.int 0],.list false (List.replicate N (.int 0)),.list false [.int 0],.list false (List.replicate 7 (.int 0))]):=by
  rw [can_mul (k:=3) (x := .int 0) rfl ⟨by decide,by decide⟩]; rfl
 have fin:G.take 12=G:=by rw [eG]; rfl
 show Ok (callN prog glb (m+1) 1002 [.ref σ.length,.ref g,.ref z] (σ++[.inst 2 (G.take 0)])) _
 rw [<- eG]
 clear eG
 refine enter rfl rfl (by decide) fun P_ hR_ => ?_
 simp only [f_new_Position,b_new_Position]
 simp! [hsz,mu1,mu2,s0,s1,s2,s3,s4,s5,s6,s7,s8,s9,s10,s11,List.length_nil,List.length_cons,if_true,if_false,Nat.reduceAdd,Nat.zero_add,reduceIte,List.append_assoc,List.length_append,e_and,e_or]
 exact ⟨by decide,by decide,by decide,by decide,by rw [fin]⟩
end
section
variable {σ:H} {m:Nat} {F R:Nat} {b kq:Nat->Nat} {g bd:Nat} {A:GeoR}
theorem HV.app {w:Nat->O} {K:Nat} {υ:H} (h:HV σ w K υ) (L:List O):HV σ (fun i=>if i<K then w i else L.getD (i - K) (.list false [])) (K+L.length) (υ++L):=by
 refine ⟨h.base.trans ⟨L,rfl⟩,by rw [List.length_append,h.len]; exact Nat.add_assoc _ _ _,fun i hi => ?_⟩
 by_cases q:i<K
 ·rw [if_pos q]
  exact Base.get ⟨L,rfl⟩ (h.at_ i q)
 ·rw [if_neg q,List.getElem?_append_right (by rw [h.len]; exact Nat.add_le_add (Nat.le_refl _) (Z.nle q)),h.len,List.getD_eq_getElem?_getD,Nat.add_sub_add_left,List.getElem?_eq_getElem (by exact Z.isk hi q)]
  rfl
noncomputable def posR (n g:Nat):PosR:=⟨g,n+40,n+41⟩
theorem sp_lpos (B:BoardOk F R b kq) (hb:σ[bd]? = some (.list false (intsOf (brdL (F*R) b)))) (G:GeoAt A F R g σ) {sd:Int} :
  Ok (callN prog glb (m+3) 55 [.ref g,.ref bd,.int sd] σ) (fun r=>Base σ r.2/\r.1 = .ref (σ.length+36)/\PosAt (posR σ.length g) A F R b (σ.length+36) r.2):=by
 revert σ m F R b kq g bd A sd
 exists σ,m,F,R,b,kq,g,bd,A
 intro B hb G
 exists sd
 have hN:=FRs_le B.fr
 have i15:∀ τ,items τ (.rng 0 15 1)=some (intsOf (List.range 15)):=fun τ=>items_range (n:=15) (by decide) rfl
 refine enter rfl rfl (by decide) fun P_ hR_ => ?_
 simp only [f_law_position,b_law_position]
 simp! [e_comp,i15]
 have hv1:HV σ (wset (fun _ => .list false []) 0 (.list false [])) 1 (σ++[O.list false []]):=HV.push (K:=0) ⟨Base.refl,rfl,fun k hk=>by lia⟩ _
 refine ok_compN (fun r τ=>∃ (L1 L2:List Nat) (w:Nat->O),L1++L2=List.range 15/\r=intsOf L2/\HV σ w (1+2*L1.length) τ/\w 0 = .list false ((List.range L1.length).map fun i=>V.ref (σ.length+(2+2*i)))/\∀ i,i<L1.length->w (2+2*i) = .list false (tabV (F*R) fun _=>0)) ?_ ?_ ⟨[],_,_,rfl,rfl,hv1,rfl,fun i hi=>by simp at hi⟩
 ·intro I_ hI_ v r τ zq
  refine ea3_5 zq fun L1 L2 w p1 p2 hv w0 wr => ?_
  clear zq
  induction L2,v,r,p2 using intsOf_c with
  | k s L2 =>
   have hl:L1.length+L2.length+1=15:=by
    have:=congrArg List.length p1
    simpa [Nat.add_assoc] using this
   have hp1:=hv.push (.list false [.int 0])
   have hp2:=hp1.push (.list false (List.replicate (F*R) (V.int 0)))
   refine nm (τ++[O.list false [V.int 0]]) fun τ1 e1 => ?_
   refine nm (τ1++[O.list false (List.replicate (F*R) (V.int 0))]) fun τ2 e2 => ?_
   rw [<- e1,<- e2] at hp2
   rw [<- e1] at hp1
   have E1:τ++[O.list false [V.int 0]]=τ1:=e1.symm
   have sz:attrOf τ1 (.ref g) 6=some (.int (F*R:Nat)):=(G.base hp1.base).size
   have mu:binV .mul (.ref τ.length) (.int (F*R:Nat)) τ1=some (.ref (σ.length+(2+2*L1.length)),τ2):=by
    rw [e2,mul_at (by rw [e1]; exact get_push) (by exact Nat.le_trans hN.2.2.2.2 (by decide)),e1,List.length_append,hv.len]
    congr 3
    simp
    lia
   have q0:τ2[σ.length]? = some (.list false ((List.range L1.length).map fun i=>V.ref (σ.length+(2+2*i)))):=hv_get hp2 (k:=0) (by exact Z.ltn (Nat.le_add_left _ _)) (by unfold wset; rw [if_neg (by exact Z.ne_lt (Z.ltn (Nat.le_add_left _ _))),if_neg (by exact Z.ne_lt (Z.ltn (Nat.le_add_right _ _))),w0])
   have ap:methV .append (.ref σ.length) (.ref (σ.length+(2+2*L1.length))) τ2=some (.none,τ2.set (σ.length+0) (.list false ((List.range (L1.length+1)).map fun i=>V.ref (σ.length+(2+2*i))))):=by
    rw [app_at q0 (by simp [LIM]; lia),List.range_succ,List.map_append]; rfl
   have h3:=hp2.set (k:=0) (by exact Z.ltn (Nat.le_add_left _ _)) (.list false ((List.range (L1.length+1)).map fun i=>V.ref (σ.length+(2+2*i))))
   refine ⟨rfl,?_⟩
   simp! [ok_evC,if_nil,g_nil,ok_evM,E1,sz,mu,ap,e_and,e_or]
   refine ⟨(by decide:1<=LIM),L1++[s],L2,_,by rw [<- p1,List.append_assoc]; rfl,rfl,by rw [List.length_append,List.length_singleton,show 1+2*(L1.length+1)=1+2*L1.length+1+1 by exact rfl]; exact h3,?_,fun i hi => ?_⟩
   ·unfold wset; rw [if_pos rfl,List.length_append]; rfl
   ·rw [List.length_append,List.length_singleton] at hi
    unfold wset
    by_cases e:i=L1.length
    ·subst e; rw [if_neg (by exact Z.pz (Z.ltn (Z.nle (Z.fn (by decide))))),if_pos (by exact Z.i1c),rep_tab]
    ·rw [if_neg (by lia),if_neg (by lia),if_neg (by lia)]; exact wr i (by exact Z.lt1 hi e)
 intro τ zq
 refine ea3_5 zq fun L1 L2 w p1 p2 hv w0 wr => ?_
 clear zq
 have:L2=[]:=List.map_eq_nil_iff.mp p2.symm
 subst this
 rw [List.append_nil] at p1
 subst p1
 rw [List.length_range] at hv w0 wr
 refine ⟨rfl,?_⟩
 have hp1:=hv.push (.list false [.int 0])
 have hp2:=hp1.push (.list false (List.replicate F (V.int 0)))
 have hp3:=hp2.push (.list false [.int 0])
 have hp4:=hp3.push (.list false (List.replicate 16 (V.int 0)))
 refine nm (τ++[O.list false [V.int 0]]) fun τ1 e1 => ?_
 refine nm (τ1++[O.list false (List.replicate F (V.int 0))]) fun τ2 e2 => ?_
 refine nm (τ2++[O.list false [V.int 0]]) fun τ3 e3 => ?_
 refine nm (τ3++[O.list false (List.replicate 16 (V.int 0))]) fun τ4 e4 => ?_
 rw [<- e1,<- e2,<- e3,<- e4] at hp4
 rw [<- e1,<- e2,<- e3] at hp3
 rw [<- e1,<- e2] at hp2
 rw [<- e1] at hp1
 have E1:τ++[O.list false [V.int 0]]=τ1:=e1.symm
 have E3:τ2++[O.list false [V.int 0]]=τ3:=e3.symm
 have fi:attrOf τ1 (.ref g) 1=some (.int F):=(G.base hp1.base).files
 have mu1:binV .mul (.ref τ.length) (.int F) τ1=some (.ref τ1.length,τ2):=by rw [e2]; exact mul_at (by rw [e1]; exact get_push) (by exact Nat.le_trans hN.2.1 (by decide))
 have mu2:binV .mul (.ref τ2.length) (.int 16) τ3=some (.ref τ3.length,τ4):=by rw [e4]; exact mul_at (n:=16) (by rw [e3]; exact get_push) (by decide)
 have l4:τ4.length=σ.length+35:=hp4.len
 simp! [E1,fi,mu1,E3,mu2,e_and,e_or]
 refine ⟨(by decide:1<=LIM),(by decide:1<=LIM),?_⟩
 refine (sp_newZ (m:=m+1) rfl rfl rfl rfl).at_ ?_
 refine ⟨rfl,?_⟩
 refine nm (τ4++[O.inst 4 [(18,.ref σ.length),(27,.ref τ1.length),(26,.ref τ3.length),(24,.int 0)]]) fun τ5 e5 => ?_
 have hp5:=hp4.push (.inst 4 [(18,.ref σ.length),(27,.ref τ1.length),(26,.ref τ3.length),(24,.int 0)])
 rw [<- e5] at hp5 ⊢
 have l5:τ5.length=σ.length+36:=hp5.len
 refine (sp_newP (m:=m+1) (N:=F*R) (by exact Nat.le_trans hN.2.2.2.2 (by decide)) (fun L=>(G.base (hp5.base.trans ⟨L,rfl⟩)).size)).at_ ?_
 refine ⟨rfl,?_⟩
 have hp6:=hp5.app [.inst 2 (pfs σ.length g (F*R) 0 0),.list false [.int 0],.list false (List.replicate (F*R) (.int 0)),.list false [.int 0],.list false (List.replicate 7 (.int 0)),.list false [.int 0,.int 0],.list false []]
 have eP:[O.inst 2 [(19,.ref g),(17,.ref τ4.length),(13,.ref (τ5.length+2)),(14,.ref (τ5.length+4)),(15,.ref (τ5.length+5)),(24,.int 0),(26,.int 0),(27,.int (-1)),(28,.int 0),(5,.int 1),(16,.int 0),(29,.ref (τ5.length+6))],
   .list false [.int 0],.list false (List.replicate (F*R) (.int 0)),.list false [.int 0],.list false (List.replicate 7 (.int 0)),.list false [.int 0,.int 0],.list false []]=[.inst 2 (pfs σ.length g (F*R) 0 0),.list false [.int 0],.list false (List.replicate (F*R) (.int 0)),.list false [.int 0],.list false (List.replicate 7 (.int 0)),.list false [.int 0,.int 0],.list false []]:=by
  rw [l4,l5]; rfl
 rw [eP,l5]
 refine nm (τ5++[.inst 2 (pfs σ.length g (F*R) 0 0),.list false [.int 0],.list false (List.replicate (F*R) (.int 0)),.list false [.int 0],.list false (List.replicate 7 (.int 0)),.list false [.int 0,.int 0],.list false []]) fun τ6 e6 => ?_
 rw [<- e6] at hp6 ⊢
 have S0:PSt σ.length g F R b 0 (fun i=>if i<31+1+1+1+1+1 then (wset (wset (wset (wset (wset w 31 (.list false [.int 0])) (31+1) (.list false (List.replicate F (V.int 0)))) (31+1+1) (.list false [.int 0])) (31+1+1+1) (.list false (List.replicate 16 (V.int 0)))) (31+1+1+1+1) (.inst 4 [(18,.ref σ.length),(27,.ref τ1.length),(26,.ref τ3.length),(24,.int 0)])) i else ([.inst 2 (pfs σ.length g (F*R) 0 0),.list false [.int 0],.list false (List.replicate (F*R) (.int 0)),.list false [.int 0],.list false (List.replicate 7 (.int 0)),.list false [.int 0,.int 0],.list false []]:List O).getD (i - (31+1+1+1+1+1)) (.list false [])):=by
  refine ⟨⟨0,rfl⟩,⟨List.replicate (F*R) (.int 0),by simp,rfl⟩,?_,?_,?_,fun i hi => ?_,⟨_,rfl⟩⟩
  ·show O.list false (List.replicate 7 (.int 0))=_
   rw [rep_tab]
   congr 1
  ·show O.list false (List.replicate 2 (.int 0))=_
   rw [rep_tab]
   rfl
  ·show w 0=_
   exact w0
  ·rw [if_pos (by lia)]
   unfold wset
   rw [if_neg (by lia),if_neg (by lia),if_neg (by lia),if_neg (by lia),if_neg (by lia)]
   exact wr i hi
 have sz6:attrOf τ6 (.ref g) 6=some (.int (F*R:Nat)):=(G.base hp6.base).size
 simp! [sz6,rng_it hN]
 refine ok_for_range (fun j loc υ=>∃ (w':Nat->O) (w5 w6:V),loc=[.ref g,.ref bd,.int sd,.ref σ.length,.ref (σ.length+36),w5,w6]/\HV σ w' 43 υ/\PSt σ.length g F R b j w') ?_ ?_ ⟨_,_,_,rfl,hp6,S0⟩
 ·intro I_ hI_ j loc υ hj zq
  refine ea3_3 zq fun w' w5 w6 zq2 => ?_
  clear zq
  subst zq2
  intro hv' S
  refine ⟨rfl,?_⟩
  have gb:getI υ (.ref bd) (.int j)=some (.int (b j)):=brd_get (hv'.base.get hb) hj
  rw [bt_1,ok_some,KBd,wSs_eq,ss_cons',SeqC]
  simp only [List.set_cons_succ,List.set_cons_zero]
  refine ite_cond (b j != 0) ?_ (fun q => ?_) (fun q => ?_)
  ·simp! [gb,tm_ne,e_and,e_or]
  ·simp! [gb,e_and,e_or]
   refine (sp_put (m:=m) B hj (by simpa using q) hv' S).mono ?_
   rintro ⟨v,υ2⟩
   intro zq
   refine an2 zq fun zq2 => ?_
   clear zq
   subst zq2
   intro zq3
   refine ea1_2 zq3 fun w'' h1 h2 => ?_
   clear zq3
   show _/\_
   refine ⟨rfl,?_⟩
   show I_ _ _ _
   rw [hI_]
   exact ix3 w'' _ _ ⟨rfl,h1,h2⟩
  ·simp! [oks,e_and,e_or]
   exact ix3 w' _ _ ⟨rfl,hv',S.skip (by simpa using q)⟩
 ·intro loc υ zq
  refine ea3_3 zq fun w' w5 w6 zq2 => ?_
  clear zq
  subst zq2
  intro hv' S
  refine ⟨rfl,?_⟩
  obtain ⟨key,hp⟩:=S.p
  have q36:=hv_get hv' (by decide) hp
  have s4:attrSet υ (.ref (σ.length+36)) 24 (.int sd)=some (υ.set (σ.length+36) (.inst 2 (pfs σ.length g (F*R) key sd))):=by
   rw [gset q36 (by simp [pfs])]; rfl
  have h4:=hv'.set (k:=36) (by decide) (.inst 2 (pfs σ.length g (F*R) key sd))
  simp! [s4,e_and,e_or]
  have r36:=hv_get h4 (k:=36) (by decide) (by unfold wset; rw [if_pos rfl])
  have r40:=hv_get h4 (k:=40) (by decide) (by unfold wset; rw [if_neg (by decide),S.k])
  have r41:=hv_get h4 (k:=41) (by decide) (by unfold wset; rw [if_neg (by decide),S.s])
  refine ⟨h4.base,{ geo:=gat r36 rfl,G:=G.base h4.base,kinds:=gat r36 rfl,kI:=fun k h1 h2 => ?_,sides:=gat r36 rfl,sI:=fun c hc => ?_ }⟩
  ·refine (getI_at r40 (tabV_get (by exact Nat.lt_of_le_of_lt h2 (by decide)))).trans ?_
   unfold kj
   rw [if_neg (by exact Z.nz h1 (by decide))]
   rfl
  ·exact getI_at r41 (tabV_get hc)
end
theorem slice_at {σ:H} {a:Nat} {fz:Bool} {xs:List V} (h:σ[a]? = some (.list fz xs)):sliceV σ (.ref a) (.int 1) (some (.int 10))=some (.ref σ.length,σ++[.list false ((xs.drop 1).take 9)]):=by
 show (match σ[a]? with | some (.list _ xs')=>if 0<=(1:Int) then (sliceXs xs' (1:Int).toNat (some (.int 10))).map fun ys=>(V.ref σ.length,σ++[O.list false ys]) else none | _=>none)=_
 rw [h]; rfl
theorem plainOk (script:List Int):Ok (callN prog glb 20 66 [.ref 0] (heap0 script)) (fun r=>r.1 = .bool true):=by
 revert script
 exists script
 refine nm (heap0 script) fun σ eσ => ?_
 have s0:σ[0]? = some (.list true (script.map V.int)):=by rw [eσ]; rfl
 have T0:Base (heap0 script) σ:=eσ ▸ Base.refl
 rw [<- eσ]
 refine enter rfl rfl (by decide) fun P_ hR_ => ?_
 simp only [f_law,b_law]
 have hfst:∃ n:Int,∀ {loc:List V} {Q:V × H->Prop},loc[0]? = some (.ref 0)->Q (.int n,σ)->wE (callN prog glb 19) glb (.ife (.var 0) (.sub (.var 0) (.int 0)) (.int 11)) loc σ Q:=by
  cases hs:script with
  | nil =>
   refine ⟨11,fun {loc Q} l0 h => ?_⟩
   have t:truth σ (.ref 0)=some false:=by rw [tr_at s0,hs]; rfl
   simp! [l0,t,e_and,e_or]
   exact h
  | cons n r =>
   refine ⟨n,fun {loc Q} l0 h => ?_⟩
   have t:truth σ (.ref 0)=some true:=by rw [tr_at s0,hs]; rfl
   have gi:getI σ (.ref 0) (.int 0)=some (.int n):=getI_at (k:=0) s0 (by rw [hs]; rfl)
   simp! [l0,t,gi,e_and,e_or]
   exact h
 obtain ⟨n,hfst⟩:=hfst
 rw [wSs_eq,ss_cons',SeqC,s_asg,AsgC]
 refine hfst rfl ?_
 refine ea1_2 (fmod_nat (n:=n) (s:=5) (by decide)) fun f hf ef => ?_
 refine ea1_2 (fmod_nat (n:=n.fdiv 5) (s:=3) (by decide)) fun r hr er => ?_
 have ef:n.fmod 5=(f:Int):=ef
 have er:(n.fdiv 5).fmod 3=(r:Int):=er
 have eF:(2:Int)+(f:Int)=((2+f:Nat):Int):=by lia
 have eR:(3:Int)+(r:Int)=((3+r:Nat):Int):=by lia
 refine nm (2+f) fun F hF => ?_
 refine nm (3+r) fun R hR => ?_
 rw [<- hF] at eF
 rw [<- hR] at eR
 have hFR:(F,R)∈FRs:=FRs_mem (by lia) (by lia) (by exact Z.a3 hR) (by exact Z.a5 hR hr)
 have hN:=FRs_le hFR
 refine nm (σ++[O.list false ((((script.drop 1).take 9)).map V.int)]) fun τ1 e1 => ?_
 have sl:sliceV σ (.ref 0) (.int 1) (some (.int 10))=some (.ref σ.length,τ1):=by
  rw [slice_at s0,e1,<- List.map_drop,<- List.map_take]
 have T1:Base σ τ1:=e1 ▸ Base.refl.push _
 simp! [ef,eF,er,eR,e_slice2,sl]
 refine ⟨by decide,by decide,by decide,?_⟩
 refine (sp_lboard (m:=18) hFR (xs:=(script.drop 1).take 9) (by rw [e1]; exact get_push) (Nat.le_trans (List.length_take_le _ _) (by decide))).mono ?_
 rintro ⟨v,τ2⟩
 intro zq
 refine an2 zq fun B2 zq2 => ?_
 clear zq
 refine ea3_4 zq2 fun bd b kq zq3 => ?_
 clear zq2
 subst zq3
 intro _ BO hb
 dsimp only at B2 hb
 simp! [oks,e_and,e_or]
 refine (sp_geo (m:=16) hFR).mono ?_
 rintro ⟨v,τ3⟩
 intro zq
 refine an3 zq fun zq2 => ?_
 clear zq
 subst zq2
 intro B3 G
 dsimp only at B3 G
 simp! [oks,e_and,e_or]
 refine ⟨by decide,by decide,?_⟩
 refine (sp_lpos (m:=16) BO (B3.get hb) G).mono ?_
 rintro ⟨v,τ4⟩
 intro zq
 refine an3 zq fun B4 zq2 => ?_
 clear zq
 subst zq2
 intro PA
 dsimp only at B4 PA
 simp! [oks,e_and,e_or]
 refine (sp_attack_maps (m:=10) BO PA).mono ?_
 rintro ⟨v,τ5⟩
 intro zq
 refine an2 zq fun B5 zq2 => ?_
 clear zq
 refine ea3_4 zq2 fun mp m0 m1 zq3 => ?_
 clear zq2
 subst zq3
 intro gm am0 am1
 dsimp only at B5 gm am0 am1
 have T5:Base σ τ5:=T1.trans (B2.trans (B3.trans (B4.trans B5)))
 have hb5:=(B3.trans (B4.trans B5)).get hb
 simp! [oks,e_and,e_or]
 refine (sp_looks (m:=16) (kq:=kq) (T0.trans T5) BO hb5 (c:=0) (by decide)).mono ?_
 rintro ⟨v,τ6⟩
 intro zq
 refine an2 zq fun B6 zq2 => ?_
 clear zq
 refine ea3_3 zq2 fun sh0 n0 xa zq3 => ?_
 clear zq2
 subst zq3
 intro gs0 L0
 dsimp only at B6 gs0 L0
 simp! [oks,e_and,e_or]
 refine (sp_looks (m:=16) (kq:=kq) (T0.trans (T5.trans B6)) BO (B6.get hb5) (c:=1) (by decide)).mono ?_
 rintro ⟨v,τ7⟩
 intro zq
 refine an2 zq fun B7 zq2 => ?_
 clear zq
 refine ea3_3 zq2 fun sh1 n1 xb zq3 => ?_
 clear zq2
 subst zq3
 intro gs1 L1
 dsimp only at B7 gs1 L1
 refine nm (τ7++[O.list false [lkV sh0 n0,lkV sh1 n1]]) fun τ8 e8 => ?_
 have B8:Base τ7 τ8:=e8 ▸ Base.refl.push _
 have g8:τ8[τ7.length]? = some (.list false [lkV sh0 n0,lkV sh1 n1]):=by rw [e8]; exact get_push
 have E8:τ7++[O.list false [V.tup [.ref sh0,.ref n0,.ref (n0+8),.ref (n0+10)],V.tup [.ref sh1,.ref n1,.ref (n1+8),.ref (n1+10)]]]=τ8:=e8.symm
 have B58:=B6.trans (B7.trans B8)
 have PA8:=PA.base (B5.trans B58)
 have G8:=PA8.G
 have M8:MapsAt F R b kq mp (fun c=>if c=0 then m0 else m1) τ8:=by
  have gm8:=B58.get gm
  refine ⟨fun c hc => ?_,fun c hc => ?_⟩
  ·have:c=0\/c=1:=by lia
   rcases this with rfl | rfl
   ·exact getI_at gm8 rfl
   ·exact getI_at gm8 rfl
  ·have:c=0\/c=1:=by lia
   rcases this with rfl | rfl
   ·exact am0.base B58
   ·exact am1.base B58
 have X0:SideH (posR τ3.length τ2.length) (geoR τ2.length) script F R b kq 0 bd (τ3.length+36) mp (fun c=>if c=0 then m0 else m1) sh0 n0 sh1 n1 xa xb τ8 :=
  ⟨T0.trans (T5.trans B58),BO,B58.get hb5,PA8,M8,by decide,(B7.trans B8).get gs0,L0.base (B7.trans B8),L1.base B8⟩
 have X1:SideH (posR τ3.length τ2.length) (geoR τ2.length) script F R b kq 1 bd (τ3.length+36) mp (fun c=>if c=0 then m0 else m1) sh1 n1 sh0 n0 xb xa τ8 :=
  ⟨T0.trans (T5.trans B58),BO,B58.get hb5,PA8,M8,by decide,B8.get gs1,L1.base B8,L0.base (B7.trans B8)⟩
 have sz:attrOf τ8 (.ref τ2.length) 6=some (.int (F*R:Nat)):=G8.size
 simp! [E8,sz,rng_it hN]
 refine ⟨(by decide:2<=LIM),?_⟩
 refine ok_for_range (fun j loc υ=>∃ w9,loc=[.ref 0,.int n,.int F,.int R,.ref bd,.ref τ2.length,.ref (τ3.length+36),.ref mp,.ref τ7.length,w9,.undef]/\Base τ8 υ) ?_ ?_ ⟨_,rfl,Base.refl⟩
 ·intro I_ hI_ j loc υ hj zq
  refine ea1_2 zq fun w9 zq2 => ?_
  clear zq
  subst zq2
  intro bυ
  refine ⟨rfl,?_⟩
  simp! [oks,e_and,e_or]
  refine (sp_ring (m:=17) hFR (G8.base bυ) hj).at_ ?_
  simp! [oks,e_and,e_or]
  refine (sp_lring (m:=18) hFR hj).at_ ?_
  simp! [oks,e_and,e_or]
  have ring:=(ring_ok hFR hj).2.2.2
  refine (sp_bits (m:=18) (fz:=false) (L:=ringL F R j) get_push (fun t ht=>by have:=ring.2 t ht; exact Nat.le_of_lt (Z.ltR this (Nat.le_trans hN.2.2.2.2 (by decide))))).at_ ?_
  simp! [beq_self_eq_true,e_and,e_or]
  exact ⟨_,rfl,bυ.push _⟩
 ·intro loc υ zq
  refine ea1_2 zq fun w9 zq2 => ?_
  clear zq
  subst zq2
  intro bυ
  refine ⟨rfl,?_⟩
  simp! [oks,e_and,e_or]
  refine ⟨(by decide:2<=LIM),?_⟩
  refine ok_for (fun r loc υ=>∃ (L1 L2:List Nat) (w10:V),L1++L2=[0,1]/\r=intsOf L2/\loc=[.ref 0,.int n,.int F,.int R,.ref bd,.ref τ2.length,.ref (τ3.length+36),.ref mp,.ref τ7.length,w9,w10]/\Base τ8 υ) ?_ ?_ ⟨[],[0,1],_,rfl,rfl,rfl,bυ⟩
  ·intro I_ hI_ v rr loc υ zq
   refine ea3_4 zq fun L1 L2 w10 p1 p2 zq2 => ?_
   clear zq
   subst zq2
   intro bυ
   induction L2,v,rr,p2 using intsOf_c with
   | k s L2 =>
    have hs:s=0\/s=1:=by
     have:s∈[0,1]:=by rw [<- p1]; simp
     simpa using this
    have gl:getI υ (.ref τ7.length) (.int s)=some (if s=0 then lkV sh0 n0 else lkV sh1 n1):=by
     rcases hs with rfl | rfl
     ·exact getI_at (k:=0) (bυ.get g8) rfl
     ·exact getI_at (k:=1) (bυ.get g8) rfl
    have gl':getI υ (.ref τ7.length) (.int ((1 - s:Nat):Int))=some (if s=0 then lkV sh1 n1 else lkV sh0 n0):=by
     rcases hs with rfl | rfl
     ·exact getI_at (k:=1) (bυ.get g8) rfl
     ·exact getI_at (k:=0) (bυ.get g8) rfl
    have fin:Ok (callN prog glb 19 65 [.int F,.int R,.ref bd,.ref (τ3.length+36),.ref mp,.int s,if s=0 then lkV sh0 n0 else lkV sh1 n1,if s=0 then lkV sh1 n1 else lkV sh0 n0] υ) (fun r=>Base υ r.2/\r.1 = .bool true):=by
     rcases hs with rfl | rfl
     ·exact sp_lside (m:=9) (X0.base bυ)
     ·exact sp_lside (m:=9) (X1.base bυ)
    refine ⟨rfl,?_⟩
    simp! [one_sub (show s<2 by lia),gl,gl',e_and,e_or]
    refine fin.mono ?_
    rintro ⟨v,υ'⟩
    intro zq
    refine an2 zq fun b' zq2 => ?_
    clear zq
    subst zq2
    dsimp only at b'
    simp! [oks,e_and,e_or]
    exact ⟨L1++[s],L2,_,by rw [<- p1,List.append_assoc]; rfl,rfl,rfl,bυ.trans b'⟩
  ·intro loc υ zq
   refine ea3_4 zq fun L1 L2 w10 p1 p2 zq2 => ?_
   clear zq
   subst zq2
   intro bυ
   refine ⟨rfl,?_⟩
   simp! [oks,e_and,e_or]
theorem plain (script:List Int) (_h:script.length<=63):∃ σ',callN prog glb 20 66 [.ref 0] (heap0 script)=some (.bool true,σ'):=by
 obtain ⟨⟨v,σ'⟩,e,h⟩:=plainOk script
 dsimp only at h
 exact ⟨σ',by rw [e,h]⟩
end Mob
end
set_option tactic.hygienic true
namespace Mob
open PySem PySem.W PyProof.Rows PySem.Calls
theorem law2 {o:Option Shared} {α β γ:Type} {f:Shared->α} {r:Shared->β} {v:Shared->γ} {a:α} {b:β} {c:γ} (h1:o.map (fun s=>(f s,r s))=some (a,b)) (h2:o.map v=some c):o.map (fun s=>(f s,(r s,v s)))=some (a,(b,c)):=by
 cases o with
 | none=>cases h1
 | some s =>
  have h1:(f s,r s)=(a,b):=Option.some.inj h1
  have h2:v s=c:=Option.some.inj h2
  show some (f s,(r s,v s))=_
  rw [show f s=a from congrArg Prod.fst h1,show r s=b from congrArg Prod.snd h1,h2]
theorem lawLeft:LeftO PySem.Challenge.pw_nt0452_01 lawQ lawLoose (fun _=>true) (fun s=>(okTabs (hFrag s.heap)&&okGl (hFrag s.heap)&&okNames (hFrag s.heap)&&okCls (hFrag s.heap),progIds.map (fnV s.heap))) (fun _=>(true,progIds.map lawE)) 8100:=fun w=>law2 (lawA w) (lawF w)
noncomputable def lawY (h:Heap):Prop:=(∀ f∈progIds,okFh h f)/\∃ K:Frag,K.In h/\(okTabs K&&okGl K&&okNames K&&okCls K)=true
theorem lawY_of (s:Shared) (e:(okTabs (hFrag s.heap)&&okGl (hFrag s.heap)&&okNames (hFrag s.heap)&&okCls (hFrag s.heap),progIds.map (fnV s.heap))=(true,progIds.map lawE)):lawY s.heap :=
 ⟨fun f hf=>⟨fnK s.heap f,hFr_in _ s.heap,okF_of (List.map_inj_left.mp (congrArg Prod.snd e) f hf) (List.all_eq_true.mp chkAll f hf)⟩,_,hFr_in needA s.heap,congrArg Prod.fst e⟩
theorem lawY_keep (h h':Heap) (y:lawY h) (k:∀ b o,h.get? b=some o->h'.get? b=some o):lawY h' :=
 ⟨fun f hf=>(y.1 f hf).elim fun K z=>⟨K,fun a o q=>k _ _ (z.1 a o q),z.2⟩,y.2.elim fun K z=>⟨K,fun a o q=>k _ _ (z.1 a o q),z.2⟩⟩
theorem progIds_mem {f:Nat} {d:Fn} (h:prog f=some d):f∈progIds:=by
 unfold prog at h
 by_cases q:f<67
 ·exact (by decide:∀ f,f<67->f∈progIds) f q
 ·rw [if_neg q] at h
  by_cases q2:f<1001
  ·rw [if_pos q2] at h; cases h
  ·rw [if_neg q2] at h
   have k:f - 1001<4:=(List.getElem?_eq_some_iff.mp h).1
   have e:f=1001+(f - 1001):=(Nat.add_sub_cancel' (Nat.le_of_not_lt q2)).symm
   rw [e]
   exact (by decide:∀ g,g<4->1001+g∈progIds) _ k
theorem final {K:Frag} {prog':Program} {w:World} {s₁:Shared} {mg mb:Str->Option Value} {fa sc:Addr} {vs:List Value} {script:List Int} {A:Around} {c:ClaimW} {cl:Str->Option Addr} {mean:ExcName->Option Value} {args:List WData} {σ':Mob.H}
  (X:K.In s₁.heap) (hg:s₁.heap.Ns mainGlobals mg) (hb:s₁.heap.Ns builtinsNs mb) (hl:s₁.heap.NoLimit) (hbi:∀ b,mb (biName b)=some (biVal b)) (e1:∀ f∈progIds,okFh s₁.heap f) (e2:okTabs K=true) (e3:okGl K=true) (e4:okNames K=true) (e5:okCls K=true)
  (hmg:mg (Str.ofString "law")=some (.ref fa)) (hL:s₁.heap.IsList sc vs.toArray) (hI:IntsAre vs script) (hz:script.length<=63) (hh:A.handled=none) (hd:A.depth+2*20+1<=900) (hu:A.units+16*20+192<=9900) (hgen:s₁.gens = #[])
  (hp:callN prog glb 20 66 [.ref 0] (heap0 script)=some (.bool true,σ')) (hr:∀ cls,c.raises args cls=false) (hpost:c.post args (.bool true) args=true) :
  codeAny (model prog' w) A (.call (.ref fa) ⟨[.ref sc],[]⟩) (GoodW c cl mean args s₁) s₁:=by
 have O:(wd prog' w K s₁.heap sc mg mb).Ok:=wd_ok X hg hb hl hbi e1 e2 e3 e4 e5
 have hfa:fa=faOf K 66:=by
  have h:=(O.fn (Str.ofString "law") 66 (show fnNames.lookup (Str.ofString "law")=some 66 by decide +kernel)).1
  have h:mg (Str.ofString "law")=some (.ref (faOf K 66)):=h
  rw [hmg] at h
  cases h; rfl
 have hP:∀ f d,prog f=some d->DefAt (wd prog' w K s₁.heap sc mg mb) f d:=fun f d h=>by
  refine (e1 f (progIds_mem h)).elim fun K' y => ?_
  have this:=y.2
  unfold okF at this
  rw [h] at this
  exact okFn_at (D:=wd prog' w K s₁.heap sc mg mb) y.1 rfl rfl this
 have snd:=snd_call O hP 20 66 [.ref 0] (heap0 script) (.bool true) σ' A (rhoOf sc (tabA K)) s₁ [.ref sc] hp ⟨hh,hd,hu⟩ (rel0 X e2 hL hI hz) (.cons ⟨(sc,sc),rfl,rfl⟩ .nil)
 rw [hfa]
 refine codeAny_mono snd fun r s' z => ?_
 rcases r with e | (x | _ | _ | _)
 all_goals first
  | exact z.elim
  | (obtain ⟨ρ',st,r,sa,vr⟩:=z
     cases vr
     exact ⟨.inl ⟨_,.bool true,[],rfl,hr,.bool true,hpost,unshared_nil⟩,r.keep,sa.2,sa.1.trans hgen⟩)
theorem finalAll {prog':Program} {w:World} {s₁:Shared} {mg mb:Str->Option Value} {fa sc:Addr} {vs:List Value} {script:List Int} {A:Around} {c:ClaimW} {cl:Str->Option Addr} {mean:ExcName->Option Value} {args:List WData} {σ':Mob.H}
  (Y:lawY s₁.heap) (hg:s₁.heap.Ns mainGlobals mg) (hb:s₁.heap.Ns builtinsNs mb) (hl:s₁.heap.NoLimit) (hbi:∀ b,mb (biName b)=some (biVal b))
  (hmg:mg (Str.ofString "law")=some (.ref fa)) (hL:s₁.heap.IsList sc vs.toArray) (hI:IntsAre vs script) (hz:script.length<=63) (hh:A.handled=none) (hd:A.depth+2*20+1<=900) (hu:A.units+16*20+192<=9900) (hgen:s₁.gens = #[])
  (hp:callN prog glb 20 66 [.ref 0] (heap0 script)=some (.bool true,σ')) (hr:∀ cls,c.raises args cls=false) (hpost:c.post args (.bool true) args=true) :
  codeAny (model prog' w) A (.call (.ref fa) ⟨[.ref sc],[]⟩) (GoodW c cl mean args s₁) s₁:=by
 refine Y.2.elim fun K z => ?_
 have ck:=z.2
 simp only [Bool.and_eq_true] at ck
 exact final z.1 hg hb hl hbi Y.1 ck.1.1.1 ck.1.1.2 ck.1.2 ck.2 hmg hL hI hz hh hd hu hgen hp hr hpost
end Mob
open PySem PySem.W PyProof.Rows
theorem PySem.Challenge.cw_nt0452_01_holds : PySem.Challenge.rw_nt0452_01.Holds := by
  w_on
  refine holds_law Mob.ws fun said => ?_
  refine holds_open (q := Mob.lawQ) (loose := Mob.lawLoose) (Xt := fun _ => true) (XP := fun _ _ => True) (YP := fun _ h => Mob.lawY h) Mob.lawLeft (fun _ s e => Mob.lawY_of s e) (fun _ h h' y k => Mob.lawY_keep h h' y k) (fun _ _ => trivial) (fun _ _ _ _ _ => trivial) (by rfl) (by rfl) (by rfl) (fun _ _ => recFacts_nil rfl) (by rfl) (by first | assumption | decide +kernel) (by decide +kernel) ⟨rfl, rfl, rfl, rfl, rfl, by decide +kernel⟩ ?hw ?hc
  case hw => w_witness2
  intro w s₀ s₁ mg mb G Y fa o pm cd doc dV kV ho hd hcd hD hmg hg args vals as hpre hlay hrd hwl hlo
  have hmg0 := hmg
  refine Ground.open G ?_
  intro T B D TE TW
  wrow_args hpre hlay hrd hwl hlo
  all_goals (
    first | refine callC_kw (enter_call ?_) | refine enter_call ?_ | refine callC_kw (enter_callW ?_) | refine enter_callW ?_ | w_how
    try refine codeAny_mono ?_ (fun _ _ g => GoodW.toG g))
  rename_i script hs1 hs2 hs3 hs4 hs5 hs6 hs7 sc vs hs8 hL hs9 hs10 hs11 hI hs12 hlen hs13
  have hz : script.length ≤ 63 := by omega
  obtain ⟨σ', hp⟩ := Mob.plain script hz
  exact Mob.finalAll Y T.g T.b T.nolimit (fun b => (T.builtins _ (by cases b <;> decide)).trans (Mob.biName_is b)) hmg0 hL hI hz rfl (by decide) (by decide) hg hp (by intro _; rfl) (by kernel_rfl)
