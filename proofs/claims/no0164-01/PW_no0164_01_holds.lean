import PyProof.Rows.All
import Wide.All
import OpenK.AllK
import Wide.FinOn
import Lean
import PySem.Challenge.RW_no0164_01
-- joined and minified by wip/merge2.py (and wip/conv.py) out of the texts wip/L1.lean .. L74.lean
set_option Elab.async false
set_option linter.all false
set_option genInjectivity false
set_option genSizeOf false
set_option bootstrap.genMatcherCode false
set_option maxRecDepth 100000
set_option maxHeartbeats 8000000
namespace Mine
open PySem PySem.W PyProof.Rows
noncomputable abbrev S (x:String):Str:=Str.ofString x
noncomputable def LIM:Nat:=1000000
inductive AV where
 | none
 | bool (b:Bool)
 | int (i:Int)
 | str (s:Str)
 | tup (xs:List AV)
 | ref (a:Addr)
 | obj (C dx:Addr)
 | rng (lo hi:Int)
deriving Inhabited
inductive AO where
 | list (xs:List AV)
 | ro (xs:List AV)
 | dict (kvs:List (Int × AV)) (ep:Nat)
 | attrs (C:Addr) (fs:List (Str × AV))
noncomputable abbrev AH:=Addr→Option AO
noncomputable def AH.set (σ:AH) (a:Addr) (o:AO):AH:=fun b=>if b=a then some o else σ b
noncomputable abbrev Env':=List (Option AV)
noncomputable abbrev Tr:=List AV→(AV→AH→Prop)→AH→Prop
inductive Op2 where
 | add | sub | mul | fdiv | mod | pow
deriving DecidableEq
inductive BI where
 | len | range | list | tuple | max | min | sorted | listRev
deriving DecidableEq
inductive BM where
 | append | extendRev | insert | pop | reverse | get | setdefault
deriving DecidableEq
inductive Cm where
 | eq | ne | lt | le | gt | ge | isin | notin
deriving DecidableEq
mutual
inductive PE where
 | lit (v:AV)
 | var (i:Nat)
 | attr (e:PE) (x:Str)
 | idx (e i:PE)
 | slc (e hi:PE)
 | bin (o:Op2) (a b:PE)
 | neg (e:PE)
 | cmp (o:Cm) (a b:PE)
 | bop (isAnd:Bool) (es:PEs)
 | not (e:PE)
 | ite (c a b:PE)
 | tup (es:PEs)
 | list (es:PEs)
 | dict0
 | call (f:Str) (es:PEs)
 | new (f:Str) (es:PEs)
 | meth (e:PE) (f:Str) (es:PEs)
 | bi (f:BI) (es:PEs)
 | bm (e:PE) (f:BM) (es:PEs)
 | comp (elt iter:PE) (cond:PE)
 | srtD (e:PE) (d:Nat)
 | repl (e n:PE)
inductive PEs where
 | nil
 | cons (e:PE) (es:PEs)
end
inductive PS where
 | nop
 | seq (a b:PS)
 | expr (e:PE)
 | asg (i:Nat) (e:PE)
 | asgA (o:PE) (x:Str) (e:PE)
 | asgI (o i:PE) (e:PE)
 | asgT (is:List Nat) (e:PE)
 | augV (i:Nat) (op:Op2) (e:PE)
 | augA (o:PE) (x:Str) (op:Op2) (e:PE)
 | augI (o i:PE) (op:Op2) (e:PE)
 | ifS (c:PE) (a b:PS)
 | whl (c:PE) (b:PS)
 | forS (t:List Nat) (single:Bool) (rev:Bool) (e:PE) (b:PS)
 | ret (e:PE)
structure Gam where
 fn:Str→Option Tr
 cls:Str→Option (Addr × Tr)
 mth:Addr→Str→Option Tr
 attrOk:Addr→Str→Bool
noncomputable def AV.int?:AV→Option Int
 | .int i=>some i
 | _=>Option.none
noncomputable def pyIdx (xs:List AV) (k:Int):Option AV:=
 if 0≤k then xs[k.toNat]? else if 0≤k+xs.length then xs[(k+xs.length).toNat]? else Option.none
noncomputable def itemsO:AO→Option (List AV)
 | .list xs=>some xs
 | .dict kvs _=>some (kvs.map fun p=>.int p.1)
 | _=>Option.none
noncomputable def itemsOf (σ:AH):AV→Option (List AV)
 | .tup xs=>some xs
 | .ref a=>(σ a).bind itemsO
 | .rng lo hi=>some ((List.range (hi - lo).toNat).map fun (i:Nat)=>AV.int (lo+(i:Int)))
 | _=>Option.none
noncomputable def shpO:AO→Option (List AV × List Int × Nat)
 | .list xs=>some (xs,[],0)
 | .dict kvs ep=>some ([],kvs.map (·.1),ep+1)
 | _=>Option.none
noncomputable def sameSrc (σ₀ σ:AH):AV→Prop
 | .ref a=>(σ a).bind shpO=(σ₀ a).bind shpO
 | _=>True
noncomputable def idxO (k:Int):AO→Option AV
 | .list xs=>pyIdx xs k
 | .dict kvs _=>kvs.lookup k
 | _=>Option.none
noncomputable def idxW (σ:AH) (o i:AV):Option AV:=match o with
 | .tup xs=>i.int?.bind fun k=>pyIdx xs k
 | .ref a=>i.int?.bind fun k=>(σ a).bind (idxO k)
 | _=>Option.none
theorem int?_inv {v:AV} {k:Int} (h:v.int?=some k):v=.int k:=by
 cases v with
 | int i=>injection h with h;rw [h]
 | _=>injection h
inductive PyIdxI (xs:List AV) (k:Int) (r:AV):Prop
 | pos:0≤k→xs[k.toNat]?=some r→PyIdxI xs k r
 | neg:k < 0→0≤k+xs.length→xs[(k+xs.length).toNat]?=some r→PyIdxI xs k r
theorem pyIdx_inv {xs:List AV} {k:Int} {r:AV} (h:pyIdx xs k=some r):PyIdxI xs k r:=by
 unfold pyIdx at h
 by_cases c:0≤k
 · rw [if_pos c] at h;exact .pos c h
 · rw [if_neg c] at h
   obtain ⟨c',h⟩:=Option.ite_none_right_eq_some.mp h
   exact .neg (Int.not_le.mp c) c' h
noncomputable def flatEq (x y:AV):Option Bool:=match x with
 | .int i=>(match y with
  | .int j=>some (decide (i=j))
  | _=>Option.none)
 | .str s=>(match y with
  | .str t=>some (decide (s=t))
  | _=>Option.none)
 | .bool s=>(match y with
  | .bool t=>some (decide (s=t))
  | _=>Option.none)
 | _=>Option.none
noncomputable def flatsEq:List AV→List AV→Option Bool
 | [],[]=>some true
 | x::xs,y::ys=>(flatEq x y).bind fun a=>(flatsEq xs ys).map fun b=>a && b
 | _,_=>Option.none
noncomputable def intsOf:List AV→Option (List Int)
 | []=>some []
 | .int i::r=>(intsOf r).map (i::·)
 | _::_=>Option.none
noncomputable def listsEq (xs ys:List AV):Option Bool:=
 if xs.length≠ys.length then some false else (intsOf xs).bind fun a=>(intsOf ys).map fun b=>decide (a=b)
noncomputable def listO:AO→Option (List AV)
 | .list xs=>some xs
 | _=>Option.none
noncomputable def eqW (σ:AH) (x y:AV):Option Bool:=match x with
 | .tup xs=>(match y with
  | .tup ys=>if xs.length=ys.length then flatsEq xs ys else Option.none
  | _=>Option.none)
 | .ref a=>(match y with
  | .ref b=>((σ a).bind listO).bind fun xs=>((σ b).bind listO).bind fun ys=>listsEq xs ys
  | _=>Option.none)
 | x=>flatEq x y
noncomputable def inStrs (s:Str):List AV→Option Bool
 | []=>some false
 | .str t::r=>(inStrs s r).map fun b=>decide (t=s) || b
 | _::_=>Option.none
noncomputable def dicO:AO→Option (List (Int × AV))
 | .dict kvs _=>some kvs
 | _=>Option.none
noncomputable def inW (σ:AH) (x y:AV):Option Bool:=match x with
 | .str s=>(match y with
  | .tup ys=>inStrs s ys
  | _=>Option.none)
 | .int k=>(match y with
  | .ref a=>((σ a).bind dicO).map fun kvs=>kvs.any fun p=>decide (p.1=k)
  | _=>Option.none)
 | _=>Option.none
noncomputable def int2W (f:Int→Int→Bool) (a b:AV):Option Bool:=a.int?.bind fun i=>b.int?.map fun j=>f i j
noncomputable def cmpW (o:Cm) (σ:AH) (a b:AV):Option Bool:=match o with
 | .eq=>eqW σ a b
 | .ne=>(eqW σ a b).map (!·)
 | .lt=>int2W (fun i j=>decide (i < j)) a b
 | .le=>int2W (fun i j=>decide (i≤j)) a b
 | .gt=>int2W (fun i j=>decide (j < i)) a b
 | .ge=>int2W (fun i j=>decide (j≤i)) a b
 | .isin=>inW σ a b
 | .notin=>(inW σ a b).map (!·)
noncomputable def truthW (σ:AH):AV→Option Bool
 | .bool b=>some b
 | .ref a=>((σ a).bind listO).map fun xs=>!xs.isEmpty
 | _=>Option.none
noncomputable def putA (fs:List (Str × AV)) (x:Str) (v:AV):List (Str × AV):=match fs with
 | []=>[(x,v)]
 | (y,u)::r=>if y=x then (y,v)::r else (y,u)::putA r x v
noncomputable def putD (kvs:List (Int × AV)) (k:Int) (v:AV):List (Int × AV):=
 if kvs.any (fun p=>decide (p.1=k)) then kvs.map (fun p=>if p.1=k then (p.1,v) else p) else kvs++[(k,v)]
noncomputable def freshW (o:AO) (Q:AV→AH→Prop) (σ:AH):Prop:=∀ a,σ a=none→Q (.ref a) (σ.set a o)
noncomputable def asI (v:AV) (g:Int→Prop):Prop:=match v with
 | .int i=>g i
 | _=>False
noncomputable def asS (v:AV) (g:Str→Prop):Prop:=match v with
 | .str s=>g s
 | _=>False
noncomputable def asT (v:AV) (g:List AV→Prop):Prop:=match v with
 | .tup xs=>g xs
 | _=>False
noncomputable def asR (v:AV) (g:Addr→Prop):Prop:=match v with
 | .ref a=>g a
 | _=>False
noncomputable def isLst (o:AO) (g:List AV→Prop):Prop:=match o with
 | .list xs=>g xs
 | _=>False
noncomputable def som {α:Type} (o:Option α) (g:α→Prop):Prop:=match o with
 | some x=>g x
 | Option.none=>False
noncomputable def lstAt (o:Option AO) (g:List AV→Prop):Prop:=som o fun x=>isLst x g
noncomputable def nil0 (vs:List AV) (p:Prop):Prop:=match vs with
 | []=>p
 | _::_=>False
noncomputable def cons1 (vs:List AV) (g:AV→List AV→Prop):Prop:=match vs with
 | []=>False
 | v::r=>g v r
noncomputable def oneA (vs:List AV) (g:AV→Prop):Prop:=cons1 vs fun v r=>nil0 r (g v)
inductive EqI {α β:Type} (c:β→α) (v:α) (g:β→Prop):Prop
 | mk (i:β):v=c i→g i→EqI c v g
inductive Eq2I {α β γ:Type} (c:β→α) (d:γ→α) (v u:α) (g:β→γ→Prop):Prop
 | mk (i:β) (j:γ):v=c i→u=d j→g i j→Eq2I c d v u g
inductive LstI (o:Option AO) (g:List AV→Prop):Prop
 | mk (xs:List AV):o=some (.list xs)→g xs→LstI o g
inductive OneI (vs:List AV) (g:AV→Prop):Prop
 | mk (v:AV):vs=[v]→g v→OneI vs g
inductive IcI (is:List Int) (g:Int→List Int→Prop):Prop
 | mk (i:Int) (r:List Int):is=i::r→g i r→IcI is g
theorem asI_inv {v:AV} {g:Int→Prop} (h:asI v g):EqI AV.int v g:=by
 cases v with
 | int i=>exact ⟨i,rfl,h⟩
 | _=>exact h.elim
theorem intsI_inv {a b:AV} {g:Int→Int→Prop} (h:asI a fun i=>asI b fun j=>g i j):Eq2I AV.int AV.int a b g:=by
 obtain ⟨i,e,h⟩:=asI_inv h
 obtain ⟨j,e',h⟩:=asI_inv h
 exact ⟨i,j,e,e',h⟩
theorem asS_inv {v:AV} {g:Str→Prop} (h:asS v g):EqI AV.str v g:=by
 cases v with
 | str i=>exact ⟨i,rfl,h⟩
 | _=>exact h.elim
theorem asT_inv {v:AV} {g:List AV→Prop} (h:asT v g):EqI AV.tup v g:=by
 cases v with
 | tup i=>exact ⟨i,rfl,h⟩
 | _=>exact h.elim
theorem asR_inv {v:AV} {g:Addr→Prop} (h:asR v g):EqI AV.ref v g:=by
 cases v with
 | ref i=>exact ⟨i,rfl,h⟩
 | _=>exact h.elim
theorem som_inv {α:Type} {o:Option α} {g:α→Prop} (h:som o g):EqI some o g:=by
 cases o with
 | some x=>exact ⟨x,rfl,h⟩
 | none=>exact h.elim
theorem lstAt_inv {o:Option AO} {g:List AV→Prop} (h:lstAt o g):LstI o g:=by
 obtain ⟨x,rfl,h⟩:=som_inv h
 cases x with
 | list xs=>exact ⟨xs,rfl,h⟩
 | _=>exact h.elim
theorem nil0_inv {vs:List AV} {p:Prop} (h:nil0 vs p):vs=[]∧p:=by
 cases vs with
 | nil=>exact ⟨rfl,h⟩
 | cons=>exact h.elim
theorem oneA_inv {vs:List AV} {g:AV→Prop} (h:oneA vs g):OneI vs g:=by
 cases vs with
 | nil=>exact h.elim
 | cons v r=>obtain ⟨rfl,h⟩:=nil0_inv h;exact ⟨v,rfl,h⟩
theorem lstAt_of {o:Option AO} {xs:List AV} {g:List AV→Prop} (h:o=some (.list xs)) (k:g xs):lstAt o g:=by
 subst h
 exact k
theorem som_of {α:Type} {o:Option α} {x:α} {g:α→Prop} (h:o=some x) (k:g x):som o g:=by
 subst h
 exact k
noncomputable def addW (a b:AV) (Q:AV→AH→Prop) (σ:AH):Prop:=match a with
 | .int i=>asI b fun j=>Q (.int (i+j)) σ
 | .str s=>asS b fun t=>s.length+t.length≤LIM∧Q (.str (s++t)) σ
 | .ref a=>asR b fun b=>lstAt (σ a) fun xs=>lstAt (σ b) fun ys=>xs.length+ys.length≤LIM∧freshW (.list (xs++ys)) Q σ
 | _=>False
noncomputable def binW (o:Op2) (a b:AV) (Q:AV→AH→Prop) (σ:AH):Prop:=match o with
 | .add=>addW a b Q σ
 | .sub=>asI a fun i=>asI b fun j=>Q (.int (i - j)) σ
 | .mul=>asI a fun i=>asI b fun j=>i.natAbs≤LIM∧j.natAbs≤LIM∧Q (.int (i * j)) σ
 | .fdiv=>asI a fun i=>asI b fun j=>0 < j∧j≤LIM∧Q (.int (i.fdiv j)) σ
 | .mod=>asI a fun i=>asI b fun j=>0 < j∧j≤LIM∧Q (.int (i.fmod j)) σ
 | .pow=>asI a fun i=>asI b fun j=>i=10∧j=30∧Q (.int (10 ^ 30)) σ
noncomputable def augW (o:Op2) (a b:AV) (Q:AV→AH→Prop) (σ:AH):Prop:=match o with
 | .add=>asI a fun i=>asI b fun j=>Q (.int (i+j)) σ
 | .sub=>asI a fun i=>asI b fun j=>Q (.int (i - j)) σ
 | _=>False
noncomputable def setIO (a:Addr) (k:Int) (v:AV) (Q:AH→Prop) (σ:AH):AO→Prop
 | .list xs=>0≤k∧k < xs.length∧Q (σ.set a (.list (xs.set k.toNat v)))
 | .dict kvs ep=>kvs.length < LIM∧∀ ep',((kvs.any fun p=>decide (p.1=k))=true→ep'=ep)→Q (σ.set a (.dict (putD kvs k v) ep'))
 | _=>False
noncomputable def setIW (o i v:AV) (Q:AH→Prop) (σ:AH):Prop:=asR o fun a=>asI i fun k=>som (σ a) (setIO a k v Q σ)
noncomputable def asO (v:AV) (g:Addr→Addr→Prop):Prop:=match v with
 | .obj C dx=>g C dx
 | _=>False
noncomputable def isAtt (o:AO) (g:Addr→List (Str × AV)→Prop):Prop:=match o with
 | .attrs C fs=>g C fs
 | _=>False
inductive AttI (σ:AH) (v:AV) (g:Addr→Addr→List (Str × AV)→Prop):Prop
 | mk (C dx:Addr) (fs:List (Str × AV)):v=.obj C dx→σ dx=some (.attrs C fs)→g C dx fs→AttI σ v g
noncomputable def attAt (σ:AH) (v:AV) (g:Addr→Addr→List (Str × AV)→Prop):Prop:=asO v fun C dx=>som (σ dx) fun o=>isAtt o fun C' fs=>C'=C∧g C dx fs
theorem attAt_inv {σ:AH} {v:AV} {g:Addr→Addr→List (Str × AV)→Prop} (h:attAt σ v g):AttI σ v g:=by
 cases v with
 | obj C dx=>
  obtain ⟨o,ho,h⟩:=som_inv (o:=σ dx) h
  cases o with
  | attrs C' fs=>
   obtain ⟨e,h⟩:=h
   exact ⟨C,dx,fs,rfl,e ▸ ho,h⟩
  | _=>exact h.elim
 | _=>exact h.elim
theorem attAt_of {σ:AH} {C dx:Addr} {fs:List (Str × AV)} {g:Addr→Addr→List (Str × AV)→Prop} (h:σ dx=some (.attrs C fs)) (k:g C dx fs):attAt σ (.obj C dx) g:=
 som_of h ⟨rfl,k⟩
noncomputable def attrW (o:AV) (x:Str) (Q:AV→AH→Prop) (σ:AH):Prop:=attAt σ o fun C dx fs=>som (fs.lookup x) fun v=>Q v σ
noncomputable def setAW (Γ:Gam) (o:AV) (x:Str) (v:AV) (Q:AH→Prop) (σ:AH):Prop:=attAt σ o fun C dx fs=>Γ.attrOk C x=true∧fs.length < 1000∧Q (σ.set dx (.attrs C (putA fs x v)))
noncomputable def sortI (xs:List Int):List Int:=xs.mergeSort (fun a b=>decide (a≤b))
noncomputable def lenW (v:AV) (Q:AV→AH→Prop) (σ:AH):Prop:=match v with
 | .tup xs=>Q (.int xs.length) σ
 | .ref a=>som (σ a) fun o=>match o with
  | .list xs=>Q (.int xs.length) σ
  | .dict kvs _=>Q (.int kvs.length) σ
  | _=>False
 | _=>False
noncomputable def listW (v:AV) (Q:AV→AH→Prop) (σ:AH):Prop:=match v with
 | .tup xs=>freshW (.list xs) Q σ
 | .ref a=>lstAt (σ a) fun xs=>freshW (.list xs) Q σ
 | .rng lo hi=>(hi - lo).toNat≤LIM∧freshW (.list ((List.range (hi - lo).toNat).map fun (i:Nat)=>AV.int (lo+(i:Int)))) Q σ
 | _=>False
noncomputable def ic (is:List Int) (g:Int→List Int→Prop):Prop:=match is with
 | []=>False
 | i::r=>g i r
noncomputable def intsAt (σ:AH) (v:AV) (g:List Int→Prop):Prop:=asR v fun a=>som (itemsOf σ (.ref a)) fun xs=>som (intsOf xs) g
noncomputable def biW (f:BI) (vs:List AV) (Q:AV→AH→Prop) (σ:AH):Prop:=match f with
 | .len=>oneA vs fun v=>lenW v Q σ
 | .range=>cons1 vs fun v r=>asI v fun n=>match r with
  | []=>-LIM≤n∧n≤LIM∧Q (.rng 0 n) σ
  | u::r=>nil0 r (asI u fun b=>-LIM≤n∧n≤LIM∧-LIM≤b∧b≤LIM∧Q (.rng n b) σ)
 | .list=>oneA vs fun v=>listW v Q σ
 | .listRev=>oneA vs fun v=>asR v fun a=>lstAt (σ a) fun xs=>freshW (.list xs.reverse) Q σ
 | .tuple=>oneA vs fun v=>asR v fun a=>lstAt (σ a) fun xs=>Q (.tup xs) σ
 | .max=>oneA vs fun v=>intsAt σ v fun is=>ic is fun i r=>Q (.int (r.foldl max i)) σ
 | .min=>oneA vs fun v=>intsAt σ v fun is=>ic is fun i r=>Q (.int (r.foldl min i)) σ
 | .sorted=>oneA vs fun v=>intsAt σ v fun is=>is.length < 64∧freshW (.list ((sortI is).map .int)) Q σ
theorem ic_inv {is:List Int} {g:Int→List Int→Prop} (h:ic is g):IcI is g:=by
 cases is with
 | nil=>exact h.elim
 | cons i r=>exact ⟨i,r,rfl,h⟩
inductive IntsAtI (σ:AH) (v:AV) (g:List Int→Prop):Prop
 | mk (a:Addr) (xs:List AV) (is:List Int):v=.ref a→itemsOf σ (.ref a)=some xs→intsOf xs=some is→g is→IntsAtI σ v g
theorem intsAt_inv {σ:AH} {v:AV} {g:List Int→Prop} (h:intsAt σ v g):IntsAtI σ v g:=by
 obtain ⟨a,rfl,h⟩:=asR_inv h
 obtain ⟨xs,h1,h⟩:=som_inv h
 obtain ⟨is,h2,h⟩:=som_inv h
 exact ⟨a,xs,is,rfl,h1,h2,h⟩
theorem intsAt_of {σ:AH} {a:Addr} {xs:List AV} {is:List Int} {g:List Int→Prop} (h1:itemsOf σ (.ref a)=some xs) (h2:intsOf xs=some is) (k:g is):intsAt σ (.ref a) g:=
 som_of h1 (som_of h2 k)
noncomputable def bmL (f:BM) (a:Addr) (xs:List AV) (vs:List AV) (Q:AV→AH→Prop) (σ:AH):Prop:=match f with
 | .append=>oneA vs fun v=>xs.length < LIM∧Q .none (σ.set a (.list (xs++[v])))
 | .extendRev=>oneA vs fun v=>asT v fun ys=>xs.length+ys.length≤LIM∧Q .none (σ.set a (.list (xs++ys.reverse)))
 | .insert=>cons1 vs fun v r=>asI v fun k=>oneA r fun v=>0≤k∧k≤xs.length∧xs.length < LIM∧Q .none (σ.set a (.list (xs.take k.toNat++v::xs.drop k.toNat)))
 | .pop=>match vs with
  | []=>som xs.getLast? fun v=>Q v (σ.set a (.list xs.dropLast))
  | v::r=>nil0 r (asI v fun k=>k=0∧cons1 xs fun v r=>Q v (σ.set a (.list r)))
 | .reverse=>nil0 vs (Q .none (σ.set a (.list xs.reverse)))
 | _=>False
noncomputable def bmD (f:BM) (a:Addr) (kvs:List (Int × AV)) (vs:List AV) (Q:AV→AH→Prop) (σ:AH):Prop:=match f with
 | .get=>cons1 vs fun v r=>asI v fun k=>oneA r fun d=>Q ((kvs.lookup k).getD d) σ
 | .setdefault=>cons1 vs fun v r=>asI v fun k=>oneA r fun d=>kvs.length < LIM∧match kvs.lookup k with
  | some v=>Q v σ
  | Option.none=>∀ ep',Q d (σ.set a (.dict (kvs++[(k,d)]) ep'))
 | .pop=>oneA vs fun v=>asI v fun k=>som (kvs.lookup k) fun v=>∀ ep',Q v (σ.set a (.dict (kvs.filter fun p=>decide (p.1≠k)) ep'))
 | _=>False
noncomputable def bmA (f:BM) (a:Addr) (o:AO) (vs:List AV) (Q:AV→AH→Prop) (σ:AH):Prop:=match o with
 | .list xs=>bmL f a xs vs Q σ
 | .dict kvs _=>bmD f a kvs vs Q σ
 | _=>False
noncomputable def bmW (f:BM) (o:AV) (vs:List AV) (Q:AV→AH→Prop) (σ:AH):Prop:=asR o fun a=>som (σ a) fun ao=>bmA f a ao vs Q σ
theorem bm_inv {σ:AH} {f:BM} {a:Addr} {o:AO} {vs:List AV} {Q:AV→AH→Prop} (e:σ a=some o) (h:bmW f (.ref a) vs Q σ):bmA f a o vs Q σ:=by
 have h:som (σ a) fun ao=>bmA f a ao vs Q σ:=h
 rw [e] at h
 exact h
theorem bm_of {σ:AH} {f:BM} {a:Addr} {o:AO} {vs:List AV} {Q:AV→AH→Prop} (e:σ a=some o) (h:bmA f a o vs Q σ):bmW f (.ref a) vs Q σ:=som_of e h
noncomputable def bmOk (f:BM) (ao:AO):Prop:=match ao with
 | .list _=>f≠.get∧f≠.setdefault
 | .dict _ _=>f=.get∨f=.setdefault∨f=.pop
 | _=>False
noncomputable def sameK (o o':AO):Prop:=match o with
 | .list _=>isLst o' fun _=>True
 | .dict _ _=>(match o' with
  | .dict _ _=>True
  | _=>False)
 | _=>False
noncomputable def seqO (o:AO) (g:List AV→Prop):Prop:=match o with
 | .list xs=>g xs
 | .ro xs=>g xs
 | _=>False
noncomputable def slcW (v hi:AV) (Q:AV→AH→Prop) (σ:AH):Prop:=asR v fun a=>asI hi fun k=>som (σ a) fun o=>seqO o fun xs=>freshW (.list (if 0≤k then xs.take k.toNat else xs.take (k+xs.length).toNat)) Q σ
noncomputable def keysD (kvs:List (Int × AV)):List AV→Option (List (Int × Int))
 | []=>some []
 | .int i::r=>(kvs.lookup i).bind fun v=>v.int?.bind fun k=>(keysD kvs r).map fun ks=>(k,i)::ks
 | _::_=>Option.none
noncomputable def sortK (ks:List (Int × Int)):List Int:=(ks.mergeSort (fun a b=>decide (a.1≤b.1))).map (·.2)
noncomputable def srtW (v d:AV) (Q:AV→AH→Prop) (σ:AH):Prop:=asR v fun l=>asR d fun da=>som ((σ da).bind dicO) fun kvs=>som (itemsOf σ (.ref l)) fun xs=>som (keysD kvs xs) fun ks=>ks.length < 64∧(ks.map (·.1)).Nodup∧freshW (.list ((sortK ks).map .int)) Q σ
noncomputable def foldW {β:Type} (step:AV→β→(β→AH→Prop)→AH→Prop):List AV→β→(β→AH→Prop)→AH→Prop
 | [],b,Q,σ=>Q b σ
 | v::vs,b,Q,σ=>step v b (fun b' σ'=>foldW step vs b' Q σ') σ
mutual
noncomputable def pwpE (Γ:Gam):PE→Env'→(AV→AH→Prop)→AH→Prop
 | .lit v,_,Q,σ=>Q v σ
 | .var i,m,Q,σ=>som m[i]? fun o=>som o fun v=>Q v σ
 | .attr e x,m,Q,σ=>pwpE Γ e m (fun v σ=>attrW v x Q σ) σ
 | .idx e i,m,Q,σ=>pwpE Γ e m (fun v σ=>pwpE Γ i m (fun k σ=>som (idxW σ v k) fun r=>Q r σ) σ) σ
 | .slc e hi,m,Q,σ=>pwpE Γ e m (fun v σ=>pwpE Γ hi m (fun k σ=>slcW v k Q σ) σ) σ
 | .bin o a b,m,Q,σ=>pwpE Γ a m (fun v σ=>pwpE Γ b m (fun k σ=>binW o v k Q σ) σ) σ
 | .neg e,m,Q,σ=>pwpE Γ e m (fun v σ=>asI v fun i=>Q (.int (-i)) σ) σ
 | .cmp o a b,m,Q,σ=>pwpE Γ a m (fun v σ=>pwpE Γ b m (fun k σ=>som (cmpW o σ v k) fun r=>Q (.bool r) σ) σ) σ
 | .bop isAnd es,m,Q,σ=>pwpOp Γ isAnd es m Q σ
 | .not e,m,Q,σ=>pwpE Γ e m (fun v σ=>som (truthW σ v) fun b=>Q (.bool (!b)) σ) σ
 | .ite c a b,m,Q,σ=>pwpB Γ c m (fun t σ=>if t=true then pwpE Γ a m Q σ else pwpE Γ b m Q σ) σ
 | .tup es,m,Q,σ=>pwpEs Γ es m (fun vs σ=>vs.length≤LIM∧Q (.tup vs) σ) σ
 | .list es,m,Q,σ=>pwpEs Γ es m (fun vs σ=>vs.length≤LIM∧freshW (.list vs) Q σ) σ
 | .dict0,_,Q,σ=>freshW (.dict [] 0) Q σ
 | .call f es,m,Q,σ=>som (Γ.fn f) fun t=>pwpEs Γ es m (fun vs σ=>t vs Q σ) σ
 | .new f es,m,Q,σ=>som (Γ.cls f) fun p=>pwpEs Γ es m (fun vs σ=>∀ dx,σ dx=none→p.2 (.obj p.1 dx::vs) (fun r σ'=>r=.none∧Q (.obj p.1 dx) σ') (σ.set dx (.attrs p.1 []))) σ
 | .meth e f es,m,Q,σ=>pwpE Γ e m (fun o σ=>attAt σ o fun C dx fs=>som (Γ.mth C f) fun t=>fs.lookup f=none∧pwpEs Γ es m (fun vs σ=>t (.obj C dx::vs) Q σ) σ) σ
 | .bi f es,m,Q,σ=>pwpEs Γ es m (fun vs σ=>biW f vs Q σ) σ
 | .bm e f es,m,Q,σ=>pwpE Γ e m (fun o σ=>asR o fun a=>som (σ a) fun ao=>bmOk f ao∧pwpEs Γ es m (fun vs σ'=>som (σ' a) fun ao'=>sameK ao ao'∧bmA f a ao' vs Q σ') σ) σ
 | .comp elt iter cond,m,Q,σ=>pwpE Γ iter m (fun v σ₀=>som (itemsOf σ₀ v) fun xs=>xs.length≤LIM∧foldW (fun x acc K σ=>sameSrc σ₀ σ v∧pwpB Γ cond (m++[some x]) (fun b σ=>if b=true then pwpE Γ elt (m++[some x]) (fun y σ=>K (acc++[y]) σ) σ else K acc σ) σ)
       xs [] (fun acc σ=>sameSrc σ₀ σ v∧freshW (.list acc) Q σ) σ₀) σ
 | .srtD e d,m,Q,σ=>pwpE Γ e m (fun v σ=>som m[d]? fun o=>som o fun w=>srtW v w Q σ) σ
 | .repl e n,m,Q,σ=>pwpE Γ e m (fun v σ=>pwpE Γ n m (fun k σ=>asI k fun k=>0≤k∧k≤LIM∧freshW (.list (List.replicate k.toNat v)) Q σ) σ) σ
noncomputable def pwpB (Γ:Gam):PE→Env'→(Bool→AH→Prop)→AH→Prop
 | .not e,m,Q,σ=>pwpB Γ e m (fun b σ=>Q (!b) σ) σ
 | .bop isAnd es,m,Q,σ=>pwpAll Γ isAnd es m Q σ
 | .lit (.bool b),_,Q,σ=>Q b σ
 | .cmp o a b,m,Q,σ=>pwpE Γ a m (fun v σ=>pwpE Γ b m (fun k σ=>som (cmpW o σ v k) fun r=>Q r σ) σ) σ
 | .var i,m,Q,σ=>som m[i]? fun o=>som o fun v=>som (truthW σ v) fun b=>Q b σ
 | .attr e x,m,Q,σ=>pwpE Γ e m (fun v σ=>attrW v x (fun u σ=>som (truthW σ u) fun b=>Q b σ) σ) σ
 | .call f es,m,Q,σ=>som (Γ.fn f) fun t=>pwpEs Γ es m (fun vs σ=>t vs (fun u σ=>som (truthW σ u) fun b=>Q b σ) σ) σ
 | _,_,_,_=>False
noncomputable def pwpEs (Γ:Gam):PEs→Env'→(List AV→AH→Prop)→AH→Prop
 | .nil,_,Q,σ=>Q [] σ
 | .cons e es,m,Q,σ=>pwpE Γ e m (fun v σ=>pwpEs Γ es m (fun vs σ=>Q (v::vs) σ) σ) σ
noncomputable def pwpOp (Γ:Gam) (isAnd:Bool):PEs→Env'→(AV→AH→Prop)→AH→Prop
 | .nil,_,_,_=>False
 | .cons e .nil,m,Q,σ=>pwpE Γ e m Q σ
 | .cons e es,m,Q,σ=>pwpE Γ e m (fun v σ=>som (truthW σ v) fun b=>if b=isAnd then pwpOp Γ isAnd es m Q σ else Q v σ) σ
noncomputable def pwpAll (Γ:Gam) (isAnd:Bool):PEs→Env'→(Bool→AH→Prop)→AH→Prop
 | .nil,_,Q,σ=>Q isAnd σ
 | .cons e es,m,Q,σ=>pwpB Γ e m (fun b σ=>if b=isAnd then pwpAll Γ isAnd es m Q σ else Q b σ) σ
end
inductive AFl where
 | next
 | ret (v:AV)
noncomputable def whileW (C:Env'→(Bool→AH→Prop)→AH→Prop) (B:(AFl→Env'→AH→Prop)→Env'→AH→Prop):Nat→(AFl→Env'→AH→Prop)→Env'→AH→Prop
 | 0,_,_,_=>False
 | n+1,Q,m,σ=>C m (fun b σ=>if b=true then B (fun fl m σ=>match fl with
  | .next=>whileW C B n Q m σ
  | .ret v=>Q (.ret v) m σ) m σ else Q .next m σ) σ
noncomputable def asgs:List Nat→List AV→Env'→Env'
 | i::is,v::vs,m=>asgs is vs (m.set i (some v))
 | _,_,m=>m
noncomputable def tgts (t:List Nat) (single:Bool) (v:AV):Option (List AV):=
 if single=true then some [v] else match v with
  | .tup xs=>if xs.length=t.length then some xs else Option.none
  | _=>Option.none
noncomputable def forW (B:(AFl→Env'→AH→Prop)→Env'→AH→Prop) (t:List Nat) (single:Bool) (σ₀:AH) (src:AV):List AV→(AFl→Env'→AH→Prop)→Env'→AH→Prop
 | [],Q,m,σ=>sameSrc σ₀ σ src∧Q .next m σ
 | x::xs,Q,m,σ=>sameSrc σ₀ σ src∧som (tgts t single x) fun vs=>B (fun fl m σ=>match fl with
  | .next=>forW B t single σ₀ src xs Q m σ
  | .ret v=>Q (.ret v) m σ) (asgs t vs m) σ
noncomputable def pwpS (Γ:Gam):PS→(AFl→Env'→AH→Prop)→Env'→AH→Prop
 | .nop,Q,m,σ=>Q .next m σ
 | .seq a b,Q,m,σ=>pwpS Γ a (fun fl m σ=>match fl with
  | .next=>pwpS Γ b Q m σ
  | .ret v=>Q (.ret v) m σ) m σ
 | .expr e,Q,m,σ=>pwpE Γ e m (fun _ σ=>Q .next m σ) σ
 | .asg i e,Q,m,σ=>pwpE Γ e m (fun v σ=>Q .next (m.set i (some v)) σ) σ
 | .asgA o x e,Q,m,σ=>pwpE Γ e m (fun v σ=>pwpE Γ o m (fun ov σ=>setAW Γ ov x v (fun σ=>Q .next m σ) σ) σ) σ
 | .asgI o i e,Q,m,σ=>pwpE Γ e m (fun v σ=>pwpE Γ o m (fun ov σ=>pwpE Γ i m (fun iv σ=>setIW ov iv v (fun σ=>Q .next m σ) σ) σ) σ) σ
 | .asgT is e,Q,m,σ=>pwpE Γ e m (fun v σ=>asT v fun xs=>xs.length=is.length∧Q .next (asgs is xs m) σ) σ
 | .augV i op e,Q,m,σ=>som m[i]? fun o=>som o fun old=>pwpE Γ e m (fun v σ=>augW op old v (fun r σ=>Q .next (m.set i (some r)) σ) σ) σ
 | .augA o x op e,Q,m,σ=>pwpE Γ o m (fun ov σ=>attrW ov x (fun old σ=>pwpE Γ e m (fun v σ=>augW op old v (fun r σ=>setAW Γ ov x r (fun σ=>Q .next m σ) σ) σ) σ) σ) σ
 | .augI o i op e,Q,m,σ=>pwpE Γ o m (fun ov σ=>pwpE Γ i m (fun iv σ=>som (idxW σ ov iv) fun old=>pwpE Γ e m (fun v σ=>augW op old v (fun r σ=>setIW ov iv r (fun σ=>Q .next m σ) σ) σ) σ) σ) σ
 | .ifS c a b,Q,m,σ=>pwpB Γ c m (fun t σ=>if t=true then pwpS Γ a Q m σ else pwpS Γ b Q m σ) σ
 | .whl c b,Q,m,σ=>∃ n,whileW (fun m Q σ=>pwpB Γ c m Q σ) (fun Q m σ=>pwpS Γ b Q m σ) n Q m σ
 | .forS t single rev e b,Q,m,σ=>pwpE Γ e m (fun v σ₀=>som (itemsOf σ₀ v) fun xs=>(rev=true→∃ ys,v=.tup ys)∧(single=false→asR v fun a=>lstAt (σ₀ a) fun _=>True)∧forW (fun Q m σ=>pwpS Γ b Q m σ) t single σ₀ v (if rev=true then xs.reverse else xs) Q m σ₀) σ
 | .ret e,Q,m,σ=>pwpE Γ e m (fun v σ=>Q (.ret v) m σ) σ
structure Tab where
 gints:List (Str × Int)
 gfns:List Str
 gclss:List Str
 gmeths:List Str
 lam:Bool
structure Sc where
 vars:List Str
 kinds:List (Str × NameKind)
 code:Value
 qual:Str
noncomputable def varIdx:List Str→Str→Option Nat
 | [],_=>none
 | y::r,x=>match varIdx r x with
  | some i=>some (i+1)
  | none=>if y=x then some 0 else none
noncomputable def Sc.isVar (sc:Sc) (x:Str):Bool:=sc.kinds.lookup x == some .local || sc.kinds.lookup x == some .cell
noncomputable def Sc.isGlob (sc:Sc) (x:Str):Bool:=sc.kinds.lookup x == some .globalImplicit
noncomputable def Sc.var? (sc:Sc) (x:Str):Option Nat:=if sc.isVar x then varIdx sc.vars x else none
noncomputable def compC:Const→Option PE
 | .none=>some (.lit .none)
 | .bool b=>some (.lit (.bool b))
 | .int i=>some (.lit (.int i))
 | .str s=>some (.lit (.str s))
 | _=>none
noncomputable def compN (T:Tab) (sc:Sc) (x:Str):Option PE:=
 if sc.isGlob x then (T.gints.lookup x).map fun i=>.lit (.int i) else (sc.var? x).map .var
noncomputable def op2?:Operator→Option Op2
 | .Add=>some .add
 | .Sub=>some .sub
 | .Mult=>some .mul
 | .FloorDiv=>some .fdiv
 | .Mod=>some .mod
 | .Pow=>some .pow
 | _=>none
noncomputable def cm?:CmpOp→Option Cm
 | .Eq=>some .eq
 | .NotEq=>some .ne
 | .Lt=>some .lt
 | .LtE=>some .le
 | .Gt=>some .gt
 | .GtE=>some .ge
 | .In=>some .isin
 | .NotIn=>some .notin
 | _=>none
noncomputable def biT:List (Str × BI):=[(S "len",.len),(S "range",.range),(S "list",.list),(S "tuple",.tuple),(S "max",.max),(S "min",.min),(S "sorted",.sorted)]
noncomputable def bmT:List (Str × BM):=[(S "append",.append),(S "insert",.insert),(S "pop",.pop),(S "reverse",.reverse),(S "get",.get),(S "setdefault",.setdefault)]
noncomputable def find? {α:Type}:List (Str × α)→Str→Option α
 | [],_=>none
 | p::r,f=>if f=p.1 then some p.2 else find? r f
theorem find?_mem {α:Type} {x:α} {f:Str}:∀ {l:List (Str × α)},find? l f=some x→(f,x) ∈ l
 | p::r,h=>by
  have h':(if f=p.1 then some p.2 else find? r f)=some x:=h
  by_cases c:f=p.1
  · rw [if_pos c] at h'
    (injection h' with z0;subst z0)
    rw [c]
    exact .head _
  · rw [if_neg c] at h'
    exact .tail _ (find?_mem h')
noncomputable def bi? (f:Str):Option BI:=find? biT f
noncomputable def bm? (f:Str):Option BM:=find? bmT f
noncomputable def isStar:Expr→Bool
 | .Starred _ _=>true
 | _=>false
noncomputable def isName:Expr→Bool
 | .Name _ _=>true
 | _=>false
noncomputable def isNameCall:Expr→Bool
 | .Call f _ _ _=>isName f
 | _=>false
noncomputable def isTup:Expr→Bool
 | .Tuple _ _ _=>true
 | _=>false
noncomputable def nameOf:Expr→Option Str
 | .Name f _=>some f
 | _=>none
noncomputable def sliceOf:Expr→Option (Option Expr × Option Expr × Option Expr)
 | .Slice a b c _=>some (a,b,c)
 | _=>none
noncomputable def listOf:Expr→Option (List Expr)
 | .List es _=>some es
 | _=>none
noncomputable def one {α:Type}:List α→Option α
 | [x]=>some x
 | _=>none
noncomputable def isMult:Operator→Bool
 | .Mult=>true
 | _=>false
theorem isStar_ne {e:Expr} (h:isStar e=false):∀ x q,e≠.Starred x q:=by rintro x q rfl;injection h
theorem isNameCall_ne {e:Expr} (h:isNameCall e=false):∀ g p as ks q,e≠.Call (.Name g p) as ks q:=by rintro g p as ks q rfl;injection h
theorem isTup_ne {e:Expr} (h:isTup e=false):∀ a b c,e≠.Tuple a b c:=by rintro a b c rfl;injection h
theorem sliceOf_ne {e:Expr} (h:sliceOf e=none):∀ l u t p,e≠.Slice l u t p:=by rintro l u t p rfl;injection h
theorem sliceOf_some {e:Expr} {x:Option Expr × Option Expr × Option Expr} (h:sliceOf e=some x):∃ p,e=.Slice x.1 x.2.1 x.2.2 p:=by
 cases e <;> first | (cases h;exact ⟨_,rfl⟩) | injection h
theorem listOf_some {e:Expr} {x:List Expr} (h:listOf e=some x):∃ p,e=.List x p:=by
 cases e <;> first | (cases h;exact ⟨_,rfl⟩) | injection h
theorem nameOf_some {e:Expr} {x:Str} (h:nameOf e=some x):∃ p,e=.Name x p:=by
 cases e <;> first | (cases h;exact ⟨_,rfl⟩) | injection h
theorem one_some {α:Type} {l:List α} {x:α} (h:one l=some x):l=[x]:=by
 match l,h with
 | [y],h=>(injection h with z0;subst z0);rfl
theorem isMult_eq {o:Operator} (h:isMult o=true):o=.Mult:=by cases o <;> first | rfl | injection h
noncomputable def o2 {α β γ:Type} (f:α→β→γ) (a:Option α) (b:Option β):Option γ:=a.bind fun p=>b.map (f p)
noncomputable def o3 {α β γ δ:Type} (f:α→β→γ→δ) (a:Option α) (b:Option β) (c:Option γ):Option δ:=a.bind fun p=>o2 (f p) b c
inductive O2I {α β γ:Type} (f:α→β→γ) (a:Option α) (b:Option β) (r:γ):Prop
 | mk (p:α) (q:β):a=some p→b=some q→f p q=r→O2I f a b r
inductive O3I {α β γ δ:Type} (f:α→β→γ→δ) (a:Option α) (b:Option β) (c:Option γ) (r:δ):Prop
 | mk (p:α) (q:β) (s:γ):a=some p→b=some q→c=some s→f p q s=r→O3I f a b c r
inductive MapI {α β:Type} (f:α→β) (a:Option α) (r:β):Prop
 | mk (p:α):a=some p→f p=r→MapI f a r
theorem map_some {α β:Type} {f:α→β} {a:Option α} {r:β} (h:a.map f=some r):MapI f a r:=by
 cases a with
 | some p=>injection h with h;exact ⟨p,rfl,h⟩
 | none=>injection h
inductive BindI {α β:Type} (f:α→Option β) (a:Option α) (r:β):Prop
 | mk (p:α):a=some p→f p=some r→BindI f a r
theorem bind_some {α β:Type} {f:α→Option β} {a:Option α} {r:β} (h:a.bind f=some r):BindI f a r:=by
 cases a with
 | some p=>exact ⟨p,rfl,h⟩
 | none=>injection h
theorem o2_some {α β γ:Type} {f:α→β→γ} {a:Option α} {b:Option β} {r:γ} (h:o2 f a b=some r):O2I f a b r:=by
 obtain ⟨p,h1,h2⟩:=Option.bind_eq_some_iff.mp h
 obtain ⟨q,h3,h4⟩:=Option.map_eq_some_iff.mp h2
 exact ⟨p,q,h1,h3,h4⟩
theorem o3_some {α β γ δ:Type} {f:α→β→γ→δ} {a:Option α} {b:Option β} {c:Option γ} {r:δ} (h:o3 f a b c=some r):O3I f a b c r:=by
 obtain ⟨p,h1,h2⟩:=Option.bind_eq_some_iff.mp h
 obtain ⟨q,s,h3,h4,h5⟩:=o2_some h2
 exact ⟨p,q,s,h1,h3,h4,h5⟩
noncomputable def onlyIf {α:Type} (c:Bool) (x:Option α):Option α:=match c with
 | true=>x
 | false=>none
theorem onlyIf_some {α:Type} {c:Bool} {x:Option α} {r:α} (h:onlyIf c x=some r):c=true∧x=some r:=by
 cases c with
 | true=>exact ⟨rfl,h⟩
 | false=>injection h
noncomputable def orE {α β:Type} (a:Option α) (f:α→Option β) (g:Option β):Option β:=match a with
 | some x=>f x
 | none=>g
noncomputable def compL (r:Expr→Option PE):List Expr→Option PEs
 | []=>some .nil
 | e::es=>onlyIf (!isStar e) (o2 .cons (r e) (compL r es))
noncomputable def rev? (sc:Sc):Expr→Option Expr
 | .Call g args kws _=>(nameOf g).bind fun f=>onlyIf (decide (f=S "reversed") && sc.isGlob f && kws.isEmpty) ((one args).bind fun x=>onlyIf (!isStar x) (some x))
 | _=>none
noncomputable def lamPar:Arguments→Option Str
 | ⟨po,as,va,ko,kd,kw,df⟩=>onlyIf (po.isEmpty && va.isNone && ko.isEmpty && kd.isEmpty && kw.isNone && df.isEmpty) ((one as).bind fun a=>onlyIf a.annotation.isNone (some a.arg))
noncomputable def lamBod:Expr→Option (Str × Str)
 | .Subscript d k _=>o2 Prod.mk (nameOf d) (nameOf k)
 | _=>none
noncomputable def lamD? (sc:Sc):Expr→Option Nat
 | .Lambda ps b scope _=>(lamPar ps).bind fun k=>(lamBod b).bind fun x=>
  if k=S "k" ∧ x.1=S "homes" ∧ x.2=k∧(k == ("__debug__" : Str))=false∧(x.1 == ("__debug__" : Str))=false∧scope.kind=.function∧scope.names=[(k,.local),(x.1,.free)]∧(k == x.1)=false∧scope.isGenerator=false∧scope.isCoroutine=false∧sc.kinds.lookup x.1=some .cell then varIdx sc.vars x.1 else none
 | _=>none
noncomputable def compBi (sc:Sc) (r:Expr→Option PE) (f:Str) (args:List Expr):Option PE:=
 orE ((one args).bind (rev? sc)) (fun x=>onlyIf (decide (f=S "list")) ((r x).map fun p=>.bi .listRev (.cons p .nil))) (o2 .bi (bi? f) (compL r args))
noncomputable def compCall (T:Tab) (sc:Sc) (r:Expr→Option PE) (f:Str) (args:List Expr) (kws:List Keyword):Option PE:=
 onlyIf (sc.isGlob f) (match kws with
  | []=>(match T.gfns.contains f with
   | true=>(compL r args).map (.call f)
   | false=>(match T.gclss.contains f with
    | true=>(compL r args).map (.new f)
    | false=>compBi sc r f args))
  | k::ks=>onlyIf (decide (f=S "sorted" ∧ k.arg=some (S "key")∧T.lam=true) && ks.isEmpty) (o2 (fun p d=>.srtD p d) ((one args).bind fun a=>onlyIf (!isStar a) (r a)) (lamD? sc k.value)))
noncomputable def compMeth (T:Tab) (sc:Sc) (r:Expr→Option PE) (o:Expr) (f:Str) (apos pos:Pos) (args:List Expr):Option PE:=
 onlyIf ((apos.endLine == pos.line) && decide (args.length < 20)) (match T.gmeths.contains f with
  | true=>o2 (fun p ps=>.meth p f ps) (r o) (compL r args)
  | false=>orE ((one args).bind (rev? sc)) (fun x=>onlyIf (decide (f=S "extend")) (o2 (fun p q=>.bm p .extendRev (.cons q .nil)) (r o) (r x))) (o3 (fun b p ps=>.bm p b ps) (bm? f) (r o) (compL r args)))
noncomputable def relab (sc:Sc) (names:List (Str × NameKind)):List (Str × NameKind):=
 names.map fun (n,k)=>if (k == .free && (sc.kinds.lookup n == some .cell)) then (n,.cell) else (n,k)
noncomputable def compScope (sc:Sc) (x:Str) (scope:Scope):Option Sc:=
 if scope.kind=.function∧scope.names.lookup x=some .local∧(scope.names.all fun p=>p.2 != .cell && (p.2 != .free || sc.kinds.lookup p.1 == some .cell) && (p.2 != .local || p.1 == x || p.1 == (".0" : Str)) && (p.2 != .local || scope.names.lookup p.1 == some .local))=true∧(x == (".0" : Str))=false∧varIdx sc.vars (".0" : Str)=none
 then some ⟨sc.vars++[x],relab sc scope.names,sc.code,sc.qual⟩ else none
noncomputable def compSub (r:Expr→Option PE) (v s:Expr):Option PE:=
 orE (sliceOf s) (fun x=>onlyIf (x.1.isNone && x.2.2.isNone) (x.2.1.bind fun u=>o2 .slc (r v) (r u))) (o2 .idx (r v) (r s))
noncomputable def compBin (r:Expr→Option PE) (l:Expr) (o:Operator) (e:Expr):Option PE:=
 orE (onlyIf (isMult o) ((listOf l).bind one)) (fun x=>o2 .repl (r x) (r e)) (o3 .bin (op2? o) (r l) (r e))
noncomputable def compUn (r:Expr→Option PE) (o:UnaryOp) (x:Expr):Option PE:=match o with
 | .Not=>(r x).map .not
 | .USub=>(r x).map .neg
 | _=>none
noncomputable def compComp (r:Sc→Expr→Option PE) (sc:Sc) (elt:Expr) (gens:List Comprehension) (scope:Scope):Option PE:=
 (one gens).bind fun g=>onlyIf (decide (g.is_async=0)) ((nameOf g.target).bind fun x=>(compScope sc x scope).bind fun sc'=>
  (match g.ifs with
   | []=>o2 (fun p q=>.comp q p (.lit (.bool true))) (r sc g.iter) (r sc' elt)
   | c::cs=>onlyIf cs.isEmpty (o3 (fun p q cc=>.comp q p cc) (r sc g.iter) (r sc' elt) (r sc' c))))
noncomputable def compAny (T:Tab) (sc:Sc) (r:Expr→Option PE) (g:Expr) (args:List Expr) (kws:List Keyword) (pos:Pos):Option PE:=match g with
 | .Name f _=>onlyIf (!(f == ("__debug__" : Str))) (compCall T sc r f args kws)
 | .Attribute o f apos=>onlyIf (!isNameCall o && kws.isEmpty) (compMeth T sc r o f apos pos args)
 | _=>none
noncomputable def compE (T:Tab):Nat→Sc→Expr→Option PE
 | 0,_,_=>none
 | n+1,sc,e=>match e with
  | .Constant c _ _=>compC c
  | .Name x _=>onlyIf (!(x == ("__debug__" : Str))) (compN T sc x)
  | .Attribute v x _=>onlyIf (!isNameCall v) ((compE T n sc v).map fun p=>.attr p x)
  | .Subscript v s _=>compSub (compE T n sc) v s
  | .BinOp l o r _=>compBin (compE T n sc) l o r
  | .UnaryOp o x _=>compUn (compE T n sc) o x
  | .BoolOp o vs _=>(compL (compE T n sc) vs).map (.bop (o == .And))
  | .Compare l os rs _=>o3 .cmp ((one os).bind cm?) (compE T n sc l) ((one rs).bind (compE T n sc))
  | .IfExp c a b _=>o3 .ite (compE T n sc c) (compE T n sc a) (compE T n sc b)
  | .Tuple es _ _=>(compL (compE T n sc) es).map .tup
  | .List es _=>(compL (compE T n sc) es).map .list
  | .Dict ks vs _=>onlyIf (ks.isEmpty && vs.isEmpty) (some .dict0)
  | .Call g args kws pos=>compAny T sc (compE T n sc) g args kws pos
  | .ListComp elt gens scope _=>compComp (compE T n) sc elt gens scope
  | _=>none
noncomputable def isCompE:Expr→Bool
 | .ListComp ..=>true
 | _=>false
noncomputable def compScopeOf:Expr→List (Str × NameKind)
 | .ListComp _ _ sc _=>sc.names
 | _=>[]
noncomputable def compVars (sc:Sc):List Expr→Option (List Nat)
 | []=>some []
 | e::r=>o2 List.cons ((nameOf e).bind (sc.var? ·)) (compVars sc r)
noncomputable def swapOk (sc:Sc) (x:Str) (p:Pos) (e:Expr):Bool:=
 !isCompE e || (sc.kinds.lookup x == some .local && p.line == e.pos.line && !((compScopeOf e).any fun q=>q.1 == x && (q.2 == .local || q.2 == .cell)))
noncomputable def blkOf (r:Stmt→Option PS) (l:List Stmt):Option PS:=l.foldr (fun s acc=>o2 .seq (r s) acc) (some .nop)
noncomputable def compAsg (r:Expr→Option PE) (sc:Sc) (t e:Expr):Option PS:=match t with
 | .Name x p=>onlyIf (swapOk sc x p e) (o2 .asg (sc.var? x) (r e))
 | .Attribute o x _=>onlyIf (!isCompE e && !isNameCall o) (o2 (fun p q=>.asgA p x q) (r o) (r e))
 | .Subscript o i _=>onlyIf (!isCompE e && (sliceOf i).isNone) (o3 .asgI (r o) (r i) (r e))
 | .Tuple ts _ _=>onlyIf (!isCompE e && !isTup e) (o2 .asgT (compVars sc ts) (r e))
 | _=>none
noncomputable def compAug (r:Expr→Option PE) (sc:Sc) (t:Expr) (o:Operator) (e:Expr):Option PS:=match t with
 | .Name x _=>o3 .augV (sc.var? x) (op2? o) (r e)
 | .Attribute ob x _=>onlyIf (!isNameCall ob) (o3 (fun p op q=>.augA p x op q) (r ob) (op2? o) (r e))
 | .Subscript ob i _=>onlyIf (sliceOf i).isNone ((r ob).bind fun p=>o3 (fun k op q=>.augI p k op q) (r i) (op2? o) (r e))
 | _=>none
noncomputable def tgtOf (sc:Sc) (t:Expr):Option (List Nat × Bool):=match t with
 | .Name x _=>(sc.var? x).map fun i=>([i],true)
 | .Tuple ts _ _=>(compVars sc ts).map fun is=>(is,false)
 | _=>none
noncomputable def srcOf (r:Expr→Option PE) (sc:Sc) (iter:Expr):Option (Bool × PE):=orE (rev? sc iter) (fun x=>(r x).map fun p=>(true,p)) ((r iter).map fun p=>(false,p))
noncomputable def compFor (r:Expr→Option PE) (sc:Sc) (t iter:Expr) (b:Option PS):Option PS:=
 (tgtOf sc t).bind fun x=>(srcOf r sc iter).bind fun y=>b.bind fun q=>onlyIf (!y.1 || x.2) (some (.forS x.1 x.2 y.1 y.2 q))
noncomputable def compExp (r:Expr→Option PE) (e:Expr):Option PS:=match e with
 | .Call f as ks p=>(r (.Call f as ks p)).map .expr
 | _=>none
noncomputable def compS (T:Tab):Nat→Sc→Stmt→Option PS
 | 0,_,_=>none
 | n+1,sc,st=>match st with
  | .Expr e _=>compExp (compE T (n+1) sc) e
  | .Assign ts e _=>(one ts).bind fun t=>compAsg (compE T (n+1) sc) sc t e
  | .AugAssign t o e _=>compAug (compE T (n+1) sc) sc t o e
  | .If c a b _=>o3 .ifS (compE T (n+1) sc c) (blkOf (compS T n sc) a) (blkOf (compS T n sc) b)
  | .While c b el _=>onlyIf el.isEmpty (o2 .whl (compE T (n+1) sc c) (blkOf (compS T n sc) b))
  | .For tgt iter b el _=>onlyIf el.isEmpty (compFor (compE T (n+1) sc) sc tgt iter (blkOf (compS T n sc) b))
  | .Return e _=>e.bind fun e=>(compE T (n+1) sc e).map .ret
  | _=>none
noncomputable def compB (T:Tab) (n:Nat) (sc:Sc) (l:List Stmt):Option PS:=blkOf (compS T n sc) l
structure Base where
 prog:Program
 w:World
 K:Frag
 g:Heap
 os:OsState
 tab:Addr
 lamQ:Str
 isCls:Addr→Bool
 attrOk:Addr→Str→Bool
 mg:Str→Option Value
 mb:Str→Option Value
mutual
inductive VRel (B:Base) (h:Heap):AV→Value→Prop
 | none:VRel B h .none .none
 | bool (b):VRel B h (.bool b) (.bool b)
 | int (i t):VRel B h (.int i) (.int i t)
 | str (s t):VRel B h (.str s) (.str s t)
 | tup {a:Addr} {xs:List AV} {ys:List Value} {n:Nat}:h.get? a=some { cls:=.type "tuple",data:=.seq ys.toArray n }→xs.length≤LIM→VRels B h xs ys→VRel B h (.tup xs) (.ref a)
 | ref (a):VRel B h (.ref a) (.ref a)
 | obj {C dx a:Addr}:h.get? a=some (instObj C dx)→B.isCls C=true→VRel B h (.obj C dx) (.ref a)
 | rng {lo hi:Int} {a:Addr} {t u v:Tok}:IsRange h a lo hi 1 t u v→-LIM≤lo→lo≤LIM→-LIM≤hi→hi≤LIM→VRel B h (.rng lo hi) (.ref a)
inductive VRels (B:Base) (h:Heap):List AV→List Value→Prop
 | nil:VRels B h [] []
 | cons {x:AV} {v:Value} {xs:List AV} {vs:List Value}:VRel B h x v→VRels B h xs vs→VRels B h (x::xs) (v::vs)
end
noncomputable def Frozen (o:Obj):Prop:=((o.cls=.type "tuple" ∨ o.cls=.type "range" ∨ ∃ C,o.cls=.ref C)∨∃ vs q t,o.data=.fields vs∧vs[1]?=some (.str q t))∧(∀ es ep,o.data≠.dict es ep)∧∀ v,o.data≠.cell v
noncomputable def TExt (h h':Heap):Prop:=∀ a o,h.get? a=some o→Frozen o→h'.get? a=some o
theorem TExt.refl (h:Heap):TExt h h:=fun _ _ e _=>e
theorem TExt.trans {h h' h'':Heap} (x:TExt h h') (y:TExt h' h''):TExt h h'':=fun a o e f=>y a o (x a o e f) f
theorem TExt.of_keeps {h h':Heap} (k:∀ b o,h.get? b=some o→h'.get? b=some o):TExt h h':=fun a o e _=>k a o e
mutual
theorem VRel.mono {B:Base} {h h':Heap} (x:TExt h h'):∀ {u:AV} {v:Value},VRel B h u v→VRel B h' u v
 | _,_,.none=>.none
 | _,_,.bool b=>.bool b
 | _,_,.int i t=>.int i t
 | _,_,.str s t=>.str s t
 | _,_,.tup e l r=>.tup (x _ _ e ⟨.inl (.inl rfl),(fun _ _ q=>nomatch q),fun _ q=>nomatch q⟩) l (VRels.mono x r)
 | _,_,.ref a=>.ref a
 | _,_,.obj e c=>.obj (x _ _ e ⟨.inl (.inr (.inr ⟨_,rfl⟩)),(fun _ _ q=>nomatch q),fun _ q=>nomatch q⟩) c
 | _,_,.rng e a b c d=>.rng (x _ _ e ⟨.inl (.inr (.inl rfl)),(fun _ _ q=>nomatch q),fun _ q=>nomatch q⟩) a b c d
theorem VRels.mono {B:Base} {h h':Heap} (x:TExt h h'):∀ {u:List AV} {v:List Value},VRels B h u v→VRels B h' u v
 | _,_,.nil=>.nil
 | _,_,.cons a b=>.cons (VRel.mono x a) (VRels.mono x b)
end
theorem VRels.length {B:Base} {h:Heap}:∀ {xs:List AV} {vs:List Value},VRels B h xs vs→xs.length=vs.length
 | _,_,.nil=>rfl
 | _,_,.cons _ r=>by simp [r.length]
inductive SomV (B:Base) (h:Heap) (x:AV) (o:Option Value):Prop
 | mk (v:Value):o=some v→VRel B h x v→SomV B h x o
theorem VRels.get {B:Base} {h:Heap}:∀ {xs:List AV} {vs:List Value} {i:Nat} {x:AV},VRels B h xs vs→xs[i]?=some x→SomV B h x vs[i]?
 | _,_,_,_,.nil,e=>by simp at e
 | _,_,0,_,.cons a _,e=>by simp at e;subst e;exact ⟨_,rfl,a⟩
 | _,_,i+1,_,.cons _ r,e=>by simp at e;simpa using r.get e
theorem VRels.append {B:Base} {h:Heap}:∀ {xs ys:List AV} {vs ws:List Value},VRels B h xs vs→VRels B h ys ws→VRels B h (xs++ys) (vs++ws)
 | _,_,_,_,.nil,b=>b
 | _,_,_,_,.cons a r,b=>.cons a (r.append b)
theorem VRels.reverse {B:Base} {h:Heap}:∀ {xs:List AV} {vs:List Value},VRels B h xs vs→VRels B h xs.reverse vs.reverse
 | _,_,.nil=>.nil
 | _,_,.cons a r=>by simpa using r.reverse.append (.cons a .nil)
theorem VRels.take {B:Base} {h:Heap}:∀ {xs:List AV} {vs:List Value} (n:Nat),VRels B h xs vs→VRels B h (xs.take n) (vs.take n)
 | _,_,0,_=>by simpa using VRels.nil
 | _,_,n+1,.nil=>by simpa using VRels.nil
 | _,_,n+1,.cons a r=>by simpa using VRels.cons a (r.take n)
theorem VRels.drop {B:Base} {h:Heap}:∀ {xs:List AV} {vs:List Value} (n:Nat),VRels B h xs vs→VRels B h (xs.drop n) (vs.drop n)
 | _,_,0,r=>by simpa using r
 | _,_,n+1,.nil=>by simpa using VRels.nil
 | _,_,n+1,.cons _ r=>by simpa using r.drop n
theorem VRels.set {B:Base} {h:Heap} {x:AV} {v:Value} (q:VRel B h x v):∀ {xs:List AV} {vs:List Value} (n:Nat),VRels B h xs vs→VRels B h (xs.set n x) (vs.set n v)
 | _,_,_,.nil=>by simpa using VRels.nil
 | _,_,0,.cons _ r=>by simpa using VRels.cons q r
 | _,_,n+1,.cons a r=>by simpa using VRels.cons a (r.set q n)
inductive KRel (B:Base) (h:Heap):List (Int × AV)→List (Int × Value)→Prop
 | nil:KRel B h [] []
 | cons {k:Int} {x:AV} {v:Value} {xs vs}:VRel B h x v→KRel B h xs vs→KRel B h ((k,x)::xs) ((k,v)::vs)
theorem KRel.mono {B:Base} {h h':Heap} (x:TExt h h'):∀ {u v},KRel B h u v→KRel B h' u v
 | _,_,.nil=>.nil
 | _,_,.cons a b=>.cons (a.mono x) (b.mono x)
noncomputable def ARel (B:Base) (h:Heap):Option AV→Option Value→Prop
 | some x,some v=>VRel B h x v
 | Option.none,Option.none=>True
 | _,_=>False
theorem ARel.mono {B:Base} {h h':Heap} (x:TExt h h') {u:Option AV} {v:Option Value} (r:ARel B h u v):ARel B h' u v:=by
 cases u <;> cases v <;> first | exact VRel.mono x r | exact r
inductive ORL (B:Base) (h:Heap) (a:Addr) (xs:List AV):Prop
 | mk:xs.length≤LIM→∀ ys:List Value,h.PlainList a ys.toArray→VRels B h xs ys→ORL B h a xs
inductive ORR (B:Base) (h:Heap) (a:Addr) (xs:List AV):Prop
 | mk:xs.length≤LIM→∀ ys:List Value,h.IsList a ys.toArray→VRels B h xs ys→ORR B h a xs
inductive ORD (B:Base) (h:Heap) (a:Addr) (kvs:List (Int × AV)) (ep:Nat):Prop
 | mk:kvs.length≤LIM→∀ vs,h.DictAt (intKind B.prog B.w) a vs ep→KRel B h kvs vs→ORD B h a kvs ep
inductive ORA (B:Base) (h:Heap) (a:Addr) (C:Addr) (fs:List (Str × AV)):Prop
 | mk:(∀ p ∈ fs,B.attrOk C p.1=true)→h.DictLe a fs.length→∀ mm,h.Ns a mm→(∀ x,ARel B h (fs.lookup x) (mm x))→ORA B h a C fs
noncomputable def ORel (B:Base) (h:Heap) (a:Addr):AO→Prop
 | .list xs=>ORL B h a xs
 | .ro xs=>ORR B h a xs
 | .dict kvs ep=>ORD B h a kvs ep
 | .attrs C fs=>ORA B h a C fs
noncomputable def isRo:AO→Bool
 | .ro _=>true
 | _=>false
noncomputable def GOk (B:Base) (G:Addr→Option Obj) (a:Addr) (ao:AO):Prop:=if isRo ao=true then (B.g.get? a).isSome=true else G a=none
inductive TabOk (B:Base) (h:Heap) (o:Obj):Prop
 | mk (ps:Array Value):o=tabObj ps→TriplesOk ps.toList→(∀ pos cv,codeAmong pos ps.toList=some cv→h.CodeRec cv B.lamQ)→TabOk B h o
inductive TabAt (B:Base) (h:Heap):Prop
 | mk (o:Obj):h.get? B.tab=some o→TabOk B h o→TabAt B h
theorem TabOk.mono {B:Base} {h h':Heap} (x:TExt h h') {o:Obj} (t:TabOk B h o):TabOk B h' o:=by
 obtain ⟨ps,e,tr,q⟩:=t
 refine ⟨ps,e,tr,fun pos cv hc=>?_⟩
 obtain ⟨c,oc,vs,tt,e1,e2,e3,e4⟩:=q pos cv hc
 exact ⟨c,oc,vs,tt,e1,x _ _ e2 ⟨.inr ⟨vs,_,tt,e3,e4⟩,(fun _ _ z=>by rw [e3] at z;injection z),fun _ z=>by rw [e3] at z;injection z⟩,e3,e4⟩
structure St (B:Base) (G:Addr→Option Obj) (σ:AH) (s:Shared):Prop where
 base:∀ a o,B.g.get? a=some o→G a=some o
 keep:∀ a o,G a=some o→s.heap.get? a=some o
 objs:∀ a ao,σ a=some ao→ORel B s.heap a ao∧GOk B G a ao
 gens:s.gens=#[]
 os:s.os=B.os
 tab:TabAt B s.heap
 tabN:G B.tab=none∧σ B.tab=none
theorem IsList_not_frozen {h:Heap} {a:Addr} {ys:Array Value} (x:h.IsList a ys):∀ o,h.get? a=some o→¬ Frozen o:=by
 obtain ⟨o,e,c,n,dd⟩:=x
 intro o' e' f
 rw [e] at e';(injection e' with z0;subst z0)
 rcases f.1 with (f | f | ⟨C,f⟩) | ⟨vs,q,t,f,_⟩
 · rw [c] at f;simp at f
 · rw [c] at f;simp at f
 · rw [c] at f;simp at f
 · rw [dd] at f;injection f
theorem Ns_not_frozen {h:Heap} {a:Addr} {mm:Str→Option Value} (x:h.Ns a mm):∀ o,h.get? a=some o→¬ Frozen o:=by
 obtain ⟨o,es,ep,e,d,_⟩:=x
 intro o' e' f
 rw [e] at e';(injection e' with z0;subst z0)
 exact f.2.1 es ep d
theorem DictAt_not_frozen {prog:Program} {w:World} {h:Heap} {a:Addr} {vs:List (Int × Value)} {ep:Nat} (x:h.DictAt (intKind prog w) a vs ep):∀ o,h.get? a=some o→¬ Frozen o:=by
 obtain ⟨o,es,e,c,d,_⟩:=x
 intro o' e' f
 rw [e] at e';(injection e' with z0;subst z0)
 exact f.2.1 es ep d
theorem ORel.not_frozen {B:Base} {h:Heap} {a:Addr} {ao:AO} (x:ORel B h a ao):∀ o,h.get? a=some o→¬ Frozen o:=by
 cases ao with
 | list xs=>obtain ⟨_,ys,l,_⟩:=x;exact IsList_not_frozen l.isList
 | ro xs=>obtain ⟨_,ys,l,_⟩:=x;exact IsList_not_frozen l
 | dict kvs ep=>obtain ⟨_,vs,l,_⟩:=x;exact DictAt_not_frozen l
 | attrs C fs=>obtain ⟨_,_,mm,l,_⟩:=x;exact Ns_not_frozen l
theorem ORel.ex {B:Base} {h:Heap} {a:Addr} {ao:AO} (x:ORel B h a ao):∃ o,h.get? a=some o:=by
 cases ao with
 | list xs=>obtain ⟨_,ys,⟨n,l⟩,_⟩:=x;exact ⟨_,l⟩
 | ro xs=>obtain ⟨_,ys,⟨o,l,_⟩,_⟩:=x;exact ⟨o,l⟩
 | dict kvs ep=>obtain ⟨_,vs,⟨o,es,l,_⟩,_⟩:=x;exact ⟨o,l⟩
 | attrs C fs=>obtain ⟨_,_,mm,⟨o,es,ep,e,_⟩,_⟩:=x;exact ⟨_,e⟩
theorem ORel.keeps {B:Base} {h h':Heap} {a:Addr} {ao:AO} (x:ORel B h a ao) (k:∀ o,h.get? a=some o→h'.get? a=some o) (t:TExt h h'):ORel B h' a ao:=by
 cases ao with
 | list xs=>obtain ⟨n,ys,l,q⟩:=x;exact ⟨n,ys,l.at k,q.mono t⟩
 | ro xs=>obtain ⟨n,ys,⟨o,l,r⟩,q⟩:=x;exact ⟨n,ys,⟨o,k _ l,r⟩,q.mono t⟩
 | dict kvs ep=>obtain ⟨n,vs,⟨o,es,l,r⟩,q⟩:=x;exact ⟨n,vs,⟨o,es,k _ l,r⟩,q.mono t⟩
 | attrs C fs=>obtain ⟨z,le,mm,⟨o,es,ep,e,r⟩,q⟩:=x;exact ⟨z,le.of_same e (k _ e),mm,⟨o,es,ep,k _ e,r⟩,fun y=>(q y).mono t⟩
section
variable {B:Base} {G:Addr→Option Obj} {σ:AH} {s:Shared}
theorem get?_fresh (h:Heap) {a:Addr} (ha:h.objs.size≤a):h.get? a=none:=by
 cases e:h.get? a with
 | none=>rfl
 | some o=>exact absurd (Heap.lt_size e) (Nat.not_lt.mpr ha)
theorem St.lt (st:St B G σ s) {a:Addr} {ao:AO} (e:σ a=some ao):a < s.heap.objs.size:=let ⟨_,h⟩:=(st.objs a ao e).1.ex;Heap.lt_size h
theorem St.fresh (st:St B G σ s) {a:Addr} (ha:s.heap.objs.size≤a):σ a=none∧G a=none:=by
 constructor
 · cases e:σ a with
   | none=>rfl
   | some ao=>exact absurd (st.lt e) (Nat.not_lt.mpr ha)
 · cases e:G a with
   | none=>rfl
   | some o=>exact absurd (Heap.lt_size (st.keep a o e)) (Nat.not_lt.mpr ha)
theorem St.frame (st:St B G σ s) {a:Addr} {ao:AO} (e:σ a=some ao) (hr:isRo ao=false):G a=none:=by
 have:=(st.objs a ao e).2
 unfold GOk at this
 rwa [if_neg (by rw [hr];decide)] at this
theorem St.ne_tab (st:St B G σ s) {a:Addr} {ao:AO} (e:σ a=some ao):a≠B.tab:=fun q=>by rw [q,st.tabN.2] at e;injection e
theorem St.other (st:St B G σ s) {h':Heap} {t:Nat} (X:Addr→Prop) (hk:∀ b o,¬ X b→s.heap.get? b=some o→h'.get? b=some o)
 (hG:∀ b,X b→G b=none) (hσ:∀ b,X b→σ b=none) (hf:∀ b o,X b→s.heap.get? b=some o→¬ Frozen o) (ht:¬ X B.tab):
 St B G σ { s with heap:=h',toks:=t }∧TExt s.heap h':=by
 have tx:TExt s.heap h':=fun a o e f=>hk a o (fun x=>hf a o x e f) e
 refine ⟨⟨st.base,fun a o e=>hk a o (fun x=>?_) (st.keep a o e),fun a ao e=>⟨(st.objs a ao e).1.keeps (fun o e'=>hk a o (fun x=>?_) e') tx,(st.objs a ao e).2⟩,st.gens,st.os,?_,st.tabN⟩,tx⟩
 · rw [hG a x] at e;injection e
 · rw [hσ a x] at e;injection e
 · obtain ⟨o,e',p⟩:=st.tab;exact ⟨o,hk _ _ ht e',p.mono tx⟩
theorem St.keeps (st:St B G σ s) {h':Heap} {t:Nat} (hk:∀ b o,s.heap.get? b=some o→h'.get? b=some o):St B G σ { s with heap:=h',toks:=t }∧TExt s.heap h':=
 st.other (fun _=>False) (fun b o _ e=>hk b o e) (fun _ x=>x.elim) (fun _ x=>x.elim) (fun _ _ x=>x.elim) id
theorem St.toks (st:St B G σ s) {t:Nat}:St B G σ { s with toks:=t }:=(st.keeps (h':=s.heap) (fun _ _ e=>e)).1
theorem St.push (st:St B G σ s) (o:Obj) {t:Nat}:St B G σ { s with heap:=s.heap.push o,toks:=t }∧TExt s.heap (s.heap.push o):=st.keeps fun _ _ e=>Heap.get?_push_of_some o e
theorem St.upd (st:St B G σ s) {h':Heap} {t:Nat} {a:Addr} {ao ao':AO} (e:σ a=some ao) (hr:isRo ao=false) (hr':isRo ao'=false) (hk:∀ b o,b≠a→s.heap.get? b=some o→h'.get? b=some o)
 (ho:TExt s.heap h'→ORel B h' a ao'):St B G (σ.set a ao') { s with heap:=h',toks:=t }∧TExt s.heap h':=by
 have tx:TExt s.heap h':=fun b o e' f=>hk b o (fun x=>(st.objs a ao e).1.not_frozen o (x ▸ e') f) e'
 have hG:=st.frame e hr
 refine ⟨⟨st.base,fun b o e'=>hk b o (fun x=>?_) (st.keep b o e'),fun b bo e'=>?_,st.gens,st.os,?_,st.tabN.1,?_⟩,tx⟩
 · rw [x,hG] at e';injection e'
 · unfold AH.set at e'
   split at e'
   · rename_i q;(injection e' with z0;subst z0);subst q
     exact ⟨ho tx,by unfold GOk;rw [if_neg (by rw [hr'];decide)];exact hG⟩
   · rename_i q;exact ⟨(st.objs b bo e').1.keeps (fun o=>hk b o q) tx,(st.objs b bo e').2⟩
 · obtain ⟨o,e',p⟩:=st.tab;exact ⟨o,hk _ _ (fun x=>st.ne_tab e x.symm) e',p.mono tx⟩
 · unfold AH.set;rw [if_neg (fun x=>st.ne_tab e x.symm)];exact st.tabN.2
theorem St.fresh' (st:St B G σ s) {a:Addr} (ha:s.heap.get? a=none):σ a=none∧G a=none:=by
 constructor
 · cases e:σ a with
   | none=>rfl
   | some ao=>obtain ⟨o,h⟩:=(st.objs a ao e).1.ex;rw [ha] at h;injection h
 · cases e:G a with
   | none=>rfl
   | some o=>have h:=st.keep a o e;rw [ha] at h;injection h
theorem St.alloc' (st:St B G σ s) {h':Heap} {t:Nat} {a:Addr} {ao:AO} (ha:s.heap.get? a=none) (hr:isRo ao=false) (hk:∀ b o,s.heap.get? b=some o→h'.get? b=some o)
 (ho:TExt s.heap h'→ORel B h' a ao):St B G (σ.set a ao) { s with heap:=h',toks:=t }∧TExt s.heap h':=by
 have tx:TExt s.heap h':=.of_keeps hk
 have ⟨fσ,fG⟩:=st.fresh' ha
 have nt:B.tab≠a:=fun x=>by obtain ⟨o,e',_⟩:=st.tab;rw [x,ha] at e';injection e'
 refine ⟨⟨st.base,fun b o e'=>hk b o (st.keep b o e'),fun b bo e'=>?_,st.gens,st.os,?_,st.tabN.1,?_⟩,tx⟩
 · unfold AH.set at e'
   split at e'
   · rename_i q;(injection e' with z0;subst z0);subst q
     exact ⟨ho tx,by unfold GOk;rw [if_neg (by rw [hr];decide)];exact fG⟩
   · rename_i q;exact ⟨(st.objs b bo e').1.keeps (fun o=>hk b o) tx,(st.objs b bo e').2⟩
 · obtain ⟨o,e',p⟩:=st.tab;exact ⟨o,hk _ _ e',p.mono tx⟩
 · unfold AH.set;rw [if_neg nt];exact st.tabN.2
theorem St.alloc (st:St B G σ s) {h':Heap} {t:Nat} {a:Addr} {ao:AO} (ha:s.heap.objs.size≤a) (hr:isRo ao=false) (hk:∀ b o,s.heap.get? b=some o→h'.get? b=some o)
 (ho:TExt s.heap h'→ORel B h' a ao):St B G (σ.set a ao) { s with heap:=h',toks:=t }∧TExt s.heap h':=st.alloc' (get?_fresh _ ha) hr hk ho
inductive ProtI (B:Base) (G:Addr→Option Obj) (σ:AH) (s:Shared) (X:Addr→Prop):Prop
 | mk (G':Addr→Option Obj):(∀ a,X a→G' a=s.heap.get? a)→(∀ a,¬ X a→G' a=G a)→St B G' σ s→ProtI B G σ s X
theorem St.protect (st:St B G σ s) (X:Addr→Prop) (hσ:∀ a,X a→σ a=none) (ht:¬ X B.tab):ProtI B G σ s X:=by
 classical
 refine ⟨fun a=>if X a then s.heap.get? a else G a,fun a x=>if_pos x,fun a x=>if_neg x,?_,?_,?_,st.gens,st.os,st.tab,?_,st.tabN.2⟩
 · intro a o e
   by_cases x:X a
   · simp only [if_pos x];exact st.keep a o (st.base a o e)
   · simp only [if_neg x];exact st.base a o e
 · intro a o e
   by_cases x:X a
   · simpa only [if_pos x] using e
   · simp only [if_neg x] at e;exact st.keep a o e
 · intro a ao e
   refine ⟨(st.objs a ao e).1,?_⟩
   have:=(st.objs a ao e).2
   unfold GOk at this ⊢
   by_cases r:isRo ao=true
   · rwa [if_pos r] at this ⊢
   · rw [if_neg r] at this ⊢
     show (if X a then _ else _)=_
     rw [if_neg (fun x=>by rw [hσ a x] at e;injection e)];exact this
 · show (if X B.tab then _ else _)=_
   rw [if_neg ht];exact st.tabN.1
theorem St.unprotect {G':Addr→Option Obj} {σ':AH} {s':Shared} (st:St B G' σ' s') (hb:∀ a o,B.g.get? a=some o→G a=some o) (hk:∀ a o,G a=some o→G' a=some o):St B G σ' s':=
 ⟨hb,fun a o e=>st.keep a o (hk a o e),fun a ao e=>⟨(st.objs a ao e).1,by
  have:=(st.objs a ao e).2
  unfold GOk at this ⊢
  by_cases r:isRo ao=true
  · rwa [if_pos r] at this ⊢
  · rw [if_neg r] at this ⊢
    cases q:G a with
    | none=>rfl
    | some o=>rw [hk a o q] at this;injection this⟩,st.gens,st.os,st.tab,⟨(by
  cases q:G B.tab with
  | none=>rfl
  | some o=>(have:=st.tabN.1);(rw [hk _ o q] at this);(injection this)),st.tabN.2⟩⟩
theorem St.none_of_prot (st:St B G σ s) {a:Addr} {o:Obj} (e:G a=some o) (hb:B.g.get? a=none):σ a=none:=by
 cases q:σ a with
 | none=>rfl
 | some ao=>
  have:=(st.objs a ao q).2
  unfold GOk at this
  split at this
  · rw [hb] at this;injection this
  · rw [e] at this;injection this
theorem St.forget (st:St B G σ s) {σ':AH} (h:∀ a ao,σ' a=some ao→σ a=some ao):St B G σ' s:=
 ⟨st.base,st.keep,fun a ao e=>st.objs a ao (h a ao e),st.gens,st.os,st.tab,st.tabN.1,by
  cases q:σ' B.tab with
  | none=>rfl
  | some ao=>have:=h _ _ q;rw [st.tabN.2] at this;injection this⟩
end
structure BaseOk (B:Base):Prop where
 kin:B.K.In B.g
 gNs:B.g.Ns mainGlobals B.mg
 bNs:B.g.Ns builtinsNs B.mb
 nolimit:B.g.NoLimit
 builtins:∀ x:Str,x ≠ "__name__" → B.mb x=bootBuiltins x
 sys:(B.g.get? sysModules).isSome=true
 clsGet:∀ C x,B.isCls C=true→B.attrOk C x=true→plainGet B.K C x=true∧findIn B.K (.ref C) x=some none∧takerIn B.K C x=some none
 clsAll:∀ C,B.isCls C=true→hasDictIn B.K C=true∧findIn B.K (.ref C) "__setattr__" = some (some (.builtin "object.__setattr__"))∧plainOver B.K C=true
structure AOk (A:Around) (d:Nat):Prop where
 handled:A.handled=none
 depth:A.depth+d≤900
 units:A.units+30 * d≤9000
inductive Loads (env:Env) (G:Addr→Option Obj) (x:Str) (v:Value):Prop
 | inl:env.kindOf x=some .local→∀ o es ep,G env.locals=some o→o.data=.dict es ep→StrKeys es→nsFind es x=some v→Loads env G x v
 | inr:env.kindOf x=some .cell→∀ c o,env.cells.lookup x=some c→G c=some o→o.data=.cell (some v)→Loads env G x v
inductive VarAt (B:Base) (env:Env) (G:Addr→Option Obj) (h:Heap) (x:Str) (av:AV):Prop
 | mk (v:Value):VRel B h av v→Loads env G x v→VarAt B env G h x av
structure EnvOk (B:Base) (sc:Sc) (env:Env) (G:Addr→Option Obj) (h:Heap) (m:Env'):Prop where
 fn:env.scope.kind=.function
 kinds:env.scope.names=sc.kinds
 globals:env.globals=mainGlobals
 builtins:env.builtins=builtinsNs
 code:env.code=sc.code
 qual:env.qual=sc.qual
 len:m.length=sc.vars.length
 vars:∀ x i av,sc.isVar x=true→varIdx sc.vars x=some i→m[i]?=some (some av)→VarAt B env G h x av
 cells:∀ x,sc.kinds.lookup x=some .cell→∃ c,env.cells.lookup x=some c
theorem EnvOk.mono {B:Base} {sc:Sc} {env:Env} {G:Addr→Option Obj} {h h':Heap} {m:Env'} (e:EnvOk B sc env G h m) (t:TExt h h'):EnvOk B sc env G h' m:=
 ⟨e.fn,e.kinds,e.globals,e.builtins,e.code,e.qual,e.len,fun x i av a b c=>let ⟨v,r,l⟩:=e.vars x i av a b c;⟨v,r.mono t,l⟩,e.cells⟩
noncomputable abbrev WP {α:Type} (B:Base) (A:Around) (t:Sem α) (Q:α→Shared→Prop) (s:Shared):Prop:=wpAny (model B.prog B.w) A t Q (fun _ _=>False) s
inductive Post (B:Base) (G:Addr→Option Obj) (h:Heap) (Q:AV→AH→Prop) (v:Value) (s':Shared):Prop
 | mk (av:AV) (σ':AH):Q av σ'→VRel B s'.heap av v→St B G σ' s'→TExt h s'.heap→Post B G h Q v s'
inductive PostB (B:Base) (G:Addr→Option Obj) (h:Heap) (Q:Bool→AH→Prop) (b:Bool) (s':Shared):Prop
 | mk (σ':AH):Q b σ'→St B G σ' s'→TExt h s'.heap→PostB B G h Q b s'
inductive PostL (B:Base) (G:Addr→Option Obj) (h:Heap) (Q:List AV→AH→Prop) (vs:List Value) (s':Shared):Prop
 | mk (avs:List AV) (σ':AH):Q avs σ'→VRels B s'.heap avs vs→St B G σ' s'→TExt h s'.heap→PostL B G h Q vs s'
inductive PostU (B:Base) (G:Addr→Option Obj) (h:Heap) (Q:AH→Prop) (s':Shared):Prop
 | mk (σ':AH):Q σ'→St B G σ' s'→TExt h s'.heap→PostU B G h Q s'
theorem Post.up {B:Base} {G:Addr→Option Obj} {h h':Heap} {Q:AV→AH→Prop} {v:Value} {s':Shared} (t:TExt h h') (p:Post B G h' Q v s'):Post B G h Q v s':=
 let ⟨av,σ',a,b,c,e⟩:=p;⟨av,σ',a,b,c,t.trans e⟩
theorem PostB.up {B:Base} {G:Addr→Option Obj} {h h':Heap} {Q:Bool→AH→Prop} {v:Bool} {s':Shared} (t:TExt h h') (p:PostB B G h' Q v s'):PostB B G h Q v s':=
 let ⟨σ',a,c,e⟩:=p;⟨σ',a,c,t.trans e⟩
theorem PostL.up {B:Base} {G:Addr→Option Obj} {h h':Heap} {Q:List AV→AH→Prop} {v:List Value} {s':Shared} (t:TExt h h') (p:PostL B G h' Q v s'):PostL B G h Q v s':=
 let ⟨av,σ',a,b,c,e⟩:=p;⟨av,σ',a,b,c,t.trans e⟩
theorem PostU.up {B:Base} {G:Addr→Option Obj} {h h':Heap} {Q:AH→Prop} {s':Shared} (t:TExt h h') (p:PostU B G h' Q s'):PostU B G h Q s':=
 let ⟨σ',a,c,e⟩:=p;⟨σ',a,c,t.trans e⟩
structure Cfg (B:Base) (d:Nat) (sc:Sc) (env:Env) (G:Addr→Option Obj) (A:Around) (m:Env') (σ:AH) (s:Shared):Prop where
 a:AOk A (d+3)
 e:EnvOk B sc env G s.heap m
 st:St B G σ s
theorem Cfg.next {B:Base} {d:Nat} {sc:Sc} {env:Env} {G:Addr→Option Obj} {A:Around} {m:Env'} {σ σ':AH} {s s':Shared} (c:Cfg B d sc env G A m σ s) (st:St B G σ' s') (t:TExt s.heap s'.heap):Cfg B d sc env G A m σ' s':=
 ⟨c.a,c.e.mono t,st⟩
inductive RetI (B:Base) (G:Addr→Option Obj) (h:Heap) (Q:AV→AH→Prop) (r:Result) (s':Shared):Prop
 | mk (v:Value):r=.ok (.ret v)→Post B G h Q v s'→RetI B G h Q r s'
noncomputable def FnSound (B:Base) (d:Nat) (a:Addr) (t:Tr):Prop:=
 ∀ (A:Around) (G:Addr→Option Obj) (σ:AH) (Q:AV→AH→Prop) (s:Shared) (args:List AV) (vs:List Value),AOk A d→St B G σ s→VRels B s.heap args vs→t args Q σ→
  codeAny (model B.prog B.w) A (.call (.ref a) ⟨vs,[]⟩) (RetI B G s.heap Q) s
inductive FnI (B:Base) (d:Nat) (f:Str) (t:Tr):Prop
 | mk (a:Addr):nsIn B.K mainGlobals f=some (some (.ref a))→keepIn B.K (.ref a)=true→FnSound B d a t→FnI B d f t
inductive ClsI (B:Base) (d:Nat) (f:Str) (C:Addr) (t:Tr):Prop
 | mk:nsIn B.K mainGlobals f=some (some (.ref C))→keepIn B.K (.ref C)=true→B.isCls C=true→makesIn B.K C=true→
  ∀ a,findIn B.K (.ref C) "__init__" = some (some (.ref a))→typeIn B.K (.ref a)=some (.type "function")→FnSound B d a t→ClsI B d f C t
inductive MthI (B:Base) (d:Nat) (C:Addr) (f:Str) (t:Tr):Prop
 | mk:B.isCls C=true→plainGet B.K C f=true→∀ a,findIn B.K (.ref C) f=some (some (.ref a))→isFn B.K (.ref a)=true→keepIn B.K (.ref a)=true→FnSound B d a t→MthI B d C f t
structure GamOk (B:Base) (d:Nat) (T:Tab) (Γ:Gam):Prop where
 attr:Γ.attrOk=B.attrOk
 bi:∀ f,(bi? f).isSome=true∨f=S "reversed" → nsIn B.K mainGlobals f=some none
 gint:∀ x i,T.gints.lookup x=some i→∃ t,nsIn B.K mainGlobals x=some (some (.int i t))
 fn:∀ f t,Γ.fn f=some t→FnI B d f t
 cls:∀ f C t,Γ.cls f=some (C,t)→ClsI B d f C t
 mth:∀ C f t,Γ.mth C f=some t→MthI B d C f t
noncomputable def SoundV (B:Base) (d:Nat) (Γ:Gam) (sc:Sc) (e:Expr) (pe:PE):Prop:=
 ∀ (env:Env) (G:Addr→Option Obj) (A:Around) (m:Env') (σ:AH) (Q:AV→AH→Prop) (s:Shared),Cfg B d sc env G A m σ s→pwpE Γ pe m Q σ→WP B A (eval e env) (Post B G s.heap Q) s
noncomputable def SoundB (B:Base) (d:Nat) (Γ:Gam) (sc:Sc) (e:Expr) (pe:PE):Prop:=
 ∀ (env:Env) (G:Addr→Option Obj) (A:Around) (m:Env') (σ:AH) (Q:Bool→AH→Prop) (s:Shared),Cfg B d sc env G A m σ s→pwpB Γ pe m Q σ→WP B A (isTrue e env (eval e env)) (PostB B G s.heap Q) s
inductive ObjI (B:Base) (h:Heap) (C dx:Addr) (v:Value):Prop
 | mk (a:Addr):v=.ref a→h.get? a=some (instObj C dx)→B.isCls C=true→ObjI B h C dx v
section
variable {B:Base} {d:Nat} {T:Tab} {Γ:Gam} {sc:Sc} {env:Env} {G:Addr→Option Obj} {A:Around} {m:Env'} {σ:AH} {s:Shared}
theorem SoundV.bind {e:Expr} {pe:PE} (h:SoundV B d Γ sc e pe) (c:Cfg B d sc env G A m σ s) {Q:AV→AH→Prop} (hp:pwpE Γ pe m Q σ) {R:Value→Shared→Prop}
 (k:∀ v s' av σ',Q av σ'→VRel B s'.heap av v→Cfg B d sc env G A m σ' s'→TExt s.heap s'.heap→R v s'):WP B A (eval e env) R s:=
 wpAny_mono (h env G A m σ Q s c hp) (fun v s' ⟨av,σ',a,b,st,t⟩=>k v s' av σ' a b (c.next st t) t) fun _ _ x=>x
theorem SoundB.bind {e:Expr} {pe:PE} (h:SoundB B d Γ sc e pe) (c:Cfg B d sc env G A m σ s) {Q:Bool→AH→Prop} (hp:pwpB Γ pe m Q σ) {R:Bool→Shared→Prop}
 (k:∀ v s' σ',Q v σ'→Cfg B d sc env G A m σ' s'→TExt s.heap s'.heap→R v s'):WP B A (isTrue e env (eval e env)) R s:=
 wpAny_mono (h env G A m σ Q s c hp) (fun v s' ⟨σ',a,st,t⟩=>k v s' σ' a (c.next st t) t) fun _ _ x=>x
theorem St.K (hB:BaseOk B) (st:St B G σ s):B.K.In s.heap:=fun a o e=>st.keep a o (st.base a o (hB.kin a o e))
theorem St.keepg (st:St B G σ s):∀ b o,B.g.get? b=some o→s.heap.get? b=some o:=fun b o e=>st.keep b o (st.base b o e)
theorem loads_run (c:Cfg B d sc env G A m σ s) {x:Str} {v:Value} (l:Loads env G x v) {Q:Value→Shared→Prop} (h:Q v s):WP B A (loadName env x) Q s:=by
 rcases l with ⟨k,o,es,ep,g,hd,ks,f⟩ | ⟨k,a,o,cl,g,hd⟩
 · exact wpAny_loadName_local c.e.fn k ⟨o,es,ep,c.st.keep _ _ g,hd,ks,fun _=>rfl⟩ f h
 · exact wpAny_loadName_cell c.e.fn k cl ⟨o,c.st.keep _ _ g,hd⟩ h
theorem var_ld (c:Cfg B d sc env G A m σ s) {x:Str} {i:Nat} (hx:sc.var? x=some i) {Q:AV→AH→Prop} (hp:pwpE Γ (.var i) m Q σ):
 WP B A (loadName env x) (Post B G s.heap Q) s:=by
 obtain ⟨hv,hx⟩:=Option.ite_none_right_eq_some.mp hx
 obtain ⟨o,hm,hp⟩:=som_inv hp
 obtain ⟨av,rfl,hp⟩:=som_inv hp
 obtain ⟨v,r,l⟩:=c.e.vars x i av hv hx hm
 exact loads_run c l ⟨av,σ,hp,r,c.st,.refl _⟩
theorem sound_var {x:Str} {pos:Pos} {i:Nat} (hx:sc.var? x=some i) (hd:(x == ("__debug__" : Str))=false):SoundV B d Γ sc (.Name x pos) (.var i):=
 fun env G A m σ Q s c hp=>wpAny_Name (var_ld c hx hp) hd
theorem glob_ld (hB:BaseOk B) (c:Cfg B d sc env G A m σ s) {x:Str} {pos:Pos} {v:Value} (hx:sc.isGlob x=true) (hv:nsIn B.K mainGlobals x=some (some v)) (hd:(x == ("__debug__" : Str))=false)
 {Q:Value→Shared→Prop} (h:Q v s):WP B A (eval (.Name x pos) env) Q s:=by
 refine Calls.Name_function_global c.e.fn ?_ ?_ hd
 · show env.scope.names.lookup x=_
   rw [c.e.kinds];exact beq_iff_eq.mp hx
 · exact Calls.loadGlobal_global (mg:=B.mg) (by rw [c.e.globals];exact hB.gNs.keeps c.st.keepg) (mg_of hB.kin hB.gNs hv) h
theorem built_ld (hB:BaseOk B) (c:Cfg B d sc env G A m σ s) {x:Str} {pos:Pos} {v:Value} (hx:sc.isGlob x=true) (hv:nsIn B.K mainGlobals x=some none) (hb:bootBuiltins x=some v) (hn:x ≠ "__name__") (hd:(x == ("__debug__" : Str))=false)
 {Q:Value→Shared→Prop} (h:Q v s):WP B A (eval (.Name x pos) env) Q s:=by
 refine Calls.Name_function_global c.e.fn ?_ ?_ hd
 · show env.scope.names.lookup x=_
   rw [c.e.kinds];exact beq_iff_eq.mp hx
 · exact Calls.loadGlobal_builtin (mg:=B.mg) (mb:=B.mb) (by rw [c.e.globals];exact hB.gNs.keeps c.st.keepg) (mg_none_of hB.kin hB.gNs hv) (by rw [c.e.builtins];exact hB.bNs.keeps c.st.keepg) ((hB.builtins x hn).trans hb) h
theorem sound_gint (hB:BaseOk B) (hΓ:GamOk B d T Γ) {x:Str} {pos:Pos} {i:Int} (hx:sc.isGlob x=true) (hi:T.gints.lookup x=some i) (hd:(x == ("__debug__" : Str))=false):SoundV B d Γ sc (.Name x pos) (.lit (.int i)):=
 fun env G A m σ Q s c hp=>by
  obtain ⟨t,e⟩:=hΓ.gint x i hi
  exact glob_ld hB c hx e hd ⟨_,σ,hp,.int i t,c.st,.refl _⟩
theorem sound_lit {k:Const} {n:Nat} {pos:Pos} {pe:PE} (h:compC k=some pe):SoundV B d Γ sc (.Constant k n pos) pe:=by
 intro env G A m σ Q s c hp
 cases k with
 | none=>(injection h with z0;subst z0);exact wpAny_pure ⟨_,σ,hp,.none,c.st,.refl _⟩
 | bool b=>(injection h with z0;subst z0);exact wpAny_pure ⟨_,σ,hp,.bool b,c.st,.refl _⟩
 | int i=>(injection h with z0;subst z0);exact wpAny_mkInt ⟨_,σ,hp,.int i _,c.st.toks,.refl _⟩
 | str x=>(injection h with z0;subst z0);exact wpAny_mkText ⟨_,σ,hp,.str x _,c.st.toks,.refl _⟩
 | _=>injection h
theorem isStr_iff {v:Value} {x:Str}:v.isStr x=true↔∃ t,v=.str x t:=by
 cases v <;> simp [Value.isStr]
theorem lookIn_of_ns {o:Obj} {es:Array DictEntry} {ep:Nat} {x:Str} {v:Option Value} (hd:o.data=.dict es ep) (hk:StrKeys es) (hf:nsFind es x=v):lookIn x o=some v:=by
 unfold lookIn
 rw [hd]
 dsimp only
 unfold nsFind findBy at hf
 rw [← Array.find?_toList] at hf
 cases q:es.toList.find? (fun e=>e.key.isStr x) with
 | some e=>rw [q] at hf;subst hf;rfl
 | none=>
  rw [q] at hf;subst hf
  have:es.toList.any (·.refKey)=false:=by
   rw [List.any_eq_false]
   intro e he
   obtain ⟨n,t,e'⟩:=hk e (Array.mem_toList_iff.mp he)
   simp [DictEntry.refKey,e']
  simp [this]
theorem lookup_memA:∀ {fs:List (Str × AV)} {x:Str} {v:AV},fs.lookup x=some v→(x,v) ∈ fs
 | [],_,_,h=>by injection h
 | (y,u)::r,x,v,h=>by
  rw [List.lookup_cons] at h
  by_cases e:x=y
  · subst e
    rw [beq_self_eq_true] at h
    injection h with h
    exact h ▸ .head _
  · rw [beq_eq_false_iff_ne.mpr e] at h
    exact .tail _ (lookup_memA h)
theorem VRel.objI {h:Heap} {C dx:Addr} {v:Value} (r:VRel B h (.obj C dx) v):ObjI B h C dx v:=by
 cases r with
 | obj e c=>exact ⟨_,rfl,e,c⟩
theorem VRel.refI {h:Heap} {a:Addr} {v:Value} (r:VRel B h (.ref a) v):v=.ref a:=by cases r;rfl
theorem VRel.boolI {h:Heap} {i:Bool} {v:Value} (r:VRel B h (.bool i) v):v=.bool i:=by cases r;rfl
theorem handedIn_of {h:Heap} {av:AV} {v:Value} (r:VRel B h av v):handedIn v=true:=by cases r <;> rfl
theorem attr_op (hB:BaseOk B) (st:St B G σ s) {o:AV} {ov:Value} (r:VRel B s.heap o ov) {x:Str} {expr:Bool} {Q:AV→AH→Prop} (hp:attrW o x Q σ):
 WP B A (getAttr ov x expr) (Post B G s.heap Q) s:=by
 replace hp:=attAt_inv hp
 obtain ⟨C,dx,fs,rfl,hσ,hp⟩:=hp
 obtain ⟨av,hl,hp⟩:=som_inv hp
 obtain ⟨a,rfl,ho,hc⟩:=r.objI
 obtain ⟨hok,hle,mm,hn,hr⟩:=(st.objs _ _ hσ).1
 obtain ⟨od,es,ep,hod,hdd,hks,hf⟩:=hn
 have hx:=hr x
 rw [hl] at hx
 cases hm:mm x with
 | none=>rw [hm] at hx;exact hx.elim
 | some v=>
  rw [hm] at hx
  obtain ⟨g1,g2,_⟩:=hB.clsGet _ _ hc (hok _ (lookup_memA hl))
  obtain ⟨a1,_,_⟩:=hB.clsAll _ hc
  exact get_value (st.K hB) ⟨ho,rfl,rfl,hod⟩ (plainGet_of g1).1 (findObj_own a1 g2 rfl (lookIn_of_ns hdd hks ((hf x).trans hm))) (handedIn_of hx) ⟨av,σ,hp,hx,st.toks,.refl _⟩
theorem attributeBase_plain {o:Expr} {x:Str} {env:Env} {whole:Sem Value} (h:∀ f p as ks pos,o≠.Call (.Name f p) as ks pos):attributeBase o x env whole=whole:=by
 cases o with
 | Call f as ks pos=>cases f with
  | Name id p=>exact absurd rfl (h id p as ks pos)
  | _=>rfl
 | _=>rfl
theorem eval_Attr_plain {v:Expr} {x:Str} {pos:Pos} (h:∀ f p as ks pos,v≠.Call (.Name f p) as ks pos):eval (.Attribute v x pos) env=(do
      let o ← eval v env
      standAt pos.atName
      let r ← holding [o] (getAttr o x true)
      letTemporaryGo v o r
      pure r):=by
 show (do let o ← attributeBase v x env (eval v env);_)=_
 rw [attributeBase_plain h]
theorem sound_attr (hB:BaseOk B) {v:Expr} {x:Str} {pos:Pos} {p:PE} (hv:∀ f p as ks pos,v≠.Call (.Name f p) as ks pos) (ih:SoundV B d Γ sc v p):SoundV B d Γ sc (.Attribute v x pos) (.attr p x):=
 fun env G A m σ Q s c hp=>by
  refine Attribute_any_ (ih.bind c hp fun o s' av σ' q r c' t=>?_) (eval_Attr_plain hv)
  exact wpAny_mono (attr_op hB c'.st r q) (fun _ _ z=>z.up t) fun _ _ z=>z
theorem LIM_line {n:Nat} (h:n≤LIM):n≤sizeLine:=Nat.le_trans h (by decide)
theorem LIM_fit {n:Nat} (h:n≤LIM):(n:Int) < 2 ^ 63:=by unfold LIM at h;omega
theorem truth_op (st:St B G σ s) {o:AV} {v:Value} (r:VRel B s.heap o v) {b:Bool} (hb:truthW σ o=some b) {Q:Bool→Shared→Prop} (h:∀ t,Q b { s with toks:=t }):WP B A (truthy v) Q s:=by
 cases o with
 | bool b=>(injection hb with z0;subst z0);obtain rfl:=r.boolI;exact wpAny_truthy_bool (h s.toks)
 | ref a=>
  obtain ⟨xs,hx,hb⟩:=map_some (show ((σ a).bind listO).map _=some b from hb)
  obtain ⟨ao,hσ,hx⟩:=bind_some hx
  cases ao with
  | list zs=>
   injection hx with hx
   subst hx hb
   obtain rfl:=r.refI
   obtain ⟨hn,ys,hl',hr⟩:=(st.objs _ _ hσ).1
   have e:zs.isEmpty=ys.toArray.isEmpty:=by
    have:=hr.length
    cases zs <;> cases ys <;> first | rfl | injection this
   rw [e] at h
   exact wpAny_truthy_list hl'.isList (by rw [List.size_toArray,← hr.length];exact LIM_fit hn) (h _)
  | _=>injection hx
 | _=>injection hb
end
section
open PySem.SeqAt
section
variable {B:Base} {d:Nat} {T:Tab} {Γ:Gam} {sc:Sc} {env:Env} {G:Addr→Option Obj} {A:Around} {m:Env'} {σ:AH} {s:Shared}
inductive TupI (B:Base) (h:Heap) (xs:List AV) (v:Value):Prop
 | mk (a:Addr) (ys:List Value) (n:Nat):v=.ref a→h.get? a=some { cls:=.type "tuple",data:=.seq ys.toArray n }→xs.length≤LIM→VRels B h xs ys→TupI B h xs v
theorem VRel.tupI {h:Heap} {xs:List AV} {v:Value} (r:VRel B h (.tup xs) v):TupI B h xs v:=by
 cases r with
 | tup e l q=>exact ⟨_,_,_,rfl,e,l,q⟩
theorem VRel.intI {h:Heap} {i:Int} {v:Value} (r:VRel B h (.int i) v):∃ t,v=.int i t:=by cases r;exact ⟨_,rfl⟩
theorem VRel.strI {h:Heap} {i:Str} {v:Value} (r:VRel B h (.str i) v):∃ t,v=.str i t:=by cases r;exact ⟨_,rfl⟩
theorem VRel.noneI {h:Heap} {v:Value} (r:VRel B h .none v):v=.none:=by cases r;rfl
theorem KRel.keys {h:Heap}:∀ {kvs:List (Int × AV)} {vs:List (Int × Value)},KRel B h kvs vs→kvs.map (·.1)=vs.map (·.1)
 | _,_,.nil=>rfl
 | _,_,.cons _ r=>by simp [r.keys]
theorem KRel.len {h:Heap} {kvs:List (Int × AV)} {vs:List (Int × Value)} (r:KRel B h kvs vs):kvs.length=vs.length:=by simpa using congrArg List.length r.keys
theorem KRel.at {h:Heap} {k:Int}:∀ {kvs:List (Int × AV)} {vs:List (Int × Value)},KRel B h kvs vs→(∀ x,kvs.lookup k=some x→SomV B h x (valueAt vs k))∧(kvs.lookup k=none→valueAt vs k=none)
 | _,_,.nil=>⟨fun _ e=>by simp at e,fun _=>rfl⟩
 | _,_,.cons (k:=j) (xs:=xs) (vs:=vs) q r=>by
  have ih:=r.at (k:=k)
  by_cases h:k=j
  · subst h
    simp only [List.lookup_cons,beq_self_eq_true,valueAt,List.find?_cons,decide_true]
    exact ⟨fun x e=>by (injection e with z0;subst z0);exact ⟨_,rfl,q⟩,fun e=>by injection e⟩
  · have hb:(k == j)=false:=beq_eq_false_iff_ne.mpr h
    have hd:decide (j=k)=false:=decide_eq_false fun e=>h e.symm
    simp only [List.lookup_cons,hb,valueAt,List.find?_cons,hd] at ih ⊢
    exact ih
theorem KRel.has {h:Heap} {k:Int} {kvs:List (Int × AV)} {vs:List (Int × Value)} (r:KRel B h kvs vs):(kvs.any fun p=>decide (p.1=k))=(valueAt vs k).isSome:=by
 induction r with
 | nil=>rfl
 | @cons j x v xs vs q r ih=>
  by_cases h:j=k
  · simp [valueAt,h]
  · simp only [List.any_cons,decide_eq_false h,Bool.false_or,ih,valueAt,List.find?_cons]
theorem DictAt.dictOf' {prog:Program} {w:World} {h:Heap} {a:Addr} {vs:List (Int × Value)} {ep:Nat} (x:h.DictAt (intKind prog w) a vs ep):h.DictOf (intKind prog w) a vs:=
 let ⟨o,es,h1,h2,h3,r⟩:=x;⟨o,es,ep,h1,h2,h3,r⟩
theorem not_sys (hB:BaseOk B) (st:St B G σ s) {a:Addr} {ao:AO} (e:σ a=some ao) (hr:isRo ao=false):(a == sysModules)=false:=by
 rw [beq_eq_false_iff_ne]
 intro q
 obtain ⟨o,ho⟩:=Option.isSome_iff_exists.mp hB.sys
 have:=st.frame e hr
 rw [q,st.base _ _ ho] at this;injection this
theorem seqIdx_pos {k:Int} {n:Nat} (h0:0≤k) (h1:k.toNat < n):seqIndex? k n=some k.toNat:=by
 unfold seqIndex?
 have e:¬ k < 0:=by lia
 simp only [e,if_false]
 rw [if_pos (by simp;lia)]
theorem seqIdx_neg {k:Int} {n:Nat} (h0:k < 0) (h1:0≤k+n):seqIndex? k n=some (k+n).toNat:=by
 unfold seqIndex?
 simp only [h0,if_true]
 rw [if_pos (by simp;lia)]
theorem subs_plain {slice:Expr} (hs:∀ l u t p,slice≠.Slice l u t p) {o i:Value}:subscripted slice false o i=operate [o,i] (getItem o i):=by
 cases slice with
 | Slice l u t p=>exact absurd rfl (hs l u t p)
 | _=>rfl
theorem idx_op (hB:BaseOk B) (st:St B G σ s) {o i r:AV} {ov iv:Value} (ro:VRel B s.heap o ov) (ri:VRel B s.heap i iv) (h:idxW σ o i=some r) {Q:AV→AH→Prop} (hq:Q r σ) {value slice:Expr}
 (hs:∀ l u t p,slice≠.Slice l u t p):WP B A (subscriptTail value slice ov iv) (Post B G s.heap Q) s∧WP B A (getItem ov iv) (Post B G s.heap Q) s:=by
 have subs:=subs_plain hs (o:=ov) (i:=iv)
 have post:∀ {v t},VRel B s.heap r v→Post B G s.heap Q v { s with toks:=t }:=fun {v t} rv=>⟨_,σ,hq,rv,st.toks,.refl _⟩
 cases o with
 | tup xs=>
  replace h:=bind_some (show (i.int?.bind fun k=>pyIdx xs k)=some r from h)
  obtain ⟨k,hk,h⟩:=h
  obtain rfl:=int?_inv hk
  obtain ⟨a,ys,n,rfl,ha,hn,rr⟩:=ro.tupI
  obtain ⟨t,rfl⟩:=ri.intI
  have hlen:=rr.length
  have hfit:=LIM_fit hn
  have htup:IsTup s.heap a ys.toArray:=⟨_,ha,rfl,n,rfl⟩
  have key:WP B A (getItem (.ref a) (.int k t)) (Post B G s.heap Q) s:=by
   rcases pyIdx_inv h with ⟨hk,h⟩ | ⟨hk,hk',h⟩
   · obtain ⟨v,hv,rv⟩:=rr.get h
     have hlt:=(List.getElem?_eq_some_iff.mp hv).1
     exact getItem_tuple htup (j:=k.toNat) (by lia) (by lia) (seqIdx_pos hk (by rw [List.size_toArray];exact hlt)) (by rw [List.getElem?_toArray];exact hv) (post rv)
   · obtain ⟨v,hv,rv⟩:=rr.get h
     exact getItem_tuple htup (j:=(k+xs.length).toNat) (by lia) (by lia) (by rw [List.size_toArray,← hlen];exact seqIdx_neg (by lia) hk') (by rw [List.getElem?_toArray];exact hv) (post rv)
  exact ⟨tail_any htup.typeIs slot_tuple_getitem.lookup key subs,key⟩
 | ref a=>
  replace h:=bind_some (show (i.int?.bind fun k=>(σ a).bind (idxO k))=some r from h)
  obtain ⟨k,hk,h⟩:=h
  obtain rfl:=int?_inv hk
  obtain rfl:=ro.refI
  obtain ⟨t,rfl⟩:=ri.intI
  obtain ⟨ao,hσ,h⟩:=bind_some h
  cases ao with
  | list xs=>
   obtain ⟨hn,ys,hl',hr⟩:=(st.objs _ _ hσ).1
   have hl:=hl'.isList
   have hlen:=hr.length
   have:=LIM_fit hn
   have key:WP B A (getItem (.ref a) (.int k t)) (Post B G s.heap Q) s:=by
    rcases pyIdx_inv h with ⟨hk,h⟩ | ⟨hk,hk',h⟩
    · obtain ⟨v,hv,rv⟩:=hr.get h
      have hlt:=(List.getElem?_eq_some_iff.mp hv).1
      exact wpAny_getItem_list hl hk (by lia) (by rw [List.getElem?_toArray];exact hv) (post rv)
    · obtain ⟨v,hv,rv⟩:=hr.get h
      exact wpAny_getItem_list_neg hl (by lia) (by rw [List.size_toArray,← hlen];lia) (by lia) (by rw [List.size_toArray,← hlen,List.getElem?_toArray];exact hv) (post rv)
   exact ⟨tail_any hl.typeIs slot_list_getitem.lookup key subs,key⟩
  | dict kvs ep=>
   obtain ⟨hn,vs,hdct,hk⟩:=(st.objs _ _ hσ).1
   obtain ⟨v,hv,rv⟩:=hk.at.1 _ h
   have hm:=(DictAt.dictOf' hdct).mapOf
   have key:WP B A (getItem (.ref a) (.int k t)) (Post B G s.heap Q) s:=
    wpAny_getItem_of (intKind_is B.prog B.w k t) hm hv (post rv)
   exact ⟨tail_any hm.typeIs slot_dict_getitem.lookup key subs,key⟩
  | _=>injection h
 | _=>injection h
theorem flat_rel {h:Heap} {x y:AV} {v u:Value} {b:Bool} (rx:VRel B h x v) (ry:VRel B h y u) (e:flatEq x y=some b):∀ A s,EqAt A s v u b∧RcAt A s v u b∧RcNeAt A s v u (!b):=by
 intro A s
 cases x with
 | int i=>cases y with
  | int j=>
   obtain ⟨t,rfl⟩:=rx.intI;obtain ⟨t',rfl⟩:=ry.intI
   injection e with e
   subst e
   exact ⟨EqAt.int_int _ _ _ _,RcAt.int_int _ _ _ _,RcNeAt.int_int _ _ _ _⟩
  | _=>injection e
 | str i=>cases y with
  | str j=>
   obtain ⟨t,rfl⟩:=rx.strI;obtain ⟨t',rfl⟩:=ry.strI
   injection e with e
   subst e
   exact ⟨EqAt.str_str _ _ _ _,RcAt.str_str _ _ _ _,RcNeAt.str_str _ _ _ _⟩
  | _=>injection e
 | bool i=>cases y with
  | bool j=>
   obtain rfl:=rx.boolI;obtain rfl:=ry.boolI
   injection e with e
   subst e
   exact ⟨EqAt.bool_bool _ _,RcAt.bool_bool _ _,RcNeAt.bool_bool _ _⟩
  | _=>injection e
 | _=>injection e
inductive EqsI (vs us:List Value) (b:Bool):Prop
 | mk (e:Nat→Bool):(∀ A s j (h1:j < vs.length) (h2:j < us.length),EqAt A s vs[j] us[j] (e j))→(List.range vs.length).all e=b→EqsI vs us b
noncomputable def consF (a:Bool) (e:Nat→Bool) (j:Nat):Bool:=j.casesOn a e
theorem EqsI.cons {v u:Value} {vs us:List Value} {a b:Bool} (h:∀ A s,EqAt A s v u a) (k:EqsI vs us b):EqsI (v::vs) (u::us) (a && b):=by
 obtain ⟨e,h1,h2⟩:=k
 refine ⟨consF a e,fun A s j q1 q2=>?_,?_⟩
 · cases j with
   | zero=>exact h A s
   | succ j=>exact h1 A s j (Nat.lt_of_succ_lt_succ q1) (Nat.lt_of_succ_lt_succ q2)
 · rw [List.length_cons,List.range_succ_eq_map,List.all_cons,List.all_map,← h2];rfl
theorem EqsI.nil:EqsI [] [] true:=⟨fun _=>true,fun _ _ j h1=>absurd h1 (Nat.not_lt_zero _),rfl⟩
theorem flats_rel {h:Heap} {xs:List AV}:∀ {ys:List AV} {vs us:List Value} {b:Bool},VRels B h xs vs→VRels B h ys us→flatsEq xs ys=some b→EqsI vs us b:=by
 induction xs with
 | nil=>
  intro ys vs us b r r' e
  cases r
  cases r' with
  | nil=>injection e with e;exact e ▸ .nil
  | cons=>injection e
 | cons x xs ih=>
  intro ys vs us b r r' e
  cases r with
  | cons rx r=>
  cases r' with
  | nil=>injection e
  | cons ry r'=>
  obtain ⟨a,h1,e⟩:=bind_some e
  obtain ⟨c,h2,e⟩:=map_some e
  exact e ▸ (ih r r' h2).cons fun A s=>(flat_rel rx ry h1 A s).1
theorem intsOf_rel {h:Heap} {xs:List AV}:∀ {vs:List Value} {is:List Int},VRels B h xs vs→intsOf xs=some is→IntsAre vs is:=by
 induction xs with
 | nil=>
  intro vs is r e
  cases r
  injection e with e
  exact e ▸ .nil
 | cons x xs ih=>
  intro vs is r e
  cases r with
  | cons q r=>cases x with
   | int i=>
    obtain ⟨js,h1,rfl⟩:=map_some (show (intsOf xs).map (i::·)=some is from e)
    obtain ⟨t,rfl⟩:=q.intI
    exact .cons _ _ (ih r h1)
   | _=>injection e
end
section
variable {B:Base} {d:Nat} {T:Tab} {Γ:Gam} {sc:Sc} {env:Env} {G:Addr→Option Obj} {A:Around} {m:Env'} {σ:AH} {s:Shared}
theorem AOk.line (a:AOk A d):A.units+64 < cLine:=by have:=a.units;unfold cLine;lia
theorem AOk.line0 (a:AOk A d):A.units < cLine:=by have:=a.units;unfold cLine;omega
inductive ListAt (B:Base) (h:Heap) (a:Addr) (xs:List AV):Prop
 | mk (ys:List Value):h.IsList a ys.toArray→VRels B h xs ys→ListAt B h a xs
theorem list_at (st:St B G σ s) {a:Addr} {xs:List AV} (h:(σ a).bind listO=some xs):ListAt B s.heap a xs:=by
 obtain ⟨ao,hσ,h⟩:=bind_some h
 cases ao with
 | list zs=>
  injection h with h
  obtain ⟨_,ys,hl,r⟩:=(st.objs _ _ hσ).1
  exact h ▸ ⟨ys,hl.isList,r⟩
 | _=>injection h
theorem range_all_ints {vs us:List Value} {is js:List Int} (h:IntsAre vs is) (h':IntsAre us js):vs.length=us.length→EqsI vs us (decide (is=js)):=by
 induction h generalizing us js with
 | nil=>intro q;cases h' with
  | nil=>exact .nil
  | cons=>injection q
 | cons n t r ih=>intro q;cases h' with
  | nil=>injection q
  | cons k t' r'=>
   rw [show ∀ l l':List Int,decide (n::l=k::l')=((n == k) && decide (l=l')) from fun l l'=>by
    rw [show (n == k)=decide (n=k) from rfl,← Bool.decide_and]
    exact decide_eq_decide.mpr List.cons_eq_cons]
   exact (ih r' (Nat.succ.inj q)).cons fun A s=>EqAt.int_int n t k t'
theorem eq_rel (st:St B G σ s) {x y:AV} {v u:Value} {b:Bool} (rx:VRel B s.heap x v) (ry:VRel B s.heap y u) (e:eqW σ x y=some b) (a:AOk A d):RcAt A s v u b∧RcNeAt A s v u (!b):=by
 have flat:flatEq x y=some b→RcAt A s v u b∧RcNeAt A s v u (!b):=fun e=>(flat_rel rx ry e A s).2
 cases x with
 | tup xs=>cases y with
  | tup ys=>
   obtain ⟨hl,e⟩:=Option.ite_none_right_eq_some.mp (show (if xs.length=ys.length then flatsEq xs ys else none)=some b from e)
   obtain ⟨p,vs,n,rfl,hp,hn,rv⟩:=rx.tupI
   obtain ⟨q,us,n',rfl,hq,hn',ru⟩:=ry.tupI
   obtain ⟨f,h1,h2⟩:=flats_rel rv ru e
   have l1:=rv.length
   have l2:=ru.length
   have t1:s.heap.IsTuple p vs.toArray:=⟨_,hp,rfl,n,rfl⟩
   have t2:s.heap.IsTuple q us.toArray:=⟨_,hq,rfl,n',rfl⟩
   have hb:((List.range (min vs.toArray.size us.toArray.size)).all f && vs.toArray.size == us.toArray.size)=b:=by
    rw [List.size_toArray,List.size_toArray,show us.length=vs.length by lia,Nat.min_self,h2,beq_self_eq_true,Bool.and_true]
   exact ⟨hb ▸ RcAt.tuples t1 t2 a.line0 (h1 A.in1 s),hb ▸ RcNeAt.tuples t1 t2 a.line0 (h1 A.in1 s)⟩
  | _=>injection e
 | ref p=>cases y with
  | ref q=>
   obtain rfl:=rx.refI;obtain rfl:=ry.refI
   obtain ⟨xs,h1,e⟩:=bind_some (show (((σ p).bind listO).bind fun xs=>((σ q).bind listO).bind fun ys=>listsEq xs ys)=some b from e)
   obtain ⟨ys,h2,e⟩:=bind_some e
   obtain ⟨vs,hl,rv⟩:=list_at st h1
   obtain ⟨us,hl',ru⟩:=list_at st h2
   have l1:=rv.length
   have l2:=ru.length
   unfold listsEq at e
   by_cases hne:xs.length=ys.length
   · rw [if_neg fun q=>q hne] at e
     obtain ⟨is,i1,e⟩:=bind_some e
     obtain ⟨js,i2,rfl⟩:=map_some e
     have hlen:vs.length=us.length:=by lia
     obtain ⟨f,q1,q2⟩:=range_all_ints (intsOf_rel rv i1) (intsOf_rel ru i2) hlen
     rw [← q2]
     exact ⟨RcAt.lists hl hl' hlen a.line0 (q1 A.in1 s),RcNeAt.lists hl hl' hlen a.line0 (q1 A.in1 s)⟩
   · rw [if_pos hne] at e
     injection e with e
     subst e
     have hlen:(vs.toArray.size != us.toArray.size)=true:=bne_iff_ne.mpr (by rw [List.size_toArray,List.size_toArray];lia)
     exact ⟨RcAt.lists_lengths hl hl' hlen a.line0,RcNeAt.lists_lengths hl hl' hlen a.line0⟩
  | _=>injection e
 | _=>exact flat e
noncomputable def isS (x:Str) (y:Value):Bool:=match y with
 | .str z _=>z == x
 | _=>false
theorem inStrs_rel {h:Heap} {x:Str} {tk:Tok} {ys:List AV}:∀ {us:List Value} {b:Bool},VRels B h ys us→inStrs x ys=some b→(∀ A s,∀ y ∈ us,EqAt A s y (.str x tk) (isS x y))∧us.any (isS x)=b:=by
 induction ys with
 | nil=>
  intro us b r e
  cases r
  (injection e with e)
  exact ⟨(fun A s y hy=>nomatch hy),e⟩
 | cons y ys ih=>
  intro us b r e
  cases r with
  | cons q r=>cases y with
   | str z=>
    obtain ⟨b',h1,rfl⟩:=map_some (show (inStrs x ys).map (fun b=>decide (z=x) || b)=some b from e)
    obtain ⟨t,rfl⟩:=q.strI
    obtain ⟨g1,g2⟩:=ih r h1
    refine ⟨fun A s y hy=>?_,?_⟩
    · rcases List.mem_cons.mp hy with rfl | hy
      · exact EqAt.str_str z t x tk
      · exact g1 A s y hy
    · rw [List.any_cons,g2];rfl
   | _=>injection e
theorem in_rel (hB:BaseOk B) (st:St B G σ s) {x y:AV} {v u:Value} {b:Bool} (rx:VRel B s.heap x v) (ry:VRel B s.heap y u) (e:inW σ x y=some b) {Q:Value→Shared→Prop}:
 ((∀ t,Q (.bool b) { s with toks:=t })→WP B A (compareOp .In v u) Q s)∧((∀ t,Q (.bool (!b)) { s with toks:=t })→WP B A (compareOp .NotIn v u) Q s):=by
 cases x with
 | str x=>cases y with
  | tup ys=>
   obtain ⟨tk,rfl⟩:=rx.strI
   obtain ⟨q,us,n',rfl,hq,hn',ru⟩:=ry.tupI
   obtain ⟨h1,h2⟩:=inStrs_rel (tk:=tk) ru e
   have t2:s.heap.IsTuple q us.toArray:=⟨_,hq,rfl,n',rfl⟩
   have he:∀ y,y ∈ us.toArray→EqAt A.in1 s y (.str x tk) (isS x y):=fun y hy=>h1 _ _ y (List.mem_toArray.mp hy)
   have e2:us.toArray.any (isS x)=b:=by rw [List.any_toArray];exact h2
   exact ⟨fun h=>in_tupleAt (isS x) t2 he (by rw [e2];exact h s.toks),fun h=>notIn_tupleAt (isS x) t2 he (by rw [e2];exact h s.toks)⟩
  | _=>injection e
 | int k=>cases y with
  | ref a=>
   obtain ⟨t,rfl⟩:=rx.intI
   obtain rfl:=ry.refI
   obtain ⟨kvs',hd,rfl⟩:=map_some (show ((σ a).bind dicO).map (fun kvs=>kvs.any fun p=>decide (p.1=k))=some b from e)
   obtain ⟨ao,hσ,hd⟩:=bind_some hd
   cases ao with
   | dict kvs ep=>
    injection hd with hd
    subst hd
    obtain ⟨hn,vs,hd,hk⟩:=(st.objs _ _ hσ).1
    have hm:=(DictAt.dictOf' hd).mapOf
    have ns:=not_sys hB st hσ rfl
    rw [hk.has]
    exact ⟨fun h=>wpAny_in_of (intKind_is B.prog B.w k t) ns hm (h _),fun h=>wpAny_notIn_of (intKind_is B.prog B.w k t) ns hm (h _)⟩
   | _=>injection hd
  | _=>injection e
 | _=>injection e
theorem int2_rel {h:Heap} {x y:AV} {v u:Value} {f:Int→Int→Bool} {b:Bool} (rx:VRel B h x v) (ry:VRel B h y u) (e:int2W f x y=some b) {P:Value→Value→Bool→Prop} (k:∀ i t j t',P (.int i t) (.int j t') (f i j)):P v u b:=by
 replace e:=bind_some e
 obtain ⟨i,hi,e⟩:=e
 replace e:=map_some e
 obtain ⟨j,hj,e⟩:=e
 obtain rfl:=int?_inv hi
 obtain rfl:=int?_inv hj
 obtain ⟨t,rfl⟩:=rx.intI
 obtain ⟨t',rfl⟩:=ry.intI
 exact e ▸ k i t j t'
noncomputable def cmOp:Cm→CmpOp
 | .eq=>.Eq | .ne=>.NotEq | .lt=>.Lt | .le=>.LtE | .gt=>.Gt | .ge=>.GtE | .isin=>.In | .notin=>.NotIn
theorem cm?_op {o:CmpOp} {c:Cm} (h:cm? o=some c):o=cmOp c:=by cases o <;> cases h <;> rfl
theorem cmp_op (hB:BaseOk B) (a:AOk A d) (st:St B G σ s) {x y:AV} {v u:Value} {b:Bool} (rx:VRel B s.heap x v) (ry:VRel B s.heap y u) {o:Cm} (e:cmpW o σ x y=some b) {Q:Value→Shared→Prop}
 (h:∀ t,Q (.bool b) { s with toks:=t }):WP B A (compareOp (cmOp o) v u) Q s:=by
 cases o with
 | eq=>exact (eq_rel st rx ry e a).1 _ _ _ _ (h s.toks)
 | ne=>
  obtain ⟨b',h1,rfl⟩:=Option.map_eq_some_iff.mp e
  exact (eq_rel st rx ry h1 a).2 _ _ _ _ (h s.toks)
 | lt=>exact int2_rel rx ry e (P:=fun v u b=>(∀ t,Q (.bool b) { s with toks:=t })→WP B A (compareOp .Lt v u) Q s) (fun _ _ _ _ h=>lt_int (h s.toks)) h
 | le=>exact int2_rel rx ry e (P:=fun v u b=>(∀ t,Q (.bool b) { s with toks:=t })→WP B A (compareOp .LtE v u) Q s) (fun _ _ _ _ h=>le_int (h s.toks)) h
 | gt=>exact int2_rel rx ry e (P:=fun v u b=>(∀ t,Q (.bool b) { s with toks:=t })→WP B A (compareOp .Gt v u) Q s) (fun _ _ _ _ h=>gt_int (h s.toks)) h
 | ge=>exact int2_rel rx ry e (P:=fun v u b=>(∀ t,Q (.bool b) { s with toks:=t })→WP B A (compareOp .GtE v u) Q s) (fun _ _ _ _ h=>ge_int (h s.toks)) h
 | isin=>exact (in_rel hB st rx ry e).1 h
 | notin=>
  obtain ⟨b',h1,rfl⟩:=Option.map_eq_some_iff.mp e
  exact (in_rel hB st rx ry h1).2 h
theorem behind_of_comp {T:Tab} {n:Nat} {sc:Sc} {e:Expr} {pe:PE} {o:CmpOp} (h:compE T n sc e=some pe):behindInMarks o e=false:=by
 cases n with
 | zero=>injection h
 | succ n=>cases e <;> first | rfl | exact nomatch (show (none:Option PE)=some pe from h)
theorem sound_cmp (hB:BaseOk B) {o:CmpOp} {c:Cm} (ho:cm? o=some c) {l r:Expr} {pos:Pos} {pl pr:PE} (hl:SoundV B d Γ sc l pl) (hr:SoundV B d Γ sc r pr) (hm:behindInMarks o r=false):
 SoundV B d Γ sc (.Compare l [o] [r] pos) (.cmp c pl pr)∧SoundB B d Γ sc (.Compare l [o] [r] pos) (.cmp c pl pr):=by
 rw [cm?_op ho] at hm ⊢
 constructor
 · intro env G A m σ Q s c' hp
   refine wpAny_Compare1 (hl.bind c' hp fun v s₁ av σ₁ hp rv c₁ t₁=>hr.bind c₁ hp fun u s₂ au σ₂ hp ru c₂ t₂=>?_) hm
   obtain ⟨b,hb,hp⟩:=som_inv hp
   exact cmp_op hB c₂.a c₂.st (rv.mono t₂) ru hb fun t=>⟨_,σ₂,hp,.bool b,c₂.st.toks,t₁.trans t₂⟩
 · intro env G A m σ Q s c' hp
   refine wpAny_isTrue_Compare1 (hl.bind c' hp fun v s₁ av σ₁ hp rv c₁ t₁=>hr.bind c₁ hp fun u s₂ au σ₂ hp ru c₂ t₂=>?_) hm
   obtain ⟨b,hb,hp⟩:=som_inv hp
   exact cmp_op hB c₂.a c₂.st (rv.mono t₂) ru hb fun t=>wpAny_truthy_bool ⟨σ₂,hp,c₂.st.toks,t₁.trans t₂⟩
end
section
variable {B:Base} {d:Nat} {T:Tab} {Γ:Gam} {sc:Sc} {env:Env} {G:Addr→Option Obj} {A:Around} {m:Env'} {σ:AH} {s:Shared}
noncomputable def opOf:Op2→Operator
 | .add=>.Add | .sub=>.Sub | .mul=>.Mult | .fdiv=>.FloorDiv | .mod=>.Mod | .pow=>.Pow
theorem op2?_op {o:Operator} {c:Op2} (h:op2? o=some c):o=opOf c:=by cases o <;> cases h <;> rfl
theorem fresh_list (st:St B G σ s) {xs:List AV} {ys:List Value} (hn:xs.length≤LIM) (r:VRels B s.heap xs ys) {Q:AV→AH→Prop} (h:freshW (.list xs) Q σ) {t:Nat}:
 Post B G s.heap Q (.ref s.heap.objs.size) { s with heap:=s.heap.push { cls:=.type "list",data:=.seq ys.toArray },toks:=t }:=by
 obtain ⟨st',tx⟩:=st.alloc (t:=t) (h':=s.heap.push { cls:=.type "list",data:=.seq ys.toArray }) (a:=s.heap.objs.size) (ao:=.list xs) (Nat.le_refl _) rfl (fun b o e=>Heap.get?_push_of_some _ e)
  fun tx=>⟨hn,ys,⟨0,Heap.get?_push_size _ rfl⟩,r.mono tx⟩
 exact ⟨_,_,h _ (st.fresh (Nat.le_refl _)).1,.ref _,st',tx⟩
theorem bin_op (hB:BaseOk B) (st:St B G σ s) {x y:AV} {v u:Value} (rx:VRel B s.heap x v) (ry:VRel B s.heap y u) {o:Op2} {Q:AV→AH→Prop} (h:binW o x y Q σ):
 WP B A (binaryOp (opOf o) v u) (Post B G s.heap Q) s:=by
 cases o with
 | add=>
  cases x with
  | int i=>
   replace h:=asI_inv h;obtain ⟨j,rfl,h⟩:=h
   obtain ⟨t,rfl⟩:=rx.intI;obtain ⟨t',rfl⟩:=ry.intI
   exact add_int ⟨_,σ,h,.int _ _,st.toks,.refl _⟩
  | str x=>
   replace h:=asS_inv h;obtain ⟨y,rfl,h⟩:=h
   obtain ⟨t,rfl⟩:=rx.strI;obtain ⟨t',rfl⟩:=ry.strI
   obtain ⟨hn,h⟩:=h
   exact add_str (hsz:=LIM_line hn) fun t' tk=>⟨_,σ,h,.str _ _,st.toks,.refl _⟩
  | ref a=>
   replace h:=asR_inv h;obtain ⟨b,rfl,h⟩:=h
   obtain rfl:=rx.refI;obtain rfl:=ry.refI
   replace h:=lstAt_inv h;obtain ⟨xs,h1,h⟩:=h
   replace h:=lstAt_inv h;obtain ⟨ys,h2,h⟩:=h
   obtain ⟨hn,h⟩:=h
   obtain ⟨hn1,vs,hl,rv⟩:=(st.objs _ _ h1).1
   obtain ⟨hn2,us,hl',ru⟩:=(st.objs _ _ h2).1
   obtain ⟨⟨cls,dd,data,sl⟩,ho,hc,n,hd⟩:=hl.isList
   obtain ⟨⟨cls2,dd2,data2,sl2⟩,ho2,hc2,n2,hd2⟩:=hl'.isList
   simp only at hc hd hc2 hd2
   subst hc hd hc2 hd2
   have e:vs.toArray++us.toArray=(vs++us).toArray:=by simp
   have l1:=rv.length
   have l2:=ru.length
   refine concat_meets ⟨_,ho,rfl⟩ ⟨_,ho2,rfl⟩ noFill_list_add seq_list_add PySem.F.slot_list_add PySem.F.entry_list_add (PySem.F.args_list_add_2 _ _)
    (list_addW _ _ vs.toArray us.toArray n n2 dd dd2 sl sl2 (by have:=LIM_line hn;simpa [← l1,← l2] using this)) ⟨ho,ho2,?_⟩
   rw [e]
   exact fresh_list (ys:=vs++us) st (by simpa using hn) (rv.append ru) h
  | _=>exact h.elim
 | sub=>
  replace h:=intsI_inv h;obtain ⟨i,j,rfl,rfl,h⟩:=h
  obtain ⟨t,rfl⟩:=rx.intI;obtain ⟨t',rfl⟩:=ry.intI
  exact sub_int ⟨_,σ,h,.int _ _,st.toks,.refl _⟩
 | mul=>
  replace h:=intsI_inv h;obtain ⟨i,j,rfl,rfl,h⟩:=h
  obtain ⟨t,rfl⟩:=rx.intI;obtain ⟨t',rfl⟩:=ry.intI
  obtain ⟨h1,h2,h⟩:=h
  refine mul_int (hm:=IntMulOk.of_left ?_) ⟨_,σ,h,.int _ _,st.toks,.refl _⟩
  unfold Builtin.Int.intBits
  unfold LIM at h1
  have:i.natAbs.log2 < 20:=by
   rcases Nat.eq_zero_or_pos i.natAbs with q | q
   · rw [q];decide
   · exact (Nat.log2_lt (by lia)).mpr (by lia)
  by_cases c:(i == 0)=true
  · rw [if_pos c];decide
  · rw [if_neg c];lia
 | fdiv=>
  replace h:=intsI_inv h;obtain ⟨i,j,rfl,rfl,h⟩:=h
  obtain ⟨t,rfl⟩:=rx.intI;obtain ⟨t',rfl⟩:=ry.intI
  obtain ⟨h1,h2,h⟩:=h
  exact floordiv_int (by lia) ⟨_,σ,h,.int _ _,st.toks,.refl _⟩ (.inl (PyProof.noPylong_small (by unfold LIM at h2;lia)))
 | mod=>
  replace h:=intsI_inv h;obtain ⟨i,j,rfl,rfl,h⟩:=h
  obtain ⟨t,rfl⟩:=rx.intI;obtain ⟨t',rfl⟩:=ry.intI
  obtain ⟨h1,h2,h⟩:=h
  exact mod_int' (by lia) ⟨_,σ,h,.int _ _,st.toks,.refl _⟩
 | pow=>
  replace h:=intsI_inv h;obtain ⟨i,j,rfl,rfl,h⟩:=h
  obtain ⟨t,rfl⟩:=rx.intI;obtain ⟨t',rfl⟩:=ry.intI
  obtain ⟨h1,h2,h3⟩:=h
  subst h1 h2
  exact pow_int (by decide) (by decide +kernel) ⟨_,σ,h3,.int _ _,st.toks,.refl _⟩
theorem aug_op (st:St B G σ s) {x y:AV} {v u:Value} (rx:VRel B s.heap x v) (ry:VRel B s.heap y u) {o:Op2} {Q:AV→AH→Prop} (h:augW o x y Q σ):
 WP B A (inplaceOp (opOf o) v u) (Post B G s.heap Q) s:=by
 cases o with
 | add=>
  replace h:=intsI_inv h;obtain ⟨i,j,rfl,rfl,h⟩:=h
  obtain ⟨t,rfl⟩:=rx.intI;obtain ⟨t',rfl⟩:=ry.intI
  exact iadd_int ⟨_,σ,h,.int _ _,st.toks,.refl _⟩
 | sub=>
  replace h:=intsI_inv h;obtain ⟨i,j,rfl,rfl,h⟩:=h
  obtain ⟨t,rfl⟩:=rx.intI;obtain ⟨t',rfl⟩:=ry.intI
  exact isub_int ⟨_,σ,h,.int _ _,st.toks,.refl _⟩
 | _=>exact h.elim
theorem sound_bin (hB:BaseOk B) {o:Operator} {c:Op2} (ho:op2? o=some c) {l r:Expr} {pos:Pos} {pl pr:PE} (hl:SoundV B d Γ sc l pl) (hr:SoundV B d Γ sc r pr):SoundV B d Γ sc (.BinOp l o r pos) (.bin c pl pr):=by
 rw [op2?_op ho]
 intro env G A m σ Q s c' hp
 exact wpAny_BinOp (hl.bind c' hp fun v s₁ av σ₁ hp rv c₁ t₁=>hr.bind c₁ hp fun u s₂ au σ₂ hp ru c₂ t₂=>
  wpAny_mono (bin_op hB c₂.st (rv.mono t₂) ru hp) (fun _ _ z=>z.up (t₁.trans t₂)) fun _ _ z=>z)
theorem sound_neg {x:Expr} {pos:Pos} {p:PE} (hx:SoundV B d Γ sc x p):SoundV B d Γ sc (.UnaryOp .USub x pos) (.neg p):=by
 intro env G A m σ Q s c' hp
 refine wpAny_UnaryOp (hx.bind c' hp fun v s₁ av σ₁ hp rv c₁ t₁=>?_)
 replace hp:=asI_inv hp
 obtain ⟨i,rfl,hp⟩:=hp
 obtain ⟨t,rfl⟩:=rv.intI
 exact neg_int ⟨_,σ₁,hp,.int _ _,c₁.st.toks,t₁⟩
theorem sound_not {x:Expr} {pos:Pos} {p:PE} (hx:SoundV B d Γ sc x p) (hxb:SoundB B d Γ sc x p):SoundV B d Γ sc (.UnaryOp .Not x pos) (.not p)∧SoundB B d Γ sc (.UnaryOp .Not x pos) (.not p):=by
 constructor
 · intro env G A m σ Q s c' hp
   refine wpAny_UnaryOp (hx.bind c' hp fun v s₁ av σ₁ hp rv c₁ t₁=>?_)
   obtain ⟨b,hb,hp⟩:=som_inv hp
   exact not_of (truth_op c₁.st rv hb fun t=>⟨_,σ₁,hp,.bool _,c₁.st.toks,t₁⟩)
 · intro env G A m σ Q s c' hp
   exact wpAny_bind (hxb.bind c' hp fun b s₁ σ₁ hp c₁ t₁=>wpAny_pure ⟨σ₁,hp,c₁.st,t₁⟩)
theorem sound_ite {ce a b:Expr} {pos:Pos} {pc pa pb:PE} (hc:SoundB B d Γ sc ce pc) (ha:SoundV B d Γ sc a pa) (hb:SoundV B d Γ sc b pb):SoundV B d Γ sc (.IfExp ce a b pos) (.ite pc pa pb):=by
 intro env G A m σ Q s c' hp
 refine wpAny_IfExp (hc.bind c' hp fun t s₁ σ₁ hp c₁ t₁=>?_)
 cases t with
 | true=>exact wpAny_mono (ha _ _ _ _ _ _ _ c₁ ((if_pos rfl).mp hp)) (fun _ _ z=>z.up t₁) fun _ _ z=>z
 | false=>exact wpAny_mono (hb _ _ _ _ _ _ _ c₁ ((if_neg Bool.false_ne_true).mp hp)) (fun _ _ z=>z.up t₁) fun _ _ z=>z
inductive SoundL (B:Base) (d:Nat) (Γ:Gam) (sc:Sc):List Expr→PEs→Prop
 | nil:SoundL B d Γ sc [] .nil
 | cons {e:Expr} {es:List Expr} {p:PE} {ps:PEs}:(∀ x q,e≠.Starred x q)→SoundV B d Γ sc e p→SoundB B d Γ sc e p→SoundL B d Γ sc es ps→SoundL B d Γ sc (e::es) (.cons p ps)
theorem starEach_cons {e:Expr} {es:List Expr} {env:Env} (h:∀ x q,e≠.Starred x q):starEach (e::es) env=(false,eval e env)::starEach es env:=by
 cases e <;> first | rfl | exact absurd rfl (h _ _)
theorem backTo_cons {pos:Pos} {t:Sem Value} {r:List (Bool × Sem Value)}:backTo pos ((false,t)::r)=(false,t)::backTo pos r:=rfl
theorem soundL_plain {es:List Expr} {ps:PEs} (h:SoundL B d Γ sc es ps) {pos:Pos} {env:Env}:(backTo pos (starEach es env)).any (·.1)=false:=by
 induction h with
 | nil=>rfl
 | cons hs _ _ _ ih=>rw [starEach_cons hs,backTo_cons,List.any_cons,ih];rfl
theorem soundL_spliced {es:List Expr} {ps:PEs} (h:SoundL B d Γ sc es ps) {pos:Pos}:∀ (env:Env) (G:Addr→Option Obj) (A:Around) (m:Env') (σ:AH) (Q:List AV→AH→Prop) (s:Shared),Cfg B d sc env G A m σ s→pwpEs Γ ps m Q σ→
 WP B A (spliced (backTo pos (starEach es env))) (PostL B G s.heap Q) s:=by
 induction h with
 | nil=>intro env G A m σ Q s c hp;exact Calls.spliced_nil ⟨[],σ,hp,.nil,c.st,.refl _⟩
 | cons hs hv _ _ ih=>
  intro env G A m σ Q s c hp
  rw [starEach_cons hs,backTo_cons]
  refine Calls.spliced_cons (hv.bind c hp fun v s₁ av σ₁ hp rv c₁ t₁=>?_)
  refine wpAny_mono (ih env G A m σ₁ _ s₁ c₁ hp) (fun vs s₂ ⟨avs,σ₂,q,r,st,t⟩=>?_) fun _ _ z=>z
  exact ⟨_,σ₂,q,.cons (rv.mono t) r,st,t₁.trans t⟩
theorem sound_tup {es:List Expr} {ps:PEs} {k:Nat} {pos:Pos} (h:SoundL B d Γ sc es ps):SoundV B d Γ sc (.Tuple es k pos) (.tup ps):=by
 intro env G A m σ Q s c hp
 refine Tuple_ (wpAny_mono (soundL_spliced h env G A m σ _ s c hp) (fun vs s₁ ⟨avs,σ₁,⟨hn,q⟩,r,st,t⟩=>?_) fun _ _ z=>z)
 refine wpAny_newTuple ?_ (by rw [← r.length];exact LIM_line hn)
 obtain ⟨st',tx⟩:=st.push { cls:=.type "tuple",data:=.seq vs.toArray } (t:=s₁.toks)
 exact ⟨_,σ₁,q,.tup (Heap.get?_push_size _ rfl) hn (r.mono tx),st',t.trans tx⟩
theorem sound_list {es:List Expr} {ps:PEs} {pos:Pos} (h:SoundL B d Γ sc es ps):SoundV B d Γ sc (.List es pos) (.list ps):=by
 intro env G A m σ Q s c hp
 refine List_ (wpAny_mono (soundL_spliced h env G A m σ _ s c hp) (fun vs s₁ ⟨avs,σ₁,⟨hn,q⟩,r,st,t⟩=>?_) fun _ _ z=>z)
 refine wpAny_newList ?_ (by rw [← r.length];exact LIM_line hn)
 exact (fresh_list st hn r q).up t
theorem sound_dict0 {pos:Pos}:SoundV B d Γ sc (.Dict [] [] pos) .dict0:=by
 intro env G A m σ Q s c hp
 refine wpAny_Dict_empty ?_
 obtain ⟨st',tx⟩:=c.st.alloc (t:=s.toks) (h':=s.heap.push { cls:=.type "dict",data:=.dict #[] }) (a:=s.heap.objs.size) (ao:=.dict [] 0) (Nat.le_refl _) rfl (fun b o e=>Heap.get?_push_of_some _ e)
  fun tx=>⟨Nat.zero_le _,[],⟨_,#[],Heap.get?_push_size _ rfl,⟨rfl,rfl,rfl⟩,rfl,fun _ he=>by simp at he,.nil,List.nodup_nil⟩,.nil⟩
 exact ⟨_,_,hp _ (c.st.fresh (Nat.le_refl _)).1,.ref _,st',tx⟩
theorem evalEach_cons {e:Expr} {es:List Expr} {env:Env}:evalEach (e::es) env=eval e env::evalEach es env:=rfl
noncomputable def bopOf (b:Bool):BoolOp:=if b=true then .And else .Or
theorem bopOf_eq (o:BoolOp):bopOf (o == .And)=o:=by cases o <;> rfl
theorem boolOp_sound {isAnd:Bool} {pos:Pos} {es:List Expr} {ps:PEs} (h:SoundL B d Γ sc es ps):∀ (env:Env) (G:Addr→Option Obj) (A:Around) (m:Env') (σ:AH) (Q:AV→AH→Prop) (s:Shared),Cfg B d sc env G A m σ s→pwpOp Γ isAnd ps m Q σ→
 WP B A (boolOp pos (bopOf isAnd) (evalEach es env)) (Post B G s.heap Q) s:=by
 induction h with
 | nil=>intro env G A m σ Q s c hp;exact hp.elim
 | @cons e es p ps hs hv hb hl ih=>
  intro env G A m σ Q s c hp
  cases hl with
  | nil=>exact hv _ _ _ _ _ _ _ c hp
  | @cons e' es' p' ps' hs' hv' hb' hl'=>
   rw [evalEach_cons,evalEach_cons]
   refine wpAny_bind (hv.bind c hp fun v s₁ av σ₁ hp rv c₁ t₁=>wpAny_bind (wpAny_standAt (wpAny_bind (wpAny_holding ?_))))
   obtain ⟨b,hb,hp⟩:=som_inv hp
   refine truth_op c₁.st rv hb fun t=>?_
   have go:b=isAnd→WP B A (boolOp pos (bopOf isAnd) (evalEach (e'::es') env)) (Post B G s.heap Q) { s₁ with toks:=t }:=fun q=>
    wpAny_mono (ih env G A m σ₁ Q _ ⟨c₁.a,c₁.e,c₁.st.toks⟩ ((if_pos q).mp hp)) (fun _ _ z=>z.up t₁) fun _ _ z=>z
   have stop:b≠isAnd→Post B G s.heap Q v { s₁ with toks:=t }:=fun q=>⟨av,σ₁,(if_neg q).mp hp,rv,c₁.st.toks,t₁⟩
   cases isAnd <;> cases b
   · exact go rfl
   · exact wpAny_pure (stop Bool.noConfusion)
   · exact wpAny_pure (stop Bool.noConfusion)
   · exact go rfl
theorem allTrue_sound {isAnd:Bool} {es:List Expr} {ps:PEs} (h:SoundL B d Γ sc es ps):∀ (env:Env) (G:Addr→Option Obj) (A:Around) (m:Env') (σ:AH) (Q:Bool→AH→Prop) (s:Shared),Cfg B d sc env G A m σ s→pwpAll Γ isAnd ps m Q σ→
 WP B A (allTrue (bopOf isAnd) es env) (PostB B G s.heap Q) s:=by
 induction h with
 | nil=>intro env G A m σ Q s c hp;cases isAnd <;> exact wpAny_pure ⟨σ,hp,c.st,.refl _⟩
 | @cons e es p ps hs hv hb hl ih=>
  intro env G A m σ Q s c hp
  refine wpAny_bind (hb.bind c hp fun b s₁ σ₁ hp c₁ t₁=>?_)
  have go:b=isAnd→WP B A (allTrue (bopOf isAnd) es env) (PostB B G s.heap Q) s₁:=fun q=>
   wpAny_mono (ih env G A m σ₁ Q _ c₁ ((if_pos q).mp hp)) (fun _ _ z=>z.up t₁) fun _ _ z=>z
  have stop:b≠isAnd→PostB B G s.heap Q b s₁:=fun q=>⟨σ₁,(if_neg q).mp hp,c₁.st,t₁⟩
  cases isAnd <;> cases b
  · exact go rfl
  · exact wpAny_pure (stop Bool.noConfusion)
  · exact wpAny_pure (stop Bool.noConfusion)
  · exact go rfl
theorem sound_bop {o:BoolOp} {es:List Expr} {ps:PEs} {pos:Pos} (h:SoundL B d Γ sc es ps):SoundV B d Γ sc (.BoolOp o es pos) (.bop (o == .And) ps)∧SoundB B d Γ sc (.BoolOp o es pos) (.bop (o == .And) ps):=by
 constructor
 · intro env G A m σ Q s c hp
   have:=boolOp_sound (pos:=pos) h env G A m σ Q s c hp
   rw [bopOf_eq] at this
   exact this
 · intro env G A m σ Q s c hp
   have:=allTrue_sound h env G A m σ Q s c hp
   rw [bopOf_eq] at this
   exact this
end
section
variable {B:Base} {d:Nat} {T:Tab} {Γ:Gam} {sc:Sc} {env:Env} {G:Addr→Option Obj} {A:Around} {m:Env'} {σ:AH} {s:Shared}
theorem AOk.mono {d d':Nat} (a:AOk A d) (h:d'≤d):AOk A d':=⟨a.handled,by have:=a.depth;lia,by have:=a.units;lia⟩
theorem filterMap_range {xs:List Value}:∀ e,(List.range e).filterMap (fun i=>xs[i]?)=xs.take e
 | 0=>by simp
 | e+1=>by
  rw [List.range_succ,List.filterMap_append,filterMap_range e,List.take_add_one]
  congr 1
theorem slicePick_to {xs:List Value} {k:Int}:slicePick xs.toArray none (some k) none=(if 0≤k then xs.take k.toNat else xs.take (k+xs.length).toNat).toArray:=by
 have key:∀ stop:Int,0≤stop→(((sliceRange 0 stop 1).filterMap (xs.toArray[·]?)).toArray)=(xs.take stop.toNat).toArray:=by
  intro stop h0
  unfold sliceRange
  simp only [show (1:Int) > 0 by decide,if_true]
  have hc:(if 0 < stop then (stop - 0+1 - 1) / 1 else 0)=stop:=by
   by_cases c:0 < stop
   · rw [if_pos c];lia
   · rw [if_neg c];lia
  rw [hc]
  have hm:(List.range stop.toNat).map (fun (k:Nat)=>(0+1 * (k:Int)).toNat)=List.range stop.toNat:=by
   conv=>rhs;rw [← List.map_id (List.range stop.toNat)]
   refine List.map_congr_left fun i _=>?_
   simp
  rw [hm,← filterMap_range]
  simp
 unfold slicePick sliceBounds
 simp only [List.size_toArray,Option.getD_none,show (1:Int) > 0 by decide,if_true]
 rw [key _ (by lia)]
 congr 1
 by_cases c:0≤k
 · rw [if_pos c,if_neg (Int.not_lt.mpr c),List.take_eq_take_iff];lia
 · rw [if_neg c,if_pos (Int.not_le.mp c),List.take_eq_take_iff];lia
theorem getitemInPython_list {l:Addr} {items:Array Value} (hl:s.heap.IsList l items) {Q:Bool→Shared→Prop} (h:Q false s):WP B A (getitemInPython (.ref l)) Q s:=by
 rw [getitemInPython_of_ne hl.typeIs.not_modules]
 exact wpAny_bind (wpAny_specialOf hl.typeIs slot_list_getitem.lookup (wpAny_pure h))
inductive SeqI (B:Base) (h:Heap) (a:Addr) (g:List AV→Prop):Prop
 | mk (xs:List AV) (ys:List Value):xs.length≤LIM→h.IsList a ys.toArray→VRels B h xs ys→g xs→SeqI B h a g
theorem seq_at (st:St B G σ s) {a:Addr} {g:List AV→Prop} (h:som (σ a) fun o=>seqO o g):SeqI B s.heap a g:=by
 obtain ⟨o,hσ,h⟩:=som_inv h
 cases o with
 | list xs=>obtain ⟨hn,ys,hl,hr⟩:=(st.objs _ _ hσ).1;exact ⟨xs,ys,hn,hl.isList,hr,h⟩
 | ro xs=>obtain ⟨hn,ys,hl,hr⟩:=(st.objs _ _ hσ).1;exact ⟨xs,ys,hn,hl,hr,h⟩
 | _=>exact h.elim
theorem sound_slc {v u:Expr} {p:Pos} {q:Pos} {pv pu:PE} (hv:SoundV B d Γ sc v pv) (hu:SoundV B d Γ sc u pu):SoundV B d Γ sc (.Subscript v (.Slice none (some u) none p) q) (.slc pv pu):=by
 intro env G A m σ Q s c hp
 refine Subscript_ (hv.bind c hp fun ov s₁ av σ₁ hp₁ rv c₁ t₁=>?_)
 refine wpAny_Slice ?_
 rw [evalPart_none]
 refine wpAny_pure (wpAny_evalPart_some (hu.bind c₁ hp₁ fun uv s₂ au σ₂ hp₂ ru c₂ t₂=>?_))
 refine wpAny_pure ?_
 replace hp₂:=asR_inv hp₂
 obtain ⟨a,rfl,hp₂⟩:=hp₂
 replace hp₂:=asI_inv hp₂
 obtain ⟨k,rfl,hp₂⟩:=hp₂
 obtain rfl:=rv.refI
 obtain ⟨tk,rfl⟩:=ru.intI
 obtain ⟨xs,ys,hn,hl,hr,h⟩:=seq_at c₂.st hp₂
 obtain ⟨st',tx⟩:=c₂.st.push { cls:=.type "slice",data:=.fields #[.none,.int k tk,.none] } (t:=s₂.toks)
 have hl':=hl.push { cls:=.type "slice",data:=.fields #[.none,.int k tk,.none] }
 refine wpAny_bind (getitemInPython_list hl' (wpAny_bind ?_))
 refine wpAny_operating (wpAny_getItem_list_slice hl' (Heap.IsSliceOf.new ..) .none (.int k tk) .none (by simp) ?_ (by rw [List.size_toArray,← hr.length];exact LIM_line hn))
 refine wpAny_bind (wpAny_letTemporaryGo (wpAny_pure ?_))
 rw [slicePick_to]
 refine (fresh_list (ys:=if 0≤k then ys.take k.toNat else ys.take (k+ys.length).toNat) st' ?_ ?_ h).up (t₁.trans (t₂.trans tx))
 · by_cases c:0≤k
   · rw [if_pos c];exact Nat.le_trans (List.length_take_le' ..) hn
   · rw [if_neg c];exact Nat.le_trans (List.length_take_le' ..) hn
 · rw [hr.length]
   by_cases c:0≤k
   · rw [if_pos c,if_pos c];exact (hr.mono tx).take _
   · rw [if_neg c,if_neg c];exact (hr.mono tx).take _
theorem foldl_replicate {v:Value}:∀ (n:Nat) (acc:Array Value),List.foldl (fun x1 x2=>x1++x2) acc (List.replicate n #[v])=acc++(List.replicate n v).toArray
 | 0,acc=>by simp
 | n+1,acc=>by
  rw [List.replicate_succ,List.foldl_cons,foldl_replicate n,List.replicate_succ]
  apply Array.ext'
  simp
theorem VRels.replicate {h:Heap} {x:AV} {v:Value} (r:VRel B h x v):∀ n,VRels B h (List.replicate n x) (List.replicate n v)
 | 0=>.nil
 | n+1=>.cons r (VRels.replicate r n)
theorem mul_plain {l:Addr} {v:Value} {k:Nat} {x:Int} {u:Tok} {Q:Value→Shared→Prop} (hl:s.heap.get? l=some { cls:=.type "list",data:=.seq #[v] k }) (h0:0≤x) (h1:x≤LIM)
 (h:Q (.ref s.heap.objs.size) { s with heap:=s.heap.push { cls:=.type "list",data:=.seq (List.replicate x.toNat v).toArray } }):WP B A (binaryOp .Mult (.ref l) (.int x u)) Q s:=by
 unfold LIM at h1
 refine wpAny_binaryOp_repeat_ref (T := "list") (U := "int") (by decide) ⟨_,hl,rfl⟩ (fun s'=>typeIs_int s' x u) noFill_list_mul F.fills_int_mul F.slot_int_rmul repeat_list F.slot_int_index.lookup
  (call_meets F.slot_int_rmul (typeIs_int s x u) F.entry_int_rmul (F.args_int_rmul_2 _ _) (int___rmul___int_list x u l #[v] k)
   ⟨hl,rfl,⟨_,hl,rfl⟩,call_meets F.slot_list_mul ⟨_,hl,rfl⟩ F.entry_list_mul (F.args_list_mul_2 _ _)
    (AutoListH.list___mul___list_int_3 l #[v] k x u (by simp [Builtin.List.listFitsIndex];lia) (by simp;lia) (by simp [Builtin.List.listTooLong,sizeLine];lia))
    ⟨hl,?_⟩⟩)
 have e:List.foldl (fun x1 x2=>x1++x2) #[] (List.replicate (if (#[v]:Array Value).isEmpty=true then 0 else x.toNat) #[v])=(List.replicate x.toNat v).toArray:=by
  rw [foldl_replicate];simp
 rw [e]
 exact h
theorem sound_repl {x r:Expr} {p q:Pos} {px pr:PE} (hs:∀ y z,x≠.Starred y z) (hx:SoundV B d Γ sc x px) (hr:SoundV B d Γ sc r pr):SoundV B d Γ sc (.BinOp (.List [x] p) .Mult r q) (.repl px pr):=by
 intro env G A m σ Q s c hp
 refine wpAny_BinOp (List_ ?_)
 rw [starEach_cons hs,backTo_cons]
 refine Calls.spliced_cons (hx.bind c hp fun v s₁ av σ₁ hp₁ rv c₁ t₁=>Calls.spliced_nil (wpAny_newList ?_ (by show 1≤sizeLine;decide)))
 obtain ⟨st',tx⟩:=c₁.st.push { cls:=.type "list",data:=.seq [v].toArray } (t:=s₁.toks)
 have ha:(s₁.heap.push { cls:=.type "list",data:=.seq [v].toArray }).get? s₁.heap.objs.size=some { cls:=.type "list",data:=.seq [v].toArray }:=Heap.get?_push_size _ rfl
 have hσ:=(c₁.st.fresh (Nat.le_refl _)).1
 have hG:=(c₁.st.fresh (Nat.le_refl _)).2
 obtain ⟨o,ht,_⟩:=c₁.st.tab
 have hnt:B.tab≠s₁.heap.objs.size:=Nat.ne_of_lt (Heap.lt_size ht)
 obtain ⟨G',g1,g2,stp⟩:=st'.protect (fun a=>a=s₁.heap.objs.size) (fun a q=>q ▸ hσ) (fun q=>hnt q)
 have hk:∀ a o,G a=some o→G' a=some o:=fun a o e=>by
  rw [g2 a fun q=>by rw [q,hG] at e;injection e];exact e
 have c₂:Cfg B d sc env G' A m σ₁ { s₁ with heap:=s₁.heap.push { cls:=.type "list",data:=.seq [v].toArray } }:=by
  refine ⟨c.a,?_,stp⟩
  have e:=c₁.e.mono tx
  refine ⟨e.fn,e.kinds,e.globals,e.builtins,e.code,e.qual,e.len,fun x i av a b c=>?_,e.cells⟩
  obtain ⟨v,r,l⟩:=e.vars x i av a b c
  refine ⟨v,r,?_⟩
  rcases l with ⟨k,o,es,ep,g,r1,r2,r3⟩ | ⟨k,a,o,cl,g,hd⟩
  · exact .inl k o es ep (hk _ _ g) r1 r2 r3
  · exact .inr k a o cl (hk _ _ g) hd
 refine hr.bind c₂ hp₁ fun u s₂ au σ₂ hp₂ ru c₃ t₃=>?_
 replace hp₂:=asI_inv hp₂
 obtain ⟨k,rfl,h0,h1,h⟩:=hp₂
 obtain ⟨tk,rfl⟩:=ru.intI
 have hl:s₂.heap.get? s₁.heap.objs.size=some { cls:=.type "list",data:=.seq #[v] 0 }:=c₃.st.keep _ _ (by rw [g1 _ rfl];exact ha)
 refine mul_plain hl h0 h1 ?_
 have st₄:=c₃.st.unprotect c.st.base hk
 exact (fresh_list (ys:=List.replicate k.toNat v) st₄ (by rw [List.length_replicate];lia) (VRels.replicate (rv.mono (tx.trans t₃)) _) h).up (t₁.trans (tx.trans t₃))
end
section
variable {B:Base} {d:Nat} {T:Tab} {Γ:Gam} {sc:Sc} {env:Env} {G G':Addr→Option Obj} {A:Around} {m:Env'} {σ:AH} {s:Shared}
theorem EnvOk.reG {h:Heap} (e:EnvOk B sc env G h m) (hk:∀ a o,G a=some o→G' a=some o):EnvOk B sc env G' h m:=by
 refine ⟨e.fn,e.kinds,e.globals,e.builtins,e.code,e.qual,e.len,fun x i av a b c=>?_,e.cells⟩
 obtain ⟨v,r,l⟩:=e.vars x i av a b c
 refine ⟨v,r,?_⟩
 rcases l with ⟨k,o,es,ep,g,r1,r2,r3⟩ | ⟨k,a,o,cl,g,hd⟩
 · exact .inl k o es ep (hk _ _ g) r1 r2 r3
 · exact .inr k a o cl (hk _ _ g) hd
theorem evalArgs_sound {es:List Expr} {ps:PEs} (h:SoundL B d Γ sc es ps) {pos:Pos} {f:Value} {R:Args→Shared→Prop} (c:Cfg B d sc env G A m σ s) {Q:List AV→AH→Prop} (hp:pwpEs Γ ps m Q σ)
 (k:∀ vs s',PostL B G s.heap Q vs s'→R ⟨vs,[]⟩ s'):WP B A (evalArgs f true (backTo pos (starEach es env)) []) R s:=by
 have hs:=soundL_spliced h (pos:=pos) env G A m σ Q s c hp
 cases h with
 | nil=>exact evalArgs_nil3 (k [] s (by exact ⟨[],σ,hp,.nil,c.st,.refl _⟩))
 | cons h1 _ _ _=>
  rw [starEach_cons h1,backTo_cons] at hs ⊢
  exact Calls.evalArgs_plain (wpAny_mono hs k fun _ _ z=>z)
theorem callWith_sound {P:Heap→Prop} {es:List Expr} {ps:PEs} (h:SoundL B d Γ sc es ps) {pos:Pos} {f:Value} {first:List Value} {R:Value→Shared→Prop} (c:Cfg B d sc env G A m σ s) {Q:List AV→AH→Prop} (hp:pwpEs Γ ps m Q σ)
 (hk:∀ h,P h→∃ k,(k=Keeper.frame∨k=Keeper.machine∨k=Keeper.boundFrame)∧Looks (model B.prog B.w) h (keeperOf f) k)
 (k:∀ vs s' avs σ',Q avs σ'→VRels B s'.heap avs vs→Cfg B d sc env G A m σ' s'→TExt s.heap s'.heap→P s'.heap∧WP B A (call f (first++vs)) R s'):
 WP B A (callWith pos f first (backTo pos (starEach es env)) []) R s:=
 callWith_of (by rw [soundL_plain h];rfl) hk (evalArgs_sound h c hp fun vs s' ⟨avs,σ',q,r,st,t⟩=>k vs s' avs σ' q r (c.next st t) t)
theorem keeps_plain {f:Value} (hf:∀ a,f≠.ref a):∀ h:Heap,True→∃ k,(k=Keeper.frame∨k=Keeper.machine∨k=Keeper.boundFrame)∧Looks (model B.prog B.w) h (keeperOf f) k:=fun h _=>
 ⟨.machine,.inr (.inl rfl),by cases f <;> first | exact Looks.of_pure rfl | exact absurd rfl (hf _)⟩
theorem fn_call {a:Addr} {t:Tr} (hf:FnSound B d a t) {d':Nat} (ha:AOk A d') (hd:d≤d') (st:St B G σ s) {avs:List AV} {vs:List Value} (r:VRels B s.heap avs vs) {Q:AV→AH→Prop} (h:t avs Q σ):
 WP B A (call (.ref a) vs) (Post B G s.heap Q) s:=
 wpAny_call (codeAny_mono (hf A G σ Q s avs vs (ha.mono hd) st r h) fun r s' ⟨v,e,p⟩=>by subst e;exact p)
theorem sound_call (hB:BaseOk B) (hΓ:GamOk B d T Γ) {f:Str} {p pos:Pos} {es:List Expr} {ps:PEs} (hx:sc.isGlob f=true) (hd:(f == ("__debug__" : Str))=false) (h:SoundL B d Γ sc es ps):
 SoundV B d Γ sc (.Call (.Name f p) es [] pos) (.call f ps)∧SoundB B d Γ sc (.Call (.Name f p) es [] pos) (.call f ps):=by
 have key:∀ (env:Env) (G:Addr→Option Obj) (A:Around) (m:Env') (σ:AH) (Q:AV→AH→Prop) (s:Shared) (t:Tr),Cfg B d sc env G A m σ s→Γ.fn f=some t→pwpEs Γ ps m (fun vs σ=>t vs Q σ) σ→
  WP B A (eval (.Call (.Name f p) es [] pos) env) (Post B G s.heap Q) s:=by
  intro env G A m σ Q s t c hf hp
  obtain ⟨a,h1,h2,h3⟩:=hΓ.fn f t hf
  refine wpAny_Call_NameR (glob_ld hB c hx h1 hd ?_)
  refine callWith_sound h c hp (keeps_K h2) fun vs s₁ avs σ₁ q r c₁ t₁=>⟨c₁.st.K hB,?_⟩
  exact wpAny_mono (fn_call h3 c₁.a (by lia) c₁.st r q) (fun _ _ z=>z.up t₁) fun _ _ z=>z
 refine ⟨fun env G A m σ Q s c hp=>?_,fun env G A m σ Q s c hp=>?_⟩
 · obtain ⟨t,hf,hp⟩:=som_inv hp
   exact key env G A m σ Q s t c hf hp
 · obtain ⟨t,hf,hp⟩:=som_inv hp
   refine wpAny_bind (wpAny_mono (key env G A m σ _ s t c hf hp) (fun v s₁ h=>wpAny_bind (wpAny_standAt (wpAny_holding ?_))) fun _ _ z=>z)
   obtain ⟨av,σ₁,q,r,st,t⟩:=h
   obtain ⟨b,hb,q⟩:=som_inv q
   exact truth_op st r hb fun tk=>⟨σ₁,q,st.toks,t⟩
theorem sound_varB {x:Str} {pos:Pos} {i:Nat} (hv:SoundV B d Γ sc (.Name x pos) (.var i)):SoundB B d Γ sc (.Name x pos) (.var i):=by
 intro env G A m σ Q s c hp
 refine wpAny_bind (hv.bind c (Q:=fun w σ'=>som (truthW σ' w) fun b=>Q b σ') hp fun u s₁ av σ₁ hp rv c₁ t₁=>wpAny_bind (wpAny_standAt (wpAny_holding ?_)))
 obtain ⟨b,hb,hp⟩:=som_inv hp
 exact truth_op c₁.st rv hb fun tk=>⟨_,hp,c₁.st.toks,t₁⟩
theorem sound_attrB {v:Expr} {x:Str} {pos:Pos} {p:PE} (hv:SoundV B d Γ sc (.Attribute v x pos) (.attr p x)):SoundB B d Γ sc (.Attribute v x pos) (.attr p x):=by
 intro env G A m σ Q s c hp
 refine wpAny_bind (hv.bind c hp fun u s₁ av σ₁ q rv c₁ t₁=>wpAny_bind (wpAny_standAt (wpAny_holding ?_)))
 obtain ⟨b,hb,q⟩:=som_inv q
 exact truth_op c₁.st rv hb fun tk=>⟨_,q,c₁.st.toks,t₁⟩
theorem sound_boolB {b:Bool} {k:Nat} {pos:Pos}:SoundB B d Γ sc (.Constant (.bool b) k pos) (.lit (.bool b)):=by
 intro env G A m σ Q s c hp
 exact wpAny_bind (wpAny_pure (wpAny_bind (wpAny_standAt (wpAny_holding (wpAny_truthy_bool ⟨σ,hp,c.st,.refl _⟩)))))
theorem mk_inst (hB:BaseOk B) (st:St B G σ s) {C:Addr} (hC:B.isCls C=true) {t:Nat}:
 St B G (σ.set s.heap.objs.size (.attrs C [])) { s with heap:=(s.heap.push emptyDict).push (instObj C s.heap.objs.size),toks:=t }∧TExt s.heap ((s.heap.push emptyDict).push (instObj C s.heap.objs.size))∧
  VRel B ((s.heap.push emptyDict).push (instObj C s.heap.objs.size)) (.obj C s.heap.objs.size) (.ref (s.heap.objs.size+1)):=by
 have hk:∀ b o,s.heap.get? b=some o→((s.heap.push emptyDict).push (instObj C s.heap.objs.size)).get? b=some o:=fun b o e=>Heap.get?_push_of_some _ (Heap.get?_push_of_some _ e)
 have hd:((s.heap.push emptyDict).push (instObj C s.heap.objs.size)).get? s.heap.objs.size=some emptyDict:=Heap.get?_push_of_some _ (Heap.get?_push_size _ rfl)
 have hx:((s.heap.push emptyDict).push (instObj C s.heap.objs.size)).get? (s.heap.objs.size+1)=some (instObj C s.heap.objs.size):=by
  have:=Heap.get?_push_size (s.heap.push emptyDict) (o:=instObj C s.heap.objs.size) rfl
  rwa [Heap.size_push] at this
 obtain ⟨st',tx⟩:=st.alloc (t:=t) (ao:=.attrs C []) (Nat.le_refl _) rfl hk fun tx=>⟨fun p hp=>by simp at hp,fun o es ep e1 e2=>by (rw [hd] at e1;(injection e1 with z0;subst z0);(injection e2 with z0 z1;subst z0;subst z1);exact Nat.le_refl _),fun _=>none,⟨_,#[],0,hd,rfl,fun e he=>by simp at he,fun x=>rfl⟩,fun x=>trivial⟩
 exact ⟨st',tx,.obj hx hC⟩
theorem sound_new (hB:BaseOk B) (hΓ:GamOk B d T Γ) {f:Str} {p pos:Pos} {es:List Expr} {ps:PEs} (hx:sc.isGlob f=true) (hd:(f == ("__debug__" : Str))=false) (h:SoundL B d Γ sc es ps):
 SoundV B d Γ sc (.Call (.Name f p) es [] pos) (.new f ps):=by
 intro env G A m σ Q s c hp
 obtain ⟨⟨C,t⟩,hf,hp⟩:=som_inv hp
 obtain ⟨h1,h2,h3,h4,a,h5,h6,h7⟩:=hΓ.cls f C t hf
 refine wpAny_Call_NameR (glob_ld hB c hx h1 hd ?_)
 refine callWith_sound h c hp (keeps_K h2) fun vs s₁ avs σ₁ q r c₁ t₁=>⟨c₁.st.K hB,?_⟩
 refine wpAny_call ?_
 obtain ⟨hh,g,dd,tt,os⟩:=s₁
 have X:=c₁.st.K hB
 obtain ⟨st',tx,rx⟩:=mk_inst hB c₁.st h3 (t:=tt)
 have hfr:=(c₁.st.fresh (Nat.le_refl _)).1
 refine make_core (makes_of X h4) (looks_findIn X h5) (fun self=>bind_fn X self h6) (.inl rfl) ?_
 have hA:AOk (A.under (.builtin "type.__call__" ⟨.ref C::([]++vs),[]⟩)) (d+2):=by
  refine ⟨c.a.handled,?_,?_⟩
  · have:=c.a.depth;show A.depth+1+(d+2)≤900;lia
  · have:=c.a.units;show A.units+1+30 * (d+2)≤9000;lia
 refine codeAny_mono (h7 _ G _ _ _ (.obj C hh.objs.size::avs) (.ref (hh.objs.size+1)::vs) (hA.mono (by lia)) st' (.cons rx (r.mono tx)) (q _ hfr)) fun res s₂ h=>?_
 obtain ⟨v,rfl,av,σ₂,⟨rfl,q2⟩,rv,st₂,t₂⟩:=h
 obtain rfl:=rv.noneI
 exact ⟨rfl,_,σ₂,q2,rx.mono t₂,st₂,t₁.trans (tx.trans t₂)⟩
theorem meth_head {o:Expr} {f:Str} {apos pos:Pos} {es:List Expr} (hs:(backTo pos (starEach es env)).any (·.1)=false) (hbase:∀ g p as ks q,o≠.Call (.Name g p) as ks q) (hline:(apos.endLine == pos.line)=true) (hlen:es.length < 20) {R:Value→Shared→Prop}
 (h:WP B A (eval o env) (fun ov s₁=>∀ pl,WP B A (getMethod ov f pl) (fun r s₂=>WP B A (callWith pos r.1 r.2 (backTo pos (starEach es env)) []) R s₂) s₁) s):
 WP B A (eval (.Call (.Attribute o f apos) es [] pos) env) R s:=by
 rw [arm_eval_Call,attributeBase_plain hbase]
 refine wpAny_bind (wpAny_mono h (fun ov s₁ h₁=>wpAny_bind (wpAny_standAt ?_)) fun _ _ z=>z)
 have hform:methodCallForm (es.length+([]:List Keyword).length) (backTo pos (starEach es env)) (backToKw pos (keywordEach [] env))=true:=by
  unfold methodCallForm
  have:=hs
  rw [Bool.and_eq_true,Bool.and_eq_true]
  refine ⟨⟨?_,rfl⟩,?_⟩
  · rw [List.all_eq_true]
    intro x hx
    have:=List.any_eq_false.mp this x hx
    simpa using this
  · show decide (es.length+0+0 < 30)=true
    exact decide_eq_true (by lia)
 have hpos:methodCallPos true o env apos pos=pure pos:=by unfold methodCallPos;simp [hline]
 unfold methodCall
 rw [hform]
 refine wpAny_bind (wpAny_holding (wpAny_mono (h₁ _) (fun r s₂ h₂=>?_) fun _ _ z=>z))
 exact wpAny_bind (wpAny_of_eq hpos h₂)
theorem sound_meth (hB:BaseOk B) (hΓ:GamOk B d T Γ) {o:Expr} {f:Str} {apos pos:Pos} {es:List Expr} {ps:PEs} {po:PE} (ho:SoundV B d Γ sc o po) (hs:SoundL B d Γ sc es ps)
 (hbase:∀ g p as ks q,o≠.Call (.Name g p) as ks q) (hline:(apos.endLine == pos.line)=true) (hlen:es.length < 20):SoundV B d Γ sc (.Call (.Attribute o f apos) es [] pos) (.meth po f ps):=by
 intro env G A m σ Q s c hp
 refine meth_head (soundL_plain hs) hbase hline hlen (ho.bind c hp fun ov s₁ av σ₁ hp₁ rv c₁ t₁ pl=>?_)
 replace hp₁:=attAt_inv hp₁
 obtain ⟨C,dx,fs,rfl,hσ,hp₁⟩:=hp₁
 obtain ⟨t,hm,hl,hp₂⟩:=som_inv hp₁
 obtain ⟨hC,hpl,a,h1,h2,h3,h4⟩:=hΓ.mth _ f t hm
 obtain ⟨x,rfl,hx,_⟩:=rv.objI
 obtain ⟨hok,_,mm,⟨od,es',ep,hod,hdd,hks,hf⟩,hr⟩:=(c₁.st.objs _ _ hσ).1
 have hmm:mm f=none:=by
  have:=hr f
  rw [hl] at this
  cases q:mm f with
  | none=>rfl
  | some v=>rw [q] at this;exact this.elim
 refine method_fn (od:=some od) (c₁.st.K hB) ⟨hx,rfl,rfl,hod⟩ (plainGet_of hpl).1 (plainGet_of hpl).2 h1 (beq_iff_eq.mp h2) (by show (lookIn f od).map _=_;rw [lookIn_of_ns hdd hks ((hf f).trans hmm)];rfl) ?_
 refine callWith_sound hs c₁ hp₂ (keeps_K h3) fun vs s₂ avs σ₂ q r c₂ t₂=>⟨c₂.st.K hB,?_⟩
 exact wpAny_mono (fn_call h4 c₂.a (by lia) c₂.st (.cons (rv.mono t₂) r) q) (fun _ _ z=>z.up (t₁.trans t₂)) fun _ _ z=>z
end
section
variable {B:Base} {d:Nat} {T:Tab} {Γ:Gam} {sc:Sc} {env:Env} {G G':Addr→Option Obj} {A:Around} {m:Env'} {σ:AH} {s:Shared}
theorem made_list (st:St B G σ s) {xs:List AV} {ys:List Value} {h':Heap} {t:Nat} {n:Nat} {a:Addr} (ha:s.heap.get? a=none) (hk:∀ b o,s.heap.get? b=some o→h'.get? b=some o)
 (hl:h'.get? a=some { cls:=.type "list",data:=.seq ys.toArray n }) (hn:xs.length≤LIM) (r:VRels B h' xs ys) {Q:AV→AH→Prop} (h:freshW (.list xs) Q σ):
 Post B G s.heap Q (.ref a) { s with heap:=h',toks:=t }:=by
 obtain ⟨st',tx⟩:=st.alloc' (t:=t) (h':=h') (a:=a) (ao:=.list xs) ha rfl hk fun tx=>⟨hn,ys,⟨n,hl⟩,r⟩
 exact ⟨_,_,h _ (st.fresh' ha).1,.ref _,st',tx⟩
inductive ItemsI (σ:AH) (a:Addr) (xs:List AV):Prop
 | inl:σ a=some (.list xs)→ItemsI σ a xs
 | inr (kvs:List (Int × AV)) (ep:Nat):σ a=some (.dict kvs ep)→(xs=kvs.map fun p=>AV.int p.1)→ItemsI σ a xs
theorem itemsOf_ref {a:Addr} {xs:List AV} (h:itemsOf σ (.ref a)=some xs):ItemsI σ a xs:=by
 obtain ⟨o,e,h⟩:=bind_some (show (σ a).bind itemsO=some xs from h)
 cases o with
 | list zs=>injection h with h;exact h ▸ .inl e
 | dict kvs ep=>injection h with h;exact .inr kvs ep e h.symm
 | _=>injection h
inductive RngI (h:Heap) (lo hi:Int) (v:Value):Prop
 | mk (a:Addr) (t u w:Tok):v=.ref a→IsRange h a lo hi 1 t u w→-LIM≤lo→lo≤LIM→-LIM≤hi→hi≤LIM→RngI h lo hi v
theorem VRel.rngI {h:Heap} {lo hi:Int} {v:Value} (r:VRel B h (.rng lo hi) v):RngI h lo hi v:=by
 cases r with
 | rng e a b c d=>exact ⟨_,_,_,_,rfl,e,a,b,c,d⟩
inductive OneV (B:Base) (h:Heap) (x:AV) (vs:List Value):Prop
 | mk (v:Value):vs=[v]→VRel B h x v→OneV B h x vs
inductive TwoV (B:Base) (h:Heap) (x y:AV) (vs:List Value):Prop
 | mk (v u:Value):vs=[v,u]→VRel B h x v→VRel B h y u→TwoV B h x y vs
theorem VRels.one {h:Heap} {x:AV} {vs:List Value} (r:VRels B h [x] vs):OneV B h x vs:=by
 cases r with
 | cons a b=>cases b;exact ⟨_,rfl,a⟩
theorem VRels.two {h:Heap} {x y:AV} {vs:List Value} (r:VRels B h [x,y] vs):TwoV B h x y vs:=by
 cases r with
 | cons a b=>obtain ⟨u,rfl,c⟩:=b.one;exact ⟨_,_,rfl,a,c⟩
theorem VRels.zero {h:Heap} {vs:List Value} (r:VRels B h [] vs):vs=[]:=by cases r;rfl
theorem perm_sorted {xs ys:List Int} (hp:ys.Perm xs) (ho:ys.Pairwise (·≤·)):ys=sortI xs:=by
 have h2:(sortI xs).Perm xs:=List.mergeSort_perm xs _
 have h3:(sortI xs).Pairwise (·≤·):=by
  have:=List.pairwise_mergeSort (le:=fun (a b:Int)=>decide (a≤b)) (by intro a b c;simp;lia) (by intro a b;simp;lia) xs
  exact this.imp fun q=>by simpa using q
 exact ksm_same (hp.trans h2.symm) ho h3
theorem ints_rel {h:Heap} {vs:List Value} {is:List Int} (r:IntsAre vs is):VRels B h (is.map .int) vs:=by
 induction r with
 | nil=>exact .nil
 | cons n t _ ih=>exact .cons (.int n t) ih
inductive SrtI (Q:Value→Shared→Prop) (vs:List Value) (s₁:Shared):Prop
 | mk (ns:List Int):IntsAre vs ns→vs.length < 64→(∀ (out:List Value) ns' e h',IntsAre out ns'→ns'.Perm ns→ns'.Pairwise (·≤·)→
  (∀ b o,s₁.heap.get? b=some o→h'.get? b=some o)→h'.get? s₁.heap.objs.size=some { cls:=.type "list",data:=.seq out.toArray e }→Q (.ref s₁.heap.objs.size) { s₁ with heap:=h' })→SrtI Q vs s₁
theorem sorted_gen {E:Value→Shared→Prop} {v:Value} {Q:Value→Shared→Prop} (h:wpAny (model B.prog B.w) A.in1 (collect v) (SrtI Q) E s):
 wpAny (model B.prog B.w) A (call (.builtin "sorted") [v]) Q E s:=by
 refine Calls.call_function_entry kind_sorted plain_sorted entry_sorted (args_sorted1 _) ?_
 unfold Builtin.«sorted»
 refine wpAny_bind (m:=checkCount "sorted" 1 1 _) (wpAny_pure ?_)
 refine wpAny_bind (wpAny_mono h (fun vs s₁ ⟨ns,hI,h64,hq⟩=>?_) fun _ _ z=>z)
 refine wpAny_bind (wpAny_newList ?_ (Nat.le_trans (Nat.le_of_lt h64) (by decide)))
 have hoL:(s₁.heap.push (seqObj "list" vs.toArray 0)).get? s₁.heap.objs.size=some (seqObj "list" vs.toArray 0):=Heap.get?_push_size _ rfl
 refine wpAny_bind (wpAny_holding (wpAny_call_entry slot_list_sort ⟨_,hoL,rfl⟩ entry_list_sort (list_sort_tree hoL hI h64 fun out ns' a1 a2 a3=>⟨_,rfl,?_⟩) (args_list_sort _)))
 refine wpAny_pure ⟨_,rfl,?_⟩
 obtain ⟨e,he⟩:=sortedHeap_at (out:=out) hoL
 refine hq out.toList ns' e _ a1 a2 a3 (fun b o q=>?_) (by simpa [seqObj] using he)
 have hlt:=Heap.lt_size q
 rw [sortedHeap_old (Nat.ne_of_lt hlt) (by rw [Heap.size_push];exact Nat.lt_succ_of_lt hlt)]
 exact Heap.get?_push_of_some _ q
noncomputable def biV:BI→Value
 | .len=>.builtin "len" | .range=>.type "range" | .list=>.type "list" | .tuple=>.type "tuple" | .max=>.builtin "max" | .min=>.builtin "min" | .sorted=>.builtin "sorted" | .listRev=>.none
theorem foldl_best {g:Int→Int→Int} {le:Int→Int→Prop} (hr:∀ a,le a a) (ht:∀ a b c,le a b→le b c→le a c) (hl:∀ a b,le (g a b) a∧le (g a b) b∧(g a b=a∨g a b=b)) (ha:∀ a b,le a b→le b a→a=b)
 {i M:Int} {r:List Int} (hm:M ∈ i::r) (hb:∀ a ∈ i::r,le M a):r.foldl g i=M:=by
 have key:∀ (r:List Int) (i:Int),(∀ a ∈ i::r,le (r.foldl g i) a)∧r.foldl g i ∈ i::r:=by
  intro r
  induction r with
  | nil=>intro i;exact ⟨fun a h=>List.mem_singleton.mp h ▸ hr a,.head _⟩
  | cons x r ih=>
   intro i
   obtain ⟨h1,h2⟩:=ih (g i x)
   obtain ⟨g1,g2,g3⟩:=hl i x
   refine ⟨fun a h=>?_,?_⟩
   · rcases List.mem_cons.mp h with rfl | h
     · exact ht _ _ _ (h1 _ (.head _)) g1
     · rcases List.mem_cons.mp h with rfl | h
       · exact ht _ _ _ (h1 _ (.head _)) g2
       · exact h1 a (.tail _ h)
   · rcases List.mem_cons.mp h2 with e | h
     · rcases g3 with q | q
       · exact List.mem_cons.mpr (.inl (e.trans q))
       · exact .tail _ (List.mem_cons.mpr (.inl (e.trans q)))
     · exact .tail _ (.tail _ h)
 exact ha _ _ ((key r i).1 M hm) (hb _ (key r i).2)
theorem foldl_max_eq {i M:Int} {r:List Int} (hm:M ∈ i::r) (hb:∀ a ∈ i::r,a≤M):r.foldl max i=M:=
 foldl_best (le:=fun a b=>b≤a) Int.le_refl (fun _ _ _ h k=>Int.le_trans k h) (fun a b=>⟨by lia,by lia,by lia⟩) (fun _ _ h k=>Int.le_antisymm k h) hm hb
theorem foldl_min_eq {i M:Int} {r:List Int} (hm:M ∈ i::r) (hb:∀ a ∈ i::r,M≤a):r.foldl min i=M:=
 foldl_best (le:=fun a b=>a≤b) Int.le_refl (fun _ _ _=>Int.le_trans) (fun a b=>⟨by lia,by lia,by lia⟩) (fun _ _=>Int.le_antisymm) hm hb
theorem IntsAre.items' {vs:List Value} {ns:List Int} (hi:IntsAre vs ns):∃ xs:Array (Int × Tok),vs.toArray=intItems xs∧ns=xs.toList.map (·.1):=by
 obtain ⟨xs,e⟩:=hi.allInts.items
 exact ⟨xs,e,by rw [← hi.numsOf,← nums_intItems,← e]⟩
theorem max_raw {l:Addr} {vs:List Value} {i:Int} {r:List Int} {Q:Value→Shared→Prop} (hh:A.handled=none) (hl:s.heap.IsList l vs.toArray) (hi:IntsAre vs (i::r))
 (h:∀ h' (t:Tok) tk,(∀ b o,s.heap.get? b=some o→h'.get? b=some o)→Q (.int (r.foldl max i) t) { s with heap:=h',toks:=tk }):WP B A (call (.builtin "max") [.ref l]) Q s:=by
 obtain ⟨xs,e,hns⟩:=IntsAre.items' hi
 have hlen:xs.size=r.length+1:=by have:=congrArg List.length hns;simpa using this.symm
 rw [e] at hl
 refine max_intList hh hl (by lia) fun v h' tk hv hk=>?_
 obtain ⟨t,rfl⟩:=intItems_at hv
 obtain ⟨h1,h2⟩:=argBest_gt (numAt xs) (xs.size - 1)
 rw [← foldl_max_eq (M:=numAt xs (argBest (fun i j=>decide (numAt xs i > numAt xs j)) (xs.size - 1))) (i:=i) (r:=r)]
 · exact h h' t tk hk
 · rw [hns,numAt_eq];exact getD_mem (by rw [List.length_map,Array.length_toList];lia)
 · intro a ha
   rw [hns] at ha
   obtain ⟨j,hj,rfl⟩:=mem_getD ha
   rw [List.length_map,Array.length_toList] at hj
   rw [← numAt_eq];exact h2 j (by lia)
theorem min_raw {l:Addr} {vs:List Value} {i:Int} {r:List Int} {Q:Value→Shared→Prop} (hh:A.handled=none) (hl:s.heap.IsList l vs.toArray) (hi:IntsAre vs (i::r))
 (h:∀ h' (t:Tok) tk,(∀ b o,s.heap.get? b=some o→h'.get? b=some o)→Q (.int (r.foldl min i) t) { s with heap:=h',toks:=tk }):WP B A (call (.builtin "min") [.ref l]) Q s:=by
 obtain ⟨xs,e,hns⟩:=IntsAre.items' hi
 have hlen:xs.size=r.length+1:=by have:=congrArg List.length hns;simpa using this.symm
 rw [e] at hl
 refine min_intList hh hl (by omega) fun v h' tk hv hk=>?_
 obtain ⟨t,rfl⟩:=intItems_at hv
 obtain ⟨h1,h2⟩:=argBest_lt (numAt xs) (xs.size - 1)
 rw [← foldl_min_eq (M:=numAt xs (argBest (fun i j=>decide (numAt xs i < numAt xs j)) (xs.size - 1))) (i:=i) (r:=r)]
 · exact h h' t tk hk
 · rw [hns,numAt_eq];exact getD_mem (by rw [List.length_map,Array.length_toList];omega)
 · intro a ha
   rw [hns] at ha
   obtain ⟨j,hj,rfl⟩:=mem_getD ha
   rw [List.length_map,Array.length_toList] at hj
   rw [← numAt_eq];exact h2 j (by omega)
noncomputable def keyAt (kvs:List (Int × Value)) (i:Nat):Int:=(kvs.map (·.1)).getD i 0
theorem keyAt_of {kvs:List (Int × Value)} {i:Nat} {v:Value} (h:∃ k x,kvs[i]?=some (k,x)∧(intKind B.prog B.w).is k v=true):∃ t,v=.int (keyAt kvs i) t:=by
 obtain ⟨k,x,h1,h2⟩:=h
 obtain ⟨t,rfl⟩:=Value.isInt_shape h2
 exact ⟨t,by unfold keyAt;simp [h1]⟩
theorem dict_fresh {dd:Addr} {kvs:List (Int × Value)} {ep:Nat} {h h':Heap} {oI:Obj} (hd:h.DictAt (intKind B.prog B.w) dd kvs ep) (hk:∀ b o,b ∉ [h.objs.size]→(h.push oI).get? b=some o→h'.get? b=some o):∀ b o,h.get? b=some o→h'.get? b=some o:=fun b o e=>
 hk b o (fun q=>by rw [List.mem_singleton.mp q] at e;exact absurd (Heap.lt_size e) (Nat.lt_irrefl _)) (Heap.get?_push_of_some _ e)
theorem max_dict {dd:Addr} {kvs:List (Int × Value)} {ep:Nat} {i:Int} {r:List Int} {Q:Value→Shared→Prop} (hh:A.handled=none) (lo:(dd == sysModules)=false) (hd:s.heap.DictAt (intKind B.prog B.w) dd kvs ep) (hi:kvs.map (·.1)=i::r)
 (h:∀ h' (t:Tok) tk,(∀ b o,s.heap.get? b=some o→h'.get? b=some o)→Q (.int (r.foldl max i) t) { s with heap:=h',toks:=tk }):WP B A (call (.builtin "max") [.ref dd]) Q s:=by
 have hlen:kvs.length=r.length+1:=by have:=congrArg List.length hi;simpa using this
 refine call_max_walk (wpAny_pyIter_dict lo hd ?_)
 refine ⟨_,_,_,_,_,_,_,rfl,Walks.dictKeys (A:=A.in1) hh _ dd (Nat.ne_of_lt hd.lt_size) kvs ep,⟨⟨_,Heap.get?_push_size _ rfl,rfl,rfl⟩,hd.push _⟩,fun b hb=>?_,by omega,CmpOf.ints_gt (keyAt kvs) (fun _ _ q=>keyAt_of q),fun v h' tk hv hk=>?_⟩
 · show b < (s.heap.push _).objs.size
   rw [Heap.size_push]
   simp only [List.mem_cons,List.not_mem_nil,or_false] at hb
   rcases hb with rfl | rfl
   · exact Nat.lt_succ_self _
   · exact Nat.lt_succ_of_lt hd.lt_size
 · obtain ⟨t,rfl⟩:=keyAt_of hv
   obtain ⟨h1,h2⟩:=argBest_gt (keyAt kvs) (kvs.length - 1)
   rw [← foldl_max_eq (M:=keyAt kvs (argBest (fun i j=>decide (keyAt kvs i > keyAt kvs j)) (kvs.length - 1))) (i:=i) (r:=r)]
   · exact h h' t tk (dict_fresh hd hk)
   · rw [← hi];exact getD_mem (by rw [List.length_map];omega)
   · intro a ha
     rw [← hi] at ha
     obtain ⟨j,hj,rfl⟩:=mem_getD ha
     rw [List.length_map] at hj
     exact h2 j (by omega)
theorem min_dict {dd:Addr} {kvs:List (Int × Value)} {ep:Nat} {i:Int} {r:List Int} {Q:Value→Shared→Prop} (hh:A.handled=none) (lo:(dd == sysModules)=false) (hd:s.heap.DictAt (intKind B.prog B.w) dd kvs ep) (hi:kvs.map (·.1)=i::r)
 (h:∀ h' (t:Tok) tk,(∀ b o,s.heap.get? b=some o→h'.get? b=some o)→Q (.int (r.foldl min i) t) { s with heap:=h',toks:=tk }):WP B A (call (.builtin "min") [.ref dd]) Q s:=by
 have hlen:kvs.length=r.length+1:=by have:=congrArg List.length hi;simpa using this
 refine call_min_walk (wpAny_pyIter_dict lo hd ?_)
 refine ⟨_,_,_,_,_,_,_,rfl,Walks.dictKeys (A:=A.in1) hh _ dd (Nat.ne_of_lt hd.lt_size) kvs ep,⟨⟨_,Heap.get?_push_size _ rfl,rfl,rfl⟩,hd.push _⟩,fun b hb=>?_,by omega,CmpOf.ints_lt (keyAt kvs) (fun _ _ q=>keyAt_of q),fun v h' tk hv hk=>?_⟩
 · show b < (s.heap.push _).objs.size
   rw [Heap.size_push]
   simp only [List.mem_cons,List.not_mem_nil,or_false] at hb
   rcases hb with rfl | rfl
   · exact Nat.lt_succ_self _
   · exact Nat.lt_succ_of_lt hd.lt_size
 · obtain ⟨t,rfl⟩:=keyAt_of hv
   obtain ⟨h1,h2⟩:=argBest_lt (keyAt kvs) (kvs.length - 1)
   rw [← foldl_min_eq (M:=keyAt kvs (argBest (fun i j=>decide (keyAt kvs i < keyAt kvs j)) (kvs.length - 1))) (i:=i) (r:=r)]
   · exact h h' t tk (dict_fresh hd hk)
   · rw [← hi];exact getD_mem (by rw [List.length_map];omega)
   · intro a ha
     rw [← hi] at ha
     obtain ⟨j,hj,rfl⟩:=mem_getD ha
     rw [List.length_map] at hj
     exact h2 j (by omega)
theorem ksrc_keys {kvs:List (Int × Value)} {acc:Array Value} (hacc:ItemsOf (fun i v=>∃ k x,kvs[i]?=some (k,x)∧(intKind B.prog B.w).is k v=true) acc kvs.length):IntsAre acc.toList (kvs.map (·.1)):=by
 have key:∀ (kvs:List (Int × Value)) (l:List Value),l.length=kvs.length→(∀ (j:Nat) (v:Value),l[j]?=some v→∃ k x,kvs[j]?=some (k,x)∧(intKind B.prog B.w).is k v=true)→IntsAre l (kvs.map (·.1)):=by
  intro kvs
  induction kvs with
  | nil=>intro l hl _;cases l with
   | nil=>exact .nil
   | cons=>simp at hl
  | cons p r ih=>
   intro l hl hv
   cases l with
   | nil=>simp at hl
   | cons v l=>
    obtain ⟨k,x,h1,h2⟩:=hv 0 v rfl
    (injection h1 with z0;subst z0)
    obtain ⟨t,rfl⟩:=Value.isInt_shape h2
    exact .cons _ _ (ih l (by simpa using hl) fun j u hu=>by simpa using hv (j+1) u (by simpa using hu))
 exact key kvs acc.toList (by rw [Array.length_toList];exact hacc.1) fun j v e=>hacc.2 j v (by rw [← Array.getElem?_toList];exact e)
theorem KRel.intsOf {kvs:List (Int × AV)} {is:List Int} (e:intsOf (kvs.map fun p=>.int p.1)=some is):is=kvs.map (·.1):=by
 induction kvs generalizing is with
 | nil=>(injection e with z0;subst z0);rfl
 | cons p r ih=>
  simp only [List.map_cons,Mine.intsOf] at e
  obtain ⟨js,h1,rfl⟩:=Option.map_eq_some_iff.mp e
  rw [ih h1];rfl
theorem rng_rel {h:Heap} {a:Int} {acc:Array Value} {n:Nat} (hacc:ItemsOf (fun i v=>∃ t,v=.int (a+i * 1) t) acc n):VRels B h ((List.range n).map fun (i:Nat)=>AV.int (a+(i:Int))) acc.toList:=by
 have key:∀ (n:Nat) (a:Int) (l:List Value),l.length=n→(∀ (j:Nat) (v:Value),l[j]?=some v→∃ t,v=Value.int (a+(j:Int)) t)→VRels B h ((List.range n).map fun (i:Nat)=>AV.int (a+(i:Int))) l:=by
  intro n
  induction n with
  | zero=>intro a l hl _;cases l with
   | nil=>exact .nil
   | cons=>simp at hl
  | succ n ih=>
   intro a l hl hv
   cases l with
   | nil=>simp at hl
   | cons v l=>
    obtain ⟨t,rfl⟩:=hv 0 v rfl
    rw [List.range_succ_eq_map,List.map_cons,List.map_map]
    refine VRels.cons (x:=AV.int (a+((0:Nat):Int))) (VRel.int _ _) ?_
    have:=ih (a+1) l (by simpa using hl) fun j u hu=>by
     obtain ⟨t,rfl⟩:=hv (j+1) u (by simpa using hu)
     exact ⟨t,by congr 1;push_cast;lia⟩
    refine cast ?_ this
    congr 2
    funext i
    simp only [Function.comp,Nat.succ_eq_add_one]
    congr 1;push_cast;lia
 refine key n a acc.toList (by rw [Array.length_toList];exact hacc.1) fun j v e=>?_
 obtain ⟨t,q⟩:=hacc.2 j v (by rw [← Array.getElem?_toList];exact e)
 exact ⟨t,by rw [q,Int.mul_one]⟩
theorem bi_op (hB:BaseOk B) (a:AOk A d) (st:St B G σ s) {f:BI} {avs:List AV} {vs:List Value} (r:VRels B s.heap avs vs) {Q:AV→AH→Prop} (h:biW f avs Q σ) (hf:f≠.listRev):
 WP B A (call (biV f) vs) (Post B G s.heap Q) s:=by
 cases f with
 | len=>
  replace h:=oneA_inv h;obtain ⟨w,rfl,h⟩:=h
  cases w with
  | tup xs=>
   obtain ⟨v,rfl,rv⟩:=r.one
   obtain ⟨p,ys,n,rfl,hp,hn,rr⟩:=rv.tupI
   refine len_tuple ⟨_,hp,rfl,n,rfl⟩ (by rw [List.size_toArray,← rr.length];exact LIM_fit hn) ?_
   refine ⟨_,σ,h,?_,st.toks,.refl _⟩
   rw [List.size_toArray,← rr.length];exact .int _ _
  | ref a=>
   obtain ⟨v,rfl,rv⟩:=r.one
   obtain rfl:=rv.refI
   obtain ⟨ao,hσ,h⟩:=som_inv h
   cases ao with
   | list xs=>
    obtain ⟨hn,ys,hl,hr⟩:=(st.objs _ _ hσ).1
    refine len_list hl.isList (by rw [List.size_toArray,← hr.length];exact LIM_fit hn) ?_
    refine ⟨_,σ,h,?_,st.toks,.refl _⟩
    rw [List.size_toArray,← hr.length];exact .int _ _
   | dict kvs ep=>
    obtain ⟨hn,ws,hd,hk⟩:=(st.objs _ _ hσ).1
    refine call_len_dict (not_sys hB st hσ rfl) (DictAt.dictOf' hd) (by rw [← hk.len];exact LIM_fit hn) ?_
    refine ⟨_,σ,h,?_,st.toks,.refl _⟩
    rw [← hk.len];exact .int _ _
   | _=>exact h.elim
  | _=>exact h.elim
 | range=>
  cases avs with
  | nil=>exact h.elim
  | cons w avs=>
   replace h:=asI_inv h;obtain ⟨n,rfl,h⟩:=h
   cases avs with
   | nil=>
    obtain ⟨v,rfl,rv⟩:=r.one
    obtain ⟨t,rfl⟩:=rv.intI
    obtain ⟨h1,h2,h⟩:=h
    refine call_range_1 ?_
    obtain ⟨st',tx⟩:=st.push { cls:=.type "range",data:=.fields #[.int 0 s.toks,.int _ t,.int 1 (s.toks+1)] } (t:=s.toks+1+1)
    exact ⟨_,σ,h,.rng (IsRange.new ..) (by decide) (by decide) h1 h2,st',tx⟩
   | cons u avs=>
    replace h:=nil0_inv h;obtain ⟨rfl,h⟩:=h
    replace h:=asI_inv h;obtain ⟨b,rfl,h⟩:=h
    obtain ⟨v,u,rfl,rv,ru⟩:=r.two
    obtain ⟨t,rfl⟩:=rv.intI
    obtain ⟨t',rfl⟩:=ru.intI
    obtain ⟨h1,h2,h3,h4,h⟩:=h
    refine call_range_2 ?_
    obtain ⟨st',tx⟩:=st.push { cls:=.type "range",data:=.fields #[.int _ t,.int _ t',.int 1 s.toks] } (t:=s.toks+1)
    exact ⟨_,σ,h,.rng (IsRange.new ..) h1 h2 h3 h4,st',tx⟩
 | list=>
  replace h:=oneA_inv h;obtain ⟨w,rfl,h⟩:=h
  cases w with
  | tup xs=>
   obtain ⟨v,rfl,rv⟩:=r.one
   obtain ⟨p,ys,n,rfl,hp,hn,rr⟩:=rv.tupI
   refine call_list_seq p (.inr rfl) hp rfl rfl (fun h' c' hk hl=>?_) (by rw [List.size_toArray,← rr.length];exact LIM_line hn)
   exact made_list (n:=c') (t:=s.toks) st (get?_fresh _ (Nat.le_refl _)) hk hl hn (rr.mono (.of_keeps hk)) h
  | ref a=>
   obtain ⟨v,rfl,rv⟩:=r.one
   obtain rfl:=rv.refI
   replace h:=lstAt_inv h;obtain ⟨xs,hσ,h⟩:=h
   obtain ⟨hn,ys,⟨n,hl⟩,rr⟩:=(st.objs _ _ hσ).1
   refine call_list_seq _ (.inl rfl) hl rfl rfl (fun h' c' hk hl=>?_) (by rw [List.size_toArray,← rr.length];exact LIM_line hn)
   exact made_list (n:=c') (t:=s.toks) st (get?_fresh _ (Nat.le_refl _)) hk hl hn (rr.mono (.of_keeps hk)) h
  | rng lo hi=>
   obtain ⟨v,rfl,rv⟩:=r.one
   obtain ⟨p,t,u,x,rfl,hr,h1,h2,h3,h4⟩:=rv.rngI
   obtain ⟨hn,h⟩:=h
   unfold LIM at h1 h2 h3 h4
   have hsz:Builtin.Range.rangeSize lo hi 1=((hi - lo).toNat:Nat):=by rw [rangeSize_one];split <;> lia
   refine call_list_range a.handled hr (small_one (by lia) (by lia) (by lia) (by lia)) hsz (by unfold LIM at hn;lia) fun h' tk acc' c' hk hl hacc=>?_
   exact made_list (n:=c') (t:=tk) st (get?_fresh _ (Nat.le_refl _)) hk (by simpa using hl) (by simpa using hn) (rng_rel hacc) h
  | _=>exact h.elim
 | listRev=>exact absurd rfl hf
 | tuple=>
  replace h:=oneA_inv h;obtain ⟨w,rfl,h⟩:=h
  replace h:=asR_inv h;obtain ⟨a,rfl,h⟩:=h
  obtain ⟨v,rfl,rv⟩:=r.one
  obtain rfl:=rv.refI
  replace h:=lstAt_inv h;obtain ⟨xs,hσ,h⟩:=h
  obtain ⟨hn,ys,hl,rr⟩:=(st.objs _ _ hσ).1
  refine call_tuple_list hl.isList (fun h' hk=>?_) (by rw [List.size_toArray,← rr.length];exact LIM_line hn)
  have hk':∀ b o,s.heap.get? b=some o→(h'.push { cls:=.type "tuple",data:=.seq ys.toArray }).get? b=some o:=fun b o e=>Heap.get?_push_of_some _ (hk b o e)
  obtain ⟨st',tx⟩:=st.keeps (t:=s.toks) hk'
  exact ⟨_,σ,h,.tup (Heap.get?_push_size _ rfl) hn (rr.mono tx),st',tx⟩
 | max=>
  replace h:=oneA_inv h;obtain ⟨w,rfl,h⟩:=h
  replace h:=intsAt_inv h;obtain ⟨p,xs,is,rfl,hx,hi,h⟩:=h
  replace h:=ic_inv h;obtain ⟨i,rest,rfl,h⟩:=h
  obtain ⟨v,rfl,rv⟩:=r.one
  obtain rfl:=rv.refI
  rcases itemsOf_ref hx with hσ | ⟨kvs,ep,hσ,rfl⟩
  · obtain ⟨hn,ys,hl,rr⟩:=(st.objs _ _ hσ).1
    refine max_raw a.handled hl.isList (intsOf_rel rr hi) fun h' t tk hk=>?_
    obtain ⟨st',tx⟩:=st.keeps (t:=tk) hk
    exact ⟨_,σ,h,.int _ _,st',tx⟩
  · obtain ⟨hn,ws,hd,hk⟩:=(st.objs _ _ hσ).1
    refine max_dict a.handled (not_sys hB st hσ rfl) hd (hk.keys.symm.trans (KRel.intsOf hi).symm) fun h' t tk hk=>?_
    obtain ⟨st',tx⟩:=st.keeps (t:=tk) hk
    exact ⟨_,σ,h,.int _ _,st',tx⟩
 | min=>
  replace h:=oneA_inv h;obtain ⟨w,rfl,h⟩:=h
  replace h:=intsAt_inv h;obtain ⟨p,xs,is,rfl,hx,hi,h⟩:=h
  replace h:=ic_inv h;obtain ⟨i,rest,rfl,h⟩:=h
  obtain ⟨v,rfl,rv⟩:=r.one
  obtain rfl:=rv.refI
  rcases itemsOf_ref hx with hσ | ⟨kvs,ep,hσ,rfl⟩
  · obtain ⟨hn,ys,hl,rr⟩:=(st.objs _ _ hσ).1
    refine min_raw a.handled hl.isList (intsOf_rel rr hi) fun h' t tk hk=>?_
    obtain ⟨st',tx⟩:=st.keeps (t:=tk) hk
    exact ⟨_,σ,h,.int _ _,st',tx⟩
  · obtain ⟨hn,ws,hd,hk⟩:=(st.objs _ _ hσ).1
    refine min_dict a.handled (not_sys hB st hσ rfl) hd (hk.keys.symm.trans (KRel.intsOf hi).symm) fun h' t tk hk=>?_
    obtain ⟨st',tx⟩:=st.keeps (t:=tk) hk
    exact ⟨_,σ,h,.int _ _,st',tx⟩
 | sorted=>
  replace h:=oneA_inv h;obtain ⟨w,rfl,h⟩:=h
  replace h:=intsAt_inv h;obtain ⟨p,xs,is,rfl,hx,hi,h⟩:=h
  obtain ⟨v,rfl,rv⟩:=r.one
  obtain rfl:=rv.refI
  obtain ⟨h64,h⟩:=h
  rcases itemsOf_ref hx with hσ | ⟨kvs,ep,hσ,rfl⟩
  · obtain ⟨hn,ys,hl,rr⟩:=(st.objs _ _ hσ).1
    have hI:=intsOf_rel rr hi
    have hlen:=hI.length
    refine sorted_gen (collect_list hl.isList ⟨is,hI,by lia,fun out ns' e h' a1 a2 a3 hk he=>?_⟩ (by rw [← rr.length];exact LIM_line hn))
    have hk':∀ b o,s.heap.get? b=some o→h'.get? b=some o:=fun b o q=>hk b o (by
     have:=Heap.lt_size q
     rw [Heap.get?_update_other _ _ (Nat.ne_of_gt this)]
     exact Heap.get?_push_of_some _ q)
    rw [← perm_sorted a2 a3] at h
    exact made_list (t:=s.toks) (n:=e) st (get?_fresh _ (by rw [Heap.size_update,Heap.size_push];lia)) hk' he (by rw [List.length_map,a2.length_eq];unfold LIM;lia) (ints_rel a1) h
  · obtain ⟨hn,ws,hd,hk⟩:=(st.objs _ _ hσ).1
    have e1:=KRel.intsOf hi
    have e2:=hk.keys
    refine sorted_gen (kdu_collect (A:=A.in1) (kdl_dict (not_sys hB st hσ rfl)) a.handled hd (by rw [← hk.len];exact LIM_line hn) fun h₁ tk acc hk₁ hacc=>⟨is,by rw [e1,e2];exact ksrc_keys hacc,?_,fun out ns' e h' a1 a2 a3 hk₂ he=>?_⟩)
    · rw [Array.length_toList,hacc.1,← hk.len]
      have:=congrArg List.length e1;simp at this;lia
    · have hk':∀ b o,s.heap.get? b=some o→h'.get? b=some o:=fun b o q=>hk₂ b o (hk₁ b o q)
      rw [← perm_sorted a2 a3] at h
      refine made_list (t:=tk) (n:=e) st ?_ hk' he (by rw [List.length_map,a2.length_eq];unfold LIM;lia) (ints_rel a1) h
      cases q:s.heap.get? h₁.objs.size with
      | none=>rfl
      | some o=>exact absurd (Heap.lt_size (hk₁ _ _ q)) (Nat.lt_irrefl _)
end
section
variable {B:Base} {d:Nat} {T:Tab} {Γ:Gam} {sc:Sc} {env:Env} {G G':Addr→Option Obj} {A:Around} {m:Env'} {σ:AH} {s:Shared}
theorem list_upd (st:St B G σ s) {a:Addr} {xs xs':List AV} {ys ys':List Value} {n:Nat} (e:σ a=some (.list xs)) (hl:s.heap.get? a=some (seqObj "list" ys.toArray n)) (f:Array Value→Array Value) (hf:f ys.toArray=ys'.toArray)
 (hn:xs'.length≤LIM) (r:VRels B s.heap xs' ys') {t:Nat}:St B G (σ.set a (.list xs')) { s with heap:=s.heap.update a (Obj.mapSeq f),toks:=t }∧TExt s.heap (s.heap.update a (Obj.mapSeq f)):=by
 have:=get?_update_seq hl f
 rw [hf] at this
 exact st.upd (ao':=.list xs') e rfl rfl (fun b o hb q=>(Heap.get?_update_other _ _ (Ne.symm hb)).trans q) fun tx=>⟨hn,ys',⟨_,this⟩,r.mono tx⟩
inductive OpenL (B:Base) (h:Heap) (a:Addr) (xs:List AV):Prop
 | mk:xs.length≤LIM→∀ ys n,h.get? a=some (seqObj "list" ys.toArray n)→VRels B h xs ys→OpenL B h a xs
theorem list_open (st:St B G σ s) {a:Addr} {xs:List AV} (e:σ a=some (.list xs)):OpenL B s.heap a xs:=by
 obtain ⟨hn,ys,⟨n,hl⟩,r⟩:=(st.objs _ _ e).1
 exact ⟨hn,ys,n,hl,r⟩
theorem setList_raw {l:Addr} {ys:List Value} {n:Nat} {k:Int} {t:Tok} {v:Value} {Q:Unit→Shared→Prop} (ho:s.heap.get? l=some (seqObj "list" ys.toArray n)) (h0:0≤k) (hfit:k < 2 ^ 63) (hn:k < ys.length)
 (hQ:Q () { s with heap:=s.heap.update l (Obj.mapSeq (·.setIfInBounds k.toNat v)) }):WP B A (setItem (.ref l) (.int k t) v) Q s:=by
 have hT:s.TypeIs (.ref l) "list" := ⟨_,ho,rfl⟩
 unfold setItem
 try with_reducible refine wpAny_holding ?_
 first | refine wpAny_bind (wpAny_pure ?_) | skip
 refine wpAny_bind (wpAny_sequenceKey hT (by decide) ?_)
 refine wpAny_bind (wpAny_callSpecial?_slot (name:=Str.ofString "__setitem__") hT PySem.slot_list_setitem
  (wpAny_call_entry PySem.slot_list_setitem hT PySem.entry_list_setitem ?_ (PySem.args_list_setitem _ _ _)))
 show wpAny _ _ (Builtin.List.listSubscript? (.int k t) >>= _) _ _ s
 refine wpAny_bind (wpAny_listSubscript_int (fitsIndex_of h0 hfit) ?_)
 clear hfit
 obtain ⟨j,rfl⟩:=Int.eq_ofNat_of_zero_le h0
 have hj:j < ys.toArray.size:=by simp;omega
 have hx':ys.toArray[j]?=some ys.toArray[j]:=Array.getElem?_eq_getElem hj
 refine wpAny_bind (wpAny_bind (wpAny_seqItemAt ho rfl (wpAny_pure ?_)))
 rw [hx']
 refine wpAny_bind (wpAny_setSeqItemAt ho rfl ?_)
 first
  | exact wpAny_bind (wpAny_pure (wpAny_pure ⟨.none,rfl,wpAny_pure hQ⟩))
  | exact wpAny_pure ⟨.none,rfl,wpAny_pure hQ⟩
theorem KRel.any {h:Heap} {k:Int} {kvs:List (Int × AV)} {vs:List (Int × Value)} (r:KRel B h kvs vs):(kvs.any fun p=>decide (p.1=k))=(vs.any fun kv=>decide (kv.1=k)):=by
 have e:∀ {α:Type} (l:List (Int × α)),(l.any fun p=>decide (p.1=k))=(l.map (·.1)).any fun j=>decide (j=k):=fun l=>by rw [List.any_map];rfl
 rw [e,e,r.keys]
theorem KRel.put {h:Heap} {k:Int} {x:AV} {v:Value} (q:VRel B h x v) {kvs:List (Int × AV)} {vs:List (Int × Value)} (r:KRel B h kvs vs):KRel B h (putD kvs k x) (stored vs k v):=by
 unfold putD stored
 rw [r.any]
 by_cases c:(vs.any fun kv=>decide (kv.1=k))=true
 · rw [if_pos c,if_pos c]
   clear c
   induction r with
   | nil=>exact .nil
   | @cons j x' v' xs vs q' r ih=>
    simp only [List.map_cons]
    by_cases e:j=k
    · rw [if_pos e,if_pos e];exact KRel.cons q ih
    · rw [if_neg e,if_neg e];exact KRel.cons q' ih
 · rw [if_neg c,if_neg c]
   clear c
   induction r with
   | nil=>exact .cons q .nil
   | cons q' r ih=>exact .cons q' ih
theorem KRel.without {h:Heap} {k:Int} {kvs:List (Int × AV)} {vs:List (Int × Value)} (r:KRel B h kvs vs):KRel B h (kvs.filter fun p=>decide (p.1≠k)) (PySem.without vs k):=by
 unfold PySem.without
 induction r with
 | nil=>exact .nil
 | @cons j x' v' xs vs q' r ih=>
  simp only [List.filter_cons]
  by_cases e:j=k
  · simpa [e] using ih
  · simpa [e] using KRel.cons q' ih
theorem dict_put_raw {dd:Addr} {vs:List (Int × Value)} {ep:Nat} {k:Int} {t:Tok} {v:Value} {Q:Unit→Shared→Prop} (hm:s.heap.DictAt (intKind B.prog B.w) dd vs ep)
 (hQ:∀ h' ep',((vs.any fun p=>decide (p.1=k))=true→ep'=ep)→h'.DictAt (intKind B.prog B.w) dd (stored vs k v) ep'→Heap.SameBut dd s.heap h'→Q () { s with heap:=h',toks:=s.toks+1 })
 (hsz:vs.length≤sizeLine):WP B A (dictSet dd (.int k t) v) Q s:=by
 have hkey:=intKind_is B.prog B.w k t
 by_cases hany:(vs.any fun p=>decide (p.1=k))=true
 · obtain ⟨o,es,ho,hc,hd,hk,hp,hn⟩:=hm
   unfold dictSet
   try with_reducible refine wpAny_holding ?_
   refine wpAny_bind ((intKind B.prog B.w).pyHash hkey ?_)
   unfold dictSetHashed
   try with_reducible refine wpAny_holding ?_
   refine wpAny_bind (wpAny_dictFind_of (s:={ s with toks:=s.toks+1 }) hkey ho hd hk ?_)
   have hidx:(es.findIdx? fun e=>(intKind B.prog B.w).is k e.key)=vs.findIdx? fun kv=>decide (kv.1=k):=by
    rw [← hp.findIdx k];obtain ⟨l⟩:=es;simp
   cases hi:es.findIdx? fun e=>(intKind B.prog B.w).is k e.key with
   | none=>
    exfalso
    rw [hi] at hidx
    have:=not_mem_of_findIdx_none hidx.symm
    rw [List.any_eq_true] at hany
    obtain ⟨p,hp1,hp2⟩:=hany
    exact this (List.mem_map.mpr ⟨p,hp1,of_decide_eq_true hp2⟩)
   | some i=>
    refine wpAny_bind (wpAny_rule (wpAny_bind (wpAny_updateDict (s:={ s with toks:=s.toks+1 }) ho hd (wpAny_point (hQ _ ep (fun _=>rfl) ⟨_,_,Heap.get?_update_self _ ho (Obj.isFreed_of_dict (Obj.data_mapDict hd _)),
     hc.mapDict _,Obj.data_mapDict hd _,hk.modify _ _,?_,?_⟩ (Heap.SameBut.update ..))))))
    · rw [stored,if_pos hany]
      have hl:(es.toList.findIdx? fun e=>(intKind B.prog B.w).is k e.key)=some i:=by rw [← hi];obtain ⟨l⟩:=es;simp
      have:=hp.modify hn hl v
      obtain ⟨l⟩:=es
      simpa using this
    · rw [stored,if_pos hany,keys_map_store];exact hn
 · exact wpAny_dictSet_pairs (hsz:=hsz) hkey (DictAt.dictOf' hm) fun h' ⟨o,es,ep',r1,r2,r3,r⟩ hs=>hQ h' ep' (fun q=>absurd q hany) ⟨o,es,r1,r2,r3,r⟩ hs
theorem dict_upd (st:St B G σ s) {a:Addr} {kvs kvs':List (Int × AV)} {vs':List (Int × Value)} {ep ep':Nat} {h':Heap} {t:Nat} (e:σ a=some (.dict kvs ep)) (hs:Heap.SameBut a s.heap h') (hd:h'.DictAt (intKind B.prog B.w) a vs' ep')
 (hn:kvs'.length≤LIM) (r:KRel B s.heap kvs' vs'):St B G (σ.set a (.dict kvs' ep')) { s with heap:=h',toks:=t }∧TExt s.heap h':=
 st.upd (ao':=.dict kvs' ep') e rfl rfl (fun b o hb q=>(hs.2 b hb).trans q) fun tx=>⟨hn,vs',hd,r.mono tx⟩
theorem putD_len {kvs:List (Int × AV)} {k:Int} {x:AV} (h:kvs.length < LIM):(putD kvs k x).length≤LIM:=by
 unfold putD
 by_cases c:(kvs.any fun p=>decide (p.1=k))=true
 · rw [if_pos c,List.length_map];exact Nat.le_of_lt h
 · rw [if_neg c,List.length_append];exact h
theorem setI_op (hB:BaseOk B) (st:St B G σ s) {o i x:AV} {ov iv v:Value} (ro:VRel B s.heap o ov) (ri:VRel B s.heap i iv) (rx:VRel B s.heap x v) {Q:AH→Prop} (h:setIW o i x Q σ):
 WP B A (setItem ov iv v) (fun _=>PostU B G s.heap Q) s:=by
 replace h:=asR_inv h
 obtain ⟨a,rfl,h⟩:=h
 replace h:=asI_inv h
 obtain ⟨k,rfl,h⟩:=h
 obtain rfl:=ro.refI
 obtain ⟨t,rfl⟩:=ri.intI
 obtain ⟨ao,hσ,h⟩:=som_inv h
 cases ao with
 | list xs=>
  obtain ⟨h0,h1,h⟩:=h
  obtain ⟨hn,ys,n,hl,rr⟩:=list_open st hσ
  have hlen:=rr.length
  have hf:=LIM_fit hn
  refine setList_raw hl h0 (by lia) (by lia) ?_
  obtain ⟨st',tx⟩:=list_upd (t:=s.toks) (xs':=xs.set k.toNat x) (ys':=ys.set k.toNat v) st hσ hl (·.setIfInBounds k.toNat v) (List.setIfInBounds_toArray ..) (by rw [List.length_set];exact hn) (rr.set rx _)
  exact ⟨_,h,st',tx⟩
 | dict kvs ep=>
  obtain ⟨hlt,h⟩:=h
  obtain ⟨hn,vs,hd,hk⟩:=(st.objs _ _ hσ).1
  have hT:=(DictAt.dictOf' hd).typeIs
  unfold setItem
  try with_reducible refine wpAny_holding ?_
  refine wpAny_bind (wpAny_sequenceKey hT (by decide) ?_)
  refine wpAny_bind (wpAny_callSpecial?_slot (name:=Str.ofString "__setitem__") hT slot_dict_setitem
   (wpAny_call_entry slot_dict_setitem hT entry_dict_setitem ?_ (args_dict_setitem _ _ _)))
  refine wpAny_bind (wpAny_notOrdered_dict hT ?_)
  show wpAny _ _ (dictSet a (.int k t) v >>= _) _ _ s
  refine wpAny_bind (dict_put_raw hd (fun h' ep' hep hd' hs=>wpAny_pure ⟨.none,rfl,wpAny_pure ?_⟩) (by rw [← hk.len];exact LIM_line hn))
  obtain ⟨st',tx⟩:=dict_upd (t:=s.toks+1) st hσ hs hd' (putD_len hlt) (hk.put rx)
  exact ⟨_,h ep' (fun q=>hep (hk.any ▸ q)),st',tx⟩
 | _=>exact h.elim
theorem putA_lookup {fs:List (Str × AV)} {x y:Str} {v:AV}:(putA fs x v).lookup y=if y=x then some v else fs.lookup y:=by
 induction fs with
 | nil=>
  by_cases e:y=x
  · simp [putA,e]
  · simp [putA,List.lookup,e,beq_eq_false_iff_ne.mpr e]
 | cons p r ih=>
  obtain ⟨z,u⟩:=p
  unfold putA
  by_cases e:z=x
  · subst e
    rw [if_pos rfl]
    by_cases e2:y=z
    · subst e2;simp
    · simp [List.lookup,beq_eq_false_iff_ne.mpr e2,e2]
  · rw [if_neg e]
    by_cases e2:y=z
    · subst e2;rw [if_neg e];simp
    · simp only [List.lookup,beq_eq_false_iff_ne.mpr e2];exact ih
theorem ARel.some {h:Heap} {u:Option AV} {v:Option Value} (r:ARel B h u v):v.isSome=u.isSome:=by
 cases u <;> cases v <;> first | rfl | exact r.elim
theorem putA_len {fs:List (Str × AV)} {x:Str} {v:AV}:(if (fs.lookup x).isSome=true then fs.length else fs.length+1)=(putA fs x v).length:=by
 induction fs with
 | nil=>rfl
 | cons p r ih=>
  obtain ⟨z,u⟩:=p
  show _=(if z=x then (z,v)::r else (z,u)::putA r x v).length
  by_cases e:z=x
  · rw [if_pos e,e,List.lookup_cons,beq_self_eq_true];rfl
  · rw [if_neg e,List.lookup_cons,beq_eq_false_iff_ne.mpr (fun q=>e q.symm)]
    show (if (r.lookup x).isSome=true then r.length+1 else r.length+1+1)=(putA r x v).length+1
    rw [← ih]
    by_cases c:(r.lookup x).isSome=true
    · rw [if_pos c,if_pos c]
    · rw [if_neg c,if_neg c]
theorem putA_mem {fs:List (Str × AV)} {x:Str} {v:AV} {p:Str × AV} (h:p ∈ putA fs x v):p.1=x∨∃ q ∈ fs,q.1=p.1:=by
 induction fs with
 | nil=>simp [putA] at h;exact .inl (by rw [h])
 | cons q r ih=>
  obtain ⟨z,u⟩:=q
  unfold putA at h
  split at h
  · rename_i e
    rcases List.mem_cons.mp h with rfl | h
    · exact .inl e
    · exact .inr ⟨p,List.mem_cons_of_mem _ h,rfl⟩
  · rcases List.mem_cons.mp h with rfl | h
    · exact .inr ⟨(z,u),List.mem_cons_self ..,rfl⟩
    · rcases ih h with h | ⟨q,h1,h2⟩
      · exact .inl h
      · exact .inr ⟨q,List.mem_cons_of_mem _ h1,h2⟩
theorem nsSet_le {dx:Addr} {mm:Str→Option Value} {f:Str} {v:Value} {n:Nat} {E:Value→Shared→Prop} {Q:Unit→Shared→Prop} (hn:s.heap.Ns dx mm) (hle:s.heap.DictLe dx n)
 (h:∀ h',h'.Ns dx (fun x=>if x=f then some v else mm x)→Heap.SameBut dx s.heap h'→h'.DictLe dx (if (mm f).isSome=true then n else n+1)→Q () { s with heap:=h',toks:=s.toks+1 }):
 wpAny (model B.prog B.w) A (nsSet dx f v) Q E s:=by
 obtain ⟨o,es,ep,ho,hd,hk,hm⟩:=id hn
 have hsz:=hle _ _ _ ho hd
 refine wpAny_bind (wpAny_bind (wpAny_askSetting (wpAny_pure (wpAny_bind (wpAny_mkText (wpAny_bind (wpAny_loadPart ho ?_)))))))
 have hany:es.any (·.refKey)=false:=by
  rw [Array.any_eq_false'];intro e he;obtain ⟨n,t,h⟩:=hk e he;simp [DictEntry.refKey,h]
 rw [hd]
 dsimp only
 have c:(!es.any (·.key.isStr f) && es.any (·.refKey))=false:=by rw [hany,Bool.and_false]
 rw [aRefKeyMayBeTheName_at,c]
 obtain ⟨cc,dd,dt,sl⟩:=o
 subst hd
 cases hi:es.findIdx? (·.key.isStr f) with
 | some i=>
  have e1:=fun (hsh:Int) (key:Value)=>Heap.get?_update_self (Obj.putName f hsh key v) ho (by simp only [Obj.putName_eq,Obj.putNameByArray,hi];rfl)
  simp only [Obj.putName_eq,Obj.putNameByArray,hi] at e1
  refine wpAny_updatePart ho (h _ ⟨_,_,ep,by rw [Obj.putName_eq];exact e1 _ _,rfl,hk.modify _ _,fun x=>?_⟩ (Heap.SameBut.update ..) ?_)
  · show _=if x=f then some v else mm x
    rw [← hm];exact findBy_modify (fun n v=>v.isStr n) Value.isStr_inj es f x v i hi
  · intro o' es' ep' h1 h2
    rw [Obj.putName_eq] at h1
    rw [e1] at h1
    (injection h1 with z0;subst z0);(injection h2 with z0 z1;subst z0;subst z1)
    rw [Array.size_modify]
    split <;> omega
 | none=>
  have e1:=fun (hsh:Int) (key:Value)=>Heap.get?_update_self (Obj.putName f hsh key v) ho (by simp only [Obj.putName_eq,Obj.putNameByArray,hi];rfl)
  simp only [Obj.putName_eq,Obj.putNameByArray,hi] at e1
  refine wpAny_updatePart ho (h _ ⟨_,_,ep+1,by rw [Obj.putName_eq];exact e1 _ _,rfl,hk.push _ _ _ _,fun x=>?_⟩ (Heap.SameBut.update ..) ?_)
  · show _=if x=f then some v else mm x
    rw [← hm]
    exact findBy_push (fun n v=>v.isStr n) es f x _ _ v (fun y=>by
     show (f == y)=decide (y=f)
     by_cases h:y=f
     · subst h;simp
     · have:¬ f=y:=fun e=>h e.symm
       simp [h,this]) hi
  · intro o' es' ep' h1 h2
    rw [Obj.putName_eq] at h1
    rw [e1] at h1
    (injection h1 with z0;subst z0);(injection h2 with z0 z1;subst z0;subst z1)
    have hno:mm f=none:=by
     rw [← hm]
     unfold nsFind findBy
     rw [Array.find?_eq_none.mpr]
     · rfl
     · intro e he
       simpa using Array.findIdx?_eq_none_iff.mp hi e he
    rw [hno,Array.size_push,if_neg (by simp)]
    omega
theorem setA_op (hB:BaseOk B) (hA:Γ.attrOk=B.attrOk) (st:St B G σ s) {o x:AV} {ov v:Value} {f:Str} (ro:VRel B s.heap o ov) (rx:VRel B s.heap x v) {Q:AH→Prop} (h:setAW Γ o f x Q σ):
 WP B A (setAttr ov f v) (fun _=>PostU B G s.heap Q) s:=by
 replace h:=attAt_inv h
 obtain ⟨C',dx,fs,rfl,hσ,hat,hlt,h⟩:=h
 rw [hA] at hat
 obtain ⟨a,rfl,ha,hC⟩:=ro.objI
 obtain ⟨hok,hle,mm,hns,hr⟩:=(st.objs _ _ hσ).1
 obtain ⟨od,es,ep,hod,hdd,hks,hf⟩:=id hns
 obtain ⟨g1,g2,g3⟩:=hB.clsGet _ _ hC hat
 obtain ⟨a1,a2,a3⟩:=hB.clsAll _ hC
 obtain ⟨hh,gg,dr,tk,os⟩:=s
 have X:B.K.In hh:=st.K hB
 have I:InstAt hh a (instObj C' dx) C' (some od):=⟨ha,rfl,rfl,hod⟩
 refine set_plain X I a2 ?_
 refine osa_open (s:=⟨hh,gg,dr,tk+1,os⟩) X I a3 g3 fun b=>?_
 obtain ⟨cd,hc,hd'⟩:=any_some a1
 refine wpAny_bind (wpAny_pure (wpAny_bind (wpAny_bind (wpAny_loadPart ha (wpAny_bind ((looks_clsIn X hc).here ?_))))))
 rw [hd']
 refine wpAny_pure (a:=some dx) (wpAny_bind (wpAny_pure (wpAny_bind ?_)))
 refine nsSet_le (s:=⟨hh,gg,dr,tk+1,os⟩) hns hle fun h' hn' hs hle'=>?_
 have hcnt:(if (mm f).isSome=true then fs.length else fs.length+1)=(putA fs f x).length:=by
  rw [(hr f).some];exact putA_len
 obtain ⟨st',tx⟩:=st.upd (ao':=.attrs C' (putA fs f x)) (h':=h') (t:=tk+1+1) hσ rfl rfl (fun b o hb q=>(hs.2 b hb).trans q) fun tx=>by
  refine ⟨fun p hp=>?_,by rw [← hcnt];exact hle',_,hn',fun y=>?_⟩
  · rcases putA_mem hp with e | ⟨q,q1,q2⟩
    · rw [e];exact hat
    · rw [← q2];exact hok q q1
  · rw [putA_lookup]
    by_cases e:y=f
    · rw [if_pos e,if_pos e];exact rx.mono tx
    · rw [if_neg e,if_neg e];exact (hr y).mono tx
 obtain ⟨o',es',ep',ho',hd',_⟩:=hn'
 refine wpAny_bind (wpAny_lookBehind (s:=⟨h',gg,dr,tk+1+1,os⟩) ho' (by
  rw [hd'];refine pastItsLine_dict (Nat.le_trans (hle' _ _ _ ho' hd') ?_)
  split <;> (rw [sizeLine_eq];omega)) ?_)
 exact wpAny_pure ⟨_,h,st',tx⟩
end
section
variable {B:Base} {d:Nat} {T:Tab} {Γ:Gam} {sc:Sc} {env:Env} {G G':Addr→Option Obj} {A:Around} {m:Env'} {σ:AH} {s:Shared}
noncomputable def bmName:BM→Str
 | .append => "append" | .extendRev => "extend" | .insert => "insert" | .pop => "pop" | .reverse => "reverse" | .get => "get" | .setdefault => "setdefault"
noncomputable def bmIdL:BM→String
 | .append => "list.append" | .extendRev => "list.extend" | .insert => "list.insert" | .pop => "list.pop" | .reverse => "list.reverse"
 | _ => ""
noncomputable def bmIdD:BM→String
 | .get => "dict.get" | .setdefault => "dict.setdefault" | .pop => "dict.pop"
 | _ => ""
noncomputable def bmId:AO→BM→String
 | .list _=>bmIdL
 | _=>bmIdD
theorem bm?_name {f:Str} {b:BM} (h:bm? f=some b):f=bmName b∧b≠.extendRev:=by
 have key:∀ p ∈ bmT,p.1=bmName p.2∧p.2≠.extendRev:=by decide
 exact key _ (find?_mem h)
theorem meth_of (hB:BaseOk B) (st:St B G σ s) {a:Addr} {ao:AO} (hσ:σ a=some ao) {b:BM} (hb:bmOk b ao) {pl:Sem Bool} {Q:Value × List Value→Shared→Prop} (h:Q (.builtin (bmId ao b),[.ref a]) s):
 WP B A (getMethod (.ref a) (bmName b) pl) Q s:=by
 cases ao with
 | list xs=>
  obtain ⟨hn,ys,n,hl,r⟩:=list_open st hσ
  have hT:s.TypeIs (.ref a) "list" := ⟨_,hl,rfl⟩
  have hd:∀ c,Value.ref a=.ref c→∃ o,s.heap.get? c=some o∧o.dict=none:=fun c e=>by (injection e with z0;subst z0);exact ⟨_,hl,rfl⟩
  cases b with
  | append=>exact getMethod_builtin hT PySem.F.plainAttrs_list PySem.F.slot_list_append PySem.F.type_list_append hd h
  | extendRev=>exact getMethod_builtin hT PySem.F.plainAttrs_list PySem.F.slot_list_extend PySem.F.type_list_extend hd h
  | insert=>exact getMethod_builtin hT PySem.F.plainAttrs_list PySem.F.slot_list_insert PySem.F.type_list_insert hd h
  | pop=>exact getMethod_builtin hT PySem.F.plainAttrs_list PySem.F.slot_list_pop PySem.F.type_list_pop hd h
  | reverse=>exact getMethod_builtin hT PySem.F.plainAttrs_list PySem.F.slot_list_reverse PySem.F.type_list_reverse hd h
  | get=>exact absurd rfl hb.1
  | setdefault=>exact absurd rfl hb.2
 | dict kvs ep=>
  obtain ⟨hn,vs,hd,hk⟩:=(st.objs _ _ hσ).1
  have hD:=DictAt.dictOf' hd
  have hT:=hD.typeIs
  cases b with
  | get=>exact getMethod_builtin hT PySem.F.plainAttrs_dict PySem.F.slot_dict_get PySem.F.type_dict_get hD.mapOf.noDict h
  | setdefault=>exact getMethod_builtin hT PySem.F.plainAttrs_dict PySem.F.slot_dict_setdefault PySem.F.type_dict_setdefault hD.mapOf.noDict h
  | pop=>exact getMethod_builtin hT PySem.F.plainAttrs_dict PySem.F.slot_dict_pop PySem.F.type_dict_pop hD.mapOf.noDict h
  | _=>rcases hb with hb | hb | hb <;> injection hb
 | _=>exact hb.elim
theorem setdefault_raw {dd:Addr} {vs:List (Int × Value)} {k:Int} {t:Tok} {v:Value} {Q:Value→Shared→Prop} (hd:(dd == sysModules)=false) (hm:s.heap.DictOf (intKind B.prog B.w) dd vs)
 (h1:∀ x,valueAt vs k=some x→Q x { s with toks:=s.toks+1 })
 (h2:valueAt vs k=none→∀ h' ep',h'.DictAt (intKind B.prog B.w) dd (vs++[(k,v)]) ep'→Heap.SameBut dd s.heap h'→Q v { s with heap:=h',toks:=s.toks+1 })
 (hsz:vs.length≤sizeLine):WP B A (call (.builtin "dict.setdefault") [.ref dd,.int k t,v]) Q s:=by
 have hkey:=intKind_is B.prog B.w k t
 have hT:=hm.typeIs
 refine wpAny_call_entry PySem.F.slot_dict_setdefault hT PySem.F.entry_dict_setdefault ?_ (PySem.F.args_dict_setdefault_3 _ _ _)
 unfold Builtin.«dict.setdefault»
 refine wpAny_bind ?_
 refine wpAny_bind (wpAny_notOrdered_dict hT ?_)
 refine wpAny_pure ?_
 show wpAny _ _ (if (dd == sysModules)=true then _ else (dictSetDefault dd (Value.int k t) v >>= _)) _ _ s
 rw [if_neg (by rw [hd];exact Bool.false_ne_true)]
 refine wpAny_bind ?_
 obtain ⟨o,es,ep,ho,hc,hdat,hk,hp,hn⟩:=hm
 have hes:es.size≤sizeLine:=by rw [← Array.length_toList,hp.length];exact hsz
 unfold dictSetDefault
 try with_reducible refine wpAny_holding ?_
 refine wpAny_bind ((intKind B.prog B.w).pyHash hkey ?_)
 refine wpAny_bind (wpAny_dictFind_of (s:={ s with toks:=s.toks+1 }) hkey ho hdat hk ?_)
 cases hi:es.findIdx? fun e=>(intKind B.prog B.w).is k e.key with
 | some i=>
  have hl:(es.toList.findIdx? fun e=>(intKind B.prog B.w).is k e.key)=some i:=by rw [← hi];obtain ⟨l⟩:=es;simp
  obtain ⟨e,he,hek,hev⟩:=hp.at hl
  refine wpAny_bind (wpAny_dictEntries (s:={ s with toks:=s.toks+1 }) ho hdat ?_)
  have he':es[i]?=some e:=by rw [← he];obtain ⟨l⟩:=es;simp
  rw [he']
  exact wpAny_bind (wpAny_rule (wpAny_pure (wpAny_pure ⟨e.val,rfl,h1 _ hev⟩)))
 | none=>
  have hnone:valueAt vs k=none:=by
   rw [← hp.find k]
   have:(es.toList.find? fun e=>(intKind B.prog B.w).is k e.key)=none:=by
    rw [List.find?_eq_none]
    intro e he
    have:=Array.findIdx?_eq_none_iff.mp hi e (Array.mem_toList_iff.mp he)
    simpa using this
   rw [this];rfl
  have hidx:(es.findIdx? fun e=>(intKind B.prog B.w).is k e.key)=vs.findIdx? fun kv=>decide (kv.1=k):=by
   rw [← hp.findIdx k];obtain ⟨l⟩:=es;simp
  have hnot:k ∉ vs.map (·.1):=not_mem_of_findIdx_none (hidx ▸ hi)
  refine wpAny_bind (wpAny_rule (wpAny_bind (wpAny_updateDictKeys (hz:=hes) (s:={ s with toks:=s.toks+1 }) ho hdat (wpAny_pure (wpAny_pure ⟨v,rfl,h2 hnone _ (ep+1) ⟨_,_,Heap.get?_update_self _ ho (Obj.isFreed_of_dict (Obj.data_mapDictKeys hdat _)),
   hc.mapDictKeys _,Obj.data_mapDictKeys hdat _,hk.push hkey _,?_,?_⟩ (Heap.SameBut.update ..)⟩)))))
  · have:=hp.append hkey ((intKind B.prog B.w).hash k) v
    obtain ⟨l⟩:=es
    simpa using this
  · rw [List.map_append,List.nodup_append]
    refine ⟨hn,by simp,?_⟩
    intro a ha b hb
    simp only [List.map_cons,List.map_nil,List.mem_singleton] at hb
    subst hb
    exact fun e=>hnot (e ▸ ha)
inductive LookI (B:Base) (h:Heap) (p:Option AV) (q:Option Value):Prop
 | inl (x:AV) (v:Value):p=some x→q=some v→VRel B h x v→LookI B h p q
 | inr:p=none→q=none→LookI B h p q
theorem KRel.lookup {h:Heap} {k:Int} {kvs:List (Int × AV)} {vs:List (Int × Value)} (r:KRel B h kvs vs):LookI B h (kvs.lookup k) (valueAt vs k):=by
 cases e:kvs.lookup k with
 | none=>exact .inr rfl (r.at.2 e)
 | some x=>obtain ⟨v,h1,h2⟩:=r.at.1 _ e;exact .inl x v rfl h1 h2
theorem KRel.snoc {h:Heap} {k:Int} {x:AV} {v:Value} (q:VRel B h x v) {kvs:List (Int × AV)} {vs:List (Int × Value)} (r:KRel B h kvs vs):KRel B h (kvs++[(k,x)]) (vs++[(k,v)]):=by
 induction r with
 | nil=>exact .cons q .nil
 | cons q' r ih=>exact .cons q' ih
theorem extract_take (ys:List Value) (k:Nat) (v:Value) (hk:k≤ys.length):(ys.toArray.extract 0 k).push v++ys.toArray.extract k=(ys.take k++v::ys.drop k).toArray:=by
 apply Array.ext'
 simp only [Array.toList_append,Array.toList_push,Array.toList_extract,List.extract_eq_drop_take',List.size_toArray]
 simp
theorem bm_opL (hB:BaseOk B) (a:AOk A d) (st:St B G σ s) {p:Addr} {xs:List AV} (hσ:σ p=some (.list xs)) {b:BM} (hb:b≠.extendRev) {avs:List AV} {vs:List Value} (r:VRels B s.heap avs vs) {Q:AV→AH→Prop} (h:bmL b p xs avs Q σ):
 WP B A (call (.builtin (bmIdL b)) (.ref p::vs)) (Post B G s.heap Q) s:=by
 obtain ⟨hn,ys,n,hl,rr⟩:=list_open st hσ
 have hT:s.TypeIs (.ref p) "list" := ⟨_,hl,rfl⟩
 have hlen:=rr.length
 have hline:ys.toArray.size≤sizeLine:=by rw [List.size_toArray,← hlen];exact LIM_line hn
 cases b with
 | append=>
  replace h:=oneA_inv h;obtain ⟨w,rfl,h⟩:=h
  obtain ⟨v,rfl,rv⟩:=r.one
  obtain ⟨hlt,h⟩:=h
  refine wpAny_call_entry PySem.F.slot_list_append hT entry_list_append ?_ (args_list_append _ _)
  show wpAny _ _ (updateSeq p (·.push v) >>= fun _=>ret .none) _ _ s
  refine wpAny_bind ?_
  refine wpAny_updateSeq hl rfl (wpAny_pure ⟨.none,rfl,?_⟩) hline (by show (ys.toArray.push v).size≤_;rw [Array.size_push];lia)
  obtain ⟨st',tx⟩:=list_upd (t:=s.toks) (xs':=xs++[_]) (ys':=ys++[v]) st hσ hl (·.push v) (by simp) (by simp;lia) (rr.append (.cons rv .nil))
  exact ⟨_,_,h,.none,st',tx⟩
 | extendRev=>exact absurd rfl hb
 | insert=>
  cases avs with
  | nil=>exact h.elim
  | cons w avs=>
  replace h:=asI_inv h;obtain ⟨k,rfl,h⟩:=h
  replace h:=oneA_inv h;obtain ⟨x,rfl,h⟩:=h
  obtain ⟨v,u,rfl,rv,ru⟩:=r.two
  obtain ⟨t,rfl⟩:=rv.intI
  obtain ⟨h0,h1,hlt,h⟩:=h
  refine call_meets PySem.F.slot_list_insert hT PySem.F.entry_list_insert (PySem.F.args_list_insert_3 _ _ _) (AutoListH.list_insert_list_int_val_1 p ys.toArray n k t u (by simp [Builtin.List.listFitsIndex];unfold LIM at hn;lia) hline) ⟨hl,?_⟩
  obtain ⟨st',tx⟩:=list_upd (t:=s.toks) (xs':=xs.take k.toNat++x::xs.drop k.toNat) (ys':=ys.take k.toNat++u::ys.drop k.toNat) st hσ hl
   (fun xs=>have k:=if k < 0 then (k+((xs.size:Nat):Int)).toNat else min k.toNat xs.size;(xs.extract 0 k).push u++xs.extract k)
   (by
    rw [if_neg (by lia),List.size_toArray,Nat.min_eq_left (by lia)]
    exact extract_take _ _ _ (by lia)) (by simp;lia) ((rr.take _).append (.cons ru (rr.drop _)))
  exact ⟨_,_,h,.none,st',tx⟩
 | pop=>
  cases avs with
  | nil=>
   obtain rfl:=r.zero
   replace h:=som_inv h;obtain ⟨x,hx,h⟩:=h
   have hne:xs≠[]:=by intro e;rw [e] at hx;simp at hx
   have e1:xs=xs.dropLast++[x]:=by
    have:=List.dropLast_concat_getLast hne
    rw [List.getLast?_eq_some_getLast hne] at hx
    (injection hx with z0;subst z0);exact this.symm
   have hlt:xs.length - 1 < xs.length:=Nat.sub_lt (List.length_pos_iff.mpr hne) Nat.one_pos
   obtain ⟨v,hv,rv⟩:=rr.get (i:=xs.length - 1) (by rw [← List.getLast?_eq_getElem?];exact hx)
   have hv':ys.toArray[ys.toArray.size - 1]?=some v:=by simpa [← hlen] using hv
   refine call_meets PySem.F.slot_list_pop hT PySem.F.entry_list_pop (PySem.F.args_list_pop_1 _) (PySem.MeetsSeq.list_pop_last p _ n v hv' hline) ⟨hl,?_⟩
   obtain ⟨st',tx⟩:=list_upd (t:=s.toks) (xs':=xs.dropLast) (ys':=ys.dropLast) st hσ hl (fun xs=>xs.eraseIdxIfInBounds (ys.toArray.size - 1))
    (by
     apply Array.ext'
     rw [List.size_toArray]
     simp only [List.eraseIdxIfInBounds_toArray]
     rw [List.eraseIdx_length_sub_one]) (by simp;lia) (by rw [List.dropLast_eq_take,List.dropLast_eq_take,hlen];exact rr.take _)
   exact ⟨_,_,h,rv.mono tx,st',tx⟩
  | cons w avs=>
   replace h:=nil0_inv h;obtain ⟨rfl,h⟩:=h
   replace h:=asI_inv h;obtain ⟨k,rfl,h⟩:=h
   obtain ⟨v,rfl,rv⟩:=r.one
   obtain ⟨t,rfl⟩:=rv.intI
   obtain ⟨rfl,h⟩:=h
   cases xs with
   | nil=>exact h.elim
   | cons x rest=>
   cases rr with
   | @cons _ v _ vs rv rr=>
   refine call_meets PySem.F.slot_list_pop hT PySem.F.entry_list_pop (PySem.F.args_list_pop_2 _ _) (PySem.MeetsSeq.list_pop_at p _ n 0 t 0 v rfl (seqIdx_pos (by decide) (by simp)) (by simp) hline) ⟨hl,?_⟩
   obtain ⟨st',tx⟩:=list_upd (t:=s.toks) (xs':=rest) (ys':=vs) st hσ hl (fun xs=>xs.eraseIdxIfInBounds 0) (by apply Array.ext';simp) (by simp at hn;lia) rr
   exact ⟨_,_,h,rv.mono tx,st',tx⟩
 | reverse=>
  replace h:=nil0_inv h;obtain ⟨rfl,h⟩:=h
  obtain rfl:=r.zero
  refine call_meets PySem.F.slot_list_reverse hT PySem.F.entry_list_reverse (PySem.F.args_list_reverse_1 _) (AutoListH.list_reverse_list_0 p _ n hline) ⟨hl,?_⟩
  obtain ⟨st',tx⟩:=list_upd (t:=s.toks) (xs':=xs.reverse) (ys':=ys.reverse) st hσ hl (fun x=>x.reverse) (by simp) (by simpa using hn) rr.reverse
  exact ⟨_,_,h,.none,st',tx⟩
 | _=>exact h.elim
theorem bm_opD (hB:BaseOk B) (a:AOk A d) (st:St B G σ s) {p:Addr} {kvs:List (Int × AV)} {ep:Nat} (hσ:σ p=some (.dict kvs ep)) {b:BM} {avs:List AV} {vs:List Value} (r:VRels B s.heap avs vs) {Q:AV→AH→Prop} (h:bmD b p kvs avs Q σ):
 WP B A (call (.builtin (bmIdD b)) (.ref p::vs)) (Post B G s.heap Q) s:=by
 obtain ⟨hn,ws,hd,hk⟩:=(st.objs _ _ hσ).1
 have hD:=DictAt.dictOf' hd
 have hT:=hD.typeIs
 have ns:=not_sys hB st hσ rfl
 cases b with
 | get=>
  cases avs with
  | nil=>exact h.elim
  | cons w avs=>
  replace h:=asI_inv h;obtain ⟨k,rfl,h⟩:=h
  replace h:=oneA_inv h;obtain ⟨x,rfl,h⟩:=h
  obtain ⟨v,u,rfl,rv,ru⟩:=r.two
  obtain ⟨t,rfl⟩:=rv.intI
  refine call_meetsIn PySem.F.slot_dict_get hT PySem.F.entry_dict_get (PySem.F.args_dict_get_3 _ _ _) (meets_dict_get_default (intKind B.prog B.w) p (intKind_is B.prog B.w _ t) ns u) ⟨_,hD.mapOf,?_⟩
  rcases hk.lookup with ⟨x,v,e1,e2,q⟩ | ⟨e1,e2⟩
  · rw [e1] at h;rw [e2];exact ⟨_,σ,h,q,st.toks,.refl _⟩
  · rw [e1] at h;rw [e2];exact ⟨_,σ,h,ru,st.toks,.refl _⟩
 | setdefault=>
  cases avs with
  | nil=>exact h.elim
  | cons w avs=>
  replace h:=asI_inv h;obtain ⟨k,rfl,h⟩:=h
  replace h:=oneA_inv h;obtain ⟨x,rfl,h⟩:=h
  obtain ⟨v,u,rfl,rv,ru⟩:=r.two
  obtain ⟨t,rfl⟩:=rv.intI
  obtain ⟨hlt,h⟩:=h
  refine setdefault_raw ns hD (fun x hx=>?_) (fun hx h' ep' hd' hs=>?_) (by rw [← hk.len];exact LIM_line hn)
  · rcases hk.lookup with ⟨y,v,e1,e2,q⟩ | ⟨e1,e2⟩
    · rw [e1] at h
      rw [hx] at e2;(injection e2 with z0;subst z0)
      exact ⟨_,σ,h,q,st.toks,.refl _⟩
    · rw [e2] at hx;injection hx
  · rcases hk.lookup with ⟨y,v,e1,e2,q⟩ | ⟨e1,e2⟩
    · rw [e2] at hx;injection hx
    · rw [e1] at h
      obtain ⟨st',tx⟩:=dict_upd (t:=s.toks+1) st hσ hs hd' (by simp;lia) (hk.snoc ru)
      exact ⟨_,_,h ep',ru.mono tx,st',tx⟩
 | pop=>
  replace h:=oneA_inv h;obtain ⟨w,rfl,h⟩:=h
  replace h:=asI_inv h;obtain ⟨k,rfl,h⟩:=h
  obtain ⟨v,rfl,rv⟩:=r.one
  obtain ⟨t,rfl⟩:=rv.intI
  rcases hk.lookup with ⟨y,v,e1,e2,q⟩ | ⟨e1,e2⟩
  · rw [e1] at h
    refine call_meetsIn PySem.F.slot_dict_pop hT PySem.F.entry_dict_pop (PySem.F.args_dict_pop_2 _ _) (meets_dict_pop_there (intKind B.prog B.w) p (intKind_is B.prog B.w _ t) [] (.inl rfl) rfl) ⟨_,_,hD,by rw [← hk.len];exact LIM_line hn,e2,fun h' hd' hs=>?_⟩
    obtain ⟨o,es,ep',r1,r2,r3,rr⟩:=hd'
    obtain ⟨st',tx⟩:=dict_upd (t:=s.toks+1) (ep':=ep') st hσ hs ⟨o,es,r1,r2,r3,rr⟩ (Nat.le_trans (List.length_filter_le _ _) hn) hk.without
    exact ⟨_,_,h ep',q.mono tx,st',tx⟩
  · rw [e1] at h;exact h.elim
 | _=>exact h.elim
theorem bm_op (hB:BaseOk B) (a:AOk A d) (st:St B G σ s) {p:Addr} {ao:AO} (hσ:σ p=some ao) {b:BM} (hb:b≠.extendRev) {avs:List AV} {vs:List Value} (r:VRels B s.heap avs vs) {Q:AV→AH→Prop} (h:bmA b p ao avs Q σ):
 WP B A (call (.builtin (bmId ao b)) (.ref p::vs)) (Post B G s.heap Q) s:=by
 cases ao with
 | list xs=>exact bm_opL hB a st hσ hb r h
 | dict kvs ep=>exact bm_opD hB a st hσ r h
 | _=>exact h.elim
end
theorem rv_owner:Manifest.owners.lookup (String.ofList ['d','e','s','r','e','v','e','r'].reverse)=some Manifest.sig_reversed:=by kernel_rfl
theorem rv_slot_next:Slot "reversed" "__next__" "reversed.__next__" :=
 .of (owner := "reversed") (n := "__next__") (by rw [typeLookup_type,builtinLookup_eq_fast];kernel_rfl) (by decide +kernel) (by decide +kernel) (by decide +kernel)
  (by first | exact .inl (by decide +kernel) | exact .inr (by decide +kernel)) (by rw [isSubtype_type];kernel_rfl)
theorem rv_entry_next:entryFor table "reversed.__next__" = some Builtin.«reversed.__next__»:=entryFor_of_tree (by kernel_rfl)
theorem rv_args_next (a:Value):argsOk "reversed.__next__" ⟨[a],[]⟩:=by
 unfold argsOk;rw [signature?_of (id := "reversed.__next__") (n:=['_','_','t','x','e','n','_','_']) (o:=['d','e','s','r','e','v','e','r']) (by kernel_rfl) rv_owner];kernel_rfl
theorem rv_slot_iter:Slot "reversed" "__iter__" "reversed.__iter__" :=
 .of (owner := "reversed") (n := "__iter__") (by rw [typeLookup_type,builtinLookup_eq_fast];kernel_rfl) (by decide +kernel) (by decide +kernel) (by decide +kernel)
  (by first | exact .inl (by decide +kernel) | exact .inr (by decide +kernel)) (by rw [isSubtype_type];kernel_rfl)
theorem rv_args_iter (a:Value):argsOk "reversed.__iter__" ⟨[a],[]⟩:=by
 unfold argsOk;rw [signature?_of (id := "reversed.__iter__") (n:=['_','_','r','e','t','i','_','_']) (o:=['d','e','s','r','e','v','e','r']) (by kernel_rfl) rv_owner];kernel_rfl
theorem rv_entry_iter:entryFor table "reversed.__iter__" = some Builtin.«dict_keyiterator.__iter__»:=
 entryFor_alias (id' := "dict_keyiterator.__iter__") (by rw [fastTable_eq_tree];kernel_rfl) (by first | rfl | decide +kernel | (unfold String.splitOn;simp +decide [String.splitOnAux])) (by decide +kernel) (by rw [fastTable_eq_tree];kernel_rfl)
theorem rv_slot_hint:Slot "reversed" "__length_hint__" "reversed.__length_hint__" :=
 .of (owner := "reversed") (n := "__length_hint__") (by rw [typeLookup_type,builtinLookup_eq_fast];kernel_rfl) (by decide +kernel) (by decide +kernel) (by decide +kernel)
  (by first | exact .inl (by decide +kernel) | exact .inr (by decide +kernel)) (by rw [isSubtype_type];kernel_rfl)
theorem rv_entry_hint:entryFor table "reversed.__length_hint__" = some Builtin.«reversed.__length_hint__»:=entryFor_of_tree (by kernel_rfl)
theorem rv_args_hint (a:Value):argsOk "reversed.__length_hint__" ⟨[a],[]⟩:=by
 unfold argsOk;rw [signature?_of (id := "reversed.__length_hint__") (n:=['_','_','t','n','i','h','_','h','t','g','n','e','l','_','_']) (o:=['d','e','s','r','e','v','e','r']) (by kernel_rfl) rv_owner];kernel_rfl
theorem rv_no_len:typeLookup (.type "reversed") "__len__" = pure none:=by rw [typeLookup_type,builtinLookup_eq_fast];kernel_rfl
theorem lri_no_len:typeLookup (.type "list_reverseiterator") "__len__" = pure none:=by rw [typeLookup_type,builtinLookup_eq_fast];kernel_rfl
theorem lri_hint:typeLookup (.type "list_reverseiterator") "__length_hint__" = pure (some (.builtin "list_reverseiterator.__length_hint__")):=by rw [typeLookup_type,builtinLookup_eq_fast];kernel_rfl
theorem tup_no_rev:typeLookup (.type "tuple") "__reversed__" = pure none:=by rw [typeLookup_type,builtinLookup_eq_fast];kernel_rfl
theorem boot_reversed:bootBuiltins "reversed" = some (.type "reversed"):=by decide +kernel
section
variable {B:Base} {d:Nat} {T:Tab} {Γ:Gam} {sc:Sc} {env:Env} {G G':Addr→Option Obj} {A:Around} {m:Env'} {σ:AH} {s:Shared} {E:Value→Shared→Prop}
noncomputable abbrev rvObj (t:Value) (i:Int):Obj:={ cls:=.type "reversed",data:=.fields #[t,rawInt i] }
noncomputable def IsRv (h:Heap) (a t:Addr) (i:Int):Prop:=h.get? a=some (rvObj (.ref t) i)
theorem hint_lri {r:Addr} {Q:Bool→Shared→Prop} (hT:s.TypeIs (.ref r) "list_reverseiterator") (h:Q false s):wpAny (model B.prog B.w) A (Builtin.List.listLengthHint (.ref r)) Q E s:=by
 refine wpAny_bind (wpAny_specialOf hT lri_no_len ?_)
 refine wpAny_bind (wpAny_specialOf hT lri_hint ?_)
 generalize hid:("list_reverseiterator.__length_hint__" : String)=id0
 wp_delta
 rw [show splitId id0=some ("list_reverseiterator", "__length_hint__") from by subst hid;decide +kernel]
 subst hid
 refine wpAny_bind (wpAny_isInstance (T := "list_reverseiterator") (b:=true) hT (by rw [isSubtype_type];kernel_rfl) ?_)
 refine wpAny_ite_split (fun hab=>absurd hab (by decide)) (fun _=>?_)
 refine wpAny_ite_split (fun _=>?_) (fun hab=>absurd (by decide +kernel) hab)
 refine wpAny_ite_split (fun hab=>absurd hab (by decide +kernel)) (fun _=>?_)
 exact wpAny_pure h
theorem rv_next_item {I t:Addr} {i:Nat} {ys:List Value} {x:Value} {n:Nat} {Q:Option Value→Shared→Prop} (hit:IsRv s.heap I t (i:Int)) (ht:s.heap.get? t=some { cls:=.type "tuple",data:=.seq ys.toArray n }) (hx:ys[i]?=some x) (hfit:(ys.length:Int) < 2 ^ 63)
 (hQ:∀ h' tk,IsRv h' I t ((i:Int) - 1)→Heap.SameBut I s.heap h'→Q (some x) { s with heap:=h',toks:=tk }):wpAny (model B.prog B.w) A (pyNext (.ref I)) Q E s:=by
 have hT:s.TypeIs (.ref I) "reversed" := ⟨_,hit,rfl⟩
 have hTt:s.TypeIs (.ref t) "tuple" := ⟨_,ht,rfl⟩
 refine wpAny_bind (wpAny_attempt (wpAny_callSpecial?_slot (name:=Str.ofString "__next__") hT rv_slot_next
  (wpAny_call_entry rv_slot_next hT rv_entry_next ?_ (rv_args_next _))))
 unfold Builtin.«reversed.__next__»
 refine wpAny_bind (wpAny_of_eq (a:=(Value.ref I,[])) rfl ?_)
 try dsimp only
 refine wpAny_bind (wpAny_field hit rfl (x:=.ref t) rfl ?_)
 refine wpAny_bind (wpAny_field hit rfl (x:=rawInt (i:Int)) rfl ?_)
 show wpAny _ _ (if (i:Int) < 0 then _ else _) _ _ s
 rw [if_neg (by omega)]
 refine wpAny_bind (wpAny_specialOf hTt slot_tuple_getitem.lookup ?_)
 refine wpAny_bind (wpAny_mkInt ?_)
 have hlt:i < ys.length:=by
  rcases Nat.lt_or_ge i ys.length with q | q
  · exact q
  · rw [List.getElem?_eq_none q] at hx;injection hx
 refine wpAny_bind (wpAny_attempt (getItem_tuple (s:={ s with toks:=s.toks+1 }) ⟨_,ht,rfl,n,rfl⟩ (j:=i) (by omega) (by omega) (seqIdx_pos (by omega) (by simpa using hlt)) (by simpa using hx) ?_))
 refine wpAny_bind (wpAny_field (s:={ s with toks:=s.toks+1 }) hit rfl (x:=rawInt (i:Int)) rfl ?_)
 refine wpAny_bind (wpAny_setField (s:={ s with toks:=s.toks+1 }) hit rfl (by simp) ?_)
 first
 | refine wpAny_pure ⟨x,rfl,wpAny_pure (hQ _ _ ?_ (Heap.SameBut.update ..))⟩
 | refine wpAny_bind (wpAny_pure (wpAny_pure ⟨x,rfl,wpAny_pure (hQ _ _ ?_ (Heap.SameBut.update ..))⟩))
 exact Heap.get?_update_self _ hit rfl
theorem rv_next_end {I t:Addr} {Q:Option Value→Shared→Prop} (hh:A.handled=none) (hit:IsRv s.heap I t (-1))
 (hQ:∀ h',Heap.ExtBut I s.heap h'→Q none { s with heap:=h' }):wpAny (model B.prog B.w) A (pyNext (.ref I)) Q E s:=by
 have hT:s.TypeIs (.ref I) "reversed" := ⟨_,hit,rfl⟩
 refine wpAny_bind (wpAny_attempt (wpAny_callSpecial?_slot (name:=Str.ofString "__next__") hT rv_slot_next
  (wpAny_call_entry rv_slot_next hT rv_entry_next ?_ (rv_args_next _))))
 unfold Builtin.«reversed.__next__»
 refine wpAny_bind (wpAny_of_eq (a:=(Value.ref I,[])) rfl ?_)
 try dsimp only
 refine wpAny_bind (wpAny_field hit rfl (x:=.ref t) rfl ?_)
 refine wpAny_bind (wpAny_field hit rfl (x:=rawInt (-1)) rfl ?_)
 show wpAny _ _ (if (-1:Int) < 0 then _ else _) _ _ s
 rw [if_pos (by decide)]
 refine wpAny_bind (wpAny_rule ?_)
 refine wpAny_bind ?_
 refine wpAny_bind (wpAny_setField hit rfl (by simp) ?_)
 have hit₂:(s.heap.update I (Obj.mapFields (·.setIfInBounds 1 (rawInt (-1))))).get? I=some (rvObj (.ref t) (-1)):=Heap.get?_update_self _ hit rfl
 refine wpAny_setField (s:={ s with heap:=_ }) hit₂ rfl (by simp) ?_
 first
 | show wpAny _ _ (newExc (.type "StopIteration") [] >>= _) _ _ _
 | (refine wpAny_bind ?_;show wpAny _ _ (newExc (.type "StopIteration") [] >>= _) _ _ _)
 refine wpAny_bind ?_
 simp only [newExc,newTuple]
 refine wpAny_bind (wpAny_newObj_type ?_ (by size_fits))
 refine wpAny_bind (m:=firstArgMember _ _) (wpAny_of_eq (a:=Value.none) (by first | rfl | (simp only [firstArgMember];rfl)) ?_)
 refine wpAny_newObj_type ?_ (by size_fits)
 simp only [raiseNew]
 refine wpAny_bind (wpAny_handled ?_)
 first | rw [show A.in1.handled=none from hh] | rw [hh]
 refine wpAny_bind (wpAny_pure (wpAny_throw ?_))
 refine wpAny_bind (wpAny_isInstance (T := "StopIteration") (b:=true) ⟨_,Heap.get?_push_size _ rfl,rfl⟩ isSubtype_stop ?_)
 refine wpAny_pure (hQ _ fun b o hb e=>?_)
 exact Heap.get?_push_of_some _ (Heap.get?_push_of_some _ ((Heap.get?_update_other _ _ (Ne.symm hb)).trans ((Heap.get?_update_other _ _ (Ne.symm hb)).trans e)))
theorem rv_iter {I t:Addr} {i:Int} {Q:Value→Shared→Prop} (hit:IsRv s.heap I t i) (h:Q (.ref I) s):wpAny (model B.prog B.w) A (pyIter (.ref I)) Q E s:=by
 have hT:s.TypeIs (.ref I) "reversed" := ⟨_,hit,rfl⟩
 refine wpAny_pyIter_slot hT rv_slot_iter (wpAny_call_entry rv_slot_iter hT rv_entry_iter ?_ (rv_args_iter _))
 exact wpAny_pure ⟨_,rfl, "reversed",_,hT,rv_slot_next.lookup,h⟩
theorem rv_slot_init:Slot "reversed" "__init__" "object.__init__" :=
 .of (owner := "object") (n := "__init__") (by rw [typeLookup_type,builtinLookup_eq_fast];kernel_rfl) (by decide +kernel) (by decide +kernel) (by decide +kernel)
  (by first | exact .inl (by decide +kernel) | exact .inr (by decide +kernel)) (by rw [isSubtype_type];kernel_rfl)
theorem rv_called:TypeCalled "reversed" "reversed.__new__" "object.__init__" :=
 ⟨by decide +kernel,F.create_reversed,⟨_,_,F.mro_reversed⟩,F.made_reversed,F.plain_reversed_new,F.sub_reversed_self,rv_slot_init⟩
theorem rv_code_new {t:Addr} {ys:List Value} {n:Nat} {Q₁:Value→Shared→Prop} (ht:s.heap.get? t=some { cls:=.type "tuple",data:=.seq ys.toArray n }) (hfit:(ys.length:Int) < 2 ^ 63)
 (h:∀ tk,Q₁ (.ref s.heap.objs.size) { s with heap:=s.heap.push (rvObj (.ref t) ((ys.length:Int) - 1)),toks:=tk }):
 codeAny (model B.prog B.w) A (.call (.builtin "reversed.__new__") ⟨[.type "reversed",.ref t],[]⟩) (wants Q₁ E) s:=by
 have hTt:s.TypeIs (.ref t) "tuple" := ⟨_,ht,rfl⟩
 refine codeAny_of_tree ?_
 refine wpAny_bind (wpAny_of_eq (F.newCall_reversed_1 _) (wpAny_pure ⟨plainId_quiet F.plain_reversed_new _,codeAny_builtin F.entry_reversed_new ?_⟩))
 rw [Around.under_plainId F.plain_reversed_new _]
 unfold Builtin.«reversed.__new__»
 refine wpAny_bind (wpAny_of_eq (newClass_reversed _) ?_)
 try dsimp only
 refine wpAny_bind (wpAny_of_eq (a:=()) (by first | rfl | kernel_rfl) ?_)
 refine wpAny_bind (wpAny_of_eq (a:=()) (by first | rfl | kernel_rfl) ?_)
 try dsimp only
 refine wpAny_bind (wpAny_specialOf hTt tup_no_rev ?_)
 refine wpAny_bind ?_
 refine wpAny_bind (wpAny_isInstance (T := "tuple") (b:=false) hTt (by rw [isSubtype_type];kernel_rfl) ?_)
 refine wpAny_ite_split (fun hab=>absurd hab (by decide)) (fun _=>?_)
 refine wpAny_bind (wpAny_specialOf hTt slot_tuple_getitem.lookup ?_)
 refine wpAny_ite_split (fun _=>?_) (fun hab=>absurd (by decide +kernel) hab)
 refine wpAny_pure ?_
 refine wpAny_ite_split (fun hab=>absurd hab (by decide)) (fun _=>?_)
 refine wpAny_bind (len_tuple ⟨_,ht,rfl,n,rfl⟩ (by simpa using hfit) ?_)
 refine wpAny_bind (m:=asInt? _) (wpAny_pure ?_)
 refine wpAny_bind (m:=Builtin.SmallTypes.newRecord _ _) (wpAny_newObj_type (T := "reversed") (data:=.fields [Value.ref t,rawInt ((ys.toArray.size:Int) - 1)].toArray) (dict:=none) ?_ (by size_fits))
 refine wpAny_pure ?_
 have:=h (s.toks+1+1)
 simpa using this
theorem rv_call {t:Addr} {ys:List Value} {n:Nat} {Q:Value→Shared→Prop} (ht:s.heap.get? t=some { cls:=.type "tuple",data:=.seq ys.toArray n }) (hfit:(ys.length:Int) < 2 ^ 63)
 (h:∀ tk,Q (.ref s.heap.objs.size) { s with heap:=s.heap.push (rvObj (.ref t) ((ys.length:Int) - 1)),toks:=tk }):wpAny (model B.prog B.w) A (call (.type "reversed") [.ref t]) Q E s:=by
 refine callType_codes (Q₁:=fun obj s₁=>obj=.ref s.heap.objs.size∧∃ tk,s₁={ s with heap:=s.heap.push (rvObj (.ref t) ((ys.length:Int) - 1)),toks:=tk }) rv_called (F.typeCall_reversed_1 _) F.entry_object_init
  (rv_code_new ht hfit fun tk=>⟨rfl,tk,rfl⟩) fun obj s₁ h₁=>?_
 obtain ⟨rfl,tk,rfl⟩:=h₁
 have hT:Shared.TypeIs { s with heap:=s.heap.push (rvObj (.ref t) ((ys.length:Int) - 1)),toks:=tk } (.ref s.heap.objs.size) "reversed" := ⟨_,Heap.get?_push_size _ rfl,rfl⟩
 refine ⟨hT,F.args_object_init_2 _ _,?_⟩
 exact wpAny_mono (object_init_meets rv_slot_init.lookup F.made_reversed (by decide) B.prog B.w A.in1 (fun r s'=>wants (fun r s₂=>r=.none∧Q (.ref s.heap.objs.size) s₂) E r s') _ ⟨hT,rfl,h tk⟩) (fun fin s' x=>by
  exact x) fun _ _ z=>z
theorem Walks.rvTup (hh:A.handled=none) (I t:Addr) (hne:t≠I) (ys:List Value) (n:Nat) (hfit:(ys.length:Int) < 2 ^ 63):
 Walks B.prog B.w A I [I,t] [I] ys.length (fun i v=>ys[ys.length - 1 - i]?=some v) (fun i h=>i≤ys.length∧IsRv h I t ((ys.length:Int) - 1 - (i:Int))∧h.get? t=some { cls:=.type "tuple",data:=.seq ys.toArray n }) where
 sub:=fun b hb=>by simp at hb;simp [hb]
 frame:=fun _ _ _ x hk=>⟨x.1,hk I (by simp) _ x.2.1,hk t (by simp) _ x.2.2⟩
 item:=fun i s Q E hi x hQ=>by
  have e:(ys.length:Int) - 1 - (i:Int)=((ys.length - 1 - i:Nat):Int):=by omega
  have hit:=x.2.1
  rw [e] at hit
  have hx:ys[ys.length - 1 - i]?=some (ys[ys.length - 1 - i]'(by omega)):=List.getElem?_eq_getElem (by omega)
  refine rv_next_item hit x.2.2 hx hfit fun h' tk hit' hs'=>?_
  have e2:((ys.length - 1 - i:Nat):Int) - 1=(ys.length:Int) - 1 - ((i+1:Nat):Int):=by omega
  rw [e2] at hit'
  exact hQ _ h' tk hx ⟨hi,hit',(hs'.2 t hne).trans x.2.2⟩ fun b o hb eo=>hs'.extBut b o (fun h=>hb (by simp [h])) eo
 done:=fun s Q E x hQ=>by
  have e:(ys.length:Int) - 1 - (ys.length:Int)=-1:=by omega
  have hit:=x.2.1
  rw [e] at hit
  exact rv_next_end hh hit fun h' he'=>hQ h' s.toks fun b o hb eo=>he' b o (fun h=>hb (by simp [h])) eo
 self:=fun _ _ _ _ x hQ=>rv_iter x.2.1 hQ
theorem ext_walk {R:Result→Shared→Prop} {I:Addr} {fp wr:List Addr} {n:Nat} {P:Nat→Value→Prop} {St:Nat→Heap→Prop} (W:Walks B.prog B.w A.in1 I fp wr n P St) (S:Addr) (hSf:S ∉ fp) (res:Value):
 ∀ (k i:Nat) (s:Shared) (acc:Array Value) (c:Nat),n - i=k→i≤n→St i s.heap→s.heap.get? S=some { cls:=.type "list",data:=.seq acc c }→acc.size+k≤sizeLine→
 (∀ h' tk (vs:List Value) c',(∀ b o,b ∉ S::wr→s.heap.get? b=some o→h'.get? b=some o)→h'.get? S=some { cls:=.type "list",data:=.seq (acc++vs.toArray) c' }→vs.length=k→(∀ (j:Nat) (v:Value),vs[j]?=some v→P (i+j) v)→
  R (.ok (.ret res)) { s with heap:=h',toks:=tk })→
 codeAny (model B.prog B.w) A (.builtin "list.extend.loop" ⟨[.ref S,.ref I,res],[]⟩) R s:=by
 have hSw:S ∉ wr:=fun h=>hSf (W.sub _ h)
 intro k
 induction k with
 | zero=>
  intro i s acc c hk hi hst hS hsz hR
  have hin:i=n:=by omega
  subst hin
  refine codeAny_builtin F.entry_extend_loop ?_
  rw [Around.under_plainId F.plain_extend_loop _]
  refine wpAny_bind (W.done s _ _ hst fun h' tk hk'=>?_)
  exact wpAny_pure (hR h' tk [] c (fun b o hb e=>hk' b o (fun q=>hb (List.mem_cons_of_mem _ q)) e) (by simpa using hk' S _ hSw hS) rfl (fun j v e=>by simp at e))
 | succ k ih=>
  intro i s acc c hk hi hst hS hsz hR
  have hlt:i < n:=by omega
  refine codeAny_builtin F.entry_extend_loop ?_
  rw [Around.under_plainId F.plain_extend_loop _]
  refine wpAny_bind (W.item i s _ _ hlt hst fun v h₁ tk₁ hP hst' hk₁=>?_)
  have hS':=hk₁ S _ hSw hS
  refine wpAny_bind ?_
  refine wpAny_updateSeq (s:={ s with heap:=h₁,toks:=tk₁ }) hS' rfl (wpAny_pure ⟨plainId_quiet F.plain_extend_loop _,ih (i+1) _ (acc.push v) _ (by omega) hlt (W.frame _ h₁ _ hst' fun b hb o e=>?_) (Heap.get?_update_self _ hS' rfl) (by rw [Array.size_push];omega) fun h' tk vs c' hk' hS'' hlen hP'=>?_⟩)
   (by omega) (by show (acc.push v).size≤sizeLine+1;rw [Array.size_push];omega)
  · exact (Heap.get?_update_other _ _ (fun h:S=b=>hSf (by rw [h];exact hb))).trans e
  · refine hR h' tk (v::vs) c' (fun b o hb e=>hk' b o hb ((Heap.get?_update_other _ _ (fun h:S=b=>hb (by rw [h];exact List.mem_cons_self))).trans (hk₁ b o (fun q=>hb (List.mem_cons_of_mem _ q)) e))) ?_ (by rw [List.length_cons,hlen]) fun j u e=>?_
    · rw [hS'']
      congr 3
      apply Array.ext'
      simp
    · cases j with
      | zero=>simp at e;subst e;exact hP
      | succ j=>
       have:=hP' j u (by simpa using e)
       rw [show i+(j+1)=i+1+j by omega];exact this
theorem rev_of {ys vs:List Value} (hl:vs.length=ys.length) (hP:∀ (j:Nat) (v:Value),vs[j]?=some v→ys[ys.length - 1 - (0+j)]?=some v):vs=ys.reverse:=by
 apply List.ext_getElem?
 intro j
 rcases Nat.lt_or_ge j vs.length with q | q
 · have h1:=List.getElem?_eq_getElem q
   rw [h1]
   have:=hP j _ h1
   rw [Nat.zero_add] at this
   rw [List.getElem?_reverse (by omega),this]
 · rw [List.getElem?_eq_none q,List.getElem?_eq_none (by rw [List.length_reverse];omega)]
theorem ext_self {R:Result→Shared→Prop} {U:String} {I:Addr} {fp wr:List Addr} {n:Nat} {P:Nat→Value→Prop} {St:Nat→Heap→Prop} (W:Walks B.prog B.w A.in1 I fp wr n P St) (S:Addr) (hSf:S ∉ fp) (res:Value)
 (hT:∀ s:Shared,St 0 s.heap→s.TypeIs (.ref I) U) (h2:(Value.type U == Value.type "list")=false) (h3:(Value.type U == Value.type "tuple")=false) (hSI:S≠I)
 (hint:∀ (s:Shared) (Q:Bool→Shared→Prop) (E:Value→Shared→Prop),St 0 s.heap→(∀ b tk,Q b { s with toks:=tk })→wpAny (model B.prog B.w) A.in1 (Builtin.List.listLengthHint (.ref I)) Q E s)
 {s:Shared} {acc:Array Value} {c:Nat} (hst:St 0 s.heap) (hS:s.heap.get? S=some { cls:=.type "list",data:=.seq acc c }) (hsz:acc.size+n < sizeLine)
 (hR:∀ h' tk (vs:List Value) c',(∀ b o,b ∉ S::wr→s.heap.get? b=some o→h'.get? b=some o)→h'.get? S=some { cls:=.type "list",data:=.seq (acc++vs.toArray) c' }→vs.length=n→(∀ (j:Nat) (v:Value),vs[j]?=some v→P (0+j) v)→
  R (.ok (.ret res)) { s with heap:=h',toks:=tk }):
 wpAny (model B.prog B.w) A.in1 (Builtin.List.listExtendWith (.ref S) (.ref I) res)
  (fun fin s'=>match fin with | .done f=>R (.ok f) s' | .again c'=>c'.quiet=true∧codeAny (model B.prog B.w) A c' R s') (fun e s'=>R (.error e) s') s:=by
 have key:∀ (h:Heap) (c₁ tk:Nat),St 0 h→(∀ b o,b≠S→s.heap.get? b=some o→h.get? b=some o)→
  h.get? S=some { cls:=.type "list",data:=.seq acc c₁ }→codeAny (model B.prog B.w) A (.builtin "list.extend.loop" ⟨[.ref S,.ref I,res],[]⟩) R { s with heap:=h,toks:=tk }:=by
  intro h c₁ tk hst' hk hS₁
  refine ext_walk W S hSf res n 0 _ acc c₁ rfl (Nat.zero_le _) hst' hS₁ (Nat.le_of_lt hsz) fun h' tk' vs c' hk' hS' hlen hP=>?_
  exact hR h' tk' vs c' (fun b o hb e=>hk' b o hb (hk b o (fun q=>hb (by rw [q];exact List.mem_cons_self)) e)) hS' hlen hP
 refine wpAny_bind (wpAny_typeOf (hT s hst) ?_)
 have h1:Builtin.List.listSameRef (.ref S) (.ref I)=false:=by simp [Builtin.List.listSameRef,hSI]
 simp only [h1,h2,h3,Bool.or_false,Bool.false_eq_true,if_false]
 refine wpAny_bind (W.self 0 _ _ _ hst ?_)
 refine wpAny_bind (wpAny_holding (hint s _ _ hst fun b tk=>?_))
 refine wpAny_ite_split (fun _=>?_) (fun _=>wpAny_pure ⟨plainId_quiet F.plain_extend_loop _,key _ c _ hst (fun b o _ e=>e) hS⟩)
 refine wpAny_bind (wpAny_rule ?_)
 refine wpAny_bind ?_
 refine wpAny_bind (wpAny_updateSeq (s:={ s with toks:=tk }) hS rfl ?_ (by omega) (by show (acc.push _).size≤_;rw [Array.size_push];omega))
 have hS₂:=get?_update_seq (c := "list") hS (·.push Value.none)
 have hS₃:=get?_update_seq hS₂ (·.pop)
 rw [Array.pop_push] at hS₃
 refine wpAny_updateSeq (s:=⟨_,_,_,tk,_⟩) hS₂ rfl ?_ (by rw [Array.size_push];omega) (by rw [Array.pop_push];omega)
 have oth:∀ b o,b≠S→s.heap.get? b=some o→((s.heap.update S (Obj.mapSeq (·.push Value.none))).update S (Obj.mapSeq (·.pop))).get? b=some o:=fun b o hb e=>
  (Heap.get?_update_other _ _ (Ne.symm hb)).trans ((Heap.get?_update_other _ _ (Ne.symm hb)).trans e)
 exact wpAny_pure ⟨plainId_quiet F.plain_extend_loop _,key _ _ _ (W.frame _ _ _ hst fun b hb o e=>oth b o (fun q=>hSf (q ▸ hb)) e) oth hS₃⟩
theorem hint_rv {r t:Addr} {ys:List Value} {n:Nat} {Q:Bool→Shared→Prop} (hit:IsRv s.heap r t ((ys.length:Int) - 1)) (ht:s.heap.get? t=some { cls:=.type "tuple",data:=.seq ys.toArray n }) (hfit:ys.length≤LIM)
 (h:∀ b tk,Q b { s with toks:=tk }):wpAny (model B.prog B.w) A (Builtin.List.listLengthHint (.ref r)) Q E s:=by
 have hT:s.TypeIs (.ref r) "reversed" := ⟨_,hit,rfl⟩
 refine wpAny_bind (wpAny_specialOf hT rv_no_len ?_)
 refine wpAny_bind (wpAny_specialOf hT rv_slot_hint.lookup ?_)
 generalize hid:("reversed.__length_hint__" : String)=id0
 wp_delta
 rw [show splitId id0=some ("reversed", "__length_hint__") from by subst hid;decide +kernel]
 subst hid
 refine wpAny_bind (wpAny_isInstance (T := "reversed") (b:=true) hT F.sub_reversed_self ?_)
 refine wpAny_ite_split (fun hab=>absurd hab (by decide)) (fun _=>?_)
 refine wpAny_ite_split (fun hab=>absurd hab (by decide +kernel)) (fun _=>?_)
 refine wpAny_bind (wpAny_rule ?_)
 refine wpAny_bind (wpAny_of_eq (rv_slot_hint.bind _) ?_)
 refine wpAny_bind (wpAny_attempt (wpAny_call_entry rv_slot_hint hT rv_entry_hint ?_ (rv_args_hint _)))
 unfold Builtin.«reversed.__length_hint__»
 refine wpAny_bind (wpAny_of_eq (a:=Value.ref r) rfl ?_)
 refine wpAny_bind (wpAny_field hit rfl (x:=.ref t) rfl ?_)
 refine wpAny_ite_split (fun hab=>absurd hab (show ¬ ((Value.ref t == Value.none)=true) from Bool.false_ne_true)) (fun _=>?_)
 refine wpAny_bind (len_tuple ⟨_,ht,rfl,n,rfl⟩ (by rw [List.size_toArray];exact LIM_fit hfit) ?_)
 refine wpAny_bind (m:=asInt? _) (wpAny_pure ?_)
 refine wpAny_bind (wpAny_field (s:={ s with toks:=s.toks+1+1 }) hit rfl (x:=rawInt ((ys.length:Int) - 1)) rfl ?_)
 dsimp only [rawInt]
 rw [if_neg (by rw [List.size_toArray];omega)]
 refine wpAny_bind (wpAny_mkInt (wpAny_pure ⟨_,rfl,?_⟩))
 refine wpAny_bind (m:=asInt? _) (wpAny_pure ?_)
 unfold LIM at hfit
 refine wpAny_ite_split (fun hab=>?_) (fun _=>?_)
 · simp [Builtin.List.listFitsIndex] at hab;omega
 refine wpAny_ite_split (fun hab=>?_) (fun _=>?_)
 · omega
 refine wpAny_ite_split (fun hab=>?_) (fun _=>?_)
 · simp [Builtin.List.listTooLong,sizeLine] at hab;omega
 exact wpAny_pure (h _ _)
theorem VRels.revOf {h:Heap} {xs:List AV} {ys vs:List Value} (r:VRels B h xs ys) (hl:vs.length=ys.length) (hP:∀ (j:Nat) (v:Value),vs[j]?=some v→ys[ys.length - 1 - (0+j)]?=some v):VRels B h xs.reverse vs:=by
 rw [rev_of hl hP];exact r.reverse
theorem listRev_op (hB:BaseOk B) (a:AOk A d) (st:St B G σ s) {l:Addr} {xs:List AV} (hσ:σ l=some (.list xs)) {Q:AV→AH→Prop} (h:freshW (.list xs.reverse) Q σ) {R:Value→Shared→Prop}
 (hR:∀ v s',Post B G s.heap Q v s'→R v s'):
 WP B A (call (.type "reversed") [.ref l]) (fun I s₁=>TExt s.heap s₁.heap∧WP B A (call (.type "list") [I]) R s₁) s:=by
 obtain ⟨hn,ys,n,hl,rr⟩:=list_open st hσ
 have hlen:=rr.length
 refine call_reversed_list ⟨_,hl,rfl,n,rfl⟩ ?_
 obtain ⟨st₁,tx₁⟩:=st.push (revObj l ((ys.toArray.size:Int) - 1)) (t:=s.toks)
 refine ⟨tx₁,?_⟩
 have hlI:l≠s.heap.objs.size:=Nat.ne_of_lt (Heap.lt_size hl)
 generalize hI:s.heap.objs.size=I at *
 have hl₁:(s.heap.push (revObj l ((ys.toArray.size:Int) - 1))).get? l=some (seqObj "list" ys.toArray n):=Heap.get?_push_of_some _ hl
 have hit:(s.heap.push (revObj l ((ys.toArray.size:Int) - 1))).IsRevIter I l ((ys.toArray.size:Int) - 1):=⟨_,by rw [← hI];exact Heap.get?_push_size _ rfl,rfl,rfl⟩
 have hIs:(s.heap.push (revObj l ((ys.toArray.size:Int) - 1))).objs.size=I+1:=by rw [Heap.size_push,hI]
 generalize hs₁:s.heap.push (revObj l ((ys.toArray.size:Int) - 1))=h₁ at *
 have hhd:A.in1.in1.handled=none:=a.handled
 have W:=Walks.listRev (prog:=B.prog) (w:=B.w) (A:=A.in1.in1) hhd I l hlI ys.toArray
 refine callType_codes (s:={ s with heap:=h₁ }) (Q₁:=fun obj s₂=>obj=.ref h₁.objs.size∧s₂={ s with heap:=h₁.push { cls:=.type "list",data:=.seq #[] } }) F.called_list (F.typeCall_list_1 _) F.entry_list_init
  (code_list_new _ ⟨rfl,rfl⟩) fun obj s₂ h₂=>?_
 obtain ⟨rfl,rfl⟩:=h₂
 have hS:(h₁.push { cls:=.type "list",data:=.seq #[] }).get? h₁.objs.size=some { cls:=.type "list",data:=.seq #[] }:=Heap.get?_push_size _ rfl
 refine ⟨⟨_,hS,rfl⟩,F.args_list_init_2 _ _,?_⟩
 refine wpAny_bind (listItems_at (s:={ s with heap:=h₁.push { cls:=.type "list",data:=.seq #[] } }) hS rfl ?_)
 refine wpAny_bind (listUpdate_at (s:={ s with heap:=h₁.push { cls:=.type "list",data:=.seq #[] } }) hS rfl ?_ (Nat.zero_le _) (Nat.zero_le _))
 have hS₂:=get?_update_seq (c := "list") hS (fun _=>(#[]:Array Value))
 have hk₂:∀ b o,h₁.get? b=some o→((h₁.push { cls:=.type "list",data:=.seq #[] }).update h₁.objs.size (Obj.mapSeq fun _=>#[])).get? b=some o:=fun b o e=>
  (Heap.get?_update_other _ _ (Nat.ne_of_gt (Heap.lt_size e))).trans (Heap.get?_push_of_some _ e)
 generalize hh₂:(h₁.push { cls:=.type "list",data:=.seq #[] }).update h₁.objs.size (Obj.mapSeq fun _=>#[])=h₂ at *
 refine wpAny_bind (wpAny_letGo ?_)
 have hSI:h₁.objs.size≠I:=by rw [hIs];exact Nat.succ_ne_self _
 have hSl:h₁.objs.size≠l:=Nat.ne_of_gt (Heap.lt_size hl₁)
 refine ext_self (A:=A.in1) (s:={ s with heap:=h₂ }) W h₁.objs.size (by simp only [List.mem_cons,List.not_mem_nil,or_false,not_or];exact ⟨hSI,hSl⟩) .none (fun s st=>st.2.1.typeIs) (by decide) (by decide) hSI
  (fun s Q E st hq=>hint_lri st.2.1.typeIs (hq false s.toks)) (acc:=#[]) (c:=_) ⟨Nat.zero_le _,?_,?_⟩ hS₂ (by
   show 0+ys.length < sizeLine
   rw [sizeLine_eq,← hlen];unfold LIM at hn;omega) fun h' tk vs c' hk hS' hl' hP=>?_
 · have:=hit.at (fun o e=>hk₂ _ o e)
   simpa using this
 · exact ⟨_,hk₂ _ _ hl₁,rfl,n,rfl⟩
 · refine ⟨rfl,hR _ _ ?_⟩
   have hkk:∀ b o,s.heap.get? b=some o→h'.get? b=some o:=fun b o e=>by
    have hb:=Heap.lt_size e
    rw [hI] at hb
    refine hk b o (fun q=>?_) (hk₂ b o (by rw [← hs₁];exact Heap.get?_push_of_some _ e))
    simp only [List.mem_cons,List.not_mem_nil,or_false] at q
    rcases q with q | q
    · rw [q,hIs] at hb;exact absurd hb (Nat.not_lt.mpr (Nat.le_succ _))
    · rw [q] at hb;exact absurd hb (Nat.lt_irrefl _)
   refine made_list (t:=tk) (n:=c') st (get?_fresh _ (by rw [hIs,hI];exact Nat.le_succ _)) hkk (by simpa using hS') (by simpa using hn) (VRels.mono (.of_keeps hkk) (rr.revOf (by simpa using hl') fun j v e=>?_)) h
   have:=hP j v e
   simpa using this
end
section
variable {B:Base} {d:Nat} {T:Tab} {Γ:Gam} {sc:Sc} {env:Env} {G G':Addr→Option Obj} {A:Around} {m:Env'} {σ:AH} {s:Shared} {E:Value→Shared→Prop}
theorem extRev_op (hB:BaseOk B) (a:AOk A d) (st:St B G σ s) {p:Addr} {xs as:List AV} {v:Value} (hσ:σ p=some (.list xs)) (rv:VRel B s.heap (.tup as) v) {Q:AV→AH→Prop} (hn:xs.length+as.length≤LIM) (h:Q .none (σ.set p (.list (xs++as.reverse)))):
 WP B A (call (.type "reversed") [v]) (fun I s₁=>WP B A (call (.builtin "list.extend") [.ref p,I]) (Post B G s.heap Q) s₁) s:=by
 obtain ⟨t,zs,k,rfl,ht,hnt,rt⟩:=rv.tupI
 obtain ⟨hnx,ys,n,hl,rr⟩:=list_open st hσ
 have hlt:=rt.length
 have hlx:=rr.length
 refine rv_call ht (by rw [← hlt];exact LIM_fit hnt) fun tk=>?_
 obtain ⟨st₁,tx₁⟩:=st.push (rvObj (.ref t) ((zs.length:Int) - 1)) (t:=tk)
 have htI:t≠s.heap.objs.size:=Nat.ne_of_lt (Heap.lt_size ht)
 have hpI:p≠s.heap.objs.size:=Nat.ne_of_lt (Heap.lt_size hl)
 have hpt:p≠t:=fun q=>by rw [q,ht] at hl;exact absurd (congrArg Obj.cls (Option.some.inj hl)) (show ¬ (Value.type "tuple" = Value.type "list") by decide)
 have ht₁:(s.heap.push (rvObj (.ref t) ((zs.length:Int) - 1))).get? t=some { cls:=.type "tuple",data:=.seq zs.toArray k }:=Heap.get?_push_of_some _ ht
 have hl₁:(s.heap.push (rvObj (.ref t) ((zs.length:Int) - 1))).get? p=some (seqObj "list" ys.toArray n):=Heap.get?_push_of_some _ hl
 have hit:IsRv (s.heap.push (rvObj (.ref t) ((zs.length:Int) - 1))) s.heap.objs.size t ((zs.length:Int) - 1):=Heap.get?_push_size _ rfl
 generalize hI:s.heap.objs.size=I at *
 generalize hs₁:s.heap.push (rvObj (.ref t) ((zs.length:Int) - 1))=h₁ at *
 have hhd:A.in1.handled=none:=a.handled
 have W:=Walks.rvTup (B:=B) (A:=A.in1) hhd I t htI zs k (by rw [← hlt];exact LIM_fit hnt)
 have hT:Shared.TypeIs { s with heap:=h₁,toks:=tk } (.ref p) "list" := ⟨_,hl₁,rfl⟩
 refine wpAny_call (codeAny_call_builtin PySem.F.slot_list_extend.plain PySem.F.entry_list_extend (PySem.F.slot_list_extend.check _ _ _ _ _ _ _ _ hT (PySem.F.args_list_extend_2 _ _) ?_))
 unfold Builtin.«list.extend»
 refine wpAny_bind (wpAny_of_eq (a:=(Value.ref p,Value.ref I)) rfl ?_)
 refine ext_self (A:=A) (R:=wants (Post B G s.heap Q) (fun _ _=>False)) (s:={ s with heap:=h₁,toks:=tk }) W p (by simp only [List.mem_cons,List.not_mem_nil,or_false,not_or];exact ⟨hpI,hpt⟩) .none (fun s st=>⟨_,st.2.1,rfl⟩) (by decide) (by decide) hpI
  (fun s' Q' E' st' hq=>hint_rv (by have:=st'.2.1;simpa using this) st'.2.2 (by rw [← hlt];exact hnt) hq) ⟨Nat.zero_le _,by simpa using hit,ht₁⟩ hl₁ (by
   rw [sizeLine_eq,List.size_toArray,← hlt,← hlx];unfold LIM at hn;omega) fun h' tk' vs c' hk hS' hl' hP=>?_
 have hv:vs=zs.reverse:=rev_of hl' hP
 have hk':∀ b o,b≠p→s.heap.get? b=some o→h'.get? b=some o:=fun b o hb e=>by
  have hbl:=Heap.lt_size e
  rw [hI] at hbl
  refine hk b o (fun q=>?_) (by rw [← hs₁];exact Heap.get?_push_of_some _ e)
  simp only [List.mem_cons,List.not_mem_nil,or_false] at q
  rcases q with q | q
  · exact hb q
  · rw [q] at hbl;exact absurd hbl (Nat.lt_irrefl _)
 obtain ⟨st',tx⟩:=st.upd (ao':=.list (xs++as.reverse)) (h':=h') (t:=tk') hσ rfl rfl hk' fun tx=>⟨by rw [List.length_append,List.length_reverse];exact hn,ys++zs.reverse,⟨c',by rw [hS',hv];simp⟩,(rr.append rt.reverse).mono tx⟩
 exact ⟨_,_,h,.none,st',tx⟩
theorem callWith_one {P:Heap→Prop} {e:Expr} (he:∀ x q,e≠.Starred x q) {pos:Pos} {f:Value} {first:List Value} {R:Value→Shared→Prop}
 (hk:∀ h,P h→∃ k,(k=Keeper.frame∨k=Keeper.machine∨k=Keeper.boundFrame)∧Looks (model B.prog B.w) h (keeperOf f) k)
 (h:WP B A (eval e env) (fun v s'=>P s'.heap∧WP B A (call f (first++[v])) R s') s):
 WP B A (callWith pos f first (backTo pos (starEach [e] env)) []) R s:=by
 rw [starEach_cons he,backTo_cons]
 refine callWith_of rfl hk (Calls.evalArgs_plain (Calls.spliced_cons (wpAny_mono h (fun v s' x=>Calls.spliced_nil ?_) fun _ _ z=>z)))
 exact x
theorem bi_name {f:Str} {b:BI} (h:bi? f=some b):b≠.listRev∧bootBuiltins f=some (biV b)∧f ≠ "__name__" ∧ (f == ("__debug__" : Str))=false:=by
 have key:∀ p ∈ biT,p.2≠.listRev∧bootBuiltins p.1=some (biV p.2)∧p.1 ≠ "__name__" ∧ (p.1 == ("__debug__" : Str))=false:=by decide +kernel
 exact key _ (find?_mem h)
theorem sound_bi (hB:BaseOk B) (hΓ:GamOk B d T Γ) {f:Str} {p pos:Pos} {es:List Expr} {ps:PEs} {b:BI} (hb:bi? f=some b) (hx:sc.isGlob f=true) (h:SoundL B d Γ sc es ps):
 SoundV B d Γ sc (.Call (.Name f p) es [] pos) (.bi b ps):=by
 intro env G A m σ Q s c hp
 obtain ⟨h1,h2,h3,h4⟩:=bi_name hb
 refine wpAny_Call_NameR (built_ld hB c hx (hΓ.bi f (.inl (by rw [hb];rfl))) h2 h3 h4 ?_)
 refine callWith_sound (P:=fun _=>True) h c hp (keeps_plain (by intro a;cases b <;> simp [biV])) fun vs s₁ avs σ₁ q r c₁ t₁=>⟨trivial,?_⟩
 exact wpAny_mono (bi_op hB c₁.a c₁.st r q h1) (fun _ _ z=>z.up t₁) fun _ _ z=>z
theorem sound_bm (hB:BaseOk B) {o:Expr} {f:Str} {apos pos:Pos} {es:List Expr} {ps:PEs} {po:PE} {b:BM} (hb:bm? f=some b) (ho:SoundV B d Γ sc o po) (hs:SoundL B d Γ sc es ps)
 (hbase:∀ g p as ks q,o≠.Call (.Name g p) as ks q) (hline:(apos.endLine == pos.line)=true) (hlen:es.length < 20):SoundV B d Γ sc (.Call (.Attribute o f apos) es [] pos) (.bm po b ps):=by
 intro env G A m σ Q s c hp
 obtain ⟨rfl,hne⟩:=bm?_name hb
 refine meth_head (soundL_plain hs) hbase hline hlen (ho.bind c hp fun ov s₁ av σ₁ hp₁ rv c₁ t₁ pl=>?_)
 replace hp₁:=asR_inv hp₁
 obtain ⟨a,rfl,hp₁⟩:=hp₁
 obtain ⟨ao,hσ,hk,hp₂⟩:=som_inv hp₁
 obtain rfl:=rv.refI
 refine meth_of hB c₁.st hσ hk ?_
 refine callWith_sound (P:=fun _=>True) hs c₁ hp₂ (keeps_plain (fun _ q=>nomatch q)) fun vs s₂ avs σ₂ q r c₂ t₂=>⟨trivial,?_⟩
 obtain ⟨ao',hσ',q1,q2⟩:=som_inv q
 have e:bmId ao b=bmId ao' b:=by
  cases ao <;> cases ao' <;> first | rfl | exact q1.elim
 rw [e]
 exact wpAny_mono (bm_op hB c₂.a c₂.st hσ' hne r q2) (fun _ _ z=>z.up (t₁.trans t₂)) fun _ _ z=>z
inductive RevI (sc:Sc) (e x:Expr):Prop
 | mk (p q:Pos):e=.Call (.Name (S "reversed") p) [x] [] q→sc.isGlob (S "reversed")=true→(∀ y z,x≠.Starred y z)→RevI sc e x
theorem rev?_spec {e x:Expr} (h:rev? sc e=some x):RevI sc e x:=by
 cases e with
 | Call g args kws q=>
  obtain ⟨f,h1,h2⟩:=Option.bind_eq_some_iff.mp h
  obtain ⟨p,rfl⟩:=nameOf_some h1
  obtain ⟨h3,h4⟩:=onlyIf_some h2
  obtain ⟨y,h5,h6⟩:=Option.bind_eq_some_iff.mp h4
  obtain ⟨h7,h8⟩:=onlyIf_some h6
  cases h8
  cases one_some h5
  rw [Bool.and_eq_true,Bool.and_eq_true] at h3
  obtain ⟨⟨h9,h10⟩,h11⟩:=h3
  cases List.isEmpty_iff.mp h11
  cases of_decide_eq_true h9
  exact ⟨p,q,rfl,h10,isStar_ne (by cases e:isStar x <;> rw [e] at h7 <;> first | rfl | cases h7)⟩
 | _=>injection h
theorem reversed_call (hB:BaseOk B) (hΓ:GamOk B d T Γ) (c:Cfg B d sc env G A m σ s) (hx:sc.isGlob (S "reversed")=true) {x:Expr} {p pos:Pos} {R:Value→Shared→Prop} (hs:∀ y z,x≠.Starred y z)
 (h:WP B A (eval x env) (fun v s'=>WP B A (call (.type "reversed") [v]) R s') s):WP B A (eval (.Call (.Name (S "reversed") p) [x] [] pos) env) R s:=by
 refine wpAny_Call_NameR (built_ld hB c hx (hΓ.bi _ (.inr rfl)) boot_reversed (by decide +kernel) (by decide +kernel) ?_)
 exact callWith_one (P:=fun _=>True) hs (keeps_plain (fun _ q=>nomatch q)) (wpAny_mono h (fun v s' x=>⟨trivial,x⟩) fun _ _ z=>z)
inductive LRevI (σ:AH) (av:AV) (Q:AV→AH→Prop):Prop
 | mk (l:Addr) (xs:List AV):av=.ref l→σ l=some (.list xs)→freshW (.list xs.reverse) Q σ→LRevI σ av Q
theorem listRev_inv {av:AV} {Q:AV→AH→Prop} (h:biW .listRev [av] Q σ):LRevI σ av Q:=by
 obtain ⟨w,e,h⟩:=oneA_inv h
 (injection e with z0 z1;subst z0;clear z1)
 obtain ⟨a,rfl,h⟩:=asR_inv h
 obtain ⟨xs,hσ,h⟩:=lstAt_inv h
 exact ⟨a,xs,rfl,hσ,h⟩
theorem sound_listRev (hB:BaseOk B) (hΓ:GamOk B d T Γ) {e x:Expr} {p pos:Pos} {px:PE} (hg:sc.isGlob (S "list")=true) (he:rev? sc e=some x) (hx:SoundV B d Γ sc x px):
 SoundV B d Γ sc (.Call (.Name (S "list") p) [e] [] pos) (.bi .listRev (.cons px .nil)):=by
 intro env G A m σ Q s c hp
 obtain ⟨p',q',rfl,hgr,hs⟩:=rev?_spec he
 refine wpAny_Call_NameR (built_ld hB c hg (hΓ.bi _ (.inl (by decide +kernel))) (v:=.type "list") (by decide +kernel) (by decide +kernel) (by decide +kernel) ?_)
 refine callWith_one (P:=fun _=>True) (by intro y z q;injection q) (keeps_plain (fun _ q=>nomatch q)) ?_
 refine reversed_call hB hΓ c hgr hs (hx.bind c hp fun v s₁ av σ₁ q rv c₁ t₁=>?_)
 replace q:=listRev_inv q
 obtain ⟨l,xs,rfl,hσ,q⟩:=q
 obtain rfl:=rv.refI
 exact wpAny_mono (listRev_op hB c₁.a c₁.st hσ q (R:=Post B G s.heap Q) fun v s' x=>x.up t₁) (fun I s₂ x=>⟨trivial,x.2⟩) fun _ _ z=>z
theorem sound_extRev (hB:BaseOk B) (hΓ:GamOk B d T Γ) {o e x:Expr} {apos pos:Pos} {po px:PE} (he:rev? sc e=some x) (ho:SoundV B d Γ sc o po) (hx:SoundV B d Γ sc x px)
 (hbase:∀ g p as ks q,o≠.Call (.Name g p) as ks q) (hline:(apos.endLine == pos.line)=true):SoundV B d Γ sc (.Call (.Attribute o (S "extend") apos) [e] [] pos) (.bm po .extendRev (.cons px .nil)):=by
 intro env G A m σ Q s c hp
 obtain ⟨p',q',rfl,hgr,hs⟩:=rev?_spec he
 refine meth_head (es:=[_]) rfl hbase hline (Nat.lt_of_sub_pos (Nat.zero_lt_succ 18)) (ho.bind c hp fun ov s₁ av σ₁ hp₁ rv c₁ t₁ pl=>?_)
 replace hp₁:=asR_inv hp₁
 obtain ⟨a,rfl,hp₁⟩:=hp₁
 obtain ⟨ao,hσ,hk,hp₂⟩:=som_inv hp₁
 obtain rfl:=rv.refI
 cases ao with
 | list xs=>
  refine meth_of (b:=.extendRev) hB c₁.st hσ hk ?_
  refine callWith_one (P:=fun _=>True) (by intro y z q;injection q) (keeps_plain (fun _ q=>nomatch q)) ?_
  refine reversed_call hB hΓ c₁ hgr hs (hx.bind c₁ hp₂ fun v s₂ av σ₂ q rv c₂ t₂=>?_)
  obtain ⟨ao',hσ₂,q1,q⟩:=som_inv q
  cases ao' with
  | list ys=>
   replace q:=asT_inv (v:=av) (g:=fun as=>ys.length+as.length≤LIM∧Q .none (σ₂.set a (.list (ys++as.reverse)))) q
   obtain ⟨as,rfl,hn,q⟩:=q
   exact wpAny_mono (extRev_op hB c₂.a c₂.st hσ₂ rv hn q) (fun I s₃ z=>⟨trivial,wpAny_mono z (fun _ _ z=>z.up (t₁.trans t₂)) fun _ _ z=>z⟩) fun _ _ z=>z
  | _=>exact q1.elim
 | dict kvs ep=>rcases hk with hk | hk | hk <;> injection hk
 | _=>exact hk.elim
end
inductive LocI (B:Base) (sc:Sc) (h:Heap) (l:Addr) (m:Env'):Prop
 | mk (mm:Str→Option Value):h.Ns l mm→(∀ x i av,sc.kinds.lookup x=some .local→varIdx sc.vars x=some i→m[i]?=some (some av)→SomV B h av (mm x))→LocI B sc h l m
inductive CelI (B:Base) (sc:Sc) (h:Heap) (c:Addr) (x:Str) (m:Env'):Prop
 | mk (o:Option Value):h.IsCell c o→(∀ i av,varIdx sc.vars x=some i→m[i]?=some (some av)→SomV B h av o)→CelI B sc h c x m
structure Frm (B:Base) (sc:Sc) (env:Env) (h:Heap) (m:Env'):Prop where
 loc:LocI B sc h env.locals m
 cel:∀ x c,sc.kinds.lookup x=some .cell→env.cells.lookup x=some c→CelI B sc h c x m
noncomputable def IsFr (sc:Sc) (env:Env) (a:Addr):Prop:=a=env.locals∨∃ x,sc.kinds.lookup x=some .cell∧env.cells.lookup x=some a
structure EnvS (B:Base) (sc:Sc) (env:Env):Prop where
 fn:env.scope.kind=.function
 kinds:env.scope.names=sc.kinds
 globals:env.globals=mainGlobals
 builtins:env.builtins=builtinsNs
 code:env.code=sc.code
 qual:env.qual=sc.qual
 cells:∀ x,sc.kinds.lookup x=some .cell→∃ c,env.cells.lookup x=some c
 apart:∀ x y c,sc.kinds.lookup x=some .cell→sc.kinds.lookup y=some .cell→env.cells.lookup x=some c→env.cells.lookup y=some c→x=y
 off:∀ x,sc.kinds.lookup x=some .cell→env.cells.lookup x≠some env.locals
structure SCfg (B:Base) (d:Nat) (sc:Sc) (env:Env) (G:Addr→Option Obj) (A:Around) (m:Env') (σ:AH) (s:Shared):Prop where
 a:AOk A (d+3)
 e:EnvS B sc env
 len:m.length=sc.vars.length
 st:St B G σ s
 frm:Frm B sc env s.heap m
 own:∀ a,IsFr sc env a→G a=none∧σ a=none∧a≠B.tab
theorem varIdx_get:∀ {vs:List Str} {x:Str} {i:Nat},varIdx vs x=some i→vs[i]?=some x
 | [],_,_,h=>by injection h
 | z::r,x,i,h=>by
  unfold varIdx at h
  cases e:varIdx r x with
  | some a=>rw [e] at h;injection h with h;exact h ▸ (List.getElem?_cons_succ ..).trans (varIdx_get e)
  | none=>
   rw [e] at h
   obtain ⟨q,h⟩:=Option.ite_none_right_eq_some.mp h
   injection h with h
   exact h ▸ q ▸ rfl
theorem varIdx_inj {vs:List Str} {x y:Str} {i:Nat} (h1:varIdx vs x=some i) (h2:varIdx vs y=some i):x=y:=
 Option.some.inj ((varIdx_get h1).symm.trans (varIdx_get h2))
section
variable {B:Base} {d:Nat} {T:Tab} {Γ:Gam} {sc:Sc} {env:Env} {G G':Addr→Option Obj} {A:Around} {m:Env'} {σ:AH} {s:Shared}
theorem Frm.keeps {h h':Heap} (f:Frm B sc env h m) (hk:∀ a o,IsFr sc env a→h.get? a=some o→h'.get? a=some o) (tx:TExt h h'):Frm B sc env h' m:=by
 refine ⟨?_,fun x c hx hc=>?_⟩
 · obtain ⟨mm,⟨o,es,ep,ho,r⟩,q⟩:=f.loc
   refine ⟨mm,⟨o,es,ep,hk _ _ (.inl rfl) ho,r⟩,fun x i av a b c=>?_⟩
   obtain ⟨v,h1,h2⟩:=q x i av a b c
   exact ⟨v,h1,h2.mono tx⟩
 · obtain ⟨o,⟨ob,ho,hd⟩,q⟩:=f.cel x c hx hc
   refine ⟨o,⟨ob,hk _ _ (.inr ⟨x,hx,hc⟩) ho,hd⟩,fun i av a b=>?_⟩
   obtain ⟨v,h1,h2⟩:=q i av a b
   exact ⟨v,h1,h2.mono tx⟩
theorem Frm.there {h:Heap} (f:Frm B sc env h m) {a:Addr} (ha:IsFr sc env a):∃ o,h.get? a=some o∧¬ Frozen o:=by
 rcases ha with rfl | ⟨x,hx,hc⟩
 · obtain ⟨mm,hn,_⟩:=f.loc
   obtain ⟨o,es,ep,ho,r⟩:=id hn
   exact ⟨o,ho,Ns_not_frozen hn o ho⟩
 · obtain ⟨o,⟨ob,ho,hd⟩,_⟩:=f.cel x a hx hc
   exact ⟨ob,ho,fun f=>f.2.2 _ hd⟩
inductive LockI (B:Base) (d:Nat) (sc:Sc) (env:Env) (G:Addr→Option Obj) (A:Around) (m:Env') (σ:AH) (s:Shared):Prop
 | mk (G':Addr→Option Obj):(∀ a,G' a=none→G a=none∧¬ IsFr sc env a)→Cfg B d sc env G' A m σ s→(∀ σ' s',St B G' σ' s'→TExt s.heap s'.heap→SCfg B d sc env G A m σ' s')→LockI B d sc env G A m σ s
theorem SCfg.lockFr (c:SCfg B d sc env G A m σ s):LockI B d sc env G A m σ s:=by
 have ht:¬ IsFr sc env B.tab:=fun q=>(c.own _ q).2.2 rfl
 obtain ⟨G',g1,g2,st'⟩:=c.st.protect (IsFr sc env) (fun a q=>(c.own a q).2.1) ht
 have hk:∀ a o,G a=some o→G' a=some o:=fun a o e=>by
  rw [g2 a fun q=>by rw [(c.own a q).1] at e;injection e];exact e
 have cf:Cfg B d sc env G' A m σ s:=by
  refine ⟨c.a,⟨c.e.fn,c.e.kinds,c.e.globals,c.e.builtins,c.e.code,c.e.qual,c.len,fun x i av hv hi hm=>?_,c.e.cells⟩,st'⟩
  rcases Bool.or_eq_true _ _ ▸ hv with hv | hv
  · have hv:=beq_iff_eq.mp hv
    obtain ⟨mm,⟨o,es,ep,ho,hd,hks,hf⟩,q⟩:=c.frm.loc
    obtain ⟨v,h1,h2⟩:=q x i av hv hi hm
    exact ⟨v,h2,.inl (by show env.scope.names.lookup x=_;rw [c.e.kinds];exact hv) o es ep (by rw [g1 _ (.inl rfl)];exact ho) hd hks ((hf x).trans h1)⟩
  · have hv:=beq_iff_eq.mp hv
    obtain ⟨cc,hc⟩:=c.e.cells x hv
    obtain ⟨o,⟨ob,ho,hd⟩,q⟩:=c.frm.cel x cc hv hc
    obtain ⟨v,h1,h2⟩:=q i av hi hm
    exact ⟨v,h2,.inr (by show env.scope.names.lookup x=_;rw [c.e.kinds];exact hv) cc ob hc (by rw [g1 _ (.inr ⟨x,hv,hc⟩)];exact ho) (h1 ▸ hd)⟩
 have hno:∀ a,G' a=none→G a=none∧¬ IsFr sc env a:=by
  intro a e
  constructor
  · cases q:G a with
    | none=>rfl
    | some o=>rw [hk a o q] at e;injection e
  · intro q
    obtain ⟨o,ho,_⟩:=c.frm.there q
    rw [g1 a q,ho] at e;injection e
 refine ⟨G',hno,cf,fun σ' s' st'' tx=>⟨c.a,c.e,c.len,st''.unprotect c.st.base hk,c.frm.keeps (fun a o q e=>st''.keep a o (by rw [g1 a q];exact e)) tx,fun a q=>⟨(c.own a q).1,?_,(c.own a q).2.2⟩⟩⟩
 obtain ⟨o,ho,_⟩:=c.frm.there q
 refine st''.none_of_prot (o:=o) (by rw [g1 a q];exact ho) ?_
 cases hg:B.g.get? a with
 | none=>rfl
 | some o'=>have:=c.st.base a o' hg;rw [(c.own a q).1] at this;injection this
inductive RunI {α:Type} (B:Base) (G:Addr→Option Obj) (h:Heap) (P:α→AH→Shared→Prop) (a:α) (s':Shared):Prop
 | mk (σ':AH):P a σ' s'→St B G σ' s'→TExt h s'.heap→RunI B G h P a s'
inductive AvI (B:Base) (Q:AV→AH→Prop) (v:Value) (σ':AH) (s':Shared):Prop
 | mk (av:AV):Q av σ'→VRel B s'.heap av v→AvI B Q v σ' s'
theorem SCfg.run' {α:Type} (c:SCfg B d sc env G A m σ s) {t:Sem α} {P:α→AH→Shared→Prop} {R:α→Shared→Prop}
 (h:∀ G',(∀ a,G' a=none→G a=none∧¬ IsFr sc env a)→Cfg B d sc env G' A m σ s→WP B A t (RunI B G' s.heap P) s)
 (k:∀ a s' σ',P a σ' s'→SCfg B d sc env G A m σ' s'→TExt s.heap s'.heap→R a s'):WP B A t R s:=by
 obtain ⟨G',hno,cf,back⟩:=c.lockFr
 exact wpAny_mono (h G' hno cf) (fun a s' ⟨σ',hp,st'',tx⟩=>k a s' σ' hp (back σ' s' st'' tx) tx) fun _ _ z=>z
theorem SCfg.run {α:Type} (c:SCfg B d sc env G A m σ s) {t:Sem α} {P:α→AH→Shared→Prop} {R:α→Shared→Prop}
 (h:∀ G',Cfg B d sc env G' A m σ s→WP B A t (RunI B G' s.heap P) s)
 (k:∀ a s' σ',P a σ' s'→SCfg B d sc env G A m σ' s'→TExt s.heap s'.heap→R a s'):WP B A t R s:=c.run' (fun G' _ cf=>h G' cf) k
theorem SCfg.eval {e:Expr} {pe:PE} (c:SCfg B d sc env G A m σ s) (h:SoundV B d Γ sc e pe) {Q:AV→AH→Prop} (hp:pwpE Γ pe m Q σ) {R:Value→Shared→Prop}
 (k:∀ v s' av σ',Q av σ'→VRel B s'.heap av v→SCfg B d sc env G A m σ' s'→TExt s.heap s'.heap→R v s'):WP B A (eval e env) R s:=
 c.run (P:=AvI B Q) (fun G' c'=>wpAny_mono (h env G' A m σ Q s c' hp) (fun v s' ⟨av,σ',a,b,st,t⟩=>⟨σ',⟨av,a,b⟩,st,t⟩) fun _ _ z=>z)
  fun v s' σ' ⟨av,a,b⟩ c' t=>k v s' av σ' a b c' t
theorem SCfg.test {e:Expr} {pe:PE} (c:SCfg B d sc env G A m σ s) (h:SoundB B d Γ sc e pe) {Q:Bool→AH→Prop} (hp:pwpB Γ pe m Q σ) {R:Bool→Shared→Prop}
 (k:∀ b s' σ',Q b σ'→SCfg B d sc env G A m σ' s'→TExt s.heap s'.heap→R b s'):WP B A (isTrue e env (PySem.eval e env)) R s:=
 c.run (P:=fun v σ' s'=>Q v σ') (fun G' c'=>wpAny_mono (h env G' A m σ Q s c' hp) (fun v s' ⟨σ',a,st,t⟩=>⟨σ',a,st,t⟩) fun _ _ z=>z)
  fun v s' σ' a c' t=>k v s' σ' a c' t
theorem SCfg.store' (c:SCfg B d sc env G A m σ s) {x:Str} {i:Nat} (hx:sc.var? x=some i) {av:AV} {v:Value} (rv:VRel B s.heap av v) {R:Unit→Shared→Prop}
 (k:∀ s',SCfg B d sc env G A (m.set i (some av)) σ s'→TExt s.heap s'.heap→(∀ a o,¬ IsFr sc env a→s.heap.get? a=some o→s'.heap.get? a=some o)→R () s'):WP B A (storeName env x v) R s:=by
 obtain ⟨hv,hx⟩:=Option.ite_none_right_eq_some.mp hx
 have hset:∀ y j av',varIdx sc.vars y=some j→(m.set i (some av))[j]?=some (some av')→(y=x∧av'=av)∨(y≠x∧m[j]?=some (some av')):=by
  intro y j av' hy hm
  by_cases e:i=j
  · subst e
    left
    rw [List.getElem?_set_self (by rw [c.len];exact (List.getElem?_eq_some_iff.mp (varIdx_get hx)).1)] at hm
    (injection hm with z0;injection z0 with z1;subst z1);exact ⟨varIdx_inj hy hx,rfl⟩
  · right
    rw [List.getElem?_set_ne e] at hm
    exact ⟨fun q=>by rw [q,hx] at hy;exact e (Option.some.inj hy),hm⟩
 rcases Bool.or_eq_true _ _ ▸ hv with hv | hv
 · have hv:=beq_iff_eq.mp hv
   obtain ⟨mm,hn,q⟩:=c.frm.loc
   refine wpAny_storeName_local (by show env.scope.names.lookup x=_;rw [c.e.kinds];exact hv) hn (fun h' hn' hs=>?_) (by rw [c.e.fn];rfl)
   obtain ⟨st',tx⟩:=c.st.other (h':=h') (t:=s.toks+1) (·=env.locals) (fun b o hb e=>(hs.2 b hb).trans e) (fun b e=>by rw [e];exact (c.own _ (.inl rfl)).1) (fun b e=>by rw [e];exact (c.own _ (.inl rfl)).2.1)
    (fun b o e ho=>by rw [e] at ho;exact Ns_not_frozen hn o ho) (fun e=>(c.own _ (.inl rfl)).2.2 e.symm)
   refine k _ ⟨c.a,c.e,by rw [List.length_set];exact c.len,st',⟨⟨_,hn',fun y j av' hy hj hm=>?_⟩,fun y cc hy hc=>?_⟩,c.own⟩ tx fun a o ha e=>(hs.2 a (fun q=>ha (.inl q))).trans e
   · rcases hset y j av' hj hm with ⟨rfl,rfl⟩ | ⟨hne,hm⟩
     · exact ⟨v,by simp,rv.mono tx⟩
     · obtain ⟨v',h1,h2⟩:=q y j av' hy hj hm
       exact ⟨v',by simp [hne,h1],h2.mono tx⟩
   · obtain ⟨o,⟨ob,ho,hd⟩,q'⟩:=c.frm.cel y cc hy hc
     have hne:cc≠env.locals:=fun e=>c.e.off y hy (by rw [hc,e])
     refine ⟨o,⟨ob,(hs.2 cc hne).trans ho,hd⟩,fun j av' hj hm=>?_⟩
     rcases hset y j av' hj hm with ⟨rfl,rfl⟩ | ⟨hne,hm⟩
     · rw [hv] at hy;(injection hy with z0;injection z0)
     · obtain ⟨v',h1,h2⟩:=q' j av' hj hm
       exact ⟨v',h1,h2.mono tx⟩
 · have hv:=beq_iff_eq.mp hv
   obtain ⟨cc,hc⟩:=c.e.cells x hv
   obtain ⟨o,hcell,q⟩:=c.frm.cel x cc hv hc
   refine wpAny_storeName_cell c.e.fn (by show env.scope.names.lookup x=_;rw [c.e.kinds];exact hv) hc hcell fun h' hc' hs=>?_
   have hfr:IsFr sc env cc:=.inr ⟨x,hv,hc⟩
   obtain ⟨st',tx⟩:=c.st.other (h':=h') (t:=s.toks) (·=cc) (fun b o hb e=>(hs.2 b hb).trans e) (fun b e=>by rw [e];exact (c.own _ hfr).1) (fun b e=>by rw [e];exact (c.own _ hfr).2.1)
    (fun b o e ho=>by
     obtain ⟨ob,ho',hnf⟩:=c.frm.there hfr
     rw [e,ho'] at ho;(injection ho with z0;subst z0);exact hnf) (fun e=>(c.own _ hfr).2.2 e.symm)
   refine k _ ⟨c.a,c.e,by rw [List.length_set];exact c.len,st',⟨?_,fun y cy hy hcy=>?_⟩,c.own⟩ tx fun a o ha e=>(hs.2 a (fun q=>ha (q ▸ hfr))).trans e
   · obtain ⟨mm,hn,q'⟩:=c.frm.loc
     refine ⟨mm,hn.sameBut hs (fun e=>c.e.off x hv (by rw [hc,e])),fun y j av' hy hj hm=>?_⟩
     rcases hset y j av' hj hm with ⟨rfl,rfl⟩ | ⟨hne,hm⟩
     · rw [hv] at hy;(injection hy with z0;injection z0)
     · obtain ⟨v',h1,h2⟩:=q' y j av' hy hj hm
       exact ⟨v',h1,h2.mono tx⟩
   · by_cases e:cy=cc
     · subst e
       have exy:y=x:=c.e.apart y x cy hy hv hcy hc
       subst exy
       refine ⟨some v,hc',fun j av' hj hm=>?_⟩
       rcases hset y j av' hj hm with ⟨_,rfl⟩ | ⟨hne,_⟩
       · exact ⟨v,rfl,rv.mono tx⟩
       · exact absurd rfl hne
     · obtain ⟨o',⟨ob,ho,hd⟩,q'⟩:=c.frm.cel y cy hy hcy
       refine ⟨o',⟨ob,(hs.2 cy e).trans ho,hd⟩,fun j av' hj hm=>?_⟩
       rcases hset y j av' hj hm with ⟨rfl,rfl⟩ | ⟨hne,hm⟩
       · rw [hc] at hcy;(injection hcy with z0;subst z0);exact absurd rfl e
       · obtain ⟨v',h1,h2⟩:=q' j av' hj hm
         exact ⟨v',h1,h2.mono tx⟩
theorem SCfg.store (c:SCfg B d sc env G A m σ s) {x:Str} {i:Nat} (hx:sc.var? x=some i) {av:AV} {v:Value} (rv:VRel B s.heap av v) {R:Unit→Shared→Prop}
 (k:∀ s',SCfg B d sc env G A (m.set i (some av)) σ s'→TExt s.heap s'.heap→R () s'):WP B A (storeName env x v) R s:=c.store' hx rv fun s' c' t _=>k s' c' t
inductive NextI (B:Base) (d:Nat) (sc:Sc) (env:Env) (G:Addr→Option Obj) (A:Around) (h:Heap) (Q:AFl→Env'→AH→Prop) (s':Shared):Prop
 | mk (m':Env') (σ':AH):Q .next m' σ'→SCfg B d sc env G A m' σ' s'→TExt h s'.heap→NextI B d sc env G A h Q s'
inductive RetS (B:Base) (d:Nat) (sc:Sc) (env:Env) (G:Addr→Option Obj) (A:Around) (h:Heap) (Q:AFl→Env'→AH→Prop) (v:Value) (s':Shared):Prop
 | mk (av:AV) (m':Env') (σ':AH):Q (.ret av) m' σ'→VRel B s'.heap av v→SCfg B d sc env G A m' σ' s'→TExt h s'.heap→RetS B d sc env G A h Q v s'
noncomputable def PostS (B:Base) (d:Nat) (sc:Sc) (env:Env) (G:Addr→Option Obj) (A:Around) (h:Heap) (Q:AFl→Env'→AH→Prop) (fl:Flow) (s':Shared):Prop:=match fl with
 | .next=>NextI B d sc env G A h Q s'
 | .ret v=>RetS B d sc env G A h Q v s'
 | _=>False
theorem PostS.up {h h':Heap} {Q:AFl→Env'→AH→Prop} {fl:Flow} {s':Shared} (t:TExt h h') (p:PostS B d sc env G A h' Q fl s'):PostS B d sc env G A h Q fl s':=by
 cases fl with
 | next=>obtain ⟨m',σ',a,b,c⟩:=p;exact ⟨m',σ',a,b,t.trans c⟩
 | ret v=>obtain ⟨av,m',σ',a,r,b,c⟩:=p;exact ⟨av,m',σ',a,r,b,t.trans c⟩
 | _=>exact p.elim
noncomputable def SoundS (B:Base) (d:Nat) (Γ:Gam) (sc:Sc) (st:Stmt) (ps:PS):Prop:=
 ∀ (env:Env) (G:Addr→Option Obj) (A:Around) (m:Env') (σ:AH) (Q:AFl→Env'→AH→Prop) (s:Shared),SCfg B d sc env G A m σ s→pwpS Γ ps Q m σ→WP B A (exec st env) (PostS B d sc env G A s.heap Q) s
noncomputable def SoundBlk (B:Base) (d:Nat) (Γ:Gam) (sc:Sc) (l:List Stmt) (ps:PS):Prop:=
 ∀ (env:Env) (G:Addr→Option Obj) (A:Around) (m:Env') (σ:AH) (Q:AFl→Env'→AH→Prop) (s:Shared),SCfg B d sc env G A m σ s→pwpS Γ ps Q m σ→WP B A (execs l env) (PostS B d sc env G A s.heap Q) s
theorem soundBlk_nil:SoundBlk B d Γ sc [] .nop:=fun env G A m σ Q s c hp=>by
 exact wpAny_execs_nil ⟨m,σ,hp,c,.refl _⟩
theorem soundBlk_cons {st:Stmt} {l:List Stmt} {p q:PS} (h1:SoundS B d Γ sc st p) (h2:SoundBlk B d Γ sc l q):SoundBlk B d Γ sc (st::l) (.seq p q):=fun env G A m σ Q s c hp=>by
 refine wpAny_execs_cons (wpAny_mono (h1 env G A m σ _ s c hp) (fun fl s' h=>?_) fun _ _ z=>z)
 cases fl with
 | next=>
  obtain ⟨m',σ',a,c',t⟩:=h
  exact wpAny_mono (h2 env G A m' σ' Q s' c' a) (fun _ _ z=>z.up t) fun _ _ z=>z
 | ret v=>
  obtain ⟨av,m',σ',a,r,c',t⟩:=h
  exact RetS.mk av m' σ' a r c' t
 | brk=>exact h.elim
 | cont=>exact h.elim
theorem soundS_if {ce:Expr} {a b:List Stmt} {pos:Pos} {pc:PE} {pa pb:PS} (hc:SoundB B d Γ sc ce pc) (ha:SoundBlk B d Γ sc a pa) (hb:SoundBlk B d Γ sc b pb):SoundS B d Γ sc (.If ce a b pos) (.ifS pc pa pb):=fun env G A m σ Q s c hp=>by
 refine wpAny_If (c.test hc hp fun t s' σ' q c' tx=>?_)
 cases t with
 | true=>exact wpAny_mono (ha _ _ _ _ _ _ _ c' ((if_pos rfl).mp q)) (fun _ _ z=>z.up tx) fun _ _ z=>z
 | false=>exact wpAny_mono (hb _ _ _ _ _ _ _ c' ((if_neg Bool.false_ne_true).mp q)) (fun _ _ z=>z.up tx) fun _ _ z=>z
theorem soundS_ret {e:Expr} {pos:Pos} {pe:PE} (he:SoundV B d Γ sc e pe):SoundS B d Γ sc (.Return (some e) pos) (.ret pe):=fun env G A m σ Q s c hp=>by
 exact wpAny_Return_some (c.eval he hp fun v s' av σ' q r c' t=>⟨av,m,σ',q,r,c',t⟩)
theorem inter_false (he:EnvS B sc env):interactive env=false:=by unfold interactive;rw [he.fn];rfl
theorem swaps_false {e:Expr} (h:isCompE e=false) (hsd:∀ a b c d,e≠.SetComp a b c d) (hdd:∀ a b c d f,e≠.DictComp a b c d f) (t:Option Expr) (line:Nat) (env:Env):swapsWith e t line env=pure false:=by
 cases e <;> first | rfl | exact absurd rfl (hsd _ _ _ _) | exact absurd rfl (hdd _ _ _ _ _) | exact nomatch h
end
section
variable {B:Base} {d:Nat} {T:Tab} {Γ:Gam} {sc:Sc} {env:Env} {G G':Addr→Option Obj} {A:Around} {m:Env'} {σ:AH} {s:Shared}
noncomputable def NoSwap (e:Expr):Prop:=∀ t line env,swapsWith e t line env=pure false
theorem drop_any {f:Expr} {as:List Expr} {ks:List Keyword} {p pos:Pos} {v:Value} {Q:Flow→Shared→Prop} (h:Q .next s):WP B A (dropValue (.Call f as ks p) pos v) Q s:=by
 cases v with
 | ref a=>exact wpAny_bind (wpAny_standAt (wpAny_bind (wpAny_runValue (codeAny_builtin entry_let_go (wpAny_pure (wpAny_pure h))))))
 | _=>exact wpAny_pure h
theorem soundS_expr {f:Expr} {as:List Expr} {ks:List Keyword} {p pos:Pos} {pe:PE} (he:SoundV B d Γ sc (.Call f as ks p) pe):SoundS B d Γ sc (.Expr (.Call f as ks p) pos) (.expr pe):=fun env G A m σ Q s c hp=>by
 rw [arm_exec_Expr]
 refine wpAny_bind (wpAny_standAt ?_)
 rw [if_neg (by rw [inter_false c.e];decide)]
 refine wpAny_bind (wpAny_pure ?_)
 rw [if_neg (by decide)]
 exact wpAny_bind (c.eval he hp fun v s' av σ' q r c' t=>drop_any ⟨m,σ',q,c',t⟩)
theorem swapped_tup {ts:List Expr} {k:Nat} {p:Pos} {e:Expr} {env:Env} (h:∀ vs k p,e≠.Tuple vs k p):swappedStores [.Tuple ts k p] e env=pure none:=by
 cases e <;> first | rfl | exact absurd rfl (h _ _ _)
theorem assign_gen {t e:Expr} {pos:Pos} {pe:PE} {Q:AFl→Env'→AH→Prop} (hs:swapsWith e (some t) pos.line env=pure false) (hw:swappedStores [t] e env=pure none) (ht:∀ x q,t≠.Starred x q) {R:Flow→Shared→Prop}
 (h:WP B A (eval e env) (fun v s₁=>WP B A (assign t env v) (fun _=>R .next) s₁) s):WP B A (exec (.Assign [t] e pos) env) R s:=by
 have ha:(assignEach [t] env).map (·.2)=[assign t env]:=by cases t <;> first | rfl | exact absurd rfl (ht _ _)
 refine wpAny_Assign_stores ?_ hs hw
 rw [ha]
 exact h
theorem soundS_asg {x:Str} {p pos:Pos} {e:Expr} {i:Nat} {pe:PE} (hs:NoSwap e) (hx:sc.var? x=some i) (he:SoundV B d Γ sc e pe):SoundS B d Γ sc (.Assign [.Name x p] e pos) (.asg i pe):=fun env G A m σ Q s c hp=>by
 refine assign_gen (pe:=pe) (Q:=Q) (hs _ _ _) (by cases e <;> rfl) (by intro _ _ q;injection q) ?_
 refine c.eval he hp fun v s' av σ' q r c' t=>wpAny_assign_Name (c'.store hx r fun s'' c'' t'=>⟨_,σ',q,c'',t.trans t'⟩)
theorem soundS_asgA (hB:BaseOk B) (hA:Γ.attrOk=B.attrOk) {o e:Expr} {x:Str} {p pos:Pos} {po pe:PE} (hs:NoSwap e) (ho:SoundV B d Γ sc o po) (he:SoundV B d Γ sc e pe):
 SoundS B d Γ sc (.Assign [.Attribute o x p] e pos) (.asgA po x pe):=fun env G A m σ Q s c hp=>by
 refine assign_gen (pe:=pe) (Q:=Q) (hs _ _ _) (by cases e <;> rfl) (by intro _ _ q;injection q) ?_
 refine c.eval he hp fun v s₁ av σ₁ q r c₁ t₁=>?_
 refine c₁.run (P:=fun _ σ' _=>Q .next m σ') (fun G' c'=>?_) fun _ s' σ' q c' t=>⟨m,σ',q,c',t₁.trans t⟩
 rw [arm_assign_Attribute]
 refine wpAny_bind (wpAny_holding (ho.bind c' q fun ov s₂ ao σ₂ q₂ r₂ c₂ t₂=>wpAny_bind (wpAny_standAt (wpAny_bind (wpAny_holding ?_)))))
 refine wpAny_mono (setA_op hB hA c₂.st r₂ (r.mono t₂) q₂) (fun _ s₃ ⟨σ₃,q₃,st₃,t₃⟩=>wpAny_release ⟨σ₃,q₃,st₃,t₂.trans t₃⟩) fun _ _ z=>z
theorem assign_sub {o i:Expr} {pos:Pos} {v:Value} {R:Unit→Shared→Prop} (h:WP B A (eval o env) (fun ov s₁=>WP B A (eval i env) (fun iv s₂=>WP B A (setItem ov iv v) R s₂) s₁) s):WP B A (assign (.Subscript o i pos) env v) R s:=by
 rw [arm_assign_Subscript]
 refine wpAny_bind (wpAny_holding (wpAny_mono h (fun ov s₁ h₁=>wpAny_bind (wpAny_holding (wpAny_mono h₁ (fun iv s₂ h₂=>wpAny_bind (wpAny_standAt (wpAny_bind (wpAny_holding (wpAny_mono h₂ (fun _ s₃ h₃=>?_) fun _ _ z=>z))))) fun _ _ z=>z))) fun _ _ z=>z))
 first
 | exact wpAny_release h₃
 | (split <;> exact wpAny_release h₃)
theorem soundS_asgI (hB:BaseOk B) {o i e:Expr} {p pos:Pos} {po pi pe:PE} (hs:NoSwap e) (ho:SoundV B d Γ sc o po) (hi:SoundV B d Γ sc i pi) (he:SoundV B d Γ sc e pe):
 SoundS B d Γ sc (.Assign [.Subscript o i p] e pos) (.asgI po pi pe):=fun env G A m σ Q s c hp=>by
 refine assign_gen (pe:=pe) (Q:=Q) (hs _ _ _) (by cases e <;> rfl) (by intro _ _ q;injection q) ?_
 refine c.eval he hp fun v s₁ av σ₁ q r c₁ t₁=>?_
 refine c₁.run (P:=fun _ σ' _=>Q .next m σ') (fun G' c'=>?_) fun _ s' σ' q c' t=>⟨m,σ',q,c',t₁.trans t⟩
 refine assign_sub (ho.bind c' q fun ov s₂ ao σ₂ q₂ r₂ c₂ t₂=>hi.bind c₂ q₂ fun iv s₃ ai σ₃ q₃ r₃ c₃ t₃=>?_)
 exact wpAny_mono (setI_op hB c₃.st (r₂.mono t₃) r₃ (r.mono (t₂.trans t₃)) q₃) (fun _ s₄ ⟨σ₄,q₄,st₄,t₄⟩=>⟨σ₄,q₄,st₄,t₂.trans (t₃.trans t₄)⟩) fun _ _ z=>z
inductive VarsI (sc:Sc) (ts:List Expr) (is:List Nat):Prop
 | mk (xs:List (Str × Pos)):(ts=xs.map fun p=>.Name p.1 p.2)→xs.length=is.length→(∀ (j:Nat) (p:Str × Pos) (i:Nat),xs[j]?=some p→is[j]?=some i→sc.var? p.1=some i)→VarsI sc ts is
theorem compVars_spec:∀ {ts:List Expr} {is:List Nat},compVars sc ts=some is→VarsI sc ts is
 | [],is,h=>by (injection h with z0;subst z0);exact ⟨[],rfl,rfl,fun j p i h=>by simp at h⟩
 | t::ts,is,h=>by
  obtain ⟨i,is',h1,h2,rfl⟩:=o2_some h
  obtain ⟨x,h3,h4⟩:=Option.bind_eq_some_iff.mp h1
  obtain ⟨p,rfl⟩:=nameOf_some h3
  obtain ⟨xs,e1,e2,e3⟩:=compVars_spec h2
  refine ⟨(x,p)::xs,by rw [e1];rfl,by simp [e2],fun j q k hj hk=>?_⟩
  cases j with
  | zero=>(injection hj with z0;subst z0);(injection hk with z0;subst z0);exact h4
  | succ j=>exact e3 j q k hj hk
theorem assignEach_names {xs:List (Str × Pos)}:assignEach (xs.map fun p=>Expr.Name p.1 p.2) env=xs.map fun p=>(false,assign (.Name p.1 p.2) env):=by
 induction xs with
 | nil=>rfl
 | cons p r ih=>rw [List.map_cons,List.map_cons,← ih];rfl
theorem assign_names {xs:List (Str × Pos)}:∀ {is:List Nat} {avs:List AV} {vs:List Value} {m:Env'} {s:Shared} {R:Unit→Shared→Prop},SCfg B d sc env G A m σ s→xs.length=is.length→avs.length=is.length→
 (∀ (j:Nat) (p:Str × Pos) (i:Nat),xs[j]?=some p→is[j]?=some i→sc.var? p.1=some i)→VRels B s.heap avs vs→
 (∀ s',SCfg B d sc env G A (asgs is avs m) σ s'→TExt s.heap s'.heap→R () s')→WP B A (assignInOrder (xs.map fun p=>assign (.Name p.1 p.2) env) vs) R s:=by
 induction xs with
 | nil=>
  intro is avs vs m s R c h1 h2 h3 r k
  cases is with
  | cons=>injection h1
  | nil=>cases avs with
   | cons=>injection h2
   | nil=>cases r;exact wpAny_pure (k s c (.refl _))
 | cons p xs ih=>
  intro is avs vs m s R c h1 h2 h3 r k
  cases is with
  | nil=>injection h1
  | cons i is=>cases avs with
   | nil=>injection h2
   | cons av avs=>cases r with
    | cons r rs=>
     rw [List.map_cons]
     refine wpAny_bind (wpAny_holding (wpAny_assign_Name (c.store (h3 0 p i rfl rfl) r fun s' c' t=>?_)))
     exact ih c' (Nat.succ.inj h1) (Nat.succ.inj h2) (fun j q k hj hk=>h3 (j+1) q k hj hk) (rs.mono t) fun s'' c'' t'=>k s'' c'' (t.trans t')
theorem assign_tuple (c:SCfg B d sc env G A m σ s) {ts:List Expr} {is:List Nat} {k:Nat} {pos:Pos} (ht:compVars sc ts=some is) {xs:List AV} {v:Value} (rv:VRel B s.heap (.tup xs) v) (hl:xs.length=is.length) {R:Unit→Shared→Prop}
 (h:∀ s',SCfg B d sc env G A (asgs is xs m) σ s'→TExt s.heap s'.heap→R () s'):WP B A (assign (.Tuple ts k pos) env v) R s:=by
 obtain ⟨ns,rfl,e2,e3⟩:=compVars_spec ht
 obtain ⟨p,ys,n,rfl,hp,hn,rr⟩:=rv.tupI
 have hlen:=rr.length
 refine wpAny_assign_Tuple c.a.handled ⟨_,hp,rfl,n,rfl⟩ (by rw [assignEach_names];simp;lia) (by
  rw [assignEach_names,List.findIdx?_eq_none_iff]
  intro x hx
  obtain ⟨q,_,rfl⟩:=List.mem_map.mp hx
  rfl) fun h' hx=>?_
 rw [assignEach_names,List.map_map]
 obtain ⟨st',tx⟩:=c.st.keeps (h':=h') (t:=s.toks) (fun b o e=>hx b o (Nat.ne_of_lt (Heap.lt_size e)) e)
 have c':SCfg B d sc env G A m σ { s with heap:=h' }:=⟨c.a,c.e,c.len,st',c.frm.keeps (fun b o _ e=>hx b o (Nat.ne_of_lt (Heap.lt_size e)) e) tx,c.own⟩
 exact assign_names c' e2 hl e3 (by simpa using rr.mono tx) fun s' c'' t=>h s' c'' (tx.trans t)
theorem soundS_asgT {ts:List Expr} {is:List Nat} {k:Nat} {p pos:Pos} {e:Expr} {pe:PE} (hs:NoSwap e) (hnt:∀ vs k p,e≠.Tuple vs k p) (ht:compVars sc ts=some is) (he:SoundV B d Γ sc e pe):
 SoundS B d Γ sc (.Assign [.Tuple ts k p] e pos) (.asgT is pe):=fun env G A m σ Q s c hp=>by
 refine assign_gen (pe:=pe) (Q:=Q) (hs _ _ _) (swapped_tup hnt) (by intro _ _ q;injection q) ?_
 refine c.eval he hp fun v s' av σ' q r c' t=>?_
 replace q:=asT_inv q
 obtain ⟨xs,rfl,q1,q2⟩:=q
 exact assign_tuple c' ht r q1 fun s'' c'' t'=>⟨_,σ',q2,c'',t.trans t'⟩
theorem soundS_augV {x:Str} {p pos:Pos} {o:Operator} {c':Op2} {e:Expr} {i:Nat} {pe:PE} (hx:sc.var? x=some i) (ho:op2? o=some c') (he:SoundV B d Γ sc e pe):SoundS B d Γ sc (.AugAssign (.Name x p) o e pos) (.augV i c' pe):=fun env G A m σ Q s c hp=>by
 rw [op2?_op ho]
 refine wpAny_AugAssign_Name ?_
 refine c.run (P:=AvI B fun old σ'=>pwpE Γ pe m (fun v σ=>augW c' old v (fun r σ=>Q .next (m.set i (some r)) σ) σ) σ') (fun G' cf=>?_) fun v s₁ σ₁ h₁ c₁ t₁=>?_
 · refine wpAny_mono (var_ld (Γ:=Γ) cf hx (Q:=fun old σ'=>pwpE Γ pe m (fun v σ=>augW c' old v (fun r σ=>Q .next (m.set i (some r)) σ) σ) σ') hp) (fun v s' h=>?_) fun _ _ z=>z
   obtain ⟨av,σ',q,r,st,t⟩:=h
   exact ⟨_,⟨av,q,r⟩,st,t⟩
 obtain ⟨old,hp,r₁⟩:=h₁
 refine c₁.eval he hp fun u s₂ av σ₂ q r₂ c₂ t₂=>?_
 refine c₂.run (P:=AvI B fun av σ'=>Q .next (m.set i (some av)) σ') (fun G' cf=>?_) fun v s₃ σ₃ h₃ c₃ t₃=>?_
 · refine wpAny_mono (aug_op cf.st (r₁.mono t₂) r₂ q) (fun v s' h=>?_) fun _ _ z=>z
   obtain ⟨av,σ',q,r,st,t⟩:=h
   exact ⟨σ',⟨av,q,r⟩,st,t⟩
 · obtain ⟨ar,q₃,r₃⟩:=h₃
   exact c₃.store hx r₃ fun s₄ c₄ t₄=>⟨_,σ₃,q₃,c₄,t₁.trans (t₂.trans (t₃.trans t₄))⟩
theorem soundS_augA (hB:BaseOk B) (hA:Γ.attrOk=B.attrOk) {ob e:Expr} {x:Str} {p pos:Pos} {o:Operator} {c':Op2} {po pe:PE} (hop:op2? o=some c') (ho:SoundV B d Γ sc ob po) (he:SoundV B d Γ sc e pe):
 SoundS B d Γ sc (.AugAssign (.Attribute ob x p) o e pos) (.augA po x c' pe):=fun env G A m σ Q s c hp=>by
 rw [op2?_op hop]
 refine c.run (P:=fun fl σ' _=>fl=.next∧Q .next m σ') (fun G' cf=>?_) fun fl s' σ' ⟨e,q⟩ c' t=>by subst e;exact ⟨m,σ',q,c',t⟩
 refine wpAny_AugAssign_AttributeAny (ho.bind cf hp fun ov s₁ ao σ₁ q₁ r₁ c₁ t₁=>?_)
 refine wpAny_mono (attr_op hB c₁.st r₁ q₁) (fun old s₂ ⟨aold,σ₂,q₂,r₂,st₂,t₂⟩=>?_) fun _ _ z=>z
 refine he.bind (c₁.next st₂ t₂) q₂ fun v s₃ av σ₃ q₃ r₃ c₃ t₃=>?_
 refine wpAny_mono (aug_op c₃.st (r₂.mono t₃) r₃ q₃) (fun new s₄ ⟨an,σ₄,q₄,r₄,st₄,t₄⟩=>?_) fun _ _ z=>z
 exact wpAny_mono (setA_op hB hA st₄ (r₁.mono (t₂.trans (t₃.trans t₄))) r₄ q₄) (fun _ s₅ ⟨σ₅,q₅,st₅,t₅⟩=>⟨σ₅,⟨rfl,q₅⟩,st₅,t₁.trans (t₂.trans (t₃.trans (t₄.trans t₅)))⟩) fun _ _ z=>z
theorem soundS_augI (hB:BaseOk B) {ob i e:Expr} {p pos:Pos} {o:Operator} {c':Op2} {po pi pe:PE} (hop:op2? o=some c') (hsl:∀ l u t p,i≠.Slice l u t p) (ho:SoundV B d Γ sc ob po) (hi:SoundV B d Γ sc i pi) (he:SoundV B d Γ sc e pe):
 SoundS B d Γ sc (.AugAssign (.Subscript ob i p) o e pos) (.augI po pi c' pe):=fun env G A m σ Q s c hp=>by
 rw [op2?_op hop]
 refine c.run (P:=fun fl σ' _=>fl=.next∧Q .next m σ') (fun G' cf=>?_) fun fl s' σ' ⟨e,q⟩ c' t=>by subst e;exact ⟨m,σ',q,c',t⟩
 refine wpAny_AugAssign_SubscriptAny (ho.bind cf hp fun ov s₁ ao σ₁ q₁ r₁ c₁ t₁=>hi.bind c₁ q₁ fun iv s₂ ai σ₂ q₂ r₂ c₂ t₂=>?_) (fun ov iv new=>by cases i <;> first | rfl | exact absurd rfl (hsl _ _ _ _))
 obtain ⟨old,hold,q₂⟩:=som_inv q₂
 refine wpAny_mono (idx_op (value:=ob) (slice:=i) (Q:=fun old σ=>pwpE Γ pe m (fun v σ=>augW c' old v (fun r σ=>setIW ao ai r (fun σ=>Q .next m σ) σ) σ) σ) hB c₂.st (r₁.mono t₂) r₂ hold q₂ hsl).2 (fun old s₃ h=>?_) fun _ _ z=>z
 obtain ⟨aold,σ₃,q₂,r₃,st₃,t₃⟩:=h
 refine he.bind (c₂.next st₃ t₃) q₂ fun v s₄ av σ₄ q₄ r₄ c₄ t₄=>?_
 refine wpAny_mono (aug_op c₄.st (r₃.mono t₄) r₄ q₄) (fun new s₅ h=>?_) fun _ _ z=>z
 obtain ⟨an,σ₅,q₅,r₅,st₅,t₅⟩:=h
 have t:=t₃.trans (t₄.trans t₅)
 refine wpAny_mono (setI_op hB st₅ (r₁.mono (t₂.trans t)) (r₂.mono t) r₅ q₅) (fun _ s₆ h=>?_) fun _ _ z=>z
 obtain ⟨σ₆,q₆,st₆,t₆⟩:=h
 exact ⟨σ₆,⟨rfl,q₆⟩,st₆,t₁.trans (t₂.trans (t.trans t₆))⟩
inductive WhlI (B:Base) (d:Nat) (sc:Sc) (env:Env) (G:Addr→Option Obj) (A:Around) (h:Heap) (W:Env'→AH→Prop) (s':Shared):Prop
 | mk (m:Env') (σ:AH):SCfg B d sc env G A m σ s'→TExt h s'.heap→W m σ→WhlI B d sc env G A h W s'
theorem soundS_whl {ce:Expr} {b:List Stmt} {pos:Pos} {pc:PE} {pb:PS} (hc:SoundB B d Γ sc ce pc) (hb:SoundBlk B d Γ sc b pb):SoundS B d Γ sc (.While ce b [] pos) (.whl pc pb):=fun env G A m σ Q s c hp=>by
 obtain ⟨n,hp⟩:=hp
 refine wpAny_While (codeAny_whileLoop (fun n=>WhlI B d sc env G A s.heap (whileW (pwpB Γ pc) (pwpS Γ pb) n Q)) (fun n s' h=>?_) n ⟨m,σ,c,.refl _,hp⟩)
 obtain ⟨m',σ',c',t',hw⟩:=h
 cases n with
 | zero=>exact hw.elim
 | succ n=>
  simp only [whileW] at hw
  refine wpAny_mono (c'.test hc hw (R:=fun b' s₂=>if b'=true then WP B A (execs b env) (fun f s₃=>match f with
   | .next | .cont=>∃ k,k < n+1∧WhlI B d sc env G A s.heap (whileW (pwpB Γ pc) (pwpS Γ pb) k Q) s₃
   | .brk=>PostS B d sc env G A s.heap Q .next s₃
   | .ret v=>PostS B d sc env G A s.heap Q (.ret v) s₃) s₂ else PostS B d sc env G A s.heap Q .next s₂) fun b' s₂ σ₂ q c₂ t₂=>?_) (fun b' s₂ h₂=>?_) fun _ _ z=>z.elim
  · cases b' with
    | true=>
     rw [if_pos rfl] at q ⊢
     refine wpAny_mono (hb env G A m' σ₂ _ s₂ c₂ q) (fun fl s₃ h₃=>?_) fun _ _ z=>z
     cases fl with
     | next=>obtain ⟨m₃,σ₃,q₃,c₃,t₃⟩:=h₃;exact ⟨n,Nat.lt_succ_self n,m₃,σ₃,c₃,t'.trans (t₂.trans t₃),q₃⟩
     | ret v=>obtain ⟨av,m₃,σ₃,q₃,r₃,c₃,t₃⟩:=h₃;exact ⟨av,m₃,σ₃,q₃,r₃,c₃,t'.trans (t₂.trans t₃)⟩
     | brk=>exact h₃.elim
     | cont=>exact h₃.elim
    | false=>
     rw [if_neg (by decide)] at q ⊢
     exact ⟨m',σ₂,q,c₂,t'.trans t₂⟩
  · cases b' with
    | true=>
     rw [if_pos rfl] at h₂
     exact wpAny_mono h₂ (fun f s₃ h₃=>by cases f <;> exact h₃) fun _ _ z=>z.elim
    | false=>
     rw [if_neg (by decide)] at h₂
     exact wpAny_execs_nil h₂
end
inductive TupIt (B:Base) (h:Heap) (I:Addr) (xs:List AV) (rev:Bool) (i:Nat):Prop
 | mk (t:Addr) (ys:List Value) (n:Nat):h.get? t=some { cls:=.type "tuple",data:=.seq ys.toArray n }→VRels B h xs ys→xs.length≤LIM→(if rev=true then i≤ys.length∧IsRv h I t ((ys.length:Int) - 1 - (i:Int)) else h.IsTupleIter I t i)→TupIt B h I xs rev i
structure RngIt (h:Heap) (I:Addr) (lo hi:Int) (rev:Bool) (i:Nat):Prop where
 r:rev=false
 b1:-LIM≤lo
 b2:lo≤LIM
 b3:-LIM≤hi
 b4:hi≤LIM
 it:IsRangeIter h I (lo+(i:Int)) (((hi - lo).toNat:Int) - (i:Int)) 1
noncomputable def itO (h:Heap) (I a:Addr) (i:Nat):AO→Prop
 | .list _=>h.IsListIter I a i
 | .dict kvs ep=>h.IsKeyIter I a i kvs.length ep
 | _=>False
noncomputable def ItAt (B:Base) (σ₀:AH) (h:Heap) (I:Addr) (src:AV) (rev:Bool) (i:Nat):Prop:=match src with
 | .tup xs=>TupIt B h I xs rev i
 | .ref a=>rev=false∧som (σ₀ a) (itO h I a i)
 | .rng lo hi=>RngIt h I lo hi rev i
 | _=>False
noncomputable def ordd (rev:Bool) (xs:List AV):List AV:=if rev=true then xs.reverse else xs
section
variable {B:Base} {d:Nat} {T:Tab} {Γ:Gam} {sc:Sc} {env:Env} {G G':Addr→Option Obj} {A:Around} {m:Env'} {σ σ₀:AH} {s:Shared}
theorem notFrozen_of {o:Obj} {T:String} (h:o.cls=.type T) (h1:T ≠ "tuple") (h2:T ≠ "range") (h3:∀ vs,o.data=.fields vs→∀ q t,vs[1]?≠some (.str q t)):¬ Frozen o:=by
 rintro ⟨h',_⟩
 rcases h' with (e | e | ⟨C,e⟩) | ⟨vs,q,t,e1,e2⟩
 · rw [h] at e;exact h1 (Value.type.inj e)
 · rw [h] at e;exact h2 (Value.type.inj e)
 · rw [h] at e;injection e
 · exact h3 vs e1 q t e2
inductive NF (h:Heap) (I:Addr):Prop
 | mk (o:Obj):h.get? I=some o→¬ Frozen o→NF h I
theorem nf_fields {h:Heap} {I:Addr} {o:Obj} {T:String} {vs:Array Value} (ho:h.get? I=some o) (hc:o.cls=.type T) (hd:o.data=.fields vs) (h1:T ≠ "tuple") (h2:T ≠ "range") (h3:∀ q t,vs[1]?≠some (.str q t)):NF h I:=
 ⟨o,ho,notFrozen_of hc h1 h2 fun us e q t=>by rw [hd] at e;injection e with e;exact e ▸ h3 q t⟩
theorem ItAt.obj {h:Heap} {I:Addr} {src:AV} {rev:Bool} {i:Nat} (it:ItAt B σ₀ h I src rev i):NF h I:=by
 cases src with
 | tup xs=>
  obtain ⟨t,ys,n,_,_,_,it⟩:=it
  by_cases hr:rev=true
  · rw [if_pos hr] at it;exact nf_fields it.2 rfl rfl (by decide) (by decide) (fun q t e=>nomatch e)
  · rw [if_neg hr] at it;obtain ⟨o,ho,hc,hd⟩:=it;exact nf_fields ho hc hd (by decide) (by decide) (fun q t e=>nomatch e)
 | ref a=>
  obtain ⟨ao,_,it⟩:=som_inv it.2
  cases ao with
  | list _=>obtain ⟨o,ho,hc,hd⟩:=it;exact nf_fields ho hc hd (by decide) (by decide) (fun q t e=>nomatch e)
  | dict _ _=>obtain ⟨o,ho,hc,hd⟩:=it;exact nf_fields ho hc hd (by decide) (by decide) (fun q t e=>nomatch e)
  | _=>exact it.elim
 | rng lo hi=>exact nf_fields it.it rfl rfl (by decide) (by decide) (fun q t e=>nomatch e)
 | _=>exact it.elim
theorem ItAt.keeps {h h':Heap} {I:Addr} {src:AV} {rev:Bool} {i:Nat} (it:ItAt B σ₀ h I src rev i) (hk:∀ o,h.get? I=some o→h'.get? I=some o) (tx:TExt h h'):ItAt B σ₀ h' I src rev i:=by
 cases src with
 | tup xs=>
  obtain ⟨t,ys,n,ht,r,hn,it⟩:=it
  refine TupIt.mk t ys n (tx _ _ ht ⟨.inl (.inl rfl),(fun _ _ q=>nomatch q),fun _ q=>nomatch q⟩) (r.mono tx) hn ?_
  by_cases hr:rev=true
  · rw [if_pos hr] at it ⊢;exact ⟨it.1,hk _ it.2⟩
  · rw [if_neg hr] at it ⊢;obtain ⟨o,ho,q⟩:=it;exact ⟨o,hk _ ho,q⟩
 | ref a=>
  obtain ⟨ao,h0,q⟩:=som_inv it.2
  refine ⟨it.1,som_of h0 ?_⟩
  cases ao with
  | list _=>obtain ⟨o,ho,q⟩:=q;exact ⟨o,hk _ ho,q⟩
  | dict _ _=>obtain ⟨o,ho,q⟩:=q;exact ⟨o,hk _ ho,q⟩
  | _=>exact q.elim
 | rng lo hi=>exact RngIt.mk it.r it.b1 it.b2 it.b3 it.b4 (hk _ it.it)
 | _=>exact it.elim
theorem tup_ne_it {h:Heap} {I t:Addr} {o o':Obj} {T:String} (ht:h.get? t=some o) (hc:o.cls=.type "tuple") (hi:h.get? I=some o') (hc':o'.cls=.type T) (hT:T ≠ "tuple"):t≠I:=fun e=>by
 rw [e,hi] at ht;(injection ht with z0;subst z0)
 rw [hc] at hc';exact hT (Value.type.inj hc').symm
theorem same_list {a:Addr} {xs:List AV} (h0:σ₀ a=some (.list xs)) (hs:sameSrc σ₀ σ (.ref a)):σ a=some (.list xs):=by
 have hs:(σ a).bind shpO=(σ₀ a).bind shpO:=hs
 rw [h0] at hs
 obtain ⟨o,e,hs⟩:=bind_some hs
 cases o with
 | list ys=>injection hs with hs;injection hs with hs;rw [e,hs]
 | dict=>injection hs with hs;injection hs with _ hs;injection hs with _ hs;injection hs
 | _=>injection hs
inductive SameD (σ:AH) (a:Addr) (kvs:List (Int × AV)) (ep:Nat):Prop
 | mk (kvs':List (Int × AV)):σ a=some (.dict kvs' ep)→kvs.map (·.1)=kvs'.map (·.1)→SameD σ a kvs ep
theorem same_dict {a:Addr} {kvs:List (Int × AV)} {ep:Nat} (h0:σ₀ a=some (.dict kvs ep)) (hs:sameSrc σ₀ σ (.ref a)):SameD σ a kvs ep:=by
 have hs:(σ a).bind shpO=(σ₀ a).bind shpO:=hs
 rw [h0] at hs
 obtain ⟨o,e,hs⟩:=bind_some hs
 cases o with
 | dict kvs' ep'=>
  injection hs with hs
  injection hs with _ hs
  injection hs with h1 h2
  injection h2 with h2
  exact ⟨kvs',h2 ▸ e,h1.symm⟩
 | list=>injection hs with hs;injection hs with _ hs;injection hs with _ hs;injection hs
 | _=>injection hs
inductive Mv (I:Addr) (s:Shared):Shared→Prop
 | mk (h':Heap) (tk:Nat):(∀ b o,b≠I→s.heap.get? b=some o→h'.get? b=some o)→Mv I s { s with heap:=h',toks:=tk }
theorem Mv.of {I:Addr} {h':Heap} {tk:Nat} (hs:Heap.SameBut I s.heap h'):Mv I s { s with heap:=h',toks:=tk }:=⟨h',tk,fun b o hb e=>(hs.2 b hb).trans e⟩
theorem it_next (hB:BaseOk B) (st:St B G σ s) {I:Addr} {src:AV} {rev:Bool} {i:Nat} {xs:List AV} {x:AV} (it:ItAt B σ₀ s.heap I src rev i) (hs:sameSrc σ₀ σ src) (hx:itemsOf σ₀ src=some xs) (hi:(ordd rev xs)[i]?=some x) {Q:Option Value→Shared→Prop} {E:Value→Shared→Prop}
 (k:∀ v s₁,Mv I s s₁→VRel B s₁.heap x v→ItAt B σ₀ s₁.heap I src rev (i+1)→Q (some v) s₁):wpAny (model B.prog B.w) A (pyNext (.ref I)) Q E s:=by
 obtain ⟨o',ho',hnf⟩:=it.obj
 have txk:∀ {h'},Heap.SameBut I s.heap h'→TExt s.heap h':=fun hs b o e f=>(hs.2 b (fun q=>by rw [q,ho'] at e;injection e with e;exact hnf (e ▸ f))).trans e
 cases src with
 | tup zs=>
  injection hx with hx
  subst hx
  obtain ⟨t,ys,n,ht,r,hn,it⟩:=it
  have hlen:=r.length
  by_cases hr:rev=true
  · subst hr
    have hi:zs.reverse[i]?=some x:=hi
    rw [if_pos rfl] at it
    obtain ⟨hle,it⟩:=it
    have hlt:i < zs.length:=List.length_reverse (as:=zs) ▸ (List.getElem?_eq_some_iff.mp hi).1
    rw [List.getElem?_reverse hlt] at hi
    obtain ⟨v,hv,rv⟩:=r.get hi
    have htI:t≠I:=tup_ne_it ht rfl it rfl (by decide)
    have e:(ys.length:Int) - 1 - (i:Int)=((ys.length - 1 - i:Nat):Int):=by lia
    rw [e] at it
    refine rv_next_item it ht (by rw [← hlen];exact hv) (by rw [← hlen];exact LIM_fit hn) fun h' tk hit' hs'=>?_
    refine k v _ (.of hs') (rv.mono (txk hs')) (TupIt.mk t ys n ((hs'.2 t htI).trans ht) (r.mono (txk hs')) hn ?_)
    rw [if_pos rfl]
    refine ⟨by lia,?_⟩
    have e2:((ys.length - 1 - i:Nat):Int) - 1=(ys.length:Int) - 1 - ((i+1:Nat):Int):=by lia
    exact e2 ▸ hit'
  · have hi:(if rev=true then zs.reverse else zs)[i]?=some x:=hi
    rw [if_neg hr] at it hi
    obtain ⟨v,hv,rv⟩:=r.get hi
    have htI:t≠I:=by obtain ⟨o,ho,hc,_⟩:=it;exact tup_ne_it ht rfl ho hc (by decide)
    refine wpAny_pyNext_tuple_item it ⟨_,ht,rfl,n,rfl⟩ (x:=v) (by rw [List.getElem?_toArray];exact hv) fun h' hit' hs'=>?_
    refine k v _ (.of hs') (rv.mono (txk hs')) (TupIt.mk t ys n ((hs'.2 t htI).trans ht) (r.mono (txk hs')) hn ?_)
    rw [if_neg hr];exact hit'
 | ref a=>
  obtain ⟨rfl,it⟩:=it
  have hi:xs[i]?=some x:=hi
  obtain ⟨ao,h0,it⟩:=som_inv it
  have hx:(σ₀ a).bind itemsO=some xs:=hx
  rw [h0] at hx
  cases ao with
  | list zs=>
   injection hx with hx
   subst hx
   obtain ⟨hn,ys,hl,r⟩:=(st.objs _ _ (same_list h0 hs)).1
   obtain ⟨v,hv,rv⟩:=r.get hi
   refine wpAny_pyNext_list_item it hl.isList (x:=v) (by rw [List.getElem?_toArray];exact hv) fun h' hit' hs'=>?_
   exact k v _ (.of hs') (rv.mono (txk hs')) ⟨rfl,som_of h0 hit'⟩
  | dict kvs ep=>
   injection hx with hx
   subst hx
   obtain ⟨kvs',hσ,hkeys⟩:=same_dict h0 hs
   obtain ⟨hn,ws,hd,hk'⟩:=(st.objs _ _ hσ).1
   have hlen:kvs.length=ws.length:=by have:=congrArg List.length (hkeys.trans hk'.keys);rw [List.length_map,List.length_map] at this;exact this
   rw [List.getElem?_map] at hi
   obtain ⟨p,hp,rfl⟩:=map_some hi
   have e1:(ws.map (·.1))[i]?=some p.1:=by rw [← hk'.keys,← hkeys,List.getElem?_map,hp];rfl
   rw [List.getElem?_map] at e1
   obtain ⟨⟨q1,q2⟩,hw,e2⟩:=map_some e1
   replace e2:q1=p.1:=e2
   subst e2
   have it:s.heap.IsKeyIter I a i kvs.length ep:=it
   rw [hlen] at it
   refine wpAny_pyNext_dict_item it hd hw fun key h' hkey hit' hs'=>?_
   obtain ⟨t,rfl⟩:=Value.isInt_shape hkey
   exact k _ _ (.of hs') (.int _ _) ⟨rfl,som_of h0 (show h'.IsKeyIter I a (i+1) kvs.length ep from hlen ▸ hit')⟩
  | _=>exact it.elim
 | rng lo hi'=>
  obtain ⟨rfl,b1,b2,b3,b4,it⟩:=it
  have hi:xs[i]?=some x:=hi
  injection hx with hx
  subst hx
  rw [List.getElem?_map] at hi
  obtain ⟨j,hj,rfl⟩:=map_some hi
  have hlt:i < (hi' - lo).toNat:=List.length_range (n:=(hi' - lo).toNat) ▸ (List.getElem?_eq_some_iff.mp hj).1
  rw [List.getElem?_range hlt] at hj
  injection hj with hj
  subst hj
  refine wpAny_pyNext_range_item it (by lia) fun h' hit' hs'=>?_
  refine k _ _ (.of hs') (.int _ _) (RngIt.mk rfl b1 b2 b3 b4 ?_)
  have e1:lo+((i+1:Nat):Int)=lo+(i:Int)+1:=by lia
  have e2:(((hi' - lo).toNat:Nat):Int) - ((i+1:Nat):Int)=(((hi' - lo).toNat:Nat):Int) - (i:Int) - 1:=by lia
  rw [e1,e2];exact hit'
 | _=>exact it.elim
theorem it_end (hB:BaseOk B) (hh:A.handled=none) (st:St B G σ s) {I:Addr} {src:AV} {rev:Bool} {i:Nat} {xs:List AV} (it:ItAt B σ₀ s.heap I src rev i) (hs:sameSrc σ₀ σ src) (hx:itemsOf σ₀ src=some xs) (hi:i=(ordd rev xs).length) {Q:Option Value→Shared→Prop} {E:Value→Shared→Prop}
 (k:∀ s₁,Mv I s s₁→Q none s₁):wpAny (model B.prog B.w) A (pyNext (.ref I)) Q E s:=by
 have kk:∀ {h'},Heap.ExtBut I s.heap h'→Q none { s with heap:=h' }:=fun he=>k _ ⟨_,s.toks,he⟩
 cases src with
 | tup zs=>
  injection hx with hx
  subst hx
  obtain ⟨t,ys,n,ht,r,hn,it⟩:=it
  have hlen:=r.length
  by_cases hr:rev=true
  · subst hr
    have hi:i=zs.reverse.length:=hi
    rw [List.length_reverse] at hi
    rw [if_pos rfl] at it
    have e:(ys.length:Int) - 1 - (i:Int)=-1:=by lia
    rw [e] at it
    exact rv_next_end hh it.2 fun h' he=>kk he
  · have hi:i=(if rev=true then zs.reverse else zs).length:=hi
    rw [if_neg hr] at it hi
    exact wpAny_pyNext_tuple_end hh it ⟨_,ht,rfl,n,rfl⟩ (by rw [List.getElem?_toArray];exact List.getElem?_eq_none (by lia)) fun h' he=>kk he
 | ref a=>
  obtain ⟨rfl,it⟩:=it
  have hi:i=xs.length:=hi
  obtain ⟨ao,h0,it⟩:=som_inv it
  have hx:(σ₀ a).bind itemsO=some xs:=hx
  rw [h0] at hx
  cases ao with
  | list zs=>
   injection hx with hx
   subst hx
   obtain ⟨hn,ys,hl,r⟩:=(st.objs _ _ (same_list h0 hs)).1
   have hlen:=r.length
   exact wpAny_pyNext_list_end hh it hl.isList (by rw [List.getElem?_toArray];exact List.getElem?_eq_none (by lia)) fun h' he=>kk he
  | dict kvs ep=>
   injection hx with hx
   subst hx
   rw [List.length_map] at hi
   obtain ⟨kvs',hσ,hkeys⟩:=same_dict h0 hs
   obtain ⟨hn,ws,hd,hk'⟩:=(st.objs _ _ hσ).1
   have hlen:kvs.length=ws.length:=by have:=congrArg List.length (hkeys.trans hk'.keys);rw [List.length_map,List.length_map] at this;exact this
   have it:s.heap.IsKeyIter I a i kvs.length ep:=it
   rw [hlen] at it
   exact wpAny_pyNext_dict_end hh it hd (List.getElem?_eq_none (by lia)) fun h' he=>kk he
  | _=>exact it.elim
 | rng lo hi'=>
  obtain ⟨rfl,b1,b2,b3,b4,it⟩:=it
  have hi:i=xs.length:=hi
  injection hx with hx
  subst hx
  rw [List.length_map,List.length_range] at hi
  exact wpAny_pyNext_range_end hh it (by lia) fun h' he=>kk he
 | _=>exact it.elim
theorem it_start (hB:BaseOk B) (st:St B G σ s) {src:AV} {v:Value} {xs:List AV} (rv:VRel B s.heap src v) (hx:itemsOf σ src=some xs) {Q:Value→Shared→Prop}
 (k:∀ I h',s.heap.get? I=none→(∀ b o,s.heap.get? b=some o→h'.get? b=some o)→ItAt B σ h' I src false 0→Q (.ref I) { s with heap:=h' }):WP B A (pyIter v) Q s:=by
 have fr:s.heap.get? s.heap.objs.size=none:=get?_fresh _ (Nat.le_refl _)
 cases src with
 | tup zs=>
  injection hx with hx
  subst hx
  obtain ⟨t,ys,n,rfl,ht,hn,r⟩:=rv.tupI
  refine wpAny_pyIter_tuple ⟨_,ht,rfl,n,rfl⟩ (k _ _ fr (fun b o e=>Heap.get?_push_of_some _ e) (TupIt.mk t ys n (Heap.get?_push_of_some _ ht) (r.mono (.of_keeps fun b o e=>Heap.get?_push_of_some _ e)) hn ?_))
  rw [if_neg Bool.false_ne_true]
  exact ⟨_,Heap.get?_push_size _ rfl,rfl,rfl⟩
 | ref a=>
  obtain rfl:=rv.refI
  obtain ⟨ao,hσ,hx⟩:=bind_some (show (σ a).bind itemsO=some xs from hx)
  cases ao with
  | list zs=>
   obtain ⟨hn,ys,hl,r⟩:=(st.objs _ _ hσ).1
   exact wpAny_pyIter_list hl.isList (k _ _ fr (fun b o e=>Heap.get?_push_of_some _ e) ⟨rfl,som_of hσ ⟨_,Heap.get?_push_size _ rfl,rfl,rfl⟩⟩)
  | dict kvs ep=>
   obtain ⟨hn,ws,hd,hk⟩:=(st.objs _ _ hσ).1
   refine wpAny_pyIter_dict (not_sys hB st hσ rfl) hd (k _ _ fr (fun b o e=>Heap.get?_push_of_some _ e) ⟨rfl,som_of hσ ?_⟩)
   show Heap.IsKeyIter _ _ a 0 kvs.length ep
   rw [hk.len]
   exact ⟨_,Heap.get?_push_size _ rfl,rfl,rfl⟩
  | _=>injection hx
 | rng lo hi=>
  obtain ⟨p,t,u,x,rfl,hr,h1,h2,h3,h4⟩:=rv.rngI
  have hsz:Builtin.Range.rangeSize lo hi 1=(((hi - lo).toNat:Nat):Int):=by
   rw [rangeSize_one]
   by_cases c:lo < hi
   · rw [if_pos c];lia
   · rw [if_neg c];lia
  refine wpAny_pyIter_range hr (small_one (by unfold LIM at *;lia) (by unfold LIM at *;lia) (by unfold LIM at *;lia) (by unfold LIM at *;lia)) (k _ _ fr (fun b o e=>Heap.get?_push_of_some _ e) (RngIt.mk rfl h1 h2 h3 h4 ?_))
  rw [hsz,Int.natCast_zero,Int.add_zero,Int.sub_zero]
  exact Heap.get?_push_size _ rfl
 | _=>injection hx
end
section
variable {B:Base} {d:Nat} {T:Tab} {Γ:Gam} {sc:Sc} {env:Env} {G G':Addr→Option Obj} {A:Around} {m:Env'} {σ σ₀:AH} {s:Shared}
theorem SCfg.keeps (c:SCfg B d sc env G A m σ s) {h':Heap} {t:Nat} (hk:∀ b o,s.heap.get? b=some o→h'.get? b=some o):SCfg B d sc env G A m σ { s with heap:=h',toks:=t }∧TExt s.heap h':=by
 obtain ⟨st',tx⟩:=c.st.keeps (h':=h') (t:=t) hk
 exact ⟨⟨c.a,c.e,c.len,st',c.frm.keeps (fun b o _ e=>hk b o e) tx,c.own⟩,tx⟩
structure Own (B:Base) (sc:Sc) (env:Env) (G:Addr→Option Obj) (σ:AH) (I:Addr):Prop where
 g:G I=none
 σ:σ I=none
 tab:I≠B.tab
 fr:¬ IsFr sc env I
theorem SCfg.fresh (c:SCfg B d sc env G A m σ s) {I:Addr} (h:s.heap.get? I=none):Own B sc env G σ I:=
 ⟨(c.st.fresh' h).2,(c.st.fresh' h).1,(fun e=>by obtain ⟨o,ho,_⟩:=c.st.tab;rw [e,ho] at h;injection h),(fun q=>by obtain ⟨o,ho,_⟩:=c.frm.there q;rw [h] at ho;injection ho)⟩
theorem SCfg.tick (c:SCfg B d sc env G A m σ s) {I:Addr} (w:Own B sc env G σ I) (hf:∀ o,s.heap.get? I=some o→¬ Frozen o) {h':Heap} {t:Nat} (hk:∀ b o,b≠I→s.heap.get? b=some o→h'.get? b=some o):
 SCfg B d sc env G A m σ { s with heap:=h',toks:=t }∧TExt s.heap h':=by
 obtain ⟨st',tx⟩:=c.st.other (h':=h') (t:=t) (·=I) (fun b o hb e=>hk b o hb e) (fun b e=>by rw [e];exact w.g) (fun b e=>by rw [e];exact w.σ) (fun b o e ho=>hf o (e ▸ ho)) (fun e=>w.tab e.symm)
 exact ⟨⟨c.a,c.e,c.len,st',c.frm.keeps (fun b o q e=>hk b o (fun e'=>w.fr (e' ▸ q)) e) tx,c.own⟩,tx⟩
theorem SCfg.move (c:SCfg B d sc env G A m σ s) {I:Addr} (w:Own B sc env G σ I) (hf:∀ o,s.heap.get? I=some o→¬ Frozen o) {s₁:Shared} (mv:Mv I s s₁):SCfg B d sc env G A m σ s₁∧TExt s.heap s₁.heap:=by
 cases mv with
 | mk h' tk hk=>exact c.tick w hf hk
inductive LckI (B:Base) (d:Nat) (sc:Sc) (env:Env) (G:Addr→Option Obj) (A:Around) (m:Env') (σ:AH) (s:Shared) (I:Addr) (o:Obj):Prop
 | mk (G':Addr→Option Obj):SCfg B d sc env G' A m σ s→(∀ m' σ' s',SCfg B d sc env G' A m' σ' s'→SCfg B d sc env G A m' σ' s'∧s'.heap.get? I=some o∧Own B sc env G σ' I)→LckI B d sc env G A m σ s I o
theorem SCfg.lock (c:SCfg B d sc env G A m σ s) {I:Addr} (w:Own B sc env G σ I) {o:Obj} (ho:s.heap.get? I=some o):LckI B d sc env G A m σ s I o:=by
 obtain ⟨G',g1,g2,st'⟩:=c.st.protect (·=I) (fun a e=>by rw [e];exact w.σ) (fun e=>w.tab e.symm)
 have hk:∀ a o,G a=some o→G' a=some o:=fun a o e=>by
  rw [g2 a fun q=>by rw [q,w.g] at e;injection e];exact e
 have gI:G' I=some o:=by rw [g1 I rfl];exact ho
 refine ⟨G',⟨c.a,c.e,c.len,st',c.frm,fun a q=>⟨?_,(c.own a q).2.1,(c.own a q).2.2⟩⟩,fun m' σ' s' c'=>⟨⟨c'.a,c'.e,c'.len,c'.st.unprotect c.st.base hk,c'.frm,fun a q=>⟨(c.own a q).1,(c'.own a q).2.1,(c.own a q).2.2⟩⟩,c'.st.keep I o gI,w.g,?_,w.tab,w.fr⟩⟩
 · rw [g2 a fun e=>w.fr (e ▸ q)];exact (c.own a q).1
 · refine c'.st.none_of_prot gI ?_
   cases hg:B.g.get? I with
   | none=>rfl
   | some o'=>have:=c.st.base I o' hg;rw [w.g] at this;injection this
inductive Tgt (sc:Sc) (t:Expr) (is:List Nat) (single:Bool):Prop
 | inl (x:Str) (p:Pos) (i:Nat):single=true→t=.Name x p→sc.var? x=some i→is=[i]→Tgt sc t is single
 | inr (ts:List Expr) (k:Nat) (p:Pos):single=false→t=.Tuple ts k p→compVars sc ts=some is→Tgt sc t is single
inductive LSrc (σ₀:AH) (src:AV):Prop
 | mk (a:Addr) (zs:List AV):src=.ref a→σ₀ a=some (.list zs)→LSrc σ₀ src
inductive ForI (B:Base) (d:Nat) (sc:Sc) (env:Env) (G:Addr→Option Obj) (A:Around) (σ₀:AH) (h₀:Heap) (I:Addr) (src:AV) (rev:Bool) (N:Nat) (W:Nat→Env'→AH→Prop) (n:Nat) (s':Shared):Prop
 | mk (i:Nat) (m:Env') (σ:AH):n+i=N→SCfg B d sc env G A m σ s'→TExt h₀ s'.heap→Own B sc env G σ I→ItAt B σ₀ s'.heap I src rev i→W i m σ→ForI B d sc env G A σ₀ h₀ I src rev N W n s'
theorem drop_cons {α:Type} {l r:List α} {x:α} {i:Nat} (h:l.drop i=x::r):i < l.length∧l[i]?=some x∧l.drop (i+1)=r:=by
 have h0:(l.drop i)[0]?=some x:=by rw [h];rfl
 rw [List.getElem?_drop] at h0
 refine ⟨(List.getElem?_eq_some_iff.mp h0).1,h0,?_⟩
 rw [← List.drop_drop,h]
 rfl
theorem for_body {b:List Stmt} {pb:PS} (hb:SoundBlk B d Γ sc b pb) {σ₀:AH} {rev:Bool} {N i n:Nat} {src:AV} {I:Addr} {W:Nat→Env'→AH→Prop} {Q:AFl→Env'→AH→Prop} {h₀:Heap} {R:Result→Shared→Prop} (hR:∀ f s',PostS B d sc env G A h₀ Q f s'→R (.ok f) s') {m₂:Env'} {s₁ s₂:Shared} {o:Obj} (hn:n+i=N) (hi:i < N) (hoI:s₁.heap.get? I=some o)
 (back:∀ m' σ' s',SCfg B d sc env G' A m' σ' s'→SCfg B d sc env G A m' σ' s'∧s'.heap.get? I=some o∧Own B sc env G σ' I) (it₁:ItAt B σ₀ s₁.heap I src rev (i+1)) (t':TExt h₀ s₁.heap)
 (c₂:SCfg B d sc env G' A m₂ σ s₂) (t₂:TExt s₁.heap s₂.heap) (hf:pwpS Γ pb (fun fl m σ=>match fl with
  | .next=>W (i+1) m σ
  | .ret v=>Q (.ret v) m σ) m₂ σ) {E:Value→Shared→Prop}:
 wpAny (model B.prog B.w) A (execs b env) (fun f s₃=>match f with
  | .next | .cont=>∃ k,k < n∧ForI B d sc env G A σ₀ h₀ I src rev N W k s₃
  | .brk=>R (.ok .next) s₃
  | .ret v=>R (.ok (.ret v)) s₃) E s₂:=by
 refine wpAny_mono (hb env G' A _ σ _ s₂ c₂ hf) (fun f s₃ h₃=>?_) fun _ _ z=>z.elim
 cases f with
 | next=>
  obtain ⟨m₃,σ₃,q₃,c₃,t₃⟩:=h₃
  obtain ⟨c₄,hI₄,w₄⟩:=back m₃ σ₃ s₃ c₃
  exact ⟨n - 1,by lia,i+1,m₃,σ₃,by lia,c₄,t'.trans (t₂.trans t₃),w₄,it₁.keeps (fun o e=>by rw [hoI] at e;(injection e with z0;subst z0);exact hI₄) (t₂.trans t₃),q₃⟩
 | ret v=>
  obtain ⟨av,m₃,σ₃,q₃,r₃,c₃,t₃⟩:=h₃
  exact hR (.ret v) s₃ (RetS.mk av m₃ σ₃ q₃ r₃ (back m₃ σ₃ s₃ c₃).1 (t'.trans (t₂.trans t₃)))
 | brk=>exact h₃.elim
 | cont=>exact h₃.elim
theorem for_loop (hB:BaseOk B) {t:Expr} {is:List Nat} {single rev:Bool} {b:List Stmt} {pb:PS} (ht:Tgt sc t is single) (hb:SoundBlk B d Γ sc b pb) {src:AV} {xs:List AV} (hx:itemsOf σ₀ src=some xs)
 (hsl:single=false→LSrc σ₀ src) {I:Addr} {Q:AFl→Env'→AH→Prop} {h₀:Heap} {R:Result→Shared→Prop} (hR:∀ f s',PostS B d sc env G A h₀ Q f s'→R (.ok f) s') (c:SCfg B d sc env G A m σ s) (t0:TExt h₀ s.heap) (w:Own B sc env G σ I) (it:ItAt B σ₀ s.heap I src rev 0)
 (hf:forW (fun Q m σ=>pwpS Γ pb Q m σ) is single σ₀ src (ordd rev xs) Q m σ):
 codeAny (model B.prog B.w) A (.forLoop t (.ref I) b [] env) R s:=by
 refine codeAny_forLoop_any (ForI B d sc env G A σ₀ h₀ I src rev (ordd rev xs).length fun i=>forW (pwpS Γ pb) is single σ₀ src ((ordd rev xs).drop i) Q)
  (fun n s' h=>?_) (ordd rev xs).length ⟨0,m,σ,rfl,c,t0,w,it,hf⟩
 obtain ⟨i,m',σ',hn,c',t',w',it',hf'⟩:=h
 have hfz:∀ o,s'.heap.get? I=some o→¬ Frozen o:=fun o e=>by
  obtain ⟨o',h1,h2⟩:=it'.obj
  rw [e] at h1;(injection h1 with z0;subst z0);exact h2
 cases hd:(ordd rev xs).drop i with
 | nil=>
  rw [hd] at hf'
  obtain ⟨hs,hq⟩:=hf'
  have hi:i=(ordd rev xs).length:=by
   have:=congrArg List.length hd
   rw [List.length_drop] at this
   have:(ordd rev xs).length - i=0:=this
   lia
  refine it_end hB c'.a.handled c'.st it' hs hx hi fun s₁ mv=>?_
  obtain ⟨c₁,t₁⟩:=c'.move w' hfz mv
  exact wpAny_execs_nil (hR .next s₁ (NextI.mk m' σ' hq c₁ (t'.trans t₁)))
 | cons x rest=>
  rw [hd] at hf'
  obtain ⟨hs,hf'⟩:=hf'
  obtain ⟨hlt,hxi,hrest⟩:=drop_cons hd
  subst hrest
  refine it_next hB c'.st it' hs hx hxi fun v s₁ mv rv it₁=>?_
  obtain ⟨c₁,t₁⟩:=c'.move w' hfz mv
  obtain ⟨oI,hoI,hnI⟩:=it₁.obj
  obtain ⟨G',cl,back⟩:=c₁.lock w' hoI
  rcases ht with ⟨y,p,j,rfl,rfl,hy,rfl⟩ | ⟨ts,k,p,rfl,rfl,hts⟩
  · refine wpAny_pure (wpAny_assign_Name (wpAny_mono (cl.store hy rv (R:=fun _ s₂=>SCfg B d sc env G' A (asgs [j] [x] m') σ' s₂∧TExt s₁.heap s₂.heap) fun s₂ c₂ t₂=>⟨c₂,t₂⟩) (fun _ s₂ h₂=>?_) fun _ _ z=>z.elim))
    exact for_body (W:=fun i=>forW (pwpS Γ pb) [j] true σ₀ src ((ordd rev xs).drop i) Q) (Q:=Q) hb hR hn hlt hoI back it₁ (t'.trans t₁) h₂.1 h₂.2 hf'
  · obtain ⟨a,zs,rfl,h0⟩:=hsl rfl
    obtain ⟨ws,hvs,hf'⟩:=som_inv (g:=fun vs=>pwpS Γ pb _ (asgs is vs m') σ') hf'
    cases x with
    | tup us=>
     have hvs:(if us.length=is.length then some us else Option.none)=some ws:=hvs
     obtain ⟨hl,hvs⟩:=Option.ite_none_right_eq_some.mp hvs
     injection hvs with hvs
     subst hvs
     obtain ⟨q,ys,nn,rfl,_⟩:=rv.tupI
     have hit:s₁.heap.IsListIter I a (i+1):=by
      have:=it₁.2
      rw [h0] at this
      exact this
     refine wpAny_letOwnedTupleGo_listiter hit (wpAny_mono (assign_tuple cl hts rv hl (R:=fun _ s₂=>SCfg B d sc env G' A (asgs is us m') σ' s₂∧TExt s₁.heap s₂.heap) fun s₂ c₂ t₂=>⟨c₂,t₂⟩) (fun _ s₂ h₂=>?_) fun _ _ z=>z.elim)
     exact for_body (W:=fun i=>forW (pwpS Γ pb) is false σ₀ (.ref a) ((ordd rev xs).drop i) Q) (Q:=Q) hb hR hn hlt hoI back it₁ (t'.trans t₁) h₂.1 h₂.2 hf'
    | _=>injection hvs
theorem soundS_for (hB:BaseOk B) {t e:Expr} {is:List Nat} {single:Bool} {b:List Stmt} {pos:Pos} {pe:PE} {pb:PS} (ht:Tgt sc t is single) (hset:∀ a b c,e≠.Set a b c) (he:SoundV B d Γ sc e pe) (hb:SoundBlk B d Γ sc b pb):
 SoundS B d Γ sc (.For t e b [] pos) (.forS is single false pe pb):=fun env G A m σ Q s c hp=>by
 refine wpAny_For (c.eval he hp fun v s₁ av σ₁ q r c₁ t₁=>?_) (fun x=>by cases e <;> first | rfl | exact absurd rfl (hset _ _ _))
 obtain ⟨xs,hx,-,q2,q⟩:=som_inv q
 refine it_start hB c₁.st r hx fun I h' hI hk it=>?_
 obtain ⟨c₂,t₂⟩:=c₁.keeps (h':=h') (t:=s₁.toks) hk
 refine for_loop hB ht hb hx (fun hs=>?_) (fun _ _ h=>h) c₂ (t₁.trans t₂) (c₁.fresh hI) it q
 obtain ⟨a,e,h⟩:=asR_inv (q2 hs)
 obtain ⟨zs,h0,_⟩:=lstAt_inv h
 exact ⟨a,zs,e,h0⟩
inductive RevP (B:Base) (sc:Sc) (env:Env) (G:Addr→Option Obj) (W:List AV→AH→Prop) (v:Value) (σ':AH) (s':Shared):Prop
 | mk (I:Addr) (xs:List AV):v=.ref I→ItAt B σ' s'.heap I (.tup xs) true 0→Own B sc env G σ' I→W xs σ'→RevP B sc env G W v σ' s'
theorem soundS_forRev (hB:BaseOk B) (hΓ:GamOk B d T Γ) {t e x:Expr} {is:List Nat} {b:List Stmt} {pos:Pos} {pe:PE} {pb:PS} (ht:Tgt sc t is true) (hr:rev? sc e=some x) (he:SoundV B d Γ sc x pe) (hb:SoundBlk B d Γ sc b pb):
 SoundS B d Γ sc (.For t e b [] pos) (.forS is true true pe pb):=fun env G A m σ Q s c hp=>by
 obtain ⟨p',q',rfl,hgr,hs⟩:=rev?_spec hr
 refine wpAny_For ?_ (fun x=>rfl)
 refine c.run' (P:=RevP B sc env G fun xs σ'=>forW (pwpS Γ pb) is true σ' (.tup xs) xs.reverse Q m σ') (fun G' hno cf=>?_) fun v s₁ σ₁ h c₁ t₁=>?_
 · refine reversed_call hB hΓ cf hgr hs (he.bind cf hp fun v s₁ av σ₁ q r c₁ t₁=>?_)
   obtain ⟨xs,hx,q1,q2,q⟩:=som_inv q
   obtain ⟨ys,rfl⟩:=q1 rfl
   (injection hx with z0;subst z0)
   obtain ⟨t,zs,n,rfl,ht',hn,rr⟩:=r.tupI
   refine rv_call ht' (by rw [← rr.length];exact LIM_fit hn) fun tk=>?_
   obtain ⟨st₂,t₂⟩:=c₁.st.push (rvObj (.ref t) ((zs.length:Int) - 1)) (t:=tk)
   obtain ⟨f1,f2⟩:=c₁.st.fresh (Nat.le_refl _)
   refine ⟨σ₁,⟨s₁.heap.objs.size,ys,rfl,⟨t,zs,n,Heap.get?_push_of_some _ ht',rr.mono t₂,hn,?_⟩,⟨(hno _ f2).1,f1,fun e=>?_,(hno _ f2).2⟩,q⟩,st₂,t₁.trans t₂⟩
   · rw [if_pos rfl]
     exact ⟨Nat.zero_le _,by have:=Heap.get?_push_size s₁.heap (o:=rvObj (.ref t) ((zs.length:Int) - 1)) rfl;simpa [IsRv] using this⟩
   · obtain ⟨o,ho,_⟩:=c₁.st.tab;rw [← e] at ho;exact absurd (Heap.lt_size ho) (Nat.lt_irrefl _)
 · obtain ⟨I,xs,rfl,it,w,q⟩:=h
   obtain ⟨t,ys,n,ht',rr,hn,hit⟩:=id it
   rw [if_pos rfl] at hit
   exact rv_iter hit.2 (for_loop hB ht hb (xs:=xs) rfl (fun e=>nomatch e) (fun _ _ h=>h) c₁ t₁ w it q)
end
noncomputable def flv:AFl→AV
 | .next=>.none
 | .ret v=>v
noncomputable def env0 (k:Nat) (args:List AV):Env':=args.map some++List.replicate k none
structure FnObj (K:Frag) (a:Addr) (sc:Sc) (names:List Str) (body:List Stmt) (fd:FuncData):Prop where
 code:codeIn K fd.code fd.qualname=true
 body:fd.body=.stmts body
 clo:fd.closure=[]
 kind:fd.scope.kind=.function
 gen:fd.scope.isGenerator=false
 co:fd.scope.isCoroutine=false
 kinds:fd.scope.names=sc.kinds
 glob:fd.globals=mainGlobals
 built:fd.builtins=builtinsNs
 codeV:fd.code=sc.code
 qualV:fd.qualname ++ ".<locals>." = sc.qual
 nodup:names.Nodup
 vars:sc.vars.take names.length=names
 isvar:∀ x ∈ names,sc.isVar x=true
 bind:∀ vs,vs.length=names.length→bindArgs fd ⟨vs,[]⟩=pure (names.zip vs)
theorem cellsFrom_has:∀ (names:List (Str × NameKind)) (n:Nat) (acc:List (Str × Addr)) (x:Str),names.lookup x=some .cell∨(acc.lookup x).isSome=true→((cellsFrom n names acc).lookup x).isSome=true
 | [],n,acc,x,h=>by
  rcases h with h | h
  · injection h
  · exact h
 | (y,k)::r,n,acc,x,h=>by
  unfold cellsFrom
  by_cases e:x=y
  · subst e
    rcases h with h | h
    · simp only [List.lookup_cons,beq_self_eq_true] at h
      (injection h with z0;subst z0)
      rw [if_pos (by decide)]
      exact cellsFrom_has r _ _ x (.inr (by simp))
    · split
      · exact cellsFrom_has r _ _ x (.inr (by simp))
      · exact cellsFrom_has r _ _ x (.inr h)
  · have hb:(x == y)=false:=beq_eq_false_iff_ne.mpr e
    have h':r.lookup x=some .cell∨(acc.lookup x).isSome=true:=by
     rcases h with h | h
     · left;simpa [List.lookup_cons,hb] using h
     · exact .inr h
    split
    · refine cellsFrom_has r _ _ x ?_
      rcases h' with h | h
      · exact .inl h
      · right;simpa [List.lookup_cons,hb] using h
    · exact cellsFrom_has r _ _ x h'
theorem bindL_other {kf:Str→Option NameKind} {x:Str}:∀ {names:List Str} {vs:List Value} {m:Str→Option Value},x ∉ names→bindL kf (names.zip vs) m x=m x
 | [],_,_,_=>rfl
 | _::_,[],_,_=>rfl
 | y::r,v::vs,m,h=>by
  have h1:x≠y:=fun e=>h (e ▸ List.mem_cons_self ..)
  show bindL kf (r.zip vs) _ x=_
  rw [bindL_other (fun q=>h (List.mem_cons_of_mem _ q))]
  split
  · simp [h1]
  · rfl
theorem bindL_at {kf:Str→Option NameKind} {x:Str} (hk:kf x=some .local):∀ {names:List Str} {vs:List Value} {m:Str→Option Value} {i:Nat} {v:Value},names.Nodup→names[i]?=some x→vs[i]?=some v→bindL kf (names.zip vs) m x=some v
 | [],_,_,_,_,_,h,_=>by simp at h
 | _::_,[],_,_,_,_,_,h=>by simp at h
 | y::r,u::vs,m,0,v,hn,h1,h2=>by
  simp at h1 h2
  subst h1 h2
  show bindL kf (r.zip vs) _ y=_
  rw [bindL_other (List.nodup_cons.mp hn).1,if_pos hk]
  simp
 | y::r,u::vs,m,i+1,v,hn,h1,h2=>by
  show bindL kf (r.zip vs) _ x=_
  exact bindL_at hk (List.nodup_cons.mp hn).2 (by simpa using h1) (by simpa using h2)
theorem bindC_other {kf:Str→Option NameKind} {x:Str}:∀ {names:List Str} {vs:List Value} {m:Str→Option Value},x ∉ names→bindC kf (names.zip vs) m x=m x
 | [],_,_,_=>rfl
 | _::_,[],_,_=>rfl
 | y::r,v::vs,m,h=>by
  have h1:x≠y:=fun e=>h (e ▸ List.mem_cons_self ..)
  show bindC kf (r.zip vs) _ x=_
  rw [bindC_other (fun q=>h (List.mem_cons_of_mem _ q))]
  split
  · rfl
  · simp [h1]
theorem bindC_at {kf:Str→Option NameKind} {x:Str} (hk:kf x≠some .local):∀ {names:List Str} {vs:List Value} {m:Str→Option Value} {i:Nat} {v:Value},names.Nodup→names[i]?=some x→vs[i]?=some v→bindC kf (names.zip vs) m x=some v
 | [],_,_,_,_,_,h,_=>by simp at h
 | _::_,[],_,_,_,_,_,h=>by simp at h
 | y::r,u::vs,m,0,v,hn,h1,h2=>by
  simp at h1 h2
  subst h1 h2
  show bindC kf (r.zip vs) _ y=_
  rw [bindC_other (List.nodup_cons.mp hn).1,if_neg hk]
  simp
 | y::r,u::vs,m,i+1,v,hn,h1,h2=>by
  show bindC kf (r.zip vs) _ x=_
  exact bindC_at hk (List.nodup_cons.mp hn).2 (by simpa using h1) (by simpa using h2)
section
variable {B:Base} {d:Nat} {T:Tab} {Γ:Gam} {sc:Sc} {env:Env} {G G':Addr→Option Obj} {A:Around} {m:Env'} {σ σ₀:AH} {s:Shared}
theorem fn_entry (hB:BaseOk B) {a:Addr} {names:List Str} {body:List Stmt} {fd:FuncData} {oc:Value} {od:Option Addr} {osl:Array (Option Value)} (hK:B.K.lookup a=some ⟨oc,od,.func fd,osl⟩) (F:FnObj B.K a sc names body fd) {ps:PS} (hb:SoundBlk B d Γ sc body ps) {t:Tr}
 (hvc:∀ args Q σ,t args Q σ→args.length=names.length∧pwpS Γ ps (fun fl _ σ'=>Q (flv fl) σ') (env0 (sc.vars.length - names.length) args) σ):FnSound B (d+4) a t:=by
 intro A G σ Q s args vs ha st rv ht
 obtain ⟨hlen,hp⟩:=hvc args Q σ ht
 have X:=st.K hB
 have hvl:=rv.length
 have hroom:A.depth < recursionLimit:=by have:=ha.depth;show A.depth < 1000;lia
 have hmem:∀ i,∀ x,names[i]?=some x→x ∈ names:=fun i x h=>List.mem_of_getElem? h
 have hkinds:∀ x ∈ names.zip vs,fd.scope.names.lookup x.1=some .local∨(fd.scope.names.lookup x.1=some .cell∧((cellsFrom (s.heap.objs.size+1) fd.scope.names []).lookup x.1).isSome=true):=by
  intro x hx
  have:=F.isvar x.1 (List.of_mem_zip hx).1
  rw [F.kinds]
  rcases Bool.or_eq_true _ _ ▸ this with h | h
  · exact .inl (beq_iff_eq.mp h)
  · exact .inr ⟨beq_iff_eq.mp h,cellsFrom_has _ _ _ _ (.inl (beq_iff_eq.mp h))⟩
 refine codeAny_call_cells hroom (X a _ hK) rfl (hB.nolimit.keeps st.keepg) (codeRec_of X F.code) F.body (F.bind vs (by lia)) F.clo hkinds (fun s₁ x=>?_) F.co F.gen F.kind
 obtain ⟨h₁,tk,rfl⟩:=x.toInCall.same
 obtain ⟨st₁,t₁⟩:=st.keeps (h':=h₁) (t:=tk) x.toInCall.keep
 have kf:∀ y,(callEnvC fd s.heap.objs.size a).kindOf y=sc.kinds.lookup y:=fun y=>by show fd.scope.names.lookup y=_;rw [F.kinds]
 have hfr:∀ b,IsFr sc (callEnvC fd s.heap.objs.size a) b→s.heap.objs.size≤b:=by
  rintro b (rfl | ⟨y,hy,hc⟩)
  · exact Nat.le_refl _
  · exact Nat.le_of_lt (x.above y b (mem_of_lookup hc))
 have hargs:∀ y i av,varIdx sc.vars y=some i→(env0 (sc.vars.length - names.length) args)[i]?=some (some av)→∃ v,names[i]?=some y∧vs[i]?=some v∧VRel B h₁ av v:=by
  intro y i av hy hm
  unfold env0 at hm
  rcases Nat.lt_or_ge i args.length with q | q
  · rw [List.getElem?_append_left (by simpa using q),List.getElem?_map] at hm
    obtain ⟨av',h1,h2⟩:=Option.map_eq_some_iff.mp hm
    (injection h2 with z0;subst z0)
    obtain ⟨v,h3,h4⟩:=rv.get h1
    refine ⟨v,?_,h3,h4.mono t₁⟩
    rw [← F.vars,List.getElem?_take]
    rw [if_pos (by lia)]
    exact varIdx_get hy
  · rw [List.getElem?_append_right (by simpa using q)] at hm
    rw [List.getElem?_replicate] at hm
    split at hm <;> cases hm
 have hvlen:names.length≤sc.vars.length:=by
  have:=congrArg List.length F.vars
  rw [List.length_take] at this;lia
 have c:SCfg B d sc (callEnvC fd s.heap.objs.size a) G (A.deeper (callEnvC fd s.heap.objs.size a)) (env0 (sc.vars.length - names.length) args) σ { s with heap:=h₁,toks:=tk }:=by
  refine ⟨⟨ha.handled,?_,?_⟩,⟨F.kind,F.kinds,F.glob,F.built,F.codeV,F.qualV,fun y hy=>?_,fun y z b hy hz h1 h2=>?_,fun y hy h=>?_⟩,?_,st₁,⟨⟨_,x.toInCall.ns,fun y i av hk hy hm=>?_⟩,fun y b hk hc=>⟨_,x.cell y b hc,fun i av hy hm=>?_⟩⟩,fun b hb=>?_⟩
  · have:=ha.depth;show A.depth+1+(d+3)≤900;lia
  · have:=ha.units;show A.units+3+30 * (d+3)≤9000;lia
  · exact Option.isSome_iff_exists.mp (cellsFrom_has _ _ _ _ (.inl (by rw [F.kinds];exact hy)))
  · exact name_of_addr x.apart (mem_of_lookup h1) (mem_of_lookup h2)
  · exact absurd (x.above y _ (mem_of_lookup h)) (Nat.lt_irrefl _)
  · show (args.map some++List.replicate _ none).length=_
    rw [List.length_append,List.length_map,List.length_replicate];lia
  · obtain ⟨v,h1,h2,h3⟩:=hargs y i av hy hm
    exact ⟨v,bindL_at (by rw [kf];exact hk) F.nodup h1 h2,h3⟩
  · obtain ⟨v,h1,h2,h3⟩:=hargs y i av hy hm
    exact ⟨v,bindC_at (by rw [kf,hk];decide) F.nodup h1 h2,h3⟩
  · have hn:=hfr b hb
    exact ⟨(st.fresh hn).2,(st.fresh hn).1,fun e=>by obtain ⟨o,ho,_⟩:=st.tab;rw [← e,get?_fresh _ hn] at ho;injection ho⟩
 refine wpAny_mono (hb _ G _ _ σ _ _ c hp) (fun fl s₂ h=>?_) fun _ _ z=>z.elim
 cases fl with
 | next=>
  obtain ⟨m',σ',q,c',t'⟩:=h
  exact ⟨.none,rfl,.none,σ',q,.none,c'.st,t₁.trans t'⟩
 | ret v=>
  obtain ⟨av,m',σ',q,r,c',t'⟩:=h
  exact ⟨v,rfl,av,σ',q,r,c'.st,t₁.trans t'⟩
 | brk=>exact h.elim
 | cont=>exact h.elim
end
section
variable {B:Base} {d:Nat} {T:Tab} {Γ:Gam} {sc sc':Sc} {env:Env} {G G':Addr→Option Obj} {A:Around} {m:Env'} {σ σ₀:AH} {s:Shared}
noncomputable def cloStep (env:Env) (p:Str × NameKind) (cs:List (Str × Addr)):Sem (ForInStep (List (Str × Addr))):=if (p.2 == NameKind.free)=true then (do let c ← cellOf env p.1;pure (ForInStep.yield ((p.1,c)::cs))) else pure (ForInStep.yield cs)
inductive CloI (env:Env) (names:List (Str × NameKind)) (acc:List (Str × Addr)):Prop
 | mk (cl:List (Str × Addr)):(forIn names acc (cloStep env):Sem (List (Str × Addr)))=pure cl→(∀ y,cl.lookup y=if (y,NameKind.free) ∈ names then env.cells.lookup y else acc.lookup y)→CloI env names acc
theorem closure_ok {env:Env} {names:List (Str × NameKind)}:∀ (acc:List (Str × Addr)),(∀ p ∈ names,p.2=.free→∃ c,env.cells.lookup p.1=some c)→CloI env names acc:=by
 induction names with
 | nil=>exact fun acc _=>⟨acc,List.forIn_nil ..,fun y=>(if_neg (List.not_mem_nil)).symm⟩
 | cons p r ih=>
  intro acc h
  obtain ⟨n,k⟩:=p
  have hr:=fun p hp=>h p (List.mem_cons_of_mem _ hp)
  by_cases hk:k=.free
  · subst hk
    obtain ⟨c,hc⟩:=h (n,.free) (.head _) rfl
    obtain ⟨cl,h1,h2⟩:=ih ((n,c)::acc) hr
    have hc:env.cells.lookup n=some c:=hc
    have hcell:cloStep env (n,.free) acc=pure (.yield ((n,c)::acc)):=by
     show (do let c ← cellOf env n;pure (ForInStep.yield ((n,c)::acc)))=_
     rw [show cellOf env n=pure c from by unfold cellOf;rw [hc],pure_bind]
    refine ⟨cl,by rw [List.forIn_cons,hcell,pure_bind];exact h1,fun y=>(h2 y).trans ?_⟩
    by_cases hy:(y,NameKind.free) ∈ r
    · rw [if_pos hy,if_pos (List.mem_cons_of_mem _ hy)]
    · rw [if_neg hy,List.lookup_cons]
      by_cases e:y=n
      · rw [e,if_pos (.head _),hc,beq_self_eq_true]
      · rw [if_neg (fun q=>(List.mem_cons.mp q).elim (fun q=>e (congrArg Prod.fst q)) hy),beq_eq_false_iff_ne.mpr e]
  · obtain ⟨cl,h1,h2⟩:=ih acc hr
    have hcell:cloStep env (n,k) acc=pure (.yield acc):=if_neg fun q=>hk (beq_iff_eq.mp q)
    refine ⟨cl,by rw [List.forIn_cons,hcell,pure_bind];exact h1,fun y=>(h2 y).trans ?_⟩
    by_cases hy:(y,NameKind.free) ∈ r
    · rw [if_pos hy,if_pos (List.mem_cons_of_mem _ hy)]
    · rw [if_neg hy,if_neg (fun q=>(List.mem_cons.mp q).elim (fun q=>hk (congrArg Prod.snd q).symm) hy)]
theorem relab_lookup {names:List (Str × NameKind)} {y:Str}:(relab sc names).lookup y=(names.lookup y).map fun k=>if (k == .free && (sc.kinds.lookup y == some .cell))=true then .cell else k:=by
 induction names with
 | nil=>rfl
 | cons p r ih=>
  obtain ⟨n,k⟩:=p
  show List.lookup y ((if (k == .free && (sc.kinds.lookup n == some .cell))=true then (n,NameKind.cell) else (n,k))::_)=_
  by_cases e:y=n
  · subst e
    by_cases hc:(k == .free && (sc.kinds.lookup y == some .cell))=true
    · rw [if_pos hc,List.lookup_cons,List.lookup_cons,beq_self_eq_true]
      rw [Option.map_some,if_pos hc]
    · rw [if_neg hc,List.lookup_cons,List.lookup_cons,beq_self_eq_true]
      rw [Option.map_some,if_neg hc]
  · have hb:(y == n)=false:=beq_eq_false_iff_ne.mpr e
    by_cases hc:(k == .free && (sc.kinds.lookup n == some .cell))=true
    · rw [if_pos hc,List.lookup_cons,List.lookup_cons,hb];exact ih
    · rw [if_neg hc,List.lookup_cons,List.lookup_cons,hb];exact ih
structure CompSc (sc:Sc) (x:Str) (scope:Scope) (sc':Sc):Prop where
 eq:sc'=⟨sc.vars++[x],relab sc scope.names,sc.code,sc.qual⟩
 kind:scope.kind=.function
 loc:scope.names.lookup x=some .local
 nocell:∀ p ∈ scope.names,p.2≠.cell
 free:∀ p ∈ scope.names,p.2=.free→sc.kinds.lookup p.1=some .cell
 locals:∀ p ∈ scope.names,p.2=.local→p.1=x∨p.1 = ".0"
 look:∀ p ∈ scope.names,p.2=.local→scope.names.lookup p.1=some .local
 ne:x ≠ ".0"
 dot:varIdx sc.vars ".0" = none
theorem compScope_spec {x:Str} {scope:Scope} (h:compScope sc x scope=some sc'):CompSc sc x scope sc':=by
 obtain ⟨hc,h⟩:=Option.ite_none_right_eq_some.mp h
 (injection h with z0;subst z0)
 obtain ⟨h1,h2,h3,h4,h5⟩:=hc
 rw [List.all_eq_true] at h3
 have h3':∀ p ∈ scope.names,p.2≠.cell∧(p.2=.free→sc.kinds.lookup p.1=some .cell)∧(p.2=.local→p.1=x∨p.1 = ".0")∧(p.2=.local→scope.names.lookup p.1=some .local):=by
  intro p hp
  have:=h3 p hp
  simp only [Bool.and_eq_true,Bool.or_eq_true,bne_iff_ne,ne_eq,beq_iff_eq] at this
  obtain ⟨⟨⟨q1,q2⟩,q3⟩,q4⟩:=this
  refine ⟨q1,fun e=>q2.resolve_left fun z=>z e,fun e=>?_,fun e=>q4.resolve_left fun z=>z e⟩
  rcases q3 with (q3 | q3) | q3
  · exact absurd e q3
  · exact .inl q3
  · exact .inr q3
 exact ⟨rfl,h1,h2,fun p hp=>(h3' p hp).1,fun p hp=>(h3' p hp).2.1,fun p hp=>(h3' p hp).2.2.1,fun p hp=>(h3' p hp).2.2.2,beq_eq_false_iff_ne.mp h4,h5⟩
theorem varIdx_last {vs:List Str} {x:Str}:varIdx (vs++[x]) x=some vs.length:=by
 induction vs with
 | nil=>simp [varIdx]
 | cons y r ih=>simp only [List.cons_append,varIdx,ih,List.length_cons]
theorem varIdx_other {vs:List Str} {x y:Str} (h:y≠x):varIdx (vs++[x]) y=varIdx vs y:=by
 induction vs with
 | nil=>simp [varIdx,Ne.symm h]
 | cons z r ih=>simp only [List.cons_append,varIdx,ih]
theorem comp_env {x:Str} {scope:Scope} {h:Heap} (C:CompSc sc x scope sc') (e:EnvOk B sc env G h m) (hk:∀ a o,G a=some o→G' a=some o) {Ca:Addr} {cl:List (Str × Addr)} (hcl:∀ y,(y,NameKind.free) ∈ scope.names→cl.lookup y=env.cells.lookup y)
 {oC:Obj} {es:Array DictEntry} {ep:Nat} {xv:AV} {v:Value} (h1:G' Ca=some oC) (h2:oC.data=.dict es ep) (h3:StrKeys es) (h4:nsFind es x=some v) (rv:VRel B h xv v):
 EnvOk B sc' (compEnvC scope cl Ca env) G' h (m++[some xv]):=by
 have hnames:(relabel scope env).names=relab sc scope.names:=by
  unfold relabel relab
  dsimp only
  refine List.map_congr_left fun p hp=>?_
  obtain ⟨n,k⟩:=p
  have hkind:env.kindOf n=sc.kinds.lookup n:=by show env.scope.names.lookup n=_;rw [e.kinds]
  rw [e.fn,hkind]
  simp
 have hcellk:∀ y,(relab sc scope.names).lookup y=some .cell→(y,NameKind.free) ∈ scope.names∧sc.kinds.lookup y=some .cell:=by
  intro y hy
  rw [relab_lookup] at hy
  obtain ⟨k,hk1,hk2⟩:=Option.map_eq_some_iff.mp hy
  have hm:=mem_of_lookup hk1
  split at hk2
  · rename_i q
    simp only [Bool.and_eq_true,beq_iff_eq] at q
    obtain ⟨rfl,q⟩:=q
    exact ⟨hm,q⟩
  · exact absurd hk2 (C.nocell _ hm)
 have hlock:∀ y,(relab sc scope.names).lookup y=some .local→y=x∨y = ".0" := by
  intro y hy
  rw [relab_lookup] at hy
  obtain ⟨k,hk1,hk2⟩:=Option.map_eq_some_iff.mp hy
  split at hk2
  · injection hk2
  · subst hk2;exact C.locals _ (mem_of_lookup hk1) rfl
 have hxl:(relab sc scope.names).lookup x=some .local:=by
  rw [relab_lookup,C.loc];rfl
 rw [C.eq]
 refine ⟨C.kind,hnames,e.globals,e.builtins,e.code,e.qual,by simp [e.len],fun y i av hv hi hm=>?_,fun y hy=>?_⟩
 · by_cases hyx:y=x
   · subst hyx
     rw [varIdx_last] at hi
     (injection hi with z0;subst z0)
     rw [List.getElem?_append_right (by rw [e.len];exact Nat.le_refl _),e.len,Nat.sub_self] at hm
     (injection hm with z0;injection z0 with z1;subst z1)
     exact ⟨v,rv,.inl (by show (relabel scope env).names.lookup y=_;rw [hnames];exact hxl) oC es ep h1 h2 h3 h4⟩
   · dsimp only at hi
     rw [varIdx_other hyx] at hi
     rcases Bool.or_eq_true _ _ ▸ hv with hv | hv
     · rcases hlock y (beq_iff_eq.mp hv) with q | q
       · exact absurd q hyx
       · rw [q,C.dot] at hi;injection hi
     · obtain ⟨q1,q2⟩:=hcellk y (beq_iff_eq.mp hv)
       have hlt:i < m.length:=by
        rw [e.len]
        have:=varIdx_get hi
        rcases Nat.lt_or_ge i sc.vars.length with z | z
        · exact z
        · rw [List.getElem?_eq_none z] at this;injection this
       rw [List.getElem?_append_left hlt] at hm
       obtain ⟨u,r,l⟩:=e.vars y i av (by unfold Sc.isVar;rw [q2];decide) hi hm
       refine ⟨u,r,?_⟩
       rcases l with ⟨k,_⟩ | ⟨k,c,o,hc,g,hd⟩
       · have:env.kindOf y=sc.kinds.lookup y:=by show env.scope.names.lookup y=_;rw [e.kinds]
         rw [this,q2] at k;(injection k with z0;injection z0)
       · exact .inr (by show (relabel scope env).names.lookup y=_;rw [hnames];exact beq_iff_eq.mp hv) c o (by show cl.lookup y=_;rw [hcl y q1];exact hc) (hk _ _ g) hd
 · obtain ⟨q1,q2⟩:=hcellk y hy
   obtain ⟨c,hc⟩:=e.cells y q2
   exact ⟨c,by show cl.lookup y=_;rw [hcl y q1];exact hc⟩
theorem it_self {I:Addr} {src:AV} {rev:Bool} {i:Nat} (it:ItAt B σ₀ s.heap I src rev i) {Q:Value→Shared→Prop} {E:Value→Shared→Prop} (h:Q (.ref I) s):wpAny (model B.prog B.w) A (pyIter (.ref I)) Q E s:=by
 cases src with
 | tup xs=>
  obtain ⟨t,ys,n,ht,r,hn,it⟩:=it
  by_cases hr:rev=true
  · rw [if_pos hr] at it;exact rv_iter it.2 h
  · rw [if_neg hr] at it;exact wpAny_pyIter_tupleiter it h
 | ref a=>
  obtain ⟨ao,_,it⟩:=som_inv it.2
  cases ao with
  | list _=>exact wpAny_pyIter_listiter it h
  | dict _ _=>exact wpAny_pyIter_keyiter it h
  | _=>exact it.elim
 | rng lo hi=>exact wpAny_pyIter_rangeiter it.it h
 | _=>exact it.elim
end
section
variable {B:Base} {d:Nat} {T:Tab} {Γ:Gam} {sc sc':Sc} {env:Env} {G G':Addr→Option Obj} {A:Around} {m:Env'} {σ σ₀:AH} {s:Shared}
structure Out (B:Base) (G:Addr→Option Obj) (σ:AH) (a:Addr):Prop where
 g:G a=none
 σ:σ a=none
 tab:a≠B.tab
theorem St.out (st:St B G σ s) {a:Addr} (h:s.heap.get? a=none):Out B G σ a:=
 ⟨(st.fresh' h).2,(st.fresh' h).1,fun e=>by obtain ⟨o,ho,_⟩:=st.tab;rw [e,ho] at h;injection h⟩
theorem St.touch (st:St B G σ s) {a:Addr} (w:Out B G σ a) (hf:∀ o,s.heap.get? a=some o→¬ Frozen o) {h':Heap} {t:Nat} (hk:∀ b o,b≠a→s.heap.get? b=some o→h'.get? b=some o):
 St B G σ { s with heap:=h',toks:=t }∧TExt s.heap h':=
 st.other (·=a) (fun b o hb e=>hk b o hb e) (fun b e=>by rw [e];exact w.g) (fun b e=>by rw [e];exact w.σ) (fun b o e ho=>hf o (e ▸ ho)) (fun e=>w.tab e.symm)
theorem St.promote (st:St B G σ s) {a:Addr} {ao:AO} (w:Out B G σ a) (hr:isRo ao=false) (ho:ORel B s.heap a ao):St B G (σ.set a ao) s:=
 ⟨st.base,st.keep,fun b bo e=>by
  unfold AH.set at e
  split at e
  · rename_i q;(injection e with z0;subst z0);subst q
    exact ⟨ho,by unfold GOk;rw [if_neg (by rw [hr];decide)];exact w.g⟩
  · exact st.objs b bo e,st.gens,st.os,st.tab,st.tabN.1,by unfold AH.set;rw [if_neg (fun x=>w.tab x.symm)];exact st.tabN.2⟩
noncomputable def compStep (Γ:Gam) (pe pc:PE) (m:Env') (σ₀:AH) (src:AV):AV→List AV→(List AV→AH→Prop)→AH→Prop:=fun x acc K σ=>
 sameSrc σ₀ σ src∧pwpB Γ pc (m++[some x]) (fun b σ=>if b=true then pwpE Γ pe (m++[some x]) (fun y σ=>K (acc++[y]) σ) σ else K acc σ) σ
inductive TestsOk (B:Base) (d:Nat) (Γ:Gam) (sc:Sc) (ifs:List Expr) (pc:PE):Prop
 | inl:ifs=[]→pc=.lit (.bool true)→TestsOk B d Γ sc ifs pc
 | inr (c:Expr):ifs=[c]→SoundB B d Γ sc c pc→TestsOk B d Γ sc ifs pc
theorem tests_run {ifs:List Expr} {pc:PE} (h:TestsOk B d Γ sc ifs pc) (c:Cfg B d sc env G A m σ s) {Q:Bool→AH→Prop} (hp:pwpB Γ pc m Q σ):
 WP B A (forIn ifs true fun c r=>if r=true then do let ok ← isTrue c env (eval c env);pure (ForInStep.yield ok) else pure (ForInStep.yield r)) (PostB B G s.heap Q) s:=by
 rcases h with ⟨rfl,rfl⟩ | ⟨ce,rfl,h⟩
 · rw [List.forIn_nil]
   exact wpAny_pure ⟨σ,hp,c.st,.refl _⟩
 · rw [List.forIn_cons]
   rw [if_pos rfl]
   refine wpAny_bind (wpAny_bind (wpAny_mono (h env G A m σ Q s c hp) (fun b s' hb=>wpAny_pure ?_) fun _ _ z=>z))
   dsimp only
   rw [List.forIn_nil]
   exact wpAny_pure hb
inductive LstAt (B:Base) (h:Heap) (D:Addr) (acc:List AV):Prop
 | mk (ys:List Value) (n:Nat):h.get? D=some (seqObj "list" ys.toArray n)→VRels B h acc ys→LstAt B h D acc
inductive NsAt (h:Heap) (C:Addr):Prop
 | mk (mm:Str→Option Value):h.Ns C mm→NsAt h C
theorem LstAt.keep {h h':Heap} {D:Addr} {acc:List AV} (l:LstAt B h D acc) (hk:∀ o,h.get? D=some o→h'.get? D=some o) (t:TExt h h'):LstAt B h' D acc:=by
 obtain ⟨ys,n,a,b⟩:=l
 exact ⟨ys,n,hk _ a,b.mono t⟩
theorem NsAt.keep {h h':Heap} {C:Addr} (l:NsAt h C) (hk:∀ o,h.get? C=some o→h'.get? C=some o):NsAt h' C:=by
 obtain ⟨mm,hn⟩:=l
 exact ⟨mm,hn.at' hk⟩
structure CE (B:Base) (G:Addr→Option Obj) (C D:Addr) (acc:List AV) (σ:AH) (s:Shared):Prop where
 st:St B G σ s
 ns:NsAt s.heap C
 lst:LstAt B s.heap D acc
 oC:Out B G σ C
 oD:Out B G σ D
structure CT (B:Base) (G:Addr→Option Obj) (σ₀:AH) (src:AV) (I C D:Addr) (i:Nat) (acc:List AV) (σ:AH) (s:Shared):Prop where
 ce:CE B G C D acc σ s
 it:ItAt B σ₀ s.heap I src false i
 oI:Out B G σ I
theorem list_nf {ys:Array Value} {n:Nat}:¬ Frozen (seqObj "list" ys n):=notFrozen_of rfl (by decide) (by decide) (by intro vs e;injection e)
section
variable {C D I:Addr} {acc:List AV} {src:AV} {i:Nat}
theorem CE.move (c:CE B G C D acc σ s) (oI:Out B G σ I) (nf:NF s.heap I) (hIC:I≠C) (hID:I≠D) {s₁:Shared} (mv:Mv I s s₁):CE B G C D acc σ s₁∧TExt s.heap s₁.heap:=by
 obtain ⟨o,ho,hn⟩:=nf
 cases mv with
 | mk h' tk hk=>
  obtain ⟨st₁,t₁⟩:=c.st.touch oI (fun o e=>by rw [ho] at e;injection e with e;exact e ▸ hn) (h':=h') (t:=tk) hk
  exact ⟨⟨st₁,c.ns.keep fun o e=>hk _ o hIC.symm e,c.lst.keep (fun o e=>hk _ o hID.symm e) t₁,c.oC,c.oD⟩,t₁⟩
theorem CE.store (c:CE B G C D acc σ s) {mm mm':Str→Option Value} (hn:s.heap.Ns C mm) (hCD:C≠D) {h':Heap} {t:Nat} (hsb:Heap.SameBut C s.heap h') (hn':h'.Ns C mm'):CE B G C D acc σ { s with heap:=h',toks:=t }∧TExt s.heap h':=by
 obtain ⟨st₁,t₁⟩:=c.st.touch c.oC (fun o e=>Ns_not_frozen hn o e) (h':=h') (t:=t) fun b o hb e=>(hsb.2 b hb).trans e
 exact ⟨⟨st₁,⟨mm',hn'⟩,c.lst.keep (fun o e=>(hsb.2 D hCD.symm).trans e) t₁,c.oC,c.oD⟩,t₁⟩
theorem CE.push (c:CE B G C D acc σ s) (hCD:C≠D) (hn:acc.length≤LIM) {y:Value} {ay:AV} (r:VRel B s.heap ay y) {Q:Value→Shared→Prop} {E:Value→Shared→Prop}
 (k:∀ s',CE B G C D (acc++[ay]) σ s'→TExt s.heap s'.heap→(∀ b o,b≠D→s.heap.get? b=some o→s'.heap.get? b=some o)→Q .none s'):wpAny (model B.prog B.w) A (call (.builtin "list.append") [.ref D,y]) Q E s:=by
 obtain ⟨ys,n,hl,rr⟩:=c.lst
 refine wpAny_list_append_plain (items:=ys.toArray) ⟨n,hl⟩ (fun h' hpl hsb=>?_) (by rw [List.size_toArray,← rr.length];exact LIM_line hn)
 have hk:∀ b o,b≠D→s.heap.get? b=some o→h'.get? b=some o:=fun b o hb e=>(hsb.2 b hb).trans e
 obtain ⟨st',tx⟩:=c.st.touch c.oD (fun o e=>by rw [hl] at e;injection e with e;exact e ▸ list_nf) (h':=h') (t:=s.toks) hk
 obtain ⟨n',hpl⟩:=hpl
 exact k _ ⟨st',c.ns.keep fun o e=>hk _ o hCD e,⟨ys++[y],n',by rw [← List.push_toArray];exact hpl,(rr.append (.cons r .nil)).mono tx⟩,c.oC,c.oD⟩ tx hk
inductive CLk (B:Base) (G:Addr→Option Obj) (σ₀:AH) (src:AV) (I C D:Addr) (i:Nat) (acc:List AV) (σ:AH) (s:Shared) (oC:Obj):Prop
 | mk (G':Addr→Option Obj):(∀ a o,G a=some o→G' a=some o)→G' C=some oC→St B G' σ s→(∀ σ' s',St B G' σ' s'→TExt s.heap s'.heap→CT B G σ₀ src I C D i acc σ' s')→CLk B G σ₀ src I C D i acc σ s oC
theorem CT.lock (c:CT B G σ₀ src I C D i acc σ s) {oC:Obj} (hC:s.heap.get? C=some oC):CLk B G σ₀ src I C D i acc σ s oC:=by
 obtain ⟨ce,it,oI⟩:=c
 have oC:=ce.oC
 have oD:=ce.oD
 obtain ⟨o1,hI,_⟩:=it.obj
 obtain ⟨ys,n,hD,rr⟩:=ce.lst
 obtain ⟨G',g1,g2,st'⟩:=ce.st.protect (fun a=>Out B G σ a) (fun a q=>q.σ) (fun q=>q.tab rfl)
 have hk:∀ a o,G a=some o→G' a=some o:=fun a o e=>by
  rw [g2 a fun q=>by rw [q.g] at e;injection e];exact e
 have gI:=(g1 I oI).trans hI
 have gC:=(g1 C oC).trans hC
 have gD:=(g1 D oD).trans hD
 have out:∀ {a o σ' s'},Out B G σ a→G' a=some o→St B G' σ' s'→Out B G σ' a:=fun {a o σ' s'} w e st=>⟨w.g,st.none_of_prot e (by
  cases hg:B.g.get? a with
  | none=>rfl
  | some o'=>have:=ce.st.base a o' hg;rw [w.g] at this;injection this),w.tab⟩
 refine ⟨G',hk,gC,st',fun σ' s' st'' tx=>⟨⟨st''.unprotect ce.st.base hk,ce.ns.keep fun o e=>?_,⟨ys,n,st''.keep _ _ gD,rr.mono tx⟩,out oC gC st'',out oD gD st''⟩,it.keeps (fun o e=>?_) tx,out oI gI st''⟩⟩
 · rw [← e,hC];exact st''.keep _ _ gC
 · rw [← e,hI];exact st''.keep _ _ gI
end
inductive CmpI (B:Base) (G:Addr→Option Obj) (σ₀:AH) (src:AV) (I C D:Addr) (h₀:Heap) (N:Nat) (W:Nat→List AV→AH→Prop) (n:Nat) (s':Shared):Prop
 | mk (i:Nat) (acc:List AV) (σ:AH):n+i=N→acc.length≤i→CT B G σ₀ src I C D i acc σ s'→TExt h₀ s'.heap→W i acc σ→CmpI B G σ₀ src I C D h₀ N W n s'
theorem comp_loop (hB:BaseOk B) {x:Str} {px:Pos} {scope:Scope} {elt iter:Expr} {ifs:List Expr} {pos:Pos} {pe pc:PE} {cl:List (Str × Addr)} (CS:CompSc sc x scope sc') (ha:AOk A (d+3)) (he:SoundV B d Γ sc' elt pe) (ht:TestsOk B d Γ sc' ifs pc)
 (hcl:∀ y,(y,NameKind.free) ∈ scope.names→cl.lookup y=env.cells.lookup y) {src:AV} {xs:List AV} (hx:itemsOf σ₀ src=some xs) (hn:xs.length≤LIM) {I C D:Addr} (hIC:I≠C) (hID:I≠D) (hCD:C≠D)
 {F:List AV→AH→Prop} {h₀:Heap} (t0:TExt h₀ s.heap) (eo:EnvOk B sc env G h₀ m) (ct:CT B G σ₀ src I C D 0 [] σ s) (hf:foldW (compStep Γ pe pc m σ₀ src) xs [] (fun acc σ=>sameSrc σ₀ σ src∧F acc σ) σ) {R:Result→Shared→Prop}
 (k:∀ acc σ' s',F acc σ'→acc.length≤LIM→CE B G C D acc σ' s'→TExt h₀ s'.heap→R (.ok .next) s'):
 codeAny (model B.prog B.w) A (.compLoop (.ListComp elt [⟨.Name x px,iter,ifs,0⟩] scope pos) 0 (.ref I) (.ref D) (compEnvC scope cl C env)) R s:=by
 have hkind:(compEnvC scope cl C env).kindOf x=some .local:=lookup_relabel_local CS.loc
 have hp:((compEnvC scope cl C env).scope.kind == .class || ((compEnvC scope cl C env).scope.kind == .module && (compEnvC scope cl C env).locals != (compEnvC scope cl C env).globals))=false:=by
  have:(compEnvC scope cl C env).scope.kind=.function:=CS.kind
  rw [this];rfl
 refine codeAny_compLoop_tests (CmpI B G σ₀ src I C D h₀ xs.length fun i acc=>foldW (compStep Γ pe pc m σ₀ src) (xs.drop i) acc (fun acc σ=>sameSrc σ₀ σ src∧F acc σ))
  (fun n s' h=>?_) xs.length ⟨0,[],σ,rfl,Nat.le_refl _,ct,t0,hf⟩
 obtain ⟨i,acc,σ',hni,hle,ct',t',hf'⟩:=h
 have hacc:acc.length≤LIM:=Nat.le_trans hle (by lia)
 cases hd:xs.drop i with
 | nil=>
  rw [hd] at hf'
  obtain ⟨hs,hF⟩:=hf'
  have hi:i=xs.length:=by
   have:=congrArg List.length hd
   rw [List.length_drop] at this
   have:xs.length - i=0:=this
   lia
  refine it_end hB ha.handled ct'.ce.st ct'.it hs hx hi fun s₁ mv=>?_
  obtain ⟨ce₁,t₁⟩:=ct'.ce.move ct'.oI ct'.it.obj hIC hID mv
  exact k acc σ' s₁ hF hacc ce₁ (t'.trans t₁)
 | cons xv rest=>
  rw [hd] at hf'
  obtain ⟨hs,hf'⟩:=hf'
  obtain ⟨hlt,hxi,hrest⟩:=drop_cons hd
  subst hrest
  refine it_next hB ct'.ce.st ct'.it hs hx (rev:=false) hxi fun v s₁ mv rv it₁=>?_
  obtain ⟨ce₁,t₁⟩:=ct'.ce.move ct'.oI ct'.it.obj hIC hID mv
  obtain ⟨mm,ns₁⟩:=ce₁.ns
  refine wpAny_assign_Name (wpAny_mono (Q:=fun _ s₂=>CE B G C D acc σ' s₂∧TExt s₁.heap s₂.heap∧ItAt B σ₀ s₂.heap I src false (i+1)∧s₂.heap.Ns C fun y=>if y=x then some v else mm y) (E:=fun _ _=>False)
   (wpAny_storeName_local hkind ns₁ (fun h' hn' hsb=>?_) hp) (fun _ s₂ h₂=>?_) fun _ _ z=>z.elim)
  · obtain ⟨ce₂,t₂⟩:=ce₁.store (t:=s₁.toks+1) ns₁ hCD hsb hn'
    exact ⟨ce₂,t₂,it₁.keeps (fun o e=>(hsb.2 I hIC).trans e) t₂,hn'⟩
  obtain ⟨ce₂,t₂,it₂,ns₂⟩:=h₂
  obtain ⟨oC,es,ep,hoC,hdC,hkC,hfC⟩:=id ns₂
  obtain ⟨G',hG,gC,stL,back⟩:=CT.lock ⟨ce₂,it₂,ct'.oI⟩ hoC
  have tt:TExt h₀ s₂.heap:=t'.trans (t₁.trans t₂)
  have cfg:Cfg B d sc' (compEnvC scope cl C env) G' A (m++[some xv]) σ' s₂:=⟨ha,comp_env CS (eo.mono tt) hG hcl gC hdC hkC ((hfC x).trans (if_pos rfl)) (rv.mono t₂),stL⟩
  refine wpAny_mono (tests_run ht cfg hf') (fun b s₃ h₃=>?_) fun _ _ z=>z.elim
  obtain ⟨σ₃,q₃,st₃,t₃⟩:=h₃
  cases b with
  | false=>exact ⟨n - 1,by lia,i+1,acc,σ₃,by lia,Nat.le_succ_of_le hle,back σ₃ s₃ st₃ t₃,tt.trans t₃,(if_neg Bool.false_ne_true).mp q₃⟩
  | true=>
   refine wpAny_mono (he _ G' A _ σ₃ _ s₃ (cfg.next st₃ t₃) ((if_pos rfl).mp q₃)) (fun y s₄ h₄=>?_) fun _ _ z=>z.elim
   obtain ⟨ay,σ₄,q₄,r₄,st₄,t₄⟩:=h₄
   have c₄:=back σ₄ s₄ st₄ (t₃.trans t₄)
   refine c₄.ce.push hCD hacc r₄ fun s₅ ce₅ t₅ hk=>?_
   exact ⟨n - 1,by lia,i+1,acc++[ay],σ₄,by lia,by rw [List.length_append];exact Nat.succ_le_succ hle,⟨ce₅,c₄.it.keeps (fun o e=>hk I o hID e) t₅,c₄.oI⟩,tt.trans (t₃.trans (t₄.trans t₅)),q₄⟩
end
section
variable {B:Base} {d:Nat} {T:Tab} {Γ:Gam} {sc sc':Sc} {env:Env} {G G':Addr→Option Obj} {A:Around} {m:Env'} {σ σ₀:AH} {s:Shared}
inductive CloF (scope:Scope) (env:Env):Prop
 | mk (cl:List (Str × Addr)):closureFor scope env=pure cl→(∀ y,(y,NameKind.free) ∈ scope.names→cl.lookup y=env.cells.lookup y)→CloF scope env
theorem closureFor_eq {scope:Scope} {env:Env} (h:∀ p ∈ scope.names,p.2=.free→∃ c,env.cells.lookup p.1=some c):CloF scope env:=by
 obtain ⟨cl,h1,h2⟩:=closure_ok (env:=env) [] h
 refine ⟨cl,?_,fun y hy=>by rw [h2,if_pos hy]⟩
 rw [show closureFor scope env=(forIn scope.names [] (cloStep env):Sem (List (Str × Addr))) >>= fun r=>pure r from rfl,h1,pure_bind]
theorem comp_core (hB:BaseOk B) {use:Option (Value→Sem Unit)} {x:Str} {px pos fpos:Pos} {scope:Scope} {elt iter:Expr} {ifs:List Expr} {pe pi pc:PE} (CS:CompSc sc x scope sc') (c:Cfg B d sc env G A m σ s)
 (hi:SoundV B d Γ sc iter pi) (he:SoundV B d Γ sc' elt pe) (ht:TestsOk B d Γ sc' ifs pc) (hset:∀ a b c,iter≠.Set a b c) {Q:AV→AH→Prop} (hp:pwpE Γ (.comp pe pi pc) m Q σ) {R:Value→Shared→Prop}
 (k:∀ D C s' σ',Q (.ref D) σ'→St B G σ' s'→NsAt s'.heap C→Out B G σ' C→TExt s.heap s'.heap→compPost (model B.prog B.w) A (fun _ _=>False) use R (.ref D) C (.ok .next) s'):
 WP B A (comprehension (.ListComp elt [⟨.Name x px,iter,ifs,0⟩] scope pos) scope env fpos (newList []) false (eval iter env) use) R s:=by
 obtain ⟨cl,hclos,hcl⟩:=closureFor_eq (scope:=scope) (env:=env) fun p hp hf=>c.e.cells p.1 (CS.free p hp hf)
 refine wpAny_comprehension_free rfl (fun v=>by cases iter <;> first | rfl | exact absurd rfl (hset _ _ _)) hclos CS.kind CS.look ?_
 refine hi.bind c hp fun v s₁ src σ₀ q rv c₁ t₁=>?_
 obtain ⟨xs,hx,hn,q⟩:=som_inv q
 refine it_start hB c₁.st rv hx fun I h' hI hk it=>?_
 obtain ⟨oI,hoI,hnI⟩:=it.obj
 refine wpAny_newObj_type (wpAny_newFunctionEnv CS.nocell (by intro y hy;simp at hy) (fun h₁ hns₁ hsb₁=>?_) CS.kind)
 dsimp only at hns₁ hsb₁ ⊢
 generalize hH2:h'.push { cls:=.type "list",dict:=none,data:=.seq ([]:List Value).toArray }=H2 at hns₁ hsb₁ ⊢
 have hC:H2.objs.size=h'.objs.size+1:=by rw [← hH2,Heap.size_push]
 have hDC:H2.objs.size≠h'.objs.size:=by rw [hC];exact Nat.succ_ne_self _
 have hkH:∀ b o,h'.get? b=some o→h₁.get? b=some o:=fun b o e=>by
  have hlt:=Heap.lt_size e
  refine hsb₁.extBut b o (by rw [hC];exact Nat.ne_of_lt (Nat.lt_succ_of_lt hlt)) (Heap.get?_push_of_some _ ?_)
  rw [← hH2];exact Heap.get?_push_of_some _ e
 have hkk:∀ b o,s₁.heap.get? b=some o→h₁.get? b=some o:=fun b o e=>hkH b o (hk b o e)
 have hD:h₁.get? h'.objs.size=some (seqObj "list" #[] 0):=hsb₁.extBut _ _ hDC.symm (Heap.get?_push_of_some _ (by rw [← hH2];exact Heap.get?_push_size _ rfl))
 have hIlt:=Heap.lt_size hoI
 have hID:I≠h'.objs.size:=Nat.ne_of_lt hIlt
 have hIC:I≠H2.objs.size:=by rw [hC];exact Nat.ne_of_lt (Nat.lt_succ_of_lt hIlt)
 have fr:∀ a,h'.objs.size≤a→s₁.heap.get? a=none:=fun a ha=>by
  cases e:s₁.heap.get? a with
  | none=>rfl
  | some o=>exact absurd (Heap.lt_size (hk a o e)) (Nat.not_lt.mpr ha)
 obtain ⟨st₁,tx⟩:=c₁.st.keeps (h':=h₁) (t:=s₁.toks+([]:List (Str × Value)).length) hkk
 have it₁:ItAt B σ₀ h₁ I src false 0:=it.keeps (fun o e=>hkH _ o e) (.of_keeps hkH)
 have loop:codeAny (model B.prog B.w) A (.compLoop (.ListComp elt [⟨.Name x px,iter,ifs,0⟩] scope pos) 0 (.ref I) (.ref h'.objs.size) (compEnvC scope cl H2.objs.size env))
  (compPost (model B.prog B.w) A (fun _ _=>False) use R (.ref h'.objs.size) H2.objs.size) { s₁ with heap:=h₁,toks:=s₁.toks+([]:List (Str × Value)).length }:=by
  refine comp_loop hB CS c.a he ht hcl hx hn hIC hID hDC (F:=fun acc σ=>freshW (.list acc) Q σ) (h₀:=s.heap) (t₁.trans tx) c.e ⟨⟨st₁,⟨_,hns₁⟩,⟨[],0,hD,.nil⟩,c₁.st.out (fr _ (by rw [hC];exact Nat.le_succ _)),c₁.st.out (fr _ (Nat.le_refl _))⟩,it₁,c₁.st.out hI⟩ q fun acc σ' s' hF hacc ce t'=>?_
  obtain ⟨ys,n,hl,rl⟩:=ce.lst
  have st₂:=ce.st.promote (ao:=.list acc) ce.oD rfl ⟨hacc,ys,⟨n,hl⟩,rl⟩
  refine k _ _ s' _ (hF _ ce.oD.σ) st₂ ce.ns ⟨ce.oC.g,?_,ce.oC.tab⟩ t'
  unfold AH.set;rw [if_neg hDC];exact ce.oC.σ
 exact codeAny_compStart_list loop (it_self it₁ loop)
theorem sound_comp (hB:BaseOk B) {x:Str} {px pos:Pos} {scope:Scope} {elt iter:Expr} {ifs:List Expr} {pe pi pc:PE} (CS:CompSc sc x scope sc')
 (hi:SoundV B d Γ sc iter pi) (he:SoundV B d Γ sc' elt pe) (ht:TestsOk B d Γ sc' ifs pc) (hset:∀ a b c,iter≠.Set a b c):SoundV B d Γ sc (.ListComp elt [⟨.Name x px,iter,ifs,0⟩] scope pos) (.comp pe pi pc):=by
 intro env G A m σ Q s c hp
 rw [eval_ListComp]
 refine comp_core (use:=none) hB CS c hi he ht hset hp fun D C s' σ' hq st' hns oC t'=>?_
 obtain ⟨mm,hns⟩:=hns
 refine ⟨mm,hns,fun h' hs=>?_⟩
 obtain ⟨st₂,t₂⟩:=st'.touch oC (fun o e=>Ns_not_frozen hns o e) (h':=h') (t:=s'.toks) (fun b o hb e=>(hs.2 b hb).trans e)
 exact ⟨_,σ',hq,.ref _,st₂,t'.trans t₂⟩
theorem soundS_asgComp (hB:BaseOk B) {y:Str} {p pos spos:Pos} {i:Nat} {x:Str} {px:Pos} {scope:Scope} {elt iter:Expr} {ifs:List Expr} {pe pi pc:PE} (CS:CompSc sc x scope sc')
 (hy:sc.var? y=some i) (hyl:sc.kinds.lookup y=some .local) (hline:(p.line == pos.line)=true) (hno:(scope.names.any fun q=>q.1 == y && (q.2 == .local || q.2 == .cell))=false)
 (hi:SoundV B d Γ sc iter pi) (he:SoundV B d Γ sc' elt pe) (ht:TestsOk B d Γ sc' ifs pc) (hset:∀ a b c,iter≠.Set a b c):
 SoundS B d Γ sc (.Assign [.Name y p] (.ListComp elt [⟨.Name x px,iter,ifs,0⟩] scope pos) spos) (.asg i (.comp pe pi pc)):=by
 intro env G A m σ Q s c hp
 have hp:pwpE Γ (.comp pe pi pc) m (fun v σ=>Q .next (m.set i (some v)) σ) σ:=hp
 have hkind:env.kindOf y=some .local:=by show env.scope.names.lookup y=_;rw [c.e.kinds];exact hyl
 have hsw:swapsWith (.ListComp elt [⟨.Name x px,iter,ifs,0⟩] scope pos) (some (.Name y p)) spos.line env=pure true:=by
  show (pure _:Sem Bool)=pure true
  congr 1
  have h1:env.blockKind=.function:=by
   unfold Env.blockKind
   rw [c.e.fn];rfl
  rw [h1,hkind]
  have hl:(p.line == (Expr.ListComp elt [⟨.Name x px,iter,ifs,0⟩] scope pos).pos.line)=true:=hline
  rw [hl]
  simpa using hno
 rw [exec_Assign_Name_used _ _ _ _ hsw]
 refine wpAny_bind (wpAny_standAt (wpAny_bind ?_))
 obtain ⟨G',hG,cf,back⟩:=c.lockFr
 refine wpAny_bind (wpAny_mono (comp_core (use:=some (assign (.Name y p) env)) (R:=fun _ s'=>PostS B d sc env G A s.heap Q .next s') hB CS cf hi he ht hset hp fun D C s' σ' hq st' hns oC t'=>?_) (fun _ s' hq=>wpAny_pure (wpAny_pure hq)) fun _ _ e=>e)
 obtain ⟨mm,hns⟩:=hns
 have cs:=back σ' s' st' t'
 have hCf:=hG C oC.g
 refine wpAny_assign_Name (cs.store' hy (.ref D) fun s'' cs'' t'' hk=>?_)
 have hns'':s''.heap.Ns C mm:=hns.at' fun o e=>hk C o hCf.2 e
 refine ⟨mm,hns'',fun h' hs=>?_⟩
 obtain ⟨c₃,t₃⟩:=cs''.tick (I:=C) ⟨hCf.1,oC.σ,oC.tab,hCf.2⟩ (fun o e=>Ns_not_frozen hns'' o e) (h':=h') (t:=s''.toks) (fun b o hb e=>(hs.2 b hb).trans e)
 exact ⟨_,σ',hq,c₃,t'.trans (t''.trans t₃)⟩
end
noncomputable abbrev Kp (h h':Heap):Prop:=∀ b o,h.get? b=some o→h'.get? b=some o
theorem Kp.same {h₀ h h':Heap} {a:Addr} (k:Kp h₀ h) (hs:Heap.SameBut a h h') (ha:h₀.get? a=none):Kp h₀ h':=fun b o e=>
 (hs.2 b (fun q=>by rw [q,ha] at e;injection e)).trans (k b o e)
section
variable {prog:Program} {w:World} {A:Around} {s:Shared} {h₀:Heap} {a kS:Addr} {vs:List Value} {kz:List Int} {keys:Array Value} {e e1:Nat} {P:PySem.Fin→Shared→Prop} {E:Value→Shared→Prop}
theorem srt_tail {st:SortSt} (k0:Kp h₀ s.heap) (hkS:s.heap.get? kS=some (seqObj "list" keys e)) (hA:s.heap.get? a=some (seqObj "list" #[] e1)) (hka:kS≠a) (h0k:h₀.get? kS=none) (h0a:h₀.get? a=none)
 (hk:IntsAre keys.toList kz) (hlen:kz.length=vs.length) (h64:vs.length < 64) (hp:(arrOf st).Perm (keys.zip vs.toArray)) (hs:SortedTo (arrOf st) (arrOf st).size) (hfl:failedOf st=none)
 (h:∀ h' out c,Kp h₀ h'→h'.get? a=some (seqObj "list" out c)→KskOut false kz vs out.toList→P (.done (.ret .none)) { s with heap:=h' }):
 wpAny (model prog w) A (ksk_tail a false e1 (.ref kS) st) P E s:=by
 have hsz:keys.size=vs.length:=by
  have h1:=hk.length
  rw [Array.length_toList] at h1
  lia
 have hsz2:(arrOf st).size=vs.length:=by rw [hp.size_eq,Array.size_zip,hsz,List.size_toArray,Nat.min_self]
 have s1:=Heap.SameBut.update s.heap kS (Obj.mapSeq fun _=>(#[]:Array Value))
 have na1:(s.heap.update kS (Obj.mapSeq fun _=>(#[]:Array Value))).get? a=some (seqObj "list" #[] e1):=(s1.2 a hka.symm).trans hA
 have s2:=Heap.SameBut.update (s.heap.update kS (Obj.mapSeq fun _=>(#[]:Array Value))) a (Obj.mapSeq fun _=>(arrOf st).map (·.2))
 have hc2:=get?_update_seq na1 fun _=>(arrOf st).map (·.2)
 try dsimp only
 refine wpAny_bind (listUpdate_at hkS rfl ?_ (by rw [hsz,sizeLine_eq];lia) (Nat.zero_le _))
 refine wpAny_bind (wpAny_letGo ?_)
 refine wpAny_bind (seqEpoch_at na1 rfl ?_)
 simp only [Bool.false_eq_true,if_false]
 refine wpAny_bind (listUpdate_at na1 rfl ?_ (Nat.zero_le _) (by rw [Array.size_map,hsz2,sizeLine_eq];lia))
 rw [hfl]
 simp only [bne_self_eq_false,Bool.false_eq_true,if_false]
 refine wpAny_pure (h _ _ _ ((k0.same s1 h0k).same s2 h0a) hc2 ?_)
 have:=ksk_out (b:=false) hk hp hs
 simpa using this
theorem srt_end (k0:Kp h₀ s.heap) (hkS:s.heap.get? kS=some (seqObj "list" keys e)) (hA:s.heap.get? a=some (seqObj "list" #[] e1)) (hka:kS≠a) (h0k:h₀.get? kS=none) (h0a:h₀.get? a=none)
 (hk:IntsAre keys.toList kz) (hlen:kz.length=vs.length) (h64:vs.length < 64)
 (h:∀ h' out c,Kp h₀ h'→h'.get? a=some (seqObj "list" out c)→KskOut false kz vs out.toList→P (.done (.ret .none)) { s with heap:=h' }):
 wpAny (model prog w) A (ksk_end a false vs.toArray e1 (.ref kS) keys) P E s:=by
 have hsz:keys.size=vs.length:=by
  have h1:=hk.length
  rw [Array.length_toList] at h1
  lia
 have hzs:(keys.zip vs.toArray).size=vs.length:=by rw [Array.size_zip,hsz,List.size_toArray,Nat.min_self]
 unfold ksk_end
 simp only [Bool.false_eq_true,if_false]
 by_cases h2:vs.toArray.size < 2
 · rw [if_pos h2,if_pos h2]
   refine wpAny_bind (wpAny_pure ?_)
   rw [StateT.run_pure]
   refine wpAny_bind (wpAny_pure ?_)
   try dsimp only
   refine srt_tail (st:=SortSt.mk' general' (keys.zip vs.toArray) #[] 7 none) k0 hkS hA hka h0k h0a hk hlen h64 (Array.Perm.refl _) ?_ rfl h
   intro i j hij hj
   have hj2:j < (keys.zip vs.toArray).size:=hj
   rw [hzs] at hj2
   rw [List.size_toArray] at h2
   have:i=j:=by lia
   subst this
   exact Int.le_refl _
 · rw [if_neg h2,if_neg h2]
   rw [List.size_toArray] at h2
   rw [ksk_kind hk (by rw [hsz];lia)]
   refine wpAny_bind (wpAny_pure ?_)
   refine wpAny_bind (wpAny_mono (wpS_sortRuns (a₀:=keys.zip vs.toArray) (st:=SortSt.mk' oneType' (keys.zip vs.toArray) #[] 7 none)
    (Q:=fun _ st'=>(arrOf st').Perm (keys.zip vs.toArray)∧failedOf st'=none∧SortedTo (arrOf st') (keys.zip vs.toArray).size)
    (ksk_intKeys hk) ⟨Array.Perm.refl _,rfl,rfl,rfl⟩ (by rw [hzs];lia) (by rw [hzs];exact h64) fun st' a1 a2 a3=>⟨a1,a2,a3⟩) ?_ fun _ _ e=>e)
   rintro ⟨⟨⟩,st'⟩ s' ⟨rfl,hp,hf,hs⟩
   try dsimp only
   exact srt_tail k0 hkS hA hka h0k h0a hk hlen h64 hp (by rw [hp.size_eq];exact hs) hf h
inductive TurnI (g:Array GenState) (dr:Drawn) (os:OsState) (h:Heap) (k:Int) (r:Value) (s':Shared):Prop
 | mk (h':Heap) (tk':Nat) (t':Tok):s'=⟨h',g,dr,tk',os⟩→r=.int k t'→Kp h h'→TurnI g dr os h k r s'
inductive KskI (s:Shared) (h₀:Heap) (kS a:Addr) (e1:Nat) (kz:List Int) (i:Nat) (s':Shared):Prop
 | mk (h':Heap) (tk:Nat) (kA:Array Value) (e:Nat):s'={ s with heap:=h',toks:=tk }→Kp h₀ h'→h'.get? kS=some (seqObj "list" kA e)→h'.get? a=some (seqObj "list" #[] e1)→IntsAre kA.toList (kz.take i)→KskI s h₀ kS a e1 kz i s'
noncomputable def Turn (prog:Program) (w:World) (A:Around) (s:Shared) (h₀:Heap) (f v:Value) (k:Int):Prop:=∀ (h:Heap) (tk:Nat),Kp h₀ h→
 wpAny (model prog w) A (call f [v]) (TurnI s.gens s.drawn s.os h k) (fun _ _=>False) { s with heap:=h,toks:=tk }
theorem srt_rest {f:Value} (k0:Kp h₀ s.heap) (hkS:s.heap.get? kS=some (seqObj "list" #[] 0)) (hA:s.heap.get? a=some (seqObj "list" #[] e1)) (hka:kS≠a) (h0k:h₀.get? kS=none) (h0a:h₀.get? a=none)
 (hlen:kz.length=vs.length) (h64:vs.length < 64) (turn:∀ (i:Nat) (v:Value) (k:Int),vs[i]?=some v→kz[i]?=some k→Turn prog w A s h₀ f v k)
 (h:∀ h' tk out c,Kp h₀ h'→h'.get? a=some (seqObj "list" out c)→KskOut false kz vs out.toList→P (.done (.ret .none)) { s with heap:=h',toks:=tk }):
 wpAny (model prog w) A (ksk_rest a f false vs.toArray e1 (.ref kS)) P E s:=by
 refine wpAny_bind (wpAny_rule ?_)
 first
  | rw [List.forIn_toArray]
  | (rw [← Array.forIn_toList];simp only [List.toList_toArray])
  | rw [← Array.forIn_toList]
 refine wpAny_bind (ksk_fold (KskI s h₀ kS a e1 kz) vs 0 s
  ⟨s.heap,s.toks,#[],0,rfl,k0,hkS,hA,by simpa using IntsAre.nil⟩ ?step ?done)
 case step=>
  rintro j x s' hx ⟨h',tk,kA,e,rfl,k',hkS',hA',hk⟩
  simp only [Nat.zero_add] at hk ⊢
  have hj:j < vs.length:=(List.getElem?_eq_some_iff.mp hx).1
  obtain ⟨k,hkj⟩:∃ k,kz[j]?=some k:=⟨_,List.getElem?_eq_getElem (by lia)⟩
  have hz:kA.size≤vs.length:=by
   have h1:=hk.length
   rw [Array.length_toList,List.length_take] at h1
   lia
  refine wpAny_bind (wpAny_attempt (wpAny_mono (turn j x k hx hkj h' tk k') (fun v s'' he=>?_) fun _ _ hF=>hF.elim))
  obtain ⟨g,tk2,t2,rfl,rfl,k2⟩:=he
  try dsimp only
  have nk:=k2 _ _ hkS'
  have na:=k2 _ _ hA'
  have s1:=Heap.SameBut.update g kS (Obj.mapSeq (·.push (.int k t2)))
  have hc2:=get?_update_seq nk (·.push (.int k t2))
  have ek:kz.take (j+1)=kz.take j++[k]:=by rw [List.take_add_one,hkj];simp
  have ea:(kA.push (Value.int k t2)).toList=kA.toList++[Value.int k t2]:=by simp
  refine wpAny_bind (listUpdate_at nk rfl ?_ (by rw [sizeLine_eq];lia) (Nat.le_trans (Nat.le_of_eq (Array.size_push ..)) (by rw [sizeLine_eq];lia)))
  exact wpAny_pure ⟨rfl,_,_,kA.push (.int k t2),_,rfl,Kp.same (fun b o q=>k2 b o (k' b o q)) s1 h0k,hc2,(s1.2 a hka.symm).trans na,by rw [ea,ek];exact ksk_snoc hk⟩
 case done=>
  rintro s' ⟨h',tk,kA,e,rfl,k',hkS',hA',hk⟩
  have hk':IntsAre kA.toList kz:=by
   have e3:kz.take (0+vs.length)=kz:=List.take_of_length_le (by lia)
   rw [e3] at hk
   exact hk
  try dsimp only
  refine wpAny_bind (listItems_at hkS' rfl ?_)
  exact srt_end k' hkS' hA' hka h0k h0a hk' hlen h64 fun h3 out c k3 hA3 ko=>h h3 tk out c k3 hA3 ko
theorem srt_sort {f:Value} {n:Nat} (k0:Kp h₀ s.heap) (ho:s.heap.get? a=some (seqObj "list" vs.toArray n)) (h0a:h₀.get? a=none)
 (hlen:kz.length=vs.length) (h64:vs.length < 64) (turn:∀ (i:Nat) (v:Value) (k:Int),vs[i]?=some v→kz[i]?=some k→Turn prog w A s h₀ f v k)
 (h:∀ h' tk out c,Kp h₀ h'→h'.get? a=some (seqObj "list" out c)→KskOut false kz vs out.toList→P (.done (.ret .none)) { s with heap:=h',toks:=tk }):
 wpAny (model prog w) A (ksk_tree a f false) P E s:=by
 have ha:a < s.heap.objs.size:=Heap.lt_size ho
 have s1:=Heap.SameBut.update s.heap a (Obj.mapSeq fun _=>(#[]:Array Value))
 obtain ⟨e1,ho1⟩:∃ e1,(s.heap.update a (Obj.mapSeq fun _=>(#[]:Array Value))).get? a=some (seqObj "list" #[] e1):=⟨_,get?_update_seq ho fun _=>#[]⟩
 have hkS:((s.heap.update a (Obj.mapSeq fun _=>(#[]:Array Value))).push (seqObj "tuple" vs.toArray 0)).objs.size=s.heap.objs.size+1:=by rw [size_push',Heap.size_update]
 have k1:=k0.same s1 h0a
 have fr:h₀.get? (s.heap.objs.size+1)=none:=by
  cases q:h₀.get? (s.heap.objs.size+1) with
  | none=>rfl
  | some o=>exact absurd (Heap.lt_size (k0 _ _ q)) (Nat.not_lt.mpr (Nat.le_succ _))
 refine wpAny_bind (listItems_at ho rfl ?_)
 refine wpAny_bind (listUpdate_at ho rfl ?_ (by rw [List.size_toArray,sizeLine_eq];lia) (Nat.zero_le _))
 refine wpAny_bind (seqEpoch_at ho1 rfl ?_)
 refine wpAny_bind (wpAny_newTuple ?_ (by show vs.length≤_;rw [sizeLine_eq];lia))
 refine wpAny_bind (wpAny_newList ?_ (Nat.zero_le _))
 refine wpAny_holding ?_
 refine srt_rest (s:={ s with heap:=((s.heap.update a (Obj.mapSeq fun _=>(#[]:Array Value))).push (seqObj "tuple" vs.toArray 0)).push (seqObj "list" #[] 0) }) (kS:=((s.heap.update a (Obj.mapSeq fun _=>(#[]:Array Value))).push (seqObj "tuple" vs.toArray 0)).objs.size)
  (fun b o q=>Heap.get?_push_of_some _ (Heap.get?_push_of_some _ (k1 b o q))) (Heap.get?_push_size _ rfl) (Heap.get?_push_of_some _ (Heap.get?_push_of_some _ ho1)) (by rw [hkS];exact Nat.ne_of_gt (Nat.lt_succ_of_lt ha)) (by rw [hkS];exact fr) h0a hlen h64 turn h
end
section
variable {B:Base} {d:Nat} {T:Tab} {Γ:Gam} {sc sc':Sc} {env:Env} {G G':Addr→Option Obj} {A:Around} {m:Env'} {σ σ₀:AH} {s:Shared} {E:Value→Shared→Prop}
inductive SrtKI (prog:Program) (w:World) (A:Around) (q:Addr) (Q:Value→Shared→Prop) (vs:List Value) (s₁:Shared):Prop
 | mk (kz:List Int) (h₀:Heap):Kp h₀ s₁.heap→kz.length=vs.length→vs.length < 64→(∀ (i:Nat) (v:Value) (k:Int),vs[i]?=some v→kz[i]?=some k→Turn prog w A s₁ h₀ (.ref q) v k)→
  (∀ h' tk out c a,Kp h₀ h'→h₀.get? a=none→h'.get? a=some (seqObj "list" out c)→KskOut false kz vs out.toList→Q (.ref a) { s₁ with heap:=h',toks:=tk })→SrtKI prog w A q Q vs s₁
theorem sortedK_gen {v:Value} {q:Addr} {Q:Value→Shared→Prop} (h:wpAny (model B.prog B.w) A.in1 (collect v) (SrtKI B.prog B.w A.in1.in1 q Q) E s):
 wpAny (model B.prog B.w) A (call (.builtin "sorted") [v] [(Str.ofString "key",.ref q)]) Q E s:=by
 refine call_function_entry_kw kind_sorted plain_sorted entry_sorted (ksk_s1 _ _) ?_
 unfold Builtin.«sorted»
 refine wpAny_bind (m:=checkCount "sorted" 1 1 _) (wpAny_pure ?_)
 refine wpAny_bind (wpAny_mono h (fun vs s₁ ⟨kz,h₀,k0,hlen,h64,turn,hq⟩=>?_) fun _ _ z=>z)
 refine wpAny_bind (wpAny_newList ?_ (Nat.le_trans (Nat.le_of_lt h64) (by decide)))
 have hoL:(s₁.heap.push (seqObj "list" vs.toArray 0)).get? s₁.heap.objs.size=some (seqObj "list" vs.toArray 0):=Heap.get?_push_size _ rfl
 have fr:h₀.get? s₁.heap.objs.size=none:=by
  cases z:h₀.get? s₁.heap.objs.size with
  | none=>rfl
  | some o=>exact absurd (Heap.lt_size (k0 _ _ z)) (Nat.lt_irrefl _)
 refine wpAny_bind (wpAny_holding (wpAny_call_entry_kw slot_list_sort ⟨_,hoL,rfl⟩ entry_list_sort ?body (ksk_l1 _ _)))
 case body=>
  rw [ksk_t1]
  refine srt_sort (s:={ s₁ with heap:=s₁.heap.push (seqObj "list" vs.toArray 0) }) (h₀:=h₀) (fun b o e=>Heap.get?_push_of_some _ (k0 b o e)) hoL fr hlen h64 turn fun h' tk out c k' ha ko=>⟨_,rfl,?_⟩
  exact wpAny_pure ⟨_,rfl,hq h' tk out c _ k' fr ha ko⟩
noncomputable def lamParams (p:Pos):Arguments:=⟨[],[⟨S "k",none,p⟩],none,[],[],none,[]⟩
noncomputable def lamBody (p1 p2 p3:Pos):Expr:=.Subscript (.Name (S "homes") p1) (.Name (S "k") p2) p3
theorem lam_bind {qual:Str} {p:Pos} {body:Expr} {scope:Scope} {cl:List (Str × Addr)} {pm cv ct x:Value}:bindArgs (kla_fn (S "<lambda>") qual (lamParams p) body scope cl pm cv ct) ⟨[x],[]⟩=pure [(S "k",x)]:=by
 rfl
theorem lam_turn {A:Around} {s₀:Shared} {q:Addr} {qual:Str} {p p1 p2 p3:Pos} {scope:Scope} {cl:List (Str × Addr)} {pm cv ctv:Value} (hroom:A.depth < recursionLimit)
 (hq:s₀.heap.get? q=some { cls:=.type "function",data:=.func (kla_fn (S "<lambda>") qual (lamParams p) (lamBody p1 p2 p3) scope cl pm cv ctv) }) (hcd:s₀.heap.CodeRec cv qual) (hlim:s₀.heap.NoLimit)
 (hk:scope.kind=.function) (hn:scope.names=[(S "k",.local),(S "homes",.free)]) (hg:scope.isGenerator=false) (hco:scope.isCoroutine=false)
 {c da:Addr} (hcl:cl.lookup (S "homes")=some c) (hcell:s₀.heap.IsCell c (some (.ref da))) {vs:List (Int × Value)} {ep:Nat} (hd:s₀.heap.DictAt (intKind B.prog B.w) da vs ep) {x:Int} {t u:Tok} {k:Int} (hv:valueAt vs x=some (.int k u)):
 Turn B.prog B.w A s₀ s₀.heap (.ref q) (.int x t) k:=by
 intro h tk hkp
 refine wpAny_call ?_
 refine kla_callFunE (s:={ s₀ with heap:=h,toks:=tk }) hroom (hkp _ _ hq) rfl hco hg rfl (hcd.keeps hkp) ?_
 rw [lam_bind]
 refine wpAny_pure (wpAny_newFunctionEnv (fun y hy=>?_) (fun y hy=>?_) (fun h' hns hsb=>?_) hk)
 · show y.2≠.cell
   rw [show (kla_fn (S "<lambda>") qual (lamParams p) (lamBody p1 p2 p3) scope cl pm cv ctv).scope=scope from rfl,hn] at hy
   rcases List.mem_cons.mp hy with rfl | hy
   · decide
   · rcases List.mem_cons.mp hy with rfl | hy
     · decide
     · cases hy
 · show scope.names.lookup y.1=some .local
   rw [hn]
   rcases List.mem_cons.mp hy with rfl | hy
   · rfl
   · cases hy
 · dsimp only at hns hsb ⊢
   have hk':Kp h h':=fun b o e=>hsb.extBut b o (Nat.ne_of_lt (Heap.lt_size e)) (Heap.get?_push_of_some _ e)
   have hk0:Kp s₀.heap h':=fun b o e=>hk' b o (hkp b o e)
   refine ⟨hlim.keeps hk0,kla_codeExpr ?_⟩
   have hcell':=hcell.keeps hk0
   have hd':h'.DictAt (intKind B.prog B.w) da vs ep:=hd.at' fun o e=>hk0 _ o e
   have hdo:=DictAt.dictOf' hd'
   have hT:Shared.TypeIs { s₀ with heap:=h',toks:=tk+1 } (.ref da) "dict" := hdo.typeIs
   refine Subscript_ (wpAny_Name (wpAny_loadName_free hk ?_ hcl hcell' ?_ (by decide)) (by decide))
   · show scope.names.lookup (S "homes")=some .free
     rw [hn];rfl
   refine wpAny_Name (wpAny_loadName_local hk ?_ hns (v:=.int x t) ?_ ?_) (by decide)
   · show scope.names.lookup (S "k")=some .local
     rw [hn];rfl
   · rfl
   refine tail_any hT slot_dict_getitem.lookup (wpAny_getItem_of (intKind_is B.prog B.w x t) hdo.mapOf hv ?_) rfl
   exact ⟨h',_,u,rfl,rfl,hk'⟩
end
inductive LamOk (B:Base) (code:Value) (qual:Str):Prop
 | mk (c:Addr):code=.ref c→CodeHd B.g c B.tab→B.lamQ=qual ++ "<lambda>" → B.g.BuiltinsAt B.mg B.tab→mainGlobals≠B.tab→LamOk B code qual
inductive TripI (l:List Value):Prop
 | nil:l=[]→TripI l
 | cons (i:Int) (t:Tok) (j:Int) (u:Tok) (c:Value) (rest:List Value):l=.int i t::.int j u::c::rest→TriplesOk rest→TripI l
theorem triples_cases {l:List Value} (h:TriplesOk l):TripI l:=by
 cases l with
 | nil=>exact .nil rfl
 | cons v l=>cases v with
  | int i t=>cases l with
   | cons v l=>cases v with
    | int j u=>cases l with
     | cons c r=>exact .cons i t j u c r rfl h
     | nil=>exact h.elim
    | _=>exact h.elim
   | nil=>exact h.elim
  | _=>exact h.elim
theorem triples_ind {P:List Value→Prop} (h0:P []) (h1:∀ i t j u c rest,TriplesOk rest→P rest→P (.int i t::.int j u::c::rest)):∀ (n:Nat) (l:List Value),l.length≤n→TriplesOk l→P l:=by
 intro n
 induction n with
 | zero=>intro l hn _;exact List.eq_nil_of_length_eq_zero (Nat.le_zero.mp hn) ▸ h0
 | succ n ih=>
  intro l hn h
  rcases triples_cases h with rfl | ⟨i,t,j,u,c,rest,rfl,hr⟩
  · exact h0
  · exact h1 i t j u c rest hr (ih rest (by rw [List.length_cons,List.length_cons,List.length_cons] at hn;lia) hr)
theorem triples_app {l r:List Value} (hl:TriplesOk l) (hr:TriplesOk r):TriplesOk (l++r):=
 triples_ind (P:=fun l=>TriplesOk (l++r)) hr (fun i t j u c rest _ ih=>ih) _ l (Nat.le_refl _) hl
theorem among_app {pos:Pos} {cv:Value} {l r:List Value} (hl:TriplesOk l):codeAmong pos (l++r)=some cv→codeAmong pos l=some cv∨codeAmong pos r=some cv:=
 triples_ind (P:=fun l=>codeAmong pos (l++r)=some cv→codeAmong pos l=some cv∨codeAmong pos r=some cv) (fun h=>.inr h)
  (fun i t j u c rest _ ih h=>by
   have h:(if (i == pos.line && j == pos.col)=true then some c else codeAmong pos (rest++r))=some cv:=h
   show (if (i == pos.line && j == pos.col)=true then some c else codeAmong pos rest)=some cv∨_
   by_cases q:(i == pos.line && j == pos.col)=true
   · rw [if_pos q] at h ⊢;exact .inl h
   · rw [if_neg q] at h ⊢;exact ih h) _ l (Nat.le_refl _) hl
theorem tab_nf {ps:Array Value} (h:TriplesOk ps.toList):¬ Frozen (tabObj ps):=by
 rintro ⟨h',_⟩
 rcases h' with (e | e | ⟨C,e⟩) | ⟨vs,q,t,e1,e2⟩
 · injection e
 · injection e
 · injection e
 · (injection e1 with z0;subst z0)
   rcases triples_cases h with e | ⟨i,t',j,u,c,rest,e,_⟩
   · rw [← Array.getElem?_toList,e] at e2;injection e2
   · rw [← Array.getElem?_toList,e] at e2;(injection e2 with z0;injection z0)
theorem lamPar_some {ps:Arguments} {k:Str} (h:lamPar ps=some k):∃ q,ps=⟨[],[⟨k,none,q⟩],none,[],[],none,[]⟩:=by
 obtain ⟨po,as,va,ko,kd,kw,df⟩:=ps
 obtain ⟨h1,h2⟩:=onlyIf_some h
 obtain ⟨a,h3,h4⟩:=Option.bind_eq_some_iff.mp h2
 obtain ⟨h5,h6⟩:=onlyIf_some h4
 (injection h6 with z0;subst z0)
 simp only [Bool.and_eq_true,List.isEmpty_iff,Option.isNone_iff_eq_none] at h1 h5
 obtain ⟨⟨⟨⟨⟨e1,e2⟩,e3⟩,e4⟩,e5⟩,e6⟩:=h1
 obtain ⟨x,y,z⟩:=a
 exact ⟨z,by rw [e1,e2,e3,e4,e5,e6,one_some h3,show y=none from h5]⟩
theorem lamBod_some {b:Expr} {x:Str × Str} (h:lamBod b=some x):∃ p1 p2 p3,b=.Subscript (.Name x.1 p1) (.Name x.2 p2) p3:=by
 cases b with
 | Subscript d k q=>
  obtain ⟨y,z,h1,h2,rfl⟩:=o2_some h
  obtain ⟨p1,rfl⟩:=nameOf_some h1
  obtain ⟨p2,rfl⟩:=nameOf_some h2
  exact ⟨p1,p2,q,rfl⟩
 | _=>injection h
inductive LamI (sc:Sc) (lam:Expr) (di:Nat):Prop
 | mk (p p1 p2 p3 lp:Pos) (scope:Scope):lam=.Lambda (lamParams p) (lamBody p1 p2 p3) scope lp→scope.kind=.function→scope.names=[(S "k",.local),(S "homes",.free)]→scope.isGenerator=false→scope.isCoroutine=false→
  sc.kinds.lookup (S "homes")=some .cell→varIdx sc.vars (S "homes")=some di→LamI sc lam di
theorem lamD_spec {sc:Sc} {lam:Expr} {di:Nat} (h:lamD? sc lam=some di):LamI sc lam di:=by
 cases lam with
 | Lambda ps b scope lp=>
  obtain ⟨k,h1,h2⟩:=Option.bind_eq_some_iff.mp h
  obtain ⟨x,h3,h4⟩:=Option.bind_eq_some_iff.mp h2
  obtain ⟨hc,h5⟩:=Option.ite_none_right_eq_some.mp h4
  obtain ⟨c1,c2,c3,_,_,c4,c5,_,c6,c7,c8⟩:=hc
  obtain ⟨x1,x2⟩:=x
  dsimp only at c2 c3 c5 c8 h5
  subst c1
  subst c2
  subst c3
  obtain ⟨q,rfl⟩:=lamPar_some h1
  obtain ⟨p1,p2,p3,rfl⟩:=lamBod_some h3
  exact ⟨_,_,_,_,_,_,rfl,c4,c5,c6,c7,c8,h5⟩
 | _=>injection h
section
variable {B:Base} {d:Nat} {T:Tab} {Γ:Gam} {sc sc':Sc} {env:Env} {G G':Addr→Option Obj} {A:Around} {m:Env'} {σ σ₀:AH} {s:Shared} {E:Value→Shared→Prop}
theorem lam_eval (hB:BaseOk B) (hL:LamOk B sc.code sc.qual) (c:Cfg B d sc env G A m σ s) {p p1 p2 p3 lp:Pos} {scope:Scope} (hk:scope.kind=.function) (hn:scope.names=[(S "k",.local),(S "homes",.free)])
 {R:Value→Shared→Prop} {ca:Addr} (hc:env.cells.lookup (S "homes")=some ca)
 (k:∀ q s' cl pm cv ctv qual,s'.heap.get? q=some { cls:=.type "function",data:=.func (kla_fn (S "<lambda>") qual (lamParams p) (lamBody p1 p2 p3) scope cl pm cv ctv) }→s'.heap.CodeRec cv qual→cl.lookup (S "homes")=some ca→
  St B G σ s'→TExt s.heap s'.heap→R (.ref q) s'):WP B A (eval (.Lambda (lamParams p) (lamBody p1 p2 p3) scope lp) env) R s:=by
 obtain ⟨cc,hcode,hhd,hq,hbm,hgt⟩:=hL
 obtain ⟨cl,hcl,hcl2⟩:=closureFor_eq (scope:=scope) (env:=env) fun p hp hf=>by
  rw [hn] at hp
  rcases List.mem_cons.mp hp with rfl | hp
  · injection hf
  · rcases List.mem_cons.mp hp with rfl | hp
    · exact ⟨ca,hc⟩
    · cases hp
 have hclh:cl.lookup (S "homes")=some ca:=by
  rw [hcl2 _ (by rw [hn];simp),hc]
 obtain ⟨o,ho,ps,rfl,htr,hcs⟩:=c.st.tab
 have hkg:=c.st.keepg
 have hns:=hB.gNs.keeps hkg
 have hhd':=hhd.keeps hkg
 have hbm':s.heap.BuiltinsAt B.mg B.tab:=by
  obtain ⟨bm,ob,e1,e2,e3,e4,e5,r⟩:=hbm
  exact ⟨bm,ob,e1,e2,e3,e4,hkg _ _ e5,r⟩
 refine kla_eval rfl ?_
 cases hf:codeAmong lp ps.toList with
 | none=>
  refine kla_makeFunction (mg:=B.mg) hcl c.e.globals hns (c.e.code.trans hcode) hhd' ho htr hf hgt hbm' fun c' ctv h' tk hx hge hlt hrec htab=>?_
  have tx:TExt s.heap (h'.push (kla_obj (S "<lambda>") (env.qual ++ "<lambda>") (lamParams p) (lamBody p1 p2 p3) scope cl ((B.mg "__name__").getD .none) c' ctv)):=fun a oa e fz=>by
   refine Heap.get?_push_of_some _ (hx a oa (fun q=>?_) e)
   rw [q,ho] at e;(injection e with z0;subst z0)
   exact tab_nf htr fz
  have hkeep:∀ a oa,a≠B.tab→s.heap.get? a=some oa→(h'.push (kla_obj (S "<lambda>") (env.qual ++ "<lambda>") (lamParams p) (lamBody p1 p2 p3) scope cl ((B.mg "__name__").getD .none) c' ctv)).get? a=some oa:=fun a oa hne e=>Heap.get?_push_of_some _ (hx a oa hne e)
  have hrec':(h'.push (kla_obj (S "<lambda>") (env.qual ++ "<lambda>") (lamParams p) (lamBody p1 p2 p3) scope cl ((B.mg "__name__").getD .none) c' ctv)).CodeRec (.ref c') (env.qual ++ "<lambda>"):=hrec.push _
  have st':St B G σ { s with heap:=h'.push (kla_obj (S "<lambda>") (env.qual ++ "<lambda>") (lamParams p) (lamBody p1 p2 p3) scope cl ((B.mg "__name__").getD .none) c' ctv),toks:=tk }:=by
   refine ⟨c.st.base,fun a oa e=>hkeep a oa (fun q=>by rw [q,c.st.tabN.1] at e;injection e) (c.st.keep a oa e),fun a ao e=>⟨(c.st.objs a ao e).1.keeps (fun oa=>hkeep a oa (c.st.ne_tab e)) tx,(c.st.objs a ao e).2⟩,c.st.gens,c.st.os,⟨_,Heap.get?_push_of_some _ htab,_,rfl,?_,fun pos cv hcv=>?_⟩,c.st.tabN⟩
   · rw [Array.toList_append]
     exact triples_app htr trivial
   · rw [Array.toList_append] at hcv
     rcases among_app htr hcv with hcv | hcv
     · obtain ⟨cx,ox,vs,tt,f1,f2,f3,f4⟩:=hcs pos cv hcv
       exact ⟨cx,ox,vs,tt,f1,tx _ _ f2 ⟨.inr ⟨vs,_,tt,f3,f4⟩,(fun _ _ z=>by rw [f3] at z;injection z),fun _ z=>by rw [f3] at z;injection z⟩,f3,f4⟩
     · have:cv=.ref c':=by
        obtain ⟨_,hcv⟩:=Option.ite_none_right_eq_some.mp (show (if (((lp.line:Nat):Int) == pos.line && ((lp.col:Nat):Int) == pos.col)=true then some (Value.ref c') else none)=some cv from hcv)
        exact (Option.some.inj hcv).symm
       rw [this,hq,← c.e.qual]
       exact hrec'
  exact k _ _ cl _ (.ref c') ctv (env.qual ++ "<lambda>") (Heap.get?_push_size _ rfl) hrec' hclh st' tx
 | some cv=>
  refine kla_makeFunctionHit (mg:=B.mg) hcl c.e.globals hns (c.e.code.trans hcode) hhd' ho htr hf hbm' fun ctv h' tk hx _=>?_
  have hk':∀ b o,s.heap.get? b=some o→(h'.push { cls:=.type "function",data:=.func (kla_fn (S "<lambda>") (env.qual ++ "<lambda>") (lamParams p) (lamBody p1 p2 p3) scope cl ((B.mg "__name__").getD .none) cv ctv) }).get? b=some o:=fun b o e=>Heap.get?_push_of_some _ (hx b o e)
  obtain ⟨st',tx⟩:=c.st.keeps (t:=tk) hk'
  have hrec:=hcs lp cv hf
  rw [hq,← c.e.qual] at hrec
  exact k _ _ cl _ cv ctv (env.qual ++ "<lambda>") (Heap.get?_push_size _ rfl) (hrec.keeps hk') hclh st' tx
theorem keysD_spec {kvs:List (Int × AV)} {xs:List AV}:∀ {ks:List (Int × Int)},keysD kvs xs=some ks→intsOf xs=some (ks.map (·.2))∧∀ p ∈ ks,kvs.lookup p.2=some (.int p.1):=by
 induction xs with
 | nil=>intro ks h;injection h with h;exact h ▸ ⟨rfl,(fun p hp=>nomatch hp)⟩
 | cons x xs ih=>
  intro ks h
  cases x with
  | int i=>
   obtain ⟨v,h1,h⟩:=bind_some (show ((kvs.lookup i).bind fun v=>v.int?.bind fun k=>(keysD kvs xs).map fun ks=>(k,i)::ks)=some ks from h)
   obtain ⟨k,h2,h⟩:=bind_some h
   obtain ⟨ks',h3,rfl⟩:=map_some h
   obtain rfl:=int?_inv h2
   obtain ⟨e1,e2⟩:=ih h3
   refine ⟨?_,fun p hp=>?_⟩
   · show (intsOf xs).map (i::·)=_
     rw [e1];rfl
   · rcases List.mem_cons.mp hp with rfl | hp
     · exact h1
     · exact e2 p hp
  | _=>injection h
theorem kskOut_sort {ks:List (Int × Int)} {vs out:List Value} (hi:IntsAre vs (ks.map (·.2))) (hn:(ks.map (·.1)).Nodup) (h:KskOut false (ks.map (·.1)) vs out):IntsAre out (sortK ks):=by
 obtain ⟨ps,hp,rfl,hs⟩:=h
 have hz:((ks.map (·.1)).zip vs).map (fun p=>(p.1,numOf p.2))=ks:=by
  have h1:((ks.map (·.1)).zip vs).map (fun p=>(p.1,numOf p.2))=(ks.map (·.1)).zip (vs.map numOf):=by
   rw [List.zip_map_right]
   exact List.map_congr_left fun ⟨x,y⟩ _=>rfl
  rw [h1,hi.nums,List.zip_map']
  simp
 have hperm:(ps.map fun p=>(p.1,numOf p.2)).Perm ks:=by
  have:=hp.map (fun p:Int × Value=>(p.1,numOf p.2))
  rwa [hz] at this
 have hall:∀ v ∈ ps.map Prod.snd,∃ n t,v=.int n t:=fun v hv=>by
  obtain ⟨p,hp',rfl⟩:=List.mem_map.mp hv
  exact hi.all _ (List.of_mem_zip (hp.mem_iff.mp hp')).2
 have hm1:(ks.mergeSort (fun a b=>decide (a.1≤b.1))).Perm ks:=List.mergeSort_perm _ _
 have hm2:(ks.mergeSort (fun a b=>decide (a.1≤b.1))).Pairwise (fun a b=>a.1≤b.1):=by
  have:=List.pairwise_mergeSort (le:=fun (a b:Int × Int)=>decide (a.1≤b.1)) (by intro a b c;simp;lia) (by intro a b;simp;lia) ks
  exact this.imp fun q=>by simpa using q
 have hs2:(ps.map fun p=>(p.1,numOf p.2)).Pairwise (fun a b=>a.1≤b.1):=by
  rw [List.pairwise_map]
  exact hs.imp fun q=>by simpa using q
 have huniq:∀ a b:Int × Int,a ∈ ks→b ∈ ks→a.1=b.1→a=b:=by
  intro a b ha hb e
  clear hz hperm hm1 hm2 hs2 hp hs hi hall
  induction ks with
  | nil=>cases ha
  | cons c r ih=>
   rw [List.map_cons,List.nodup_cons] at hn
   rcases List.mem_cons.mp ha with rfl | ha' <;> rcases List.mem_cons.mp hb with rfl | hb'
   · rfl
   · exact absurd (List.mem_map.mpr ⟨b,hb',e.symm⟩) hn.1
   · exact absurd (List.mem_map.mpr ⟨a,ha',e⟩) hn.1
   · exact ih hn.2 ha' hb'
 have heq:ps.map (fun p=>(p.1,numOf p.2))=ks.mergeSort (fun a b=>decide (a.1≤b.1)):=
  (hperm.trans hm1.symm).eq_of_pairwise (fun a b ha hb h1 h2=>huniq a b (hperm.mem_iff.mp ha) (hm1.mem_iff.mp hb) (Int.le_antisymm h1 h2)) hs2 hm2
 have hfin:(ps.map Prod.snd).map numOf=sortK ks:=by
  unfold sortK
  rw [← heq,List.map_map,List.map_map]
  rfl
 rw [← hfin]
 exact intsAre_map _ hall
theorem sound_srtD (hB:BaseOk B) (hΓ:GamOk B d T Γ) (hL:LamOk B sc.code sc.qual) {a lam:Expr} {p pos kp:Pos} {pa:PE} {di:Nat} (hg:sc.isGlob (S "sorted")=true) (hs:∀ x q,a≠.Starred x q) (ha:SoundV B d Γ sc a pa) (hd:lamD? sc lam=some di):
 SoundV B d Γ sc (.Call (.Name (S "sorted") p) [a] [⟨some (S "key"),lam,kp⟩] pos) (.srtD pa di):=by
 intro env G A m σ Q s c hp
 obtain ⟨pp,p1,p2,p3,lp,scope,rfl,hk,hn,hgen,hco,hcell,hvar⟩:=lamD_spec hd
 obtain ⟨ca,hca⟩:=c.e.cells _ hcell
 refine wpAny_bind (built_ld hB c hg (hΓ.bi _ (.inl (by decide +kernel))) (v:=.builtin "sorted") (by decide +kernel) (by decide +kernel) (by decide +kernel) ?_)
 rw [starEach_cons hs,backTo_cons]
 refine callWith_builtin_kwB rfl rfl (evalArgs_kwB rfl (Calls.spliced_cons (ha.bind c hp fun v s₁ av σ₁ q rv c₁ t₁=>Calls.spliced_nil ?_)))
 refine wpAny_evalAll_cons ?_
 refine wpAny_bind (lam_eval hB hL c₁ hk hn hca fun fq s₂ cl pm cv ctv qual hfq hcd hclh st₂ t₂=>wpAny_bind (wpAny_standAt (wpAny_pure (wpAny_evalAll_nil ?_))))
 obtain ⟨w',hm,q⟩:=som_inv q
 obtain ⟨w,rfl,q⟩:=som_inv q
 replace q:=asR_inv (v:=av) q
 obtain ⟨l,rfl,q⟩:=q
 replace q:=asR_inv (v:=w) q
 obtain ⟨da,rfl,q⟩:=q
 replace q:=som_inv q
 obtain ⟨kvs,hda,q⟩:=q
 replace q:=som_inv q
 obtain ⟨xs,hxs,q⟩:=q
 replace q:=som_inv q
 obtain ⟨ks,hks,h64,hnd,q⟩:=q
 replace hda:=bind_some hda
 obtain ⟨ao,hda,hao⟩:=hda
 cases ao with
 | list=>injection hao
 | ro=>injection hao
 | attrs=>injection hao
 | dict kvs' ep=>
 injection hao with hao
 subst hao
 obtain ⟨hints,hlook⟩:=keysD_spec hks
 obtain ⟨u,ru,hl⟩:=c₁.e.vars (S "homes") di _ (by unfold Sc.isVar;rw [hcell];decide) hvar hm
 obtain rfl:=ru.refI
 have hcellv:s₂.heap.IsCell ca (some (.ref da)):=by
  rcases hl with ⟨hk',_,_,_,_,_,_,_⟩ | ⟨_,cc,o,hc',hG,hdat⟩
  · have:env.kindOf (S "homes")=sc.kinds.lookup (S "homes"):=by show env.scope.names.lookup _=_;rw [c.e.kinds]
    rw [this,hcell] at hk';(injection hk' with z0;injection z0)
  · rw [hca] at hc';(injection hc' with z0;subst z0)
    exact ⟨o,st₂.keep _ _ hG,hdat⟩
 obtain ⟨hn1,ws,hdict,hkr⟩:=(st₂.objs _ _ hda).1
 have hroom:A.in1.in1.depth < recursionLimit:=by have:=c.a.depth;show A.depth < 1000;lia
 have hlim:=hB.nolimit.keeps st₂.keepg
 have turn:∀ (vs:List Value),IntsAre vs (ks.map (·.2))→∀ (i:Nat) (v:Value) (k:Int),vs[i]?=some v→(ks.map (·.1))[i]?=some k→Turn B.prog B.w A.in1.in1 s₂ s₂.heap (.ref fq) v k:=by
  intro vs hi i v k hv hki
  rw [List.getElem?_map] at hki
  obtain ⟨pr,hpr,rfl⟩:=Option.map_eq_some_iff.mp hki
  obtain ⟨t,ht⟩:=hi.get i pr.2 (by rw [List.getElem?_map,hpr];rfl)
  rw [hv] at ht;(injection ht with z0;subst z0)
  obtain ⟨v',e1,e2⟩:=hkr.at.1 _ (hlook pr (List.mem_of_getElem? hpr))
  obtain ⟨u,rfl⟩:=e2.intI
  exact lam_turn hroom hfq hcd hlim hk hn hgen hco hclh hcellv hdict e1
 have fin:∀ (vs:List Value) (h':Heap) (tk:Nat) (out:Array Value) (c':Nat) (l:Addr),IntsAre vs (ks.map (·.2))→Kp s₂.heap h'→s₂.heap.get? l=none→h'.get? l=some (seqObj "list" out c')→KskOut false (ks.map (·.1)) vs out.toList→Post B G s.heap Q (.ref l) { s₂ with heap:=h',toks:=tk }:=by
  intro vs h' tk out c' l hi hkp hl0 hl ko
  have hI:=kskOut_sort hi hnd ko
  refine (made_list (t:=tk) (n:=c') (xs:=(sortK ks).map .int) (ys:=out.toList) st₂ hl0 hkp (by simpa using hl) ?_ (ints_rel hI) q).up (t₁.trans t₂)
  rw [List.length_map]
  have:(sortK ks).length=ks.length:=by unfold sortK;rw [List.length_map,List.length_mergeSort]
  rw [this];unfold LIM;lia
 have rv₂:=rv.mono t₂
 obtain rfl:=rv₂.refI
 rcases itemsOf_ref hxs with hσ | ⟨kvs',ep',hσ,rfl⟩
 · obtain ⟨hnx,ys,hlst,rr⟩:=(st₂.objs _ _ hσ).1
   have hi:=intsOf_rel rr hints
   have hlen:=hi.length
   rw [List.length_map] at hlen
   refine sortedK_gen (collect_list hlst.isList ⟨ks.map (·.1),s₂.heap,?_,by rw [List.length_map];lia,by lia,fun i v k h1 h2=>turn ys hi i v k h1 h2,fun h' tk out c' l hkp hl0 hl ko=>fin ys h' tk out c' l hi hkp hl0 hl ko⟩ (by rw [← rr.length];exact LIM_line hnx))
   intro b o e
   have hlt:=Heap.lt_size e
   rw [Heap.get?_update_other _ _ (Nat.ne_of_gt hlt)]
   exact Heap.get?_push_of_some _ e
 · obtain ⟨hnx,ws',hd',hk'⟩:=(st₂.objs _ _ hσ).1
   have e1:=KRel.intsOf hints
   have e2:=hk'.keys
   refine sortedK_gen (kdu_collect (A:=A.in1) (kdl_dict (not_sys hB st₂ hσ rfl)) c.a.handled hd' (by rw [← hk'.len];exact LIM_line hnx) fun h₁ tk acc hk₁ hacc=>?_)
   have hi:IntsAre acc.toList (ks.map (·.2)):=by rw [e1,e2];exact ksrc_keys hacc
   have hlen:=hi.length
   rw [List.length_map] at hlen
   exact ⟨ks.map (·.1),s₂.heap,hk₁,by rw [List.length_map];lia,by lia,fun i v k h1 h2=>turn acc.toList hi i v k h1 h2,fun h' tk out c' l hkp hl0 hl ko=>fin acc.toList h' tk out c' l hi hkp hl0 hl ko⟩
end
section
variable {B:Base} {d:Nat} {T:Tab} {Γ:Gam} {sc sc':Sc} {env:Env} {G G':Addr→Option Obj} {A:Around} {m:Env'} {σ σ₀:AH} {s:Shared}
noncomputable def Sound2 (B:Base) (d:Nat) (Γ:Gam) (sc:Sc) (e:Expr) (pe:PE):Prop:=SoundV B d Γ sc e pe∧SoundB B d Γ sc e pe
theorem noB {e:Expr} {pe:PE} (h:∀ m Q σ,pwpB Γ pe m Q σ=False):SoundB B d Γ sc e pe:=fun env G A m σ Q s c hp=>by rw [h] at hp;exact hp.elim
theorem not_t {b:Bool} (h:(!b)=true):b=false:=by cases b <;> first | rfl | injection h
theorem noB' {e:Expr} {pe:PE} (hv:SoundV B d Γ sc e pe) (h:∀ m Q σ,pwpB Γ pe m Q σ=False):Sound2 B d Γ sc e pe:=⟨hv,noB h⟩
theorem compL_sound {r:Expr→Option PE} (hr:∀ e pe,r e=some pe→Sound2 B d Γ sc e pe):∀ {es:List Expr} {ps:PEs},compL r es=some ps→SoundL B d Γ sc es ps
 | [],ps,h=>by (injection h with z0;subst z0);exact .nil
 | e::es,ps,h=>by
  obtain ⟨h1,h2⟩:=onlyIf_some h
  obtain ⟨p,q,h3,h4,rfl⟩:=o2_some h2
  exact .cons (isStar_ne (not_t h1)) (hr _ _ h3).1 (hr _ _ h3).2 (compL_sound hr h4)
theorem compE_nostar {n:Nat} {e:Expr} {pe:PE} (h:compE T n sc e=some pe):∀ x q,e≠.Starred x q:=by
 rintro x q rfl
 cases n with
 | zero=>exact nomatch (show (none:Option PE)=some pe from h)
 | succ n=>exact nomatch (show (none:Option PE)=some pe from h)
theorem compE_noset {n:Nat} {e:Expr} {pe:PE} (h:compE T n sc e=some pe):∀ a b c,e≠.Set a b c:=by
 rintro x q r rfl
 cases n with
 | zero=>exact nomatch (show (none:Option PE)=some pe from h)
 | succ n=>exact nomatch (show (none:Option PE)=some pe from h)
theorem compN_sound (hB:BaseOk B) (hΓ:GamOk B d T Γ) {x:Str} {pos:Pos} {pe:PE} (hd:(x == ("__debug__" : Str))=false) (h:compN T sc x=some pe):Sound2 B d Γ sc (.Name x pos) pe:=by
 have h:(if sc.isGlob x then (T.gints.lookup x).map fun i=>.lit (.int i) else (sc.var? x).map .var)=some pe:=h
 by_cases hg:sc.isGlob x=true
 · rw [if_pos hg] at h
   obtain ⟨i,hi,rfl⟩:=map_some h
   exact ⟨sound_gint hB hΓ hg hi hd,noB fun _ _ _=>rfl⟩
 · rw [if_neg hg] at h
   obtain ⟨i,hi,rfl⟩:=map_some h
   have hv:=sound_var (Γ:=Γ) (B:=B) (d:=d) (pos:=pos) hi hd
   exact ⟨hv,sound_varB hv⟩
theorem compC_sound {k:Const} {n:Nat} {pos:Pos} {pe:PE} (h:compC k=some pe):Sound2 B d Γ sc (.Constant k n pos) pe:=by
 refine ⟨sound_lit h,?_⟩
 cases k with
 | bool b=>(injection h with z0;subst z0);exact sound_boolB
 | none=>(injection h with z0;subst z0);exact noB fun _ _ _=>rfl
 | int i=>(injection h with z0;subst z0);exact noB fun _ _ _=>rfl
 | str x=>(injection h with z0;subst z0);exact noB fun _ _ _=>rfl
 | _=>injection h
theorem compCall_sound (hB:BaseOk B) (hΓ:GamOk B d T Γ) (hL:T.lam=true→LamOk B sc.code sc.qual) {r:Expr→Option PE} (hr:∀ e pe,r e=some pe→Sound2 B d Γ sc e pe) {f:Str} {p pos:Pos} {args:List Expr} {kws:List Keyword} {pe:PE} (hd:(f == ("__debug__" : Str))=false)
 (h:compCall T sc r f args kws=some pe):Sound2 B d Γ sc (.Call (.Name f p) args kws pos) pe:=by
 obtain ⟨hg,h⟩:=onlyIf_some h
 cases kws with
 | nil=>
  cases c1:T.gfns.contains f with
  | true=>
   rw [c1] at h
   obtain ⟨ps,h1,rfl⟩:=map_some h
   exact sound_call hB hΓ hg hd (compL_sound hr h1)
  | false=>
   rw [c1] at h
   cases c2:T.gclss.contains f with
   | true=>
    rw [c2] at h
    obtain ⟨ps,h1,rfl⟩:=map_some h
    exact noB' (sound_new hB hΓ hg hd (compL_sound hr h1)) fun _ _ _=>rfl
   | false=>
    rw [c2] at h
    have h':compBi sc r f args=some pe:=h
    unfold compBi at h'
    cases c3:(one args).bind (rev? sc) with
    | some x=>
     rw [c3] at h'
     obtain ⟨a,h1,h2⟩:=bind_some c3
     obtain rfl:=one_some h1
     obtain ⟨e,h3⟩:=onlyIf_some h'
     obtain rfl:=of_decide_eq_true e
     obtain ⟨px,h4,rfl⟩:=map_some h3
     exact noB' (sound_listRev hB hΓ hg h2 (hr _ _ h4).1) fun _ _ _=>rfl
    | none=>
     rw [c3] at h'
     obtain ⟨b,ps,h1,h2,rfl⟩:=o2_some h'
     exact noB' (sound_bi hB hΓ h1 hg (compL_sound hr h2)) fun _ _ _=>rfl
 | cons kw kws=>
  obtain ⟨hc,h9⟩:=onlyIf_some h
  rw [Bool.and_eq_true] at hc
  obtain ⟨rfl,hk,hl⟩:=of_decide_eq_true hc.1
  obtain rfl:=List.isEmpty_iff.mp hc.2
  obtain ⟨pa,d',h1,h2,rfl⟩:=o2_some h9
  obtain ⟨a,h3,h4⟩:=bind_some h1
  obtain rfl:=one_some h3
  obtain ⟨h5,h6⟩:=onlyIf_some h4
  obtain ⟨kn,lam,kp⟩:=kw
  cases hk
  exact noB' (sound_srtD hB hΓ (hL hl) hg (isStar_ne (not_t h5)) (hr _ _ h6).1 h2) fun _ _ _=>rfl
theorem compMeth_sound (hB:BaseOk B) (hΓ:GamOk B d T Γ) {r:Expr→Option PE} (hr:∀ e pe,r e=some pe→Sound2 B d Γ sc e pe) {o:Expr} {f:Str} {apos pos:Pos} {args:List Expr} {pe:PE} (hbase:∀ g p as ks q,o≠.Call (.Name g p) as ks q)
 (h:compMeth T sc r o f apos pos args=some pe):Sound2 B d Γ sc (.Call (.Attribute o f apos) args [] pos) pe:=by
 obtain ⟨hc,h⟩:=onlyIf_some h
 rw [Bool.and_eq_true] at hc
 obtain ⟨hline,hlen⟩:=hc
 have hlen:=of_decide_eq_true hlen
 cases c1:T.gmeths.contains f with
 | true=>
  rw [c1] at h
  obtain ⟨p,ps,h1,h2,rfl⟩:=o2_some h
  exact noB' (sound_meth hB hΓ (hr _ _ h1).1 (compL_sound hr h2) hbase hline hlen) fun _ _ _=>rfl
 | false=>
  rw [c1] at h
  cases c3:(one args).bind (rev? sc) with
  | some x=>
   rw [c3] at h
   obtain ⟨a,h1,h2⟩:=bind_some c3
   obtain rfl:=one_some h1
   obtain ⟨e,h3⟩:=onlyIf_some h
   obtain rfl:=of_decide_eq_true e
   obtain ⟨p,q,h4,h5,rfl⟩:=o2_some h3
   exact noB' (sound_extRev hB hΓ h2 (hr _ _ h4).1 (hr _ _ h5).1 hbase hline) fun _ _ _=>rfl
  | none=>
   rw [c3] at h
   obtain ⟨b,p,ps,hb,h1,h2,rfl⟩:=o3_some h
   exact noB' (sound_bm hB hb (hr _ _ h1).1 (compL_sound hr h2) hbase hline hlen) fun _ _ _=>rfl
theorem sound_idx (hB:BaseOk B) {v u:Expr} {q:Pos} {pv pu:PE} (hv:SoundV B d Γ sc v pv) (hu:SoundV B d Γ sc u pu) (hs:∀ l u' t p,u≠.Slice l u' t p):SoundV B d Γ sc (.Subscript v u q) (.idx pv pu):=by
 intro env G A m σ Q s c hp
 refine Subscript_ (hv.bind c hp fun ov s₁ av σ₁ hp₁ rv c₁ t₁=>hu.bind c₁ hp₁ fun uv s₂ au σ₂ hp₂ ru c₂ t₂=>?_)
 obtain ⟨r,hr,hp₂⟩:=som_inv hp₂
 exact wpAny_mono (idx_op hB c₂.st (rv.mono t₂) ru hr hp₂ hs).1 (fun _ _ z=>z.up (t₁.trans t₂)) fun _ _ z=>z
theorem compE_noslice {n:Nat} {e:Expr} {pe:PE} (h:compE T n sc e=some pe):∀ l u t p,e≠.Slice l u t p:=by
 rintro l u t p rfl
 cases n with
 | zero=>exact nomatch (show (none:Option PE)=some pe from h)
 | succ n=>exact nomatch (show (none:Option PE)=some pe from h)
inductive CmpE (r:Sc→Expr→Option PE) (sc:Sc) (elt:Expr) (gens:List Comprehension) (scope:Scope) (pe:PE):Prop
 | inl (x:Str) (p:Pos) (iter:Expr) (sc':Sc) (a b:PE):gens=[⟨.Name x p,iter,[],0⟩]→compScope sc x scope=some sc'→r sc iter=some a→r sc' elt=some b→.comp b a (.lit (.bool true))=pe→CmpE r sc elt gens scope pe
 | inr (x:Str) (p:Pos) (iter c:Expr) (sc':Sc) (a b cc:PE):gens=[⟨.Name x p,iter,[c],0⟩]→compScope sc x scope=some sc'→r sc iter=some a→r sc' elt=some b→r sc' c=some cc→.comp b a cc=pe→CmpE r sc elt gens scope pe
theorem compComp_sc {r:Sc→Expr→Option PE} {elt:Expr} {gens:List Comprehension} {scope:Scope} {pe:PE} (h:compComp r sc elt gens scope=some pe):CmpE r sc elt gens scope pe:=by
 obtain ⟨g,h1,h2⟩:=bind_some h
 obtain ⟨h3,h4⟩:=onlyIf_some h2
 obtain ⟨x,h5,h6⟩:=bind_some h4
 obtain ⟨sc',h7,h8⟩:=bind_some h6
 obtain ⟨t,iter,ifs,asy⟩:=g
 obtain ⟨p,e⟩:=nameOf_some h5
 have e1:t=.Name x p:=e
 have e2:asy=0:=of_decide_eq_true h3
 subst e1 e2
 cases ifs with
 | nil=>
  obtain ⟨p,q,h9,h10,e⟩:=o2_some h8
  exact .inl x _ iter sc' p q (one_some h1) h7 h9 h10 e
 | cons c cs=>
  obtain ⟨h9,h10⟩:=onlyIf_some h8
  obtain rfl:=List.isEmpty_iff.mp h9
  obtain ⟨p,q,cc,a1,a2,a3,e⟩:=o3_some h10
  exact .inr x _ iter c sc' p q cc (one_some h1) h7 a1 a2 a3 e
theorem compE_sound (hB:BaseOk B) (hΓ:GamOk B d T Γ):∀ (n:Nat) (sc:Sc) (hL:T.lam=true→LamOk B sc.code sc.qual) (e:Expr) (pe:PE),compE T n sc e=some pe→Sound2 B d Γ sc e pe
 | 0,sc,hL,e,pe,h=>nomatch (show (none:Option PE)=some pe from h)
 | n+1,sc,hL,e,pe,h=>by
  have ih:=compE_sound hB hΓ n sc hL
  cases e with
  | Constant c k q=>exact compC_sound h
  | Name x q=>
   obtain ⟨h1,h2⟩:=onlyIf_some (show onlyIf _ (compN T sc x)=some pe from h)
   exact compN_sound hB hΓ (not_t h1) h2
  | Attribute v x q=>
   obtain ⟨h1,h2⟩:=onlyIf_some (show onlyIf _ ((compE T n sc v).map fun p=>.attr p x)=some pe from h)
   obtain ⟨p,h3,rfl⟩:=map_some h2
   have hs:=sound_attr (x:=x) (pos:=q) hB (isNameCall_ne (not_t h1)) (ih _ _ h3).1
   exact ⟨hs,sound_attrB hs⟩
  | Subscript v s q=>
   have h':compSub (compE T n sc) v s=some pe:=h
   unfold compSub at h'
   cases c:sliceOf s with
   | some x=>
    rw [c] at h'
    obtain ⟨p,rfl⟩:=sliceOf_some c
    obtain ⟨h1,h2⟩:=onlyIf_some h'
    obtain ⟨u,h3,h4⟩:=bind_some h2
    rw [Bool.and_eq_true] at h1
    obtain ⟨x1,x2,x3⟩:=x
    cases Option.isNone_iff_eq_none.mp h1.1
    cases Option.isNone_iff_eq_none.mp h1.2
    cases h3
    obtain ⟨a,b,h5,h6,rfl⟩:=o2_some h4
    exact noB' (sound_slc (ih _ _ h5).1 (ih _ _ h6).1) fun _ _ _=>rfl
   | none=>
    rw [c] at h'
    obtain ⟨a,b,h5,h6,rfl⟩:=o2_some h'
    exact noB' (sound_idx hB (ih _ _ h5).1 (ih _ _ h6).1 (compE_noslice h6)) fun _ _ _=>rfl
  | BinOp l o r q=>
   have h':compBin (compE T n sc) l o r=some pe:=h
   unfold compBin at h'
   cases c:onlyIf (isMult o) ((listOf l).bind one) with
   | some x=>
    rw [c] at h'
    obtain ⟨h1,h2⟩:=onlyIf_some c
    obtain ⟨es,h3,h4⟩:=bind_some h2
    obtain ⟨p,rfl⟩:=listOf_some h3
    obtain rfl:=one_some h4
    obtain rfl:=isMult_eq h1
    obtain ⟨a,b,h5,h6,rfl⟩:=o2_some h'
    exact noB' (sound_repl (compE_nostar h5) (ih _ _ h5).1 (ih _ _ h6).1) fun _ _ _=>rfl
   | none=>
    rw [c] at h'
    obtain ⟨op,a,b,ho,h5,h6,rfl⟩:=o3_some h'
    exact noB' (sound_bin hB ho (ih _ _ h5).1 (ih _ _ h6).1) fun _ _ _=>rfl
  | UnaryOp o x q=>
   have h':compUn (compE T n sc) o x=some pe:=h
   cases o with
   | Not=>
    obtain ⟨p,h1,rfl⟩:=map_some h'
    exact sound_not (ih _ _ h1).1 (ih _ _ h1).2
   | USub=>
    obtain ⟨p,h1,rfl⟩:=map_some h'
    exact noB' (sound_neg (ih _ _ h1).1) fun _ _ _=>rfl
   | _=>exact nomatch (show (none:Option PE)=some pe from h')
  | BoolOp o vs q=>
   obtain ⟨ps,h1,rfl⟩:=map_some h
   exact sound_bop (compL_sound ih h1)
  | Compare l os rs q=>
   obtain ⟨op,a,b,ho,h5,h6,rfl⟩:=o3_some (show o3 .cmp ((one os).bind cm?) (compE T n sc l) ((one rs).bind (compE T n sc))=some pe from h)
   obtain ⟨o,h1,h2⟩:=bind_some ho
   obtain ⟨r,h3,h4⟩:=bind_some h6
   obtain rfl:=one_some h1
   obtain rfl:=one_some h3
   exact sound_cmp hB h2 (ih _ _ h5).1 (ih _ _ h4).1 (behind_of_comp h4)
  | IfExp a b c q=>
   obtain ⟨x,y,z,h1,h2,h3,rfl⟩:=o3_some (show o3 .ite (compE T n sc a) (compE T n sc b) (compE T n sc c)=some pe from h)
   exact noB' (sound_ite (ih _ _ h1).2 (ih _ _ h2).1 (ih _ _ h3).1) fun _ _ _=>rfl
  | Tuple es k q=>
   obtain ⟨ps,h1,rfl⟩:=map_some h
   exact noB' (sound_tup (compL_sound ih h1)) fun _ _ _=>rfl
  | List es q=>
   obtain ⟨ps,h1,rfl⟩:=map_some h
   exact noB' (sound_list (compL_sound ih h1)) fun _ _ _=>rfl
  | Dict ks vs q=>
   obtain ⟨h1,h2⟩:=onlyIf_some (show onlyIf _ (some .dict0)=some pe from h)
   rw [Bool.and_eq_true] at h1
   obtain rfl:=List.isEmpty_iff.mp h1.1
   obtain rfl:=List.isEmpty_iff.mp h1.2
   (injection h2 with z0;subst z0)
   exact noB' sound_dict0 fun _ _ _=>rfl
  | Call g args kws q=>
   have h':compAny T sc (compE T n sc) g args kws q=some pe:=h
   cases g with
   | Name f p=>
    obtain ⟨h1,h2⟩:=onlyIf_some h'
    exact compCall_sound hB hΓ hL ih (not_t h1) h2
   | Attribute o f ap=>
    obtain ⟨h1,h2⟩:=onlyIf_some h'
    rw [Bool.and_eq_true] at h1
    obtain rfl:=List.isEmpty_iff.mp h1.2
    exact compMeth_sound hB hΓ ih (isNameCall_ne (not_t h1.1)) h2
   | _=>exact nomatch (show (none:Option PE)=some pe from h')
  | ListComp elt gens scope q=>
   rcases compComp_sc (show compComp (compE T n) sc elt gens scope=some pe from h) with ⟨x,p,iter,sc',a,b,rfl,hsc,h3,h4,rfl⟩ | ⟨x,p,iter,c,sc',a,b,cc,rfl,hsc,h3,h4,h5,rfl⟩
   · have CS:=compScope_spec hsc
     have ih':=compE_sound hB hΓ n sc' (fun hl=>by rw [CS.eq];exact hL hl)
     exact noB' (sound_comp hB CS (ih _ _ h3).1 (ih' _ _ h4).1 (.inl rfl rfl) (compE_noset h3)) fun _ _ _=>rfl
   · have CS:=compScope_spec hsc
     have ih':=compE_sound hB hΓ n sc' (fun hl=>by rw [CS.eq];exact hL hl)
     exact noB' (sound_comp hB CS (ih _ _ h3).1 (ih' _ _ h4).1 (.inr _ rfl (ih' _ _ h5).2) (compE_noset h3)) fun _ _ _=>rfl
  | _=>exact nomatch (show (none:Option PE)=some pe from h)
end
section
variable {B:Base} {d:Nat} {T:Tab} {Γ:Gam} {sc sc':Sc} {env:Env} {G G':Addr→Option Obj} {A:Around} {m:Env'} {σ σ₀:AH} {s:Shared}
theorem blk_sound {r:Stmt→Option PS} (hr:∀ st ps,r st=some ps→SoundS B d Γ sc st ps):∀ {l:List Stmt} {ps:PS},blkOf r l=some ps→SoundBlk B d Γ sc l ps
 | [],ps,h=>by (injection h with z0;subst z0);exact soundBlk_nil
 | st::l,ps,h=>by
  obtain ⟨p,q,h1,h2,rfl⟩:=o2_some (show o2 .seq (r st) (blkOf r l)=some ps from h)
  exact soundBlk_cons (hr _ _ h1) (blk_sound hr h2)
theorem noSwap {n:Nat} {e:Expr} {pe:PE} (hc:isCompE e=false) (h:compE T n sc e=some pe):NoSwap e:=fun t line env=>
 swaps_false hc (by
  rintro a b c d rfl
  cases n with
  | zero=>exact nomatch (show (none:Option PE)=some pe from h)
  | succ n=>exact nomatch (show (none:Option PE)=some pe from h)) (by
  rintro a b c d f rfl
  cases n with
  | zero=>exact nomatch (show (none:Option PE)=some pe from h)
  | succ n=>exact nomatch (show (none:Option PE)=some pe from h)) t line env
theorem asg_sound (hB:BaseOk B) (hΓ:GamOk B d T Γ) (hL:T.lam=true→LamOk B sc.code sc.qual) {n:Nat} {x:Str} {p pos:Pos} {e:Expr} {i:Nat} {q:PE} (hw:swapOk sc x p e=true) (hx:sc.var? x=some i) (he:compE T (n+1) sc e=some q):
 SoundS B d Γ sc (.Assign [.Name x p] e pos) (.asg i q):=by
 cases hc:isCompE e with
 | false=>exact soundS_asg (noSwap hc he) hx (compE_sound hB hΓ _ _ hL _ _ he).1
 | true=>
  cases e with
  | ListComp elt gens scope epos=>
   unfold swapOk at hw
   rw [hc] at hw
   simp only [Bool.not_true,Bool.false_or,Bool.and_eq_true,beq_iff_eq] at hw
   obtain ⟨⟨hw1,hw2⟩,hw3⟩:=hw
   replace hw3:(scope.names.any fun q=>q.1 == x && (q.2 == .local || q.2 == .cell))=false:=not_t hw3
   have ih:=compE_sound hB hΓ n sc hL
   rcases compComp_sc (show compComp (compE T n) sc elt gens scope=some q from he) with ⟨y,yp,iter,sc',a,b,rfl,hsc,h3,h4,rfl⟩ | ⟨y,yp,iter,c,sc',a,b,cc,rfl,hsc,h3,h4,h5,rfl⟩
   · have CS:=compScope_spec hsc
     have ih':=compE_sound hB hΓ n sc' (fun hl=>by rw [CS.eq];exact hL hl)
     exact soundS_asgComp hB CS hx hw1 (beq_iff_eq.mpr hw2) hw3 (ih _ _ h3).1 (ih' _ _ h4).1 (.inl rfl rfl) (compE_noset h3)
   · have CS:=compScope_spec hsc
     have ih':=compE_sound hB hΓ n sc' (fun hl=>by rw [CS.eq];exact hL hl)
     exact soundS_asgComp hB CS hx hw1 (beq_iff_eq.mpr hw2) hw3 (ih _ _ h3).1 (ih' _ _ h4).1 (.inr _ rfl (ih' _ _ h5).2) (compE_noset h3)
  | _=>injection hc
theorem tgt_of {t:Expr} {x:List Nat × Bool} (h:tgtOf sc t=some x):Tgt sc t x.1 x.2:=by
 cases t with
 | Name y p=>
  obtain ⟨i,hi,rfl⟩:=map_some h
  exact .inl _ _ i rfl rfl hi rfl
 | Tuple ts k p=>
  obtain ⟨js,hi,rfl⟩:=map_some h
  exact .inr _ _ _ rfl rfl hi
 | _=>exact nomatch (show (none:Option (List Nat × Bool))=some x from h)
theorem compS_sound (hB:BaseOk B) (hΓ:GamOk B d T Γ) (sc:Sc) (hL:T.lam=true→LamOk B sc.code sc.qual):∀ (n:Nat) (st:Stmt) (ps:PS),compS T n sc st=some ps→SoundS B d Γ sc st ps
 | 0,st,ps,h=>nomatch (show (none:Option PS)=some ps from h)
 | n+1,st,ps,h=>by
  have ih:=compS_sound hB hΓ sc hL n
  have ihE:=compE_sound hB hΓ (n+1) sc hL
  have ihb:∀ {l:List Stmt} {q:PS},blkOf (compS T n sc) l=some q→SoundBlk B d Γ sc l q:=fun h=>blk_sound ih h
  cases st with
  | Expr e q=>
   cases e with
   | Call f as ks p=>
    obtain ⟨p,h3,rfl⟩:=map_some (show (compE T (n+1) sc (.Call f as ks p)).map .expr=some ps from h)
    exact soundS_expr (ihE _ _ h3).1
   | _=>exact nomatch (show (none:Option PS)=some ps from h)
  | Assign ts e q=>
   obtain ⟨t,h1,h2⟩:=bind_some (show (one ts).bind (fun t=>compAsg (compE T (n+1) sc) sc t e)=some ps from h)
   obtain rfl:=one_some h1
   cases t with
   | Name x p=>
    obtain ⟨hw,h3⟩:=onlyIf_some h2
    obtain ⟨i,k,hx,h4,rfl⟩:=o2_some h3
    exact asg_sound hB hΓ hL hw hx h4
   | Attribute o x p=>
    obtain ⟨hw,h3⟩:=onlyIf_some h2
    rw [Bool.and_eq_true] at hw
    obtain ⟨i,k,h4,h5,rfl⟩:=o2_some h3
    exact soundS_asgA hB hΓ.attr (noSwap (not_t hw.1) h5) (ihE _ _ h4).1 (ihE _ _ h5).1
   | Subscript o i p=>
    obtain ⟨hw,h3⟩:=onlyIf_some h2
    rw [Bool.and_eq_true] at hw
    obtain ⟨x,k,y,h4,h5,h6,rfl⟩:=o3_some h3
    exact soundS_asgI hB (noSwap (not_t hw.1) h6) (ihE _ _ h4).1 (ihE _ _ h5).1 (ihE _ _ h6).1
   | Tuple ts k p=>
    obtain ⟨hw,h3⟩:=onlyIf_some h2
    rw [Bool.and_eq_true] at hw
    obtain ⟨is,y,h4,h5,rfl⟩:=o2_some h3
    exact soundS_asgT (noSwap (not_t hw.1) h5) (isTup_ne (not_t hw.2)) h4 (ihE _ _ h5).1
   | _=>exact nomatch (show (none:Option PS)=some ps from h2)
  | AugAssign t o e q=>
   have h2:compAug (compE T (n+1) sc) sc t o e=some ps:=h
   cases t with
   | Name x p=>
    obtain ⟨i,op,y,hx,ho,h4,rfl⟩:=o3_some h2
    exact soundS_augV hx ho (ihE _ _ h4).1
   | Attribute ob x p=>
    obtain ⟨hw,h3⟩:=onlyIf_some h2
    obtain ⟨x',op,y,h4,ho,h5,rfl⟩:=o3_some h3
    exact soundS_augA hB hΓ.attr ho (ihE _ _ h4).1 (ihE _ _ h5).1
   | Subscript ob i p=>
    obtain ⟨hw,h3⟩:=onlyIf_some h2
    obtain ⟨x,h4,h5⟩:=bind_some h3
    obtain ⟨k,op,y,h6,ho,h7,rfl⟩:=o3_some h5
    exact soundS_augI hB ho (sliceOf_ne (Option.isNone_iff_eq_none.mp hw)) (ihE _ _ h4).1 (ihE _ _ h6).1 (ihE _ _ h7).1
   | _=>exact nomatch (show (none:Option PS)=some ps from h2)
  | If c a b q=>
   obtain ⟨x,y,z,h1,h2,h3,rfl⟩:=o3_some (show o3 .ifS (compE T (n+1) sc c) (blkOf (compS T n sc) a) (blkOf (compS T n sc) b)=some ps from h)
   exact soundS_if (ihE _ _ h1).2 (ihb h2) (ihb h3)
  | While c b el q=>
   obtain ⟨h0,h1⟩:=onlyIf_some (show onlyIf _ (o2 .whl (compE T (n+1) sc c) (blkOf (compS T n sc) b))=some ps from h)
   obtain rfl:=List.isEmpty_iff.mp h0
   obtain ⟨x,y,h2,h3,rfl⟩:=o2_some h1
   exact soundS_whl (ihE _ _ h2).2 (ihb h3)
  | For tgt iter b el q=>
   obtain ⟨h0,h1⟩:=onlyIf_some (show onlyIf _ (compFor (compE T (n+1) sc) sc tgt iter (blkOf (compS T n sc) b))=some ps from h)
   obtain rfl:=List.isEmpty_iff.mp h0
   obtain ⟨x,h2,h3⟩:=bind_some h1
   obtain ⟨y,h4,h5⟩:=bind_some h3
   obtain ⟨k,h6,h7⟩:=bind_some h5
   obtain ⟨h8,h9⟩:=onlyIf_some h7
   (injection h9 with z0;subst z0)
   have hT:=tgt_of h2
   have h4':orE (rev? sc iter) (fun x=>(compE T (n+1) sc x).map fun p=>(true,p)) ((compE T (n+1) sc iter).map fun p=>(false,p))=some y:=h4
   cases c:rev? sc iter with
   | some z=>
    rw [c] at h4'
    obtain ⟨p,h10,rfl⟩:=map_some h4'
    obtain ⟨x1,x2⟩:=x
    obtain rfl:=(show x2=true from h8)
    exact soundS_forRev hB hΓ hT c (ihE _ _ h10).1 (ihb h6)
   | none=>
    rw [c] at h4'
    obtain ⟨p,h10,rfl⟩:=map_some h4'
    exact soundS_for hB hT (compE_noset h10) (ihE _ _ h10).1 (ihb h6)
  | Return e q=>
   obtain ⟨x,h1,h2⟩:=bind_some (show e.bind (fun e=>(compE T (n+1) sc e).map .ret)=some ps from h)
   subst h1
   obtain ⟨p,h3,rfl⟩:=map_some h2
   exact soundS_ret (ihE _ _ h3).1
  | _=>exact nomatch (show (none:Option PS)=some ps from h)
end
end
section
open PySem.SeqAt PySem.Calls
noncomputable def funO (o:Obj):Option FuncData:=match o.data with
 | .func fd=>some fd
 | _=>none
noncomputable def fnAt (K:Frag) (a:Addr):Option FuncData:=(K.lookup a).bind funO
inductive FnAtI (K:Frag) (a:Addr) (fd:FuncData):Prop
 | mk (oc:Value) (od:Option Addr) (osl:Array (Option Value)):K.lookup a=some ⟨oc,od,.func fd,osl⟩→FnAtI K a fd
theorem fnAt_some {K:Frag} {a:Addr} {fd:FuncData} (h:fnAt K a=some fd):FnAtI K a fd:=by
 obtain ⟨o,e,h⟩:=bind_some (show (K.lookup a).bind funO=some fd from h)
 obtain ⟨oc,od,dd,osl⟩:=o
 cases dd with
 | func f=>injection h with h;exact h ▸ ⟨oc,od,osl,e⟩
 | _=>injection h
noncomputable def scF (fd:FuncData):Sc:=⟨(fd.scope.names.filter fun p=>p.2 == .local || p.2 == .cell).map (·.1),fd.scope.names,fd.code,fd.qualname ++ ".<locals>."⟩
noncomputable def parsF (fd:FuncData):List Str:=fd.params.args.map (·.arg)
noncomputable def PlainPar (fd:FuncData):Prop:=(((fd.params.posonlyargs=[]∧fd.params.kwonlyargs=[])∧fd.params.vararg=none)∧fd.params.kwarg=none)∧fd.defaults=.none
noncomputable def noneV:Value→Bool
 | .none=>true
 | _=>false
theorem noneV_eq {v:Value} (h:noneV v=true):v=.none:=by
 cases v <;> first | rfl | injection h
noncomputable def plainPar (fd:FuncData):Bool:=fd.params.posonlyargs.isEmpty && fd.params.kwonlyargs.isEmpty && fd.params.vararg.isNone && fd.params.kwarg.isNone && noneV fd.defaults
theorem plainPar_eq {fd:FuncData} (h:plainPar fd=true):PlainPar fd:=by
 obtain ⟨h,h5⟩:=Bool.and_eq_true_iff.mp h
 obtain ⟨h,h4⟩:=Bool.and_eq_true_iff.mp h
 obtain ⟨h,h3⟩:=Bool.and_eq_true_iff.mp h
 obtain ⟨h1,h2⟩:=Bool.and_eq_true_iff.mp h
 exact ⟨⟨⟨⟨List.isEmpty_iff.mp h1,List.isEmpty_iff.mp h2⟩,Option.isNone_iff_eq_none.mp h3⟩,Option.isNone_iff_eq_none.mp h4⟩,noneV_eq h5⟩
theorem fm_congr {α β:Type} {f g:α→Option β}:∀ {l:List α},(∀ x ∈ l,f x=g x)→l.filterMap f=l.filterMap g
 | [],_=>rfl
 | x::l,h=>by rw [List.filterMap_cons,List.filterMap_cons,h x (.head _),fm_congr fun y hy=>h y (.tail _ hy)]
theorem filterMap_zip {ns:List Str}:∀ {vs:List Value},ns.Nodup→vs.length=ns.length→ns.filterMap (fun n=>((ns.zip vs).lookup n).map (n,·))=ns.zip vs:=by
 induction ns with
 | nil=>intro vs _ _;rfl
 | cons n ns ih=>
  intro vs hn hl
  cases vs with
  | nil=>injection hl
  | cons v vs=>
   obtain ⟨h1,h2⟩:=List.nodup_cons.mp hn
   have hl:vs.length=ns.length:=Nat.succ.inj hl
   rw [List.zip_cons_cons,List.filterMap_cons,List.lookup_cons,beq_self_eq_true]
   show (n,v)::_=_
   refine congrArg ((n,v)::·) ((fm_congr fun x hx=>?_).trans (ih h2 hl))
   have hne:x≠n:=fun q=>h1 (q ▸ hx)
   rw [List.lookup_cons,beq_eq_false_iff_ne.mpr hne]
theorem lookup_zip_some {n:Str} {ns:List Str}:∀ {vs:List Value},n ∈ ns→vs.length=ns.length→((ns.zip vs).lookup n).isSome=true:=by
 induction ns with
 | nil=>intro vs h;cases h
 | cons m ns ih=>
  intro vs hn hl
  cases vs with
  | nil=>injection hl
  | cons v vs=>
   rw [List.zip_cons_cons,List.lookup_cons]
   by_cases e:n=m
   · rw [e,beq_self_eq_true];rfl
   · rw [beq_eq_false_iff_ne.mpr e]
     exact ih ((List.mem_cons.mp hn).resolve_left e) (Nat.succ.inj hl)
theorem forIn_bind_nil {α β γ:Type} {l:List α} {s:β} {f:α→β→Sem (ForInStep β)} {g:β→Sem γ} (h:l=[]):((forIn l s f:Sem β) >>= g)=g s:=by
 subst h;rfl
theorem bind_plain {fd:FuncData} {l:List Str} (hp:PlainPar fd) (e:parsF fd=l) (hn:l.Nodup) {vs:List Value} (hl:vs.length=l.length):bindArgs fd ⟨vs,[]⟩=pure (l.zip vs):=by
 have hm:(l.filter fun n=>((l.zip vs).lookup n).isNone)=[]:=by
  refine List.filter_eq_nil_iff.mpr fun n h q=>?_
  have:=lookup_zip_some h hl
  rw [Option.isNone_iff_eq_none.mp q] at this
  injection this
 obtain ⟨n,q,⟨po,as,va,ko,kd,kw,df⟩,b,sc,cl,d,de,z,a1,a2,a3,a4,a5,a6⟩:=fd
 obtain ⟨⟨⟨⟨h1,h2⟩,h3⟩,h4⟩,h5⟩:=hp
 cases h1;cases h2;cases h3;cases h4;cases h5
 have e:as.map (·.arg)=l:=e
 have h1:¬ ((decide (vs.length > (as.map (·.arg)).length) && true)=true):=by
  rw [e,hl,decide_eq_false (Nat.lt_irrefl _)];exact Bool.false_ne_true
 have h2:¬ ((!((List.take ((as.map (fun x:Arg=>x.arg)).length - (List.drop (0 - (as.map (fun x:Arg=>x.arg)).length) ([]:List Value)).length) (as.map (fun x:Arg=>x.arg))).filter fun n=>(((as.map (fun x:Arg=>x.arg)).zip vs).lookup n).isNone).isEmpty)=true):=by
  rw [List.drop_nil,List.length_nil,Nat.sub_zero,List.take_length,e,hm];exact Bool.false_ne_true
 have h3:((as.map (fun x:Arg=>x.arg)).drop ((as.map (fun x:Arg=>x.arg)).length - (List.drop (0 - (as.map (fun x:Arg=>x.arg)).length) ([]:List Value)).length)).zip (List.drop (0 - (as.map (fun x:Arg=>x.arg)).length) ([]:List Value))=[]:=by
  rw [List.drop_nil,List.zip_nil_right]
 refine ((if_neg h1).trans ((if_neg h2).trans (forIn_bind_nil h3))).trans ?_
 refine Eq.trans (b:=(pure ((as.map (fun x:Arg=>x.arg)++[]).filterMap fun n=>(((as.map (fun x:Arg=>x.arg)).zip vs).lookup n).map (n,·)):Sem (List (Str × Value)))) rfl ?_
 rw [List.append_nil,e,filterMap_zip hn hl]
noncomputable def fnOk (K:Frag) (fd:FuncData):Bool:=
 codeIn K fd.code fd.qualname && fd.closure.isEmpty && decide (fd.scope.kind=.function) && !fd.scope.isGenerator && !fd.scope.isCoroutine && fd.globals == mainGlobals && fd.builtins == builtinsNs && plainPar fd &&
 decide ((parsF fd).Nodup) && decide ((scF fd).vars.take (parsF fd).length=parsF fd) && (parsF fd).all (scF fd).isVar
noncomputable def stmtsB:FuncBody→Option (List Stmt)
 | .stmts b=>some b
 | _=>none
noncomputable def bodyOf (T:Tab) (K:Frag) (a:Addr):Option (Nat × Nat × PS):=(fnAt K a).bind fun fd=>onlyIf (fnOk K fd) ((stmtsB fd.body).bind fun b=>(blkOf (compS T 60 (scF fd)) b).map fun p=>((parsF fd).length,(scF fd).vars.length,p))
noncomputable def refV:Value→Option Addr
 | .ref c=>some c
 | _=>none
theorem refV_eq {v:Value} {c:Addr} (h:refV v=some c):v=.ref c:=by
 cases v with
 | ref a=>injection h with h;rw [h]
 | _=>injection h
theorem stmtsB_eq {v:FuncBody} {c:List Stmt} (h:stmtsB v=some c):v=.stmts c:=by
 cases v with
 | stmts a=>injection h with h;rw [h]
 | _=>injection h
noncomputable def lamAt (K:Frag) (a tab:Addr) (q:Str):Bool:=((fnAt K a).bind fun fd=>(refV fd.code).map fun c=>codeHdIn K c tab && fd.qualname ++ ".<locals>." ++ "<lambda>" == q).getD false
theorem body_sound {B:Base} {d:Nat} {T:Tab} {Γ:Gam} {a:Addr} {n m:Nat} {ps:PS} (hB:BaseOk B) (hΓ:GamOk B d T Γ) (h:bodyOf T B.K a=some (n,m,ps))
 (hL:T.lam=true→lamAt B.K a B.tab B.lamQ=true∧B.g.BuiltinsAt B.mg B.tab∧mainGlobals≠B.tab) {t:Tr}
 (hvc:∀ args Q σ,t args Q σ→args.length=n∧pwpS Γ ps (fun fl _ σ'=>Q (flv fl) σ') (env0 (m - n) args) σ):FnSound B (d+4) a t:=by
 obtain ⟨fd,e,h⟩:=bind_some h
 obtain ⟨ok,h⟩:=onlyIf_some h
 obtain ⟨b,hb,h⟩:=bind_some h
 obtain ⟨p,hp,hq⟩:=map_some h
 (injection hq with z0 z1;subst z0;injection z1 with z2 z3;subst z2;subst z3)
 obtain ⟨oc,od,osl,hK⟩:=fnAt_some e
 unfold fnOk at ok
 simp only [Bool.and_eq_true,decide_eq_true_eq,List.isEmpty_iff,beq_iff_eq,List.all_eq_true,Bool.not_eq_true'] at ok
 have F:FnObj B.K a (scF fd) (parsF fd) b fd:=⟨ok.1.1.1.1.1.1.1.1.1.1,stmtsB_eq hb,ok.1.1.1.1.1.1.1.1.1.2,ok.1.1.1.1.1.1.1.1.2,ok.1.1.1.1.1.1.1.2,ok.1.1.1.1.1.1.2,rfl,ok.1.1.1.1.1.2,ok.1.1.1.1.2,rfl,rfl,ok.1.1.2,ok.1.2,ok.2,fun vs hl=>bind_plain (plainPar_eq ok.1.1.1.2) rfl ok.1.1.2 hl⟩
 refine fn_entry hB hK F (blk_sound (fun st q hq=>compS_sound hB hΓ (scF fd) (fun l=>?_) 60 st q hq) hp) hvc
 obtain ⟨l1,l2,l3⟩:=hL l
 unfold lamAt at l1
 rw [e] at l1
 cases hc:refV fd.code with
 | none=>
  have l1:((refV fd.code).map fun c=>codeHdIn B.K c B.tab && fd.qualname ++ ".<locals>." ++ "<lambda>" == B.lamQ).getD false=true:=l1
  rw [hc] at l1;injection l1
 | some c=>
  have l1:((refV fd.code).map fun c=>codeHdIn B.K c B.tab && fd.qualname ++ ".<locals>." ++ "<lambda>" == B.lamQ).getD false=true:=l1
  rw [hc] at l1
  obtain ⟨l4,l5⟩:=Bool.and_eq_true_iff.mp l1
  exact ⟨c,refV_eq hc,codeHd_of_K hB.kin l4,(beq_iff_eq.mp l5).symm,l2,l3⟩
section
variable {B:Base} {d d':Nat} {T:Tab} {Γ:Gam}
theorem FnSound.mono {a:Addr} {t:Tr} (h:FnSound B d a t) (hd:d≤d'):FnSound B d' a t:=
 fun A G σ Q s args vs ha st rv ht=>h A G σ Q s args vs ⟨ha.handled,by have:=ha.depth;omega,by have:=ha.units;omega⟩ st rv ht
theorem GamOk.mono (h:GamOk B d T Γ) (hd:d≤d'):GamOk B d' T Γ where
 attr:=h.attr
 bi:=h.bi
 gint:=h.gint
 fn:=fun f t e=>by obtain ⟨a,h1,h2,h3⟩:=h.fn f t e;exact ⟨a,h1,h2,h3.mono hd⟩
 cls:=fun f C t e=>by obtain ⟨h1,h2,h3,h4,a,h5,h6,h7⟩:=h.cls f C t e;exact ⟨h1,h2,h3,h4,a,h5,h6,h7.mono hd⟩
 mth:=fun C f t e=>by obtain ⟨h1,h2,a,h3,h4,h5,h6⟩:=h.mth C f t e;exact ⟨h1,h2,a,h3,h4,h5,h6.mono hd⟩
noncomputable def Gam.addFn (Γ:Gam) (f:Str) (t:Tr):Gam:={ Γ with fn:=fun g=>if g=f then some t else Γ.fn g }
noncomputable def Gam.addCls (Γ:Gam) (f:Str) (C:Addr) (t:Tr):Gam:={ Γ with cls:=fun g=>if g=f then some (C,t) else Γ.cls g }
noncomputable def Gam.addMth (Γ:Gam) (C:Addr) (f:Str) (t:Tr):Gam:={ Γ with mth:=fun D g=>if D=C∧g=f then some t else Γ.mth D g }
structure Top where
 fns:List (Str × Addr)
 clss:List (Str × Addr × Addr)
 mths:List (Addr × Str × Addr)
 attrs:List (Addr × Str)
 gints:List (Str × Int)
noncomputable def Top.isCls (P:Top) (C:Addr):Bool:=P.clss.any fun c=>c.2.1 == C
noncomputable def Top.attrOk (P:Top) (C:Addr) (x:Str):Bool:=P.attrs.any fun p=>p.1 == C && p.2 == x
noncomputable def fnThere (K:Frag) (a:Addr):Bool:=(fnAt K a).isSome && keepIn K (.ref a) && isFn K (.ref a)
noncomputable def intB (i:Int):Value→Bool
 | .int j _=>j == i
 | _=>false
noncomputable def gintB (i:Int) (o:Option (Option Value)):Bool:=((o.bind id).map (intB i)).getD false
theorem intB_eq {i:Int} {v:Value} (h:intB i v=true):∃ t,v=.int i t:=by
 cases v with
 | int j t=>exact ⟨t,by rw [beq_iff_eq.mp h]⟩
 | _=>injection h
theorem gintB_eq {i:Int} {o:Option (Option Value)} (h:gintB i o=true):∃ t,o=some (some (.int i t)):=by
 cases o with
 | none=>injection h
 | some o=>cases o with
  | none=>injection h
  | some v=>obtain ⟨t,e⟩:=intB_eq h;exact ⟨t,by rw [e]⟩
noncomputable def Top.ok (P:Top) (K:Frag):Bool:=
 P.fns.all (fun p=>nsIn K mainGlobals p.1 == some (some (.ref p.2)) && fnThere K p.2) &&
 P.clss.all (fun p=>nsIn K mainGlobals p.1 == some (some (.ref p.2.1)) && keepIn K (.ref p.2.1) && makesIn K p.2.1 && findIn K (.ref p.2.1) "__init__" == some (some (.ref p.2.2)) && fnThere K p.2.2 &&
  hasDictIn K p.2.1 && findIn K (.ref p.2.1) "__setattr__" == some (some (.builtin "object.__setattr__")) && plainOver K p.2.1) &&
 P.mths.all (fun p=>P.isCls p.1 && plainGet K p.1 p.2.1 && findIn K (.ref p.1) p.2.1 == some (some (.ref p.2.2)) && fnThere K p.2.2) &&
 P.attrs.all (fun p=>plainGet K p.1 p.2 && findIn K (.ref p.1) p.2 == some none && takerIn K p.1 p.2 == some none) &&
 P.gints.all (fun p=>gintB p.2 (nsIn K mainGlobals p.1)) &&
 (["len", "range", "list", "tuple", "max", "min", "sorted", "reversed"]:List String).all fun f=>nsIn K mainGlobals (S f) == some none
structure TopOk (P:Top) (K:Frag):Prop where
 fn:∀ p ∈ P.fns,nsIn K mainGlobals p.1=some (some (.ref p.2))∧fnThere K p.2=true
 cls:∀ p ∈ P.clss,nsIn K mainGlobals p.1=some (some (.ref p.2.1))∧keepIn K (.ref p.2.1)=true∧makesIn K p.2.1=true∧findIn K (.ref p.2.1) "__init__" = some (some (.ref p.2.2))∧fnThere K p.2.2=true∧
  hasDictIn K p.2.1=true∧findIn K (.ref p.2.1) "__setattr__" = some (some (.builtin "object.__setattr__"))∧plainOver K p.2.1=true
 mth:∀ p ∈ P.mths,P.isCls p.1=true∧plainGet K p.1 p.2.1=true∧findIn K (.ref p.1) p.2.1=some (some (.ref p.2.2))∧fnThere K p.2.2=true
 attr:∀ p ∈ P.attrs,plainGet K p.1 p.2=true∧findIn K (.ref p.1) p.2=some none∧takerIn K p.1 p.2=some none
 gint:∀ p ∈ P.gints,∃ t,nsIn K mainGlobals p.1=some (some (.int p.2 t))
 bi:∀ f ∈ (["len", "range", "list", "tuple", "max", "min", "sorted", "reversed"]:List String),nsIn K mainGlobals (S f)=some none
theorem Top.ok_spec {P:Top} {K:Frag} (h:P.ok K=true):TopOk P K:=by
 unfold Top.ok at h
 simp only [Bool.and_eq_true,List.all_eq_true,beq_iff_eq,and_assoc] at h
 obtain ⟨h1,h2,h3,h4,h5,h6⟩:=h
 exact ⟨h1,h2,h3,h4,fun p hp=>gintB_eq (h5 p hp),h6⟩
theorem lookup_mem {α:Type}:∀ {l:List (Str × α)} {x:Str} {v:α},l.lookup x=some v→(x,v) ∈ l
 | (y,u)::r,x,v,h=>by
  rw [List.lookup_cons] at h
  by_cases e:x=y
  · subst e
    rw [beq_self_eq_true] at h
    (injection h with z0;subst z0)
    exact .head _
  · rw [beq_eq_false_iff_ne.mpr e] at h
    exact .tail _ (lookup_mem h)
theorem TopOk.base {P:Top} (h:TopOk P B.K) (h1:B.isCls=P.isCls) (h2:B.attrOk=P.attrOk):
 (∀ C x,B.isCls C=true→B.attrOk C x=true→plainGet B.K C x=true∧findIn B.K (.ref C) x=some none∧takerIn B.K C x=some none)∧
 (∀ C,B.isCls C=true→hasDictIn B.K C=true∧findIn B.K (.ref C) "__setattr__" = some (some (.builtin "object.__setattr__"))∧plainOver B.K C=true):=by
 refine ⟨fun C x hc hx=>?_,fun C hc=>?_⟩
 · rw [h2] at hx
   obtain ⟨p,hp,e⟩:=List.any_eq_true.mp hx
   simp only [Bool.and_eq_true,beq_iff_eq] at e
   have:=h.attr p hp
   rw [e.1,e.2] at this
   exact this
 · rw [h1] at hc
   obtain ⟨p,hp,e⟩:=List.any_eq_true.mp hc
   have:=(h.cls p hp).2.2.2.2.2
   rw [beq_iff_eq.mp e] at this
   exact this
theorem gam_start {P:Top} (h:TopOk P B.K) (h2:B.attrOk=P.attrOk) (hg:T.gints=P.gints):GamOk B d T ⟨fun _=>none,fun _=>none,fun _ _=>none,B.attrOk⟩ where
 attr:=rfl
 bi:=fun f hf=>by
  have hm:∃ g ∈ (["len", "range", "list", "tuple", "max", "min", "sorted", "reversed"]:List String),f=S g:=by
   rcases hf with hf | hf
   · obtain ⟨b,hb⟩:=Option.isSome_iff_exists.mp hf
     have key:∀ p ∈ biT,∃ g ∈ (["len", "range", "list", "tuple", "max", "min", "sorted", "reversed"]:List String),p.1=S g:=by decide
     exact key _ (find?_mem hb)
   · exact ⟨_,by simp,hf⟩
  obtain ⟨g,hg,rfl⟩:=hm
  exact h.bi g hg
 gint:=fun x i e=>h.gint (x,i) (hg ▸ lookup_mem e)
 fn:=fun _ _ e=>by injection e
 cls:=fun _ _ _ e=>by injection e
 mth:=fun _ _ _ e=>by injection e
theorem gam_fn {P:Top} (h:TopOk P B.K) (g:GamOk B d T Γ) {f:Str} {a:Addr} {t:Tr} (hf:(f,a) ∈ P.fns) (hs:FnSound B (d+4) a t):GamOk B (d+4) T (Γ.addFn f t):=
 have g':=g.mono (d':=d+4) (by omega)
 have hh:=h.fn _ hf
 have h3:=hh.2
 {
  attr:=g'.attr,bi:=g'.bi,gint:=g'.gint,cls:=g'.cls,mth:=g'.mth,
  fn:=fun x u e=>by
   have e:(if x=f then some t else Γ.fn x)=some u:=e
   by_cases q:x=f
   · rw [if_pos q] at e
     (injection e with z0;subst z0)
     subst q
     unfold fnThere at h3
     simp only [Bool.and_eq_true] at h3
     exact ⟨a,hh.1,h3.1.2,hs⟩
   · rw [if_neg q] at e;exact g'.fn x u e }
theorem gam_cls {P:Top} (h:TopOk P B.K) (h1:B.isCls=P.isCls) (g:GamOk B d T Γ) {f:Str} {C a:Addr} {t:Tr} (hf:(f,C,a) ∈ P.clss) (hs:FnSound B (d+4) a t):GamOk B (d+4) T (Γ.addCls f C t):=
 have g':=g.mono (d':=d+4) (by omega)
 have hh:=h.cls _ hf
 {
  attr:=g'.attr,bi:=g'.bi,gint:=g'.gint,fn:=g'.fn,mth:=g'.mth,
  cls:=fun x D u e=>by
   have e:(if x=f then some (C,t) else Γ.cls x)=some (D,u):=e
   by_cases q:x=f
   · rw [if_pos q] at e
     (injection e with z0;injection z0 with z1 z2;subst z1;subst z2)
     subst q
     obtain ⟨k1,k2,k3,k4,k5,_⟩:=hh
     unfold fnThere isFn at k5
     simp only [Bool.and_eq_true,beq_iff_eq] at k5
     exact ⟨k1,k2,by rw [h1];exact List.any_eq_true.mpr ⟨_,hf,beq_self_eq_true _⟩,k3,a,k4,k5.2,hs⟩
   · rw [if_neg q] at e;exact g'.cls x D u e }
theorem gam_mth {P:Top} (h:TopOk P B.K) (h1:B.isCls=P.isCls) (g:GamOk B d T Γ) {f:Str} {C a:Addr} {t:Tr} (hf:(C,f,a) ∈ P.mths) (hs:FnSound B (d+4) a t):GamOk B (d+4) T (Γ.addMth C f t):=
 have g':=g.mono (d':=d+4) (by omega)
 have hh:=h.mth _ hf
 {
  attr:=g'.attr,bi:=g'.bi,gint:=g'.gint,fn:=g'.fn,cls:=g'.cls,
  mth:=fun D x u e=>by
   have e:(if D=C∧x=f then some t else Γ.mth D x)=some u:=e
   by_cases q:D=C∧x=f
   · rw [if_pos q] at e
     (injection e with z0;subst z0)
     obtain ⟨q1,q2⟩:=q
     subst q1 q2
     obtain ⟨k1,k2,k3,k4⟩:=hh
     unfold fnThere at k4
     simp only [Bool.and_eq_true] at k4
     exact ⟨h1 ▸ k1,k2,a,k3,k4.2,k4.1.2,hs⟩
   · rw [if_neg q] at e;exact g'.mth D x u e }
end
end
noncomputable def b_variables:PS:=
 (.seq (.ret (.call (S "variables_of") (.cons (.list (.cons (.var 0) .nil)) .nil))) <|
 .nop)
noncomputable def b_variables_of:PS:=
 (.seq (.asg 1 .dict0) <|
 (.seq (.asg 2 (.list .nil)) <|
 (.seq (.asg 3 (.bi .listRev (.cons (.var 0) .nil))) <|
 (.seq (.whl (.var 3)
  (.seq (.asg 4 (.bm (.var 3) .pop .nil)) <|
  (.seq (.ifS (.cmp .eq (.idx (.var 4) (.lit (.int (0)))) (.lit (.str (S "v"))))
   (.seq (.ifS (.cmp .notin (.idx (.var 4) (.lit (.int (1)))) (.var 1))
    (.seq (.asgI (.var 1) (.idx (.var 4) (.lit (.int (1)))) (.lit (.bool true))) <|
    (.seq (.expr (.bm (.var 2) .append (.cons (.idx (.var 4) (.lit (.int (1)))) .nil))) <|
    .nop))
    .nop) <|
   .nop)
   (.seq (.ifS (.cmp .eq (.idx (.var 4) (.lit (.int (0)))) (.lit (.str (S "s"))))
    (.seq (.expr (.bm (.var 3) .extendRev (.cons (.idx (.var 4) (.lit (.int (2)))) .nil))) <|
    .nop)
    .nop) <|
   .nop)) <|
  .nop))) <|
 (.seq (.ret (.var 2)) <|
 .nop)))))
noncomputable def b_occurrences:PS:=
 (.seq (.asg 1 .dict0) <|
 (.seq (.asg 2 (.list (.cons (.var 0) .nil))) <|
 (.seq (.whl (.var 2)
  (.seq (.asg 3 (.bm (.var 2) .pop .nil)) <|
  (.seq (.ifS (.cmp .eq (.idx (.var 3) (.lit (.int (0)))) (.lit (.str (S "v"))))
   (.seq (.asgI (.var 1) (.idx (.var 3) (.lit (.int (1)))) (.bin .add (.bm (.var 1) .get (.cons (.idx (.var 3) (.lit (.int (1)))) (.cons (.lit (.int (0))) .nil))) (.lit (.int (1))))) <|
   .nop)
   (.seq (.ifS (.cmp .eq (.idx (.var 3) (.lit (.int (0)))) (.lit (.str (S "s"))))
    (.seq (.expr (.bm (.var 2) .extendRev (.cons (.idx (.var 3) (.lit (.int (2)))) .nil))) <|
    .nop)
    .nop) <|
   .nop)) <|
  .nop))) <|
 (.seq (.ret (.var 1)) <|
 .nop))))
noncomputable def b_KernelClause___init__:PS:=
 (.seq (.asgA (.var 0) (S "functor") (.var 1)) <|
 (.seq (.asgA (.var 0) (S "args") (.var 2)) <|
 (.seq (.asgA (.var 0) (S "goals") (.var 3)) <|
 (.seq (.asgA (.var 0) (S "count") (.var 4)) <|
 .nop))))
noncomputable def b_goal_terms:PS:=
 (.seq (.asg 1 (.idx (.var 0) (.lit (.int (0))))) <|
 (.seq (.ifS (.bop false (.cons (.cmp .eq (.var 1) (.lit (.str (S "call")))) (.cons (.cmp .eq (.var 1) (.lit (.str (S "builtin")))) .nil)))
  (.seq (.ret (.idx (.var 0) (.lit (.int (2))))) <|
  .nop)
  .nop) <|
 (.seq (.ifS (.cmp .eq (.var 1) (.lit (.str (S "unify"))))
  (.seq (.ret (.tup (.cons (.idx (.var 0) (.lit (.int (1)))) (.cons (.idx (.var 0) (.lit (.int (2)))) .nil)))) <|
  .nop)
  .nop) <|
 (.seq (.ret (.tup .nil)) <|
 .nop))))
noncomputable def b_goal_special:PS:=
 (.seq (.ifS (.bop false (.cons (.cmp .eq (.idx (.var 0) (.lit (.int (0)))) (.lit (.str (S "level")))) (.cons (.cmp .eq (.idx (.var 0) (.lit (.int (0)))) (.lit (.str (S "mark")))) (.cons (.cmp .eq (.idx (.var 0) (.lit (.int (0)))) (.lit (.str (S "cutto")))) .nil))))
  (.seq (.ret (.idx (.var 0) (.lit (.int (1))))) <|
  .nop)
  .nop) <|
 (.seq (.ret (.neg (.lit (.int (1))))) <|
 .nop))
noncomputable def b_VarInfo___init__:PS:=
 (.seq (.asgA (.var 0) (S "var") (.var 1)) <|
 (.seq (.asgA (.var 0) (S "kind") (.lit (.str (S "temp")))) <|
 (.seq (.asgA (.var 0) (S "slot") (.lit (.int (0)))) <|
 (.seq (.asgA (.var 0) (S "first") (.var 2)) <|
 (.seq (.asgA (.var 0) (S "unsafe") (.lit (.bool false))) <|
 (.seq (.asgA (.var 0) (S "last_goal") (.neg (.lit (.int (1))))) <|
 (.seq (.asgA (.var 0) (S "count") (.lit (.int (0)))) <|
 (.seq (.asgA (.var 0) (S "first_chunk") (.lit (.int (0)))) <|
 (.seq (.asgA (.var 0) (S "last_chunk") (.lit (.int (0)))) <|
 .nop)))))))))
noncomputable def b_ClausePlan___init__:PS:=
 (.seq (.asgA (.var 0) (S "infos") (.var 1)) <|
 (.seq (.asgA (.var 0) (S "chunks") (.var 2)) <|
 (.seq (.asgA (.var 0) (S "needs_env") (.var 3)) <|
 (.seq (.asgA (.var 0) (S "env_size") (.var 4)) <|
 (.seq (.asgA (.var 0) (S "live_after") (.var 5)) <|
 .nop)))))
noncomputable def b_ClausePlan_info:PS:=
 (.seq (.ret (.idx (.attr (.var 0) (S "infos")) (.var 1))) <|
 .nop)
noncomputable def b_ClausePlan_is_perm:PS:=
 (.seq (.ret (.cmp .eq (.attr (.idx (.attr (.var 0) (S "infos")) (.var 1)) (S "kind")) (.lit (.str (S "perm"))))) <|
 .nop)
noncomputable def b_ClausePlan_is_void:PS:=
 (.seq (.ret (.cmp .eq (.attr (.idx (.attr (.var 0) (S "infos")) (.var 1)) (S "kind")) (.lit (.str (S "void"))))) <|
 .nop)
noncomputable def b_ClausePlan_perms:PS:=
 (.seq (.asg 1 (.repl (.lit (.int (0))) (.attr (.var 0) (S "env_size")))) <|
 (.seq (.forS [2] true false (.attr (.var 0) (S "infos"))
  (.seq (.ifS (.cmp .eq (.attr (.idx (.attr (.var 0) (S "infos")) (.var 2)) (S "kind")) (.lit (.str (S "perm"))))
   (.seq (.asgI (.var 1) (.bin .sub (.attr (.idx (.attr (.var 0) (S "infos")) (.var 2)) (S "slot")) (.lit (.int (1)))) (.var 2)) <|
   .nop)
   .nop) <|
  .nop)) <|
 (.seq (.ret (.var 1)) <|
 .nop)))
noncomputable def b_ClausePlan_dying_at:PS:=
 (.seq (.asg 2 (.list .nil)) <|
 (.seq (.forS [3] true false (.meth (.var 0) (S "perms") .nil)
  (.seq (.ifS (.cmp .eq (.attr (.idx (.attr (.var 0) (S "infos")) (.var 3)) (S "last_goal")) (.var 1))
   (.seq (.expr (.bm (.var 2) .append (.cons (.var 3) .nil))) <|
   .nop)
   .nop) <|
  .nop)) <|
 (.seq (.ret (.var 2)) <|
 .nop)))
noncomputable def b_chunk_numbers:PS:=
 (.seq (.asg 1 (.list .nil)) <|
 (.seq (.asg 2 (.lit (.int (0)))) <|
 (.seq (.forS [3] true false (.var 0)
  (.seq (.expr (.bm (.var 1) .append (.cons (.var 2) .nil))) <|
  (.seq (.ifS (.cmp .eq (.idx (.var 3) (.lit (.int (0)))) (.lit (.str (S "call"))))
   (.seq (.augV 2 .add (.lit (.int (1)))) <|
   .nop)
   .nop) <|
  .nop))) <|
 (.seq (.ret (.var 1)) <|
 .nop))))
noncomputable def b_Survey___init__:PS:=
 (.seq (.asgA (.var 0) (S "infos") .dict0) <|
 .nop)
noncomputable def b_Survey_meet:PS:=
 (.seq (.ifS (.cmp .notin (.var 1) (.attr (.var 0) (S "infos")))
  (.seq (.asgI (.attr (.var 0) (S "infos")) (.var 1) (.new (S "VarInfo") (.cons (.var 1) (.cons (.var 2) .nil)))) <|
  (.seq (.asgA (.idx (.attr (.var 0) (S "infos")) (.var 1)) (S "first_chunk") (.var 4)) <|
  .nop))
  .nop) <|
 (.seq (.asg 6 (.idx (.attr (.var 0) (S "infos")) (.var 1))) <|
 (.seq (.augA (.var 6) (S "count") .add (.var 5)) <|
 (.seq (.asgA (.var 6) (S "last_goal") (.var 3)) <|
 (.seq (.asgA (.var 6) (S "last_chunk") (.var 4)) <|
 .nop)))))
noncomputable def b_Survey_terms:PS:=
 (.seq (.forS [5] true false (.var 1)
  (.seq (.ifS (.cmp .eq (.idx (.var 5) (.lit (.int (0)))) (.lit (.str (S "v"))))
   (.seq (.expr (.meth (.var 0) (S "meet") (.cons (.idx (.var 5) (.lit (.int (1)))) (.cons (.bin .add (.var 2) (.lit (.str (S "_arg")))) (.cons (.var 3) (.cons (.var 4) (.cons (.lit (.int (1))) .nil))))))) <|
   .nop)
   (.seq (.asg 6 (.call (S "occurrences") (.cons (.var 5) .nil))) <|
   (.seq (.forS [7] true false (.call (S "variables") (.cons (.var 5) .nil))
    (.seq (.expr (.meth (.var 0) (S "meet") (.cons (.var 7) (.cons (.bin .add (.var 2) (.lit (.str (S "_struct")))) (.cons (.var 3) (.cons (.var 4) (.cons (.idx (.var 6) (.var 7)) .nil))))))) <|
    .nop)) <|
   .nop))) <|
  .nop)) <|
 .nop)
noncomputable def b_kind_of:PS:=
 (.seq (.ifS (.cmp .eq (.attr (.var 0) (S "count")) (.lit (.int (1))))
  (.seq (.ret (.lit (.str (S "void")))) <|
  .nop)
  .nop) <|
 (.seq (.ifS (.cmp .gt (.attr (.var 0) (S "last_chunk")) (.attr (.var 0) (S "first_chunk")))
  (.seq (.ret (.lit (.str (S "perm")))) <|
  .nop)
  .nop) <|
 (.seq (.ret (.lit (.str (S "temp")))) <|
 .nop)))
noncomputable def b_slot_order:PS:=
 (.seq (.asg 1 (.list .nil)) <|
 (.seq (.forS [2] true false (.bi .sorted (.cons (.var 0) .nil))
  (.seq (.asg 3 (.idx (.var 0) (.var 2))) <|
  (.seq (.ifS (.cmp .eq (.attr (.var 3) (S "kind")) (.lit (.str (S "perm"))))
   (.seq (.asg 4 (.bi .len (.cons (.var 1) .nil))) <|
   (.seq (.whl (.bop true (.cons (.cmp .gt (.var 4) (.lit (.int (0)))) (.cons (.cmp .lt (.attr (.idx (.var 0) (.idx (.var 1) (.bin .sub (.var 4) (.lit (.int (1)))))) (S "last_goal")) (.attr (.var 3) (S "last_goal"))) .nil)))
    (.seq (.augV 4 .sub (.lit (.int (1)))) <|
    .nop)) <|
   (.seq (.expr (.bm (.var 1) .insert (.cons (.var 4) (.cons (.var 2) .nil)))) <|
   .nop)))
   .nop) <|
  .nop))) <|
 (.seq (.ret (.var 1)) <|
 .nop)))
noncomputable def b_classify:PS:=
 (.seq (.asg 1 (.attr (.var 0) (S "goals"))) <|
 (.seq (.asg 2 (.call (S "chunk_numbers") (.cons (.var 1) .nil))) <|
 (.seq (.asg 3 (.new (S "Survey") .nil)) <|
 (.seq (.expr (.meth (.var 3) (S "terms") (.cons (.attr (.var 0) (S "args")) (.cons (.lit (.str (S "head"))) (.cons (.neg (.lit (.int (1)))) (.cons (.lit (.int (0))) .nil)))))) <|
 (.seq (.asg 4 (.lit (.bool false))) <|
 (.seq (.forS [5] true false (.bi .range (.cons (.bi .len (.cons (.var 1) .nil)) .nil))
  (.seq (.asg 6 (.idx (.var 1) (.var 5))) <|
  (.seq (.asg 7 (.call (S "goal_special") (.cons (.var 6) .nil))) <|
  (.seq (.ifS (.cmp .ge (.var 7) (.lit (.int (0))))
   (.seq (.expr (.meth (.var 3) (S "meet") (.cons (.var 7) (.cons (.lit (.str (S "special"))) (.cons (.var 5) (.cons (.idx (.var 2) (.var 5)) (.cons (.lit (.int (1))) .nil))))))) <|
   .nop)
   .nop) <|
  (.seq (.expr (.meth (.var 3) (S "terms") (.cons (.call (S "goal_terms") (.cons (.var 6) .nil)) (.cons (.lit (.str (S "goal"))) (.cons (.var 5) (.cons (.idx (.var 2) (.var 5)) .nil)))))) <|
  (.seq (.ifS (.bop true (.cons (.cmp .eq (.idx (.var 6) (.lit (.int (0)))) (.lit (.str (S "call")))) (.cons (.cmp .lt (.bin .add (.var 5) (.lit (.int (1)))) (.bi .len (.cons (.var 1) .nil))) .nil)))
   (.seq (.asg 4 (.lit (.bool true))) <|
   .nop)
   .nop) <|
  .nop)))))) <|
 (.seq (.asg 8 (.attr (.var 3) (S "infos"))) <|
 (.seq (.forS [9] true false (.var 8)
  (.seq (.asgA (.idx (.var 8) (.var 9)) (S "kind") (.call (S "kind_of") (.cons (.idx (.var 8) (.var 9)) .nil))) <|
  .nop)) <|
 (.seq (.asg 10 (.call (S "slot_order") (.cons (.var 8) .nil))) <|
 (.seq (.forS [5] true false (.bi .range (.cons (.bi .len (.cons (.var 10) .nil)) .nil))
  (.seq (.asg 11 (.idx (.var 8) (.idx (.var 10) (.var 5)))) <|
  (.seq (.asgA (.var 11) (S "slot") (.bin .add (.var 5) (.lit (.int (1))))) <|
  (.seq (.asgA (.var 11) (S "unsafe") (.cmp .eq (.attr (.var 11) (S "first")) (.lit (.str (S "goal_arg"))))) <|
  .nop)))) <|
 (.seq (.asg 12 (.list .nil)) <|
 (.seq (.forS [5] true false (.bi .range (.cons (.bi .len (.cons (.var 1) .nil)) .nil))
  (.seq (.asg 13 (.lit (.int (0)))) <|
  (.seq (.whl (.bop true (.cons (.cmp .lt (.var 13) (.bi .len (.cons (.var 10) .nil))) (.cons (.cmp .gt (.attr (.idx (.var 8) (.idx (.var 10) (.var 13))) (S "last_goal")) (.var 5)) .nil)))
   (.seq (.augV 13 .add (.lit (.int (1)))) <|
   .nop)) <|
  (.seq (.expr (.bm (.var 12) .append (.cons (.var 13) .nil))) <|
  .nop)))) <|
 (.seq (.ret (.new (S "ClausePlan") (.cons (.var 8) (.cons (.var 2) (.cons (.var 4) (.cons (.bi .len (.cons (.var 10) .nil)) (.cons (.var 12) .nil))))))) <|
 .nop)))))))))))))
noncomputable def b_places_of:PS:=
 (.seq (.asg 1 .dict0) <|
 (.seq (.asg 2 (.list (.cons (.tup (.cons (.neg (.lit (.int (1)))) (.cons (.lit (.str (S "head"))) (.cons (.attr (.var 0) (S "args")) .nil)))) .nil))) <|
 (.seq (.forS [3] true false (.bi .range (.cons (.bi .len (.cons (.attr (.var 0) (S "goals")) .nil)) .nil))
  (.seq (.asg 4 (.idx (.attr (.var 0) (S "goals")) (.var 3))) <|
  (.seq (.asg 5 (.call (S "goal_special") (.cons (.var 4) .nil))) <|
  (.seq (.ifS (.cmp .ge (.var 5) (.lit (.int (0))))
   (.seq (.expr (.bm (.bm (.var 1) .setdefault (.cons (.var 5) (.cons (.list .nil) .nil))) .append (.cons (.tup (.cons (.var 3) (.cons (.lit (.str (S "special"))) .nil))) .nil))) <|
   .nop)
   .nop) <|
  (.seq (.expr (.bm (.var 2) .append (.cons (.tup (.cons (.var 3) (.cons (.lit (.str (S "goal"))) (.cons (.call (S "goal_terms") (.cons (.var 4) .nil)) .nil)))) .nil))) <|
  .nop))))) <|
 (.seq (.forS [3,6,7] false false (.var 2)
  (.seq (.asg 8 (.list .nil)) <|
  (.seq (.forS [9] true true (.var 7)
   (.seq (.expr (.bm (.var 8) .append (.cons (.tup (.cons (.var 9) (.cons (.bin .add (.var 6) (.lit (.str (S "_arg")))) .nil))) .nil))) <|
   .nop)) <|
  (.seq (.whl (.var 8)
   (.seq (.asgT [9,10] (.bm (.var 8) .pop .nil)) <|
   (.seq (.ifS (.cmp .eq (.idx (.var 9) (.lit (.int (0)))) (.lit (.str (S "v"))))
    (.seq (.expr (.bm (.bm (.var 1) .setdefault (.cons (.idx (.var 9) (.lit (.int (1)))) (.cons (.list .nil) .nil))) .append (.cons (.tup (.cons (.var 3) (.cons (.var 10) .nil))) .nil))) <|
    .nop)
    (.seq (.ifS (.cmp .eq (.idx (.var 9) (.lit (.int (0)))) (.lit (.str (S "s"))))
     (.seq (.forS [11] true true (.idx (.var 9) (.lit (.int (2))))
      (.seq (.expr (.bm (.var 8) .append (.cons (.tup (.cons (.var 11) (.cons (.bin .add (.var 6) (.lit (.str (S "_struct")))) .nil))) .nil))) <|
      .nop)) <|
     .nop)
     .nop) <|
    .nop)) <|
   .nop))) <|
  .nop)))) <|
 (.seq (.ret (.var 1)) <|
 .nop)))))
noncomputable def b_crosses_call:PS:=
 (.seq (.forS [2] true false (.bi .range (.cons (.bi .len (.cons (.attr (.var 0) (S "goals")) .nil)) .nil))
  (.seq (.ifS (.cmp .eq (.idx (.idx (.attr (.var 0) (S "goals")) (.var 2)) (.lit (.int (0)))) (.lit (.str (S "call"))))
   (.seq (.asg 3 (.lit (.bool false))) <|
   (.seq (.asg 4 (.lit (.bool false))) <|
   (.seq (.forS [5] true false (.var 1)
    (.seq (.ifS (.cmp .le (.idx (.var 5) (.lit (.int (0)))) (.var 2))
     (.seq (.asg 3 (.lit (.bool true))) <|
     .nop)
     (.seq (.asg 4 (.lit (.bool true))) <|
     .nop)) <|
    .nop)) <|
   (.seq (.ifS (.bop true (.cons (.var 3) (.cons (.var 4) .nil)))
    (.seq (.ret (.lit (.bool true))) <|
    .nop)
    .nop) <|
   .nop))))
   .nop) <|
  .nop)) <|
 (.seq (.ret (.lit (.bool false))) <|
 .nop))
noncomputable def b_check_plan:PS:=
 (.seq (.asg 2 (.call (S "places_of") (.cons (.var 0) .nil))) <|
 (.seq (.ifS (.cmp .ne (.bi .sorted (.cons (.var 2) .nil)) (.bi .sorted (.cons (.attr (.var 1) (S "infos")) .nil)))
  (.seq (.ret (.lit (.bool false))) <|
  .nop)
  .nop) <|
 (.seq (.asg 3 (.list .nil)) <|
 (.seq (.forS [4] true false (.var 2)
  (.seq (.ifS (.not (.call (S "check_variable") (.cons (.var 0) (.cons (.var 4) (.cons (.idx (.var 2) (.var 4)) (.cons (.idx (.attr (.var 1) (S "infos")) (.var 4)) .nil))))))
   (.seq (.ret (.lit (.bool false))) <|
   .nop)
   .nop) <|
  (.seq (.ifS (.cmp .eq (.attr (.idx (.attr (.var 1) (S "infos")) (.var 4)) (S "kind")) (.lit (.str (S "perm"))))
   (.seq (.expr (.bm (.var 3) .append (.cons (.idx (.attr (.var 1) (S "infos")) (.var 4)) .nil))) <|
   .nop)
   .nop) <|
  .nop))) <|
 (.seq (.ifS (.cmp .ne (.attr (.var 1) (S "env_size")) (.bi .len (.cons (.var 3) .nil)))
  (.seq (.ret (.lit (.bool false))) <|
  .nop)
  .nop) <|
 (.seq (.ifS (.cmp .ne (.bi .sorted (.cons (.comp (.attr (.var 7) (S "slot")) (.var 3) (.lit (.bool true))) .nil)) (.bi .list (.cons (.bi .range (.cons (.lit (.int (1))) (.cons (.bin .add (.bi .len (.cons (.var 3) .nil)) (.lit (.int (1)))) .nil))) .nil)))
  (.seq (.ret (.lit (.bool false))) <|
  .nop)
  .nop) <|
 (.seq (.forS [5] true false (.var 3)
  (.seq (.forS [6] true false (.var 3)
   (.seq (.ifS (.bop true (.cons (.cmp .gt (.attr (.var 5) (S "last_goal")) (.attr (.var 6) (S "last_goal"))) (.cons (.cmp .gt (.attr (.var 5) (S "slot")) (.attr (.var 6) (S "slot"))) .nil)))
    (.seq (.ret (.lit (.bool false))) <|
    .nop)
    .nop) <|
   (.seq (.ifS (.bop true (.cons (.cmp .eq (.attr (.var 5) (S "last_goal")) (.attr (.var 6) (S "last_goal"))) (.cons (.cmp .lt (.attr (.var 5) (S "var")) (.attr (.var 6) (S "var"))) (.cons (.cmp .gt (.attr (.var 5) (S "slot")) (.attr (.var 6) (S "slot"))) .nil))))
    (.seq (.ret (.lit (.bool false))) <|
    .nop)
    .nop) <|
   .nop))) <|
  .nop)) <|
 (.seq (.ret (.call (S "check_goals") (.cons (.var 0) (.cons (.var 1) (.cons (.var 2) .nil))))) <|
 .nop))))))))
noncomputable def b_check_variable:PS:=
 (.seq (.asg 4 (.call (S "crosses_call") (.cons (.var 0) (.cons (.var 2) .nil)))) <|
 (.seq (.ifS (.bop false (.cons (.cmp .ne (.attr (.var 3) (S "var")) (.var 1)) (.cons (.cmp .ne (.attr (.var 3) (S "first")) (.call (S "first_word") (.cons (.var 2) .nil))) .nil)))
  (.seq (.ret (.lit (.bool false))) <|
  .nop)
  .nop) <|
 (.seq (.ifS (.cmp .ne (.attr (.var 3) (S "last_goal")) (.bi .max (.cons (.comp (.idx (.var 5) (.lit (.int (0)))) (.var 2) (.lit (.bool true))) .nil)))
  (.seq (.ret (.lit (.bool false))) <|
  .nop)
  .nop) <|
 (.seq (.ifS (.cmp .ne (.cmp .eq (.attr (.var 3) (S "kind")) (.lit (.str (S "void")))) (.cmp .eq (.bi .len (.cons (.var 2) .nil)) (.lit (.int (1)))))
  (.seq (.ret (.lit (.bool false))) <|
  .nop)
  .nop) <|
 (.seq (.ifS (.cmp .ne (.cmp .eq (.attr (.var 3) (S "kind")) (.lit (.str (S "perm")))) (.var 4))
  (.seq (.ret (.lit (.bool false))) <|
  .nop)
  .nop) <|
 (.seq (.ifS (.cmp .notin (.attr (.var 3) (S "kind")) (.tup (.cons (.lit (.str (S "void"))) (.cons (.lit (.str (S "perm"))) (.cons (.lit (.str (S "temp"))) .nil)))))
  (.seq (.ret (.lit (.bool false))) <|
  .nop)
  .nop) <|
 (.seq (.ifS (.bop true (.cons (.cmp .ne (.attr (.var 3) (S "kind")) (.lit (.str (S "perm")))) (.cons (.bop false (.cons (.cmp .ne (.attr (.var 3) (S "slot")) (.lit (.int (0)))) (.cons (.attr (.var 3) (S "unsafe")) .nil))) .nil)))
  (.seq (.ret (.lit (.bool false))) <|
  .nop)
  .nop) <|
 (.seq (.ret (.bop false (.cons (.cmp .ne (.attr (.var 3) (S "kind")) (.lit (.str (S "perm")))) (.cons (.cmp .eq (.attr (.var 3) (S "unsafe")) (.cmp .eq (.attr (.var 3) (S "first")) (.lit (.str (S "goal_arg"))))) .nil)))) <|
 .nop))))))))
noncomputable def b_first_word:PS:=
 (.seq (.asg 1 (.idx (.var 0) (.lit (.int (0))))) <|
 (.seq (.forS [2] true false (.var 0)
  (.seq (.ifS (.cmp .lt (.idx (.var 2) (.lit (.int (0)))) (.idx (.var 1) (.lit (.int (0)))))
   (.seq (.asg 1 (.var 2)) <|
   .nop)
   .nop) <|
  .nop)) <|
 (.seq (.ret (.idx (.var 1) (.lit (.int (1))))) <|
 .nop)))
noncomputable def b_check_goals:PS:=
 (.seq (.asg 3 (.attr (.var 0) (S "goals"))) <|
 (.seq (.ifS (.bop false (.cons (.cmp .ne (.bi .len (.cons (.attr (.var 1) (S "chunks")) .nil)) (.bi .len (.cons (.var 3) .nil))) (.cons (.cmp .ne (.bi .len (.cons (.attr (.var 1) (S "live_after")) .nil)) (.bi .len (.cons (.var 3) .nil))) .nil)))
  (.seq (.ret (.lit (.bool false))) <|
  .nop)
  .nop) <|
 (.seq (.asg 4 (.lit (.bool false))) <|
 (.seq (.forS [5] true false (.bi .range (.cons (.bi .len (.cons (.var 3) .nil)) .nil))
  (.seq (.asg 6 (.lit (.int (0)))) <|
  (.seq (.forS [7] true false (.bi .range (.cons (.var 5) .nil))
   (.seq (.ifS (.cmp .eq (.idx (.idx (.var 3) (.var 7)) (.lit (.int (0)))) (.lit (.str (S "call"))))
    (.seq (.augV 6 .add (.lit (.int (1)))) <|
    .nop)
    .nop) <|
   .nop)) <|
  (.seq (.ifS (.cmp .ne (.idx (.attr (.var 1) (S "chunks")) (.var 5)) (.var 6))
   (.seq (.ret (.lit (.bool false))) <|
   .nop)
   .nop) <|
  (.seq (.ifS (.bop true (.cons (.cmp .eq (.idx (.idx (.var 3) (.var 5)) (.lit (.int (0)))) (.lit (.str (S "call")))) (.cons (.cmp .ne (.var 5) (.bin .sub (.bi .len (.cons (.var 3) .nil)) (.lit (.int (1))))) .nil)))
   (.seq (.asg 4 (.lit (.bool true))) <|
   .nop)
   .nop) <|
  (.seq (.forS [8] true false (.var 2)
   (.seq (.asg 9 (.idx (.attr (.var 1) (S "infos")) (.var 8))) <|
   (.seq (.ifS (.cmp .eq (.attr (.var 9) (S "kind")) (.lit (.str (S "perm"))))
    (.seq (.asg 10 (.lit (.bool false))) <|
    (.seq (.forS [11] true false (.idx (.var 2) (.var 8))
     (.seq (.ifS (.cmp .gt (.idx (.var 11) (.lit (.int (0)))) (.var 5))
      (.seq (.asg 10 (.lit (.bool true))) <|
      .nop)
      .nop) <|
     .nop)) <|
    (.seq (.ifS (.cmp .ne (.var 10) (.cmp .le (.attr (.var 9) (S "slot")) (.idx (.attr (.var 1) (S "live_after")) (.var 5))))
     (.seq (.ret (.lit (.bool false))) <|
     .nop)
     .nop) <|
    .nop)))
    .nop) <|
   .nop))) <|
  (.seq (.ifS (.bop false (.cons (.cmp .lt (.idx (.attr (.var 1) (S "live_after")) (.var 5)) (.lit (.int (0)))) (.cons (.cmp .gt (.idx (.attr (.var 1) (S "live_after")) (.var 5)) (.attr (.var 1) (S "env_size"))) .nil)))
   (.seq (.ret (.lit (.bool false))) <|
   .nop)
   .nop) <|
  .nop))))))) <|
 (.seq (.ret (.cmp .eq (.attr (.var 1) (S "needs_env")) (.var 4))) <|
 .nop)))))
noncomputable def b__law_row:PS:=
 (.seq (.asg 1 (.list .nil)) <|
 (.seq (.forS [2] true false (.slc (.var 0) (.lit (.int (40))))
  (.seq (.asg 3 (.ite (.cmp .ge (.var 2) (.lit (.int (0)))) (.var 2) (.bin .sub (.lit (.int (7))) (.var 2)))) <|
  (.seq (.expr (.bm (.var 1) .append (.cons (.bin .mod (.var 3) (.lit (.int (1013)))) .nil))) <|
  (.seq (.asg 3 (.bin .fdiv (.var 3) (.lit (.int (1013))))) <|
  (.seq (.forS [4] true false (.bi .range (.cons (.lit (.int (30))) .nil))
   (.seq (.ifS (.cmp .gt (.var 3) (.lit (.int (0))))
    (.seq (.expr (.bm (.var 1) .append (.cons (.bin .mod (.var 3) (.lit (.int (1013)))) .nil))) <|
    (.seq (.asg 3 (.bin .fdiv (.var 3) (.lit (.int (1013))))) <|
    .nop))
    .nop) <|
   .nop)) <|
  .nop))))) <|
 (.seq (.asg 1 (.slc (.var 1) (.lit (.int (120))))) <|
 (.seq (.expr (.bm (.var 1) .reverse .nil)) <|
 (.seq (.ret (.var 1)) <|
 .nop)))))
noncomputable def b__law_next:PS:=
 (.seq (.ret (.ite (.cmp .ne (.var 0) (.list .nil)) (.bm (.var 0) .pop .nil) (.lit (.int (0))))) <|
 .nop)
noncomputable def b__law_term:PS:=
 (.seq (.asg 2 (.bin .mod (.call (S "_law_next") (.cons (.var 0) .nil)) (.ite (.cmp .gt (.var 1) (.lit (.int (0)))) (.lit (.int (8))) (.lit (.int (4)))))) <|
 (.seq (.ifS (.cmp .eq (.var 2) (.lit (.int (1))))
  (.seq (.ret (.tup (.cons (.lit (.str (S "a"))) (.cons (.idx (.list (.cons (.lit (.int (0))) (.cons (.lit (.int (4))) .nil))) (.bin .mod (.call (S "_law_next") (.cons (.var 0) .nil)) (.lit (.int (2))))) .nil)))) <|
  .nop)
  .nop) <|
 (.seq (.ifS (.cmp .eq (.var 2) (.lit (.int (2))))
  (.seq (.ret (.tup (.cons (.lit (.str (S "i"))) (.cons (.idx (.list (.cons (.lit (.int (0))) (.cons (.lit (.int (1))) (.cons (.neg (.lit (.int (1)))) (.cons (.bin .pow (.lit (.int (10))) (.lit (.int (30)))) .nil))))) (.bin .mod (.call (S "_law_next") (.cons (.var 0) .nil)) (.lit (.int (4))))) .nil)))) <|
  .nop)
  .nop) <|
 (.seq (.ifS (.cmp .eq (.var 2) (.lit (.int (4))))
  (.seq (.ret (.tup (.cons (.lit (.str (S "s"))) (.cons (.lit (.int (12))) (.cons (.tup (.cons (.call (S "_law_term") (.cons (.var 0) (.cons (.bin .sub (.var 1) (.lit (.int (1)))) .nil))) .nil)) .nil))))) <|
  .nop)
  .nop) <|
 (.seq (.ifS (.cmp .gt (.var 2) (.lit (.int (4))))
  (.seq (.asg 3 (.call (S "_law_term") (.cons (.var 0) (.cons (.bin .sub (.var 1) (.lit (.int (1)))) .nil)))) <|
  (.seq (.ret (.tup (.cons (.lit (.str (S "s"))) (.cons (.ite (.cmp .eq (.var 2) (.lit (.int (7)))) (.lit (.int (0))) (.lit (.int (13)))) (.cons (.tup (.cons (.var 3) (.cons (.call (S "_law_term") (.cons (.var 0) (.cons (.bin .sub (.var 1) (.lit (.int (1)))) .nil))) .nil))) .nil))))) <|
  .nop))
  .nop) <|
 (.seq (.ret (.tup (.cons (.lit (.str (S "v"))) (.cons (.bin .mod (.call (S "_law_next") (.cons (.var 0) .nil)) (.lit (.int (6)))) .nil)))) <|
 .nop))))))
noncomputable def b__law_terms:PS:=
 (.seq (.ret (.comp (.call (S "_law_term") (.cons (.var 0) (.cons (.lit (.int (2))) .nil))) (.bi .range (.cons (.var 1) .nil)) (.lit (.bool true)))) <|
 .nop)
noncomputable def b__law_goals:PS:=
 (.seq (.asg 2 (.list .nil)) <|
 (.seq (.ifS (.cmp .eq (.bin .mod (.call (S "_law_next") (.cons (.var 0) .nil)) (.lit (.int (3)))) (.lit (.int (1))))
  (.seq (.expr (.bm (.var 2) .append (.cons (.tup (.cons (.lit (.str (S "level"))) (.cons (.lit (.int (20))) .nil))) .nil))) <|
  (.seq (.expr (.bm (.var 1) .append (.cons (.lit (.int (20))) .nil))) <|
  .nop))
  .nop) <|
 (.seq (.asg 3 (.lit (.bool false))) <|
 (.seq (.forS [4] true false (.bi .range (.cons (.bin .mod (.call (S "_law_next") (.cons (.var 0) .nil)) (.lit (.int (9)))) .nil))
  (.seq (.asg 5 (.bin .mod (.call (S "_law_next") (.cons (.var 0) .nil)) (.lit (.int (8))))) <|
  (.seq (.ifS (.cmp .eq (.var 5) (.lit (.int (2))))
   (.seq (.expr (.bm (.var 2) .append (.cons (.tup (.cons (.lit (.str (S "builtin"))) (.cons (.lit (.int (13))) (.cons (.bi .tuple (.cons (.call (S "_law_terms") (.cons (.var 0) (.cons (.bin .add (.lit (.int (1))) (.bin .mod (.call (S "_law_next") (.cons (.var 0) .nil)) (.lit (.int (2))))) .nil))) .nil)) .nil)))) .nil))) <|
   .nop)
   (.seq (.ifS (.cmp .eq (.var 5) (.lit (.int (3))))
    (.seq (.asg 6 (.call (S "_law_term") (.cons (.var 0) (.cons (.lit (.int (2))) .nil)))) <|
    (.seq (.expr (.bm (.var 2) .append (.cons (.tup (.cons (.lit (.str (S "unify"))) (.cons (.var 6) (.cons (.call (S "_law_term") (.cons (.var 0) (.cons (.lit (.int (2))) .nil))) .nil)))) .nil))) <|
    .nop))
    (.seq (.ifS (.bop true (.cons (.cmp .eq (.var 5) (.lit (.int (4)))) (.cons (.cmp .ne (.var 1) (.list .nil)) .nil)))
     (.seq (.expr (.bm (.var 2) .append (.cons (.tup (.cons (.lit (.str (S "cutto"))) (.cons (.idx (.var 1) (.bin .mod (.call (S "_law_next") (.cons (.var 0) .nil)) (.bi .len (.cons (.var 1) .nil)))) .nil))) .nil))) <|
     .nop)
     (.seq (.ifS (.bop true (.cons (.cmp .eq (.var 5) (.lit (.int (4)))) (.cons (.not (.var 3)) .nil)))
      (.seq (.expr (.bm (.var 2) .append (.cons (.tup (.cons (.lit (.str (S "cut"))) .nil)) .nil))) <|
      .nop)
      (.seq (.ifS (.cmp .eq (.var 5) (.lit (.int (5))))
       (.seq (.expr (.bm (.var 2) .append (.cons (.tup (.cons (.lit (.str (S "mark"))) (.cons (.bin .add (.lit (.int (21))) (.var 4)) .nil))) .nil))) <|
       (.seq (.expr (.bm (.var 1) .append (.cons (.bin .add (.lit (.int (21))) (.var 4)) .nil))) <|
       .nop))
       (.seq (.ifS (.cmp .eq (.var 5) (.lit (.int (7))))
        (.seq (.expr (.bm (.var 2) .append (.cons (.tup (.cons (.lit (.str (S "fail"))) .nil)) .nil))) <|
        .nop)
        (.seq (.asg 7 (.comp (.call (S "_law_term") (.cons (.var 0) (.cons (.lit (.int (1))) .nil))) (.bi .range (.cons (.bin .mod (.call (S "_law_next") (.cons (.var 0) .nil)) (.lit (.int (5)))) .nil)) (.lit (.bool true)))) <|
        (.seq (.ifS (.bop true (.cons (.cmp .eq (.var 5) (.lit (.int (6)))) (.cons (.cmp .ne (.var 1) (.list .nil)) .nil)))
         (.seq (.expr (.bm (.var 7) .append (.cons (.tup (.cons (.lit (.str (S "v"))) (.cons (.idx (.var 1) (.bin .mod (.call (S "_law_next") (.cons (.var 0) .nil)) (.bi .len (.cons (.var 1) .nil)))) .nil))) .nil))) <|
         .nop)
         .nop) <|
        (.seq (.expr (.bm (.var 2) .append (.cons (.tup (.cons (.lit (.str (S "call"))) (.cons (.lit (.int (0))) (.cons (.bi .tuple (.cons (.var 7) .nil)) .nil)))) .nil))) <|
        (.seq (.asg 3 (.lit (.bool true))) <|
        .nop))))) <|
       .nop)) <|
      .nop)) <|
     .nop)) <|
    .nop)) <|
   .nop)) <|
  .nop))) <|
 (.seq (.ret (.var 2)) <|
 .nop)))))
noncomputable def b__law_number:PS:=
 (.seq (.ifS (.cmp .notin (.var 0) (.var 1))
  (.seq (.asgI (.var 1) (.var 0) (.bi .len (.cons (.var 1) .nil))) <|
  .nop)
  .nop) <|
 (.seq (.ret (.idx (.var 1) (.var 0))) <|
 .nop))
noncomputable def b__law_renamed:PS:=
 (.seq (.ifS (.cmp .eq (.idx (.var 0) (.lit (.int (0)))) (.lit (.str (S "v"))))
  (.seq (.ret (.tup (.cons (.lit (.str (S "v"))) (.cons (.call (S "_law_number") (.cons (.idx (.var 0) (.lit (.int (1)))) (.cons (.var 1) .nil))) .nil)))) <|
  .nop)
  .nop) <|
 (.seq (.ifS (.cmp .eq (.idx (.var 0) (.lit (.int (0)))) (.lit (.str (S "s"))))
  (.seq (.ret (.tup (.cons (.lit (.str (S "s"))) (.cons (.idx (.var 0) (.lit (.int (1)))) (.cons (.bi .tuple (.cons (.comp (.call (S "_law_renamed") (.cons (.var 2) (.cons (.var 1) .nil))) (.idx (.var 0) (.lit (.int (2)))) (.lit (.bool true))) .nil)) .nil))))) <|
  .nop)
  .nop) <|
 (.seq (.ret (.var 0)) <|
 .nop)))
noncomputable def b__law_kernel:PS:=
 (.seq (.asg 1 (.call (S "_law_terms") (.cons (.var 0) (.cons (.bin .mod (.call (S "_law_next") (.cons (.var 0) .nil)) (.lit (.int (4)))) .nil)))) <|
 (.seq (.asg 2 (.list .nil)) <|
 (.seq (.ifS (.cmp .eq (.bin .mod (.call (S "_law_next") (.cons (.var 0) .nil)) (.lit (.int (4)))) (.lit (.int (1))))
  (.seq (.expr (.bm (.var 1) .append (.cons (.tup (.cons (.lit (.str (S "v"))) (.cons (.lit (.int (30))) .nil))) .nil))) <|
  (.seq (.expr (.bm (.var 2) .append (.cons (.lit (.int (30))) .nil))) <|
  .nop))
  .nop) <|
 (.seq (.asg 3 (.call (S "_law_goals") (.cons (.var 0) (.cons (.var 2) .nil)))) <|
 (.seq (.asg 4 .dict0) <|
 (.seq (.asg 1 (.comp (.call (S "_law_renamed") (.cons (.var 8) (.cons (.var 4) .nil))) (.var 1) (.lit (.bool true)))) <|
 (.seq (.asg 5 (.list .nil)) <|
 (.seq (.forS [6] true false (.var 3)
  (.seq (.ifS (.cmp .isin (.idx (.var 6) (.lit (.int (0)))) (.tup (.cons (.lit (.str (S "level"))) (.cons (.lit (.str (S "mark"))) (.cons (.lit (.str (S "cutto"))) .nil)))))
   (.seq (.expr (.bm (.var 5) .append (.cons (.tup (.cons (.idx (.var 6) (.lit (.int (0)))) (.cons (.call (S "_law_number") (.cons (.idx (.var 6) (.lit (.int (1)))) (.cons (.var 4) .nil))) .nil))) .nil))) <|
   .nop)
   (.seq (.ifS (.cmp .eq (.idx (.var 6) (.lit (.int (0)))) (.lit (.str (S "unify"))))
    (.seq (.asg 7 (.call (S "_law_renamed") (.cons (.idx (.var 6) (.lit (.int (1)))) (.cons (.var 4) .nil)))) <|
    (.seq (.expr (.bm (.var 5) .append (.cons (.tup (.cons (.lit (.str (S "unify"))) (.cons (.var 7) (.cons (.call (S "_law_renamed") (.cons (.idx (.var 6) (.lit (.int (2)))) (.cons (.var 4) .nil))) .nil)))) .nil))) <|
    .nop))
    (.seq (.ifS (.cmp .isin (.idx (.var 6) (.lit (.int (0)))) (.tup (.cons (.lit (.str (S "call"))) (.cons (.lit (.str (S "builtin"))) .nil))))
     (.seq (.expr (.bm (.var 5) .append (.cons (.tup (.cons (.idx (.var 6) (.lit (.int (0)))) (.cons (.idx (.var 6) (.lit (.int (1)))) (.cons (.bi .tuple (.cons (.comp (.call (S "_law_renamed") (.cons (.var 8) (.cons (.var 4) .nil))) (.idx (.var 6) (.lit (.int (2)))) (.lit (.bool true))) .nil)) .nil)))) .nil))) <|
     .nop)
     (.seq (.expr (.bm (.var 5) .append (.cons (.var 6) .nil))) <|
     .nop)) <|
    .nop)) <|
   .nop)) <|
  .nop)) <|
 (.seq (.ret (.new (S "KernelClause") (.cons (.lit (.int (0))) (.cons (.bi .tuple (.cons (.var 1) .nil)) (.cons (.var 5) (.cons (.bi .len (.cons (.var 4) .nil)) .nil)))))) <|
 .nop)))))))))
noncomputable def b__law_places:PS:=
 (.seq (.asg 1 (.list .nil)) <|
 (.seq (.forS [2] true false (.bi .range (.cons (.attr (.var 0) (S "count")) .nil))
  (.seq (.expr (.bm (.var 1) .append (.cons (.list .nil) .nil))) <|
  .nop)) <|
 (.seq (.asg 3 (.list (.cons (.tup (.cons (.neg (.lit (.int (1)))) (.cons (.lit (.int (0))) (.cons (.lit (.str (S "head"))) (.cons (.bi .list (.cons (.attr (.var 0) (S "args")) .nil)) .nil))))) .nil))) <|
 (.seq (.asg 4 (.lit (.int (0)))) <|
 (.seq (.forS [5] true false (.bi .range (.cons (.bi .len (.cons (.attr (.var 0) (S "goals")) .nil)) .nil))
  (.seq (.asg 6 (.idx (.attr (.var 0) (S "goals")) (.var 5))) <|
  (.seq (.ifS (.cmp .isin (.idx (.var 6) (.lit (.int (0)))) (.tup (.cons (.lit (.str (S "level"))) (.cons (.lit (.str (S "mark"))) (.cons (.lit (.str (S "cutto"))) .nil)))))
   (.seq (.expr (.bm (.var 3) .append (.cons (.tup (.cons (.var 5) (.cons (.var 4) (.cons (.lit (.str (S "special"))) (.cons (.list (.cons (.tup (.cons (.lit (.str (S "v"))) (.cons (.idx (.var 6) (.lit (.int (1)))) .nil))) .nil)) .nil))))) .nil))) <|
   .nop)
   (.seq (.ifS (.cmp .eq (.idx (.var 6) (.lit (.int (0)))) (.lit (.str (S "unify"))))
    (.seq (.expr (.bm (.var 3) .append (.cons (.tup (.cons (.var 5) (.cons (.var 4) (.cons (.lit (.str (S "goal"))) (.cons (.list (.cons (.idx (.var 6) (.lit (.int (1)))) (.cons (.idx (.var 6) (.lit (.int (2)))) .nil))) .nil))))) .nil))) <|
    .nop)
    (.seq (.ifS (.cmp .isin (.idx (.var 6) (.lit (.int (0)))) (.tup (.cons (.lit (.str (S "call"))) (.cons (.lit (.str (S "builtin"))) .nil))))
     (.seq (.expr (.bm (.var 3) .append (.cons (.tup (.cons (.var 5) (.cons (.var 4) (.cons (.lit (.str (S "goal"))) (.cons (.bi .list (.cons (.idx (.var 6) (.lit (.int (2)))) .nil)) .nil))))) .nil))) <|
     .nop)
     .nop) <|
    .nop)) <|
   .nop)) <|
  (.seq (.ifS (.cmp .eq (.idx (.var 6) (.lit (.int (0)))) (.lit (.str (S "call"))))
   (.seq (.augV 4 .add (.lit (.int (1)))) <|
   .nop)
   .nop) <|
  .nop)))) <|
 (.seq (.forS [5,4,7,8] false false (.var 3)
  (.seq (.asg 10 (.comp (.tup (.cons (.var 12) (.cons (.ite (.cmp .eq (.var 7) (.lit (.str (S "special")))) (.var 7) (.bin .add (.var 7) (.lit (.str (S "_arg"))))) .nil))) (.var 8) (.lit (.bool true)))) <|
  (.seq (.whl (.cmp .ne (.var 10) (.list .nil))
   (.seq (.asgT [9,11] (.bm (.var 10) .pop (.cons (.lit (.int (0))) .nil))) <|
   (.seq (.ifS (.cmp .eq (.idx (.var 9) (.lit (.int (0)))) (.lit (.str (S "v"))))
    (.seq (.expr (.bm (.idx (.var 1) (.idx (.var 9) (.lit (.int (1))))) .append (.cons (.tup (.cons (.var 5) (.cons (.var 4) (.cons (.var 11) .nil)))) .nil))) <|
    .nop)
    (.seq (.ifS (.cmp .eq (.idx (.var 9) (.lit (.int (0)))) (.lit (.str (S "s"))))
     (.seq (.asg 10 (.bin .add (.comp (.tup (.cons (.var 12) (.cons (.bin .add (.var 7) (.lit (.str (S "_struct")))) .nil))) (.idx (.var 9) (.lit (.int (2)))) (.lit (.bool true))) (.var 10))) <|
     .nop)
     .nop) <|
    .nop)) <|
   .nop))) <|
  .nop))) <|
 (.seq (.ret (.var 1)) <|
 .nop)))))))
noncomputable def b__law_homes:PS:=
 (.seq (.asg 1 .dict0) <|
 (.seq (.forS [2] true false (.bi .range (.cons (.bi .len (.cons (.var 0) .nil)) .nil))
  (.seq (.ifS (.cmp .ne (.idx (.idx (.idx (.var 0) (.var 2)) (.lit (.int (0)))) (.lit (.int (1)))) (.idx (.idx (.idx (.var 0) (.var 2)) (.neg (.lit (.int (1))))) (.lit (.int (1)))))
   (.seq (.asgI (.var 1) (.var 2) (.lit (.int (1)))) <|
   .nop)
   .nop) <|
  .nop)) <|
 (.seq (.forS [2] true false (.var 1)
  (.seq (.asg 3 (.idx (.idx (.idx (.var 0) (.var 2)) (.neg (.lit (.int (1))))) (.lit (.int (0))))) <|
  (.seq (.forS [4] true false (.var 1)
   (.seq (.asg 5 (.idx (.idx (.idx (.var 0) (.var 4)) (.neg (.lit (.int (1))))) (.lit (.int (0))))) <|
   (.seq (.ifS (.bop false (.cons (.cmp .gt (.var 5) (.var 3)) (.cons (.bop true (.cons (.cmp .eq (.var 5) (.var 3)) (.cons (.cmp .lt (.var 4) (.var 2)) .nil))) .nil)))
    (.seq (.augI (.var 1) (.var 2) .add (.lit (.int (1)))) <|
    .nop)
    .nop) <|
   .nop))) <|
  .nop))) <|
 (.seq (.ret (.var 1)) <|
 .nop))))
noncomputable def b__law_swapped:PS:=
 (.seq (.asg 2 (.bi .min (.cons (.var 1) .nil))) <|
 (.seq (.asg 3 (.bi .max (.cons (.var 1) .nil))) <|
 (.seq (.forS [4] true false (.var 1)
  (.seq (.forS [5] true false (.var 1)
   (.seq (.ifS (.bop true (.cons (.cmp .lt (.var 4) (.var 5)) (.cons (.cmp .eq (.attr (.idx (.attr (.var 0) (S "infos")) (.var 4)) (S "last_goal")) (.attr (.idx (.attr (.var 0) (S "infos")) (.var 5)) (S "last_goal"))) .nil)))
    (.seq (.asg 2 (.var 4)) <|
    (.seq (.asg 3 (.var 5)) <|
    .nop))
    .nop) <|
   .nop)) <|
  .nop)) <|
 (.seq (.asg 6 (.attr (.idx (.attr (.var 0) (S "infos")) (.var 2)) (S "slot"))) <|
 (.seq (.asgA (.idx (.attr (.var 0) (S "infos")) (.var 2)) (S "slot") (.attr (.idx (.attr (.var 0) (S "infos")) (.var 3)) (S "slot"))) <|
 (.seq (.asgA (.idx (.attr (.var 0) (S "infos")) (.var 3)) (S "slot") (.var 6)) <|
 .nop))))))
noncomputable def b__law_spoiled:PS:=
 (.seq (.ifS (.cmp .eq (.var 1) (.lit (.int (0))))
  (.seq (.augA (.var 0) (S "env_size") .add (.lit (.int (1)))) <|
  .nop)
  (.seq (.ifS (.cmp .eq (.var 1) (.lit (.int (1))))
   (.seq (.asgA (.var 0) (S "needs_env") (.not (.attr (.var 0) (S "needs_env")))) <|
   .nop)
   (.seq (.ifS (.cmp .eq (.var 1) (.lit (.int (2))))
    (.seq (.expr (.bm (.attr (.var 0) (S "chunks")) .append (.cons (.lit (.int (0))) .nil))) <|
    .nop)
    (.seq (.ifS (.cmp .eq (.var 1) (.lit (.int (3))))
     (.seq (.expr (.bm (.attr (.var 0) (S "live_after")) .append (.cons (.lit (.int (0))) .nil))) <|
     .nop)
     (.seq (.ifS (.bop true (.cons (.cmp .eq (.var 1) (.lit (.int (4)))) (.cons (.cmp .ge (.var 3) (.lit (.int (0)))) .nil)))
      (.seq (.augI (.attr (.var 0) (S "chunks")) (.var 3) .add (.lit (.int (1)))) <|
      .nop)
      (.seq (.ifS (.bop true (.cons (.cmp .eq (.var 1) (.lit (.int (5)))) (.cons (.cmp .ge (.var 3) (.lit (.int (0)))) .nil)))
       (.seq (.augI (.attr (.var 0) (S "live_after")) (.var 3) .add (.lit (.int (1)))) <|
       .nop)
       (.seq (.ifS (.bop true (.cons (.cmp .eq (.var 1) (.lit (.int (6)))) (.cons (.cmp .ge (.var 3) (.lit (.int (0)))) .nil)))
        (.seq (.augI (.attr (.var 0) (S "live_after")) (.var 3) .sub (.lit (.int (1)))) <|
        .nop)
        (.seq (.ifS (.cmp .lt (.var 2) (.lit (.int (0))))
         (.seq (.augA (.var 0) (S "env_size") .sub (.lit (.int (1)))) <|
         .nop)
         (.seq (.ifS (.cmp .eq (.var 1) (.lit (.int (7))))
          (.seq (.augA (.idx (.attr (.var 0) (S "infos")) (.var 2)) (S "last_goal") .add (.lit (.int (1)))) <|
          .nop)
          (.seq (.ifS (.cmp .eq (.var 1) (.lit (.int (8))))
           (.seq (.asgA (.idx (.attr (.var 0) (S "infos")) (.var 2)) (S "unsafe") (.not (.attr (.idx (.attr (.var 0) (S "infos")) (.var 2)) (S "unsafe")))) <|
           .nop)
           (.seq (.ifS (.bop true (.cons (.cmp .eq (.var 1) (.lit (.int (9)))) (.cons (.cmp .gt (.bi .len (.cons (.var 4) .nil)) (.lit (.int (1)))) .nil)))
            (.seq (.expr (.call (S "_law_swapped") (.cons (.var 0) (.cons (.var 4) .nil)))) <|
            .nop)
            (.seq (.ifS (.cmp .eq (.var 1) (.lit (.int (10))))
             (.seq (.augA (.idx (.attr (.var 0) (S "infos")) (.var 2)) (S "var") .add (.lit (.int (1)))) <|
             .nop)
             (.seq (.ifS (.cmp .eq (.var 1) (.lit (.int (11))))
              (.seq (.asgA (.idx (.attr (.var 0) (S "infos")) (.var 2)) (S "first") (.ite (.cmp .ne (.attr (.idx (.attr (.var 0) (S "infos")) (.var 2)) (S "first")) (.lit (.str (S "special")))) (.lit (.str (S "special"))) (.lit (.str (S "goal_arg"))))) <|
              .nop)
              (.seq (.ifS (.cmp .eq (.var 1) (.lit (.int (12))))
               (.seq (.expr (.bm (.attr (.var 0) (S "infos")) .pop (.cons (.var 2) .nil))) <|
               .nop)
               (.seq (.ifS (.cmp .eq (.var 1) (.lit (.int (13))))
                (.seq (.asgA (.idx (.attr (.var 0) (S "infos")) (.var 2)) (S "kind") (.lit (.str (S "slot")))) <|
                .nop)
                (.seq (.ifS (.cmp .eq (.var 1) (.lit (.int (14))))
                 (.seq (.asgA (.idx (.attr (.var 0) (S "infos")) (.var 2)) (S "kind") (.ite (.cmp .eq (.attr (.idx (.attr (.var 0) (S "infos")) (.var 2)) (S "kind")) (.lit (.str (S "temp")))) (.lit (.str (S "void"))) (.lit (.str (S "temp"))))) <|
                 .nop)
                 (.seq (.augA (.idx (.attr (.var 0) (S "infos")) (.var 2)) (S "slot") .add (.lit (.int (1)))) <|
                 .nop)) <|
                .nop)) <|
               .nop)) <|
              .nop)) <|
             .nop)) <|
            .nop)) <|
           .nop)) <|
          .nop)) <|
         .nop)) <|
        .nop)) <|
       .nop)) <|
      .nop)) <|
     .nop)) <|
    .nop)) <|
   .nop)) <|
  .nop)) <|
 .nop)
noncomputable def b_law:PS:=
 (.seq (.asg 1 (.call (S "_law_row") (.cons (.var 0) .nil))) <|
 (.seq (.asg 2 (.call (S "_law_kernel") (.cons (.var 1) .nil))) <|
 (.seq (.asg 3 (.bi .list (.cons (.attr (.var 2) (S "goals")) .nil))) <|
 (.seq (.asg 4 (.call (S "_law_places") (.cons (.var 2) .nil))) <|
 (.seq (.asg 15 (.call (S "_law_homes") (.cons (.var 4) .nil))) <|
 (.seq (.asg 5 (.call (S "classify") (.cons (.var 2) .nil))) <|
 (.seq (.ifS (.cmp .ne (.bi .sorted (.cons (.attr (.var 5) (S "infos")) .nil)) (.bi .list (.cons (.bi .range (.cons (.attr (.var 2) (S "count")) .nil)) .nil)))
  (.seq (.ret (.lit (.bool false))) <|
  .nop)
  .nop) <|
 (.seq (.forS [6] true false (.bi .range (.cons (.attr (.var 2) (S "count")) .nil))
  (.seq (.asg 7 (.idx (.attr (.var 5) (S "infos")) (.var 6))) <|
  (.seq (.asg 8 (.ite (.cmp .eq (.bi .len (.cons (.idx (.var 4) (.var 6)) .nil)) (.lit (.int (1)))) (.lit (.str (S "void"))) (.ite (.cmp .isin (.var 6) (.var 15)) (.lit (.str (S "perm"))) (.lit (.str (S "temp")))))) <|
  (.seq (.ifS (.cmp .ne (.tup (.cons (.attr (.var 7) (S "var")) (.cons (.attr (.var 7) (S "kind")) (.cons (.attr (.var 7) (S "first")) .nil)))) (.tup (.cons (.var 6) (.cons (.var 8) (.cons (.idx (.idx (.idx (.var 4) (.var 6)) (.lit (.int (0)))) (.lit (.int (2)))) .nil)))))
   (.seq (.ret (.lit (.bool false))) <|
   .nop)
   .nop) <|
  (.seq (.ifS (.bop false (.cons (.cmp .ne (.attr (.var 7) (S "slot")) (.bm (.var 15) .get (.cons (.var 6) (.cons (.lit (.int (0))) .nil)))) (.cons (.cmp .ne (.attr (.var 7) (S "last_goal")) (.idx (.idx (.idx (.var 4) (.var 6)) (.neg (.lit (.int (1))))) (.lit (.int (0))))) .nil)))
   (.seq (.ret (.lit (.bool false))) <|
   .nop)
   .nop) <|
  (.seq (.ifS (.cmp .ne (.attr (.var 7) (S "unsafe")) (.bop true (.cons (.cmp .isin (.var 6) (.var 15)) (.cons (.cmp .eq (.idx (.idx (.idx (.var 4) (.var 6)) (.lit (.int (0)))) (.lit (.int (2)))) (.lit (.str (S "goal_arg")))) .nil))))
   (.seq (.ret (.lit (.bool false))) <|
   .nop)
   .nop) <|
  (.seq (.ifS (.bop false (.cons (.cmp .ne (.meth (.var 5) (S "is_perm") (.cons (.var 6) .nil)) (.cmp .isin (.var 6) (.var 15))) (.cons (.cmp .ne (.meth (.var 5) (S "is_void") (.cons (.var 6) .nil)) (.cmp .eq (.bi .len (.cons (.idx (.var 4) (.var 6)) .nil)) (.lit (.int (1))))) (.cons (.cmp .ne (.attr (.meth (.var 5) (S "info") (.cons (.var 6) .nil)) (S "var")) (.var 6)) .nil))))
   (.seq (.ret (.lit (.bool false))) <|
   .nop)
   .nop) <|
  .nop))))))) <|
 (.seq (.asg 10 (.comp (.bi .len (.cons (.comp (.var 17) (.slc (.var 3) (.var 16)) (.cmp .eq (.idx (.var 17) (.lit (.int (0)))) (.lit (.str (S "call"))))) .nil)) (.bi .range (.cons (.bi .len (.cons (.var 3) .nil)) .nil)) (.lit (.bool true)))) <|
 (.seq (.ifS (.bop false (.cons (.cmp .ne (.bi .list (.cons (.attr (.var 5) (S "chunks")) .nil)) (.var 10)) (.cons (.cmp .ne (.attr (.var 5) (S "env_size")) (.bi .len (.cons (.var 15) .nil))) .nil)))
  (.seq (.ret (.lit (.bool false))) <|
  .nop)
  .nop) <|
 (.seq (.ifS (.cmp .ne (.attr (.var 5) (S "needs_env")) (.cmp .gt (.bi .len (.cons (.comp (.var 16) (.slc (.var 3) (.neg (.lit (.int (1))))) (.cmp .eq (.idx (.var 16) (.lit (.int (0)))) (.lit (.str (S "call"))))) .nil)) (.lit (.int (0)))))
  (.seq (.ret (.lit (.bool false))) <|
  .nop)
  .nop) <|
 (.seq (.ifS (.cmp .ne (.bi .len (.cons (.attr (.var 5) (S "live_after")) .nil)) (.bi .len (.cons (.var 3) .nil)))
  (.seq (.ret (.lit (.bool false))) <|
  .nop)
  .nop) <|
 (.seq (.forS [9] true false (.bi .range (.cons (.bi .len (.cons (.var 3) .nil)) .nil))
  (.seq (.asg 11 (.comp (.idx (.var 15) (.var 16)) (.var 15) (.cmp .gt (.idx (.idx (.idx (.var 4) (.var 16)) (.neg (.lit (.int (1))))) (.lit (.int (0)))) (.var 9)))) <|
  (.seq (.ifS (.cmp .ne (.bi .sorted (.cons (.var 11) .nil)) (.bi .list (.cons (.bi .range (.cons (.lit (.int (1))) (.cons (.bin .add (.idx (.attr (.var 5) (S "live_after")) (.var 9)) (.lit (.int (1)))) .nil))) .nil)))
   (.seq (.ret (.lit (.bool false))) <|
   .nop)
   .nop) <|
  (.seq (.asg 12 (.comp (.var 16) (.var 15) (.cmp .eq (.idx (.idx (.idx (.var 4) (.var 16)) (.neg (.lit (.int (1))))) (.lit (.int (0)))) (.var 9)))) <|
  (.seq (.ifS (.cmp .ne (.meth (.var 5) (S "dying_at") (.cons (.var 9) .nil)) (.srtD (.var 12) 15))
   (.seq (.ret (.lit (.bool false))) <|
   .nop)
   .nop) <|
  .nop))))) <|
 (.seq (.ifS (.cmp .ne (.meth (.var 5) (S "perms") .nil) (.srtD (.var 15) 15))
  (.seq (.ret (.lit (.bool false))) <|
  .nop)
  .nop) <|
 (.seq (.ifS (.not (.call (S "check_plan") (.cons (.var 2) (.cons (.var 5) .nil))))
  (.seq (.ret (.lit (.bool false))) <|
  .nop)
  .nop) <|
 (.seq (.asg 13 (.bin .mod (.call (S "_law_next") (.cons (.var 1) .nil)) (.lit (.int (16))))) <|
 (.seq (.forS [14] true false (.bi .range (.cons (.lit (.int (4))) .nil))
  (.seq (.asg 6 (.ite (.cmp .gt (.attr (.var 2) (S "count")) (.lit (.int (0)))) (.bin .mod (.call (S "_law_next") (.cons (.var 1) .nil)) (.attr (.var 2) (S "count"))) (.neg (.lit (.int (1)))))) <|
  (.seq (.asg 9 (.ite (.cmp .ne (.var 3) (.list .nil)) (.bin .mod (.call (S "_law_next") (.cons (.var 1) .nil)) (.bi .len (.cons (.var 3) .nil))) (.neg (.lit (.int (1)))))) <|
  (.seq (.asg 5 (.call (S "classify") (.cons (.var 2) .nil))) <|
  (.seq (.expr (.call (S "_law_spoiled") (.cons (.var 5) (.cons (.bin .mod (.bin .add (.var 13) (.bin .mul (.lit (.int (5))) (.var 14))) (.lit (.int (16)))) (.cons (.var 6) (.cons (.var 9) (.cons (.var 15) .nil))))))) <|
  (.seq (.ifS (.call (S "check_plan") (.cons (.var 2) (.cons (.var 5) .nil)))
   (.seq (.ret (.lit (.bool false))) <|
   .nop)
   .nop) <|
  .nop)))))) <|
 (.seq (.ret (.lit (.bool true))) <|
 .nop))))))))))))))))))
noncomputable def P0:Top where
 fns:=[(S "variables",21),(S "variables_of",28),(S "occurrences",35),(S "goal_terms",63),(S "goal_special",70),(S "chunk_numbers",154),(S "kind_of",196),(S "slot_order",203),(S "classify",210),(S "places_of",217),(S "crosses_call",224),(S "check_plan",229),(S "check_variable",234),(S "first_word",241),(S "check_goals",248),(S "_law_row",255),(S "_law_next",262),(S "_law_term",269),(S "_law_terms",274),(S "_law_goals",279),(S "_law_number",286),(S "_law_renamed",291),(S "_law_kernel",296),(S "_law_places",301),(S "_law_homes",308),(S "_law_swapped",315),(S "_law_spoiled",322),(S "law",327)]
 clss:=[(S "KernelClause",52,49),(S "VarInfo",87,84),(S "ClausePlan",143,105),(S "Survey",185,168)]
 mths:=[(143,S "info",112),(143,S "is_perm",119),(143,S "is_void",126),(143,S "perms",133),(143,S "dying_at",140),(185,S "meet",175),(185,S "terms",182)]
 attrs:=[(52,S "functor"),(52,S "args"),(52,S "goals"),(52,S "count"),(87,S "var"),(87,S "kind"),(87,S "slot"),(87,S "first"),(87,S "unsafe"),(87,S "last_goal"),(87,S "count"),(87,S "first_chunk"),(87,S "last_chunk"),(143,S "infos"),(143,S "chunks"),(143,S "needs_env"),(143,S "env_size"),(143,S "live_after"),(185,S "infos")]
 gints:=[(S "A_NIL",0),(S "A_PLUS",4),(S "F_DOT",0),(S "F_MINUS1",12),(S "F_MINUS",13)]
noncomputable def T0:Tab where
 gints:=P0.gints
 gfns:=P0.fns.map (·.1)
 gclss:=P0.clss.map (·.1)
 gmeths:=P0.mths.map (·.2.1)
 lam:=false
noncomputable def T1:Tab:={ T0 with lam:=true }
noncomputable def fAs:List Addr:=[21,28,35,49,63,70,84,105,112,119,126,133,140,154,168,175,182,196,203,210,217,224,229,234,241,248,255,262,269,274,279,286,291,296,301,308,315,322]
noncomputable def kAs:List Addr:=[2,3,15,17,18,20,21,22,24,25,27,28,29,31,32,34,35,43,45,46,48,49,50,51,52,53,54,57,59,60,62,63,64,66,67,69,70,78,80,81,83,84,85,86,87,88,89,99,101,102,104,105,106,108,109,111,112,113,115,116,118,119,120,122,123,125,126,127,129,130,132,133,134,136,137,139,140,141,142,143,144,145,148,150,151,153,154,162,164,165,167,168,169,171,172,174,175,176,178,179,181,182,183,184,185,186,187,190,192,193,195,196,197,199,200,202,203,204,206,207,209,210,211,213,214,216,217,218,220,221,223,224,225,228,229,230,233,234,235,237,238,240,241,242,244,245,247,248,249,251,252,254,255,256,258,259,261,262,263,265,266,268,269,270,273,274,275,278,279,280,282,283,285,286,287,290,291,292,295,296,297,300,301,302,304,305,307,308,309,311,312,314,315,316,318,319,321,322,323,326,327]
noncomputable def goodB:List (Option (Nat × Nat × PS)):=[some (1,1,b_variables),some (1,5,b_variables_of),some (1,4,b_occurrences),some (5,5,b_KernelClause___init__),some (1,2,b_goal_terms),some (1,1,b_goal_special),some (3,3,b_VarInfo___init__),some (6,6,b_ClausePlan___init__),some (2,2,b_ClausePlan_info),some (2,2,b_ClausePlan_is_perm),some (2,2,b_ClausePlan_is_void),some (1,3,b_ClausePlan_perms),some (2,4,b_ClausePlan_dying_at),some (1,4,b_chunk_numbers),some (1,1,b_Survey___init__),some (6,7,b_Survey_meet),some (5,8,b_Survey_terms),some (1,1,b_kind_of),some (1,5,b_slot_order),some (1,14,b_classify),some (1,12,b_places_of),some (2,6,b_crosses_call),some (2,7,b_check_plan),some (4,5,b_check_variable),some (1,3,b_first_word),some (3,12,b_check_goals),some (1,5,b__law_row),some (1,1,b__law_next),some (2,4,b__law_term),some (2,2,b__law_terms),some (2,8,b__law_goals),some (2,2,b__law_number),some (2,2,b__law_renamed),some (1,8,b__law_kernel),some (1,12,b__law_places),some (1,6,b__law_homes),some (2,7,b__law_swapped),some (5,5,b__law_spoiled),some (1,16,b_law)]
noncomputable def fragAt (as:List Addr) (h:Heap):Frag:=as.filterMap fun a=>(h.get? a).map fun o=>(a,o)
theorem fragAt_in:∀ {as:List Addr} {h:Heap},(fragAt as h).In h
 | [],h,a,o,e=>by cases e
 | b::as,h,a,o,e=>by
  unfold fragAt at e
  rw [List.filterMap_cons] at e
  cases hb:h.get? b with
  | none=>rw [hb] at e;exact fragAt_in (as:=as) a o e
  | some x=>
   rw [hb] at e
   dsimp only [Option.map_some] at e
   rw [List.lookup_cons] at e
   by_cases q:a=b
   · subst q
     rw [beq_self_eq_true] at e
     cases e
     exact hb
   · rw [beq_eq_false_iff_ne.mpr q] at e
     exact fragAt_in (as:=as) a o e
noncomputable def lamQ0:Str:=S "law.<locals>.<lambda>"
noncomputable def tab0:Addr:=324
noncomputable def look (K:Frag):List (Option (Nat × Nat × PS)) × Bool:=(fAs.map (bodyOf T0 K)++[bodyOf T1 K 327],P0.ok K && lamAt K 327 tab0 lamQ0 && noTabs K)
noncomputable def hook0:Hook where
 α:=(List (Option (Nat × Nat × PS)) × Bool) × Option Obj × Bool
 obs:=fun s=>(look (fragAt kAs s.heap),s.heap.get? tab0,(s.heap.get? sysModules).isSome)
 val:=fun _=>((goodB,true),some (tabObj #[]),true)
 says:=fun _ h=>(∃ K:Frag,K.In h∧look K=(goodB,true))∧h.get? tab0=some (tabObj #[])∧(h.get? sysModules).isSome=true
 of:=fun _ s e=>⟨⟨_,fragAt_in,(Prod.mk.inj e).1⟩,(Prod.mk.inj (Prod.mk.inj e).2).1,(Prod.mk.inj (Prod.mk.inj e).2).2⟩
 keeps:=fun _ _ _ e k=>⟨by obtain ⟨K,h1,h2⟩:=e.1;exact ⟨K,h1.keeps k,h2⟩,k _ _ e.2.1,by obtain ⟨o,ho⟩:=Option.isSome_iff_exists.mp e.2.2;rw [k _ _ ho];rfl⟩
noncomputable def qq:Program:=view PySem.Challenge.pw_no0164_01 [41]
noncomputable def loose0:List Str:=(["variables","variables_of","occurrences","KernelClause","goal_terms","goal_special","VarInfo","ClausePlan","chunk_numbers","Survey","kind_of","slot_order","classify","A_NIL","A_PLUS","F_DOT","F_MINUS1","F_MINUS","places_of","crosses_call","check_plan","check_variable","first_word","check_goals","_law_row","_law_next","_law_term","_law_terms","_law_goals","_law_number","_law_renamed","_law_kernel","_law_places","_law_homes","_law_swapped","_law_spoiled"]:List String).map S
set_option maxHeartbeats 4000000 in
theorem left0:LeftO PySem.Challenge.pw_no0164_01 qq loose0 (fun s=>xlAt qq [] s && recOk (RowW.records PySem.Challenge.rw_no0164_01.row.toRowW) s) hook0.obs hook0.val 4338:=by
 unfold LeftO
 delta openEnds fencedOpening topFrom
 rw [Fast.te10274390034422433532,Fast.te1435165496053646825,Fast.te14289696077712309145,Fast.te14082659384304107361,Fast.te4187177175401517315,Fast.te5923862056798008813,Fast.te14364793385576792824]
 intro w
 kernel_rfl
theorem said1:PySem.W.Fast.tw9446332074065402090 PySem.Challenge.rw_no0164_01=true:=by
 unfold PySem.W.Fast.tw9446332074065402090
 repeat' with_reducible refine look_both ?_ ?_
 · unfold PySem.W.Fast.tw17960256430627541270
   repeat' with_reducible refine look_both ?_ ?_
   · unfold PySem.W.Fast.tw2436336058641802641
     repeat' with_reducible refine look_both ?_ ?_
     · unfold PySem.W.Fast.tw12908688711261696721
       repeat' with_reducible refine look_both ?_ ?_
       all_goals as_aux_lemma=>kernel_rfl
     all_goals as_aux_lemma=>kernel_rfl
   all_goals as_aux_lemma=>kernel_rfl
 all_goals as_aux_lemma=>kernel_rfl
theorem said0:PySem.Challenge.rw_no0164_01.wellSaid=true:=(congrFun PySem.W.Fast.te9446332074065402090 _).trans said1
noncomputable def t_law:Tr:=fun args Q σ=>∃ (a:Addr) (xs:List Int),args=[.ref a]∧σ a=some (.ro (xs.map AV.int))∧xs.length≤63∧(∀ b,b≠a→σ b=Option.none)∧∀ σ',Q (.bool true) σ'
noncomputable def LawGoal:Prop:=∀ (B:Base),BaseOk B→TopOk P0 B.K→fAs.map (bodyOf T0 B.K)++[bodyOf T1 B.K 327]=goodB→B.isCls=P0.isCls→B.attrOk=P0.attrOk→
 lamAt B.K 327 B.tab B.lamQ=true∧B.g.BuiltinsAt B.mg B.tab∧mainGlobals≠B.tab→FnSound B 250 327 t_law
theorem lamAt_code {K:Frag} {a tab:Addr} {q:Str} (h:lamAt K a tab q=true):∃ c,codeHdIn K c tab=true:=by
 have h:((fnAt K a).bind fun fd=>(refV fd.code).map fun c=>codeHdIn K c tab && fd.qualname ++ ".<locals>." ++ "<lambda>" == q)=some true:=by
  revert h
  unfold lamAt
  cases ((fnAt K a).bind fun fd=>(refV fd.code).map fun c=>codeHdIn K c tab && fd.qualname ++ ".<locals>." ++ "<lambda>" == q) with
  | none=>exact fun h=>nomatch h
  | some b=>exact congrArg some
 obtain ⟨fd,_,h⟩:=bind_some h
 obtain ⟨c,_,h⟩:=map_some h
 exact ⟨c,(Bool.and_eq_true_iff.mp h).1⟩
theorem walk0 (HL:LawGoal) (d:DefRec) (hn:d.name=S "law") (kwd:List (Str × Expr)):WalkO qq loose0 (XL qq []) hook0.says PySem.Challenge.rw_no0164_01.row.toRowW d kwd (fun f vs=>PySem.call f vs):=by
 intro w s₀ s₁ mg mb G Y fa o pm cd doc dV kV ho hd hcd hD hmg hg args vals as hpre hlay hrd hwl hlo
 clear hd hcd hD ho
 obtain ⟨⟨K,hK,hlook⟩,htab,hsys⟩:=Y
 refine Ground.open G ?_
 intro T TB D TE TW
 clear D TE TW TB
 wrow_args hpre hlay hrd hwl hlo
 rename_i xs _ _ _ _ _ _ _ la vs _ hL _ _ _ hI _ hlen _
 obtain ⟨hbod,hchk⟩:=Prod.mk.inj hlook
 simp only [Bool.and_eq_true] at hchk
 obtain ⟨⟨hP,hlam⟩,hnt⟩:=hchk
 have hTO:=Top.ok_spec hP
 obtain ⟨c,hc⟩:=lamAt_code hlam
 have hC:=codeHd_of_K hK hc
 have hT:TabsAt [(c,tab0)] s₁.heap:=fun q hq=>by
  rw [List.mem_singleton.mp hq]
  exact ⟨hC,htab⟩
 have GT:=ghost_top hT T
 have hKg:=ghost_K hT hK hnt
 let B:Base:=⟨PySem.Challenge.rw_no0164_01.row.prog,w,K,ghostOf s₁.heap [(c,tab0)],s₁.os,tab0,lamQ0,P0.isCls,P0.attrOk,mg,mb⟩
 have hbase:=hTO.base (B:=B) rfl rfl
 have htn:(ghostOf s₁.heap [(c,tab0)]).get? tab0=none:=hideAll_none _ (.head _)
 have hB:BaseOk B:=⟨hKg,GT.g,GT.b,GT.nolimit,GT.builtins,by
  obtain ⟨oz,hz⟩:=Option.isSome_iff_exists.mp hsys
  show ((ghostOf s₁.heap [(c,tab0)]).get? sysModules).isSome=true
  have:=hideAll_get [tab0] hz (by decide)
  rw [show (ghostOf s₁.heap [(c,tab0)]).get? sysModules=some oz from this]
  rfl,hbase.1,hbase.2⟩
 have hbm:B.g.BuiltinsAt B.mg B.tab:=by
  obtain ⟨bm,ob,a1,a2,a3,a4,a5,a6⟩:=GT.bmain
  refine ⟨bm,ob,a1,a2,?_,?_,a3,a4,a5,a6⟩
  · rintro rfl
    obtain ⟨o',es,ep,e1,e2,_⟩:=GT.g
    rw [a3] at e1
    cases e1
    rw [a6] at e2
    cases e2
  · intro q
    rw [q] at a3
    exact absurd (a3.symm.trans htn) (by simp)
 have hF:=HL B hB hTO hbod rfl rfl ⟨hlam,hbm,show mainGlobals≠tab0 by decide⟩
 have hfa:fa=327:=by
  have h1:=(hTO.fn (S "law",327) (by decide)).1
  have h2:=mg_of hK T.g h1
  rw [hn] at hmg
  exact Value.ref.inj (Option.some.inj (hmg.symm.trans h2))
 subst hfa
 have hLg:=ghost_list hT hL
 have hne:la≠tab0:=by
  rintro rfl
  obtain ⟨o',e1,_⟩:=hLg
  rw [htn] at e1
  cases e1
 have hlv:=hI.length
 let σ0:AH:=fun b=>if b=la then some (.ro (xs.map AV.int)) else none
 have hlen':xs.length≤63:=by omega
 have hobj:∀ a ao,σ0 a=some ao→ORel B s₁.heap a ao∧GOk B B.g.get? a ao:=by
  intro a ao e
  by_cases q:a=la
  · have:ao=.ro (xs.map AV.int):=by
     have:σ0 a=some (.ro (xs.map AV.int)):=if_pos q
     rw [this] at e
     exact (Option.some.inj e).symm
    subst this
    subst q
    refine ⟨⟨by rw [List.length_map];unfold LIM;omega,vs,hL,ints_rel hI⟩,?_⟩
    obtain ⟨o',e1,_⟩:=hLg
    show (B.g.get? a).isSome=true
    rw [e1]
    rfl
  · have:σ0 a=none:=if_neg q
    rw [this] at e
    cases e
 have st:St B B.g.get? σ0 s₁:=⟨fun _ _ e=>e,fun a o e=>of_hideAll _ e,hobj,hg,rfl,⟨tabObj #[],htab,#[],rfl,trivial,fun pos cv h=>by cases h⟩,⟨htn,if_neg (fun q=>hne q.symm)⟩⟩
 refine enter_call (codeAny_mono (hF callerA B.g.get? σ0 (fun av _=>av=.bool true) s₁ [.ref la] [.ref la] ⟨rfl,by decide,by decide⟩ st (.cons (.ref la) .nil) ⟨la,xs,rfl,if_pos rfl,hlen',fun b q=>if_neg q,fun _=>rfl⟩) ?_)
 rintro r s' ⟨v,rfl,av,σ',rfl,hv,st',_⟩
 cases hv
 refine ⟨.inl ⟨_,_,[],rfl,fun _=>rfl,.bool true,by wrow_post,fun _=>⟨.nil,by simp⟩⟩,?_,st'.os,.of_eq st'.gens⟩
 obtain ⟨ot,ht1,ps,rfl,_⟩:=st'.tab
 refine ⟨fun b ob e=>?_,fun b ob e=>?_⟩
 · by_cases q:b=tab0
   · subst q
     rw [htab] at e
     cases e
     exact .inr (.inl ⟨(hC.tab htab).isCodeTable,rfl,#[],ps,rfl,by rw [ht1];simp [tabObj]⟩)
   · exact .inl (st'.keep b ob (ghost_ne e (by simpa using q)))
 · by_cases q:b=tab0
   · exact ⟨_,by rw [q];exact ht1⟩
   · exact ⟨_,st'.keep b ob (ghost_ne e (by simpa using q))⟩
theorem lawSome:(defOf qq (S "law")).isSome=true:=by kernel_rfl
noncomputable def lawD:DefRec × List (Str × Expr):=(defOf qq (S "law")).get lawSome
theorem holds0 (HL:LawGoal):PySem.Challenge.rw_no0164_01.Holds:=by
 w_on
 refine holds_law said0 fun said=>?_
 refine holds_open (q:=qq) (loose:=loose0) (Xt:=fun s=>xlAt qq [] s && recOk (RowW.records PySem.Challenge.rw_no0164_01.row.toRowW) s) (XP:=XL qq []) (Yf:=Hook.obs hook0) (Ya:=Hook.val hook0) (YP:=Hook.says hook0) (N:=4338) (d:=lawD.1) (kwd:=lawD.2) left0 (Hook.of hook0) (Hook.keeps hook0) (fun s e=>xl_of s (Bool.and_eq_true_iff.mp e).1) XL.keeps (by kernel_rfl) (by kernel_rfl) (by kernel_rfl) (fun s e=>recFacts_of (Bool.and_eq_true_iff.mp e).2) (by kernel_rfl) said (by kernel_rfl) ⟨rfl,rfl,rfl,rfl,rfl,by decide +kernel⟩ ?hw (walk0 HL lawD.1 (by kernel_rfl) lawD.2)
 case hw=>w_witness2
inductive Tm where
 | v (k:Nat)
 | c (w:Str) (n:Int)
 | s (f:Int) (ts:List Tm)
mutual
noncomputable def enc:Tm→AV
 | .v k=>.tup [.str (S "v"),.int k]
 | .c w n=>.tup [.str w,.int n]
 | .s f ts=>.tup [.str (S "s"),.int f,.tup (encs ts)]
noncomputable def encs:List Tm→List AV
 | []=>[]
 | t::ts=>enc t::encs ts
end
mutual
noncomputable def Tm.size:Tm→Nat
 | .v _=>1
 | .c _ _=>1
 | .s _ ts=>1+sizes ts
noncomputable def sizes:List Tm→Nat
 | []=>0
 | t::ts=>t.size+sizes ts
end
mutual
noncomputable def Tm.vars:Tm→List Nat
 | .v k=>[k]
 | .c _ _=>[]
 | .s _ ts=>varss ts
noncomputable def varss:List Tm→List Nat
 | []=>[]
 | t::ts=>t.vars++varss ts
end
mutual
noncomputable def Tm.ok:Tm→Prop
 | .v _=>True
 | .c w _=>w=S "a" ∨ w=S "i"
 | .s _ ts=>oks ts
noncomputable def oks:List Tm→Prop
 | []=>True
 | t::ts=>t.ok∧oks ts
end
inductive Gl where
 | sp (w:Str) (k:Nat)
 | un (a b:Tm)
 | tm (w:Str) (f:Int) (ts:List Tm)
 | ct (w:Str)
noncomputable def encG:Gl→AV
 | .sp w k=>.tup [.str w,.int k]
 | .un a b=>.tup [.str (S "unify"),enc a,enc b]
 | .tm w f ts=>.tup [.str w,.int f,.tup (encs ts)]
 | .ct w=>.tup [.str w]
noncomputable def Gl.ok:Gl→Prop
 | .sp w _=>w=S "level" ∨ w=S "mark" ∨ w=S "cutto"
 | .un a b=>a.ok∧b.ok
 | .tm w _ ts=>(w=S "call" ∨ w=S "builtin")∧oks ts
 | .ct w=>w=S "cut" ∨ w=S "fail"
noncomputable def Gl.terms:Gl→List Tm
 | .un a b=>[a,b]
 | .tm _ _ ts=>ts
 | _=>[]
noncomputable def Gl.special:Gl→Option Nat
 | .sp _ k=>some k
 | _=>none
noncomputable def Gl.isCall:Gl→Bool
 | .tm w _ _=>decide (w=S "call")
 | _=>false
structure Ker where
 args:List Tm
 goals:List Gl
 count:Nat
structure Oc where
 k:Nat
 at':Int
 chunk:Nat
 word:Str
noncomputable def ocTerms (at':Int) (chunk:Nat) (place:Str):List Tm→List Oc
 | []=>[]
 | .v k::ts=>⟨k,at',chunk,place++S "_arg"⟩::ocTerms at' chunk place ts
 | t::ts=>t.vars.map (fun k=>⟨k,at',chunk,place++S "_struct"⟩)++ocTerms at' chunk place ts
noncomputable def ocGoal (at':Nat) (chunk:Nat) (g:Gl):List Oc:=
 (match g.special with | some k=>[⟨k,at',chunk,S "special"⟩] | none=>[])++ocTerms at' chunk (S "goal") g.terms
noncomputable def ocGoals (at' chunk:Nat):List Gl→List Oc
 | []=>[]
 | g::gs=>ocGoal at' chunk g++ocGoals (at'+1) (if g.isCall=true then chunk+1 else chunk) gs
noncomputable def Ker.oc (K:Ker):List Oc:=ocTerms (-1) 0 (S "head") K.args++ocGoals 0 0 K.goals
structure Ker.Ok (K:Ker):Prop where
 argsOk:oks K.args
 goalsOk:∀ g ∈ K.goals,g.ok
 argsSize:sizes K.args≤100
 goalsSize:∀ g ∈ K.goals,sizes g.terms≤100
 goalsLen:K.goals.length≤100
 count:K.count < 64
 below:∀ o ∈ K.oc,o.k < K.count
 all:∀ k < K.count,∃ o ∈ K.oc,o.k=k
noncomputable def Ext (X:List Addr) (σ σ':AH):Prop:=∀ b,b ∉ X→∀ o,σ b=some o→σ' b=some o
theorem Ext.refl (X:List Addr) (σ:AH):Ext X σ σ:=fun _ _ _ e=>e
theorem Ext.trans {X:List Addr} {σ σ' σ'':AH} (x:Ext X σ σ') (y:Ext X σ' σ''):Ext X σ σ'':=fun b hb o e=>y b hb o (x b hb o e)
theorem Ext.fresh {X:List Addr} {σ:AH} {a:Addr} (h:σ a=none) (o:AO):Ext X σ (σ.set a o):=fun b _ u e=>by
 unfold AH.set
 rw [if_neg (fun q=>by rw [q,h] at e;injection e)]
 exact e
theorem Ext.upd {X:List Addr} {σ:AH} {a:Addr} (h:a ∈ X) (o:AO):Ext X σ (σ.set a o):=fun b hb u e=>by
 unfold AH.set
 rw [if_neg (fun q:b=a=>hb (q ▸ h))]
 exact e
theorem Ext.weaken {X Y:List Addr} {σ σ':AH} (x:Ext X σ σ') (h:∀ b ∈ X,b ∈ Y∨σ b=none):Ext Y σ σ':=fun b hb o e=>x b (fun q=>by
 rcases h b q with h | h
 · exact hb h
 · rw [h] at e;injection e) o e
theorem set_same (σ:AH) (a:Addr) (o:AO):σ.set a o a=some o:=if_pos rfl
theorem set_ne (σ:AH) {a b:Addr} (o:AO) (h:b≠a):σ.set a o b=σ b:=if_neg h
section
noncomputable def varV (m:Env') (i:Nat):Option AV:=m[i]?.bind id
noncomputable def attO (C:Addr) (x:Str):AO→Option AV
 | .attrs C' fs=>if C'=C then fs.lookup x else none
 | _=>none
noncomputable def attrV (σ:AH) (x:Str):AV→Option AV
 | .obj C dx=>(σ dx).bind (attO C x)
 | _=>none
noncomputable def int2 (f:Int→Int→Option AV) (a b:AV):Option AV:=a.int?.bind fun i=>b.int?.bind fun j=>f i j
noncomputable def str?:AV→Option Str
 | .str s=>some s
 | _=>none
noncomputable def binV (o:Op2) (a b:AV):Option AV:=match o with
 | .add=>(match a with
  | .str s=>(str? b).bind fun t=>if s.length+t.length≤LIM then some (.str (s++t)) else none
  | a=>int2 (fun i j=>some (.int (i+j))) a b)
 | .sub=>int2 (fun i j=>some (.int (i - j))) a b
 | .mul=>int2 (fun i j=>if i.natAbs≤LIM∧j.natAbs≤LIM then some (.int (i * j)) else none) a b
 | .fdiv=>int2 (fun i j=>if 0 < j∧j≤LIM then some (.int (i.fdiv j)) else none) a b
 | .mod=>int2 (fun i j=>if 0 < j∧j≤LIM then some (.int (i.fmod j)) else none) a b
 | _=>none
noncomputable def lenO:AO→Option AV
 | .list xs=>some (.int xs.length)
 | .dict kvs _=>some (.int kvs.length)
 | _=>none
noncomputable def lenV (σ:AH):AV→Option AV
 | .tup xs=>some (.int xs.length)
 | .ref a=>(σ a).bind lenO
 | _=>none
noncomputable def rng1V (v:AV):Option AV:=v.int?.bind fun n=>if -LIM≤n∧n≤LIM then some (.rng 0 n) else none
noncomputable def rng2V (v w:AV):Option AV:=v.int?.bind fun a=>w.int?.bind fun b=>if -LIM≤a∧a≤LIM∧-LIM≤b∧b≤LIM then some (.rng a b) else none
noncomputable def ref?:AV→Option Addr
 | .ref a=>some a
 | _=>none
noncomputable def tupleV (σ:AH) (v:AV):Option AV:=(ref? v).bind fun a=>((σ a).bind listO).map .tup
noncomputable def foldL (g:Int→Int→Int):List Int→Option AV
 | i::r=>some (.int (r.foldl g i))
 | []=>none
noncomputable def foldV (g:Int→Int→Int) (σ:AH) (v:AV):Option AV:=(ref? v).bind fun a=>((itemsOf σ (.ref a)).bind intsOf).bind (foldL g)
noncomputable def bif1 (f:BI) (v:AV) (σ:AH):Option AV:=match f with
 | .len=>lenV σ v
 | .range=>rng1V v
 | .tuple=>tupleV σ v
 | .max=>foldV max σ v
 | .min=>foldV min σ v
 | _=>none
noncomputable def bif2 (f:BI) (v w:AV):Option AV:=match f with
 | .range=>rng2V v w
 | _=>none
noncomputable def bifV (f:BI) (vs:List AV) (σ:AH):Option AV:=match vs with
 | []=>none
 | v::vs=>match vs with
  | []=>bif1 f v σ
  | w::us=>match us with
   | []=>bif2 f v w
   | _::_=>none
noncomputable def getV (σ:AH) (o:AV) (vs:List AV):Option AV:=match vs with
 | []=>none
 | v::vs=>match vs with
  | []=>none
  | d::vs=>match vs with
   | []=>(ref? o).bind fun a=>v.int?.bind fun k=>((σ a).bind dicO).map fun kvs=>(kvs.lookup k).getD d
   | _::_=>none
mutual
noncomputable def ev (σ:AH) (m:Env'):PE→Option AV
 | .lit v=>some v
 | .var i=>varV m i
 | .attr e x=>(ev σ m e).bind (attrV σ x)
 | .idx e i=>(ev σ m e).bind fun v=>(ev σ m i).bind fun k=>idxW σ v k
 | .bin o a b=>(ev σ m a).bind fun v=>(ev σ m b).bind fun k=>binV o v k
 | .neg e=>(ev σ m e).bind fun v=>v.int?.map fun i=>.int (-i)
 | .cmp o a b=>(ev σ m a).bind fun v=>(ev σ m b).bind fun k=>(cmpW o σ v k).map .bool
 | .bop isAnd es=>evOp σ m isAnd es
 | .not e=>(ev σ m e).bind fun v=>(truthW σ v).map fun b=>.bool (!b)
 | .ite c a b=>(evB σ m c).bind fun t=>if t=true then ev σ m a else ev σ m b
 | .tup es=>(evs σ m es).bind fun vs=>if vs.length≤LIM then some (.tup vs) else none
 | .bi f es=>(evs σ m es).bind fun vs=>bifV f vs σ
 | .bm e .get es=>(ev σ m e).bind fun o=>(evs σ m es).bind fun vs=>getV σ o vs
 | _=>none
noncomputable def evB (σ:AH) (m:Env'):PE→Option Bool
 | .not e=>(evB σ m e).map fun b=>!b
 | .bop isAnd es=>evAll σ m isAnd es
 | .lit (.bool b)=>some b
 | .cmp o a b=>(ev σ m a).bind fun v=>(ev σ m b).bind fun k=>cmpW o σ v k
 | .var i=>(varV m i).bind (truthW σ)
 | .attr e x=>((ev σ m e).bind (attrV σ x)).bind (truthW σ)
 | _=>none
noncomputable def evs (σ:AH) (m:Env'):PEs→Option (List AV)
 | .nil=>some []
 | .cons e es=>(ev σ m e).bind fun v=>(evs σ m es).map fun vs=>v::vs
noncomputable def evOp (σ:AH) (m:Env') (isAnd:Bool):PEs→Option AV
 | .nil=>none
 | .cons e .nil=>ev σ m e
 | .cons e es=>(ev σ m e).bind fun v=>(truthW σ v).bind fun b=>if b=isAnd then evOp σ m isAnd es else some v
noncomputable def evAll (σ:AH) (m:Env') (isAnd:Bool):PEs→Option Bool
 | .nil=>some isAnd
 | .cons e es=>(evB σ m e).bind fun b=>if b=isAnd then evAll σ m isAnd es else some b
end
theorem attrV_w {σ:AH} {x:Str} {o v:AV} {Q:AV→AH→Prop} (h:attrV σ x o=some v) (q:Q v σ):attrW o x Q σ:=by
 cases o with
 | obj C dx=>
  obtain ⟨ao,e,h⟩:=bind_some (show (σ dx).bind (attO C x)=some v from h)
  cases ao with
  | attrs C' fs=>
   obtain ⟨c,h⟩:=Option.ite_none_right_eq_some.mp (show (if C'=C then fs.lookup x else none)=some v from h)
   exact attAt_of (c ▸ e) (som_of h q)
  | _=>injection h
 | _=>injection h
theorem int2_w {f:Int→Int→Option AV} {a b v:AV} {g:Int→Int→Prop} (h:int2 f a b=some v) (k:∀ i j,f i j=some v→g i j):asI a fun i=>asI b fun j=>g i j:=by
 obtain ⟨i,h1,h⟩:=bind_some h
 obtain ⟨j,h2,h⟩:=bind_some h
 rw [int?_inv h1,int?_inv h2]
 exact k i j h
theorem int2_if {c:Prop} [Decidable c] {a v:AV} {Q:AV→AH→Prop} {σ:AH} (h:(if c then some a else none)=some v) (q:Q v σ):c∧Q a σ:=by
 obtain ⟨h1,h⟩:=Option.ite_none_right_eq_some.mp h
 injection h with h
 exact ⟨h1,h ▸ q⟩
theorem binV_w {σ:AH} {o:Op2} {a b v:AV} {Q:AV→AH→Prop} (h:binV o a b=some v) (q:Q v σ):binW o a b Q σ:=by
 cases o with
 | add=>
  cases a with
  | str s=>cases b with
   | str t=>exact int2_if h q
   | _=>injection h
  | int i=>cases b with
   | int j=>injection h with h;subst h;exact q
   | _=>injection h
  | _=>injection h
 | sub=>exact int2_w h fun i j e=>by injection e with e;subst e;exact q
 | mul=>exact int2_w h fun i j e=>and_assoc.mp (int2_if e q)
 | fdiv=>exact int2_w h fun i j e=>and_assoc.mp (int2_if e q)
 | mod=>exact int2_w h fun i j e=>and_assoc.mp (int2_if e q)
 | pow=>injection h
theorem ref?_inv {v:AV} {a:Addr} (h:ref? v=some a):v=.ref a:=by
 cases v with
 | ref b=>injection h with h;rw [h]
 | _=>injection h
theorem foldV_w {σ:AH} {g:Int→Int→Int} {w v:AV} {Q:AV→AH→Prop} (h:foldV g σ w=some v) (q:Q v σ):intsAt σ w fun is=>ic is fun i r=>Q (.int (r.foldl g i)) σ:=by
 obtain ⟨a,ha,h⟩:=bind_some h
 obtain ⟨l,h1,h2⟩:=bind_some h
 obtain ⟨xs,h3,h4⟩:=bind_some h1
 rw [ref?_inv ha]
 refine intsAt_of h3 h4 ?_
 cases l with
 | nil=>injection h2
 | cons i r=>injection h2 with h2;subst h2;exact q
theorem bif1_w {σ:AH} {f:BI} {w v:AV} {Q:AV→AH→Prop} (h:bif1 f w σ=some v) (q:Q v σ):biW f [w] Q σ:=by
 cases f with
 | len=>
  cases w with
  | tup xs=>injection h with h;subst h;exact q
  | ref a=>
   obtain ⟨ao,e,h⟩:=bind_some (show (σ a).bind lenO=some v from h)
   refine som_of e ?_
   cases ao with
   | list=>injection h with h;subst h;exact q
   | dict=>injection h with h;subst h;exact q
   | _=>injection h
  | _=>injection h
 | range=>
  obtain ⟨n,hn,h⟩:=bind_some (show w.int?.bind _=some v from h)
  rw [int?_inv hn]
  exact and_assoc.mp (int2_if h q)
 | tuple=>
  obtain ⟨a,ha,h⟩:=bind_some (show (ref? w).bind _=some v from h)
  obtain ⟨xs,h2,rfl⟩:=map_some h
  obtain ⟨ao,e,h3⟩:=bind_some h2
  rw [ref?_inv ha]
  cases ao with
  | list ys=>injection h3 with h3;subst h3;exact som_of e q
  | _=>injection h3
 | max=>exact foldV_w h q
 | min=>exact foldV_w h q
 | _=>injection h
theorem bifV_w {σ:AH} {f:BI} {vs:List AV} {v:AV} {Q:AV→AH→Prop} (h:bifV f vs σ=some v) (q:Q v σ):biW f vs Q σ:=by
 cases vs with
 | nil=>injection h
 | cons w vs=>cases vs with
  | nil=>exact bif1_w h q
  | cons u vs=>cases vs with
   | nil=>cases f with
    | range=>
     obtain ⟨a,ha,h⟩:=bind_some (show w.int?.bind _=some v from h)
     obtain ⟨b,hb,h⟩:=bind_some h
     rw [int?_inv ha,int?_inv hb]
     obtain ⟨⟨h1,h2,h3,h4⟩,h⟩:=int2_if h q
     exact ⟨h1,h2,h3,h4,h⟩
    | _=>injection h
   | cons x vs=>injection h
theorem varV_w {m:Env'} {i:Nat} {v:AV} (h:varV m i=some v):m[i]?=some (some v):=by
 obtain ⟨o,h1,h2⟩:=bind_some h
 rw [h1,show o=some v from h2]
section
variable {Γ:Gam} {σ:AH} {m:Env'} {R:AV→AH→Prop} {P:Bool→AH→Prop}
theorem e_lit {v:AV} (h:R v σ):pwpE Γ (.lit v) m R σ:=h
theorem e_var {i:Nat} {v:AV} (h:m[i]?=some (some v)) (q:R v σ):pwpE Γ (.var i) m R σ:=som_of h q
theorem e_attr {e:PE} {x:Str} (h:pwpE Γ e m (fun v σ=>attrW v x R σ) σ):pwpE Γ (.attr e x) m R σ:=h
theorem e_idx {x y:PE} (h:pwpE Γ x m (fun v σ=>pwpE Γ y m (fun k σ=>som (idxW σ v k) fun r=>R r σ) σ) σ):pwpE Γ (.idx x y) m R σ:=h
theorem e_slc {x y:PE} (h:pwpE Γ x m (fun v σ=>pwpE Γ y m (fun k σ=>slcW v k R σ) σ) σ):pwpE Γ (.slc x y) m R σ:=h
theorem e_bin {o:Op2} {x y:PE} (h:pwpE Γ x m (fun v σ=>pwpE Γ y m (fun k σ=>binW o v k R σ) σ) σ):pwpE Γ (.bin o x y) m R σ:=h
theorem e_neg {x:PE} (h:pwpE Γ x m (fun v σ=>asI v fun i=>R (.int (-i)) σ) σ):pwpE Γ (.neg x) m R σ:=h
theorem e_cmp {o:Cm} {x y:PE} (h:pwpE Γ x m (fun v σ=>pwpE Γ y m (fun k σ=>som (cmpW o σ v k) fun r=>R (.bool r) σ) σ) σ):pwpE Γ (.cmp o x y) m R σ:=h
theorem e_bop {a:Bool} {es:PEs} (h:pwpOp Γ a es m R σ):pwpE Γ (.bop a es) m R σ:=h
theorem e_not {x:PE} (h:pwpE Γ x m (fun v σ=>som (truthW σ v) fun b=>R (.bool (!b)) σ) σ):pwpE Γ (.not x) m R σ:=h
theorem e_ite {c x y:PE} (h:pwpB Γ c m (fun t σ=>if t=true then pwpE Γ x m R σ else pwpE Γ y m R σ) σ):pwpE Γ (.ite c x y) m R σ:=h
theorem e_tup {es:PEs} (h:pwpEs Γ es m (fun vs σ=>vs.length≤LIM∧R (.tup vs) σ) σ):pwpE Γ (.tup es) m R σ:=h
theorem e_list {es:PEs} (h:pwpEs Γ es m (fun vs σ=>vs.length≤LIM∧freshW (.list vs) R σ) σ):pwpE Γ (.list es) m R σ:=h
theorem e_bi {f:BI} {es:PEs} (h:pwpEs Γ es m (fun vs σ=>biW f vs R σ) σ):pwpE Γ (.bi f es) m R σ:=h
noncomputable def BmK (f:BM) (a:Addr) (ao:AO) (R:AV→AH→Prop) (vs:List AV) (σ':AH):Prop:=som (σ' a) fun ao'=>sameK ao ao'∧bmA f a ao' vs R σ'
theorem e_bmO {e:PE} {f:BM} {es:PEs} (h:pwpE Γ e m (fun o σ=>asR o fun a=>som (σ a) fun ao=>bmOk f ao∧pwpEs Γ es m (BmK f a ao R) σ) σ):pwpE Γ (.bm e f es) m R σ:=h
theorem e_repl {x y:PE} (h:pwpE Γ x m (fun v σ=>pwpE Γ y m (fun k σ=>asI k fun k=>0≤k∧k≤LIM∧freshW (.list (List.replicate k.toNat v)) R σ) σ) σ):pwpE Γ (.repl x y) m R σ:=h
theorem e_srt {e:PE} {d:Nat} (h:pwpE Γ e m (fun v σ=>som m[d]? fun o=>som o fun w=>srtW v w R σ) σ):pwpE Γ (.srtD e d) m R σ:=h
theorem b_not {e:PE} (h:pwpB Γ e m (fun b σ=>P (!b) σ) σ):pwpB Γ (.not e) m P σ:=h
theorem b_bop {a:Bool} {es:PEs} (h:pwpAll Γ a es m P σ):pwpB Γ (.bop a es) m P σ:=h
theorem b_cmp {o:Cm} {x y:PE} (h:pwpE Γ x m (fun v σ=>pwpE Γ y m (fun k σ=>som (cmpW o σ v k) fun r=>P r σ) σ) σ):pwpB Γ (.cmp o x y) m P σ:=h
theorem b_attr {e:PE} {x:Str} (h:pwpE Γ e m (fun v σ=>attrW v x (fun u σ=>som (truthW σ u) fun b=>P b σ) σ) σ):pwpB Γ (.attr e x) m P σ:=h
theorem es_nil {P:List AV→AH→Prop} (h:P [] σ):pwpEs Γ .nil m P σ:=h
theorem es_cons {P:List AV→AH→Prop} {e:PE} {es:PEs} (h:pwpE Γ e m (fun v σ=>pwpEs Γ es m (fun vs σ=>P (v::vs) σ) σ) σ):pwpEs Γ (.cons e es) m P σ:=h
theorem b_cons {a:Bool} {e:PE} {es:PEs} (h:pwpB Γ e m (fun b σ=>if b=a then pwpAll Γ a es m P σ else P b σ) σ):pwpAll Γ a (.cons e es) m P σ:=h
theorem b_nil {a:Bool} (h:P a σ):pwpAll Γ a .nil m P σ:=h
theorem bmK_of {f:BM} {a:Addr} {ao:AO} {vs:List AV} (e:σ a=some ao) (hs:sameK ao ao) (h:bmA f a ao vs R σ):BmK f a ao R vs σ:=som_of e ⟨hs,h⟩
theorem if_k {p:Prop} {t a:Bool} {x y:Prop} (h:t=a→x) (k:t≠a→y):if t=a then x else y:=by
 by_cases c:t=a
 · rw [if_pos c];exact h c
 · rw [if_neg c];exact k c
end
structure EvE (Γ:Gam) (σ:AH) (m:Env') (e:PE):Prop where
 v:∀ {v:AV} {Q:AV→AH→Prop},ev σ m e=some v→Q v σ→pwpE Γ e m Q σ
 b:∀ {v:Bool} {Q:Bool→AH→Prop},evB σ m e=some v→Q v σ→pwpB Γ e m Q σ
structure EvEs (Γ:Gam) (σ:AH) (m:Env') (es:PEs):Prop where
 s:∀ {vs:List AV} {Q:List AV→AH→Prop},evs σ m es=some vs→Q vs σ→pwpEs Γ es m Q σ
 o:∀ {a:Bool} {v:AV} {Q:AV→AH→Prop},evOp σ m a es=some v→Q v σ→pwpOp Γ a es m Q σ
 a:∀ {a v:Bool} {Q:Bool→AH→Prop},evAll σ m a es=some v→Q v σ→pwpAll Γ a es m Q σ
theorem ev_all {Γ:Gam} {σ:AH} {m:Env'}:∀ e,EvE Γ σ m e:=by
 have no:∀ {e},ev σ m e=none→evB σ m e=none→EvE Γ σ m e:=fun h1 h2=>⟨fun h=>(by rw [h1] at h;injection h),fun h=>(by rw [h2] at h;injection h)⟩
 have noB:∀ {e},evB σ m e=none→(∀ {v:AV} {Q:AV→AH→Prop},ev σ m e=some v→Q v σ→pwpE Γ e m Q σ)→EvE Γ σ m e:=fun h2 h=>⟨h,fun h=>(by rw [h2] at h;injection h)⟩
 refine PE.rec (motive_1:=EvE Γ σ m) (motive_2:=EvEs Γ σ m) (fun v=>⟨fun h q=>(by injection h with h;exact e_lit (h ▸ q)),fun {b Q} h q=>?_⟩)
  (fun i=>⟨fun h q=>e_var (varV_w h) q,fun h q=>(by obtain ⟨x,h1,h2⟩:=bind_some h;exact som_of (varV_w h1) (som_of rfl (som_of h2 q)))⟩)
  (fun e x ie=>⟨fun h q=>(by obtain ⟨o,h1,h2⟩:=bind_some h;exact e_attr (ie.v h1 (attrV_w h2 q))),fun h q=>(by obtain ⟨y,h1,h2⟩:=bind_some h;obtain ⟨o,h3,h4⟩:=bind_some h1;exact b_attr (ie.v h3 (attrV_w h4 (som_of h2 q))))⟩)
  (fun e i ie ii=>noB rfl fun h q=>(by obtain ⟨o,h1,h2⟩:=bind_some h;obtain ⟨k,h3,h4⟩:=bind_some h2;exact e_idx (ie.v h1 (ii.v h3 (som_of h4 q)))))
  (fun _ _ _ _=>no rfl rfl)
  (fun o a b ia ib=>noB rfl fun h q=>(by obtain ⟨x,h1,h2⟩:=bind_some h;obtain ⟨k,h3,h4⟩:=bind_some h2;exact e_bin (ia.v h1 (ib.v h3 (binV_w h4 q)))))
  (fun e ie=>noB rfl fun h q=>(by obtain ⟨x,h1,h2⟩:=bind_some h;obtain ⟨i,h3,rfl⟩:=map_some h2;exact e_neg (ie.v h1 (int?_inv h3 ▸ q))))
  (fun o a b ia ib=>⟨fun h q=>(by obtain ⟨x,h1,h2⟩:=bind_some h;obtain ⟨k,h3,h4⟩:=bind_some h2;obtain ⟨r,h5,rfl⟩:=map_some h4;exact e_cmp (ia.v h1 (ib.v h3 (som_of h5 q)))),fun h q=>(by obtain ⟨x,h1,h2⟩:=bind_some h;obtain ⟨k,h3,h4⟩:=bind_some h2;exact b_cmp (ia.v h1 (ib.v h3 (som_of h4 q))))⟩)
  (fun a es ies=>⟨fun h q=>e_bop (ies.o h q),fun h q=>b_bop (ies.a h q)⟩)
  (fun e ie=>⟨fun h q=>(by obtain ⟨x,h1,h2⟩:=bind_some h;obtain ⟨r,h5,rfl⟩:=map_some h2;exact e_not (ie.v h1 (som_of h5 q))),fun h q=>(by obtain ⟨b,h1,rfl⟩:=map_some h;exact b_not (ie.b h1 q))⟩)
  (fun c a b ic ia ib=>noB rfl fun h q=>(by obtain ⟨t,h1,h2⟩:=bind_some h;exact e_ite (ic.b h1 (if_k (p:=True) (fun e=>ia.v ((if_pos e).symm.trans h2) q) (fun e=>ib.v ((if_neg e).symm.trans h2) q)))))
  (fun es ies=>noB rfl fun h q=>(by obtain ⟨vs,h1,h2⟩:=bind_some h;exact e_tup (ies.s h1 (int2_if h2 q))))
  (fun _ _=>no rfl rfl) (no rfl rfl) (fun _ _ _=>no rfl rfl) (fun _ _ _=>no rfl rfl) (fun _ _ _ _ _=>no rfl rfl)
  (fun f es ies=>noB rfl fun h q=>(by obtain ⟨vs,h1,h2⟩:=bind_some h;exact e_bi (ies.s h1 (bifV_w h2 q))))
  (fun e f es ie ies=>noB rfl fun {v Q} h q=>?_)
  (fun _ _ _ _ _ _=>no rfl rfl) (fun _ _ _=>no rfl rfl) (fun _ _ _ _=>no rfl rfl)
  ⟨fun h q=>(by injection h with h;exact es_nil (h ▸ q)),fun h=>(by injection h),fun h q=>(by injection h with h;exact b_nil (h ▸ q))⟩
  (fun e es ie ies=>⟨fun h q=>(by obtain ⟨v,h1,h2⟩:=bind_some h;obtain ⟨us,h3,rfl⟩:=map_some h2;exact es_cons (ie.v h1 (ies.s h3 q))),fun {a v Q} h q=>?_,fun h q=>(by obtain ⟨b,h3,h4⟩:=bind_some h;exact b_cons (ie.b h3 (if_k (p:=True) (fun e=>ies.a ((if_pos e).symm.trans h4) q) (fun e=>Option.some.inj ((if_neg e).symm.trans h4) ▸ q))))⟩)
 · cases v with
   | bool c=>injection h with h;exact h ▸ q
   | _=>injection h
 · cases f with
   | get=>
    obtain ⟨o,h1,h2⟩:=bind_some (show (ev σ m e).bind _=some v from h)
    obtain ⟨vs,h3,h4⟩:=bind_some h2
    refine e_bmO (ie.v h1 ?_)
    cases vs with
    | nil=>injection h4
    | cons x vs=>cases vs with
     | nil=>injection h4
     | cons d vs=>cases vs with
      | cons=>injection h4
      | nil=>
       obtain ⟨a,h5,h6⟩:=bind_some (show (ref? o).bind _=some v from h4)
       obtain ⟨k,h7,h8⟩:=bind_some h6
       obtain ⟨kvs',h9,rfl⟩:=map_some h8
       obtain ⟨ao,e,h9⟩:=bind_some h9
       cases ao with
       | dict kvs ep=>
        injection h9 with h9
        rw [ref?_inv h5]
        refine som_of e ⟨.inl rfl,ies.s h3 (bmK_of e trivial ?_)⟩
        rw [int?_inv h7]
        exact h9 ▸ q
       | _=>injection h9
   | _=>injection h
 · cases es with
   | nil=>exact ie.v h q
   | cons f es=>
    obtain ⟨x,h1,h2⟩:=bind_some (show (ev σ m e).bind _=some v from h)
    obtain ⟨b,h3,h4⟩:=bind_some h2
    exact ie.v h1 (som_of h3 (if_k (p:=True) (fun e=>ies.o ((if_pos e).symm.trans h4) q) (fun e=>Option.some.inj ((if_neg e).symm.trans h4) ▸ q)))
theorem ev_w {Γ:Gam} {σ:AH} {m:Env'} {e:PE} {v:AV} {Q:AV→AH→Prop} (h:ev σ m e=some v) (q:Q v σ):pwpE Γ e m Q σ:=(ev_all e).v h q
theorem evB_w {Γ:Gam} {σ:AH} {m:Env'} {e:PE} {b:Bool} {Q:Bool→AH→Prop} (h:evB σ m e=some b) (q:Q b σ):pwpB Γ e m Q σ:=(ev_all e).b h q
theorem evs_all {Γ:Gam} {σ:AH} {m:Env'}:∀ {es:PEs} {vs:List AV} {Q:List AV→AH→Prop},evs σ m es=some vs→Q vs σ→pwpEs Γ es m Q σ
 | .nil,_,_,h,q=>by injection h with h;exact es_nil (h ▸ q)
 | .cons e es,_,_,h,q=>by
  obtain ⟨v,h1,h2⟩:=bind_some h
  obtain ⟨us,h3,rfl⟩:=map_some h2
  exact es_cons (ev_w h1 (evs_all h3 q))
theorem evs_w {Γ:Gam} {σ:AH} {m:Env'} {es:PEs} {vs:List AV} {Q:List AV→AH→Prop} (h:evs σ m es=some vs) (q:Q vs σ):pwpEs Γ es m Q σ:=evs_all h q
end
section
inductive EI1_1 {α0 β:Type} (P:α0→β→Prop) (P0:α0→AH→Prop) (u:β) (σ:AH):Prop
 | mk (x0:α0):P x0 u→P0 x0 σ→EI1_1 P P0 u σ
inductive EI1_2 {α0 β:Type} (P:α0→β→Prop) (P0:α0→AH→Prop) (P1:α0→AH→Prop) (u:β) (σ:AH):Prop
 | mk (x0:α0):P x0 u→P0 x0 σ→P1 x0 σ→EI1_2 P P0 P1 u σ
inductive EI1_3 {α0 β:Type} (P:α0→β→Prop) (P0:α0→AH→Prop) (P1:α0→AH→Prop) (P2:α0→AH→Prop) (u:β) (σ:AH):Prop
 | mk (x0:α0):P x0 u→P0 x0 σ→P1 x0 σ→P2 x0 σ→EI1_3 P P0 P1 P2 u σ
inductive EI1_4 {α0 β:Type} (P:α0→β→Prop) (P0:α0→AH→Prop) (P1:α0→AH→Prop) (P2:α0→AH→Prop) (P3:α0→AH→Prop) (u:β) (σ:AH):Prop
 | mk (x0:α0):P x0 u→P0 x0 σ→P1 x0 σ→P2 x0 σ→P3 x0 σ→EI1_4 P P0 P1 P2 P3 u σ
inductive EI2_2 {α0 α1 β:Type} (P:α0→α1→β→Prop) (P0:α0→α1→AH→Prop) (P1:α0→α1→AH→Prop) (u:β) (σ:AH):Prop
 | mk (x0:α0) (x1:α1):P x0 x1 u→P0 x0 x1 σ→P1 x0 x1 σ→EI2_2 P P0 P1 u σ
inductive EI2_3 {α0 α1 β:Type} (P:α0→α1→β→Prop) (P0:α0→α1→AH→Prop) (P1:α0→α1→AH→Prop) (P2:α0→α1→AH→Prop) (u:β) (σ:AH):Prop
 | mk (x0:α0) (x1:α1):P x0 x1 u→P0 x0 x1 σ→P1 x0 x1 σ→P2 x0 x1 σ→EI2_3 P P0 P1 P2 u σ
inductive EI2_4 {α0 α1 β:Type} (P:α0→α1→β→Prop) (P0:α0→α1→AH→Prop) (P1:α0→α1→AH→Prop) (P2:α0→α1→AH→Prop) (P3:α0→α1→AH→Prop) (u:β) (σ:AH):Prop
 | mk (x0:α0) (x1:α1):P x0 x1 u→P0 x0 x1 σ→P1 x0 x1 σ→P2 x0 x1 σ→P3 x0 x1 σ→EI2_4 P P0 P1 P2 P3 u σ
inductive EI2_5 {α0 α1 β:Type} (P:α0→α1→β→Prop) (P0:α0→α1→AH→Prop) (P1:α0→α1→AH→Prop) (P2:α0→α1→AH→Prop) (P3:α0→α1→AH→Prop) (P4:α0→α1→AH→Prop) (u:β) (σ:AH):Prop
 | mk (x0:α0) (x1:α1):P x0 x1 u→P0 x0 x1 σ→P1 x0 x1 σ→P2 x0 x1 σ→P3 x0 x1 σ→P4 x0 x1 σ→EI2_5 P P0 P1 P2 P3 P4 u σ
inductive EI3_1 {α0 α1 α2 β:Type} (P:α0→α1→α2→β→Prop) (P0:α0→α1→α2→AH→Prop) (u:β) (σ:AH):Prop
 | mk (x0:α0) (x1:α1) (x2:α2):P x0 x1 x2 u→P0 x0 x1 x2 σ→EI3_1 P P0 u σ
inductive EI3_2 {α0 α1 α2 β:Type} (P:α0→α1→α2→β→Prop) (P0:α0→α1→α2→AH→Prop) (P1:α0→α1→α2→AH→Prop) (u:β) (σ:AH):Prop
 | mk (x0:α0) (x1:α1) (x2:α2):P x0 x1 x2 u→P0 x0 x1 x2 σ→P1 x0 x1 x2 σ→EI3_2 P P0 P1 u σ
inductive EI3_4 {α0 α1 α2 β:Type} (P:α0→α1→α2→β→Prop) (P0:α0→α1→α2→AH→Prop) (P1:α0→α1→α2→AH→Prop) (P2:α0→α1→α2→AH→Prop) (P3:α0→α1→α2→AH→Prop) (u:β) (σ:AH):Prop
 | mk (x0:α0) (x1:α1) (x2:α2):P x0 x1 x2 u→P0 x0 x1 x2 σ→P1 x0 x1 x2 σ→P2 x0 x1 x2 σ→P3 x0 x1 x2 σ→EI3_4 P P0 P1 P2 P3 u σ
inductive EI3_8 {α0 α1 α2 β:Type} (P:α0→α1→α2→β→Prop) (P0:α0→α1→α2→AH→Prop) (P1:α0→α1→α2→AH→Prop) (P2:α0→α1→α2→AH→Prop) (P3:α0→α1→α2→AH→Prop) (P4:α0→α1→α2→AH→Prop) (P5:α0→α1→α2→AH→Prop) (P6:α0→α1→α2→AH→Prop) (P7:α0→α1→α2→AH→Prop) (u:β) (σ:AH):Prop
 | mk (x0:α0) (x1:α1) (x2:α2):P x0 x1 x2 u→P0 x0 x1 x2 σ→P1 x0 x1 x2 σ→P2 x0 x1 x2 σ→P3 x0 x1 x2 σ→P4 x0 x1 x2 σ→P5 x0 x1 x2 σ→P6 x0 x1 x2 σ→P7 x0 x1 x2 σ→EI3_8 P P0 P1 P2 P3 P4 P5 P6 P7 u σ
inductive EI4_1 {α0 α1 α2 α3 β:Type} (P:α0→α1→α2→α3→β→Prop) (P0:α0→α1→α2→α3→AH→Prop) (u:β) (σ:AH):Prop
 | mk (x0:α0) (x1:α1) (x2:α2) (x3:α3):P x0 x1 x2 x3 u→P0 x0 x1 x2 x3 σ→EI4_1 P P0 u σ
inductive EI4_2 {α0 α1 α2 α3 β:Type} (P:α0→α1→α2→α3→β→Prop) (P0:α0→α1→α2→α3→AH→Prop) (P1:α0→α1→α2→α3→AH→Prop) (u:β) (σ:AH):Prop
 | mk (x0:α0) (x1:α1) (x2:α2) (x3:α3):P x0 x1 x2 x3 u→P0 x0 x1 x2 x3 σ→P1 x0 x1 x2 x3 σ→EI4_2 P P0 P1 u σ
inductive EI4_3 {α0 α1 α2 α3 β:Type} (P:α0→α1→α2→α3→β→Prop) (P0:α0→α1→α2→α3→AH→Prop) (P1:α0→α1→α2→α3→AH→Prop) (P2:α0→α1→α2→α3→AH→Prop) (u:β) (σ:AH):Prop
 | mk (x0:α0) (x1:α1) (x2:α2) (x3:α3):P x0 x1 x2 x3 u→P0 x0 x1 x2 x3 σ→P1 x0 x1 x2 x3 σ→P2 x0 x1 x2 x3 σ→EI4_3 P P0 P1 P2 u σ
inductive EI4_4 {α0 α1 α2 α3 β:Type} (P:α0→α1→α2→α3→β→Prop) (P0:α0→α1→α2→α3→AH→Prop) (P1:α0→α1→α2→α3→AH→Prop) (P2:α0→α1→α2→α3→AH→Prop) (P3:α0→α1→α2→α3→AH→Prop) (u:β) (σ:AH):Prop
 | mk (x0:α0) (x1:α1) (x2:α2) (x3:α3):P x0 x1 x2 x3 u→P0 x0 x1 x2 x3 σ→P1 x0 x1 x2 x3 σ→P2 x0 x1 x2 x3 σ→P3 x0 x1 x2 x3 σ→EI4_4 P P0 P1 P2 P3 u σ
inductive EI4_6 {α0 α1 α2 α3 β:Type} (P:α0→α1→α2→α3→β→Prop) (P0:α0→α1→α2→α3→AH→Prop) (P1:α0→α1→α2→α3→AH→Prop) (P2:α0→α1→α2→α3→AH→Prop) (P3:α0→α1→α2→α3→AH→Prop) (P4:α0→α1→α2→α3→AH→Prop) (P5:α0→α1→α2→α3→AH→Prop) (u:β) (σ:AH):Prop
 | mk (x0:α0) (x1:α1) (x2:α2) (x3:α3):P x0 x1 x2 x3 u→P0 x0 x1 x2 x3 σ→P1 x0 x1 x2 x3 σ→P2 x0 x1 x2 x3 σ→P3 x0 x1 x2 x3 σ→P4 x0 x1 x2 x3 σ→P5 x0 x1 x2 x3 σ→EI4_6 P P0 P1 P2 P3 P4 P5 u σ
inductive EI4_8 {α0 α1 α2 α3 β:Type} (P:α0→α1→α2→α3→β→Prop) (P0:α0→α1→α2→α3→AH→Prop) (P1:α0→α1→α2→α3→AH→Prop) (P2:α0→α1→α2→α3→AH→Prop) (P3:α0→α1→α2→α3→AH→Prop) (P4:α0→α1→α2→α3→AH→Prop) (P5:α0→α1→α2→α3→AH→Prop) (P6:α0→α1→α2→α3→AH→Prop) (P7:α0→α1→α2→α3→AH→Prop) (u:β) (σ:AH):Prop
 | mk (x0:α0) (x1:α1) (x2:α2) (x3:α3):P x0 x1 x2 x3 u→P0 x0 x1 x2 x3 σ→P1 x0 x1 x2 x3 σ→P2 x0 x1 x2 x3 σ→P3 x0 x1 x2 x3 σ→P4 x0 x1 x2 x3 σ→P5 x0 x1 x2 x3 σ→P6 x0 x1 x2 x3 σ→P7 x0 x1 x2 x3 σ→EI4_8 P P0 P1 P2 P3 P4 P5 P6 P7 u σ
inductive EI5_2 {α0 α1 α2 α3 α4 β:Type} (P:α0→α1→α2→α3→α4→β→Prop) (P0:α0→α1→α2→α3→α4→AH→Prop) (P1:α0→α1→α2→α3→α4→AH→Prop) (u:β) (σ:AH):Prop
 | mk (x0:α0) (x1:α1) (x2:α2) (x3:α3) (x4:α4):P x0 x1 x2 x3 x4 u→P0 x0 x1 x2 x3 x4 σ→P1 x0 x1 x2 x3 x4 σ→EI5_2 P P0 P1 u σ
inductive EI5_8 {α0 α1 α2 α3 α4 β:Type} (P:α0→α1→α2→α3→α4→β→Prop) (P0:α0→α1→α2→α3→α4→AH→Prop) (P1:α0→α1→α2→α3→α4→AH→Prop) (P2:α0→α1→α2→α3→α4→AH→Prop) (P3:α0→α1→α2→α3→α4→AH→Prop) (P4:α0→α1→α2→α3→α4→AH→Prop) (P5:α0→α1→α2→α3→α4→AH→Prop) (P6:α0→α1→α2→α3→α4→AH→Prop) (P7:α0→α1→α2→α3→α4→AH→Prop) (u:β) (σ:AH):Prop
 | mk (x0:α0) (x1:α1) (x2:α2) (x3:α3) (x4:α4):P x0 x1 x2 x3 x4 u→P0 x0 x1 x2 x3 x4 σ→P1 x0 x1 x2 x3 x4 σ→P2 x0 x1 x2 x3 x4 σ→P3 x0 x1 x2 x3 x4 σ→P4 x0 x1 x2 x3 x4 σ→P5 x0 x1 x2 x3 x4 σ→P6 x0 x1 x2 x3 x4 σ→P7 x0 x1 x2 x3 x4 σ→EI5_8 P P0 P1 P2 P3 P4 P5 P6 P7 u σ
inductive EI5_9 {α0 α1 α2 α3 α4 β:Type} (P:α0→α1→α2→α3→α4→β→Prop) (P0:α0→α1→α2→α3→α4→AH→Prop) (P1:α0→α1→α2→α3→α4→AH→Prop) (P2:α0→α1→α2→α3→α4→AH→Prop) (P3:α0→α1→α2→α3→α4→AH→Prop) (P4:α0→α1→α2→α3→α4→AH→Prop) (P5:α0→α1→α2→α3→α4→AH→Prop) (P6:α0→α1→α2→α3→α4→AH→Prop) (P7:α0→α1→α2→α3→α4→AH→Prop) (P8:α0→α1→α2→α3→α4→AH→Prop) (u:β) (σ:AH):Prop
 | mk (x0:α0) (x1:α1) (x2:α2) (x3:α3) (x4:α4):P x0 x1 x2 x3 x4 u→P0 x0 x1 x2 x3 x4 σ→P1 x0 x1 x2 x3 x4 σ→P2 x0 x1 x2 x3 x4 σ→P3 x0 x1 x2 x3 x4 σ→P4 x0 x1 x2 x3 x4 σ→P5 x0 x1 x2 x3 x4 σ→P6 x0 x1 x2 x3 x4 σ→P7 x0 x1 x2 x3 x4 σ→P8 x0 x1 x2 x3 x4 σ→EI5_9 P P0 P1 P2 P3 P4 P5 P6 P7 P8 u σ
inductive EI6_1 {α0 α1 α2 α3 α4 α5 β:Type} (P:α0→α1→α2→α3→α4→α5→β→Prop) (P0:α0→α1→α2→α3→α4→α5→AH→Prop) (u:β) (σ:AH):Prop
 | mk (x0:α0) (x1:α1) (x2:α2) (x3:α3) (x4:α4) (x5:α5):P x0 x1 x2 x3 x4 x5 u→P0 x0 x1 x2 x3 x4 x5 σ→EI6_1 P P0 u σ
inductive EI7_2 {α0 α1 α2 α3 α4 α5 α6 β:Type} (P:α0→α1→α2→α3→α4→α5→α6→β→Prop) (P0:α0→α1→α2→α3→α4→α5→α6→AH→Prop) (P1:α0→α1→α2→α3→α4→α5→α6→AH→Prop) (u:β) (σ:AH):Prop
 | mk (x0:α0) (x1:α1) (x2:α2) (x3:α3) (x4:α4) (x5:α5) (x6:α6):P x0 x1 x2 x3 x4 x5 x6 u→P0 x0 x1 x2 x3 x4 x5 x6 σ→P1 x0 x1 x2 x3 x4 x5 x6 σ→EI7_2 P P0 P1 u σ
inductive EI7_7 {α0 α1 α2 α3 α4 α5 α6 β:Type} (P:α0→α1→α2→α3→α4→α5→α6→β→Prop) (P0:α0→α1→α2→α3→α4→α5→α6→AH→Prop) (P1:α0→α1→α2→α3→α4→α5→α6→AH→Prop) (P2:α0→α1→α2→α3→α4→α5→α6→AH→Prop) (P3:α0→α1→α2→α3→α4→α5→α6→AH→Prop) (P4:α0→α1→α2→α3→α4→α5→α6→AH→Prop) (P5:α0→α1→α2→α3→α4→α5→α6→AH→Prop) (P6:α0→α1→α2→α3→α4→α5→α6→AH→Prop) (u:β) (σ:AH):Prop
 | mk (x0:α0) (x1:α1) (x2:α2) (x3:α3) (x4:α4) (x5:α5) (x6:α6):P x0 x1 x2 x3 x4 x5 x6 u→P0 x0 x1 x2 x3 x4 x5 x6 σ→P1 x0 x1 x2 x3 x4 x5 x6 σ→P2 x0 x1 x2 x3 x4 x5 x6 σ→P3 x0 x1 x2 x3 x4 x5 x6 σ→P4 x0 x1 x2 x3 x4 x5 x6 σ→P5 x0 x1 x2 x3 x4 x5 x6 σ→P6 x0 x1 x2 x3 x4 x5 x6 σ→EI7_7 P P0 P1 P2 P3 P4 P5 P6 u σ
inductive EI7_9 {α0 α1 α2 α3 α4 α5 α6 β:Type} (P:α0→α1→α2→α3→α4→α5→α6→β→Prop) (P0:α0→α1→α2→α3→α4→α5→α6→AH→Prop) (P1:α0→α1→α2→α3→α4→α5→α6→AH→Prop) (P2:α0→α1→α2→α3→α4→α5→α6→AH→Prop) (P3:α0→α1→α2→α3→α4→α5→α6→AH→Prop) (P4:α0→α1→α2→α3→α4→α5→α6→AH→Prop) (P5:α0→α1→α2→α3→α4→α5→α6→AH→Prop) (P6:α0→α1→α2→α3→α4→α5→α6→AH→Prop) (P7:α0→α1→α2→α3→α4→α5→α6→AH→Prop) (P8:α0→α1→α2→α3→α4→α5→α6→AH→Prop) (u:β) (σ:AH):Prop
 | mk (x0:α0) (x1:α1) (x2:α2) (x3:α3) (x4:α4) (x5:α5) (x6:α6):P x0 x1 x2 x3 x4 x5 x6 u→P0 x0 x1 x2 x3 x4 x5 x6 σ→P1 x0 x1 x2 x3 x4 x5 x6 σ→P2 x0 x1 x2 x3 x4 x5 x6 σ→P3 x0 x1 x2 x3 x4 x5 x6 σ→P4 x0 x1 x2 x3 x4 x5 x6 σ→P5 x0 x1 x2 x3 x4 x5 x6 σ→P6 x0 x1 x2 x3 x4 x5 x6 σ→P7 x0 x1 x2 x3 x4 x5 x6 σ→P8 x0 x1 x2 x3 x4 x5 x6 σ→EI7_9 P P0 P1 P2 P3 P4 P5 P6 P7 P8 u σ
inductive EI8_2 {α0 α1 α2 α3 α4 α5 α6 α7 β:Type} (P:α0→α1→α2→α3→α4→α5→α6→α7→β→Prop) (P0:α0→α1→α2→α3→α4→α5→α6→α7→AH→Prop) (P1:α0→α1→α2→α3→α4→α5→α6→α7→AH→Prop) (u:β) (σ:AH):Prop
 | mk (x0:α0) (x1:α1) (x2:α2) (x3:α3) (x4:α4) (x5:α5) (x6:α6) (x7:α7):P x0 x1 x2 x3 x4 x5 x6 x7 u→P0 x0 x1 x2 x3 x4 x5 x6 x7 σ→P1 x0 x1 x2 x3 x4 x5 x6 x7 σ→EI8_2 P P0 P1 u σ
inductive EI11_2 {α0 α1 α2 α3 α4 α5 α6 α7 α8 α9 α10 β:Type} (P:α0→α1→α2→α3→α4→α5→α6→α7→α8→α9→α10→β→Prop) (P0:α0→α1→α2→α3→α4→α5→α6→α7→α8→α9→α10→AH→Prop) (P1:α0→α1→α2→α3→α4→α5→α6→α7→α8→α9→α10→AH→Prop) (u:β) (σ:AH):Prop
 | mk (x0:α0) (x1:α1) (x2:α2) (x3:α3) (x4:α4) (x5:α5) (x6:α6) (x7:α7) (x8:α8) (x9:α9) (x10:α10):P x0 x1 x2 x3 x4 x5 x6 x7 x8 x9 x10 u→P0 x0 x1 x2 x3 x4 x5 x6 x7 x8 x9 x10 σ→P1 x0 x1 x2 x3 x4 x5 x6 x7 x8 x9 x10 σ→EI11_2 P P0 P1 u σ
variable {Γ:Gam} {σ:AH} {m:Env'} {Q:AFl→Env'→AH→Prop} {b:PS}
noncomputable def Bh (Γ:Gam) (b:PS) (Q:AFl→Env'→AH→Prop):AFl→Env'→AH→Prop:=fun fl m σ=>match fl with
 | .next=>pwpS Γ b Q m σ
 | .ret v=>Q (.ret v) m σ
theorem i_asg {i:Nat} {e:PE} (h:pwpE Γ e m (fun v σ=>Q .next (m.set i (some v)) σ) σ):pwpS Γ (.asg i e) Q m σ:=h
noncomputable def AugK (Γ:Gam) (op:Op2) (e:PE) (m:Env') (K:AH→Prop) (ov iv:AV) (σ:AH):Prop:=som (idxW σ ov iv) fun old=>pwpE Γ e m (fun v σ=>augW op old v (fun r σ=>setIW ov iv r K σ) σ) σ
theorem s_augK {o i e:PE} {op:Op2} (h:pwpE Γ o m (fun ov σ=>pwpE Γ i m (fun iv σ=>AugK Γ op e m (fun σ=>pwpS Γ b Q m σ) ov iv σ) σ) σ):pwpS Γ (.seq (.augI o i op e) b) Q m σ:=h
theorem s_seq {a:PS} (h:pwpS Γ a (Bh Γ b Q) m σ):pwpS Γ (.seq a b) Q m σ:=h
theorem s_nop (h:Q .next m σ):pwpS Γ .nop Q m σ:=h
theorem s_end (h:pwpS Γ b Q m σ):pwpS Γ .nop (Bh Γ b Q) m σ:=h
theorem s_asg {i:Nat} {e:PE} {v:AV} (h:ev σ m e=some v) (k:pwpS Γ b Q (m.set i (some v)) σ):pwpS Γ (.seq (.asg i e) b) Q m σ:=ev_w (Q:=fun v σ=>Bh Γ b Q .next (m.set i (some v)) σ) h k
theorem s_asgX {i:Nat} {e:PE} (h:pwpE Γ e m (fun v σ=>pwpS Γ b Q (m.set i (some v)) σ) σ):pwpS Γ (.seq (.asg i e) b) Q m σ:=h
theorem s_expr {e:PE} (h:pwpE Γ e m (fun _ σ=>pwpS Γ b Q m σ) σ):pwpS Γ (.seq (.expr e) b) Q m σ:=h
theorem s_ret {e:PE} {v:AV} (h:ev σ m e=some v) (k:Q (.ret v) m σ):pwpS Γ (.seq (.ret e) b) Q m σ:=ev_w (Q:=fun v σ=>Bh Γ b Q (.ret v) m σ) h k
theorem s_retX {e:PE} (h:pwpE Γ e m (fun v σ=>Q (.ret v) m σ) σ):pwpS Γ (.seq (.ret e) b) Q m σ:=h
theorem s_if {c:PE} {x y:PS} {t:Bool} (h:evB σ m c=some t) (k1:t=true→pwpS Γ x (Bh Γ b Q) m σ) (k2:t=false→pwpS Γ y (Bh Γ b Q) m σ):pwpS Γ (.seq (.ifS c x y) b) Q m σ:=by
 refine evB_w (Q:=fun t σ=>if t=true then pwpS Γ x (Bh Γ b Q) m σ else pwpS Γ y (Bh Γ b Q) m σ) h ?_
 cases t with
 | true=>exact k1 rfl
 | false=>exact k2 rfl
theorem s_asgA {o e:PE} {x:Str} {C dx:Addr} {v:AV} {fs:List (Str × AV)} (he:ev σ m e=some v) (ho:ev σ m o=some (.obj C dx)) (hd:σ dx=some (.attrs C fs)) (ha:Γ.attrOk C x=true) (hl:fs.length < 1000)
 (k:pwpS Γ b Q m (σ.set dx (.attrs C (putA fs x v)))):pwpS Γ (.seq (.asgA o x e) b) Q m σ:=by
 exact ev_w he (ev_w ho (attAt_of hd ⟨ha,hl,k⟩))
theorem s_asgT {is:List Nat} {e:PE} {xs:List AV} (h:ev σ m e=some (.tup xs)) (hl:xs.length=is.length) (k:pwpS Γ b Q (asgs is xs m) σ):pwpS Γ (.seq (.asgT is e) b) Q m σ:=
 ev_w h ⟨hl,k⟩
theorem s_append {o e:PE} {a:Addr} {xs:List AV} {v:AV} (ho:ev σ m o=some (.ref a)) (ha:σ a=some (.list xs)) (he:ev σ m e=some v) (hl:xs.length < LIM)
 (k:pwpS Γ b Q m (σ.set a (.list (xs++[v])))):pwpS Γ (.seq (.expr (.bm o .append (.cons e .nil))) b) Q m σ:=by
 exact s_expr (e_bmO (ev_w ho (som_of ha ⟨⟨BM.noConfusion,BM.noConfusion⟩,es_cons (ev_w he (es_nil (bmK_of ha trivial ⟨hl,k⟩)))⟩)))
end
noncomputable def VC (Γ:Gam) (ps:PS) (n m:Nat) (t:Tr):Prop:=∀ args Q σ,t args Q σ→args.length=n∧pwpS Γ ps (fun fl _ σ'=>Q (flv fl) σ') (env0 (m - n) args) σ
noncomputable def spInt (g:Gl):Int:=match g.special with | some k=>k | none=>-1
inductive T_goal_special (args:List AV) (Q:AV→AH→Prop) (σ:AH):Prop
 | mk (g:Gl):(args=[encG g])→(g.ok)→(Q (.int (spInt g)) σ)→T_goal_special  args Q σ
noncomputable def t_goal_special:Tr:=T_goal_special
theorem vc_goal_special (Γ:Gam):VC Γ b_goal_special 1 1 t_goal_special:=by
 rintro args Q σ ⟨g,rfl,ho,hQ⟩
 refine ⟨rfl,?_⟩
 unfold b_goal_special
 cases g with
 | sp w k=>
  refine s_if (t:=true) ?_ (fun _=>s_ret (v:=.int k) rfl hQ) (fun h=>nomatch h)
  rcases ho with rfl | rfl | rfl <;> rfl
 | un x y=>exact s_if (t:=false) rfl (fun h=>nomatch h) (fun _=>s_end (s_ret (v:=.int (-1)) rfl hQ))
 | tm w f ts=>
  refine s_if (t:=false) ?_ (fun h=>nomatch h) (fun _=>s_end (s_ret (v:=.int (-1)) rfl hQ))
  rcases ho.1 with rfl | rfl <;> rfl
 | ct w=>
  refine s_if (t:=false) ?_ (fun h=>nomatch h) (fun _=>s_end (s_ret (v:=.int (-1)) rfl hQ))
  rcases ho with rfl | rfl <;> rfl
inductive T_goal_terms (args:List AV) (Q:AV→AH→Prop) (σ:AH):Prop
 | mk (g:Gl):(args=[encG g])→(g.ok)→(Q (.tup (encs g.terms)) σ)→T_goal_terms  args Q σ
noncomputable def t_goal_terms:Tr:=T_goal_terms
theorem vc_goal_terms (Γ:Gam):VC Γ b_goal_terms 1 2 t_goal_terms:=by
 rintro args Q σ ⟨g,rfl,ho,hQ⟩
 refine ⟨rfl,?_⟩
 unfold b_goal_terms
 cases g with
 | sp w k=>
  refine s_asg (v:=.str w) rfl (s_if (t:=false) ?_ (fun h=>nomatch h) (fun _=>s_end (s_if (t:=false) ?_ (fun h=>nomatch h) (fun _=>s_end (s_ret (v:=.tup []) rfl hQ)))))
  all_goals rcases ho with rfl | rfl | rfl <;> rfl
 | un x y=>exact s_asg (v:=.str (S "unify")) rfl (s_if (t:=false) rfl (fun h=>nomatch h) (fun _=>s_end (s_if (t:=true) rfl (fun _=>s_ret (v:=.tup [enc x,enc y]) rfl hQ) (fun h=>nomatch h))))
 | tm w f ts=>
  refine s_asg (v:=.str w) rfl (s_if (t:=true) ?_ (fun _=>s_ret (v:=.tup (encs ts)) rfl hQ) (fun h=>nomatch h))
  rcases ho.1 with rfl | rfl <;> rfl
 | ct w=>
  refine s_asg (v:=.str w) rfl (s_if (t:=false) ?_ (fun h=>nomatch h) (fun _=>s_end (s_if (t:=false) ?_ (fun h=>nomatch h) (fun _=>s_end (s_ret (v:=.tup []) rfl hQ)))))
  all_goals rcases ho with rfl | rfl <;> rfl
inductive T_KernelInit (args:List AV) (Q:AV→AH→Prop) (σ:AH):Prop
 | mk (dx:Addr) (f a g c:AV):(args=[.obj 52 dx,f,a,g,c])→(σ dx=some (.attrs 52 []))→(Q .none ((((σ.set dx (.attrs 52 [(S "functor",f)])).set dx (.attrs 52 [(S "functor",f),(S "args",a)])).set dx (.attrs 52 [(S "functor",f),(S "args",a),(S "goals",g)])).set dx (.attrs 52 [(S "functor",f),(S "args",a),(S "goals",g),(S "count",c)])))→T_KernelInit  args Q σ
noncomputable def t_KernelInit:Tr:=T_KernelInit
theorem vc_KernelInit (Γ:Gam) (hΓ:Γ.attrOk=P0.attrOk):VC Γ b_KernelClause___init__ 5 5 t_KernelInit:=by
 rintro args Q σ ⟨dx,f,a,g,c,rfl,hd,hQ⟩
 refine ⟨rfl,?_⟩
 unfold b_KernelClause___init__
 refine s_asgA (v:=f) rfl rfl hd (by rw [hΓ];decide) (by decide) ?_
 refine s_asgA (v:=a) rfl rfl (set_same _ _ _) (by rw [hΓ];decide) (show 1 < 1000 by decide) ?_
 refine s_asgA (v:=g) rfl rfl (set_same _ _ _) (by rw [hΓ];decide) (show 2 < 1000 by decide) ?_
 refine s_asgA (v:=c) rfl rfl (set_same _ _ _) (by rw [hΓ];decide) (show 3 < 1000 by decide) ?_
 exact s_nop hQ
structure Info where
 var:Int
 kind:Str
 slot:Int
 first:Str
 uns:Bool
 last:Int
 count:Int
 fch:Int
 lch:Int
noncomputable def Info.fs (i:Info):List (Str × AV):=[(S "var",.int i.var),(S "kind",.str i.kind),(S "slot",.int i.slot),(S "first",.str i.first),(S "unsafe",.bool i.uns),(S "last_goal",.int i.last),(S "count",.int i.count),(S "first_chunk",.int i.fch),(S "last_chunk",.int i.lch)]
noncomputable def Only (dx:Addr) (σ σ':AH):Prop:=∀ b,b≠dx→σ' b=σ b
theorem Only.refl (dx:Addr) (σ:AH):Only dx σ σ:=fun _ _=>rfl
theorem Only.set {dx:Addr} {σ σ':AH} (h:Only dx σ σ') (o:AO):Only dx σ (σ'.set dx o):=fun b hb=>(set_ne σ' o hb).trans (h b hb)
inductive T_VarInfoInit (args:List AV) (Q:AV→AH→Prop) (σ:AH):Prop
 | mk (dx:Addr) (k:Int) (w:Str):(args=[.obj 87 dx,.int k,.str w])→(σ dx=some (.attrs 87 []))→(∀ σ',Only dx σ σ'→σ' dx=some (.attrs 87 (Info.fs ⟨k,S "temp",0,w,false,-1,0,0,0⟩))→Q .none σ')→T_VarInfoInit  args Q σ
noncomputable def t_VarInfoInit:Tr:=T_VarInfoInit
theorem vc_VarInfoInit (Γ:Gam) (hΓ:Γ.attrOk=P0.attrOk):VC Γ b_VarInfo___init__ 3 3 t_VarInfoInit:=by
 rintro args Q σ ⟨dx,k,w,rfl,hd,hQ⟩
 refine ⟨rfl,?_⟩
 unfold b_VarInfo___init__
 refine s_asgA (v:=.int k) rfl rfl hd (by rw [hΓ];decide) (by decide) ?_
 refine s_asgA (v:=.str (S "temp")) rfl rfl (set_same _ _ _) (by rw [hΓ];decide) (show 1 < 1000 by decide) ?_
 refine s_asgA (v:=.int 0) rfl rfl (set_same _ _ _) (by rw [hΓ];decide) (show 2 < 1000 by decide) ?_
 refine s_asgA (v:=.str w) rfl rfl (set_same _ _ _) (by rw [hΓ];decide) (show 3 < 1000 by decide) ?_
 refine s_asgA (v:=.bool false) rfl rfl (set_same _ _ _) (by rw [hΓ];decide) (show 4 < 1000 by decide) ?_
 refine s_asgA (v:=.int (-1)) rfl rfl (set_same _ _ _) (by rw [hΓ];decide) (show 5 < 1000 by decide) ?_
 refine s_asgA (v:=.int 0) rfl rfl (set_same _ _ _) (by rw [hΓ];decide) (show 6 < 1000 by decide) ?_
 refine s_asgA (v:=.int 0) rfl rfl (set_same _ _ _) (by rw [hΓ];decide) (show 7 < 1000 by decide) ?_
 refine s_asgA (v:=.int 0) rfl rfl (set_same _ _ _) (by rw [hΓ];decide) (show 8 < 1000 by decide) ?_
 exact s_nop (hQ _ (((((((((Only.refl _ _).set _).set _).set _).set _).set _).set _).set _).set _ |>.set _) (set_same _ _ _))
section
variable {Γ:Gam} {σ:AH} {m:Env'} {Q:AFl→Env'→AH→Prop} {b:PS}
theorem s_augV {i:Nat} {e:PE} {x y:Int} {op:Op2} {r:AV} (ho:varV m i=some (.int x)) (he:ev σ m e=some (.int y)) (hr:r=match op with | .add=>.int (x+y) | _=>.int (x - y)) (hop:op=.add∨op=.sub)
 (k:pwpS Γ b Q (m.set i (some r)) σ):pwpS Γ (.seq (.augV i op e) b) Q m σ:=by
 refine som_of (varV_w ho) (som_of rfl (ev_w he ?_))
 subst hr
 rcases hop with rfl | rfl <;> exact k
theorem s_asgIl {o i e:PE} {a:Addr} {n:Int} {xs:List AV} {v:AV} (he:ev σ m e=some v) (ho:ev σ m o=some (.ref a)) (hi:ev σ m i=some (.int n)) (ha:σ a=some (.list xs)) (h0:0≤n) (h1:n < xs.length)
 (k:pwpS Γ b Q m (σ.set a (.list (xs.set n.toNat v)))):pwpS Γ (.seq (.asgI o i e) b) Q m σ:=by
 exact ev_w he (ev_w ho (ev_w hi (som_of ha ⟨h0,h1,k⟩)))
theorem s_asgId {o i e:PE} {a:Addr} {n:Int} {kvs:List (Int × AV)} {ep:Nat} {v:AV} (he:ev σ m e=some v) (ho:ev σ m o=some (.ref a)) (hi:ev σ m i=some (.int n)) (ha:σ a=some (.dict kvs ep)) (hl:kvs.length < LIM)
 (k:∀ ep',((kvs.any fun p=>decide (p.1=n))=true→ep'=ep)→pwpS Γ b Q m (σ.set a (.dict (putD kvs n v) ep'))):pwpS Γ (.seq (.asgI o i e) b) Q m σ:=by
 exact ev_w he (ev_w ho (ev_w hi (som_of ha ⟨hl,k⟩)))
end
noncomputable def chunksOf (c:Nat):List Gl→List Nat
 | []=>[]
 | g::gs=>c::chunksOf (if g.isCall=true then c+1 else c) gs
noncomputable def natsV (l:List Nat):List AV:=l.map fun (n:Nat)=>AV.int (n:Int)
inductive T_chunk_numbers (args:List AV) (Q:AV→AH→Prop) (σ:AH):Prop
 | mk (a:Addr) (gs:List Gl):(args=[.ref a])→(σ a=some (.list (gs.map encG)))→((∀ g ∈ gs,g.ok))→(gs.length≤1000)→(∀ (r:Addr) (σ':AH),σ r=none→Only r σ σ'→σ' r=some (.list (natsV (chunksOf 0 gs)))→Q (.ref r) σ')→T_chunk_numbers  args Q σ
noncomputable def t_chunk_numbers:Tr:=T_chunk_numbers
theorem sameSrc_list {σ₀ σ:AH} {a:Addr} {xs:List AV} (h:σ₀ a=some (.list xs)) (h':σ a=some (.list xs)):sameSrc σ₀ σ (.ref a):=by
 unfold sameSrc
 dsimp only
 rw [h,h']
theorem encG_call {g:Gl} (h:g.ok) (σ:AH) (m:Env') (i:Nat) (hm:varV m i=some (encG g)):evB σ m (.cmp .eq (.idx (.var i) (.lit (.int 0))) (.lit (.str (S "call"))))=some g.isCall:=by
 show ((varV m i).bind fun v=>idxW σ v (.int 0)).bind (fun v=>cmpW .eq σ v (.str (S "call")))=_
 rw [hm]
 cases g with
 | sp w k=>rcases h with rfl | rfl | rfl <;> rfl
 | un x y=>rfl
 | tm w f ts=>rcases h.1 with rfl | rfl <;> rfl
 | ct w=>rcases h with rfl | rfl <;> rfl
section
variable {Γ:Gam} {σ:AH} {m:Env'} {Q:AFl→Env'→AH→Prop} {b:PS}
theorem items_list {a:Addr} {xs:List AV} (h:σ a=some (.list xs)):itemsOf σ (.ref a)=some xs:=by show (σ a).bind itemsO=_;rw [h];rfl
theorem items_dict {a:Addr} {kvs:List (Int × AV)} {ep:Nat} (h:σ a=some (.dict kvs ep)):itemsOf σ (.ref a)=some (kvs.map fun p=>.int p.1):=by show (σ a).bind itemsO=_;rw [h];rfl
theorem items_rng {n:Nat}:itemsOf σ (.rng 0 n)=some ((List.range n).map fun (i:Nat)=>AV.int (i:Int)):=by
 unfold itemsOf
 simp
theorem forW_I {α:Type} {f:α→AV} {all:List α} {B:(AFl→Env'→AH→Prop)→Env'→AH→Prop} {t:List Nat} {single:Bool} {σ₀:AH} {src:AV}
 (I:List α→Env'→AH→Prop) (hsrc:∀ pre m σ,I pre m σ→sameSrc σ₀ σ src)
 (hs:∀ pre x post m σ K,all=pre++x::post→I pre m σ→(∀ m' σ',I (pre++[x]) m' σ'→K .next m' σ')→(∀ v m' σ',Q (.ret v) m' σ'→K (.ret v) m' σ')→∃ vs,tgts t single (f x)=some vs∧B K (asgs t vs m) σ)
 (hk:∀ m σ,I all m σ→Q .next m σ):∀ (post pre:List α) (m:Env') (σ:AH),all=pre++post→I pre m σ→forW B t single σ₀ src (post.map f) Q m σ
 | [],pre,m,σ,e,h=>⟨hsrc _ _ _ h,hk _ _ (by rw [e,List.append_nil];exact h)⟩
 | x::post,pre,m,σ,e,h=>by
  obtain ⟨vs,h1,h2⟩:=hs pre x post m σ (fun fl m σ=>match fl with
   | .next=>forW B t single σ₀ src (post.map f) Q m σ
   | .ret v=>Q (.ret v) m σ) e h (fun m' σ' h'=>forW_I I hsrc hs hk post (pre++[x]) m' σ' (by rw [e,List.append_assoc];rfl) h') (fun _ _ _ q=>q)
  exact ⟨hsrc _ _ _ h,som_of h1 h2⟩
noncomputable def ForK (Γ:Gam) (t:List Nat) (single rev:Bool) (body:PS) (Q:AFl→Env'→AH→Prop) (m:Env') (v:AV) (σ₀:AH):Prop:=som (itemsOf σ₀ v) fun xs=>(rev=true→∃ ys,v=.tup ys)∧(single=false→asR v fun a=>lstAt (σ₀ a) fun _=>True)∧forW (fun Q m σ=>pwpS Γ body Q m σ) t single σ₀ v (if rev=true then xs.reverse else xs) Q m σ₀
theorem s_forX {t:List Nat} {single rev:Bool} {e:PE} {body:PS} (h:pwpE Γ e m (ForK Γ t single rev body (Bh Γ b Q) m) σ):pwpS Γ (.seq (.forS t single rev e body) b) Q m σ:=by
 exact h
theorem forK_one {α:Type} {f:α→AV} {all:List α} {i:Nat} {body:PS} {v:AV} (I:List α→Env'→AH→Prop) (hx:itemsOf σ v=some (all.map f)) (h0:I [] m σ)
 (hsrc:∀ pre m σ',I pre m σ'→sameSrc σ σ' v)
 (hs:∀ pre x post m σ K,all=pre++x::post→I pre m σ→(∀ m' σ',I (pre++[x]) m' σ'→K .next m' σ')→(∀ v m' σ',Q (.ret v) m' σ'→K (.ret v) m' σ')→pwpS Γ body K (m.set i (some (f x))) σ)
 (hk:∀ m σ,I all m σ→pwpS Γ b Q m σ):ForK Γ [i] true false body (Bh Γ b Q) m v σ:=by
 exact som_of hx ⟨fun h=>(nomatch h),fun h=>(nomatch h),forW_I (Q:=Bh Γ b Q) I hsrc (fun pre x post m σ K e h k1 k2=>⟨[f x],rfl,hs pre x post m σ K e h k1 k2⟩) hk all [] m σ rfl h0⟩
theorem forK_rev {α:Type} {f:α→AV} {all:List α} {i:Nat} {body:PS} {ys:List AV} (I:List α→Env'→AH→Prop) (hx:ys.reverse=all.map f) (h0:I [] m σ)
 (hs:∀ pre x post m σ K,all=pre++x::post→I pre m σ→(∀ m' σ',I (pre++[x]) m' σ'→K .next m' σ')→(∀ v m' σ',Q (.ret v) m' σ'→K (.ret v) m' σ')→pwpS Γ body K (m.set i (some (f x))) σ)
 (hk:∀ m σ,I all m σ→pwpS Γ b Q m σ):ForK Γ [i] true true body (Bh Γ b Q) m (.tup ys) σ:=by
 refine ⟨fun _=>⟨ys,rfl⟩,fun h=>(nomatch h),?_⟩
 rw [if_pos rfl,hx]
 exact forW_I (Q:=Bh Γ b Q) (t:=[i]) (single:=true) (σ₀:=σ) (src:=.tup ys) (B:=fun Q m σ=>pwpS Γ body Q m σ) I (fun _ _ _ _=>trivial) (fun pre x post m σ K e h k1 k2=>⟨[f x],rfl,hs pre x post m σ K e h k1 k2⟩) hk all [] m σ rfl h0
theorem forK_many {α:Type} {f:α→List AV} {all:List α} {t:List Nat} {body:PS} {a:Addr} (I:List α→Env'→AH→Prop) (hx:σ a=some (.list (all.map fun x=>.tup (f x)))) (ht:∀ x,(f x).length=t.length) (h0:I [] m σ)
 (hsrc:∀ pre m σ',I pre m σ'→σ' a=σ a)
 (hs:∀ pre x post m σ K,all=pre++x::post→I pre m σ→(∀ m' σ',I (pre++[x]) m' σ'→K .next m' σ')→(∀ v m' σ',Q (.ret v) m' σ'→K (.ret v) m' σ')→pwpS Γ body K (asgs t (f x) m) σ)
 (hk:∀ m σ,I all m σ→pwpS Γ b Q m σ):ForK Γ t false false body (Bh Γ b Q) m (.ref a) σ:=by
 refine som_of (items_list hx) ⟨fun h=>(nomatch h),fun _=>lstAt_of hx trivial,forW_I (Q:=Bh Γ b Q) (f:=fun x=>.tup (f x)) I (fun pre m σ' h=>sameSrc_list hx ((hsrc _ _ _ h).trans hx)) (fun pre x post m σ K e h k1 k2=>⟨f x,?_,hs pre x post m σ K e h k1 k2⟩) hk all [] m σ rfl h0⟩
 exact if_pos (ht x)
theorem range_split {n x:Nat} {pre post:List Nat} (h:List.range n=pre++x::post):x=pre.length∧pre.length < n:=by
 have h1:(List.range n)[pre.length]?=some x:=by rw [h];simp
 have h2:pre.length < n:=by
  have:=congrArg List.length h
  simp at this
  lia
 rw [List.getElem?_range h2] at h1
 exact ⟨(Option.some.inj h1).symm,h2⟩
theorem forK_rng {n:Nat} {i:Nat} {body:PS} (I:Nat→Env'→AH→Prop) (h0:I 0 m σ)
 (hs:∀ (k:Nat) m σ K,k < n→I k m σ→(∀ m' σ',I (k+1) m' σ'→K .next m' σ')→(∀ v m' σ',Q (.ret v) m' σ'→K (.ret v) m' σ')→pwpS Γ body K (m.set i (some (.int k))) σ)
 (hk:∀ m σ,I n m σ→pwpS Γ b Q m σ):ForK Γ [i] true false body (Bh Γ b Q) m (.rng 0 n) σ:=
 forK_one (fun pre m σ=>I pre.length m σ) items_rng h0 (fun _ _ _ _=>trivial) (fun pre x post m σ K e h k1 k2=>by
  obtain ⟨e1,e2⟩:=range_split e
  subst e1
  exact hs _ m σ K e2 h (fun m' σ' h'=>k1 m' σ' (by rw [List.length_append];exact h')) k2) (fun m σ h=>hk m σ (by rwa [List.length_range] at h))
theorem s_whlG {c:PE} {body:PS} (I J:Nat→Env'→AH→Prop) {n:Nat} (h0:I n m σ)
 (hc:∀ n m σ (C:Bool→AH→Prop),I n m σ→(∀ σ',J n m σ'→C true σ')→(∀ σ',pwpS Γ b Q m σ'→C false σ')→pwpB Γ c m C σ)
 (hb:∀ n m σ (K:AFl→Env'→AH→Prop),J n m σ→(∀ n' m' σ',n' < n→I n' m' σ'→K .next m' σ')→(∀ v m' σ',Q (.ret v) m' σ'→K (.ret v) m' σ')→pwpS Γ body K m σ):
 pwpS Γ (.seq (.whl c body) b) Q m σ:=by
 have main:∀ (fuel n:Nat) (m:Env') (σ:AH),n < fuel→I n m σ→whileW (fun m Q σ=>pwpB Γ c m Q σ) (fun Q m σ=>pwpS Γ body Q m σ) fuel (Bh Γ b Q) m σ:=by
  intro fuel
  induction fuel with
  | zero=>intro n m σ h;exact absurd h (Nat.not_lt_zero _)
  | succ f ih=>
   intro n m σ hn hI
   exact hc n m σ _ hI (fun σ' hJ=>(if_pos rfl).mpr (hb n m σ' _ hJ (fun n' m' σ' hn' hI'=>ih n' m' σ' (by lia) hI') (fun _ _ _ q=>q))) (fun σ' hk=>(if_neg Bool.false_ne_true).mpr hk)
 exact s_seq ⟨n+1,main _ _ _ _ (Nat.lt_succ_self n) h0⟩
theorem s_whl {c:PE} {body:PS} (I:Nat→Env'→AH→Prop) {n:Nat} (h0:I n m σ)
 (hs:∀ n m σ,I n m σ→∃ t,evB σ m c=some t∧(t=false→pwpS Γ b Q m σ)∧(t=true→∀ (K:AFl→Env'→AH→Prop),(∀ n' m' σ',n' < n→I n' m' σ'→K .next m' σ')→(∀ v m' σ',Q (.ret v) m' σ'→K (.ret v) m' σ')→pwpS Γ body K m σ)):
 pwpS Γ (.seq (.whl c body) b) Q m σ:=by
 refine s_whlG I (fun n m σ=>I n m σ∧evB σ m c=some true) h0 (fun n m σ C hI k1 k2=>?_) (fun n m σ K hJ k1 k2=>?_)
 · obtain ⟨t,h1,h2,h3⟩:=hs n m σ hI
   refine evB_w h1 ?_
   cases t with
   | true=>exact k1 σ ⟨hI,h1⟩
   | false=>exact k2 σ (h2 rfl)
 · obtain ⟨t,h1,h2,h3⟩:=hs n m σ hJ.1
   exact h3 (Option.some.inj (h1.symm.trans hJ.2)) K k1 k2
variable {R:AV→AH→Prop}
theorem es_ev {P:List AV→AH→Prop} {e:PE} {es:PEs} {v:AV} (h:ev σ m e=some v) (k:pwpEs Γ es m (fun vs σ=>P (v::vs) σ) σ):pwpEs Γ (.cons e es) m P σ:=ev_w (Q:=fun v σ=>pwpEs Γ es m (fun vs σ=>P (v::vs) σ) σ) h k
theorem xs_nil:evs σ m .nil=some []:=rfl
theorem xs_cons {e:PE} {es:PEs} {v:AV} {vs:List AV} (h:ev σ m e=some v) (k:evs σ m es=some vs):evs σ m (.cons e es)=some (v::vs):=by
 show ((ev σ m e).bind fun v=>(evs σ m es).map fun vs=>v::vs)=_
 rw [h,k]
 rfl
theorem e_call {f:Str} {t:Tr} {es:PEs} (hf:Γ.fn f=some t) (h:pwpEs Γ es m (fun vs σ=>t vs R σ) σ):pwpE Γ (.call f es) m R σ:=by
 exact som_of hf h
theorem e_new {f:Str} {C:Addr} {t:Tr} {es:PEs} (hf:Γ.cls f=some (C,t)) (h:pwpEs Γ es m (fun vs σ=>∀ dx,σ dx=none→t (.obj C dx::vs) (fun r σ'=>r=.none∧R (.obj C dx) σ') (σ.set dx (.attrs C []))) σ):pwpE Γ (.new f es) m R σ:=by
 exact som_of hf h
theorem e_meth {e:PE} {f:Str} {C dx:Addr} {t:Tr} {es:PEs} {fs:List (Str × AV)} (ho:ev σ m e=some (.obj C dx)) (hd:σ dx=some (.attrs C fs)) (hf:Γ.mth C f=some t) (hx:fs.lookup f=none) (h:pwpEs Γ es m (fun vs σ=>t (.obj C dx::vs) R σ) σ):pwpE Γ (.meth e f es) m R σ:=by
 exact ev_w (Q:=fun o σ=>attAt σ o fun C dx fs=>som (Γ.mth C f) fun t=>fs.lookup f=none∧pwpEs Γ es m (fun vs σ=>t (.obj C dx::vs) R σ) σ) ho (attAt_of hd (som_of hf ⟨hx,h⟩))
theorem e_bm {e:PE} {f:BM} {es:PEs} {a:Addr} {xs:List AV} {vs:List AV} (ho:ev σ m e=some (.ref a)) (ha:σ a=some (.list xs)) (hf:f≠.get∧f≠.setdefault) (he:evs σ m es=some vs) (k:bmL f a xs vs R σ):pwpE Γ (.bm e f es) m R σ:=by
 exact e_bmO (ev_w ho (som_of ha ⟨hf,evs_w he (bmK_of ha trivial k)⟩))
theorem e_pop {e:PE} {a:Addr} {xs:List AV} {v:AV} (ho:ev σ m e=some (.ref a)) (ha:σ a=some (.list (xs++[v]))) (k:R v (σ.set a (.list xs))):pwpE Γ (.bm e .pop .nil) m R σ:=by
 refine e_bm ho ha ⟨by decide,by decide⟩ rfl ?_
 refine som_of (List.getLast?_concat ..) ?_
 rw [List.dropLast_concat]
 exact k
theorem e_app {e e1:PE} {a:Addr} {xs:List AV} {v:AV} (ho:ev σ m e=some (.ref a)) (ha:σ a=some (.list xs)) (h1:ev σ m e1=some v) (hl:xs.length < LIM) (k:R .none (σ.set a (.list (xs++[v])))):pwpE Γ (.bm e .append (.cons e1 .nil)) m R σ:=by
 refine e_bm ho ha ⟨by decide,by decide⟩ (xs_cons h1 xs_nil) ?_
 exact ⟨hl,k⟩
theorem e_ext {e e1:PE} {a:Addr} {xs:List AV} {ys:List AV} (ho:ev σ m e=some (.ref a)) (ha:σ a=some (.list xs)) (h1:ev σ m e1=some (.tup ys)) (hl:xs.length+ys.length≤LIM) (k:R .none (σ.set a (.list (xs++ys.reverse)))):pwpE Γ (.bm e .extendRev (.cons e1 .nil)) m R σ:=by
 refine e_bm ho ha ⟨by decide,by decide⟩ (xs_cons h1 xs_nil) ?_
 exact ⟨hl,k⟩
theorem e_ins {e e1 e2:PE} {a:Addr} {xs:List AV} {v:AV} {n:Nat} (ho:ev σ m e=some (.ref a)) (ha:σ a=some (.list xs)) (h1:ev σ m e1=some (.int n)) (h2:ev σ m e2=some v) (hn:n≤xs.length) (hl:xs.length < LIM) (k:R .none (σ.set a (.list (xs.take n++v::xs.drop n)))):pwpE Γ (.bm e .insert (.cons e1 (.cons e2 .nil))) m R σ:=by
 refine e_bm ho ha ⟨by decide,by decide⟩ (xs_cons h1 (xs_cons h2 xs_nil)) ?_
 exact ⟨Int.natCast_nonneg n,Int.ofNat_le.mpr hn,hl,k⟩
theorem e_pop0 {e:PE} {a:Addr} {xs:List AV} {v:AV} (ho:ev σ m e=some (.ref a)) (ha:σ a=some (.list (v::xs))) (k:R v (σ.set a (.list xs))):pwpE Γ (.bm e .pop (.cons (.lit (.int 0)) .nil)) m R σ:=by
 refine e_bm ho ha ⟨by decide,by decide⟩ (xs_cons rfl xs_nil) ?_
 exact ⟨rfl,k⟩
theorem e_rev {e:PE} {a:Addr} {xs:List AV} (ho:ev σ m e=some (.ref a)) (ha:σ a=some (.list xs)) (k:R .none (σ.set a (.list xs.reverse))):pwpE Γ (.bm e .reverse .nil) m R σ:=by
 refine e_bm ho ha ⟨by decide,by decide⟩ xs_nil ?_
 exact k
theorem e_list0 (k:∀ r,σ r=none→R (.ref r) (σ.set r (.list []))):pwpE Γ (.list .nil) m R σ:=e_list (es_nil ⟨by decide,k⟩)
theorem e_dict0 (k:∀ r,σ r=none→R (.ref r) (σ.set r (.dict [] 0))):pwpE Γ .dict0 m R σ:=k
theorem e_list1 {e:PE} {v:AV} (h:ev σ m e=some v) (k:∀ r,σ r=none→R (.ref r) (σ.set r (.list [v]))):pwpE Γ (.list (.cons e .nil)) m R σ:=e_list (es_ev h (es_nil ⟨show 1≤LIM by decide,k⟩))
theorem x_attr {e:PE} {x:Str} {C dx:Addr} {fs:List (Str × AV)} {v:AV} (ho:ev σ m e=some (.obj C dx)) (hd:σ dx=some (.attrs C fs)) (hx:fs.lookup x=some v):ev σ m (.attr e x)=some v:=by
 show (ev σ m e).bind (attrV σ x)=_
 rw [ho]
 show (σ dx).bind (attO C x)=_
 rw [hd]
 exact (if_pos rfl).trans hx
theorem x_idxL {e i:PE} {a:Addr} {xs:List AV} {k:Int} {v:AV} (ho:ev σ m e=some (.ref a)) (ha:σ a=some (.list xs)) (hi:ev σ m i=some (.int k)) (h:pyIdx xs k=some v):ev σ m (.idx e i)=some v:=by
 show ((ev σ m e).bind fun v=>(ev σ m i).bind fun k=>idxW σ v k)=_
 rw [ho,hi]
 show (σ a).bind (idxO k)=_
 rw [ha]
 exact h
theorem x_idxD {e i:PE} {a:Addr} {kvs:List (Int × AV)} {ep:Nat} {k:Int} {v:AV} (ho:ev σ m e=some (.ref a)) (ha:σ a=some (.dict kvs ep)) (hi:ev σ m i=some (.int k)) (h:kvs.lookup k=some v):ev σ m (.idx e i)=some v:=by
 show ((ev σ m e).bind fun v=>(ev σ m i).bind fun k=>idxW σ v k)=_
 rw [ho,hi]
 show (σ a).bind (idxO k)=_
 rw [ha]
 exact h
theorem x_idxT {e i:PE} {xs:List AV} {k:Int} {v:AV} (ho:ev σ m e=some (.tup xs)) (hi:ev σ m i=some (.int k)) (h:pyIdx xs k=some v):ev σ m (.idx e i)=some v:=by
 show ((ev σ m e).bind fun v=>(ev σ m i).bind fun k=>idxW σ v k)=_
 rw [ho,hi]
 exact h
theorem x_lenL {e:PE} {a:Addr} {xs:List AV} (ho:ev σ m e=some (.ref a)) (ha:σ a=some (.list xs)):ev σ m (.bi .len (.cons e .nil))=some (.int xs.length):=by
 show ((evs σ m (.cons e .nil)).bind fun vs=>bifV .len vs σ)=_
 rw [xs_cons ho xs_nil]
 show (σ a).bind lenO=_
 rw [ha]
 rfl
theorem x_lenD {e:PE} {a:Addr} {kvs:List (Int × AV)} {ep:Nat} (ho:ev σ m e=some (.ref a)) (ha:σ a=some (.dict kvs ep)):ev σ m (.bi .len (.cons e .nil))=some (.int kvs.length):=by
 show ((evs σ m (.cons e .nil)).bind fun vs=>bifV .len vs σ)=_
 rw [xs_cons ho xs_nil]
 show (σ a).bind lenO=_
 rw [ha]
 rfl
theorem x_rng {e:PE} {n:Nat} (h:ev σ m e=some (.int n)) (hn:n≤LIM):ev σ m (.bi .range (.cons e .nil))=some (.rng 0 n):=by
 show ((evs σ m (.cons e .nil)).bind fun vs=>bifV .range vs σ)=_
 rw [xs_cons h xs_nil]
 show (if -(LIM:Int)≤n∧(n:Int)≤LIM then some (AV.rng 0 n) else none)=_
 rw [if_pos ⟨by unfold LIM;lia,by lia⟩]
theorem x_bin {e i:PE} {o:Op2} {x y v:AV} (ho:ev σ m e=some x) (hi:ev σ m i=some y) (h:binV o x y=some v):ev σ m (.bin o e i)=some v:=by
 show ((ev σ m e).bind fun v=>(ev σ m i).bind fun k=>binV o v k)=_
 rw [ho,hi]
 exact h
theorem x_cmp {e i:PE} {o:Cm} {x y:AV} {r:Bool} (ho:ev σ m e=some x) (hi:ev σ m i=some y) (h:cmpW o σ x y=some r):ev σ m (.cmp o e i)=some (.bool r):=by
 show ((ev σ m e).bind fun v=>(ev σ m i).bind fun k=>(cmpW o σ v k).map AV.bool)=_
 rw [ho,hi]
 show (cmpW o σ x y).map AV.bool=_
 rw [h]
 rfl
theorem xb_cmp {e i:PE} {o:Cm} {x y:AV} {r:Bool} (ho:ev σ m e=some x) (hi:ev σ m i=some y) (h:cmpW o σ x y=some r):evB σ m (.cmp o e i)=some r:=by
 show ((ev σ m e).bind fun v=>(ev σ m i).bind fun k=>cmpW o σ v k)=_
 rw [ho,hi]
 exact h
theorem xb_truth {i:Nat} {a:Addr} {xs:List AV} (h:varV m i=some (.ref a)) (ha:σ a=some (.list xs)):evB σ m (.var i)=some (!xs.isEmpty):=by
 show (varV m i).bind (truthW σ)=_
 rw [h]
 show ((σ a).bind listO).map _=_
 rw [ha]
 rfl
theorem xb_all {isAnd:Bool} {e:PE} {es:PEs} {b r:Bool} (h:evB σ m e=some b) (k:b=isAnd→evAll σ m isAnd es=some r) (k':b≠isAnd→r=b):evAll σ m isAnd (.cons e es)=some r:=by
 show ((evB σ m e).bind fun b=>if b=isAnd then evAll σ m isAnd es else some b)=_
 rw [h]
 show (if b=isAnd then evAll σ m isAnd es else some b)=_
 by_cases c:b=isAnd
 · rw [if_pos c];exact k c
 · rw [if_neg c,k' c]
theorem inD {kvs:List (Int × AV)} {ep:Nat} {a:Addr} {k:Int} (ha:σ a=some (.dict kvs ep)):inW σ (.int k) (.ref a)=some (kvs.any fun p=>decide (p.1=k)):=by
 show ((σ a).bind dicO).map _=_
 rw [ha]
 rfl
noncomputable def kvsOf (f:Nat→AV) (ks:List Nat):List (Int × AV):=ks.map fun (k:Nat)=>((k:Int),f k)
theorem kvs_any {f:Nat→AV} {ks:List Nat} {k:Nat}:((kvsOf f ks).any fun p=>decide (p.1=(k:Int)))=decide (k ∈ ks):=by
 induction ks with
 | nil=>rfl
 | cons j ks ih=>
  show (decide ((j:Int)=k) || _)=_
  rw [show ((ks.map fun (k:Nat)=>((k:Int),f k)).any fun p=>decide (p.1=(k:Int)))=decide (k ∈ ks) from ih]
  by_cases c:j=k
  · simp [c]
  · have:¬ (j:Int)=k:=by lia
    have:¬ k=j:=fun h=>c h.symm
    simp [*]
theorem kvs_lookup {f:Nat→AV} {ks:List Nat} {k:Nat} (h:k ∈ ks):(kvsOf f ks).lookup (k:Int)=some (f k):=by
 induction ks with
 | nil=>cases h
 | cons j ks ih=>
  show (match (k:Int) == (j:Int) with | true=>some (f j) | false=>(kvsOf f ks).lookup (k:Int))=_
  by_cases c:j=k
  · subst c
    rw [beq_self_eq_true]
  · have:((k:Int) == (j:Int))=false:=beq_eq_false_iff_ne.mpr (by lia)
    rw [this]
    exact ih ((List.mem_cons.mp h).resolve_left fun q=>c q.symm)
theorem kvs_lookup_none {f:Nat→AV} {ks:List Nat} {k:Nat} (h:k ∉ ks):(kvsOf f ks).lookup (k:Int)=none:=by
 induction ks with
 | nil=>rfl
 | cons j ks ih=>
  show (match (k:Int) == (j:Int) with | true=>some (f j) | false=>(kvsOf f ks).lookup (k:Int))=_
  have c:j≠k:=fun q=>h (q ▸ .head _)
  have:((k:Int) == (j:Int))=false:=beq_eq_false_iff_ne.mpr (by lia)
  rw [this]
  exact ih fun q=>h (.tail _ q)
theorem kvs_putNew {f:Nat→AV} {ks:List Nat} {k:Nat} {v:AV} (h:k ∉ ks):putD (kvsOf f ks) (k:Int) v=kvsOf (fun j=>if j=k then v else f j) (ks++[k]):=by
 unfold putD
 rw [if_neg (by rw [kvs_any];simpa using h)]
 unfold kvsOf
 rw [List.map_append,List.map_singleton]
 dsimp only
 rw [if_pos rfl]
 congr 1
 refine List.map_congr_left fun j hj=>?_
 rw [if_neg fun (q:j=k)=>h (q ▸ hj)]
theorem kvs_putOld {f:Nat→AV} {ks:List Nat} {k:Nat} {v:AV} (h:k ∈ ks):putD (kvsOf f ks) (k:Int) v=kvsOf (fun j=>if j=k then v else f j) ks:=by
 unfold putD
 rw [if_pos (by rw [kvs_any];simpa using h)]
 unfold kvsOf
 rw [List.map_map]
 refine List.map_congr_left fun j hj=>?_
 dsimp only [Function.comp]
 by_cases c:j=k
 · rw [if_pos (by lia),if_pos c]
 · rw [if_neg (by lia),if_neg c]
theorem putD_lookup {kvs:List (Int × AV)} {k j:Int} {v:AV}:(putD kvs k v).lookup j=if j=k then some v else kvs.lookup j:=by
 have h1:∀ l:List (Int × AV),(l.any fun p=>decide (p.1=k))=true→(l.map (fun p=>if p.1=k then (p.1,v) else p)).lookup j=if j=k then some v else l.lookup j:=by
  intro l
  induction l with
  | nil=>intro h;injection h
  | cons p l ih=>
   intro h
   obtain ⟨i,u⟩:=p
   rw [List.map_cons]
   by_cases c:i=k
   · subst c
     rw [if_pos rfl,List.lookup_cons]
     by_cases d:j=i
     · subst d;simp
     · have:(j == i)=false:=beq_eq_false_iff_ne.mpr d
       rw [this,if_neg d,List.lookup_cons,this]
       have h2:∀ l:List (Int × AV),(l.map (fun p=>if p.1=i then (p.1,v) else p)).lookup j=l.lookup j:=by
        intro l
        induction l with
        | nil=>rfl
        | cons q l ih2=>
         obtain ⟨i',u'⟩:=q
         rw [List.map_cons]
         by_cases c':i'=i
         · rw [if_pos c',c',List.lookup_cons,List.lookup_cons,this];exact ih2
         · rw [if_neg c',List.lookup_cons,List.lookup_cons,ih2]
       exact h2 l
   · rw [if_neg c,List.lookup_cons,List.lookup_cons]
     by_cases d:j=i
     · subst d;rw [beq_self_eq_true,if_neg c]
     · have:(j == i)=false:=beq_eq_false_iff_ne.mpr d
       rw [this]
       refine ih ?_
       rw [List.any_cons,decide_eq_false c,Bool.false_or] at h
       exact h
 have h3:∀ l:List (Int × AV),(l.any fun p=>decide (p.1=k))=false→(l++[(k,v)]).lookup j=if j=k then some v else l.lookup j:=by
  intro l
  induction l with
  | nil=>
   intro _
   rw [List.nil_append,List.lookup_cons]
   by_cases d:j=k
   · simp [d]
   · rw [beq_eq_false_iff_ne.mpr d,if_neg d]
     try rfl
  | cons p l ih=>
   intro h
   obtain ⟨i,u⟩:=p
   rw [List.any_cons,Bool.or_eq_false_iff] at h
   have c:i≠k:=of_decide_eq_false h.1
   rw [List.cons_append,List.lookup_cons,List.lookup_cons]
   by_cases d:j=i
   · subst d;rw [beq_self_eq_true,if_neg c]
   · have:(j == i)=false:=beq_eq_false_iff_ne.mpr d
     rw [this]
     exact ih h.2
 unfold putD
 by_cases c:(kvs.any fun p=>decide (p.1=k))=true
 · rw [if_pos c];exact h1 _ c
 · rw [if_neg c];exact h3 _ (Bool.not_eq_true _ ▸ c)
theorem putD_length {kvs:List (Int × AV)} {k:Int} {v:AV}:(putD kvs k v).length≤kvs.length+1:=by
 unfold putD
 split
 · rw [List.length_map];lia
 · rw [List.length_append];exact Nat.le_refl _
end
theorem varss_cons (t:Tm) (ts:List Tm):varss (t::ts)=t.vars++varss ts:=rfl
theorem sizes_cons (t:Tm) (ts:List Tm):sizes (t::ts)=t.size+sizes ts:=rfl
theorem oks_cons (t:Tm) (ts:List Tm):oks (t::ts)=(t.ok∧oks ts):=rfl
noncomputable def Tm.isV:Tm→Bool
 | .v _=>true
 | _=>false
noncomputable def Tm.isS:Tm→Bool
 | .s _ _=>true
 | _=>false
theorem encs_map:∀ ts:List Tm,encs ts=ts.map enc
 | []=>by unfold encs;rfl
 | t::ts=>by unfold encs;rw [encs_map ts];rfl
theorem oks_mem:∀ {ts:List Tm},oks ts→∀ t ∈ ts,t.ok
 | t::ts,h,u,hu=>by
  rcases List.mem_cons.mp hu with e | e
  · exact e ▸ h.1
  · exact oks_mem h.2 u e
theorem oks_app:∀ {ts us:List Tm},oks ts→oks us→oks (ts++us)
 | [],us,_,h=>h
 | t::ts,us,h,k=>by
  exact ⟨h.1,oks_app h.2 k⟩
theorem oks_iff:∀ {ts:List Tm},oks ts↔∀ t ∈ ts,t.ok
 | []=>by unfold oks;simp
 | t::ts=>by unfold oks;rw [oks_iff (ts:=ts)];simp
theorem sizes_app:∀ {ts us:List Tm},sizes (ts++us)=sizes ts+sizes us
 | [],us=>by unfold sizes;simp
 | t::ts,us=>by
  show sizes (t::(ts++us))=_
  rw [sizes_cons,sizes_cons,sizes_app,Nat.add_assoc]
theorem varss_app:∀ {ts us:List Tm},varss (ts++us)=varss ts++varss us
 | [],us=>rfl
 | t::ts,us=>by
  show varss (t::(ts++us))=_
  rw [varss_cons,varss_cons,varss_app,List.append_assoc]
theorem size_pos:∀ t:Tm,0 < t.size
 | .v _=>by unfold Tm.size;decide
 | .c _ _=>by unfold Tm.size;decide
 | .s _ _=>by unfold Tm.size;lia
theorem len_sizes:∀ ts:List Tm,ts.length≤sizes ts
 | []=>Nat.zero_le _
 | t::ts=>by
  unfold sizes
  have:=len_sizes ts
  have:=size_pos t
  rw [List.length_cons]
  lia
noncomputable def nubF (acc:List Nat):List Nat→List Nat
 | []=>acc
 | k::l=>nubF (if k ∈ acc then acc else acc++[k]) l
theorem nubF_mem:∀ {l acc:List Nat} {k:Nat},k ∈ nubF acc l↔k ∈ acc∨k ∈ l
 | [],acc,k=>by unfold nubF;simp
 | j::l,acc,k=>by
  unfold nubF
  rw [nubF_mem]
  by_cases c:j ∈ acc
  · rw [if_pos c,List.mem_cons]
    constructor
    · rintro (h | h)
      · exact .inl h
      · exact .inr (.inr h)
    · rintro (h | h | h)
      · exact .inl h
      · exact .inl (h ▸ c)
      · exact .inr h
  · rw [if_neg c]
    simp [or_assoc]
theorem nubF_nodup:∀ {l acc:List Nat},acc.Nodup→(nubF acc l).Nodup
 | [],acc,h=>by unfold nubF;exact h
 | j::l,acc,h=>by
  unfold nubF
  refine nubF_nodup ?_
  by_cases c:j ∈ acc
  · rw [if_pos c];exact h
  · rw [if_neg c]
    exact List.nodup_append.mpr ⟨h,by simp,fun a ha b hb=>by rw [List.mem_singleton.mp hb];exact fun q=>c (q ▸ ha)⟩
theorem nubF_app:∀ {l l' acc:List Nat},nubF acc (l++l')=nubF (nubF acc l) l'
 | [],l',acc=>by unfold nubF;rfl
 | j::l,l',acc=>by
  show nubF _ (l++l')=_
  rw [nubF_app]
  rfl
theorem nats_app (l:List Nat) (k:Nat):natsV l++[AV.int k]=natsV (l++[k]):=by unfold natsV;rw [List.map_append];rfl
theorem natsV_length (l:List Nat):(natsV l).length=l.length:=by unfold natsV;rw [List.length_map]
theorem enc_isV {t:Tm} (h:t.ok) {σ:AH} {m:Env'} {i:Nat} (hm:varV m i=some (enc t)):evB σ m (.cmp .eq (.idx (.var i) (.lit (.int 0))) (.lit (.str (S "v"))))=some t.isV:=by
 show ((varV m i).bind fun v=>idxW σ v (.int 0)).bind (fun v=>cmpW .eq σ v (.str (S "v")))=_
 rw [hm]
 cases t with
 | v k=>rfl
 | s f ts=>rfl
 | c u n=>rcases (h:u=S "a" ∨ u=S "i") with rfl | rfl <;> rfl
theorem enc_isS {t:Tm} (h:t.ok) {σ:AH} {m:Env'} {i:Nat} (hm:varV m i=some (enc t)):evB σ m (.cmp .eq (.idx (.var i) (.lit (.int 0))) (.lit (.str (S "s"))))=some t.isS:=by
 show ((varV m i).bind fun v=>idxW σ v (.int 0)).bind (fun v=>cmpW .eq σ v (.str (S "s")))=_
 rw [hm]
 cases t with
 | v k=>rfl
 | s f ts=>rfl
 | c u n=>rcases (h:u=S "a" ∨ u=S "i") with rfl | rfl <;> rfl
theorem enc_v1 {k:Nat} {σ:AH} {m:Env'} {i:Nat} (hm:varV m i=some (enc (.v k))):ev σ m (.idx (.var i) (.lit (.int 1)))=some (.int k):=by
 refine x_idxT (xs:=[.str (S "v"),.int k]) (k:=1) ?_ rfl rfl
 rw [← show enc (.v k)=.tup [.str (S "v"),.int k] by unfold enc;rfl]
 exact hm
theorem enc_s2 {f:Int} {ts:List Tm} {σ:AH} {m:Env'} {i:Nat} (hm:varV m i=some (enc (.s f ts))):ev σ m (.idx (.var i) (.lit (.int 2)))=some (.tup (ts.map enc)):=by
 refine x_idxT (xs:=[.str (S "s"),.int f,.tup (ts.map enc)]) (k:=2) ?_ rfl rfl
 rw [← show enc (.s f ts)=.tup [.str (S "s"),.int f,.tup (ts.map enc)] by unfold enc;rw [encs_map]]
 exact hm
theorem Ext.updN {σ σ':AH} {X:List Addr} (h:Ext X σ σ') {a:Addr} (ha:σ a=none) (o:AO):Ext X σ (σ'.set a o):=fun b hb u e=>by
 rw [set_ne _ _ fun q=>by rw [q,ha] at e;injection e]
 exact h b hb u e
theorem Ext.none {σ σ':AH} (h:Ext [] σ σ') {a:Addr} (ha:σ' a=Option.none):σ a=Option.none:=by
 cases e:σ a with
 | none=>rfl
 | some o=>rw [h a (by simp) o e] at ha;injection ha
theorem ne_of {σ:AH} {a b:Addr} {o:AO} (h:σ a=some o) (h':σ b=none):a≠b:=fun q=>by rw [q,h'] at h;injection h
theorem Ext.get {σ σ':AH} (h:Ext [] σ σ') {a:Addr} {o:AO} (ha:σ a=some o):σ' a=some o:=h a (by simp) o ha
inductive T_variables_of (args:List AV) (Q:AV→AH→Prop) (σ:AH):Prop
 | mk (a:Addr) (ts:List Tm):(args=[.ref a])→(σ a=some (.list (ts.map enc)))→(oks ts)→(sizes ts≤1000)→(∀ (r:Addr) (σ':AH),σ r=none→Ext [] σ σ'→σ' r=some (.list (natsV (nubF [] (varss ts))))→Q (.ref r) σ')→T_variables_of  args Q σ
noncomputable def t_variables_of:Tr:=T_variables_of
theorem vc_variables_of (Γ:Gam):VC Γ b_variables_of 1 5 t_variables_of:=by
 rintro args Q σ ⟨a,ts,rfl,ha,ho,hl,hQ⟩
 refine ⟨rfl,?_⟩
 refine s_asgX (e_dict0 fun d hd=>?_)
 refine s_asgX (e_list0 fun r hr'=>?_)
 have hrd:r≠d:=fun q=>by rw [q,set_same] at hr';injection hr'
 have hr:σ r=none:=by rwa [set_ne _ _ hrd] at hr'
 refine s_asgX (e_bi (es_ev (v:=.ref a) rfl (es_nil ?_)))
 refine lstAt_of ((set_ne _ _ (ne_of ha hr)).trans ((set_ne _ _ (ne_of ha hd)).trans ha)) ?_
 intro t ht'
 have htr:t≠r:=fun q=>by rw [q,set_same] at ht';injection ht'
 rw [set_ne _ _ htr] at ht'
 have htd:t≠d:=fun q=>by rw [q,set_same] at ht';injection ht'
 have ht:σ t=none:=by rwa [set_ne _ _ htd] at ht'
 refine s_whl (fun n m' σ'=>EI4_8 (fun (x:Option AV) (acc:List Nat) (us:List Tm) (ep:Nat) m'=>m'=[some (.ref a),some (.ref d),some (.ref r),some (.ref t),x]) (fun (x:Option AV) (acc:List Nat) (us:List Tm) (ep:Nat) σ'=>Ext [] σ σ') (fun (x:Option AV) (acc:List Nat) (us:List Tm) (ep:Nat) σ'=>σ' d=some (.dict (kvsOf (fun _=>.bool true) acc) ep)) (fun (x:Option AV) (acc:List Nat) (us:List Tm) (ep:Nat) σ'=>σ' r=some (.list (natsV acc))) (fun (x:Option AV) (acc:List Nat) (us:List Tm) (ep:Nat) σ'=>σ' t=some (.list (us.reverse.map enc))) (fun (x:Option AV) (acc:List Nat) (us:List Tm) (ep:Nat) σ'=>oks us) (fun (x:Option AV) (acc:List Nat) (us:List Tm) (ep:Nat) σ'=>acc.length+sizes us≤1000) (fun (x:Option AV) (acc:List Nat) (us:List Tm) (ep:Nat) σ'=>nubF acc (varss us)=nubF [] (varss ts)) (fun (x:Option AV) (acc:List Nat) (us:List Tm) (ep:Nat) σ'=>sizes us≤n) m' σ')
  (n:=sizes ts) ?_ ?_
 · refine ⟨none,[],ts,0,rfl,(((Ext.refl [] σ).updN hd _).updN hr _).updN ht _,?_,?_,?_,ho,by simpa using hl,rfl,Nat.le_refl _⟩
   · rw [set_ne _ _ (Ne.symm htd),set_ne _ _ (Ne.symm hrd),set_same];rfl
   · rw [set_ne _ _ (Ne.symm htr),set_same];rfl
   · rw [set_same,List.map_reverse]
 · rintro n m' σ' ⟨x,acc,us,ep,rfl,hE,h1,h2,h3,h4,h5,h6,h7⟩
   refine ⟨_,xb_truth (i:=3) rfl h3,?_,?_⟩
   · intro e
     have:us=[]:=by cases us with
      | nil=>rfl
      | cons u us=>simp at e
     subst this
     refine s_ret (v:=.ref r) rfl (hQ r σ' hr hE ?_)
     rw [h2,← h6]
     rfl
   · intro e K hK _
     cases us with
     | nil=>injection e
     | cons u us=>
      rw [List.reverse_cons,List.map_append,List.map_singleton] at h3
      have hu:u.ok∧oks us:=h4
      have h8:u.size+sizes us≤n:=h7
      have h5':acc.length+(u.size+sizes us)≤1000:=h5
      have hp:=size_pos u
      refine s_asgX (e_pop (a:=t) rfl h3 ?_)
      refine s_if (enc_isV (i:=4) hu.1 rfl) (fun c=>?_) (fun cv=>?_)
      · cases u with
        | s f us'=>injection c
        | c w n=>injection c
        | v k=>
         have h6':nubF (if k ∈ acc then acc else acc++[k]) (varss us)=nubF [] (varss ts):=by
          rw [← h6,varss_cons];rfl
         refine s_if (t:=!decide (k ∈ acc)) ?_ (fun c=>?_) (fun c=>?_)
         · refine xb_cmp (enc_v1 rfl) (show ev _ _ (.var 1)=some (.ref d) from rfl) ?_
           show Option.map (!·) (inW _ _ _)=_
           rw [inD ((set_ne _ _ (Ne.symm htd)).trans h1),kvs_any]
           rfl
         · have c':k ∉ acc:=by simpa using c
           refine s_asgId (v:=.bool true) rfl (show ev _ _ (.var 1)=some (.ref d) from rfl) (enc_v1 rfl) ((set_ne _ _ (Ne.symm htd)).trans h1) (by unfold kvsOf LIM;rw [List.length_map];lia) fun ep' _=>?_
           refine s_expr (e_app (a:=r) rfl ((set_ne _ _ hrd).trans ((set_ne _ _ (Ne.symm htr)).trans h2)) (enc_v1 rfl) (by rw [natsV_length];unfold LIM;lia) ?_)
           refine s_end (s_end (s_nop (hK (sizes us) _ _ (by lia) ⟨_,acc++[k],us,ep',rfl,((hE.updN ht _).updN hd _).updN hr _,?_,?_,?_,hu.2,?_,?_,Nat.le_refl _⟩)))
           · rw [set_ne _ _ (Ne.symm hrd),set_same,kvs_putNew c']
             congr 3
             funext j
             exact ite_self _
           · rw [set_same,nats_app]
           · rw [set_ne _ _ htr,set_ne _ _ htd,set_same]
           · rw [List.length_append,List.length_singleton];lia
           · rw [← h6',if_neg c']
         · have c':k ∈ acc:=by simpa using c
           refine s_end (s_end (s_nop (hK (sizes us) _ _ (by lia) ⟨_,acc,us,ep,rfl,hE.updN ht _,(set_ne _ _ (Ne.symm htd)).trans h1,(set_ne _ _ (Ne.symm htr)).trans h2,set_same _ _ _,hu.2,by lia,?_,Nat.le_refl _⟩)))
           rw [← h6',if_pos c']
      · refine s_if (enc_isS (i:=4) hu.1 rfl) (fun c=>?_) (fun c=>?_)
        · cases u with
          | v k=>injection c
          | c w n=>injection c
          | s f us'=>
           have hs:(Tm.s f us').size=1+sizes us':=rfl
           have hl:=len_sizes us
           have hl':=len_sizes us'
           refine s_expr (e_ext (a:=t) rfl (set_same _ _ _) (enc_s2 rfl) (by rw [List.length_map,List.length_map,List.length_reverse];unfold LIM;lia) ?_)
           refine s_end (s_end (s_nop (hK (sizes (us'++us)) _ _ (by rw [sizes_app];lia) ⟨_,acc,us'++us,ep,rfl,(hE.updN ht _).updN ht _,?_,?_,?_,oks_app ?_ hu.2,by rw [sizes_app];lia,?_,Nat.le_refl _⟩)))
           · rw [set_ne _ _ (Ne.symm htd),set_ne _ _ (Ne.symm htd),h1]
           · rw [set_ne _ _ (Ne.symm htr),set_ne _ _ (Ne.symm htr),h2]
           · rw [set_same,List.reverse_append,List.map_append,← List.map_reverse]
           · have:=hu.1;unfold Tm.ok at this;exact this
           · rw [varss_app,← h6];rfl
        · cases u with
          | v k=>injection cv
          | s f us'=>injection c
          | c w n=>
           refine s_end (s_end (s_nop (hK (sizes us) _ _ (by lia) ⟨_,acc,us,ep,rfl,hE.updN ht _,(set_ne _ _ (Ne.symm htd)).trans h1,(set_ne _ _ (Ne.symm htr)).trans h2,set_same _ _ _,hu.2,by lia,?_,Nat.le_refl _⟩)))
           rw [← h6]
           rfl
inductive T_variables (args:List AV) (Q:AV→AH→Prop) (σ:AH):Prop
 | mk (t:Tm):(args=[enc t])→(t.ok)→(t.size≤900)→(∀ (r:Addr) (σ':AH),σ r=none→Ext [] σ σ'→σ' r=some (.list (natsV (nubF [] t.vars)))→Q (.ref r) σ')→T_variables  args Q σ
noncomputable def t_variables:Tr:=T_variables
theorem vc_variables (Γ:Gam) (hf:Γ.fn (S "variables_of")=some t_variables_of):VC Γ b_variables 1 1 t_variables:=by
 rintro args Q σ ⟨t,rfl,ho,hl,hQ⟩
 refine ⟨rfl,?_⟩
 refine s_retX (e_call hf (es_cons (e_list1 (v:=enc t) rfl fun r hr=>es_nil ⟨r,[t],rfl,set_same _ _ _,⟨ho,trivial⟩,?_,fun r' σ' h1 h2 h3=>hQ r' σ' (((Ext.refl [] σ).updN hr _).none h1) (((Ext.refl [] σ).updN hr _).trans h2) ?_⟩)))
 · rw [sizes_cons];show t.size+0≤1000;lia
 · rw [varss_cons,show varss []=[] from rfl,List.append_nil] at h3
   exact h3
noncomputable def CntD (kvs:List (Int × AV)) (l:List Nat):Prop:=∀ k:Nat,kvs.lookup (k:Int)=if k ∈ l then some (.int (l.count k)) else none
inductive T_occurrences (args:List AV) (Q:AV→AH→Prop) (σ:AH):Prop
 | mk (t:Tm):(args=[enc t])→(t.ok)→(t.size≤900)→(∀ (r:Addr) (σ':AH) (kvs:List (Int × AV)) (ep:Nat),σ r=none→Ext [] σ σ'→σ' r=some (.dict kvs ep)→CntD kvs t.vars→Q (.ref r) σ')→T_occurrences  args Q σ
noncomputable def t_occurrences:Tr:=T_occurrences
theorem x_get {σ:AH} {m:Env'} {e i d:PE} {a:Addr} {kvs:List (Int × AV)} {ep:Nat} {k:Int} {v:AV} (ho:ev σ m e=some (.ref a)) (ha:σ a=some (.dict kvs ep)) (hi:ev σ m i=some (.int k)) (hd:ev σ m d=some v):
 ev σ m (.bm e .get (.cons i (.cons d .nil)))=some ((kvs.lookup k).getD v):=by
 show ((ev σ m e).bind fun o=>(evs σ m (.cons i (.cons d .nil))).bind fun vs=>getV σ o vs)=_
 rw [ho,xs_cons hi (xs_cons hd xs_nil)]
 show ((σ a).bind dicO).map _=_
 rw [ha]
 rfl
theorem cnt_step {kvs:List (Int × AV)} {l:List Nat} {k:Nat} (h:CntD kvs l):(kvs.lookup (k:Int)).getD (.int 0)=.int (l.count k)∧CntD (putD kvs (k:Int) (.int (((l.count k:Nat):Int)+1))) (l++[k]):=by
 refine ⟨?_,fun j=>?_⟩
 · rw [h k]
   by_cases c:k ∈ l
   · rw [if_pos c];rfl
   · rw [if_neg c,List.count_eq_zero_of_not_mem c];rfl
 · rw [putD_lookup]
   by_cases c:j=k
   · subst c
     rw [if_pos rfl,if_pos (by simp),List.count_append,List.count_singleton_self]
     rfl
   · rw [if_neg (by lia),h j]
     have:[k].count j=0:=List.count_eq_zero_of_not_mem (by simpa using c)
     rw [List.count_append,this,Nat.add_zero]
     by_cases d:j ∈ l
     · rw [if_pos d,if_pos (List.mem_append_left _ d)]
     · rw [if_neg d,if_neg (by simp [d,c])]
theorem vc_occurrences (Γ:Gam):VC Γ b_occurrences 1 4 t_occurrences:=by
 rintro args Q σ ⟨t,rfl,ho,hl,hQ⟩
 refine ⟨rfl,?_⟩
 refine s_asgX (e_dict0 fun d hd=>s_asgX (e_list1 (v:=enc t) rfl fun r hr'=>?_))
 have hrd:r≠d:=fun q=>by rw [q,set_same] at hr';injection hr'
 have hr:σ r=none:=by rwa [set_ne _ _ hrd] at hr'
 refine s_whl (fun n m' σ'=>EI5_8 (fun (x:Option AV) (kvs:List (Int × AV)) (l:List Nat) (us:List Tm) (ep:Nat) m'=>m'=[some (enc t),some (.ref d),some (.ref r),x]) (fun (x:Option AV) (kvs:List (Int × AV)) (l:List Nat) (us:List Tm) (ep:Nat) σ'=>Ext [] σ σ') (fun (x:Option AV) (kvs:List (Int × AV)) (l:List Nat) (us:List Tm) (ep:Nat) σ'=>σ' d=some (.dict kvs ep)) (fun (x:Option AV) (kvs:List (Int × AV)) (l:List Nat) (us:List Tm) (ep:Nat) σ'=>CntD kvs l) (fun (x:Option AV) (kvs:List (Int × AV)) (l:List Nat) (us:List Tm) (ep:Nat) σ'=>σ' r=some (.list (us.reverse.map enc))) (fun (x:Option AV) (kvs:List (Int × AV)) (l:List Nat) (us:List Tm) (ep:Nat) σ'=>oks us) (fun (x:Option AV) (kvs:List (Int × AV)) (l:List Nat) (us:List Tm) (ep:Nat) σ'=>kvs.length+sizes us≤1000) (fun (x:Option AV) (kvs:List (Int × AV)) (l:List Nat) (us:List Tm) (ep:Nat) σ'=>l++varss us=t.vars) (fun (x:Option AV) (kvs:List (Int × AV)) (l:List Nat) (us:List Tm) (ep:Nat) σ'=>sizes us≤n) m' σ')
  (n:=t.size) ?_ ?_
 · refine ⟨none,[],[],[t],0,rfl,((Ext.refl [] σ).updN hd _).updN hr _,?_,fun k=>rfl,set_same _ _ _,⟨ho,trivial⟩,?_,?_,?_⟩
   · rw [set_ne _ _ (Ne.symm hrd),set_same]
   · rw [sizes_cons];show 0+(t.size+0)≤1000;lia
   · rw [varss_cons];exact List.append_nil _
   · rw [sizes_cons];exact Nat.le_refl _
 · rintro n m' σ' ⟨x,kvs,l,us,ep,rfl,hE,h1,h2,h3,h4,h5,h6,h7⟩
   refine ⟨_,xb_truth (i:=2) rfl h3,?_,?_⟩
   · intro e
     have:us=[]:=by cases us with
      | nil=>rfl
      | cons u us=>simp at e
     subst this
     refine s_ret (v:=.ref d) rfl (hQ d σ' kvs ep hd hE h1 ?_)
     rw [← h6,show varss []=[] from rfl,List.append_nil]
     exact h2
   · intro e K hK _
     cases us with
     | nil=>injection e
     | cons u us=>
      rw [List.reverse_cons,List.map_append,List.map_singleton] at h3
      have hu:u.ok∧oks us:=h4
      have h8:u.size+sizes us≤n:=h7
      have h5':kvs.length+(u.size+sizes us)≤1000:=h5
      have hp:=size_pos u
      refine s_asgX (e_pop (a:=r) rfl h3 ?_)
      refine s_if (enc_isV (i:=3) hu.1 rfl) (fun c=>?_) (fun cv=>?_)
      · cases u with
        | s f us'=>injection c
        | c w n=>injection c
        | v k=>
         obtain ⟨g1,g2⟩:=cnt_step (k:=k) h2
         have hd':=(set_ne σ' (.list (us.reverse.map enc)) (Ne.symm hrd)).trans h1
         refine s_asgId (v:=.int (((l.count k:Nat):Int)+1)) ?_ (show ev _ _ (.var 1)=some (.ref d) from rfl) (enc_v1 rfl) hd' (by unfold LIM;lia) fun ep' _=>?_
         · refine x_bin (x:=.int (l.count k)) (y:=.int 1) ?_ rfl rfl
           rw [← g1]
           exact x_get rfl hd' (enc_v1 rfl) rfl
         · have:=putD_length (kvs:=kvs) (k:=(k:Int)) (v:=.int (((l.count k:Nat):Int)+1))
           refine s_end (s_nop (hK (sizes us) _ _ (by lia) ⟨_,_,l++[k],us,ep',rfl,(hE.updN hr _).updN hd _,set_same _ _ _,g2,(set_ne _ _ hrd).trans (set_same _ _ _),hu.2,by lia,?_,Nat.le_refl _⟩))
           rw [← h6,varss_cons,List.append_assoc]
           rfl
      · refine s_if (enc_isS (i:=3) hu.1 rfl) (fun c=>?_) (fun c=>?_)
        · cases u with
          | v k=>injection c
          | c w n=>injection c
          | s f us'=>
           have hs:(Tm.s f us').size=1+sizes us':=rfl
           have hl:=len_sizes us
           have hl':=len_sizes us'
           refine s_expr (e_ext (a:=r) rfl (set_same _ _ _) (enc_s2 rfl) (by rw [List.length_map,List.length_map,List.length_reverse];unfold LIM;lia) ?_)
           refine s_end (s_end (s_nop (hK (sizes (us'++us)) _ _ (by rw [sizes_app];lia) ⟨_,kvs,l,us'++us,ep,rfl,(hE.updN hr _).updN hr _,?_,h2,?_,oks_app hu.1 hu.2,by rw [sizes_app];lia,?_,Nat.le_refl _⟩)))
           · rw [set_ne _ _ (Ne.symm hrd),set_ne _ _ (Ne.symm hrd),h1]
           · rw [set_same,List.reverse_append,List.map_append,← List.map_reverse]
           · rw [varss_app,← h6];rfl
        · cases u with
          | v k=>injection cv
          | s f us'=>injection c
          | c w n=>
           refine s_end (s_end (s_nop (hK (sizes us) _ _ (by lia) ⟨_,kvs,l,us,ep,rfl,hE.updN hr _,(set_ne _ _ (Ne.symm hrd)).trans h1,h2,set_same _ _ _,hu.2,by lia,?_,Nat.le_refl _⟩)))
           rw [← h6]
           rfl
section
variable {Γ:Gam} {σ:AH} {m:Env'} {Q:AFl→Env'→AH→Prop} {b:PS}
theorem s_asgIX {o i e:PE} (h:pwpE Γ e m (fun v σ=>pwpE Γ o m (fun ov σ=>pwpE Γ i m (fun iv σ=>setIW ov iv v (fun σ=>pwpS Γ b Q m σ) σ) σ) σ) σ):pwpS Γ (.seq (.asgI o i e) b) Q m σ:=h
theorem w_setD {o i:PE} {a:Addr} {n:Int} {kvs:List (Int × AV)} {ep:Nat} {v:AV} (ho:ev σ m o=some (.ref a)) (hi:ev σ m i=some (.int n)) (ha:σ a=some (.dict kvs ep)) (hl:kvs.length < LIM)
 (k:∀ ep',((kvs.any fun p=>decide (p.1=n))=true→ep'=ep)→pwpS Γ b Q m (σ.set a (.dict (putD kvs n v) ep'))):pwpE Γ o m (fun ov σ=>pwpE Γ i m (fun iv σ=>setIW ov iv v (fun σ=>pwpS Γ b Q m σ) σ) σ) σ:=by
 exact ev_w ho (ev_w hi (som_of ha ⟨hl,k⟩))
theorem setAW_of {K:AH→Prop} {x:Str} {C dx:Addr} {fs:List (Str × AV)} {v:AV} (hd:σ dx=some (.attrs C fs)) (ha:Γ.attrOk C x=true) (hl:fs.length < 1000) (k:K (σ.set dx (.attrs C (putA fs x v)))):setAW Γ (.obj C dx) x v K σ:=attAt_of hd ⟨ha,hl,k⟩
theorem s_augA {o e:PE} {x:Str} {C dx:Addr} {i j:Int} {fs:List (Str × AV)} {op:Op2} (hop:op=.add∨op=.sub) (ho:ev σ m o=some (.obj C dx)) (hd:σ dx=some (.attrs C fs)) (hx:fs.lookup x=some (.int i)) (he:ev σ m e=some (.int j))
 (ha:Γ.attrOk C x=true) (hl:fs.length < 1000) (k:pwpS Γ b Q m (σ.set dx (.attrs C (putA fs x (.int (match op with | .add=>i+j | _=>i - j)))))):pwpS Γ (.seq (.augA o x op e) b) Q m σ:=by
 refine ev_w ho (attAt_of hd (som_of hx (ev_w he ?_)))
 rcases hop with rfl | rfl
 all_goals exact setAW_of hd ha hl k
theorem s_asgAX {o e:PE} {x:Str} (h:pwpE Γ e m (fun v σ=>pwpE Γ o m (fun ov σ=>setAW Γ ov x v (fun σ=>pwpS Γ b Q m σ) σ) σ) σ):pwpS Γ (.seq (.asgA o x e) b) Q m σ:=h
theorem w_setA {o:PE} {x:Str} {C dx:Addr} {v:AV} {fs:List (Str × AV)} (ho:ev σ m o=some (.obj C dx)) (hd:σ dx=some (.attrs C fs)) (ha:Γ.attrOk C x=true) (hl:fs.length < 1000)
 (k:pwpS Γ b Q m (σ.set dx (.attrs C (putA fs x v)))):pwpE Γ o m (fun ov σ=>setAW Γ ov x v (fun σ=>pwpS Γ b Q m σ) σ) σ:=by
 exact ev_w ho (attAt_of hd ⟨ha,hl,k⟩)
end
noncomputable def planFs (D c l:Addr) (ne:Bool) (en:Int):List (Str × AV):=[(S "infos",.ref D),(S "chunks",.ref c),(S "needs_env",.bool ne),(S "env_size",.int en),(S "live_after",.ref l)]
inductive T_PlanInit (args:List AV) (Q:AV→AH→Prop) (σ:AH):Prop
 | mk (p D c l:Addr) (ne:Bool) (en:Int):(args=[.obj 143 p,.ref D,.ref c,.bool ne,.int en,.ref l])→(σ p=some (.attrs 143 []))→(∀ σ',Only p σ σ'→σ' p=some (.attrs 143 (planFs D c l ne en))→Q .none σ')→T_PlanInit  args Q σ
noncomputable def t_PlanInit:Tr:=T_PlanInit
theorem vc_PlanInit (Γ:Gam) (hΓ:Γ.attrOk=P0.attrOk):VC Γ b_ClausePlan___init__ 6 6 t_PlanInit:=by
 rintro args Q σ ⟨p,D,c,l,ne,en,rfl,hd,hQ⟩
 refine ⟨rfl,?_⟩
 refine s_asgA (v:=.ref D) rfl rfl hd (by rw [hΓ];decide) (by decide) ?_
 refine s_asgA (v:=.ref c) rfl rfl (set_same _ _ _) (by rw [hΓ];decide) (show 1 < 1000 by decide) ?_
 refine s_asgA (v:=.bool ne) rfl rfl (set_same _ _ _) (by rw [hΓ];decide) (show 2 < 1000 by decide) ?_
 refine s_asgA (v:=.int en) rfl rfl (set_same _ _ _) (by rw [hΓ];decide) (show 3 < 1000 by decide) ?_
 refine s_asgA (v:=.ref l) rfl rfl (set_same _ _ _) (by rw [hΓ];decide) (show 4 < 1000 by decide) ?_
 exact s_nop (hQ _ (((((Only.refl _ _).set _).set _).set _).set _ |>.set _) (set_same _ _ _))
inductive T_SurveyInit (args:List AV) (Q:AV→AH→Prop) (σ:AH):Prop
 | mk (p:Addr):(args=[.obj 185 p])→(σ p=some (.attrs 185 []))→(∀ D σ',σ D=none→Ext [p] σ σ'→σ' p=some (.attrs 185 [(S "infos",.ref D)])→σ' D=some (.dict [] 0)→Q .none σ')→T_SurveyInit  args Q σ
noncomputable def t_SurveyInit:Tr:=T_SurveyInit
theorem vc_SurveyInit (Γ:Gam) (hΓ:Γ.attrOk=P0.attrOk):VC Γ b_Survey___init__ 1 1 t_SurveyInit:=by
 rintro args Q σ ⟨p,rfl,hd,hQ⟩
 refine ⟨rfl,?_⟩
 refine s_asgAX (e_dict0 fun D hD=>?_)
 refine w_setA rfl ((set_ne _ _ (ne_of hd hD)).trans hd) (by rw [hΓ];decide) (by decide) ?_
 exact s_nop (hQ D _ hD ((Ext.fresh hD _).trans (Ext.upd (.head _) _)) (set_same _ _ _) ((set_ne _ _ (ne_of hd hD).symm).trans (set_same _ _ _)))
structure Sv where
 D:Addr
 ad:Nat→Addr
 ks:List Nat
 inf:Nat→Info
noncomputable def Sv.foot (s:Sv):List Addr:=s.D::s.ks.map s.ad
structure InfAt (σ:AH) (D:Addr) (ep:Nat) (ad:Nat→Addr) (ks:List Nat) (inf:Nat→Info):Prop where
 d:σ D=some (.dict (kvsOf (fun k=>.obj 87 (ad k)) ks) ep)
 i:∀ k ∈ ks,σ (ad k)=some (.attrs 87 (inf k).fs)
 inj:∀ j ∈ ks,∀ k ∈ ks,ad j=ad k→j=k
structure SvAt (σ:AH) (sx:Addr) (s:Sv):Prop where
 o:σ sx=some (.attrs 185 [(S "infos",.ref s.D)])
 a:∃ ep,InfAt σ s.D ep s.ad s.ks s.inf
structure SvTo (σ:AH) (s:Sv) (σ':AH) (s':Sv):Prop where
 D:s'.D=s.D
 ext:Ext s.foot σ σ'
 new:∀ b ∈ s'.foot,b ∈ s.foot∨σ b=none
theorem SvTo.refl (σ:AH) (s:Sv):SvTo σ s σ s:=⟨rfl,Ext.refl _ _,fun _ h=>.inl h⟩
theorem SvTo.trans {σ σ' σ'':AH} {s s' s'':Sv} (x:SvTo σ s σ' s') (y:SvTo σ' s' σ'' s''):SvTo σ s σ'' s'' where
 D:=y.D.trans x.D
 ext:=fun b hb o e=>y.ext b (fun q=>by
  rcases x.new b q with h | h
  · exact hb h
  · rw [h] at e;injection e) o (x.ext b hb o e)
 new:=fun b hb=>by
  rcases y.new b hb with h | h
  · exact x.new b h
  · by_cases c:b ∈ s.foot
    · exact .inl c
    · refine .inr ?_
      cases e:σ b with
      | none=>rfl
      | some o=>rw [x.ext b c o e] at h;injection h
theorem SvTo.pure {σ σ':AH} (s:Sv) (h:Ext [] σ σ'):SvTo σ s σ' s:=⟨rfl,fun b _ o e=>h.get e,fun _ h=>.inl h⟩
theorem InfAt.mono {σ σ':AH} {D:Addr} {ep:Nat} {ad:Nat→Addr} {ks:List Nat} {inf:Nat→Info} (h:InfAt σ D ep ad ks inf) (x:Ext [] σ σ'):InfAt σ' D ep ad ks inf:=⟨x.get h.d,fun k hk=>x.get (h.i k hk),h.inj⟩
theorem SvAt.mono {σ σ':AH} {sx:Addr} {s:Sv} (h:SvAt σ sx s) (x:Ext [] σ σ'):SvAt σ' sx s:=⟨x.get h.o,by obtain ⟨ep,a⟩:=h.a;exact ⟨ep,a.mono x⟩⟩
theorem InfAt.put {σ:AH} {D:Addr} {ep:Nat} {ad:Nat→Addr} {ks:List Nat} {inf:Nat→Info} (h:InfAt σ D ep ad ks inf) {k:Nat} (hk:k ∈ ks) (v:Info):
 InfAt (σ.set (ad k) (.attrs 87 v.fs)) D ep ad ks (fun j=>if j=k then v else inf j) where
 d:=(set_ne _ _ fun q=>by have:=h.d;rw [q,h.i k hk] at this;(injection this with z0;injection z0)).trans h.d
 i:=fun j hj=>by
  by_cases c:j=k
  · subst c;rw [set_same,if_pos rfl]
  · rw [set_ne _ _ fun q=>c (h.inj j hj k hk q),if_neg c];exact h.i j hj
 inj:=h.inj
noncomputable def newI (k:Nat) (w:Str) (c:Nat):Info:=⟨k,S "temp",0,w,false,-1,0,c,0⟩
noncomputable def updI (i:Info) (g:Int) (c n:Nat):Info:={ i with count:=i.count+n,last:=g,lch:=c }
noncomputable def meetK (ks:List Nat) (k:Nat):List Nat:=if k ∈ ks then ks else ks++[k]
noncomputable def meetI (ks:List Nat) (inf:Nat→Info) (k:Nat) (w:Str) (g:Int) (c n:Nat):Nat→Info:=fun j=>if j=k then updI (if k ∈ ks then inf k else newI k w c) g c n else inf j
inductive T_meet (args:List AV) (Q:AV→AH→Prop) (σ:AH):Prop
 | mk (sx:Addr) (s:Sv) (k:Nat) (w:Str) (g:Int) (c n:Nat):(args=[.obj 185 sx,.int k,.str w,.int g,.int c,.int n])→(SvAt σ sx s)→(s.ks.length < LIM)→(∀ (σ':AH) (s':Sv),SvAt σ' sx s'→SvTo σ s σ' s'→s'.ks=meetK s.ks k→(∀ j ∈ s'.ks,s'.inf j=meetI s.ks s.inf k w g c n j)→Q .none σ')→T_meet  args Q σ
noncomputable def t_meet:Tr:=T_meet
theorem meet_end (Γ:Gam) (hΓ:Γ.attrOk=P0.attrOk) {K:AFl→Env'→AH→Prop} {σ:AH} {sx:Addr} {s:Sv} {k:Nat} {w:AV} {g:Int} {c n:Nat} (hs:SvAt σ sx s) (hk:k ∈ s.ks)
 (hK:∀ m' σ',SvAt σ' sx { s with inf:=fun j=>if j=k then updI (s.inf k) g c n else s.inf j }→Ext s.foot σ σ'→K .next m' σ'):
 pwpS Γ (.seq (.asg 6 (.idx (.attr (.var 0) (S "infos")) (.var 1))) (.seq (.augA (.var 6) (S "count") .add (.var 5)) (.seq (.asgA (.var 6) (S "last_goal") (.var 3)) (.seq (.asgA (.var 6) (S "last_chunk") (.var 4)) .nop)))) K
  [some (.obj 185 sx),some (.int k),some w,some (.int g),some (.int c),some (.int n),none] σ:=by
 obtain ⟨h1,ep,h2⟩:=hs
 have hf:s.ad k ∈ s.foot:=.tail _ (List.mem_map_of_mem hk)
 have hne:sx≠s.ad k:=fun q=>by rw [q,h2.i k hk] at h1;cases h1
 refine s_asg (v:=.obj 87 (s.ad k)) (x_idxD (x_attr rfl h1 rfl) h2.d rfl (kvs_lookup hk)) ?_
 refine s_augA (i:=(s.inf k).count) (j:=n) (.inl rfl) rfl (h2.i k hk) rfl rfl (by rw [hΓ];decide) (show 9 < 1000 by decide) ?_
 refine s_asgA (v:=.int g) rfl rfl (set_same _ _ _) (by rw [hΓ];decide) (show 9 < 1000 by decide) ?_
 refine s_asgA (v:=.int c) rfl rfl (set_same _ _ _) (by rw [hΓ];decide) (show 9 < 1000 by decide) ?_
 refine s_nop (hK _ _ ⟨?_,ep,?_⟩ (((Ext.upd hf _).trans (Ext.upd hf _)).trans (Ext.upd hf _)))
 · rw [set_ne _ _ hne,set_ne _ _ hne,set_ne _ _ hne];exact h1
 · have a:=((h2.put hk { s.inf k with count:=(s.inf k).count+n }).put hk { s.inf k with count:=(s.inf k).count+n,last:=g }).put hk (updI (s.inf k) g c n)
   have e:(fun j=>if j=k then updI (s.inf k) g c n else if j=k then { s.inf k with count:=(s.inf k).count+n,last:=g } else if j=k then { s.inf k with count:=(s.inf k).count+n } else s.inf j)=(fun j=>if j=k then updI (s.inf k) g c n else s.inf j):=by
    funext j
    by_cases q:j=k
    · rw [if_pos q,if_pos q]
    · rw [if_neg q,if_neg q,if_neg q,if_neg q]
   rw [e] at a
   exact a
theorem vc_meet (Γ:Gam) (hΓ:Γ.attrOk=P0.attrOk) (hc:Γ.cls (S "VarInfo")=some (87,t_VarInfoInit)):VC Γ b_Survey_meet 6 7 t_meet:=by
 rintro args Q σ ⟨sx,s,k,w,g,c,n,rfl,hs,hl,hQ⟩
 refine ⟨rfl,?_⟩
 obtain ⟨h1,ep,h2⟩:=id hs
 refine s_if (t:=!decide (k ∈ s.ks)) ?_ (fun q=>?_) (fun q=>?_)
 · refine xb_cmp (show ev _ _ (.var 1)=some (.int k) from rfl) (x_attr rfl h1 rfl) ?_
   show Option.map (!·) (inW _ _ _)=_
   rw [inD h2.d,kvs_any]
   rfl
 · have q':k ∉ s.ks:=by simpa using q
   refine s_asgIX (e_new hc (es_ev (v:=.int k) rfl (es_ev (v:=.str w) rfl (es_nil fun dx hdx=>⟨dx,k,w,rfl,set_same _ _ _,fun σ1 o1 e1=>⟨rfl,?_⟩⟩))))
   have hx:∀ b o,σ b=some o→σ1 b=some o:=fun b o e=>(o1 b (ne_of e hdx)).trans ((set_ne _ _ (ne_of e hdx)).trans e)
   refine w_setD (x_attr rfl (hx _ _ h1) rfl) rfl (hx _ _ h2.d) (show (kvsOf _ _).length < LIM by unfold kvsOf;rw [List.length_map];exact hl) fun ep' _=>?_
   have hsD:sx≠s.D:=fun q=>by have:=h2.d;rw [← q,h1] at this;(injection this with z0;injection z0)
   have hdD:dx≠s.D:=(ne_of h2.d hdx).symm
   let ad':Nat→Addr:=fun j=>if j=k then dx else s.ad j
   have hk':k ∈ s.ks++[k]:=by simp
   have hkv:putD (kvsOf (fun k=>AV.obj 87 (s.ad k)) s.ks) (k:Int) (.obj 87 dx)=kvsOf (fun k=>.obj 87 (ad' k)) (s.ks++[k]):=by
    rw [kvs_putNew q']
    congr 1
    funext j
    by_cases c:j=k
    · rw [if_pos c];show _=AV.obj 87 (if j=k then dx else _);rw [if_pos c]
    · rw [if_neg c];show _=AV.obj 87 (if j=k then dx else _);rw [if_neg c]
   rw [hkv]
   have hA:InfAt (σ1.set s.D (.dict (kvsOf (fun k=>.obj 87 (ad' k)) (s.ks++[k])) ep')) s.D ep' ad' (s.ks++[k]) (fun j=>if j=k then ⟨k,S "temp",0,w,false,-1,0,0,0⟩ else s.inf j):=by
    refine ⟨set_same _ _ _,fun j hj=>?_,fun i hi j hj e=>?_⟩
    · by_cases c:j=k
      · subst c
        show (σ1.set s.D _) (if j=j then dx else _)=_
        rw [if_pos rfl,if_pos rfl,set_ne _ _ hdD]
        exact e1
      · have hj':j ∈ s.ks:=by simpa [c] using hj
        show (σ1.set s.D _) (if j=k then dx else _)=_
        rw [if_neg c,if_neg c,set_ne _ _ fun q=>by have:=h2.d;rw [← q,h2.i j hj'] at this;(injection this with z0;injection z0)]
        exact hx _ _ (h2.i j hj')
    · have e':(if i=k then dx else s.ad i)=(if j=k then dx else s.ad j):=e
      by_cases ci:i=k
      · by_cases cj:j=k
        · rw [ci,cj]
        · rw [if_pos ci,if_neg cj] at e'
          exact absurd e'.symm (ne_of (h2.i j (by simpa [cj] using hj)) hdx)
      · by_cases cj:j=k
        · rw [if_neg ci,if_pos cj] at e'
          exact absurd e' (ne_of (h2.i i (by simpa [ci] using hi)) hdx)
        · rw [if_neg ci,if_neg cj] at e'
          exact h2.inj i (by simpa [ci] using hi) j (by simpa [cj] using hj) e'
   have hadk:ad' k=dx:=if_pos rfl
   have hadj:∀ j,j ∈ s.ks++[k]→j≠k→ad' j ∈ s.foot:=fun j hj c=>by
    have:ad' j=s.ad j:=if_neg c
    rw [this]
    exact .tail _ (List.mem_map_of_mem (by simpa [c] using hj))
   have h1':(σ1.set s.D (.dict (kvsOf (fun k=>.obj 87 (ad' k)) (s.ks++[k])) ep')) sx=some (.attrs 185 [(S "infos",.ref s.D)]):=by rw [set_ne _ _ hsD];exact hx _ _ h1
   have hE1:Ext s.foot σ (σ1.set s.D (.dict (kvsOf (fun k=>.obj 87 (ad' k)) (s.ks++[k])) ep')):=fun b hb o e=>by
    rw [set_ne _ _ fun (q:b=s.D)=>hb (by rw [q];exact .head _)]
    exact hx b o e
   generalize σ1.set s.D (.dict (kvsOf (fun k=>.obj 87 (ad' k)) (s.ks++[k])) ep')=σ2 at *
   refine s_asgA (v:=.int c) rfl (x_idxD (x_attr rfl h1' rfl) hA.d rfl ((kvs_lookup hk').trans rfl)) (hA.i k hk') (by rw [hΓ];decide) (show 9 < 1000 by decide) (s_end ?_)
   have e2:=hA.put hk' (newI k w c)
   have e3:putA (Info.fs (if k=k then ⟨k,S "temp",0,w,false,-1,0,0,0⟩ else s.inf k)) (S "first_chunk") (.int c)=(newI k w c).fs:=by rw [if_pos rfl];rfl
   rw [e3]
   refine meet_end Γ hΓ (s:=⟨s.D,ad',s.ks++[k],fun j=>if j=k then newI k w c else if j=k then ⟨k,S "temp",0,w,false,-1,0,0,0⟩ else s.inf j⟩) (c:=c) (n:=n) (g:=g) (k:=k) ⟨?_,ep',e2⟩ hk' fun m' σ' a1 a2=>hQ σ' _ a1 ⟨rfl,?_,fun b hb=>?_⟩ ?_ ?_
   · rw [set_ne _ _ fun q=>by rw [q,hA.i k hk'] at h1';cases h1'];exact h1'
   · refine fun b hb o e=>a2 b (fun q=>?_) o ((set_ne _ _ (by rw [hadk];exact ne_of e hdx)).trans (hE1 b hb o e))
     rcases List.mem_cons.mp q with q | q
     · exact hb (q ▸ .head _)
     · obtain ⟨j,hj,rfl⟩:=List.mem_map.mp q
       by_cases c:j=k
       · have e':σ (ad' j)=some o:=e
         rw [c,hadk,hdx] at e'
         injection e'
       · exact hb (hadj j hj c)
   · rcases List.mem_cons.mp hb with q | q
     · exact .inl (q ▸ .head _)
     · obtain ⟨j,hj,rfl⟩:=List.mem_map.mp q
       by_cases c:j=k
       · rw [c];exact .inr (by show σ (ad' k)=none;rw [hadk];exact hdx)
       · exact .inl (hadj j hj c)
   · show s.ks++[k]=meetK s.ks k
     unfold meetK
     rw [if_neg q']
   · intro j hj
     unfold meetI
     dsimp only
     rw [if_pos rfl,if_neg q']
     by_cases c:j=k
     · rw [if_pos c,if_pos c]
     · rw [if_neg c,if_neg c,if_neg c,if_neg c]
 · have q':k ∈ s.ks:=by simpa using q
   refine s_end (meet_end Γ hΓ hs q' fun m' σ' a1 a2=>hQ σ' _ a1 ⟨rfl,a2,fun b hb=>.inl hb⟩ ?_ ?_)
   · unfold meetK;rw [if_pos q']
   · intro j hj
     unfold meetI
     rw [if_pos q']
noncomputable def o0:Oc:=⟨0,0,0,S ""⟩
noncomputable def fstO (os:List Oc):Oc:=os.head?.getD o0
noncomputable def lstO (os:List Oc):Oc:=os.getLast?.getD o0
noncomputable def occ (l:List Oc) (k:Nat):List Oc:=l.filter fun o=>decide (o.k=k)
noncomputable def infoOf (k:Nat) (os:List Oc):Info:=⟨k,S "temp",0,(fstO os).word,false,(lstO os).at',os.length,(fstO os).chunk,(lstO os).chunk⟩
structure SvInv (l:List Oc) (ks:List Nat) (inf:Nat→Info):Prop where
 nd:ks.Nodup
 mem:∀ k,k ∈ ks↔occ l k≠[]
 inf:∀ k ∈ ks,inf k=infoOf k (occ l k)
theorem occ_app (l l':List Oc) (k:Nat):occ (l++l') k=occ l k++occ l' k:=List.filter_append ..
theorem occ_rep {n:Nat} {o:Oc} {k:Nat}:occ (List.replicate n o) k=if o.k=k then List.replicate n o else []:=by
 unfold occ
 rw [List.filter_replicate]
 by_cases c:o.k=k
 · rw [if_pos c,if_pos (by simpa using c)]
 · rw [if_neg c,if_neg (by simpa using c)]
theorem occ_ne {l:List Oc} {k:Nat}:occ l k≠[]↔∃ o ∈ l,o.k=k:=by
 unfold occ
 constructor
 · intro h
   obtain ⟨o,ho⟩:=List.exists_mem_of_ne_nil _ h
   exact ⟨o,(List.mem_filter.mp ho).1,of_decide_eq_true (List.mem_filter.mp ho).2⟩
 · rintro ⟨o,h1,h2⟩ q
   have:o ∈ l.filter fun o=>decide (o.k=k):=List.mem_filter.mpr ⟨h1,decide_eq_true h2⟩
   rw [q] at this
   cases this
theorem inv_congr {l l':List Oc} {ks:List Nat} {inf:Nat→Info} (h:SvInv l ks inf) (e:∀ k,occ l k=occ l' k):SvInv l' ks inf:=
 ⟨h.nd,fun k=>by rw [← e k];exact h.mem k,fun k hk=>by rw [← e k];exact h.inf k hk⟩
theorem fstO_app {l l':List Oc} (h:l≠[]):fstO (l++l')=fstO l:=by
 cases l with
 | nil=>exact absurd rfl h
 | cons x l=>rfl
theorem lstO_rep (l:List Oc) (n:Nat) (o:Oc):lstO (l++List.replicate (n+1) o)=o:=by
 unfold lstO
 rw [List.replicate_succ',← List.append_assoc,List.getLast?_concat]
 rfl
theorem inv_meet {l:List Oc} {ks:List Nat} {inf inf':Nat→Info} {k:Nat} {g:Int} {c n:Nat} {w:Str} (h:SvInv l ks inf) (hn:0 < n) (hi:∀ j ∈ meetK ks k,inf' j=meetI ks inf k w g c n j):
 SvInv (l++List.replicate n ⟨k,g,c,w⟩) (meetK ks k) inf':=by
 have ho:∀ j,occ (l++List.replicate n ⟨k,g,c,w⟩) j=if j=k then occ l k++List.replicate n ⟨k,g,c,w⟩ else occ l j:=fun j=>by
  rw [occ_app,occ_rep]
  by_cases q:j=k
  · rw [if_pos q,if_pos q.symm,q]
  · rw [if_neg q,if_neg (fun r:k=j=>q r.symm),List.append_nil]
 have hm:∀ j,j ∈ meetK ks k↔j ∈ ks∨j=k:=fun j=>by
  unfold meetK
  by_cases q:k ∈ ks
  · rw [if_pos q]
    exact ⟨.inl,fun r=>r.elim id fun e=>e ▸ q⟩
  · rw [if_neg q,List.mem_append,List.mem_singleton]
 obtain ⟨n,rfl⟩:∃ m,n=m+1:=⟨n - 1,by lia⟩
 refine ⟨?_,fun j=>?_,fun j hj=>?_⟩
 · unfold meetK
   by_cases q:k ∈ ks
   · rw [if_pos q];exact h.nd
   · rw [if_neg q]
     exact List.nodup_append.mpr ⟨h.nd,by simp,fun a ha b hb=>by rw [List.mem_singleton.mp hb];exact fun e=>q (e ▸ ha)⟩
 · rw [hm,ho]
   by_cases q:j=k
   · rw [if_pos q];simp [q]
   · rw [if_neg q,h.mem]
     exact ⟨fun r=>r.elim id fun e=>absurd e q,.inl⟩
 · rw [hi j hj,ho]
   unfold meetI
   by_cases q:j=k
   · subst q
     rw [if_pos rfl,if_pos rfl]
     by_cases r:j ∈ ks
     · have hne:=(h.mem j).mp r
       rw [if_pos r,h.inf j r]
       unfold updI infoOf
       rw [lstO_rep,fstO_app hne,List.length_append,List.length_replicate]
       simp
     · have he:occ l j=[]:=Classical.byContradiction fun q=>r ((h.mem j).mpr q)
       rw [if_neg r,he]
       unfold updI infoOf newI
       rw [lstO_rep,List.nil_append,List.replicate_succ]
       simp [fstO]
   · rw [if_neg q,if_neg q]
     exact h.inf j (((hm j).mp hj).resolve_right q)
theorem pigeon:∀ (n:Nat) (l:List Nat),l.Nodup→(∀ x ∈ l,x < n)→l.length≤n
 | 0,l,_,h=>by cases l with
  | nil=>exact Nat.le_refl _
  | cons x l=>exact absurd (h x (.head _)) (Nat.not_lt_zero _)
 | n+1,l,hn,h=>by
  have:=pigeon n (l.erase n) (hn.erase n) fun x hx=>by
   have h1:=h x (List.mem_of_mem_erase hx)
   have h2:x≠n:=fun q=>(hn.mem_erase_iff.mp hx).1 q
   lia
  have h3:=List.length_erase (a:=n) (l:=l)
  split at h3 <;> lia
noncomputable def oc1 (g:Int) (c:Nat) (p:Str):Tm→List Oc
 | .v k=>[⟨k,g,c,p++S "_arg"⟩]
 | t=>t.vars.map (fun k=>⟨k,g,c,p++S "_struct"⟩)
theorem ocTerms_cons (g:Int) (c:Nat) (p:Str) (t:Tm) (ts:List Tm):ocTerms g c p (t::ts)=oc1 g c p t++ocTerms g c p ts:=by
 cases t <;> rfl
theorem ocTerms_snoc (g:Int) (c:Nat) (p:Str) (t:Tm):∀ ts:List Tm,ocTerms g c p (ts++[t])=ocTerms g c p ts++oc1 g c p t
 | []=>by rw [List.nil_append,ocTerms_cons];exact (List.append_nil _).trans (List.nil_append _).symm
 | u::ts=>by rw [List.cons_append,ocTerms_cons,ocTerms_cons,ocTerms_snoc g c p t ts,List.append_assoc]
theorem oc1_k {g:Int} {c:Nat} {p:Str} {t:Tm}:(oc1 g c p t).map (·.k)=t.vars:=by
 cases t with
 | v k=>rfl
 | c w n=>rfl
 | s f ts=>
  show ((Tm.s f ts).vars.map _).map _=_
  rw [List.map_map]
  exact List.map_id _
theorem oc_k {g:Int} {c:Nat} {p:Str}:∀ {ts:List Tm},(ocTerms g c p ts).map (·.k)=varss ts
 | []=>rfl
 | t::ts=>by rw [ocTerms_cons,List.map_append,oc1_k,oc_k,varss_cons]
theorem occ_flat {mk:Nat→Oc} (hmk:∀ k,(mk k).k=k) {vs:List Nat}:∀ {ks:List Nat},ks.Nodup→∀ j,occ (ks.flatMap fun k=>List.replicate (vs.count k) (mk k)) j=if j ∈ ks then List.replicate (vs.count j) (mk j) else []
 | [],_,j=>rfl
 | k::ks,hn,j=>by
  obtain ⟨h1,h2⟩:=List.nodup_cons.mp hn
  rw [List.flatMap_cons,occ_app,occ_rep,occ_flat hmk h2 j,hmk]
  by_cases c:k=j
  · subst c
    rw [if_pos rfl,if_neg h1,if_pos (.head _),List.append_nil]
  · rw [if_neg c,List.nil_append]
    have:j ∈ k::ks↔j ∈ ks:=⟨fun h=>(List.mem_cons.mp h).resolve_left fun q=>c q.symm,.tail _⟩
    by_cases d:j ∈ ks
    · rw [if_pos d,if_pos (this.mpr d)]
    · rw [if_neg d,if_neg fun q=>d (this.mp q)]
theorem occ_map {mk:Nat→Oc} (hmk:∀ k,(mk k).k=k) (j:Nat):∀ vs:List Nat,occ (vs.map mk) j=List.replicate (vs.count j) (mk j)
 | []=>rfl
 | v::vs=>by
  have ih:=occ_map hmk j vs
  show List.filter _ (mk v::vs.map mk)=_
  rw [List.filter_cons,hmk]
  by_cases c:v=j
  · subst c
    rw [if_pos (decide_eq_true rfl),List.count_cons_self,List.replicate_succ]
    exact congrArg _ ih
  · rw [if_neg (by simpa using c),List.count_cons_of_ne c]
    exact ih
theorem SvAt.some {σ:AH} {sx:Addr} {s:Sv} (h:SvAt σ sx s) {b:Addr} (hb:b ∈ s.foot):σ b≠none:=by
 obtain ⟨ep,a⟩:=h.a
 rcases List.mem_cons.mp hb with q | q
 · rw [q,a.d];exact fun e=>nomatch e
 · obtain ⟨j,hj,rfl⟩:=List.mem_map.mp q
   rw [a.i j hj]
   exact fun e=>nomatch e
inductive T_terms (args:List AV) (Q:AV→AH→Prop) (σ:AH):Prop
 | mk (sx:Addr) (s:Sv) (l:List Oc) (ts:List Tm) (p:Str) (g:Int) (c:Nat):(args=[.obj 185 sx,.tup (ts.map enc),.str p,.int g,.int c])→(SvAt σ sx s)→(SvInv l s.ks s.inf)→((∀ o ∈ l,o.k < 64))→((∀ k ∈ varss ts,k < 64))→(oks ts)→(sizes ts≤900)→(p.length≤100)→(∀ (σ':AH) (s':Sv),SvAt σ' sx s'→SvTo σ s σ' s'→SvInv (l++ocTerms g c p ts) s'.ks s'.inf→Q .none σ')→T_terms  args Q σ
noncomputable def t_terms:Tr:=T_terms
theorem inv_len {l:List Oc} {ks:List Nat} {inf:Nat→Info} (h:SvInv l ks inf) (hl:∀ o ∈ l,o.k < 64):ks.length < LIM:=by
 have:=pigeon 64 ks h.nd fun k hk=>by
  obtain ⟨o,h1,h2⟩:=occ_ne.mp ((h.mem k).mp hk)
  rw [← h2]
  exact hl o h1
 unfold LIM
 lia
theorem size_le {t:Tm}:∀ {ts:List Tm},t ∈ ts→t.size≤sizes ts
 | u::ts,h=>by
  rw [sizes_cons]
  rcases List.mem_cons.mp h with q | q
  · rw [q];lia
  · have:=size_le q;lia
theorem vars_mem {t:Tm} {k:Nat}:∀ {ts:List Tm},t ∈ ts→k ∈ t.vars→k ∈ varss ts
 | u::ts,h,hk=>by
  rw [varss_cons]
  rcases List.mem_cons.mp h with q | q
  · exact List.mem_append_left _ (q ▸ hk)
  · exact List.mem_append_right _ (vars_mem q hk)
theorem vc_terms (Γ:Gam) (hm:Γ.mth 185 (S "meet")=some t_meet) (ho:Γ.fn (S "occurrences")=some t_occurrences) (hv:Γ.fn (S "variables")=some t_variables):VC Γ b_Survey_terms 5 8 t_terms:=by
 rintro args Q σ ⟨sx,s,l,ts,p,g,c,rfl,hs,hi,hlb,hvb,hok,hsz,hp,hQ⟩
 refine ⟨rfl,?_⟩
 unfold b_Survey_terms
 have hws:∀ (x:Str),x.length≤100→p.length+x.length≤LIM:=fun x hx=>by unfold LIM;lia
 refine s_forX (ev_w (v:=.tup (ts.map enc)) rfl (forK_one (f:=enc) (all:=ts) (fun pre m' σ'=>EI4_3 (fun (s':Sv) (x5 x6 x7:Option AV) m'=>m'=[some (.obj 185 sx),some (.tup (ts.map enc)),some (.str p),some (.int g),some (.int c),x5,x6,x7]) (fun (s':Sv) (x5 x6 x7:Option AV) σ'=>SvAt σ' sx s') (fun (s':Sv) (x5 x6 x7:Option AV) σ'=>SvTo σ s σ' s') (fun (s':Sv) (x5 x6 x7:Option AV) σ'=>SvInv (l++ocTerms g c p pre) s'.ks s'.inf) m' σ')
  rfl ⟨s,none,none,none,rfl,hs,SvTo.refl _ _,by rw [show ocTerms g c p []=[] from rfl,List.append_nil];exact hi⟩ (fun _ _ _ _=>trivial) ?_ ?_))
 · rintro pre t post m' σ' K e ⟨s',x5,x6,x7,rfl,a1,a2,a3⟩ hK _
   have ht:t ∈ ts:=by rw [e];simp
   have hlb':∀ o ∈ l++ocTerms g c p pre,o.k < 64:=fun o ho=>by
    rcases List.mem_append.mp ho with h | h
    · exact hlb o h
    · refine hvb _ ?_
      rw [e,varss_app,← oc_k (g:=g) (c:=c) (p:=p) (ts:=pre)]
      exact List.mem_append_left _ (List.mem_map_of_mem h)
   refine s_if (enc_isV (i:=5) (oks_mem hok t ht) rfl) (fun q=>?_) (fun q=>?_)
   · cases t with
     | c w n=>injection q
     | s f us=>injection q
     | v k=>
      refine s_expr (e_meth rfl a1.o hm rfl (es_ev (enc_v1 rfl) (es_ev (x_bin rfl rfl (if_pos (hws _ (by decide)))) (es_ev (v:=.int g) rfl (es_ev (v:=.int c) rfl (es_ev (v:=.int 1) rfl (es_nil ?_)))))))
      refine ⟨sx,s',k,p++S "_arg",g,c,1,rfl,a1,inv_len a3 hlb',fun σ1 s1 b1 b2 b3 b4=>s_end (s_nop (hK _ _ ⟨s1,_,_,_,rfl,b1,a2.trans b2,?_⟩))⟩
      have:=inv_meet a3 (Nat.zero_lt_one) (b3 ▸ b4)
      rw [ocTerms_snoc,← List.append_assoc,b3]
      exact this
   · have hsz':t.size≤900:=Nat.le_trans (size_le ht) hsz
     refine s_asgX (e_call ho (es_ev (v:=enc t) rfl (es_nil ⟨t,rfl,oks_mem hok t ht,hsz',fun cd σ1 kvs ep c1 c2 c3 c4=>?_⟩)))
     refine s_forX (e_call hv (es_ev (v:=enc t) rfl (es_nil ⟨t,rfl,oks_mem hok t ht,hsz',fun r σ2 d1 d2 d3=>?_⟩)))
     have a1':=(a1.mono c2).mono d2
     have hcd:cd ∉ s'.foot:=fun h=>a1.some h c1
     have hr:r ∉ s'.foot:=fun h=>(a1.mono c2).some h d1
     have c3':=d2.get c3
     have hnd:=nubF_nodup (l:=t.vars) (acc:=[]) List.nodup_nil
     have hmk:∀ k,(Oc.mk k g c (p++S "_struct")).k=k:=fun _=>rfl
     refine forK_one (f:=fun (n:Nat)=>AV.int (n:Int)) (all:=nubF [] t.vars) (fun pre' m' σ'=>EI2_3 (fun (s'':Sv) (x7:Option AV) m'=>m'=[some (.obj 185 sx),some (.tup (ts.map enc)),some (.str p),some (.int g),some (.int c),some (enc t),some (.ref cd),x7]) (fun (s'':Sv) (x7:Option AV) σ'=>SvAt σ' sx s'') (fun (s'':Sv) (x7:Option AV) σ'=>SvTo σ2 s' σ' s'') (fun (s'':Sv) (x7:Option AV) σ'=>SvInv ((l++ocTerms g c p pre)++pre'.flatMap fun k=>List.replicate (t.vars.count k) ⟨k,g,c,p++S "_struct"⟩) s''.ks s''.inf) m' σ') (items_list d3) ⟨s',_,rfl,a1',SvTo.refl _ _,by rw [List.flatMap_nil,List.append_nil];exact a3⟩ ?_ ?_ ?_
     · rintro pre' m'' σ'' ⟨s'',y7,rfl,f1,f2,f3⟩
       exact sameSrc_list d3 (f2.ext r hr _ d3)
     · rintro pre' k post' m'' σ'' K' e' ⟨s'',y7,rfl,f1,f2,f3⟩ hK' _
       have hk:k ∈ t.vars:=by
        have:k ∈ nubF [] t.vars:=by rw [e'];simp
        exact (nubF_mem.mp this).resolve_left fun h=>nomatch h
       have hlk:kvs.lookup (k:Int)=some (.int (t.vars.count k)):=by rw [c4 k,if_pos hk]
       refine s_expr (e_meth rfl f1.o hm rfl (es_ev (v:=.int k) rfl (es_ev (x_bin rfl rfl (if_pos (hws _ (by decide)))) (es_ev (v:=.int g) rfl (es_ev (v:=.int c) rfl (es_ev (x_idxD rfl (f2.ext cd hcd _ c3') rfl hlk) (es_nil ?_)))))))
       have hlb'':∀ o ∈ (l++ocTerms g c p pre)++pre'.flatMap (fun k=>List.replicate (t.vars.count k) (Oc.mk k g c (p++S "_struct"))),o.k < 64:=fun o ho=>by
        rcases List.mem_append.mp ho with h | h
        · exact hlb' o h
        · obtain ⟨j,hj,h⟩:=List.mem_flatMap.mp h
          rw [(List.mem_replicate.mp h).2]
          have:j ∈ nubF [] t.vars:=by rw [e'];exact List.mem_append_left _ hj
          exact hvb _ (vars_mem ht ((nubF_mem.mp this).resolve_left fun h=>nomatch h))
       refine ⟨sx,s'',k,p++S "_struct",g,c,t.vars.count k,rfl,f1,inv_len f3 hlb'',fun σ3 s3 b1 b2 b3 b4=>s_nop (hK' _ _ ⟨s3,_,rfl,b1,f2.trans b2,?_⟩)⟩
       have:=inv_meet f3 (List.count_pos_iff.mpr hk) (b3 ▸ b4)
       rw [List.flatMap_append,← List.append_assoc,b3,List.flatMap_singleton]
       exact this
     · rintro m'' σ'' ⟨s'',y7,rfl,f1,f2,f3⟩
       refine s_end (s_nop (hK _ _ ⟨s'',_,_,_,rfl,f1,(a2.trans ((SvTo.pure s' c2).trans (SvTo.pure s' d2))).trans f2,inv_congr f3 fun j=>?_⟩))
       rw [ocTerms_snoc,← List.append_assoc,occ_app,occ_app _ (oc1 g c p t)]
       congr 1
       have h1:oc1 g c p t=t.vars.map fun k=>⟨k,g,c,p++S "_struct"⟩:=by
        cases t with
        | v k=>injection q
        | _=>rfl
       rw [h1,occ_flat hmk hnd,occ_map hmk]
       by_cases d:j ∈ nubF [] t.vars
       · rw [if_pos d]
       · rw [if_neg d,List.count_eq_zero_of_not_mem fun h=>d (nubF_mem.mpr (.inr h))]
         rfl
 · rintro m' σ' ⟨s',x5,x6,x7,rfl,a1,a2,a3⟩
   exact s_nop (hQ σ' s' a1 a2 a3)
noncomputable def kindW (i:Info):Str:=if i.count=1 then S "void" else if i.fch < i.lch then S "perm" else S "temp"
inductive T_kind_of (args:List AV) (Q:AV→AH→Prop) (σ:AH):Prop
 | mk (x:Addr) (i:Info):(args=[.obj 87 x])→(σ x=some (.attrs 87 i.fs))→(Q (.str (kindW i)) σ)→T_kind_of  args Q σ
noncomputable def t_kind_of:Tr:=T_kind_of
theorem vc_kind_of (Γ:Gam):VC Γ b_kind_of 1 1 t_kind_of:=by
 rintro args Q σ ⟨x,i,rfl,hx,hQ⟩
 refine ⟨rfl,?_⟩
 refine s_if (t:=decide (i.count=1)) (xb_cmp (x_attr rfl hx rfl) rfl rfl) (fun q=>s_ret (v:=.str (S "void")) rfl ?_) (fun q=>s_end (s_if (t:=decide (i.fch < i.lch)) (xb_cmp (x_attr rfl hx rfl) (x_attr rfl hx rfl) rfl) (fun q'=>s_ret (v:=.str (S "perm")) rfl ?_) (fun q'=>s_end (s_ret (v:=.str (S "temp")) rfl ?_))))
 · have:kindW i=S "void" := if_pos (of_decide_eq_true q)
   rw [this] at hQ
   exact hQ
 · have:kindW i=S "perm" := (if_neg (of_decide_eq_false q)).trans (if_pos (of_decide_eq_true q'))
   rw [this] at hQ
   exact hQ
 · have:kindW i=S "temp" := (if_neg (of_decide_eq_false q)).trans (if_neg (of_decide_eq_false q'))
   rw [this] at hQ
   exact hQ
noncomputable def natsI (l:List Nat):List Int:=l.map fun (n:Nat)=>(n:Int)
theorem intsOf_nats:∀ l:List Nat,intsOf (natsV l)=some (natsI l)
 | []=>rfl
 | n::l=>by
  show (intsOf (natsV l)).map _=_
  rw [intsOf_nats l]
  rfl
theorem intsOf_ints:∀ l:List Int,intsOf (l.map .int)=some l
 | []=>rfl
 | n::l=>by
  show (intsOf (l.map AV.int)).map _=_
  rw [intsOf_ints l]
  rfl
theorem kvs_keys (f:Nat→AV) (ks:List Nat):(kvsOf f ks).map (fun p=>AV.int p.1)=natsV ks:=by
 unfold kvsOf natsV
 rw [List.map_map]
 rfl
theorem sort_eq {l l':List Int} (h:List.Perm l l') (hs:l'.Pairwise (·≤·)):sortI l=l':=by
 refine List.Perm.eq_of_pairwise (le:=(·≤·)) (fun a b _ _ h1 h2=>Int.le_antisymm h1 h2) ?_ hs ((List.mergeSort_perm l _).trans h)
 refine (List.pairwise_mergeSort (le:=fun a b=>decide (a≤b)) (fun a b c h1 h2=>?_) (fun a b=>?_) l).imp fun h=>of_decide_eq_true h
 · exact decide_eq_true (Int.le_trans (of_decide_eq_true h1) (of_decide_eq_true h2))
 · rcases Int.le_total a b with h | h
   · simp [h]
   · simp [h]
theorem sort_perm (l:List Int):List.Perm (sortI l) l:=List.mergeSort_perm l _
theorem sort_sorted (l:List Int):(sortI l).Pairwise (·≤·):=by
 refine (List.pairwise_mergeSort (le:=fun a b=>decide (a≤b)) (fun a b c h1 h2=>?_) (fun a b=>?_) l).imp fun h=>of_decide_eq_true h
 · exact decide_eq_true (Int.le_trans (of_decide_eq_true h1) (of_decide_eq_true h2))
 · rcases Int.le_total a b with h | h
   · simp [h]
   · simp [h]
theorem range_perm {ks:List Nat} {N:Nat} (hn:ks.Nodup) (hm:∀ k,k ∈ ks↔k < N):List.Perm ks (List.range N):=
 (List.perm_ext_iff_of_nodup hn List.nodup_range).mpr fun k=>by rw [hm k,List.mem_range]
theorem range_sorted (N:Nat):(natsI (List.range N)).Pairwise (·≤·):=
 List.pairwise_map.mpr (List.pairwise_lt_range.imp fun h=>Int.ofNat_le.mpr (Nat.le_of_lt h))
theorem sort_range {ks:List Nat} {N:Nat} (hn:ks.Nodup) (hm:∀ k,k ∈ ks↔k < N):sortI (natsI ks)=natsI (List.range N):=
 sort_eq ((range_perm hn hm).map _) (range_sorted N)
theorem natsI_int (l:List Nat):(natsI l).map AV.int=natsV l:=by
 unfold natsI natsV
 rw [List.map_map]
 rfl
theorem e_sorted {Γ:Gam} {σ:AH} {m:Env'} {R:AV→AH→Prop} {e:PE} {a:Addr} {xs:List AV} {is:List Int} (ho:ev σ m e=some (.ref a)) (hx:itemsOf σ (.ref a)=some xs) (hi:intsOf xs=some is) (hl:is.length < 64)
 (k:∀ r,σ r=none→R (.ref r) (σ.set r (.list ((sortI is).map .int)))):pwpE Γ (.bi .sorted (.cons e .nil)) m R σ:=by
 refine e_bi (es_ev ho (es_nil ?_))
 exact intsAt_of hx hi ⟨hl,k⟩
theorem pyIdx_of {xs:List AV} {k:Int} {n:Nat} (h:k=n):pyIdx xs k=xs[n]?:=by
 subst h
 unfold pyIdx
 rw [if_pos (Int.natCast_nonneg n),Int.toNat_natCast]
theorem natsV_get {l:List Nat} {n:Nat} (h:n < l.length):(natsV l)[n]?=some (.int (l[n]:Nat)):=by
 unfold natsV
 rw [List.getElem?_map,List.getElem?_eq_getElem h]
 rfl
noncomputable def Bef (inf:Nat→Info) (a b:Nat):Prop:=(inf b).last < (inf a).last∨((inf a).last=(inf b).last∧a < b)
theorem Bef.irrefl {inf:Nat→Info} {a:Nat} (h:Bef inf a a):False:=by
 rcases h with h | h
 · exact absurd h (Int.lt_irrefl _)
 · exact absurd h.2 (Nat.lt_irrefl _)
theorem Bef.nodup {inf:Nat→Info} {l:List Nat} (h:l.Pairwise (Bef inf)):l.Nodup:=h.imp fun {a b} (h:Bef inf a b) (q:a=b)=>by subst q;exact Bef.irrefl h
structure Ord (N:Nat) (inf:Nat→Info) (ord:List Nat):Prop where
 s:ord.Pairwise (Bef inf)
 mem:∀ k,k ∈ ord↔k < N∧(inf k).kind=S "perm"
theorem Ord.len {N:Nat} {inf:Nat→Info} {ord:List Nat} (h:Ord N inf ord):ord.length≤N:=pigeon N ord (Bef.nodup h.s) fun k hk=>((h.mem k).mp hk).1
theorem Ord.ins {N:Nat} {inf:Nat→Info} {ord:List Nat} (h:Ord N inf ord) (hk:(inf N).kind=S "perm") {n:Nat} (h1:∀ y ∈ ord.drop n,(inf y).last < (inf N).last) (h2:∀ y ∈ ord.take n,(inf N).last≤(inf y).last):
 Ord (N+1) inf (ord.take n++N::ord.drop n) where
 s:=by
  have hs:(ord.take n++ord.drop n).Pairwise (Bef inf):=by rw [List.take_append_drop];exact h.s
  obtain ⟨p1,p2,p3⟩:=List.pairwise_append.mp hs
  refine List.pairwise_append.mpr ⟨p1,List.pairwise_cons.mpr ⟨fun y hy=>.inl (h1 y hy),p2⟩,fun a ha b hb=>?_⟩
  rcases List.mem_cons.mp hb with q | q
  · subst q
    have h3:=((h.mem a).mp (List.mem_of_mem_take ha)).1
    rcases Int.lt_or_eq_of_le (h2 a ha) with q | q
    · exact .inl q
    · exact .inr ⟨q.symm,h3⟩
  · exact p3 a ha b q
 mem:=fun k=>by
  have:k ∈ ord.take n++N::ord.drop n↔k ∈ ord∨k=N:=by
   rw [List.mem_append,List.mem_cons]
   conv=>rhs;rw [← List.take_append_drop n ord,List.mem_append]
   constructor
   · rintro (q | q | q)
     · exact .inl (.inl q)
     · exact .inr q
     · exact .inl (.inr q)
   · rintro ((q | q) | q)
     · exact .inl q
     · exact .inr (.inr q)
     · exact .inr (.inl q)
  rw [this,h.mem]
  constructor
  · rintro (q | q)
    · exact ⟨by lia,q.2⟩
    · subst q;exact ⟨by lia,hk⟩
  · rintro ⟨q1,q2⟩
    by_cases c:k=N
    · exact .inr c
    · exact .inl ⟨by lia,q2⟩
theorem Ord.skip {N:Nat} {inf:Nat→Info} {ord:List Nat} (h:Ord N inf ord) (hk:(inf N).kind≠S "perm"):Ord (N+1) inf ord where
 s:=h.s
 mem:=fun k=>by
  rw [h.mem]
  constructor
  · rintro q;exact ⟨by lia,q.2⟩
  · rintro ⟨q1,q2⟩
    have c:k≠N:=fun c=>hk (c ▸ q2)
    exact ⟨by lia,q2⟩
inductive T_slot_order (args:List AV) (Q:AV→AH→Prop) (σ:AH):Prop
 | mk (D:Addr) (ep:Nat) (ad:Nat→Addr) (ks:List Nat) (inf:Nat→Info) (N:Nat):(args=[.ref D])→(InfAt σ D ep ad ks inf)→(ks.Nodup)→((∀ k,k ∈ ks↔k < N))→(N < 64)→(∀ (r:Addr) (σ':AH) (ord:List Nat),σ r=none→Ext [] σ σ'→σ' r=some (.list (natsV ord))→Ord N inf ord→Q (.ref r) σ')→T_slot_order  args Q σ
noncomputable def t_slot_order:Tr:=T_slot_order
theorem vc_slot_order (Γ:Gam):VC Γ b_slot_order 1 5 t_slot_order:=by
 rintro args Q σ ⟨D,ep,ad,ks,inf,N,rfl,hA,hnd,hmem,hN,hQ⟩
 refine ⟨rfl,?_⟩
 refine s_asgX (e_list0 fun o ho=>s_forX ?_)
 have hA1:=hA.mono ((Ext.refl [] σ).updN ho (.list []))
 have hlen:ks.length < 64:=by rw [(range_perm hnd hmem).length_eq,List.length_range];exact hN
 refine e_sorted (is:=natsI ks) rfl (items_dict hA1.d) (by rw [kvs_keys,intsOf_nats]) (by unfold natsI;rw [List.length_map];exact hlen) fun r hr'=>?_
 have hro:r≠o:=fun q=>by rw [q,set_same] at hr';injection hr'
 have hr:σ r=none:=by rwa [set_ne _ _ hro] at hr'
 rw [sort_range hnd hmem,natsI_int]
 refine forK_one (f:=fun (n:Nat)=>AV.int (n:Int)) (all:=List.range N) (fun pre m' σ'=>EI4_4 (fun (x2 x3 x4:Option AV) (ord:List Nat) m'=>m'=[some (.ref D),some (.ref o),x2,x3,x4]) (fun (x2 x3 x4:Option AV) (ord:List Nat) σ'=>Ext [] σ σ') (fun (x2 x3 x4:Option AV) (ord:List Nat) σ'=>σ' r=some (.list (natsV (List.range N)))) (fun (x2 x3 x4:Option AV) (ord:List Nat) σ'=>σ' o=some (.list (natsV ord))) (fun (x2 x3 x4:Option AV) (ord:List Nat) σ'=>Ord pre.length inf ord) m' σ') (items_list (set_same _ _ _)) ?_ ?_ ?_ ?_
 · exact ⟨none,none,none,[],rfl,((Ext.refl [] σ).updN ho _).updN hr _,set_same _ _ _,(set_ne _ _ (Ne.symm hro)).trans (set_same _ _ _),⟨List.Pairwise.nil,fun k=>⟨fun h=>(nomatch h),fun h=>absurd h.1 (Nat.not_lt_zero _)⟩⟩⟩
 · rintro pre m' σ' ⟨x2,x3,x4,ord,rfl,a1,a2,a3,a4⟩
   exact sameSrc_list (set_same _ _ _) a2
 · rintro pre k post m' σ' K e ⟨x2,x3,x4,ord,rfl,a1,a2,a3,a4⟩ hK _
   obtain ⟨rfl,hkN⟩:=range_split e
   have hA2:=hA.mono a1
   have hk:pre.length ∈ ks:=(hmem _).mpr hkN
   have hol:=a4.len
   refine s_asg (v:=.obj 87 (ad pre.length)) (x_idxD rfl hA2.d rfl (kvs_lookup hk)) ?_
   refine s_if (t:=decide ((inf pre.length).kind=S "perm")) (xb_cmp (x_attr rfl (hA2.i _ hk) rfl) rfl rfl) (fun q=>?_) (fun q=>?_)
   · refine s_asg (x_lenL rfl a3) ?_
     refine s_whl (fun n m'' σ''=>m''=[some (.ref D),some (.ref o),some (.int pre.length),some (.obj 87 (ad pre.length)),some (.int n)]∧σ''=σ'∧n≤ord.length∧∀ y ∈ ord.drop n,(inf y).last < (inf pre.length).last)
      (n:=ord.length) ⟨by rw [natsV_length];rfl,rfl,Nat.le_refl _,by rw [List.drop_length];intro y hy;cases hy⟩ ?_
     rintro n m'' σ'' ⟨rfl,rfl,b1,b2⟩
     have fin:(∀ y ∈ ord.take n,(inf pre.length).last≤(inf y).last)→pwpS Γ (.seq (.expr (.bm (.var 1) .insert (.cons (.var 4) (.cons (.var 2) .nil)))) .nop) (Bh Γ .nop K) [some (.ref D),some (.ref o),some (.int pre.length),some (.obj 87 (ad pre.length)),some (.int n)] σ'':=by
      intro b3
      refine s_expr (e_ins (n:=n) rfl a3 rfl rfl (by rw [natsV_length];exact b1) (by rw [natsV_length];unfold LIM;lia) (s_end (s_nop (hK _ _ ⟨_,_,_,ord.take n++pre.length::ord.drop n,rfl,a1.updN ho _,(set_ne _ _ hro).trans a2,?_,?_⟩))))
      · rw [set_same]
        unfold natsV
        rw [List.map_append,List.map_cons,List.map_take,List.map_drop]
      · rw [List.length_append]
        exact a4.ins (of_decide_eq_true q) b2 b3
     cases n with
     | zero=>exact ⟨false,xb_all (b:=false) rfl (fun h=>nomatch h) (fun _=>rfl),fun _=>fin (fun y hy=>by cases hy),fun h=>nomatch h⟩
     | succ n=>
      have hlt:n < ord.length:=b1
      have hy:ord[n] ∈ ord:=List.getElem_mem hlt
      have hyk:ord[n] ∈ ks:=(hmem _).mpr (Nat.lt_trans ((a4.mem _).mp hy).1 hkN)
      have hb:∀ n':Nat,n'=n+1→ev σ'' [some (.ref D),some (.ref o),some (.int pre.length),some (.obj 87 (ad pre.length)),some (.int n')] (.idx (.var 0) (.idx (.var 1) (.bin .sub (.var 4) (.lit (.int 1)))))=some (.obj 87 (ad ord[n])):=by
       rintro n' rfl
       refine x_idxD rfl hA2.d (x_idxL rfl a3 (x_bin rfl rfl rfl) ?_) (kvs_lookup hyk)
       rw [pyIdx_of (n:=n) (by lia),natsV_get hlt]
      refine ⟨decide ((inf ord[n]).last < (inf pre.length).last),xb_all (b:=true) ?_ (fun _=>?_) (fun h=>absurd rfl h),fun q'=>fin fun y hy'=>?_,fun q' K' hK' _=>?_⟩
      · exact xb_cmp (x:=.int ((n+1:Nat):Int)) (y:=.int 0) rfl rfl (congrArg some (decide_eq_true (by lia)))
      · refine xb_all (b:=decide ((inf ord[n]).last < (inf pre.length).last)) (xb_cmp (x_attr (hb _ rfl) (hA2.i _ hyk) rfl) (x_attr rfl (hA2.i _ hk) rfl) rfl) (fun h=>?_) (fun h=>rfl)
        rw [h]
        rfl
      · have q2:¬ (inf ord[n]).last < (inf pre.length).last:=of_decide_eq_false q'
        have hs:(ord.take (n+1)).Pairwise (Bef inf):=a4.s.sublist (List.take_sublist _ _)
        rw [List.take_succ_eq_append_getElem hlt] at hs hy'
        rcases List.mem_append.mp hy' with h | h
        · have:=(List.pairwise_append.mp hs).2.2 y h _ (List.mem_singleton.mpr rfl)
          rcases this with h | h
          · lia
          · rw [h.1];lia
        · rw [List.mem_singleton.mp h];lia
      · have q2:(inf ord[n]).last < (inf pre.length).last:=of_decide_eq_true q'
        refine s_augV (x:=((n+1:Nat):Int)) (y:=1) rfl rfl rfl (.inr rfl) (s_nop (hK' n _ _ (Nat.lt_succ_self n) ⟨?_,rfl,by lia,fun y hy'=>?_⟩))
        · show [_,_,_,_,some (AV.int (((n+1:Nat):Int) - 1))]=_
          rw [show ((n+1:Nat):Int) - 1=(n:Int) by lia]
        · rw [List.drop_eq_getElem_cons hlt] at hy'
          rcases List.mem_cons.mp hy' with h | h
          · rw [h];exact q2
          · exact b2 y h
   · refine s_end (s_nop (hK _ _ ⟨_,_,_,ord,rfl,a1,a2,a3,?_⟩))
     rw [List.length_append]
     exact a4.skip (of_decide_eq_false q)
 · rintro m' σ' ⟨x2,x3,x4,ord,rfl,a1,a2,a3,a4⟩
   rw [List.length_range] at a4
   exact s_ret (v:=.ref o) rfl (hQ o σ' ord ho a1 a3 a4)
section
structure KerAt (σ:AH) (kx ga:Addr) (K:Ker):Prop where
 o:∃ f,σ kx=some (.attrs 52 [(S "functor",f),(S "args",.tup (K.args.map enc)),(S "goals",.ref ga),(S "count",.int K.count)])
 g:σ ga=some (.list (K.goals.map encG))
theorem KerAt.mono {σ σ':AH} {kx ga:Addr} {K:Ker} (h:KerAt σ kx ga K) (x:Ext [] σ σ'):KerAt σ' kx ga K:=⟨by obtain ⟨f,e⟩:=h.o;exact ⟨f,x.get e⟩,x.get h.g⟩
structure PlanD where
 ks:List Nat
 inf:Nat→Info
 chunks:List Int
 needs:Bool
 env:Int
 live:List Int
structure PlanAt (σ:AH) (p D c l:Addr) (ep:Nat) (ad:Nat→Addr) (P:PlanD):Prop where
 o:σ p=some (.attrs 143 (planFs D c l P.needs P.env))
 a:InfAt σ D ep ad P.ks P.inf
 hc:σ c=some (.list (P.chunks.map .int))
 hl:σ l=some (.list (P.live.map .int))
 cl:c≠l
theorem PlanAt.mono {σ σ':AH} {p D c l:Addr} {ep:Nat} {ad:Nat→Addr} {P:PlanD} (h:PlanAt σ p D c l ep ad P) (x:Ext [] σ σ'):PlanAt σ' p D c l ep ad P:=⟨x.get h.o,h.a.mono x,x.get h.hc,x.get h.hl,h.cl⟩
noncomputable def kindI (i:Info):Info:={ i with kind:=kindW i }
noncomputable def slotI (ord:List Nat) (k:Nat) (i:Info):Info:=if k ∈ ord then { i with slot:=(ord.idxOf k:Nat)+1,uns:=decide (i.first=S "goal_arg") } else i
noncomputable def inf1 (K:Ker) (k:Nat):Info:=kindI (infoOf k (occ K.oc k))
noncomputable def liveN (inf:Nat→Info) (ord:List Nat) (a:Nat):Nat:=(ord.takeWhile fun k=>decide ((a:Int) < (inf k).last)).length
structure PlanOf (K:Ker) (P:PlanD) (ord:List Nat):Prop where
 nd:P.ks.Nodup
 mem:∀ k,k ∈ P.ks↔k < K.count
 hord:Ord K.count (inf1 K) ord
 inf:∀ k,k < K.count→P.inf k=slotI ord k (inf1 K k)
 chunks:P.chunks=natsI (chunksOf 0 K.goals)
 needs:P.needs=K.goals.dropLast.any Gl.isCall
 env:P.env=(ord.length:Nat)
 live:P.live=natsI ((List.range K.goals.length).map (liveN (inf1 K) ord))
theorem InfAt.congr {σ:AH} {D:Addr} {ep:Nat} {ad:Nat→Addr} {ks:List Nat} {inf inf':Nat→Info} (h:InfAt σ D ep ad ks inf) (e:∀ k ∈ ks,inf k=inf' k):InfAt σ D ep ad ks inf':=
 ⟨h.d,fun k hk=>by rw [← e k hk];exact h.i k hk,h.inj⟩
noncomputable def callsIn (gs:List Gl):Nat:=(gs.filter Gl.isCall).length
theorem chunksOf_len:∀ (gs:List Gl) (c:Nat),(chunksOf c gs).length=gs.length
 | [],c=>rfl
 | g::gs,c=>by
  show ((chunksOf _ gs).length+1)=_
  rw [chunksOf_len gs]
  rfl
theorem callsIn_cons (g:Gl) (gs:List Gl):callsIn (g::gs)=(if g.isCall=true then 1 else 0)+callsIn gs:=by
 unfold callsIn
 rw [List.filter_cons]
 by_cases h:g.isCall=true
 · rw [if_pos h,if_pos h,List.length_cons,Nat.add_comm]
 · rw [if_neg h,if_neg h,Nat.zero_add]
theorem callsIn_snoc (gs:List Gl) (g:Gl):callsIn (gs++[g])=callsIn gs+(if g.isCall=true then 1 else 0):=by
 unfold callsIn
 rw [List.filter_append,List.length_append,List.filter_cons]
 by_cases h:g.isCall=true
 · rw [if_pos h,if_pos h];rfl
 · rw [if_neg h,if_neg h];rfl
theorem chunksOf_get:∀ (gs:List Gl) (c i:Nat),i < gs.length→(chunksOf c gs)[i]?=some (c+callsIn (gs.take i))
 | g::gs,c,0,h=>rfl
 | g::gs,c,i+1,h=>by
  show (chunksOf (if g.isCall=true then c+1 else c) gs)[i]?=_
  rw [chunksOf_get gs _ i (Nat.lt_of_succ_lt_succ h),List.take_succ_cons,callsIn_cons]
  by_cases q:g.isCall=true
  · rw [if_pos q,if_pos q,Nat.add_assoc]
  · rw [if_neg q,if_neg q,Nat.zero_add]
theorem chunksOf_snoc (g:Gl):∀ (gs:List Gl) (c:Nat),chunksOf c (gs++[g])=chunksOf c gs++[c+callsIn gs]
 | [],c=>rfl
 | h::gs,c=>by
  show c::chunksOf (if h.isCall=true then c+1 else c) (gs++[g])=c::(chunksOf (if h.isCall=true then c+1 else c) gs++_)
  rw [chunksOf_snoc g gs,callsIn_cons]
  by_cases q:h.isCall=true
  · rw [if_pos q,if_pos q,Nat.add_assoc]
  · rw [if_neg q,if_neg q,Nat.zero_add]
theorem vc_chunk_numbers (Γ:Gam):VC Γ b_chunk_numbers 1 4 t_chunk_numbers:=by
 rintro args Q σ ⟨a,gs,rfl,ha,hg,hl,hQ⟩
 refine ⟨rfl,?_⟩
 refine s_asgX (e_list0 fun r hr=>s_asg (v:=.int 0) rfl ?_)
 have hne:=ne_of ha hr
 refine s_forX (ev_w (v:=.ref a) rfl (forK_one (f:=encG) (all:=gs) (fun pre m' σ'=>EI1_2 (fun (x3:Option AV) m'=>m'=[some (.ref a),some (.ref r),some (.int (callsIn pre:Nat)),x3]) (fun (x3:Option AV) σ'=>Only r σ σ') (fun (x3:Option AV) σ'=>σ' r=some (.list (natsV (chunksOf 0 pre)))) m' σ') (items_list ((set_ne _ _ hne).trans ha)) ⟨_,rfl,(Only.refl _ _).set _,set_same _ _ _⟩ ?_ ?_ ?_))
 · rintro pre m' σ' ⟨_,_,a1,_⟩
   exact sameSrc_list ((set_ne _ _ hne).trans ha) ((a1 a hne).trans ha)
 · rintro pre g post m' σ' K e ⟨x3,rfl,a1,a2⟩ hK _
   have hlen:pre.length≤1000:=by
    have:=congrArg List.length e
    rw [List.length_append] at this
    lia
   have hs:=chunksOf_snoc g pre 0
   rw [Nat.zero_add] at hs
   have hc:=callsIn_snoc pre g
   refine s_expr (e_app rfl a2 (v:=.int (callsIn pre:Nat)) rfl (by rw [natsV_length,chunksOf_len];unfold LIM;lia) ?_)
   rw [nats_app,← hs]
   refine s_if (encG_call (hg g (by rw [e];simp)) _ _ 3 rfl) (fun q=>?_) (fun q=>?_)
   · rw [if_pos q] at hc
     exact s_augV (x:=(callsIn pre:Nat)) (y:=1) rfl rfl rfl (.inl rfl) (s_end (s_nop (hK _ _ ⟨some (encG g),by rw [hc];rfl,a1.set _,set_same _ _ _⟩)))
   · rw [if_neg (by rw [q];decide)] at hc
     exact s_end (s_nop (hK _ _ ⟨some (encG g),by rw [hc];rfl,a1.set _,set_same _ _ _⟩))
 · rintro m' σ' ⟨x3,rfl,a1,a2⟩
   exact s_ret (v:=.ref r) rfl (hQ r σ' hr a1 a2)
theorem ocGoals_snoc (g:Gl):∀ (gs:List Gl) (a c:Nat),ocGoals a c (gs++[g])=ocGoals a c gs++ocGoal (a+gs.length) (c+callsIn gs) g
 | [],a,c=>by
  show ocGoal a c g++[]=[]++ocGoal a c g
  rw [List.append_nil,List.nil_append]
 | h::gs,a,c=>by
  show ocGoal a c h++ocGoals (a+1) (if h.isCall=true then c+1 else c) (gs++[g])=(ocGoal a c h++ocGoals (a+1) (if h.isCall=true then c+1 else c) gs)++_
  rw [ocGoals_snoc g gs,List.append_assoc,callsIn_cons,List.length_cons]
  have h1:a+1+gs.length=a+(gs.length+1):=by lia
  have h2:(if h.isCall=true then c+1 else c)+callsIn gs=c+((if h.isCall=true then 1 else 0)+callsIn gs):=by
   by_cases q:h.isCall=true
   · rw [if_pos q,if_pos q];lia
   · rw [if_neg q,if_neg q];lia
  rw [h1,h2]
theorem take_snoc {α:Type} {l:List α} {i:Nat} (h:i < l.length):l.take (i+1)=l.take i++[l[i]]:=List.take_succ_eq_append_getElem h
theorem tw_len {p:Nat→Bool}:∀ {l:List Nat} {v:Nat},(∀ y ∈ l.take v,p y=true)→(v=l.length∨∃ h:v < l.length,p l[v]=false)→(l.takeWhile p).length=v
 | [],v,_,h=>by
  rcases h with h | ⟨h,_⟩
  · rw [h];rfl
  · cases h
 | x::l,0,_,h=>by
  rcases h with h | ⟨h,h2⟩
  · injection h
  · have:p x=false:=h2
    rw [List.takeWhile_cons,this]
    rfl
 | x::l,v+1,h1,h=>by
  have:p x=true:=h1 x (by rw [List.take_succ_cons];exact .head _)
  rw [List.takeWhile_cons,this]
  show (l.takeWhile p).length+1=v+1
  rw [tw_len (fun y hy=>h1 y (by rw [List.take_succ_cons];exact .tail _ hy)) (h.imp (fun e=>Nat.succ.inj e) fun ⟨a,b⟩=>⟨Nat.lt_of_succ_lt_succ a,b⟩)]
variable {Γ:Gam} {Q:AFl→Env'→AH→Prop} {b:PS}
structure Cl (σ₀ σ:AH) (kx ga ch:Addr) (K:Ker):Prop where
 e:Ext [] σ₀ σ
 k:KerAt σ kx ga K
 ch:σ ch=some (.list (natsV (chunksOf 0 K.goals)))
theorem Cl.to {σ₀ σ σ':AH} {kx ga ch:Addr} {K:Ker} {s s':Sv} (h:Cl σ₀ σ kx ga ch K) (hk:KerAt σ₀ kx ga K) (hs:∀ b ∈ s.foot,σ₀ b=none) (hc:ch ∉ s.foot) (t:SvTo σ s σ' s'):Cl σ₀ σ' kx ga ch K:=
 have e:Ext [] σ₀ σ':=fun b _ o e=>t.ext b (fun q=>by rw [hs b q] at e;injection e) o (h.e.get e)
 ⟨e,hk.mono e,t.ext ch hc _ h.ch⟩
noncomputable def loop1:PS:=(.seq (.asg 6 (.idx (.var 1) (.var 5))) <|
     (.seq (.asg 7 (.call (S "goal_special") (.cons (.var 6) .nil))) <|
     (.seq (.ifS (.cmp .ge (.var 7) (.lit (.int (0))))
      (.seq (.expr (.meth (.var 3) (S "meet") (.cons (.var 7) (.cons (.lit (.str (S "special"))) (.cons (.var 5) (.cons (.idx (.var 2) (.var 5)) (.cons (.lit (.int (1))) .nil))))))) <|
      .nop)
      .nop) <|
     (.seq (.expr (.meth (.var 3) (S "terms") (.cons (.call (S "goal_terms") (.cons (.var 6) .nil)) (.cons (.lit (.str (S "goal"))) (.cons (.var 5) (.cons (.idx (.var 2) (.var 5)) .nil)))))) <|
     (.seq (.ifS (.bop true (.cons (.cmp .eq (.idx (.var 6) (.lit (.int (0)))) (.lit (.str (S "call")))) (.cons (.cmp .lt (.bin .add (.var 5) (.lit (.int (1)))) (.bi .len (.cons (.var 1) .nil))) .nil)))
      (.seq (.asg 4 (.lit (.bool true))) <|
      .nop)
      .nop) <|
     .nop)))))
theorem body1 (hsp:Γ.fn (S "goal_special")=some t_goal_special) (hgt:Γ.fn (S "goal_terms")=some t_goal_terms) (hm:Γ.mth 185 (S "meet")=some t_meet) (ht:Γ.mth 185 (S "terms")=some t_terms)
 {σ₀ σ:AH} {kx ga ch sx:Addr} {K:Ker} (hK:K.Ok) (hk₀:KerAt σ₀ kx ga K) {s:Sv} (hs0:∀ b ∈ s.foot,σ₀ b=none) (hc:ch ∉ s.foot) {i:Nat} (hi:i < K.goals.length) (hC:Cl σ₀ σ kx ga ch K) (hs:SvAt σ sx s)
 {l:List Oc} (hl:l=ocTerms (-1) 0 (S "head") K.args++ocGoals 0 0 (K.goals.take i)) (hv:SvInv l s.ks s.inf) (hlb:∀ o ∈ K.oc,o.k < 64) {x6 x7:Option AV} {tl:Env'} {C:AFl→Env'→AH→Prop}
 (hC':∀ σ' s' x6 x7,SvTo σ s σ' s'→SvAt σ' sx s'→SvInv (ocTerms (-1) 0 (S "head") K.args++ocGoals 0 0 (K.goals.take (i+1))) s'.ks s'.inf→
  C .next ([some (.obj 52 kx),some (.ref ga),some (.ref ch),some (.obj 185 sx),some (.bool ((K.goals.dropLast.take (i+1)).any Gl.isCall)),some (.int i),x6,x7]++tl) σ'):
 pwpS Γ loop1 C ([some (.obj 52 kx),some (.ref ga),some (.ref ch),some (.obj 185 sx),some (.bool ((K.goals.dropLast.take i).any Gl.isCall)),some (.int i),x6,x7]++tl) σ:=by
 have hg:=hK.goalsOk _ (List.getElem_mem hi)
 have hchl:i < (chunksOf 0 K.goals).length:=by rw [chunksOf_len];exact hi
 have hch:(natsV (chunksOf 0 K.goals))[i]?=some (.int (callsIn (K.goals.take i):Nat)):=by
  unfold natsV
  rw [List.getElem?_map,chunksOf_get _ _ _ hi,Nat.zero_add]
  rfl
 have hsplit:K.oc=l++(ocGoal i (callsIn (K.goals.take i)) K.goals[i]++ocGoals (i+1) (callsIn (K.goals.take (i+1))) (K.goals.drop (i+1))):=by
  have key:∀ (gs hs:List Gl) (a c:Nat),ocGoals a c (gs++hs)=ocGoals a c gs++ocGoals (a+gs.length) (c+callsIn gs) hs:=by
   intro gs hs
   induction gs with
   | nil=>intro a c;rfl
   | cons g gs ih=>
    intro a c
    show ocGoal a c g++ocGoals (a+1) (if g.isCall=true then c+1 else c) (gs++hs)=(ocGoal a c g++ocGoals (a+1) (if g.isCall=true then c+1 else c) gs)++_
    rw [ih,List.append_assoc,callsIn_cons,List.length_cons,show a+1+gs.length=a+(gs.length+1) by lia]
    have h2:(if g.isCall=true then c+1 else c)+callsIn gs=c+((if g.isCall=true then 1 else 0)+callsIn gs):=by
     by_cases q:g.isCall=true
     · rw [if_pos q,if_pos q];lia
     · rw [if_neg q,if_neg q];lia
    rw [h2]
  have h3:=key (K.goals.take (i+1)) (K.goals.drop (i+1)) 0 0
  rw [List.take_append_drop,take_snoc hi,ocGoals_snoc,List.length_append,List.length_take,Nat.min_eq_left (Nat.le_of_lt hi),← take_snoc hi] at h3
  simp only [Nat.zero_add,List.length_singleton] at h3
  unfold Ker.oc
  rw [hl,h3]
  simp only [List.append_assoc]
 have hgo:ocGoals 0 0 (K.goals.take (i+1))=ocGoals 0 0 (K.goals.take i)++ocGoal i (callsIn (K.goals.take i)) K.goals[i]:=by
  rw [take_snoc hi,ocGoals_snoc,List.length_take,Nat.min_eq_left (Nat.le_of_lt hi),Nat.zero_add,Nat.zero_add]
 have hgl:(K.goals.map encG)[i]?=some (encG K.goals[i]):=by rw [List.getElem?_map,List.getElem?_eq_getElem hi];rfl
 have hsz:=hK.goalsSize _ (List.getElem_mem hi)
 have hlen:=hK.goalsLen
 have hlb1:∀ o ∈ l,o.k < 64:=fun o ho=>hlb o (by rw [hsplit];exact List.mem_append_left _ ho)
 have hlb2:∀ o ∈ ocGoal i (callsIn (K.goals.take i)) K.goals[i],o.k < 64:=fun o ho=>hlb o (by rw [hsplit];exact List.mem_append_right _ (List.mem_append_left _ ho))
 have hdl:(K.goals.dropLast.take (i+1)).any Gl.isCall=((K.goals.dropLast.take i).any Gl.isCall || (K.goals[i].isCall && decide (i+1 < K.goals.length))):=by
  by_cases q:i+1 < K.goals.length
  · have h1:i < K.goals.dropLast.length:=by rw [List.length_dropLast];lia
    rw [take_snoc h1,List.any_append,List.getElem_dropLast]
    simp [q]
  · have h1:K.goals.dropLast.length≤i:=by rw [List.length_dropLast];lia
    rw [List.take_of_length_le (Nat.le_succ_of_le h1),List.take_of_length_le h1]
    simp [q]
 revert hgo hlb2 hdl hsz hg hgl
 generalize K.goals[i]=g
 intro hg hgo hgl hsz hlb2 hdl
 have rest:∀ (σ₁:AH) (s₁:Sv) (sp:Int),SvTo σ s σ₁ s₁→SvAt σ₁ sx s₁→SvInv (l++(match g.special with | some k=>[⟨k,(i:Int),callsIn (K.goals.take i),S "special"⟩] | none=>[])) s₁.ks s₁.inf→
  pwpS Γ (.seq (.expr (.meth (.var 3) (S "terms") (.cons (.call (S "goal_terms") (.cons (.var 6) .nil)) (.cons (.lit (.str (S "goal"))) (.cons (.var 5) (.cons (.idx (.var 2) (.var 5)) .nil)))))) <|
  (.seq (.ifS (.bop true (.cons (.cmp .eq (.idx (.var 6) (.lit (.int (0)))) (.lit (.str (S "call")))) (.cons (.cmp .lt (.bin .add (.var 5) (.lit (.int (1)))) (.bi .len (.cons (.var 1) .nil))) .nil)))
   (.seq (.asg 4 (.lit (.bool true))) <|
   .nop)
   .nop) <|
  .nop)) C ([some (.obj 52 kx),some (.ref ga),some (.ref ch),some (.obj 185 sx),some (.bool ((K.goals.dropLast.take i).any Gl.isCall)),some (.int i),some (encG g),some (.int sp)]++tl) σ₁:=by
  intro σ₁ s₁ sp t1 a1 v1
  have hC1:=hC.to hk₀ hs0 hc t1
  refine s_expr (e_meth rfl a1.o ht rfl (es_cons (e_call hgt (es_ev (v:=encG g) rfl (es_nil ⟨g,rfl,hg,?_⟩)))))
  refine es_ev (v:=.str (S "goal")) rfl (es_ev (v:=.int i) rfl (es_ev (x_idxL rfl hC1.ch rfl ((pyIdx_of rfl).trans hch)) (es_nil ?_)))
  rw [encs_map]
  refine ⟨sx,s₁,_,g.terms,S "goal",i,callsIn (K.goals.take i),rfl,a1,v1,?_,?_,?_,Nat.le_trans hsz (by decide),by decide,fun σ₂ s₂ a2 t2 v2=>?_⟩
  · intro o ho
    rcases List.mem_append.mp ho with h | h
    · exact hlb1 o h
    · exact hlb2 o (List.mem_append_left _ h)
  · intro k hk
    rw [← oc_k (g:=(i:Int)) (c:=callsIn (K.goals.take i)) (p:=S "goal")] at hk
    obtain ⟨o,ho,rfl⟩:=List.mem_map.mp hk
    exact hlb2 o (List.mem_append_right _ ho)
  · cases g with
    | sp w k=>exact trivial
    | un x y=>exact ⟨hg.1,hg.2,trivial⟩
    | tm w f ts=>exact hg.2
    | ct w=>exact trivial
  · have hC2:=hC.to hk₀ hs0 hc (t1.trans t2)
    have v3:SvInv (ocTerms (-1) 0 (S "head") K.args++ocGoals 0 0 (K.goals.take (i+1))) s₂.ks s₂.inf:=by
     rw [hgo,← List.append_assoc,← hl]
     unfold ocGoal
     rw [← List.append_assoc]
     exact v2
    have hlt:cmpW .lt σ₂ (.int ((i:Int)+1)) (.int ((K.goals.map encG).length))=some (decide (i+1 < K.goals.length)):=by
     show some (decide ((i:Int)+1 < ((K.goals.map encG).length:Nat)))=_
     rw [List.length_map]
     congr 1
     exact decide_eq_decide.mpr (by lia)
    refine s_if (t:=g.isCall && decide (i+1 < K.goals.length)) (xb_all (b:=g.isCall) (encG_call hg _ _ 6 rfl) (fun q=>xb_all (b:=decide (i+1 < K.goals.length)) (xb_cmp (x_bin rfl rfl rfl) (x_lenL rfl hC2.k.g) hlt) (fun q'=>?_) (fun _=>?_)) (fun q=>?_)) (fun q=>?_) (fun q=>?_)
    · rw [q,q'];rfl
    · rw [q];rfl
    · rw [eq_false_of_ne_true q];rfl
    · refine s_asg (v:=.bool true) rfl (s_end (s_nop ?_))
      have:=hC' σ₂ s₂ (some (encG g)) (some (.int sp)) (t1.trans t2) a2 v3
      rw [hdl,q,Bool.or_true] at this
      exact this
    · refine s_end (s_nop ?_)
      have:=hC' σ₂ s₂ (some (encG g)) (some (.int sp)) (t1.trans t2) a2 v3
      rw [hdl,q,Bool.or_false] at this
      exact this
 refine s_asg (v:=encG g) (x_idxL rfl hC.k.g rfl ((pyIdx_of rfl).trans hgl)) ?_
 refine s_asgX (e_call hsp (es_ev (v:=encG g) rfl (es_nil ⟨g,rfl,hg,?_⟩)))
 refine s_if (t:=decide (0≤spInt g)) (xb_cmp rfl rfl rfl) (fun q=>?_) (fun q=>?_)
 · have h0:0≤spInt g:=of_decide_eq_true q
   obtain ⟨k,hk⟩:∃ k,g.special=some k:=by
    unfold spInt at h0
    cases e:g.special with
    | none=>rw [e] at h0;exact absurd h0 (by decide)
    | some k=>exact ⟨k,rfl⟩
   have hki:spInt g=k:=by unfold spInt;rw [hk]
   rw [hki]
   refine s_expr (e_meth rfl hs.o hm rfl (es_ev (v:=.int k) rfl (es_ev (v:=.str (S "special")) rfl (es_ev (v:=.int i) rfl (es_ev (x_idxL rfl hC.ch rfl ((pyIdx_of rfl).trans hch)) (es_ev (v:=.int 1) rfl (es_nil ?_)))))))
   refine ⟨sx,s,k,S "special",i,callsIn (K.goals.take i),1,rfl,hs,inv_len hv hlb1,fun σ₁ s₁ b1 b2 b3 b4=>s_end (rest σ₁ s₁ _ b2 b1 ?_)⟩
   have:=inv_meet hv (Nat.zero_lt_one) (b3 ▸ b4)
   rw [hk,b3]
   exact this
 · have hk:g.special=none:=by
    cases e:g.special with
    | none=>rfl
    | some k=>
     exfalso
     have:¬ 0≤spInt g:=of_decide_eq_false q
     unfold spInt at this
     rw [e] at this
     exact this (Int.natCast_nonneg k)
   refine s_end (rest σ s _ (SvTo.refl _ _) hs ?_)
   rw [hk,List.append_nil]
   exact hv
end
section
variable {Γ:Gam} {Q:AFl→Env'→AH→Prop} {b:PS} {σ:AH}
theorem sameSrc_dict {σ₀ σ:AH} {a:Addr} {kvs kvs':List (Int × AV)} {ep:Nat} (h:σ₀ a=some (.dict kvs ep)) (h':σ a=some (.dict kvs' ep)) (e:kvs.map (·.1)=kvs'.map (·.1)):sameSrc σ₀ σ (.ref a):=by
 show (σ a).bind shpO=(σ₀ a).bind shpO
 rw [h,h']
 exact congrArg (fun l=>some (([],l,ep+1):List AV × List Int × Nat)) e.symm
theorem items_kvs {f:Nat→AV} {a:Addr} {ks:List Nat} {ep:Nat} (h:σ a=some (.dict (kvsOf f ks) ep)):itemsOf σ (.ref a)=some (ks.map fun (n:Nat)=>AV.int (n:Int)):=(items_dict h).trans (congrArg some (kvs_keys f ks))
theorem loopKinds (hk:Γ.fn (S "kind_of")=some t_kind_of) (hΓ:Γ.attrOk=P0.attrOk) {D:Addr} {ep:Nat} {ad:Nat→Addr} {ks:List Nat} {inf:Nat→Info} (hA:InfAt σ D ep ad ks inf) (hn:ks.Nodup) {e0 e1 e2 e3 e4 e5 e6 e7 x9 e10 e11 e12 e13:Option AV}
 (h:∀ σ' x9,InfAt σ' D ep ad ks (fun k=>kindI (inf k))→Ext (ks.map ad) σ σ'→pwpS Γ b Q [e0,e1,e2,e3,e4,e5,e6,e7,some (.ref D),x9,e10,e11,e12,e13] σ'):
 pwpS Γ (.seq (.forS [9] true false (.var 8) (.seq (.asgA (.idx (.var 8) (.var 9)) (S "kind") (.call (S "kind_of") (.cons (.idx (.var 8) (.var 9)) .nil))) <| .nop)) b) Q [e0,e1,e2,e3,e4,e5,e6,e7,some (.ref D),x9,e10,e11,e12,e13] σ:=by
 refine s_forX (ev_w (v:=.ref D) rfl (forK_one (f:=fun (n:Nat)=>AV.int (n:Int)) (all:=ks) (fun pre m' σ'=>EI1_2 (fun (x9:Option AV) m'=>m'=[e0,e1,e2,e3,e4,e5,e6,e7,some (.ref D),x9,e10,e11,e12,e13]) (fun (x9:Option AV) σ'=>InfAt σ' D ep ad ks (fun k=>if k ∈ pre then kindI (inf k) else inf k)) (fun (x9:Option AV) σ'=>Ext (ks.map ad) σ σ') m' σ')
  (items_kvs hA.d) ⟨x9,rfl,hA.congr fun k _=>(if_neg (fun h=>nomatch h)).symm,Ext.refl _ _⟩ ?_ ?_ ?_))
 · rintro pre m' σ' ⟨y,rfl,a1,a2⟩
   exact sameSrc_dict hA.d a1.d rfl
 · rintro pre k post m' σ' K e ⟨y,rfl,a1,a2⟩ hK _
   have hkm:k ∈ ks:=by rw [e];simp
   have hkp:k ∉ pre:=fun q=>by
    rw [e] at hn
    exact (List.nodup_append.mp hn).2.2 k q k (.head _) rfl
   have hi:=a1.i k hkm
   rw [if_neg hkp] at hi
   have hx:=x_idxD (m:=[e0,e1,e2,e3,e4,e5,e6,e7,some (.ref D),some (.int k),e10,e11,e12,e13]) (e:=.var 8) (i:=.var 9) rfl a1.d rfl (kvs_lookup hkm)
   refine s_asgAX (e_call hk (es_ev hx (es_nil ⟨ad k,inf k,rfl,hi,?_⟩)))
   refine w_setA hx hi (by rw [hΓ];decide) (show 9 < 1000 by decide) (s_nop (hK _ _ ⟨_,rfl,?_,a2.trans (Ext.upd (List.mem_map_of_mem hkm) _)⟩))
   refine (a1.put hkm (kindI (inf k))).congr fun j hj=>?_
   by_cases c:j=k
   · subst c;rw [if_pos rfl,if_pos (by simp)]
   · rw [if_neg c]
     by_cases d:j ∈ pre
     · rw [if_pos d,if_pos (List.mem_append_left _ d)]
     · rw [if_neg d,if_neg (by simp [c,d])]
 · rintro m' σ' ⟨y,rfl,a1,a2⟩
   exact h σ' y (a1.congr fun k hk=>if_pos hk) a2
theorem loopSlots (hΓ:Γ.attrOk=P0.attrOk) {D o:Addr} {ep:Nat} {ad:Nat→Addr} {ks ord:List Nat} {inf:Nat→Info} (hA:InfAt σ D ep ad ks inf) (ho:σ o=some (.list (natsV ord))) (hn:ord.Nodup) (hs:∀ k ∈ ord,k ∈ ks) (hl:ord.length≤LIM) {e0 e1 e2 e3 e4 x5 e6 e7 e9 x11 e12 e13:Option AV}
 (h:∀ σ' x5 x11,InfAt σ' D ep ad ks (fun k=>slotI ord k (inf k))→Ext (ks.map ad) σ σ'→pwpS Γ b Q [e0,e1,e2,e3,e4,x5,e6,e7,some (.ref D),e9,some (.ref o),x11,e12,e13] σ'):
 pwpS Γ (.seq (.forS [5] true false (.bi .range (.cons (.bi .len (.cons (.var 10) .nil)) .nil))
  (.seq (.asg 11 (.idx (.var 8) (.idx (.var 10) (.var 5)))) <|
  (.seq (.asgA (.var 11) (S "slot") (.bin .add (.var 5) (.lit (.int (1))))) <|
  (.seq (.asgA (.var 11) (S "unsafe") (.cmp .eq (.attr (.var 11) (S "first")) (.lit (.str (S "goal_arg"))))) <|
  .nop)))) b) Q [e0,e1,e2,e3,e4,x5,e6,e7,some (.ref D),e9,some (.ref o),x11,e12,e13] σ:=by
 have hlen:ev σ [e0,e1,e2,e3,e4,x5,e6,e7,some (.ref D),e9,some (.ref o),x11,e12,e13] (.bi .len (.cons (.var 10) .nil))=some (.int (ord.length:Nat)):=by
  rw [x_lenL (a:=o) rfl ho,natsV_length]
 refine s_forX (ev_w (x_rng hlen hl) (forK_rng (fun i m' σ'=>EI2_2 (fun (x5:Option AV) (x11:Option AV) m'=>m'=[e0,e1,e2,e3,e4,x5,e6,e7,some (.ref D),e9,some (.ref o),x11,e12,e13]) (fun (x5:Option AV) (x11:Option AV) σ'=>InfAt σ' D ep ad ks (fun k=>if k ∈ ord.take i then slotI ord k (inf k) else inf k)) (fun (x5:Option AV) (x11:Option AV) σ'=>Ext (ks.map ad) σ σ') m' σ')
  ⟨x5,x11,rfl,hA.congr fun k _=>(if_neg (fun h=>nomatch h)).symm,Ext.refl _ _⟩ ?_ ?_))
 · rintro i m' σ' K hi ⟨y5,y11,rfl,a1,a2⟩ hK _
   have hko:ord[i] ∈ ord:=List.getElem_mem hi
   have hkm:=hs _ hko
   have ho':σ' o=some (.list (natsV ord)):=a2 o (fun q=>by
    obtain ⟨j,hj,e⟩:=List.mem_map.mp q
    rw [← e,hA.i j hj] at ho
    (injection ho with z0;injection z0)) _ ho
   have hidx:ord.idxOf ord[i]=i:=hn.idxOf_getElem i hi
   have hs2:(ord.take i++[ord[i]]).Nodup:=by rw [← take_snoc hi];exact hn.sublist (List.take_sublist _ _)
   have hnt:ord[i] ∉ ord.take i:=fun q=>(List.nodup_append.mp hs2).2.2 _ q _ (.head _) rfl
   have hi':=a1.i _ hkm
   rw [if_neg hnt] at hi'
   refine s_asg (v:=.obj 87 (ad ord[i])) (x_idxD rfl a1.d (x_idxL rfl ho' rfl ((pyIdx_of rfl).trans (natsV_get hi))) (kvs_lookup hkm)) ?_
   refine s_asgA (v:=.int ((i:Int)+1)) rfl rfl hi' (by rw [hΓ];decide) (show 9 < 1000 by decide) ?_
   refine s_asgA (v:=.bool (decide ((inf ord[i]).first=S "goal_arg"))) (x_cmp (x_attr rfl (set_same _ _ _) rfl) rfl rfl) rfl (set_same _ _ _) (by rw [hΓ];decide) (show 9 < 1000 by decide) ?_
   refine s_nop (hK _ _ ⟨_,_,rfl,?_,(a2.trans (Ext.upd (List.mem_map_of_mem hkm) _)).trans (Ext.upd (List.mem_map_of_mem hkm) _)⟩)
   refine ((a1.put hkm { inf ord[i] with slot:=(i:Int)+1 }).put hkm { inf ord[i] with slot:=(i:Int)+1,uns:=decide ((inf ord[i]).first=S "goal_arg") }).congr fun j hj=>?_
   rw [take_snoc hi]
   by_cases c:j=ord[i]
   · subst c
     rw [if_pos rfl,if_pos (List.mem_append_right _ (.head _))]
     unfold slotI
     rw [if_pos hko,hidx]
   · rw [if_neg c,if_neg c]
     by_cases d:j ∈ ord.take i
     · rw [if_pos d,if_pos (List.mem_append_left _ d)]
     · rw [if_neg d,if_neg fun q=>(List.mem_append.mp q).elim d fun q=>c (List.mem_singleton.mp q)]
 · rintro m' σ' ⟨y5,y11,rfl,a1,a2⟩
   refine h σ' y5 y11 (a1.congr fun k hk=>?_) a2
   rw [List.take_length]
   by_cases c:k ∈ ord
   · rw [if_pos c]
   · rw [if_neg c];unfold slotI;rw [if_neg c]
theorem loopLive {D o ga L:Addr} {ep n:Nat} {ad:Nat→Addr} {ks ord:List Nat} {inf inf0:Nat→Info} {gl:List AV} (hA:InfAt σ D ep ad ks inf) (ho:σ o=some (.list (natsV ord))) (hg:σ ga=some (.list gl)) (hgl:gl.length=n) (hL:σ L=some (.list [])) (hs:∀ k ∈ ord,k ∈ ks) (hl:n≤1000)
 (hi0:∀ k ∈ ord,(inf k).last=(inf0 k).last) {e0 e2 e3 e4 x5 e6 e7 e9 e11 x13:Option AV}
 (h:∀ σ' x5 x13,σ' L=some (.list (natsV ((List.range n).map (liveN inf0 ord))))→Only L σ σ'→pwpS Γ b Q [e0,some (.ref ga),e2,e3,e4,x5,e6,e7,some (.ref D),e9,some (.ref o),e11,some (.ref L),x13] σ') (hLo:L≠o) (hLg:L≠ga):
 pwpS Γ (.seq (.forS [5] true false (.bi .range (.cons (.bi .len (.cons (.var 1) .nil)) .nil))
  (.seq (.asg 13 (.lit (.int (0)))) <|
  (.seq (.whl (.bop true (.cons (.cmp .lt (.var 13) (.bi .len (.cons (.var 10) .nil))) (.cons (.cmp .gt (.attr (.idx (.var 8) (.idx (.var 10) (.var 13))) (S "last_goal")) (.var 5)) .nil)))
   (.seq (.augV 13 .add (.lit (.int (1)))) <|
   .nop)) <|
  (.seq (.expr (.bm (.var 12) .append (.cons (.var 13) .nil))) <|
  .nop)))) b) Q [e0,some (.ref ga),e2,e3,e4,x5,e6,e7,some (.ref D),e9,some (.ref o),e11,some (.ref L),x13] σ:=by
 have hlen:ev σ [e0,some (.ref ga),e2,e3,e4,x5,e6,e7,some (.ref D),e9,some (.ref o),e11,some (.ref L),x13] (.bi .len (.cons (.var 1) .nil))=some (.int (n:Nat)):=by
  rw [x_lenL (a:=ga) rfl hg,hgl]
 refine s_forX (ev_w (x_rng hlen (by unfold LIM;lia)) (forK_rng (fun i m' σ'=>EI2_2 (fun (x5:Option AV) (x13:Option AV) m'=>m'=[e0,some (.ref ga),e2,e3,e4,x5,e6,e7,some (.ref D),e9,some (.ref o),e11,some (.ref L),x13]) (fun (x5:Option AV) (x13:Option AV) σ'=>σ' L=some (.list (natsV ((List.range i).map (liveN inf0 ord))))) (fun (x5:Option AV) (x13:Option AV) σ'=>Only L σ σ') m' σ')
  ⟨x5,x13,rfl,hL,Only.refl _ _⟩ ?_ ?_))
 · rintro i m' σ' K hi ⟨y5,y13,rfl,a1,a2⟩ hK _
   have hne:∀ {a:Addr} {o:AO},σ a=some o→(∀ l,o≠.list l)→σ' a=some o:=fun {a o} e q=>(a2 a fun r=>by rw [r,hL] at e;exact q _ (Option.some.inj e).symm).trans e
   have hA':InfAt σ' D ep ad ks inf:=⟨hne hA.d (fun _=>nofun),fun k hk=>hne (hA.i k hk) (fun _=>nofun),hA.inj⟩
   have ho':σ' o=some (.list (natsV ord)):=(a2 o hLo.symm).trans ho
   refine s_asg (v:=.int 0) rfl ?_
   refine s_whl (fun w m'' σ''=>EI1_4 (fun (v:Nat) m''=>m''=[e0,some (.ref ga),e2,e3,e4,some (.int i),e6,e7,some (.ref D),e9,some (.ref o),e11,some (.ref L),some (.int v)]) (fun (v:Nat) σ''=>σ''=σ') (fun (v:Nat) σ''=>w=ord.length - v) (fun (v:Nat) σ''=>v≤ord.length) (fun (v:Nat) σ''=>∀ y ∈ ord.take v,decide ((i:Int) < (inf0 y).last)=true) m'' σ'') (n:=ord.length)
    ⟨0,rfl,rfl,rfl,Nat.zero_le _,fun y hy=>by cases hy⟩ ?_
   rintro w m'' σ'' ⟨v,rfl,rfl,rfl,b1,b2⟩
   have hlv:cmpW .lt σ'' (.int v) (.int ((natsV ord).length:Nat))=some (decide (v < ord.length)):=by
    rw [natsV_length]
    show some (decide ((v:Int) < (ord.length:Nat)))=_
    congr 1
    exact decide_eq_decide.mpr (by lia)
   have hlx:=x_lenL (e:=.var 10) (m:=[e0,some (.ref ga),e2,e3,e4,some (.int i),e6,e7,some (.ref D),e9,some (.ref o),e11,some (.ref L),some (.int v)]) rfl ho'
   have fin:(ord.takeWhile fun k=>decide ((i:Int) < (inf0 k).last)).length=v→pwpS Γ (.seq (.expr (.bm (.var 12) .append (.cons (.var 13) .nil))) .nop) K [e0,some (.ref ga),e2,e3,e4,some (.int i),e6,e7,some (.ref D),e9,some (.ref o),e11,some (.ref L),some (.int v)] σ'':=by
    intro e
    refine s_expr (e_app rfl a1 rfl (by rw [natsV_length,List.length_map,List.length_range];unfold LIM;lia) (s_nop (hK _ _ ⟨_,_,rfl,?_,a2.set _⟩)))
    rw [set_same,List.range_succ,List.map_append,List.map_singleton,nats_app]
    unfold liveN
    rw [e]
   by_cases c:v < ord.length
   · have hyo:ord[v] ∈ ord:=List.getElem_mem c
     have hyk:=hs _ hyo
     have hgt:cmpW .gt σ'' (.int (inf ord[v]).last) (.int i)=some (decide ((i:Int) < (inf0 ord[v]).last)):=by rw [hi0 _ hyo];rfl
     refine ⟨decide ((i:Int) < (inf0 ord[v]).last),xb_all (b:=true) (xb_cmp rfl hlx (hlv.trans (congrArg some (decide_eq_true c)))) (fun _=>?_) (fun h=>absurd rfl h),fun q=>fin ?_,fun q K' hK' _=>?_⟩
     · refine xb_all (b:=decide ((i:Int) < (inf0 ord[v]).last)) (xb_cmp (x_attr (x_idxD rfl hA'.d (x_idxL rfl ho' rfl ((pyIdx_of rfl).trans (natsV_get c))) (kvs_lookup hyk)) (hA'.i _ hyk) rfl) rfl hgt) (fun h=>?_) (fun h=>rfl)
       rw [h]
       rfl
     · exact tw_len b2 (.inr ⟨c,q⟩)
     · refine s_augV (x:=v) (y:=1) rfl rfl rfl (.inl rfl) (s_nop (hK' (ord.length - (v+1)) _ _ (by lia) ⟨v+1,rfl,rfl,rfl,c,fun y hy=>?_⟩))
       rw [take_snoc c] at hy
       rcases List.mem_append.mp hy with h | h
       · exact b2 y h
       · rw [List.mem_singleton.mp h];exact q
   · refine ⟨false,xb_all (b:=false) (xb_cmp rfl hlx (hlv.trans (congrArg some (decide_eq_false c)))) (fun h=>nomatch h) (fun _=>rfl),fun q=>fin ?_,fun q=>nomatch q⟩
     exact tw_len b2 (.inl (by lia))
 · rintro m' σ' ⟨y5,y13,rfl,a1,a2⟩
   exact h σ' y5 y13 a1 a2
end
inductive T_classify (args:List AV) (Q:AV→AH→Prop) (σ:AH):Prop
 | mk (kx ga:Addr) (K:Ker):(args=[.obj 52 kx])→(KerAt σ kx ga K)→(K.Ok)→(∀ (p D c l:Addr) (ep:Nat) (ad:Nat→Addr) (P:PlanD) (ord:List Nat) (σ':AH),Ext [] σ σ'→PlanAt σ' p D c l ep ad P→PlanOf K P ord→(∀ b ∈ p::D::c::l::P.ks.map ad,σ b=none)→Q (.obj 143 p) σ')→T_classify  args Q σ
noncomputable def t_classify:Tr:=T_classify
theorem Cl.ext {σ₀ σ σ':AH} {kx ga ch:Addr} {K:Ker} {X:List Addr} (h:Cl σ₀ σ kx ga ch K) (hk:KerAt σ₀ kx ga K) (x:Ext X σ σ') (hX:∀ b ∈ X,σ₀ b=none∧b≠ch):Cl σ₀ σ' kx ga ch K:=
 have e:Ext [] σ₀ σ':=fun b _ o e=>x b (fun q=>by rw [(hX b q).1] at e;injection e) o (h.e.get e)
 ⟨e,hk.mono e,x ch (fun q=>(hX ch q).2 rfl) _ h.ch⟩
theorem Only.ext {r:Addr} {σ σ':AH} (h:Only r σ σ'):Ext [r] σ σ':=fun b hb o e=>(h b fun q=>hb (q ▸ .head _)).trans e
theorem Only.ext0 {r:Addr} {σ σ':AH} (h:Only r σ σ') (hr:σ r=none):Ext [] σ σ':=fun b _ o e=>(h b (ne_of e hr)).trans e
theorem vc_classify (Γ:Gam) (hΓ:Γ.attrOk=P0.attrOk) (hcn:Γ.fn (S "chunk_numbers")=some t_chunk_numbers) (hsv:Γ.cls (S "Survey")=some (185,t_SurveyInit)) (hcp:Γ.cls (S "ClausePlan")=some (143,t_PlanInit))
 (hsp:Γ.fn (S "goal_special")=some t_goal_special) (hgt:Γ.fn (S "goal_terms")=some t_goal_terms) (hm:Γ.mth 185 (S "meet")=some t_meet) (ht:Γ.mth 185 (S "terms")=some t_terms)
 (hk:Γ.fn (S "kind_of")=some t_kind_of) (hso:Γ.fn (S "slot_order")=some t_slot_order):VC Γ b_classify 1 14 t_classify:=by
 rintro args Q σ ⟨kx,ga,K,rfl,hK,hOk,hQ⟩
 refine ⟨rfl,?_⟩
 unfold b_classify
 obtain ⟨f,hf⟩:=hK.o
 have hlb:∀ o ∈ K.oc,o.k < 64:=fun o ho=>Nat.lt_trans (hOk.below o ho) hOk.count
 refine s_asg (v:=.ref ga) (x_attr rfl hf rfl) ?_
 refine s_asgX (e_call hcn (es_ev (v:=.ref ga) rfl (es_nil ⟨ga,K.goals,rfl,hK.g,hOk.goalsOk,Nat.le_trans hOk.goalsLen (by decide),fun ch σ1 h1 h2 h3=>?_⟩)))
 have x1:=h2.ext0 h1
 refine s_asgX (e_new hsv (es_nil fun sx hsx=>⟨sx,rfl,set_same _ _ _,fun D σ2 h4 h5 h6 h7=>⟨rfl,?_⟩⟩))
 have hDs:D≠sx:=fun q=>by rw [q,set_same] at h4;injection h4
 have hD1:σ1 D=none:=by rwa [set_ne _ _ hDs] at h4
 have x2:Ext [] σ1 σ2:=fun b _ o e=>h5 b (fun q=>by rw [List.mem_singleton.mp q,hsx] at e;injection e) o ((set_ne _ _ (ne_of e hsx)).trans e)
 have hD:σ D=none:=x1.none hD1
 have hchD:ch≠D:=ne_of h3 hD1
 have hC2:Cl σ σ2 kx ga ch K:=⟨x1.trans x2,hK.mono (x1.trans x2),x2.get h3⟩
 let s0:Sv:=⟨D,fun _=>0,[],fun k=>infoOf k []⟩
 have hs0:SvAt σ2 sx s0:=⟨h6,0,⟨h7,fun k h=>(nomatch h),fun k h=>(nomatch h)⟩⟩
 have foot0:∀ {σ':AH} {s':Sv},SvTo σ2 s0 σ' s'→∀ b ∈ s'.foot,σ b=none∧b≠ch:=fun t b hb=>by
  rcases t.new b hb with q | q
  · have:b=D:=List.mem_singleton.mp q
    exact ⟨this ▸ hD,this ▸ hchD.symm⟩
  · exact ⟨(x1.trans x2).none q,fun r=>by rw [r,hC2.ch] at q;injection q⟩
 obtain ⟨f2,hf2⟩:=hC2.k.o
 refine s_expr (e_meth rfl h6 ht rfl (es_ev (x_attr rfl hf2 rfl) (es_ev (v:=.str (S "head")) rfl (es_ev (v:=.int (-1)) rfl (es_ev (v:=.int 0) rfl (es_nil ⟨sx,s0,[],K.args,S "head",-1,0,rfl,hs0,⟨List.nodup_nil,fun k=>⟨fun h=>(nomatch h),fun h=>absurd rfl h⟩,fun k h=>(nomatch h)⟩,fun o h=>(nomatch h),?_,hOk.argsOk,Nat.le_trans hOk.argsSize (by decide),by decide,fun σ3 s1 a1 t1 v1=>?_⟩))))))
 · intro k hk
   rw [← oc_k (g:=(-1:Int)) (c:=0) (p:=S "head")] at hk
   obtain ⟨o,ho,rfl⟩:=List.mem_map.mp hk
   exact hlb o (List.mem_append_left _ ho)
 refine s_asg (v:=.bool false) rfl ?_
 have hC3:=hC2.to hK (fun b hb=>(foot0 (SvTo.refl _ _) b hb).1) (fun q=>(foot0 (SvTo.refl _ _) ch q).2 rfl) t1
 have hgl:K.goals.length≤LIM:=Nat.le_trans hOk.goalsLen (by decide)
 have hrl:ev σ3 [some (.obj 52 kx),some (.ref ga),some (.ref ch),some (.obj 185 sx),some (.bool false),none,none,none,none,none,none,none,none,none] (.bi .len (.cons (.var 1) .nil))=some (.int (K.goals.length:Nat)):=by
  rw [x_lenL (a:=ga) rfl hC3.k.g,List.length_map]
 refine s_forX (ev_w (x_rng hrl hgl) (forK_rng (fun i m' σ'=>EI4_3 (fun (s':Sv) (x5 x6 x7:Option AV) m'=>m'=[some (.obj 52 kx),some (.ref ga),some (.ref ch),some (.obj 185 sx),some (.bool ((K.goals.dropLast.take i).any Gl.isCall)),x5,x6,x7,none,none,none,none,none,none]) (fun (s':Sv) (x5 x6 x7:Option AV) σ'=>SvTo σ2 s0 σ' s') (fun (s':Sv) (x5 x6 x7:Option AV) σ'=>SvAt σ' sx s') (fun (s':Sv) (x5 x6 x7:Option AV) σ'=>SvInv (ocTerms (-1) 0 (S "head") K.args++ocGoals 0 0 (K.goals.take i)) s'.ks s'.inf) m' σ') ⟨s1,none,none,none,rfl,t1,a1,?_⟩ ?_ ?_))
 · rw [List.take_zero]
   show SvInv (_++[]) _ _
   rw [List.append_nil]
   exact v1
 · rintro i m' σ' C hi ⟨s',x5,x6,x7,rfl,t2,a2,v2⟩ hC' _
   exact body1 (tl:=[none,none,none,none,none,none]) hsp hgt hm ht hOk hK (fun b hb=>(foot0 t2 b hb).1) (fun q=>(foot0 t2 ch q).2 rfl) hi (hC2.to hK (fun b hb=>(foot0 (SvTo.refl _ _) b hb).1) (fun q=>(foot0 (SvTo.refl _ _) ch q).2 rfl) t2) a2 rfl v2 hlb
    fun σ'' s'' y6 y7 t3 a3 v3=>hC' _ _ ⟨s'',_,_,_,rfl,t2.trans t3,a3,v3⟩
 rintro m' σ4 ⟨s',x5,x6,x7,rfl,t2,a2,v2⟩
 rw [List.take_of_length_le (by rw [List.length_dropLast];lia)]
 rw [List.take_length] at v2
 have v:SvInv K.oc s'.ks s'.inf:=v2
 have hC4:=hC2.to hK (fun b hb=>(foot0 (SvTo.refl _ _) b hb).1) (fun q=>(foot0 (SvTo.refl _ _) ch q).2 rfl) t2
 have hft:=foot0 t2
 obtain ⟨ep,hA⟩:=a2.a
 refine s_asg (v:=.ref s'.D) (x_attr rfl a2.o rfl) ?_
 have hA4:=hA.congr (inf':=fun k=>infoOf k (occ K.oc k)) v.inf
 have hX:∀ b ∈ s'.ks.map s'.ad,σ b=none∧b≠ch:=fun b hb=>hft b (.tail _ hb)
 have hmem:∀ k,k ∈ s'.ks↔k < K.count:=fun k=>by
  rw [v.mem k,occ_ne]
  exact ⟨fun ⟨o,ho,e⟩=>e ▸ hOk.below o ho,fun h=>hOk.all k h⟩
 have hDn:=(hft s'.D (.head _))
 clear_value s0
 generalize s'.D=D' at *
 generalize s'.ks=ks at *
 generalize s'.ad=ad at *
 clear a2 t2 v2 a1 hA hft t1 v1
 refine loopKinds hk hΓ hA4 v.nd fun σ5 x9 hA5 x5'=>?_
 have hC5:=hC4.ext hK x5' hX
 refine s_asgX (e_call hso (es_ev (v:=.ref D') rfl (es_nil ⟨D',ep,ad,ks,inf1 K,K.count,rfl,hA5,v.nd,hmem,hOk.count,fun o σ6 ord o1 o2 o3 o4=>?_⟩)))
 have hC6:=hC5.ext hK o2 (fun b h=>nomatch h)
 have hok:∀ k ∈ ord,k ∈ ks:=fun k h=>(hmem k).mpr ((o4.mem k).mp h).1
 have hol:=o4.len
 refine loopSlots hΓ (hA5.mono o2) o3 (Bef.nodup o4.s) hok (by have:=hOk.count;unfold LIM;lia) fun σ7 y5 y11 hA7 x7'=>?_
 have hC7:=hC6.ext hK x7' hX
 have ho7:σ7 o=some (.list (natsV ord)):=x7' o (fun q=>by
  obtain ⟨j,hj,e⟩:=List.mem_map.mp q
  have:=hA5.i j hj
  rw [e,o1] at this
  injection this) _ o3
 refine s_asgX (e_list0 fun L hL=>?_)
 have xL:Ext [] σ7 (σ7.set L (.list [])):=(Ext.refl [] _).updN hL _
 have hLn:=hC7.e.none hL
 refine loopLive (n:=K.goals.length) (inf0:=inf1 K) (hA7.mono xL) (xL.get ho7) (xL.get hC7.k.g) (List.length_map ..) (set_same _ _ _) hok (Nat.le_trans hOk.goalsLen (by decide)) (fun k _=>?_) (fun σ8 z5 z13 hL8 oL=>?_) (ne_of ho7 hL).symm (ne_of hC7.k.g hL).symm
 · show (slotI ord k (inf1 K k)).last=_
   unfold slotI
   by_cases c:k ∈ ord
   · rw [if_pos c]
   · rw [if_neg c]
 have x8:Ext [] σ7 σ8:=fun b _ o e=>(oL b (ne_of e hL)).trans ((set_ne _ _ (ne_of e hL)).trans e)
 have hC8:=hC7.ext hK x8 (fun b h=>nomatch h)
 refine s_retX (e_new hcp (es_ev (v:=.ref D') rfl (es_ev (v:=.ref ch) rfl (es_ev (v:=.bool (K.goals.dropLast.any Gl.isCall)) rfl (es_ev (x_lenL rfl (x8.get ho7)) (es_ev (v:=.ref L) rfl (es_nil fun p hp=>?_)))))))
 refine ⟨p,D',ch,L,_,_,rfl,set_same _ _ _,fun σ9 p1 p2=>⟨rfl,?_⟩⟩
 have x9':Ext [] σ8 σ9:=fun b _ o e=>(p1 b (ne_of e hp)).trans ((set_ne _ _ (ne_of e hp)).trans e)
 have hC9:=hC8.ext hK x9' (fun b h=>nomatch h)
 rw [natsV_length] at p2
 refine hQ p D' ch L ep ad ⟨ks,fun k=>slotI ord k (inf1 K k),natsI (chunksOf 0 K.goals),K.goals.dropLast.any Gl.isCall,(ord.length:Nat),natsI ((List.range K.goals.length).map (liveN (inf1 K) ord))⟩ ord σ9 hC9.e
  ⟨p2,(hA7.mono x8).mono x9',by rw [natsI_int];exact hC9.ch,by rw [natsI_int];exact x9'.get hL8,(ne_of hC7.ch hL)⟩ ⟨v.nd,hmem,o4,fun k _=>rfl,rfl,rfl,rfl,rfl⟩ fun b hb=>?_
 rcases List.mem_cons.mp hb with rfl | hb
 · exact hC8.e.none hp
 rcases List.mem_cons.mp hb with rfl | hb
 · exact hDn.1
 rcases List.mem_cons.mp hb with rfl | hb
 · exact h1
 rcases List.mem_cons.mp hb with rfl | hb
 · exact hLn
 exact (hX b hb).1
section
variable {Γ:Gam} {σ:AH} {m:Env'} {Q:AFl→Env'→AH→Prop} {b:PS} {R:AV→AH→Prop}
theorem bmK_app {σ':AH} {a:Addr} {xs ys:List AV} {v:AV} (h':σ' a=some (.list xs)) (hl:xs.length < LIM) (k:R .none (σ'.set a (.list (xs++[v])))):BmK .append a (.list ys) R [v] σ':=som_of h' ⟨trivial,hl,k⟩
theorem bmK_setdef {σ':AH} {a:Addr} {kvs kvs':List (Int × AV)} {ep ep':Nat} {k:Int} {d:AV} (h':σ' a=some (.dict kvs' ep')) (hl:kvs'.length < LIM)
 (h1:∀ v,kvs'.lookup k=some v→R v σ') (h2:kvs'.lookup k=none→∀ e,R d (σ'.set a (.dict (kvs'++[(k,d)]) e))):BmK .setdefault a (.dict kvs ep) R [.int k,d] σ':=by
 refine som_of h' ⟨trivial,hl,?_⟩
 cases e:kvs'.lookup k with
 | some v=>exact h1 v e
 | none=>exact h2 e
theorem e_appX {e e1:PE} {a:Addr} {xs:List AV} (ho:ev σ m e=some (.ref a)) (ha:σ a=some (.list xs)) (h:pwpE Γ e1 m (fun v σ'=>BmK .append a (.list xs) R [v] σ') σ):pwpE Γ (.bm e .append (.cons e1 .nil)) m R σ:=
 e_bmO (ev_w ho (som_of ha ⟨⟨BM.noConfusion,BM.noConfusion⟩,h⟩))
theorem x_tup {es:PEs} {vs:List AV} (h:evs σ m es=some vs) (hl:vs.length≤LIM):ev σ m (.tup es)=some (.tup vs):=by
 show ((evs σ m es).bind fun vs=>if vs.length≤LIM then some (AV.tup vs) else none)=_
 rw [h]
 exact if_pos hl
end
structure FTo (X:List Addr) (σ:AH) (X':List Addr) (σ':AH):Prop where
 ext:Ext X σ σ'
 new:∀ b ∈ X',b ∈ X∨σ b=none
theorem FTo.refl (X:List Addr) (σ:AH):FTo X σ X σ:=⟨Ext.refl _ _,fun _ h=>.inl h⟩
theorem FTo.trans {σ σ' σ'':AH} {X X' X'':List Addr} (x:FTo X σ X' σ') (y:FTo X' σ' X'' σ''):FTo X σ X'' σ'' where
 ext:=fun b hb o e=>y.ext b (fun q=>by
  rcases x.new b q with h | h
  · exact hb h
  · rw [h] at e;injection e) o (x.ext b hb o e)
 new:=fun b hb=>by
  rcases y.new b hb with h | h
  · exact x.new b h
  · by_cases c:b ∈ X
    · exact .inl c
    · refine .inr ?_
      cases e:σ b with
      | none=>rfl
      | some o=>rw [x.ext b c o e] at h;injection h
theorem FTo.pure {σ σ':AH} (X:List Addr) (h:Ext [] σ σ'):FTo X σ X σ':=⟨fun b _ o e=>h.get e,fun _ h=>.inl h⟩
theorem FTo.keep {σ σ':AH} {X X':List Addr} (h:FTo X σ X' σ') {b:Addr} {o:AO} (hb:b ∉ X) (e:σ b=some o):σ' b=some o∧b ∉ X':=
 ⟨h.ext b hb o e,fun q=>(h.new b q).elim hb fun r=>by rw [r] at e;injection e⟩
theorem FTo.none {σ σ':AH} {X X':List Addr} (h:FTo X σ X' σ') {b:Addr} (hb:b ∉ X) (e:σ' b=Option.none):σ b=Option.none:=by
 cases q:σ b with
 | none=>rfl
 | some o=>rw [h.ext b hb o q] at e;injection e
noncomputable def plT (o:Oc):AV:=.tup [.int o.at',.str o.word]
structure PlcAt (σ:AH) (D:Addr) (ad:Nat→Addr) (ks:List Nat) (l:List Oc):Prop where
 d:∃ ep,σ D=some (.dict (kvsOf (fun k=>.ref (ad k)) ks) ep)
 i:∀ k ∈ ks,σ (ad k)=some (.list ((occ l k).map plT))
 inj:∀ j ∈ ks,∀ k ∈ ks,ad j=ad k→j=k
 nd:ks.Nodup
 mem:∀ k,k ∈ ks↔occ l k≠[]
theorem PlcAt.mono {σ σ':AH} {D:Addr} {ad:Nat→Addr} {ks:List Nat} {l:List Oc} (h:PlcAt σ D ad ks l) (x:Ext [] σ σ'):PlcAt σ' D ad ks l:=⟨by obtain ⟨ep,e⟩:=h.d;exact ⟨ep,x.get e⟩,fun k hk=>x.get (h.i k hk),h.inj,h.nd,h.mem⟩
theorem PlcAt.some {σ:AH} {D:Addr} {ad:Nat→Addr} {ks:List Nat} {l:List Oc} (h:PlcAt σ D ad ks l) {b:Addr} (hb:b ∈ D::ks.map ad):σ b≠none:=by
 obtain ⟨ep,e⟩:=h.d
 rcases List.mem_cons.mp hb with q | q
 · rw [q,e];exact fun e=>nomatch e
 · obtain ⟨j,hj,rfl⟩:=List.mem_map.mp q
   rw [h.i j hj]
   exact fun e=>nomatch e
theorem PlcAt.fto {σ σ':AH} {D:Addr} {ad:Nat→Addr} {ks:List Nat} {l:List Oc} (h:PlcAt σ D ad ks l) (x:∀ b o,σ b=Option.some o→(b ∈ D::ks.map ad)→σ' b=Option.some o):PlcAt σ' D ad ks l:=
 ⟨by obtain ⟨ep,e⟩:=h.d;exact ⟨ep,x _ _ e (.head _)⟩,fun k hk=>x _ _ (h.i k hk) (.tail _ (List.mem_map_of_mem hk)),h.inj,h.nd,h.mem⟩
theorem PlcAt.len {σ:AH} {D:Addr} {ad:Nat→Addr} {ks:List Nat} {l:List Oc} (h:PlcAt σ D ad ks l) (hl:∀ o ∈ l,o.k < 64):ks.length≤64:=
 pigeon 64 ks h.nd fun k hk=>by
  obtain ⟨o,h1,h2⟩:=occ_ne.mp ((h.mem k).mp hk)
  rw [← h2]
  exact hl o h1
theorem occ_snoc (l:List Oc) (o:Oc) (j:Nat):occ (l++[o]) j=if o.k=j then occ l j++[o] else occ l j:=by
 rw [occ_app]
 show occ l j++List.filter _ [o]=_
 by_cases c:o.k=j
 · rw [if_pos c,List.filter_cons,if_pos (decide_eq_true c)];rfl
 · rw [if_neg c,List.filter_cons,if_neg (by simpa using c)];exact List.append_nil _
theorem plc_step {Γ:Gam} {σ:AH} {m:Env'} {Q:AFl→Env'→AH→Prop} {b:PS} {D:Addr} {ad:Nat→Addr} {ks:List Nat} {l:List Oc} (h:PlcAt σ D ad ks l) (hl:∀ o ∈ l,o.k < 64) (hlen:l.length≤100000) {ek ea ew:PE} {o:Oc}
 (hm:varV m 1=some (.ref D)) (hk:∀ σ',ev σ' m ek=some (.int o.k)) (ha:∀ σ',ev σ' m ea=some (.int o.at')) (hw:∀ σ',ev σ' m ew=some (.str o.word))
 (k:∀ σ' ad' ks',PlcAt σ' D ad' ks' (l++[o])→FTo (D::ks.map ad) σ (D::ks'.map ad') σ'→pwpS Γ b Q m σ'):
 pwpS Γ (.seq (.expr (.bm (.bm (.var 1) .setdefault (.cons ek (.cons (.list .nil) .nil))) .append (.cons (.tup (.cons ea (.cons ew .nil))) .nil))) b) Q m σ:=by
 obtain ⟨ep,hd⟩:=h.d
 refine s_expr (e_bmO (e_bmO (ev_w (v:=.ref D) hm (som_of hd ⟨.inr (.inl rfl),es_ev (hk _) (es_cons (e_list0 fun r hr=>es_nil ?_))⟩))))
 have hrD:D≠r:=ne_of hd hr
 have x1:Ext [] σ (σ.set r (.list [])):=(Ext.refl [] σ).updN hr _
 have hlk:=h.len hl
 refine bmK_setdef (x1.get hd) (by unfold kvsOf LIM;rw [List.length_map];lia) (fun v hv=>?_) (fun hv e=>?_)
 · have hin:o.k ∈ ks:=Classical.byContradiction fun q=>by rw [kvs_lookup_none q] at hv;injection hv
   rw [kvs_lookup hin] at hv
   (injection hv with z0;subst z0)
   refine som_of (x1.get (h.i _ hin)) ⟨⟨BM.noConfusion,BM.noConfusion⟩,es_ev (x_tup (xs_cons (ha _) (xs_cons (hw _) xs_nil)) (show 2≤LIM by decide)) (es_nil (bmK_app (x1.get (h.i _ hin)) ?_ ?_))⟩
   · have:(occ l o.k).length≤l.length:=List.length_filter_le _ _
     rw [List.length_map]
     unfold LIM
     lia
   · refine k _ ad ks ⟨⟨ep,?_⟩,fun j hj=>?_,h.inj,h.nd,fun j=>?_⟩ ⟨?_,fun _ q=>.inl q⟩
     · rw [set_ne _ _ fun q=>by rw [q,h.i _ hin] at hd;(injection hd with z0;injection z0)];exact x1.get hd
     · rw [occ_snoc]
       by_cases c:o.k=j
       · subst c
         rw [set_same,if_pos rfl,List.map_append]
         rfl
       · rw [set_ne _ _ fun q=>c (h.inj j hj _ hin q).symm,if_neg c]
         exact x1.get (h.i j hj)
     · rw [occ_snoc,h.mem]
       by_cases c:o.k=j
       · rw [if_pos c]
         subst c
         exact ⟨fun _ q=>by simp at q,fun _=>(h.mem _).mp hin⟩
       · rw [if_neg c]
     · exact fun b hb u e=>(set_ne _ _ fun (q:b=ad o.k)=>hb (.tail _ (by rw [q];exact List.mem_map_of_mem hin))).trans (x1.get e)
 · have hout:o.k ∉ ks:=fun q=>by rw [kvs_lookup q] at hv;injection hv
   have hrs:((σ.set r (.list [])).set D (.dict (kvsOf (fun k=>.ref (ad k)) ks++[((o.k:Int),.ref r)]) e)) r=some (.list []):=(set_ne _ _ hrD.symm).trans (set_same _ _ _)
   refine som_of hrs ⟨⟨BM.noConfusion,BM.noConfusion⟩,es_ev (x_tup (xs_cons (ha _) (xs_cons (hw _) xs_nil)) (show 2≤LIM by decide)) (es_nil (bmK_app hrs (by decide) ?_))⟩
   have hoc:occ l o.k=[]:=Classical.byContradiction fun q=>hout ((h.mem _).mpr q)
   have hj0:∀ j ∈ ks,(if j=o.k then r else ad j)=ad j:=fun j hj=>if_neg fun (q:j=o.k)=>hout (q ▸ hj)
   have hjr:∀ j ∈ ks,ad j≠r:=fun j hj=>ne_of (h.i j hj) hr
   have hjD:∀ j ∈ ks,ad j≠D:=fun j hj q=>by have:=h.i j hj;rw [q,hd] at this;(injection this with z0;injection z0)
   refine k _ (fun j=>if j=o.k then r else ad j) (ks++[o.k]) ⟨⟨e,?_⟩,fun j hj=>?_,fun i hi j hj q=>?_,?_,fun j=>?_⟩ ⟨?_,fun b hb=>?_⟩
   · rw [set_ne _ _ hrD,set_same]
     congr 2
     unfold kvsOf
     rw [List.map_append,List.map_singleton]
     congr 1
     · exact List.map_congr_left fun j hj=>by dsimp only;rw [hj0 j hj]
     · dsimp only;rw [if_pos rfl]
   · rw [occ_snoc]
     by_cases c:j=o.k
     · subst c
       rw [if_pos rfl,if_pos rfl,set_same,hoc]
       rfl
     · have hj':j ∈ ks:=(List.mem_append.mp hj).resolve_right fun q=>c (List.mem_singleton.mp q)
       rw [if_neg c,if_neg fun q=>c q.symm,set_ne _ _ (hjr j hj'),set_ne _ _ (hjD j hj'),set_ne _ _ (hjr j hj')]
       exact h.i j hj'
   · by_cases ci:i=o.k
     · by_cases cj:j=o.k
       · rw [ci,cj]
       · rw [if_pos ci,if_neg cj] at q
         exact absurd q.symm (hjr j ((List.mem_append.mp hj).resolve_right fun q=>cj (List.mem_singleton.mp q)))
     · have hi':i ∈ ks:=(List.mem_append.mp hi).resolve_right fun q=>ci (List.mem_singleton.mp q)
       by_cases cj:j=o.k
       · rw [if_neg ci,if_pos cj] at q
         exact absurd q (hjr i hi')
       · rw [if_neg ci,if_neg cj] at q
         exact h.inj i hi' j ((List.mem_append.mp hj).resolve_right fun q=>cj (List.mem_singleton.mp q)) q
   · exact List.nodup_append.mpr ⟨h.nd,by simp,fun a ha b hb=>by rw [List.mem_singleton.mp hb];exact fun q=>hout (q ▸ ha)⟩
   · rw [occ_snoc,List.mem_append,List.mem_singleton,h.mem]
     by_cases c:o.k=j
     · rw [if_pos c]
       exact ⟨fun _ q=>by simp at q,fun _=>.inr c.symm⟩
     · rw [if_neg c]
       exact ⟨fun q=>q.elim id fun q=>absurd q.symm c,.inl⟩
   · exact fun b hb u e=>(set_ne _ _ (ne_of e hr)).trans ((set_ne _ _ fun (q:b=D)=>hb (by rw [q];exact .head _)).trans (x1.get e))
   · rcases List.mem_cons.mp hb with q | q
     · exact .inl (q ▸ .head _)
     · obtain ⟨j,hj,rfl⟩:=List.mem_map.mp q
       rcases List.mem_append.mp hj with hj | hj
       · exact .inl (.tail _ (by rw [hj0 j hj];exact List.mem_map_of_mem hj))
       · exact .inr (by rw [if_pos (List.mem_singleton.mp hj)];exact hr)
noncomputable def goalsG {β:Type} (F:Nat→Nat→Gl→List β) (a c:Nat):List Gl→List β
 | []=>[]
 | g::gs=>F a c g++goalsG F (a+1) (if g.isCall=true then c+1 else c) gs
theorem goalsG_snoc {β:Type} (F:Nat→Nat→Gl→List β) (g:Gl):∀ (gs:List Gl) (a c:Nat),goalsG F a c (gs++[g])=goalsG F a c gs++F (a+gs.length) (c+callsIn gs) g
 | [],a,c=>by
  show F a c g++[]=[]++F a c g
  rw [List.append_nil,List.nil_append]
 | h::gs,a,c=>by
  show F a c h++goalsG F (a+1) (if h.isCall=true then c+1 else c) (gs++[g])=(F a c h++goalsG F (a+1) (if h.isCall=true then c+1 else c) gs)++_
  rw [goalsG_snoc F g gs,List.append_assoc,callsIn_cons,List.length_cons]
  have h1:a+1+gs.length=a+(gs.length+1):=by lia
  have h2:(if h.isCall=true then c+1 else c)+callsIn gs=c+((if h.isCall=true then 1 else 0)+callsIn gs):=by
   by_cases q:h.isCall=true
   · rw [if_pos q,if_pos q];lia
   · rw [if_neg q,if_neg q];lia
  rw [h1,h2]
theorem goalsG_take {β:Type} (F:Nat→Nat→Gl→List β) {gs:List Gl} {i:Nat} (hi:i < gs.length):goalsG F 0 0 (gs.take (i+1))=goalsG F 0 0 (gs.take i)++F i (callsIn (gs.take i)) gs[i]:=by
 rw [take_snoc hi,goalsG_snoc,List.length_take,Nat.min_eq_left (Nat.le_of_lt hi),Nat.zero_add,Nat.zero_add]
theorem goalsG_pre {β:Type} (F:Nat→Nat→Gl→List β) (gs:List Gl):∀ (i:Nat),∃ tl,goalsG F 0 0 gs=goalsG F 0 0 (gs.take i)++tl:=by
 have key:∀ (hs gs:List Gl) (a c:Nat),∃ tl,goalsG F a c (gs++hs)=goalsG F a c gs++tl:=by
  intro hs gs
  induction gs with
  | nil=>intro a c;exact ⟨goalsG F a c hs,rfl⟩
  | cons g gs ih=>
   intro a c
   obtain ⟨tl,e⟩:=ih (a+1) (if g.isCall=true then c+1 else c)
   exact ⟨tl,by show F a c g++goalsG F (a+1) _ (gs++hs)=(F a c g++_)++tl;rw [e,List.append_assoc]⟩
 intro i
 obtain ⟨tl,e⟩:=key (gs.drop i) (gs.take i) 0 0
 rw [List.take_append_drop] at e
 exact ⟨tl,e⟩
structure Row where
 a:Int
 c:Nat
 p:Str
 ts:List Tm
noncomputable def rowG (a c:Nat) (g:Gl):List Row:=[⟨a,c,S "goal",g.terms⟩]
noncomputable def spG (a c:Nat) (g:Gl):List Oc:=match g.special with
 | some k=>[⟨k,a,c,S "special"⟩]
 | none=>[]
noncomputable def Row.oc (r:Row):List Oc:=ocTerms r.a r.c r.p r.ts
noncomputable def rowV (r:Row):List AV:=[.int r.a,.str r.p,.tup (r.ts.map enc)]
noncomputable def rowsK (K:Ker):List Row:=⟨-1,0,S "head",K.args⟩::goalsG rowG 0 0 K.goals
noncomputable def plL (K:Ker):List Oc:=goalsG spG 0 0 K.goals++(rowsK K).flatMap Row.oc
noncomputable def wordP (p:Str) (b:Bool):Str:=p++(if b=true then S "_struct" else S "_arg")
noncomputable def ocP (r:Row) (x:Tm × Bool):List Oc:=match x.1 with
 | .v k=>[⟨k,r.a,r.c,wordP r.p x.2⟩]
 | t=>t.vars.map fun k=>⟨k,r.a,r.c,wordP r.p true⟩
noncomputable def stV (r:Row) (x:Tm × Bool):AV:=.tup [enc x.1,.str (wordP r.p x.2)]
noncomputable def szP (us:List (Tm × Bool)):Nat:=sizes (us.map Prod.fst)
theorem ocP_false (r:Row):∀ ts:List Tm,(ts.map fun t=>(t,false)).flatMap (ocP r)=ocTerms r.a r.c r.p ts
 | []=>rfl
 | t::ts=>by
  rw [List.map_cons,List.flatMap_cons,ocP_false r ts,ocTerms_cons]
  cases t <;> rfl
theorem ocP_true (r:Row):∀ ts:List Tm,(ts.map fun t=>(t,true)).flatMap (ocP r)=(varss ts).map fun k=>⟨k,r.a,r.c,wordP r.p true⟩
 | []=>rfl
 | t::ts=>by
  rw [List.map_cons,List.flatMap_cons,ocP_true r ts,varss_cons,List.map_append]
  cases t <;> rfl
structure PB (σ₀ σ:AH) (Y:List Addr) (D:Addr) (ad:Nat→Addr) (ks:List Nat) (l:List Oc):Prop where
 plc:PlcAt σ D ad ks l
 e:Ext [] σ₀ σ
 f:∀ b ∈ D::ks.map ad,σ₀ b=none∧b ∉ Y
theorem PB.to {σ₀ σ σ':AH} {Y:List Addr} {D:Addr} {ad ad':Nat→Addr} {ks ks':List Nat} {l l':List Oc} (h:PB σ₀ σ Y D ad ks l) (hp:PlcAt σ' D ad' ks' l') (x:FTo (D::ks.map ad) σ (D::ks'.map ad') σ') (hY:∀ y ∈ Y,∃ o,σ y=some o):
 PB σ₀ σ' Y D ad' ks' l'∧∀ y ∈ Y,σ' y=σ y:=by
 have hk:∀ y ∈ Y,σ' y=σ y∧y ∉ D::ks'.map ad':=fun y hy=>by
  obtain ⟨o,ho⟩:=hY y hy
  obtain ⟨a,b⟩:=x.keep (fun q=>(h.f y q).2 hy) ho
  exact ⟨a.trans ho.symm,b⟩
 refine ⟨⟨hp,fun b _ o e=>x.ext b (fun q=>by rw [(h.f b q).1] at e;injection e) o (h.e.get e),fun b hb=>⟨?_,fun q=>(hk b q).2 hb⟩⟩,fun y hy=>(hk y hy).1⟩
 rcases x.new b hb with q | q
 · exact (h.f b q).1
 · exact h.e.none q
theorem PB.write {σ₀ σ:AH} {Y:List Addr} {D:Addr} {ad:Nat→Addr} {ks:List Nat} {l:List Oc} (h:PB σ₀ σ Y D ad ks l) {y:Addr} (hy:y ∈ Y) (hy0:σ₀ y=none) (o:AO):PB σ₀ (σ.set y o) Y D ad ks l:=
 ⟨h.plc.fto fun b u e hb=>(set_ne _ _ fun (q:b=y)=>(h.f b hb).2 (by rw [q];exact hy)).trans e,h.e.updN hy0 o,h.f⟩
theorem PB.pure {σ₀ σ σ':AH} {Y:List Addr} {D:Addr} {ad:Nat→Addr} {ks:List Nat} {l:List Oc} (h:PB σ₀ σ Y D ad ks l) (x:Ext [] σ σ'):PB σ₀ σ' Y D ad ks l:=
 ⟨h.plc.mono x,h.e.trans x,h.f⟩
theorem PB.add {σ₀ σ:AH} {Y:List Addr} {D:Addr} {ad:Nat→Addr} {ks:List Nat} {l:List Oc} (h:PB σ₀ σ Y D ad ks l) {y:Addr} (hy:σ y=none):PB σ₀ σ (y::Y) D ad ks l:=
 ⟨h.plc,h.e,fun b hb=>⟨(h.f b hb).1,fun q=>(List.mem_cons.mp q).elim (fun q=>h.plc.some hb (q ▸ hy)) (h.f b hb).2⟩⟩
theorem PB.drop {σ₀ σ:AH} {Y:List Addr} {D:Addr} {ad:Nat→Addr} {ks:List Nat} {l:List Oc} {y:Addr} (h:PB σ₀ σ (y::Y) D ad ks l):PB σ₀ σ Y D ad ks l:=
 ⟨h.plc,h.e,fun b hb=>⟨(h.f b hb).1,fun q=>(h.f b hb).2 (.tail _ q)⟩⟩
noncomputable def walkB:PS:=(.seq (.asg 8 (.list .nil)) <|
     (.seq (.forS [9] true true (.var 7)
      (.seq (.expr (.bm (.var 8) .append (.cons (.tup (.cons (.var 9) (.cons (.bin .add (.var 6) (.lit (.str (S "_arg")))) .nil))) .nil))) <|
      .nop)) <|
     (.seq (.whl (.var 8)
      (.seq (.asgT [9,10] (.bm (.var 8) .pop .nil)) <|
      (.seq (.ifS (.cmp .eq (.idx (.var 9) (.lit (.int (0)))) (.lit (.str (S "v"))))
       (.seq (.expr (.bm (.bm (.var 1) .setdefault (.cons (.idx (.var 9) (.lit (.int (1)))) (.cons (.list .nil) .nil))) .append (.cons (.tup (.cons (.var 3) (.cons (.var 10) .nil))) .nil))) <|
       .nop)
       (.seq (.ifS (.cmp .eq (.idx (.var 9) (.lit (.int (0)))) (.lit (.str (S "s"))))
        (.seq (.forS [11] true true (.idx (.var 9) (.lit (.int (2))))
         (.seq (.expr (.bm (.var 8) .append (.cons (.tup (.cons (.var 11) (.cons (.bin .add (.var 6) (.lit (.str (S "_struct")))) .nil))) .nil))) <|
         .nop)) <|
        .nop)
        .nop) <|
       .nop)) <|
      .nop))) <|
     .nop)))
theorem s_asgTX {Γ:Gam} {σ:AH} {m:Env'} {Q:AFl→Env'→AH→Prop} {b:PS} {is:List Nat} {e:PE} (h:pwpE Γ e m (fun v σ=>match v with
 | .tup xs=>xs.length=is.length∧pwpS Γ b Q (asgs is xs m) σ
 | _=>False) σ):pwpS Γ (.seq (.asgT is e) b) Q m σ:=h
theorem walk_row {Γ:Gam} {σ₀ σ:AH} {rows D:Addr} {ad:Nat→Addr} {ks:List Nat} {l tl F:List Oc} {r:Row} (h:PB σ₀ σ [rows] D ad ks l) {rv:AO} (hrv:σ rows=some rv) (hr0:σ₀ rows=none) (hF:F=l++(r.oc++tl)) (hFk:∀ o ∈ F,o.k < 64) (hFl:F.length≤100000)
 (hok:oks r.ts) (hsz:sizes r.ts≤100) (hp:r.p.length≤100) {e0 x4 x5 x8 x9 x10 x11:Option AV} {C:AFl→Env'→AH→Prop}
 (hC:∀ σ' ad' ks' x8 x9 x10 x11,PB σ₀ σ' [rows] D ad' ks' (l++r.oc)→σ' rows=some rv→C .next [e0,some (.ref D),some (.ref rows),some (.int r.a),x4,x5,some (.str r.p),some (.tup (r.ts.map enc)),x8,x9,x10,x11] σ'):
 pwpS Γ walkB C [e0,some (.ref D),some (.ref rows),some (.int r.a),x4,x5,some (.str r.p),some (.tup (r.ts.map enc)),x8,x9,x10,x11] σ:=by
 refine s_asgX (e_list0 fun st hst=>?_)
 have hst0:σ₀ st=none:=h.e.none hst
 have hPB:PB σ₀ (σ.set st (.list [])) [st,rows] D ad ks l:=(h.add hst).write (.head _) hst0 _
 have hrs:rows≠st:=ne_of hrv hst
 have hw:∀ x:Str,x.length≤100→r.p.length+x.length≤LIM:=fun x hx=>by unfold LIM;lia
 have hlen:=len_sizes r.ts
 refine s_forX (ev_w (v:=.tup (r.ts.map enc)) rfl (forK_rev (f:=enc) (all:=r.ts.reverse) (fun pre m' σ'=>EI1_3 (fun (y9:Option AV) m'=>m'=[e0,some (.ref D),some (.ref rows),some (.int r.a),x4,x5,some (.str r.p),some (.tup (r.ts.map enc)),some (.ref st),y9,x10,x11]) (fun (y9:Option AV) σ'=>PB σ₀ σ' [st,rows] D ad ks l) (fun (y9:Option AV) σ'=>σ' rows=some rv) (fun (y9:Option AV) σ'=>σ' st=some (.list (pre.map fun t=>stV r (t,false)))) m' σ') List.map_reverse.symm ⟨x9,rfl,hPB,(set_ne _ _ hrs).trans hrv,set_same _ _ _⟩ ?_ ?_))
 · rintro pre t post m' σ' K e ⟨y9,rfl,a1,a2,a3⟩ hK _
   refine s_expr (e_app rfl a3 (x_tup (xs_cons (show ev _ _ (.var 9)=some (enc t) from rfl) (xs_cons (x_bin rfl rfl (if_pos (hw _ (by decide)))) xs_nil)) (show 2≤LIM by decide)) ?_ (s_nop (hK _ _ ⟨_,rfl,a1.write (.head _) hst0 _,(set_ne _ _ hrs).trans a2,?_⟩)))
   · have:=congrArg List.length e
     rw [List.length_reverse,List.length_append,List.length_cons] at this
     rw [List.length_map]
     unfold LIM
     lia
   · rw [set_same,List.map_append]
     rfl
 rintro m' σ1 ⟨y9,rfl,a1,a2,a3⟩
 refine s_whl (fun n m' σ'=>EI7_7 (fun (ad':Nat→Addr) (ks':List Nat) (us:List (Tm × Bool)) (l':List Oc) (y9 y10 y11:Option AV) m'=>m'=[e0,some (.ref D),some (.ref rows),some (.int r.a),x4,x5,some (.str r.p),some (.tup (r.ts.map enc)),some (.ref st),y9,y10,y11]) (fun (ad':Nat→Addr) (ks':List Nat) (us:List (Tm × Bool)) (l':List Oc) (y9 y10 y11:Option AV) σ'=>PB σ₀ σ' [st,rows] D ad' ks' l') (fun (ad':Nat→Addr) (ks':List Nat) (us:List (Tm × Bool)) (l':List Oc) (y9 y10 y11:Option AV) σ'=>σ' rows=some rv) (fun (ad':Nat→Addr) (ks':List Nat) (us:List (Tm × Bool)) (l':List Oc) (y9 y10 y11:Option AV) σ'=>σ' st=some (.list (us.reverse.map (stV r)))) (fun (ad':Nat→Addr) (ks':List Nat) (us:List (Tm × Bool)) (l':List Oc) (y9 y10 y11:Option AV) σ'=>oks (us.map Prod.fst)) (fun (ad':Nat→Addr) (ks':List Nat) (us:List (Tm × Bool)) (l':List Oc) (y9 y10 y11:Option AV) σ'=>szP us≤n) (fun (ad':Nat→Addr) (ks':List Nat) (us:List (Tm × Bool)) (l':List Oc) (y9 y10 y11:Option AV) σ'=>n≤100) (fun (ad':Nat→Addr) (ks':List Nat) (us:List (Tm × Bool)) (l':List Oc) (y9 y10 y11:Option AV) σ'=>l'++us.flatMap (ocP r)=l++r.oc) m' σ') (n:=sizes r.ts) ?_ ?_
 · refine ⟨ad,ks,r.ts.map fun t=>(t,false),l,y9,x10,x11,rfl,a1,a2,?_,?_,?_,hsz,?_⟩
   · rw [a3,← List.map_reverse,List.map_map];rfl
   · rw [List.map_map,show (Prod.fst ∘ fun t:Tm=>(t,false))=id from rfl,List.map_id];exact hok
   · unfold szP;rw [List.map_map,show (Prod.fst ∘ fun t:Tm=>(t,false))=id from rfl,List.map_id];exact Nat.le_refl _
   · rw [ocP_false];rfl
 · rintro n m' σ' ⟨ad',ks',us,l',y9,y10,y11,rfl,b1,b2,b3,b4,b5,b6,b7⟩
   refine ⟨_,xb_truth (i:=8) rfl b3,fun e=>?_,fun e K hK _=>?_⟩
   · have:us=[]:=by cases us with
      | nil=>rfl
      | cons u us=>simp at e
     subst this
     refine s_nop (hC σ' ad' ks' _ _ _ _ ?_ b2)
     rw [← b7,List.flatMap_nil,List.append_nil]
     exact b1.drop
   · cases us with
     | nil=>injection e
     | cons u us=>
      obtain ⟨t,w⟩:=u
      rw [List.reverse_cons,List.map_append,List.map_singleton] at b3
      have hu:t.ok∧oks (us.map Prod.fst):=b4
      have h8:t.size+szP us≤n:=b5
      have hp1:=size_pos t
      have hlu:us.length≤szP us:=by have:=len_sizes (us.map Prod.fst);rwa [List.length_map] at this
      refine s_asgTX (e_pop (a:=st) rfl b3 ⟨rfl,?_⟩)
      have c1:PB σ₀ (σ'.set st (.list (us.reverse.map (stV r)))) [st,rows] D ad' ks' l':=b1.write (.head _) hst0 _
      have c2:=(set_ne σ' (.list (us.reverse.map (stV r))) hrs).trans b2
      have c3:=set_same σ' st (.list (us.reverse.map (stV r)))
      generalize σ'.set st (.list (us.reverse.map (stV r)))=σ2 at c1 c2 c3
      refine s_if (enc_isV (i:=9) hu.1 rfl) (fun c=>?_) (fun cv=>?_)
      · cases t with
        | s f us'=>injection c
        | c w n=>injection c
        | v k=>
         have hsub:F=l'++([⟨k,r.a,r.c,wordP r.p w⟩]++(us.flatMap (ocP r)++tl)):=by
          rw [hF,← List.append_assoc,← b7,List.flatMap_cons]
          simp only [List.append_assoc]
          rfl
         refine plc_step c1.plc (fun o ho=>hFk o (by rw [hsub];exact List.mem_append_left _ ho)) (by have:=congrArg List.length hsub;rw [List.length_append] at this;lia) (o:=⟨k,r.a,r.c,wordP r.p w⟩) rfl (fun _=>enc_v1 rfl) (fun _=>rfl) (fun _=>rfl) fun σ3 ad3 ks3 d1 d2=>?_
         obtain ⟨d3,d4⟩:=c1.to d1 d2 (fun y hy=>by
          rcases List.mem_cons.mp hy with q | q
          · exact ⟨_,q ▸ c3⟩
          · exact ⟨_,(List.mem_singleton.mp q) ▸ c2⟩)
         refine s_end (s_nop (hK (szP us) _ _ (by lia) ⟨ad3,ks3,us,_,_,_,_,rfl,d3,(d4 rows (.tail _ (.head _))).trans c2,(d4 st (.head _)).trans c3,hu.2,Nat.le_refl _,by lia,?_⟩))
         rw [← b7,List.flatMap_cons,List.append_assoc]
         rfl
      · refine s_if (enc_isS (i:=9) hu.1 rfl) (fun c=>?_) (fun c=>?_)
        · cases t with
          | v k=>injection cv
          | c w n=>injection c
          | s f us'=>
           have hs:(Tm.s f us').size=1+sizes us':=rfl
           have hl':=len_sizes us'
           refine s_forX (ev_w (enc_s2 rfl) (forK_rev (f:=enc) (all:=us'.reverse) (fun pre m' σ'=>EI1_3 (fun (y11:Option AV) m'=>m'=[e0,some (.ref D),some (.ref rows),some (.int r.a),x4,x5,some (.str r.p),some (.tup (r.ts.map enc)),some (.ref st),some (enc (.s f us')),some (.str (wordP r.p w)),y11]) (fun (y11:Option AV) σ'=>PB σ₀ σ' [st,rows] D ad' ks' l') (fun (y11:Option AV) σ'=>σ' rows=some rv) (fun (y11:Option AV) σ'=>σ' st=some (.list (us.reverse.map (stV r)++pre.map fun t=>stV r (t,true)))) m' σ') List.map_reverse.symm ⟨_,rfl,c1,c2,by rw [List.map_nil,List.append_nil];exact c3⟩ ?_ ?_))
           · rintro pre t post m' σ' K' e ⟨z11,rfl,a1,a2,a3⟩ hK' _
             refine s_expr (e_app rfl a3 (x_tup (xs_cons (show ev _ _ (.var 11)=some (enc t) from rfl) (xs_cons (x_bin rfl rfl (if_pos (hw _ (by decide)))) xs_nil)) (show 2≤LIM by decide)) ?_ (s_nop (hK' _ _ ⟨_,rfl,a1.write (.head _) hst0 _,(set_ne _ _ hrs).trans a2,?_⟩)))
             · have:=congrArg List.length e
               rw [List.length_reverse,List.length_append,List.length_cons] at this
               rw [List.length_append,List.length_map,List.length_map,List.length_reverse]
               unfold LIM
               lia
             · rw [set_same,List.map_append,List.append_assoc]
               rfl
           · rintro m' σ3 ⟨z11,rfl,a1,a2,a3⟩
             have hm2:((us'.map fun t=>(t,true))++us).map Prod.fst=us'++us.map Prod.fst:=by
              rw [List.map_append,List.map_map,show (Prod.fst ∘ fun t:Tm=>(t,true))=id from rfl,List.map_id]
             have hz:szP ((us'.map fun t=>(t,true))++us)=sizes us'+szP us:=by
              unfold szP;rw [hm2,sizes_app]
             refine s_end (s_end (s_nop (hK (sizes us'+szP us) _ _ (by lia) ⟨ad',ks',(us'.map fun t=>(t,true))++us,l',_,_,_,rfl,a1,a2,?_,?_,by lia,by lia,?_⟩)))
             · rw [a3,List.reverse_append,List.map_append,← List.map_reverse,List.map_map]
               rfl
             · rw [hm2]
               exact oks_app hu.1 hu.2
             · rw [← b7,List.flatMap_append,ocP_true,List.flatMap_cons]
               rfl
        · cases t with
          | v k=>injection cv
          | s f us'=>injection c
          | c w' n'=>
           refine s_end (s_end (s_nop (hK (szP us) _ _ (by lia) ⟨ad',ks',us,l',_,_,_,rfl,c1,c2,c3,hu.2,Nat.le_refl _,by lia,?_⟩)))
           rw [← b7]
           rfl
noncomputable def isSp (o:Oc):Bool:=decide (o.word=S "special")
theorem goalsG_filter {β:Type} (F:Nat→Nat→Gl→List β) (p:β→Bool):∀ (gs:List Gl) (a c:Nat),(goalsG F a c gs).filter p=goalsG (fun a c g=>(F a c g).filter p) a c gs
 | [],a,c=>rfl
 | g::gs,a,c=>by
  show (F a c g++goalsG F _ _ gs).filter p=(F a c g).filter p++_
  rw [List.filter_append,goalsG_filter F p gs]
theorem goalsG_flatMap {β γ:Type} (F:Nat→Nat→Gl→List β) (p:β→List γ):∀ (gs:List Gl) (a c:Nat),(goalsG F a c gs).flatMap p=goalsG (fun a c g=>(F a c g).flatMap p) a c gs
 | [],a,c=>rfl
 | g::gs,a,c=>by
  show (F a c g++goalsG F _ _ gs).flatMap p=(F a c g).flatMap p++_
  rw [List.flatMap_append,goalsG_flatMap F p gs]
theorem goalsG_congr {β:Type} {F G:Nat→Nat→Gl→List β} (h:∀ a c g,F a c g=G a c g):∀ (gs:List Gl) (a c:Nat),goalsG F a c gs=goalsG G a c gs
 | [],a,c=>rfl
 | g::gs,a,c=>by
  show F a c g++goalsG F _ _ gs=G a c g++goalsG G _ _ gs
  rw [h,goalsG_congr h gs]
theorem goalsG_len {β:Type} {F:Nat→Nat→Gl→List β} {B:Nat}:∀ (gs:List Gl) (a c:Nat),(∀ g ∈ gs,∀ a c,(F a c g).length≤B)→(goalsG F a c gs).length≤gs.length * B
 | [],a,c,h=>Nat.zero_le _
 | g::gs,a,c,h=>by
  show (F a c g++goalsG F _ _ gs).length≤_
  rw [List.length_append,List.length_cons,Nat.succ_mul]
  have h1:=h g (.head _) a c
  have h2:=goalsG_len gs (a+1) (if g.isCall=true then c+1 else c) fun g' hg=>h g' (.tail _ hg)
  lia
theorem ocGoals_G:∀ (gs:List Gl) (a c:Nat),ocGoals a c gs=goalsG ocGoal a c gs
 | [],a,c=>rfl
 | g::gs,a,c=>by
  show ocGoal a c g++ocGoals _ _ gs=ocGoal a c g++_
  rw [ocGoals_G gs]
theorem oc_word {g:Int} {c:Nat} {p:Str}:∀ {ts:List Tm} {o:Oc},o ∈ ocTerms g c p ts→o.word=p++S "_arg" ∨ o.word=p++S "_struct"
 | t::ts,o,h=>by
  rw [ocTerms_cons] at h
  rcases List.mem_append.mp h with h | h
  · cases t with
    | v k=>rw [List.mem_singleton.mp h];exact .inl rfl
    | c w n=>cases h
    | s f us=>
     obtain ⟨k,_,rfl⟩:=List.mem_map.mp h
     exact .inr rfl
  · exact oc_word h
theorem oc_nosp {g:Int} {c:Nat} {p:Str} (h1:p++S "_arg" ≠ S "special") (h2:p++S "_struct" ≠ S "special") {ts:List Tm} {o:Oc} (h:o ∈ ocTerms g c p ts):isSp o=false:=by
 refine decide_eq_false fun q=>?_
 rcases oc_word h with e | e
 · exact h1 (e ▸ q)
 · exact h2 (e ▸ q)
theorem nosp_head {g:Int} {c:Nat} {ts:List Tm} {o:Oc} (h:o ∈ ocTerms g c (S "head") ts):isSp o=false:=oc_nosp (by decide) (by decide) h
theorem nosp_goal {g:Int} {c:Nat} {ts:List Tm} {o:Oc} (h:o ∈ ocTerms g c (S "goal") ts):isSp o=false:=oc_nosp (by decide) (by decide) h
theorem filt_none {α:Type} {p:α→Bool} {l:List α} (h:∀ x ∈ l,p x=false):l.filter p=[]:=List.filter_eq_nil_iff.mpr fun x hx=>by rw [h x hx];decide
theorem filt_all {α:Type} {p:α→Bool} {l:List α} (h:∀ x ∈ l,p x=false):l.filter (fun x=>!p x)=l:=List.filter_eq_self.mpr fun x hx=>by rw [h x hx];rfl
theorem spG_sp {a c:Nat} {g:Gl} {o:Oc} (h:o ∈ spG a c g):isSp o=true:=by
 unfold spG at h
 cases e:g.special with
 | none=>rw [e] at h;cases h
 | some k=>rw [e] at h;rw [List.mem_singleton.mp h];rfl
theorem plL_eq (K:Ker):plL K=K.oc.filter isSp++K.oc.filter (fun o=>!isSp o):=by
 unfold plL rowsK Ker.oc
 rw [List.filter_append,List.filter_append,ocGoals_G,goalsG_filter,goalsG_filter,filt_none fun o ho=>nosp_head ho,filt_all fun o ho=>nosp_head ho,List.flatMap_cons,goalsG_flatMap,List.nil_append]
 congr 1
 · refine goalsG_congr (fun a c g=>?_) _ _ _
   show spG a c g=(spG a c g++ocTerms a c (S "goal") g.terms).filter isSp
   rw [List.filter_append,filt_none fun o ho=>nosp_goal ho,List.append_nil]
   exact (List.filter_eq_self.mpr fun o ho=>spG_sp ho).symm
 · congr 1
   refine goalsG_congr (fun a c g=>?_) _ _ _
   show _=(spG a c g++ocTerms a c (S "goal") g.terms).filter (fun o=>!isSp o)
   rw [List.filter_append,filt_all fun o ho=>nosp_goal ho]
   have:(spG a c g).filter (fun o=>!isSp o)=[]:=filt_none fun o ho=>by rw [spG_sp ho];rfl
   rw [this,List.nil_append]
   unfold rowG
   rw [List.flatMap_cons,List.flatMap_nil,List.append_nil]
   rfl
theorem plL_perm (K:Ker):List.Perm (plL K) K.oc:=by
 rw [plL_eq]
 exact List.filter_append_perm isSp K.oc
mutual
theorem vars_len:∀ t:Tm,t.vars.length≤t.size
 | .v _=>Nat.le_refl _
 | .c _ _=>Nat.zero_le _
 | .s f ts=>by
  have:=varss_len ts
  show (varss ts).length≤1+sizes ts
  lia
theorem varss_len:∀ ts:List Tm,(varss ts).length≤sizes ts
 | []=>Nat.le_refl _
 | t::ts=>by
  have h1:=vars_len t
  have h2:=varss_len ts
  rw [varss_cons,sizes_cons,List.length_append]
  lia
end
theorem oc_len {g:Int} {c:Nat} {p:Str} {ts:List Tm}:(ocTerms g c p ts).length≤sizes ts:=by
 have:=varss_len ts
 rw [← oc_k (g:=g) (c:=c) (p:=p),List.length_map] at this
 exact this
theorem koc_len {K:Ker} (h:K.Ok):K.oc.length≤100000:=by
 have h1:(ocTerms (-1) 0 (S "head") K.args).length≤sizes K.args:=oc_len
 have h2:=h.argsSize
 have h3:=goalsG_len (F:=ocGoal) (B:=101) K.goals 0 0 fun g hg a c=>by
  have h4:(ocTerms a c (S "goal") g.terms).length≤sizes g.terms:=oc_len
  have h5:=h.goalsSize g hg
  show (spG a c g++ocTerms a c (S "goal") g.terms).length≤_
  have h6:(spG a c g).length≤1:=by
   unfold spG
   cases g.special with
   | none=>exact Nat.zero_le _
   | some k=>exact Nat.le_refl _
  rw [List.length_append]
  lia
 have h4:=h.goalsLen
 unfold Ker.oc
 rw [List.length_append,ocGoals_G]
 lia
theorem pl_k {K:Ker} (h:K.Ok):∀ o ∈ plL K,o.k < 64:=fun o ho=>Nat.lt_trans (h.below o ((plL_perm K).mem_iff.mp ho)) h.count
theorem pl_len {K:Ker} (h:K.Ok):(plL K).length≤100000:=by rw [(plL_perm K).length_eq];exact koc_len h
inductive T_places_of (args:List AV) (Q:AV→AH→Prop) (σ:AH):Prop
 | mk (kx ga:Addr) (K:Ker):(args=[.obj 52 kx])→(KerAt σ kx ga K)→(K.Ok)→(∀ (D:Addr) (ad:Nat→Addr) (ks:List Nat) (σ':AH),Ext [] σ σ'→PlcAt σ' D ad ks (plL K)→Q (.ref D) σ')→T_places_of  args Q σ
noncomputable def t_places_of:Tr:=T_places_of
theorem vc_places_of (Γ:Gam) (hsp:Γ.fn (S "goal_special")=some t_goal_special) (hgt:Γ.fn (S "goal_terms")=some t_goal_terms):VC Γ b_places_of 1 12 t_places_of:=by
 rintro args Q σ ⟨kx,ga,K,rfl,hK,hOk,hQ⟩
 refine ⟨rfl,?_⟩
 refine s_asgX (e_dict0 fun D hD=>?_)
 have xD:Ext [] σ (σ.set D (.dict [] 0)):=(Ext.refl [] _).updN hD _
 obtain ⟨f,hf⟩:=(hK.mono xD).o
 refine s_asgX (e_list1 (v:=.tup (rowV ⟨-1,0,S "head",K.args⟩)) (x_tup (xs_cons (v:=.int (-1)) rfl (xs_cons rfl (xs_cons (x_attr rfl hf rfl) xs_nil))) (show 3≤LIM by decide)) fun rows hrows=>?_)
 have hr0:=xD.none hrows
 have hDr:D≠rows:=ne_of (set_same σ D _) hrows
 have hP0:PB σ ((σ.set D (.dict [] 0)).set rows (.list [.tup (rowV ⟨-1,0,S "head",K.args⟩)])) [rows] D (fun _=>0) [] []:=
  ⟨⟨⟨0,(set_ne _ _ hDr).trans (set_same _ _ _)⟩,fun k h=>(nomatch h),fun k h=>(nomatch h),List.nodup_nil,fun k=>⟨fun h=>(nomatch h),fun h=>absurd rfl h⟩⟩,xD.updN hr0 _,fun b hb=>by
   rcases List.mem_cons.mp hb with q | q
   · exact ⟨q ▸ hD,fun r=>hDr (q ▸ List.mem_singleton.mp r)⟩
   · cases q⟩
 have hgl:K.goals.length≤LIM:=Nat.le_trans hOk.goalsLen (by decide)
 have hFk:=pl_k hOk
 have hFl:=pl_len hOk
 have hP0':((σ.set D (.dict [] 0)).set rows (.list [.tup (rowV ⟨-1,0,S "head",K.args⟩)])) rows=some (.list [.tup (rowV ⟨-1,0,S "head",K.args⟩)]):=set_same _ _ _
 generalize (σ.set D (.dict [] 0)).set rows (.list [.tup (rowV ⟨-1,0,S "head",K.args⟩)])=σ1 at hP0 hP0'
 obtain ⟨f1,hf1⟩:=(hK.mono hP0.e).o
 have hrl:ev σ1 [some (.obj 52 kx),some (.ref D),some (.ref rows),none,none,none,none,none,none,none,none,none] (.bi .len (.cons (.attr (.var 0) (S "goals")) .nil))=some (.int (K.goals.length:Nat)):=by
  rw [x_lenL (x_attr rfl hf1 rfl) (hK.mono hP0.e).g,List.length_map]
 refine s_forX (ev_w (x_rng hrl hgl) (forK_rng (fun i m' σ'=>EI5_2 (fun (ad:Nat→Addr) (ks:List Nat) (x3 x4 x5:Option AV) m'=>m'=[some (.obj 52 kx),some (.ref D),some (.ref rows),x3,x4,x5,none,none,none,none,none,none]) (fun (ad:Nat→Addr) (ks:List Nat) (x3 x4 x5:Option AV) σ'=>PB σ σ' [rows] D ad ks (goalsG spG 0 0 (K.goals.take i))) (fun (ad:Nat→Addr) (ks:List Nat) (x3 x4 x5:Option AV) σ'=>σ' rows=some (.list ((⟨-1,0,S "head",K.args⟩::goalsG rowG 0 0 (K.goals.take i)).map fun r=>.tup (rowV r)))) m' σ') ⟨_,_,none,none,none,rfl,by rw [List.take_zero];exact hP0,by rw [List.take_zero];exact hP0'⟩ ?_ ?_))
 · rintro i m' σ' C hi ⟨ad,ks,x3,x4,x5,rfl,a1,a2⟩ hC _
   have hg:=hOk.goalsOk _ (List.getElem_mem hi)
   have hK':=hK.mono a1.e
   obtain ⟨f2,hf2⟩:=hK'.o
   have hgl:(K.goals.map encG)[i]?=some (encG K.goals[i]):=by rw [List.getElem?_map,List.getElem?_eq_getElem hi];rfl
   refine s_asg (v:=encG K.goals[i]) (x_idxL (x_attr rfl hf2 rfl) hK'.g rfl ((pyIdx_of rfl).trans hgl)) ?_
   have hrow:=goalsG_take rowG hi
   have hspe:=goalsG_take spG hi
   obtain ⟨tl,htl⟩:=goalsG_pre spG K.goals i
   have hbound:∀ o ∈ goalsG spG 0 0 (K.goals.take i),o.k < 64:=fun o ho=>hFk o (by unfold plL;rw [htl];exact List.mem_append_left _ (List.mem_append_left _ ho))
   have hblen:(goalsG spG 0 0 (K.goals.take i)).length≤100000:=by
    have:=congrArg List.length htl
    unfold plL at hFl
    rw [List.length_append] at this hFl
    lia
   have hrlen:(goalsG rowG 0 0 (K.goals.take i)).length≤1000:=by
    have h1:=goalsG_len (F:=rowG) (B:=1) (K.goals.take i) 0 0 fun g _ a c=>Nat.le_refl _
    have h2:=List.length_take_le i K.goals
    have h3:=hOk.goalsLen
    lia
   revert hg hrow hspe
   generalize K.goals[i]=g
   intro hg hrow hspe
   have rest:∀ (σ1:AH) (ad1:Nat→Addr) (ks1:List Nat) (sp:Int),PB σ σ1 [rows] D ad1 ks1 (goalsG spG 0 0 (K.goals.take i)++spG i (callsIn (K.goals.take i)) g)→σ1 rows=σ' rows→
    pwpS Γ (.seq (.expr (.bm (.var 2) .append (.cons (.tup (.cons (.var 3) (.cons (.lit (.str (S "goal"))) (.cons (.call (S "goal_terms") (.cons (.var 4) .nil)) .nil)))) .nil))) .nop) C
    [some (.obj 52 kx),some (.ref D),some (.ref rows),some (.int i),some (encG g),some (.int sp),none,none,none,none,none,none] σ1:=by
    intro σ1 ad1 ks1 sp b1 b2
    rw [a2] at b2
    refine s_expr (e_appX rfl b2 (e_tup (es_ev (v:=.int i) rfl (es_ev (v:=.str (S "goal")) rfl (es_cons (e_call hgt (es_ev (v:=encG g) rfl (es_nil ⟨g,rfl,hg,es_nil ⟨show 3≤LIM by decide,?_⟩⟩))))))))
    refine bmK_app b2 (by rw [List.length_map,List.length_cons];unfold LIM;lia) (s_nop (hC _ _ ⟨ad1,ks1,_,_,_,rfl,?_,?_⟩))
    · rw [hspe]
      exact b1.write (.head _) hr0 _
    · rw [set_same,hrow,← List.cons_append,List.map_append,encs_map]
      rfl
   refine s_asgX (e_call hsp (es_ev (v:=encG g) rfl (es_nil ⟨g,rfl,hg,?_⟩)))
   refine s_if (t:=decide (0≤spInt g)) (xb_cmp rfl rfl rfl) (fun q=>?_) (fun q=>?_)
   · have h0:0≤spInt g:=of_decide_eq_true q
     obtain ⟨k,hk⟩:∃ k,g.special=some k:=by
      unfold spInt at h0
      cases e:g.special with
      | none=>rw [e] at h0;exact absurd h0 (by decide)
      | some k=>exact ⟨k,rfl⟩
     have hki:spInt g=k:=by unfold spInt;rw [hk]
     have hsg:spG i (callsIn (K.goals.take i)) g=[⟨k,i,callsIn (K.goals.take i),S "special"⟩]:=by unfold spG;rw [hk]
     rw [hki]
     refine plc_step a1.plc hbound hblen (o:=⟨k,i,callsIn (K.goals.take i),S "special"⟩) rfl (fun _=>rfl) (fun _=>rfl) (fun _=>rfl) fun σ3 ad3 ks3 d1 d2=>?_
     obtain ⟨d3,d4⟩:=a1.to d1 d2 (fun y hy=>⟨_,(List.mem_singleton.mp hy) ▸ a2⟩)
     rw [← hsg] at d3
     exact s_end (rest σ3 ad3 ks3 _ d3 (d4 rows (.head _)))
   · have hk:g.special=none:=by
      cases e:g.special with
      | none=>rfl
      | some k=>
       exfalso
       have:¬ 0≤spInt g:=of_decide_eq_false q
       unfold spInt at this
       rw [e] at this
       exact this (Int.natCast_nonneg k)
     have hsg:spG i (callsIn (K.goals.take i)) g=[]:=by unfold spG;rw [hk]
     exact s_end (rest σ' ad ks _ (by rw [hsg,List.append_nil];exact a1) rfl)
 rintro m' σ2 ⟨ad,ks,x3,x4,x5,rfl,a1,a2⟩
 rw [List.take_length] at a1 a2
 have hrows:∀ r ∈ rowsK K,oks r.ts∧sizes r.ts≤100∧r.p.length≤100:=by
  intro r hr
  rcases List.mem_cons.mp hr with q | q
  · rw [q];exact ⟨hOk.argsOk,hOk.argsSize,show (S "head").length≤100 by decide⟩
  · have key:∀ (gs:List Gl) (a c:Nat),r ∈ goalsG rowG a c gs→∃ g ∈ gs,r.ts=g.terms∧r.p=S "goal" := by
     intro gs
     induction gs with
     | nil=>intro a c h;cases h
     | cons g gs ih=>
      intro a c h
      rcases List.mem_append.mp (show r ∈ rowG a c g++goalsG rowG _ _ gs from h) with h | h
      · exact ⟨g,.head _,by rw [List.mem_singleton.mp h],by rw [List.mem_singleton.mp h]⟩
      · obtain ⟨g',h1,h2⟩:=ih _ _ h
        exact ⟨g',.tail _ h1,h2⟩
    obtain ⟨g,h1,h2,h3⟩:=key _ _ _ q
    have hg:=hOk.goalsOk g h1
    rw [h2,h3]
    refine ⟨?_,hOk.goalsSize g h1,by decide⟩
    cases g with
    | sp w k=>exact trivial
    | un x y=>exact ⟨hg.1,hg.2,trivial⟩
    | tm w f ts=>exact hg.2
    | ct w=>exact trivial
 refine s_forX (ev_w (v:=.ref rows) rfl (forK_many (f:=rowV) (all:=rowsK K) (fun pre m' σ'=>EI11_2 (fun (ad:Nat→Addr) (ks:List Nat) (x3 x4 x5 x6 x7 x8 x9 x10 x11:Option AV) m'=>m'=[some (.obj 52 kx),some (.ref D),some (.ref rows),x3,x4,x5,x6,x7,x8,x9,x10,x11]) (fun (ad:Nat→Addr) (ks:List Nat) (x3 x4 x5 x6 x7 x8 x9 x10 x11:Option AV) σ'=>PB σ σ' [rows] D ad ks (goalsG spG 0 0 K.goals++pre.flatMap Row.oc)) (fun (ad:Nat→Addr) (ks:List Nat) (x3 x4 x5 x6 x7 x8 x9 x10 x11:Option AV) σ'=>σ' rows=some (.list ((rowsK K).map fun r=>.tup (rowV r)))) m' σ') a2 (fun _=>rfl) ⟨ad,ks,_,_,_,_,_,_,_,_,_,rfl,by rw [List.flatMap_nil,List.append_nil];exact a1,a2⟩ ?_ ?_ ?_))
 · rintro pre m' σ' ⟨_,_,_,_,_,_,_,_,_,_,_,_,b1,b2⟩
   rw [b2,a2]
   rfl
 · rintro pre r post m' σ' C e ⟨ad,ks,x3,x4,x5,x6,x7,x8,x9,x10,x11,rfl,b1,b2⟩ hC _
   have hr:r ∈ rowsK K:=by rw [e];simp
   obtain ⟨h1,h2,h3⟩:=hrows r hr
   have hF:plL K=(goalsG spG 0 0 K.goals++pre.flatMap Row.oc)++(r.oc++post.flatMap Row.oc):=by
    unfold plL
    rw [e,List.flatMap_append,List.flatMap_cons,List.append_assoc]
   refine walk_row b1 b2 hr0 hF hFk hFl h1 h2 h3 fun σ'' ad' ks' y8 y9 y10 y11 c1 c2=>hC _ _ ⟨ad',ks',_,_,_,_,_,_,_,_,_,rfl,?_,c2⟩
   rw [List.flatMap_append,List.flatMap_cons,List.flatMap_nil,List.append_nil,← List.append_assoc]
   exact c1
 · rintro m' σ' ⟨ad,ks,x3,x4,x5,x6,x7,x8,x9,x10,x11,rfl,b1,b2⟩
   exact s_ret (v:=.ref D) rfl (hQ D ad ks σ' b1.e b1.plc)
section
variable {Γ:Gam} {σ:AH} {m:Env'} {Q:AFl→Env'→AH→Prop} {b:PS} {R:AV→AH→Prop} {P:Bool→AH→Prop}
theorem s_ifX {c:PE} {x y:PS} (h:pwpB Γ c m (fun t σ=>if t=true then pwpS Γ x (Bh Γ b Q) m σ else pwpS Γ y (Bh Γ b Q) m σ) σ):pwpS Γ (.seq (.ifS c x y) b) Q m σ:=h
theorem b_call {f:Str} {t:Tr} {es:PEs} (hf:Γ.fn f=some t) (h:pwpEs Γ es m (fun vs σ=>t vs (fun u σ=>som (truthW σ u) fun b=>P b σ) σ) σ):pwpB Γ (.call f es) m P σ:=som_of hf h
theorem sameSrc_refl {v:AV} {xs:List AV} (h:itemsOf σ v=some xs):sameSrc σ σ v:=by
 cases v with
 | ref a=>exact rfl
 | _=>trivial
noncomputable def CompK (Γ:Gam) (elt cond:PE) (m:Env') (R:AV→AH→Prop) (v:AV) (σ₀:AH):Prop:=som (itemsOf σ₀ v) fun xs=>xs.length≤LIM∧foldW (fun x acc K σ=>sameSrc σ₀ σ v∧pwpB Γ cond (m++[some x]) (fun b σ=>if b=true then pwpE Γ elt (m++[some x]) (fun y σ=>K (acc++[y]) σ) σ else K acc σ) σ)
        xs [] (fun acc σ=>sameSrc σ₀ σ v∧freshW (.list acc) R σ) σ₀
theorem e_comp {elt iter cond:PE} (h:pwpE Γ iter m (CompK Γ elt cond m R) σ):pwpE Γ (.comp elt iter cond) m R σ:=h
theorem e_compP {α:Type} {f g:α→AV} {p:α→Bool} {all:List α} {elt iter cond:PE} {v:AV} (hi:ev σ m iter=some v) (hx:itemsOf σ v=some (all.map f)) (hl:all.length≤LIM)
 (hc:∀ x ∈ all,evB σ (m++[some (f x)]) cond=some (p x)) (he:∀ x ∈ all,ev σ (m++[some (f x)]) elt=some (g x)) (k:∀ r,σ r=none→R (.ref r) (σ.set r (.list ((all.filter p).map g)))):pwpE Γ (.comp elt iter cond) m R σ:=by
 refine e_comp (ev_w hi ?_)
 unfold CompK
 rw [hx]
 refine ⟨by rw [List.length_map];exact hl,?_⟩
 have main:∀ (post pre:List α),(∀ x ∈ post,evB σ (m++[some (f x)]) cond=some (p x))→(∀ x ∈ post,ev σ (m++[some (f x)]) elt=some (g x))→(∀ r,σ r=none→R (.ref r) (σ.set r (.list (((pre++post).filter p).map g))))→
  foldW (fun x acc K σ'=>sameSrc σ σ' v∧pwpB Γ cond (m++[some x]) (fun b σ=>if b=true then pwpE Γ elt (m++[some x]) (fun y σ=>K (acc++[y]) σ) σ else K acc σ) σ') (post.map f) ((pre.filter p).map g) (fun acc σ'=>sameSrc σ σ' v∧freshW (.list acc) R σ') σ:=by
  intro post
  induction post with
  | nil=>
   intro pre _ _ k
   rw [List.append_nil] at k
   exact ⟨sameSrc_refl hx,k⟩
  | cons x post ih=>
   intro pre hc he k
   have hc':=hc x (.head _)
   have ih':=ih (pre++[x]) (fun y hy=>hc y (.tail _ hy)) (fun y hy=>he y (.tail _ hy)) (by rw [List.append_assoc];exact k)
   rw [List.filter_append,List.map_append] at ih'
   refine ⟨sameSrc_refl hx,evB_w hc' ?_⟩
   cases q:p x with
   | true=>
    rw [List.filter_cons,if_pos q] at ih'
    exact (if_pos rfl).mpr (ev_w (he x (.head _)) ih')
   | false=>
    rw [List.filter_cons,if_neg (by rw [q];decide),List.filter_nil,List.map_nil,List.append_nil] at ih'
    exact (if_neg (by decide)).mpr ih'
 exact main all [] hc he k
end
noncomputable def callAt (K:Ker) (i:Nat):Bool:=match K.goals[i]? with
 | some g=>g.isCall
 | none=>false
noncomputable def leA (os:List Oc) (i:Int):Bool:=os.any fun o=>decide (o.at'≤i)
noncomputable def gtA (os:List Oc) (i:Int):Bool:=os.any fun o=>decide (i < o.at')
noncomputable def crossB (K:Ker) (os:List Oc):Bool:=(List.range K.goals.length).any fun i=>callAt K i && (leA os i && gtA os i)
inductive T_crosses_call (args:List AV) (Q:AV→AH→Prop) (σ:AH):Prop
 | mk (kx ga pl:Addr) (K:Ker) (os:List Oc):(args=[.obj 52 kx,.ref pl])→(KerAt σ kx ga K)→(K.Ok)→(σ pl=some (.list (os.map plT)))→(Q (.bool (crossB K os)) σ)→T_crosses_call  args Q σ
noncomputable def t_crosses_call:Tr:=T_crosses_call
theorem call_at {K:Ker} {σ:AH} {kx ga:Addr} (hK:KerAt σ kx ga K) (hOk:K.Ok) {i:Nat} (hi:i < K.goals.length) {m:Env'} {e ix:PE} (he:ev σ m e=some (.ref ga)) (hix:ev σ m ix=some (.int i)):evB σ m (.cmp .eq (.idx (.idx e ix) (.lit (.int 0))) (.lit (.str (S "call"))))=some (callAt K i):=by
 have hgl:(K.goals.map encG)[i]?=some (encG K.goals[i]):=by rw [List.getElem?_map,List.getElem?_eq_getElem hi];rfl
 have h1:=x_idxL he hK.g hix ((pyIdx_of rfl).trans hgl)
 have hg:=hOk.goalsOk _ (List.getElem_mem hi)
 have h2:callAt K i=K.goals[i].isCall:=by unfold callAt;rw [List.getElem?_eq_getElem hi]
 rw [h2,← encG_call hg σ [some (encG K.goals[i])] 0 rfl]
 show ((ev σ m (.idx e ix)).bind fun v=>idxW σ v (.int 0)).bind (fun v=>cmpW .eq σ v (.str (S "call")))=_
 rw [h1]
 rfl
theorem vc_crosses_call (Γ:Gam):VC Γ b_crosses_call 2 6 t_crosses_call:=by
 rintro args Q σ ⟨kx,ga,pl,K,os,rfl,hK,hOk,hpl,hQ⟩
 refine ⟨rfl,?_⟩
 unfold b_crosses_call
 obtain ⟨f,hf⟩:=hK.o
 have hrl:ev σ [some (.obj 52 kx),some (.ref pl),none,none,none,none] (.bi .len (.cons (.attr (.var 0) (S "goals")) .nil))=some (.int (K.goals.length:Nat)):=by
  rw [x_lenL (x_attr rfl hf rfl) hK.g,List.length_map]
 refine s_forX (ev_w (x_rng hrl (Nat.le_trans hOk.goalsLen (by decide))) (forK_rng (fun i m' σ'=>EI4_2 (fun (x2 x3 x4 x5:Option AV) m'=>m'=[some (.obj 52 kx),some (.ref pl),x2,x3,x4,x5]) (fun (x2 x3 x4 x5:Option AV) σ'=>σ'=σ) (fun (x2 x3 x4 x5:Option AV) σ'=>((List.range i).any fun i=>callAt K i && (leA os i && gtA os i))=false) m' σ') ⟨_,_,_,_,rfl,rfl,rfl⟩ ?_ ?_))
 · rintro i m' σ' C hi ⟨x2,x3,x4,x5,rfl,rfl,a1⟩ hC hR
   have hstep:∀ r,(callAt K i && (leA os i && gtA os i))=r→((List.range (i+1)).any fun i=>callAt K i && (leA os i && gtA os i))=r:=fun r hr=>by
    rw [List.range_succ,List.any_append,a1,List.any_cons,List.any_nil,Bool.or_false,Bool.false_or]
    exact hr
   refine s_if (t:=callAt K i) (call_at hK hOk hi (x_attr rfl hf rfl) rfl) (fun q=>?_) (fun q=>?_)
   · refine s_asg (v:=.bool false) rfl (s_asg (v:=.bool false) rfl ?_)
     refine s_forX (ev_w (v:=.ref pl) rfl (forK_one (f:=plT) (all:=os) (fun pre m'' σ''=>EI1_1 (fun (x5:Option AV) m''=>m''=[some (.obj 52 kx),some (.ref pl),some (.int i),some (.bool (leA pre i)),some (.bool (gtA pre i)),x5]) (fun (x5:Option AV) σ''=>σ''=σ') m'' σ'') (items_list hpl) ⟨_,rfl,rfl⟩ ?_ ?_ ?_))
     · rintro pre m'' σ'' ⟨y,_,rfl⟩
       exact sameSrc_list hpl hpl
     · rintro pre o post m'' σ'' K' e ⟨y,rfl,rfl⟩ hK' _
       have h1:leA (pre++[o]) i=(leA pre i || decide (o.at'≤i)):=by unfold leA;rw [List.any_append,List.any_cons,List.any_nil,Bool.or_false]
       have h2:gtA (pre++[o]) i=(gtA pre i || decide ((i:Int) < o.at')):=by unfold gtA;rw [List.any_append,List.any_cons,List.any_nil,Bool.or_false]
       refine s_if (t:=decide (o.at'≤(i:Int))) (xb_cmp (x_idxT (xs:=[.int o.at',.str o.word]) (k:=0) rfl rfl rfl) rfl rfl) (fun q=>?_) (fun q=>?_)
       · have q':decide ((i:Int) < o.at')=false:=decide_eq_false (by have:=of_decide_eq_true q;omega)
         rw [q,Bool.or_true] at h1
         rw [q',Bool.or_false] at h2
         exact s_asg (v:=.bool true) rfl (s_end (s_nop (hK' _ _ ⟨_,by rw [h1,h2];rfl,rfl⟩)))
       · have q':decide ((i:Int) < o.at')=true:=decide_eq_true (by have:=of_decide_eq_false q;omega)
         rw [q,Bool.or_false] at h1
         rw [q',Bool.or_true] at h2
         exact s_asg (v:=.bool true) rfl (s_end (s_nop (hK' _ _ ⟨_,by rw [h1,h2];rfl,rfl⟩)))
     · rintro m'' σ'' ⟨y,rfl,rfl⟩
       refine s_if (t:=leA os i && gtA os i) (xb_all (b:=leA os i) rfl (fun q=>xb_all (b:=gtA os i) rfl (fun q'=>?_) (fun q'=>?_)) (fun q'=>?_)) (fun q'=>s_ret (v:=.bool true) rfl (hR _ _ _ ?_)) (fun q'=>?_)
       · rw [q,q'];rfl
       · rw [q];rfl
       · rw [eq_false_of_ne_true q'];rfl
       · have:crossB K os=true:=by
          unfold crossB
          exact List.any_eq_true.mpr ⟨i,List.mem_range.mpr hi,by rw [q,q'];rfl⟩
         rw [this] at hQ
         exact hQ
       · exact s_end (s_end (s_nop (hC _ _ ⟨_,_,_,_,rfl,rfl,hstep false (by rw [q,q'];rfl)⟩)))
   · exact s_end (s_nop (hC _ _ ⟨_,_,_,_,rfl,rfl,hstep false (by rw [q];rfl)⟩))
 · rintro m' σ' ⟨x2,x3,x4,x5,rfl,rfl,a1⟩
   have:crossB K os=false:=a1
   rw [this] at hQ
   exact s_ret (v:=.bool false) rfl hQ
noncomputable def bestO (o:Oc) (os:List Oc):Oc:=os.foldl (fun b p=>if p.at' < b.at' then p else b) o
inductive T_first_word (args:List AV) (Q:AV→AH→Prop) (σ:AH):Prop
 | mk (pl:Addr) (o:Oc) (os:List Oc):(args=[.ref pl])→(σ pl=some (.list ((o::os).map plT)))→(Q (.str (bestO o (o::os)).word) σ)→T_first_word  args Q σ
noncomputable def t_first_word:Tr:=T_first_word
theorem vc_first_word (Γ:Gam):VC Γ b_first_word 1 3 t_first_word:=by
 rintro args Q σ ⟨pl,o,os,rfl,hpl,hQ⟩
 refine ⟨rfl,?_⟩
 unfold b_first_word
 refine s_asg (v:=plT o) (x_idxL rfl hpl rfl rfl) ?_
 refine s_forX (ev_w (v:=.ref pl) rfl (forK_one (f:=plT) (all:=o::os) (fun pre m' σ'=>EI1_1 (fun (x2:Option AV) m'=>m'=[some (.ref pl),some (plT (bestO o pre)),x2]) (fun (x2:Option AV) σ'=>σ'=σ) m' σ') (items_list hpl) ⟨_,rfl,rfl⟩ ?_ ?_ ?_))
 · rintro pre m'' σ'' ⟨y,_,rfl⟩
   exact sameSrc_list hpl hpl
 · rintro pre p post m'' σ'' K e ⟨y,rfl,rfl⟩ hK _
   have h1:bestO o (pre++[p])=if p.at' < (bestO o pre).at' then p else bestO o pre:=by
    unfold bestO
    rw [List.foldl_append]
    rfl
   refine s_if (t:=decide (p.at' < (bestO o pre).at')) (xb_cmp (x_idxT (xs:=[.int p.at',.str p.word]) (k:=0) rfl rfl rfl) (x_idxT (xs:=[.int (bestO o pre).at',.str (bestO o pre).word]) (k:=0) rfl rfl rfl) rfl) (fun q=>?_) (fun q=>?_)
   · rw [if_pos (of_decide_eq_true q)] at h1
     exact s_asg (v:=plT p) rfl (s_end (s_nop (hK _ _ ⟨_,by rw [h1];rfl,rfl⟩)))
   · rw [if_neg (of_decide_eq_false q)] at h1
     exact s_end (s_nop (hK _ _ ⟨_,by rw [h1];rfl,rfl⟩))
 · rintro m'' σ'' ⟨y,rfl,rfl⟩
   exact s_ret (x_idxT (xs:=[.int (bestO o (o::os)).at',.str (bestO o (o::os)).word]) (k:=1) rfl rfl rfl) hQ
noncomputable def maxL:List Oc→Int
 | []=>0
 | o::os=>(os.map (·.at')).foldl max o.at'
noncomputable def bestL:List Oc→Oc
 | []=>o0
 | o::os=>bestO o (o::os)
structure VarOk (K:Ker) (k:Nat) (os:List Oc) (i:Info):Prop where
 var:i.var=k
 first:i.first=(bestL os).word
 last:i.last=maxL os
 void:decide (i.kind=S "void")=decide (os.length=1)
 perm:decide (i.kind=S "perm")=crossB K os
 kind:i.kind=S "void" ∨ i.kind=S "perm" ∨ i.kind=S "temp"
 plain:i.kind≠S "perm" → i.slot=0∧i.uns=false
 uns:i.kind=S "perm" → i.uns=decide (i.first=S "goal_arg")
inductive T_check_variable (args:List AV) (Q:AV→AH→Prop) (σ:AH):Prop
 | mk (kx ga pl x:Addr) (K:Ker) (k:Nat) (os:List Oc) (i:Info):(args=[.obj 52 kx,.int k,.ref pl,.obj 87 x])→(KerAt σ kx ga K)→(K.Ok)→(os≠[])→(os.length≤100000)→(σ pl=some (.list (os.map plT)))→(σ x=some (.attrs 87 i.fs))→(∀ (r:Bool) (σ':AH),(r=true↔VarOk K k os i)→Ext [] σ σ'→Q (.bool r) σ')→T_check_variable  args Q σ
noncomputable def t_check_variable:Tr:=T_check_variable
theorem biW_max {σ:AH} {a:Addr} {R:AV→AH→Prop} {i:Int} {r:List Int} (h:σ a=some (.list ((i::r).map .int))) (k:R (.int (r.foldl max i)) σ):biW .max [.ref a] R σ:=by
 exact intsAt_of (items_list h) (intsOf_ints _) k
theorem not_f {b:Bool} (h:(!b)=false):b=true:=by cases b <;> first | rfl | injection h
theorem ne_dec {p:Prop} [Decidable p] (h:¬ p):(!decide p)=true:=by rw [decide_eq_false h];rfl
theorem eq_dec {p:Prop} [Decidable p] (h:p):(!decide p)=false:=by rw [decide_eq_true h];rfl
theorem vc_check_variable (Γ:Gam) (hcc:Γ.fn (S "crosses_call")=some t_crosses_call) (hfw:Γ.fn (S "first_word")=some t_first_word):VC Γ b_check_variable 4 5 t_check_variable:=by
 rintro args Q σ ⟨kx,ga,pl,x,K,k,os,i,rfl,hK,hOk,hne,hlen,hpl,hx,hQ⟩
 refine ⟨rfl,?_⟩
 obtain ⟨o,os',rfl⟩:∃ o os',os=o::os':=by
  cases os with
  | nil=>exact absurd rfl hne
  | cons o os'=>exact ⟨o,os',rfl⟩
 have no:∀ {m:Env'} {b b':PS} {σ':AH} {C:AFl→Env'→AH→Prop},¬ VarOk K k (o::os') i→Ext [] σ σ'→(∀ v,C (.ret v) m σ'=Q v σ')→pwpS Γ (.seq (.ret (.lit (.bool false))) b) C m σ':=fun h x e=>s_ret (v:=.bool false) rfl (by rw [e];exact hQ false _ ⟨fun q=>(nomatch q),fun q=>absurd q h⟩ x)
 refine s_asgX (e_call hcc (es_ev (v:=.obj 52 kx) rfl (es_ev (v:=.ref pl) rfl (es_nil ⟨kx,ga,pl,K,o::os',rfl,hK,hOk,hpl,?_⟩))))
 refine s_ifX (b_bop (b_cons ?_))
 by_cases c1:i.var=(k:Int)
 case neg=>exact evB_w (b:=true) (xb_cmp (x_attr rfl hx rfl) rfl (congrArg some (ne_dec c1))) ((if_neg (by decide)).mpr ((if_pos rfl).mpr (no (b':=.nop) (fun h=>c1 h.var) (Ext.refl _ _) fun _=>rfl)))
 refine evB_w (b:=false) (xb_cmp (x_attr rfl hx rfl) rfl (congrArg some (eq_dec c1))) ((if_pos rfl).mpr (b_cons (b_cmp (ev_w (x_attr rfl hx rfl) (e_call hfw (es_ev (v:=.ref pl) rfl (es_nil ⟨pl,o,os',rfl,hpl,?_⟩)))))))
 by_cases c2:i.first=(bestO o (o::os')).word
 case neg=>refine som_of (x:=true) (congrArg some (ne_dec c2)) ?_;exact ((if_neg (by decide)).mpr ((if_pos rfl).mpr (no (b':=.nop) (fun h=>c2 h.first) (Ext.refl _ _) fun _=>rfl)))
 refine som_of (x:=false) (congrArg some (eq_dec c2)) ?_
 refine ((if_pos rfl).mpr (b_nil ((if_neg (by decide)).mpr (s_end ?_))))
 refine s_ifX (b_cmp (ev_w (x_attr rfl hx rfl) (e_bi (es_cons (e_compP (f:=plT) (g:=fun o=>.int o.at') (p:=fun _=>true) (all:=o::os') (v:=.ref pl) rfl (items_list hpl) (Nat.le_trans hlen (by decide)) (fun _ _=>rfl) (fun p _=>x_idxT (xs:=[.int p.at',.str p.word]) (k:=0) rfl rfl rfl) fun r hr=>es_nil ?_)))))
 have hmx:(((o::os').filter fun _=>true).map fun o=>AV.int o.at')=(o.at'::os'.map (·.at')).map AV.int:=by
  rw [List.filter_eq_self.mpr (fun _ _=>rfl),List.map_cons,List.map_cons,List.map_map]
  rfl
 rw [hmx]
 have xr:Ext [] σ (σ.set r (.list ((o.at'::os'.map (·.at')).map AV.int))):=(Ext.refl [] _).updN hr _
 have hx':=xr.get hx
 have hpl':=xr.get hpl
 refine biW_max (set_same _ _ _) ?_
 generalize σ.set r (.list ((o.at'::os'.map (·.at')).map AV.int))=σ1 at xr hx' hpl'
 by_cases c3:i.last=maxL (o::os')
 case neg=>refine som_of (x:=true) (congrArg some (ne_dec c3)) ?_;exact ((if_pos rfl).mpr (no (b':=.nop) (fun h=>c3 h.last) xr fun _=>rfl))
 refine som_of (x:=false) (congrArg some (eq_dec c3)) ?_
 refine ((if_neg (by decide)).mpr (s_end ?_))
 refine s_if (xb_cmp (x_cmp (x_attr rfl hx' rfl) rfl rfl) (x_cmp (x_lenL rfl hpl') rfl rfl) rfl) (fun q=>?_) (fun q=>s_end ?_)
 · refine no (b':=.nop) (fun h=>?_) xr fun _=>rfl
   have h1:=h.void
   rw [List.length_map] at q
   have h2:decide (((o::os').length:Int)=1)=decide ((o::os').length=1):=decide_eq_decide.mpr (by lia)
   rw [h2,h1] at q
   simp at q
 have c4:decide (i.kind=S "void")=decide ((o::os').length=1):=by
  rw [List.length_map] at q
  have h2:decide (((o::os').length:Int)=1)=decide ((o::os').length=1):=decide_eq_decide.mpr (by lia)
  rw [h2] at q
  exact of_decide_eq_true (not_f q)
 refine s_if (xb_cmp (x_cmp (x_attr rfl hx' rfl) rfl rfl) (show ev _ _ (.var 4)=some (.bool (crossB K (o::os'))) from rfl) rfl) (fun q=>no (b':=.nop) (fun h=>?_) xr fun _=>rfl) (fun q=>s_end ?_)
 · rw [h.perm] at q
   simp at q
 have c5:decide (i.kind=S "perm")=crossB K (o::os'):=of_decide_eq_true (not_f q)
 refine s_if (xb_cmp (x_attr rfl hx' rfl) (show ev _ _ _=some (.tup [.str (S "void"),.str (S "perm"),.str (S "temp")]) from rfl) rfl) (fun q=>no (b':=.nop) (fun h=>?_) xr fun _=>rfl) (fun q=>s_end ?_)
 · rcases h.kind with e | e | e <;> rw [e] at q <;> injection q
 have c6:i.kind=S "void" ∨ i.kind=S "perm" ∨ i.kind=S "temp" := by
  have q':(decide (S "void" = i.kind) || (decide (S "perm" = i.kind) || (decide (S "temp" = i.kind) || false)))=true:=not_f q
  rw [Bool.or_false,Bool.or_eq_true,Bool.or_eq_true] at q'
  rcases q' with q | q | q
  · exact .inl (of_decide_eq_true q).symm
  · exact .inr (.inl (of_decide_eq_true q).symm)
  · exact .inr (.inr (of_decide_eq_true q).symm)
 have uns':evB σ1 [some (.obj 52 kx),some (.int k),some (.ref pl),some (.obj 87 x),some (.bool (crossB K (o::os')))] (.attr (.var 3) (S "unsafe"))=some i.uns:=by
  show (ev σ1 _ (.attr (.var 3) (S "unsafe"))).bind (truthW σ1)=_
  rw [x_attr (C:=87) (dx:=x) rfl hx' rfl]
  rfl
 by_cases c7:i.kind=S "perm"
 · refine s_if (t:=false) (xb_all (xb_cmp (x_attr rfl hx' rfl) rfl rfl) (fun h=>absurd (h.symm.trans (eq_dec c7)) (by decide)) (fun _=>(eq_dec c7).symm)) (fun q=>nomatch q) (fun _=>s_end ?_)
   refine s_ret (v:=.bool (decide (i.uns=decide (i.first=S "goal_arg")))) ?_ (hQ _ _ ⟨fun h=>⟨c1,c2,c3,c4,c5,c6,fun h=>absurd c7 h,fun _=>of_decide_eq_true h⟩,fun h=>decide_eq_true (h.uns c7)⟩ xr)
   show (ev σ1 _ (.cmp .ne (.attr (.var 3) (S "kind")) (.lit (.str (S "perm"))))).bind (fun v=>(truthW σ1 v).bind fun b=>if b=false then evOp σ1 _ false (.cons (.cmp .eq (.attr (.var 3) (S "unsafe")) (.cmp .eq (.attr (.var 3) (S "first")) (.lit (.str (S "goal_arg"))))) .nil) else some v)=_
   rw [x_cmp (o:=.ne) (x:=.str i.kind) (y:=.str (S "perm")) (r:=false) (x_attr (C:=87) (dx:=x) rfl hx' rfl) rfl (congrArg some (eq_dec c7))]
   exact x_cmp (x_attr (C:=87) (dx:=x) rfl hx' rfl) (x_cmp (x_attr (C:=87) (dx:=x) rfl hx' rfl) rfl rfl) rfl
 · refine s_if (t:=!decide (i.slot=0) || i.uns) (xb_all (b:=true) (xb_cmp (x_attr rfl hx' rfl) rfl (congrArg some (ne_dec c7))) (fun _=>xb_all (b:=!decide (i.slot=0) || i.uns) ?_ (fun h=>by rw [h];rfl) (fun _=>rfl)) (fun h=>absurd rfl h)) (fun q=>no (b':=.nop) (fun h=>?_) xr fun _=>rfl) (fun q=>s_end ?_)
   · show evAll σ1 _ false _=_
     refine xb_all (b:=!decide (i.slot=0)) (xb_cmp (x_attr rfl hx' rfl) rfl rfl) (fun h=>xb_all uns' (fun h2=>?_) (fun h2=>?_)) (fun h=>?_)
     · rw [h,h2];rfl
     · rw [h];rfl
     · rw [eq_true_of_ne_false h];rfl
   · obtain ⟨h1,h2⟩:=h.plain c7
     rw [h1,h2] at q
     injection q
   · rw [Bool.or_eq_false_iff] at q
     refine s_ret (v:=.bool true) ?_ (hQ _ _ ⟨fun _=>⟨c1,c2,c3,c4,c5,c6,fun _=>⟨of_decide_eq_true (not_f q.1),q.2⟩,fun h=>absurd h c7⟩,fun _=>rfl⟩ xr)
     show (ev σ1 _ (.cmp .ne (.attr (.var 3) (S "kind")) (.lit (.str (S "perm"))))).bind (fun v=>(truthW σ1 v).bind fun b=>if b=false then evOp σ1 _ false (.cons (.cmp .eq (.attr (.var 3) (S "unsafe")) (.cmp .eq (.attr (.var 3) (S "first")) (.lit (.str (S "goal_arg"))))) .nil) else some v)=_
     rw [x_cmp (o:=.ne) (x:=.str i.kind) (y:=.str (S "perm")) (r:=true) (x_attr (C:=87) (dx:=x) rfl hx' rfl) rfl (congrArg some (ne_dec c7))]
     rfl
noncomputable def cAt (P:PlanD) (i:Nat):Int:=(P.chunks[i]?).getD 0
noncomputable def lAt (P:PlanD) (i:Nat):Int:=(P.live[i]?).getD 0
structure GoalOk (K:Ker) (P:PlanD) (ks:List Nat) (L:List Oc) (i:Nat):Prop where
 ch:cAt P i=(callsIn (K.goals.take i):Nat)
 us:∀ k ∈ ks,(P.inf k).kind=S "perm" → gtA (occ L k) i=decide ((P.inf k).slot≤lAt P i)
 lo:0≤lAt P i∧lAt P i≤P.env
structure GoalsOk (K:Ker) (P:PlanD) (ks:List Nat) (L:List Oc):Prop where
 cl:P.chunks.length=K.goals.length
 ll:P.live.length=K.goals.length
 each:∀ i,i < K.goals.length→GoalOk K P ks L i
 ne:P.needs=K.goals.dropLast.any Gl.isCall
theorem ints_get {l:List Int} {i:Nat} (h:i < l.length):(l.map AV.int)[i]?=some (.int ((l[i]?).getD 0)):=by
 rw [List.getElem?_map,List.getElem?_eq_getElem h]
 rfl
theorem callsIn_step (K:Ker) {i:Nat} (hi:i < K.goals.length):callsIn (K.goals.take (i+1))=callsIn (K.goals.take i)+(if callAt K i=true then 1 else 0):=by
 rw [take_snoc hi,callsIn_snoc]
 unfold callAt
 rw [List.getElem?_eq_getElem hi]
theorem calls_step (K:Ker) {i:Nat} (hi:i < K.goals.length):(K.goals.dropLast.take (i+1)).any Gl.isCall=((K.goals.dropLast.take i).any Gl.isCall || (callAt K i && decide (i+1 < K.goals.length))):=by
 have h0:callAt K i=K.goals[i].isCall:=by unfold callAt;rw [List.getElem?_eq_getElem hi]
 rw [h0]
 by_cases q:i+1 < K.goals.length
 · have h1:i < K.goals.dropLast.length:=by rw [List.length_dropLast];omega
   rw [take_snoc h1,List.any_append,List.getElem_dropLast]
   simp [q]
 · have h1:K.goals.dropLast.length≤i:=by rw [List.length_dropLast];omega
   rw [List.take_of_length_le (Nat.le_succ_of_le h1),List.take_of_length_le h1]
   simp [q]
inductive T_check_goals (args:List AV) (Q:AV→AH→Prop) (σ:AH):Prop
 | mk (kx ga p D c l Dp:Addr) (K:Ker) (ep:Nat) (ad adp:Nat→Addr) (P:PlanD) (ks:List Nat) (L:List Oc):(args=[.obj 52 kx,.obj 143 p,.ref Dp])→(KerAt σ kx ga K)→(K.Ok)→(PlanAt σ p D c l ep ad P)→(PlcAt σ Dp adp ks L)→((∀ k ∈ ks,k ∈ P.ks))→(∀ (r:Bool),(r=true↔GoalsOk K P ks L)→Q (.bool r) σ)→T_check_goals  args Q σ
noncomputable def t_check_goals:Tr:=T_check_goals
theorem vc_check_goals (Γ:Gam):VC Γ b_check_goals 3 12 t_check_goals:=by
 rintro args Q σ ⟨kx,ga,p,D,c,l,Dp,K,ep,ad,adp,P,ks,L,rfl,hK,hOk,hp,hPl,hks,hQ⟩
 refine ⟨rfl,?_⟩
 obtain ⟨f,hf⟩:=hK.o
 obtain ⟨ep2,hd⟩:=hPl.d
 have hgl:=hOk.goalsLen
 have no:¬ GoalsOk K P ks L→Q (.bool false) σ:=fun h=>hQ false ⟨fun q=>(nomatch q),fun q=>absurd q h⟩
 refine s_asg (v:=.ref ga) (x_attr rfl hf rfl) ?_
 refine s_if (t:=(!decide ((P.chunks.length:Int)=K.goals.length)) || !decide ((P.live.length:Int)=K.goals.length)) ?_ (fun q=>s_ret (v:=.bool false) rfl (no fun h=>?_)) (fun q=>s_end ?_)
 · refine xb_all (b:=!decide ((P.chunks.length:Int)=K.goals.length)) (xb_cmp (x_lenL (x_attr rfl hp.o rfl) hp.hc) (x_lenL rfl hK.g) (by rw [List.length_map,List.length_map];rfl)) (fun h=>xb_all (b:=!decide ((P.live.length:Int)=K.goals.length)) (xb_cmp (x_lenL (x_attr rfl hp.o rfl) hp.hl) (x_lenL rfl hK.g) (by rw [List.length_map,List.length_map];rfl)) (fun h2=>?_) (fun h2=>?_)) (fun h=>?_)
   · rw [h,h2];rfl
   · rw [h];rfl
   · rw [eq_true_of_ne_false h];rfl
 · rw [h.cl,h.ll] at q
   simp at q
 rw [Bool.or_eq_false_iff] at q
 have cl:P.chunks.length=K.goals.length:=Int.ofNat_inj.mp (of_decide_eq_true (not_f q.1))
 have ll:P.live.length=K.goals.length:=Int.ofNat_inj.mp (of_decide_eq_true (not_f q.2))
 refine s_asg (v:=.bool false) rfl ?_
 have hrl:ev σ [some (.obj 52 kx),some (.obj 143 p),some (.ref Dp),some (.ref ga),some (.bool false),none,none,none,none,none,none,none] (.bi .len (.cons (.var 3) .nil))=some (.int (K.goals.length:Nat)):=by
  rw [x_lenL (a:=ga) rfl hK.g,List.length_map]
 refine s_forX (ev_w (x_rng hrl (Nat.le_trans hgl (by decide))) (forK_rng (fun i m' σ'=>EI7_2 (fun (x5 x6 x7 x8 x9 x10 x11:Option AV) m'=>m'=[some (.obj 52 kx),some (.obj 143 p),some (.ref Dp),some (.ref ga),some (.bool ((K.goals.dropLast.take i).any Gl.isCall)),x5,x6,x7,x8,x9,x10,x11]) (fun (x5 x6 x7 x8 x9 x10 x11:Option AV) σ'=>σ'=σ) (fun (x5 x6 x7 x8 x9 x10 x11:Option AV) σ'=>∀ j,j < i→GoalOk K P ks L j) m' σ') ⟨_,_,_,_,_,_,_,rfl,rfl,fun j h=>absurd h (Nat.not_lt_zero _)⟩ ?_ ?_))
 · rintro i m' σ' C hi ⟨x5,x6,x7,x8,x9,x10,x11,rfl,rfl,a1⟩ hC hR
   have noC:∀ {m:Env'},¬ GoalOk K P ks L i→C (.ret (.bool false)) m σ':=fun h=>hR _ _ _ (no fun q=>h (q.each i hi))
   refine s_asg (v:=.int 0) rfl ?_
   refine s_forX (ev_w (x_rng (n:=i) rfl (by unfold LIM;lia)) (forK_rng (fun b m'' σ''=>EI1_1 (fun (x7:Option AV) m''=>m''=[some (.obj 52 kx),some (.obj 143 p),some (.ref Dp),some (.ref ga),some (.bool ((K.goals.dropLast.take i).any Gl.isCall)),some (.int i),some (.int (callsIn (K.goals.take b):Nat)),x7,x8,x9,x10,x11]) (fun (x7:Option AV) σ''=>σ''=σ') m'' σ'') ⟨_,rfl,rfl⟩ ?_ ?_))
   · rintro b m'' σ'' C' hb ⟨x7,rfl,rfl⟩ hC' _
     have hbn:b < K.goals.length:=Nat.lt_trans hb hi
     have hst:=callsIn_step K hbn
     refine s_if (t:=callAt K b) (call_at hK hOk hbn rfl rfl) (fun q=>?_) (fun q=>?_)
     · rw [if_pos q] at hst
       refine s_augV (x:=(callsIn (K.goals.take b):Nat)) (y:=1) rfl rfl rfl (.inl rfl) (s_end (s_nop (hC' _ _ ⟨some (.int b),?_,rfl⟩)))
       rw [hst]
       rfl
     · rw [if_neg (by rw [q];decide)] at hst
       exact s_end (s_nop (hC' _ _ ⟨_,by rw [hst];rfl,rfl⟩))
   rintro m'' σ'' ⟨x7,rfl,rfl⟩
   have hci:(P.chunks.map AV.int)[i]?=some (.int (cAt P i)):=ints_get (by lia)
   have hli:(P.live.map AV.int)[i]?=some (.int (lAt P i)):=ints_get (by lia)
   refine s_if (t:=!decide (cAt P i=(callsIn (K.goals.take i):Nat))) (xb_cmp (x_idxL (x_attr rfl hp.o rfl) hp.hc rfl ((pyIdx_of rfl).trans hci)) rfl rfl) (fun q=>s_ret (v:=.bool false) rfl (noC fun h=>?_)) (fun q=>s_end ?_)
   · rw [h.ch] at q
     simp at q
   have c1:cAt P i=(callsIn (K.goals.take i):Nat):=of_decide_eq_true (not_f q)
   have hnl:cmpW .ne σ'' (.int i) (.int (((K.goals.map encG).length:Nat) - 1))=some (decide (i+1 < K.goals.length)):=by
    show some (!decide ((i:Int)=(((K.goals.map encG).length:Nat) - 1)))=_
    rw [List.length_map,← decide_not]
    congr 1
    exact decide_eq_decide.mpr (by lia)
   have hflag:=calls_step K hi
   have rest:pwpS Γ (.seq (.forS [8] true false (.var 2)
    (.seq (.asg 9 (.idx (.attr (.var 1) (S "infos")) (.var 8))) <|
    (.seq (.ifS (.cmp .eq (.attr (.var 9) (S "kind")) (.lit (.str (S "perm"))))
     (.seq (.asg 10 (.lit (.bool false))) <|
     (.seq (.forS [11] true false (.idx (.var 2) (.var 8))
      (.seq (.ifS (.cmp .gt (.idx (.var 11) (.lit (.int (0)))) (.var 5))
       (.seq (.asg 10 (.lit (.bool true))) <|
       .nop)
       .nop) <|
      .nop)) <|
     (.seq (.ifS (.cmp .ne (.var 10) (.cmp .le (.attr (.var 9) (S "slot")) (.idx (.attr (.var 1) (S "live_after")) (.var 5))))
      (.seq (.ret (.lit (.bool false))) <|
      .nop)
      .nop) <|
     .nop)))
     .nop) <|
    .nop))) <|
    (.seq (.ifS (.bop false (.cons (.cmp .lt (.idx (.attr (.var 1) (S "live_after")) (.var 5)) (.lit (.int (0)))) (.cons (.cmp .gt (.idx (.attr (.var 1) (S "live_after")) (.var 5)) (.attr (.var 1) (S "env_size"))) .nil)))
     (.seq (.ret (.lit (.bool false))) <|
     .nop)
     .nop) <|
    .nop)) C [some (.obj 52 kx),some (.obj 143 p),some (.ref Dp),some (.ref ga),some (.bool ((K.goals.dropLast.take (i+1)).any Gl.isCall)),some (.int i),some (.int (callsIn (K.goals.take i):Nat)),x7,x8,x9,x10,x11] σ'':=by
     refine s_forX (ev_w (v:=.ref Dp) rfl (forK_one (f:=fun (n:Nat)=>AV.int (n:Int)) (all:=ks) (fun pre m3 σ3=>EI4_2 (fun (x8 x9 x10 x11:Option AV) m3=>m3=[some (.obj 52 kx),some (.obj 143 p),some (.ref Dp),some (.ref ga),some (.bool ((K.goals.dropLast.take (i+1)).any Gl.isCall)),some (.int i),some (.int (callsIn (K.goals.take i):Nat)),x7,x8,x9,x10,x11]) (fun (x8 x9 x10 x11:Option AV) σ3=>σ3=σ'') (fun (x8 x9 x10 x11:Option AV) σ3=>∀ k ∈ pre,(P.inf k).kind=S "perm" → gtA (occ L k) i=decide ((P.inf k).slot≤lAt P i)) m3 σ3) (items_kvs hd) ⟨_,_,_,_,rfl,rfl,fun k h=>(nomatch h)⟩ ?_ ?_ ?_))
     · rintro pre m3 σ3 ⟨_,_,_,_,_,rfl,_⟩
       exact sameSrc_dict hd hd rfl
     · rintro pre k post m3 σ3 C3 e ⟨y8,y9,y10,y11,rfl,rfl,b1⟩ hC3 hR3
       have hk:k ∈ ks:=by rw [e];simp
       have hkp:=hks k hk
       have hi1:=hp.a.i k hkp
       refine s_asg (v:=.obj 87 (ad k)) (x_idxD (x_attr rfl hp.o rfl) hp.a.d rfl (kvs_lookup hkp)) ?_
       have next:((P.inf k).kind=S "perm" → gtA (occ L k) i=decide ((P.inf k).slot≤lAt P i))→∀ j ∈ pre++[k],(P.inf j).kind=S "perm" → gtA (occ L j) i=decide ((P.inf j).slot≤lAt P i):=fun h j hj=>by
        rcases List.mem_append.mp hj with q | q
        · exact b1 j q
        · rw [List.mem_singleton.mp q];exact h
       refine s_if (t:=decide ((P.inf k).kind=S "perm")) (xb_cmp (x_attr rfl hi1 rfl) rfl rfl) (fun q=>?_) (fun q=>s_end (s_nop (hC3 _ _ ⟨_,_,_,_,rfl,rfl,next fun h=>absurd h (of_decide_eq_false q)⟩)))
       refine s_asg (v:=.bool false) rfl ?_
       refine s_forX (ev_w (x_idxD rfl hd rfl (kvs_lookup hk)) (forK_one (f:=plT) (all:=occ L k) (fun pre' m4 σ4=>EI1_1 (fun (x11:Option AV) m4=>m4=[some (.obj 52 kx),some (.obj 143 p),some (.ref Dp),some (.ref ga),some (.bool ((K.goals.dropLast.take (i+1)).any Gl.isCall)),some (.int i),some (.int (callsIn (K.goals.take i):Nat)),x7,some (.int k),some (.obj 87 (ad k)),some (.bool (gtA pre' i)),x11]) (fun (x11:Option AV) σ4=>σ4=σ3) m4 σ4) (items_list (hPl.i k hk)) ⟨_,rfl,rfl⟩ ?_ ?_ ?_))
       · rintro pre' m4 σ4 ⟨_,_,rfl⟩
         exact sameSrc_list (hPl.i k hk) (hPl.i k hk)
       · rintro pre' o post' m4 σ4 C4 e4 ⟨z11,rfl,rfl⟩ hC4 _
         have h2:gtA (pre'++[o]) i=(gtA pre' i || decide ((i:Int) < o.at')):=by unfold gtA;rw [List.any_append,List.any_cons,List.any_nil,Bool.or_false]
         refine s_if (t:=decide ((i:Int) < o.at')) (xb_cmp (x_idxT (xs:=[.int o.at',.str o.word]) (k:=0) rfl rfl rfl) rfl rfl) (fun q=>?_) (fun q=>?_)
         · rw [q,Bool.or_true] at h2
           exact s_asg (v:=.bool true) rfl (s_end (s_nop (hC4 _ _ ⟨_,by rw [h2];rfl,rfl⟩)))
         · rw [q,Bool.or_false] at h2
           exact s_end (s_nop (hC4 _ _ ⟨_,by rw [h2];rfl,rfl⟩))
       · rintro m4 σ4 ⟨z11,rfl,rfl⟩
         refine s_if (t:=!decide (gtA (occ L k) i=decide ((P.inf k).slot≤lAt P i))) (xb_cmp rfl (x_cmp (x_attr rfl hi1 rfl) (x_idxL (x_attr rfl hp.o rfl) hp.hl rfl ((pyIdx_of rfl).trans hli)) rfl) rfl) (fun q'=>s_ret (v:=.bool false) rfl (hR3 _ _ _ (noC fun h=>?_))) (fun q'=>s_end (s_end (s_nop (hC3 _ _ ⟨_,_,_,_,rfl,rfl,next fun _=>of_decide_eq_true (not_f q')⟩))))
         rw [h.us k hk (of_decide_eq_true q)] at q'
         simp at q'
     · rintro m3 σ3 ⟨y8,y9,y10,y11,rfl,rfl,b1⟩
       have hlx:=x_idxL (m:=[some (.obj 52 kx),some (.obj 143 p),some (.ref Dp),some (.ref ga),some (.bool ((K.goals.dropLast.take (i+1)).any Gl.isCall)),some (.int i),some (.int (callsIn (K.goals.take i):Nat)),x7,y8,y9,y10,y11]) (e:=.attr (.var 1) (S "live_after")) (i:=.var 5) (x_attr rfl hp.o rfl) hp.hl rfl ((pyIdx_of rfl).trans hli)
       refine s_if (t:=decide (lAt P i < 0) || decide (P.env < lAt P i)) (xb_all (b:=decide (lAt P i < 0)) (xb_cmp hlx rfl rfl) (fun h=>xb_all (b:=decide (P.env < lAt P i)) (xb_cmp hlx (x_attr rfl hp.o rfl) rfl) (fun h2=>?_) (fun h2=>?_)) (fun h=>?_)) (fun q=>s_ret (v:=.bool false) rfl (noC fun h=>?_)) (fun q=>s_end (s_nop (hC _ _ ⟨_,_,_,_,_,_,_,rfl,rfl,fun j hj=>?_⟩)))
       · rw [h,h2];rfl
       · rw [h];rfl
       · rw [eq_true_of_ne_false h];rfl
       · have h1:=h.lo
         rw [Bool.or_eq_true] at q
         rcases q with q | q
         · have:=of_decide_eq_true q;lia
         · have:=of_decide_eq_true q;lia
       · by_cases c:j < i
         · exact a1 j c
         · have:j=i:=by lia
           subst this
           rw [Bool.or_eq_false_iff] at q
           have h1:=of_decide_eq_false q.1
           have h2:=of_decide_eq_false q.2
           exact ⟨c1,b1,by lia,by lia⟩
   refine s_if (t:=callAt K i && decide (i+1 < K.goals.length)) (xb_all (b:=callAt K i) (call_at hK hOk hi rfl rfl) (fun h=>xb_all (b:=decide (i+1 < K.goals.length)) (xb_cmp rfl (x_bin (x_lenL rfl hK.g) rfl rfl) hnl) (fun h2=>?_) (fun h2=>?_)) (fun h=>?_)) (fun q=>?_) (fun q=>?_)
   · rw [h,h2];rfl
   · rw [h];rfl
   · rw [eq_false_of_ne_true h];rfl
   · rw [q,Bool.or_true] at hflag
     rw [hflag] at rest
     exact s_asg (v:=.bool true) rfl (s_end rest)
   · rw [q,Bool.or_false] at hflag
     rw [hflag] at rest
     exact s_end rest
 · rintro m' σ' ⟨x5,x6,x7,x8,x9,x10,x11,rfl,rfl,a1⟩
   rw [List.take_of_length_le (by rw [List.length_dropLast];lia)]
   refine s_ret (v:=.bool (decide (P.needs=K.goals.dropLast.any Gl.isCall))) (x_cmp (x_attr rfl hp.o rfl) rfl rfl) (hQ _ ⟨fun h=>⟨cl,ll,a1,of_decide_eq_true h⟩,fun h=>decide_eq_true h.ne⟩)
theorem ints_inj:∀ {a b:List Int},a.map AV.int=b.map AV.int→a=b
 | [],[],_=>rfl
 | [],_::_,h=>nomatch h
 | _::_,[],h=>nomatch h
 | x::a,y::b,h=>by
  injection h with h1 h2
  injection h1 with h1
  rw [h1,ints_inj h2]
theorem listsEq_ints (a b:List Int):listsEq (a.map .int) (b.map .int)=some (decide (a=b)):=by
 unfold listsEq
 rw [intsOf_ints,intsOf_ints,List.length_map,List.length_map]
 by_cases h:a.length=b.length
 · rw [if_neg (fun q=>q h)];rfl
 · rw [if_pos h,decide_eq_false fun q=>h (by rw [q])]
theorem eqW_ints {σ:AH} {r s:Addr} {a b:List Int} (h1:σ r=some (.list (a.map .int))) (h2:σ s=some (.list (b.map .int))):eqW σ (.ref r) (.ref s)=some (decide (a=b)):=by
 show (((σ r).bind listO).bind fun xs=>((σ s).bind listO).bind fun ys=>listsEq xs ys)=_
 rw [h1,h2]
 exact listsEq_ints a b
theorem biW_sorted {σ:AH} {a:Addr} {R:AV→AH→Prop} {is:List Int} (h:σ a=some (.list (is.map .int))) (hl:is.length < 64) (k:∀ r,σ r=none→R (.ref r) (σ.set r (.list ((sortI is).map .int)))):biW .sorted [.ref a] R σ:=by
 exact intsAt_of (items_list h) (intsOf_ints _) ⟨hl,k⟩
theorem x_rng2 {σ:AH} {m:Env'} {e1 e2:PE} {i j:Int} (h1:ev σ m e1=some (.int i)) (h2:ev σ m e2=some (.int j)) (hi:-LIM≤i∧i≤LIM∧-LIM≤j∧j≤LIM):ev σ m (.bi .range (.cons e1 (.cons e2 .nil)))=some (.rng i j):=by
 show ((evs σ m (.cons e1 (.cons e2 .nil))).bind fun vs=>bifV .range vs σ)=_
 rw [xs_cons h1 (xs_cons h2 xs_nil)]
 exact if_pos hi
noncomputable def ints1 (n:Nat):List Int:=(List.range n).map fun (i:Nat)=>(1+(i:Int))
theorem e_list1n {Γ:Gam} {σ:AH} {m:Env'} {R:AV→AH→Prop} {e:PE} {n:Nat} {lo hi:Int} (h:ev σ m e=some (.rng lo hi)) (hl:lo=1) (hh:hi=n+1) (hn:n≤LIM) (k:∀ r,σ r=none→R (.ref r) (σ.set r (.list ((ints1 n).map .int)))):pwpE Γ (.bi .list (.cons e .nil)) m R σ:=by
 subst hl hh
 refine e_bi (es_ev h (es_nil ?_))
 have e1:((n:Int)+1 - 1).toNat=n:=by lia
 show _∧freshW _ _ _
 rw [e1]
 refine ⟨hn,?_⟩
 have e2:(List.range n).map (fun (i:Nat)=>AV.int (1+(i:Int)))=(ints1 n).map .int:=by
  unfold ints1
  rw [List.map_map]
  rfl
 rw [e2]
 exact k
noncomputable def permK (P:PlanD) (ks:List Nat):List Nat:=ks.filter fun k=>decide ((P.inf k).kind=S "perm")
noncomputable def Bad (i j:Info):Prop:=(j.last < i.last∧j.slot < i.slot)∨(i.last=j.last∧i.var < j.var∧j.slot < i.slot)
structure PlanOk (K:Ker) (P:PlanD) (ks:List Nat):Prop where
 keys:sortI (natsI ks)=sortI (natsI P.ks)
 vars:∀ k ∈ ks,VarOk K k (occ (plL K) k) (P.inf k)
 env:P.env=((permK P ks).length:Nat)
 slots:sortI ((permK P ks).map fun k=>(P.inf k).slot)=ints1 (permK P ks).length
 ord:∀ a ∈ permK P ks,∀ b ∈ permK P ks,¬ Bad (P.inf a) (P.inf b)
 goals:GoalsOk K P ks (plL K)
inductive T_check_plan (args:List AV) (Q:AV→AH→Prop) (σ:AH):Prop
 | mk (kx ga p D c l:Addr) (K:Ker) (ep:Nat) (ad:Nat→Addr) (P:PlanD):(args=[.obj 52 kx,.obj 143 p])→(KerAt σ kx ga K)→(K.Ok)→(PlanAt σ p D c l ep ad P)→(P.ks.length < 64)→(∀ (r:Bool) (ks:List Nat) (σ':AH),ks.Nodup→(∀ k,k ∈ ks↔k < K.count)→(r=true↔PlanOk K P ks)→Ext [] σ σ'→Q (.bool r) σ')→T_check_plan  args Q σ
noncomputable def t_check_plan:Tr:=T_check_plan
theorem vc_check_plan (Γ:Gam) (hpo:Γ.fn (S "places_of")=some t_places_of) (hcv:Γ.fn (S "check_variable")=some t_check_variable) (hcg:Γ.fn (S "check_goals")=some t_check_goals):VC Γ b_check_plan 2 7 t_check_plan:=by
 rintro args Q σ ⟨kx,ga,p,D,c,l,K,ep,ad,P,rfl,hK,hOk,hp,hPl63,hQ⟩
 refine ⟨rfl,?_⟩
 refine s_asgX (e_call hpo (es_ev (v:=.obj 52 kx) rfl (es_nil ⟨kx,ga,K,rfl,hK,hOk,fun Dp adp ks σ1 x1 hPl=>?_⟩)))
 have hmem:∀ k,k ∈ ks↔k < K.count:=fun k=>by
  rw [hPl.mem k,occ_ne]
  exact ⟨fun ⟨o,ho,e⟩=>e ▸ hOk.below o ((plL_perm K).mem_iff.mp ho),fun h=>by
   obtain ⟨o,ho,e⟩:=hOk.all k h
   exact ⟨o,(plL_perm K).mem_iff.mpr ho,e⟩⟩
 have hklen:ks.length < 64:=by rw [(range_perm hPl.nd hmem).length_eq,List.length_range];exact hOk.count
 have no:∀ {m:Env'} {b b':PS} {σ':AH} {C:AFl→Env'→AH→Prop},¬ PlanOk K P ks→Ext [] σ σ'→(∀ v,Q v σ'→C (.ret v) m σ')→pwpS Γ (.seq (.ret (.lit (.bool false))) b) C m σ':=fun h x e=>s_ret (v:=.bool false) rfl (e _ (hQ false ks _ hPl.nd hmem ⟨fun q=>(nomatch q),fun q=>absurd q h⟩ x))
 obtain ⟨ep2,hd⟩:=hPl.d
 have hp1:=hp.mono x1
 refine s_ifX (b_cmp (e_sorted (is:=natsI ks) rfl (items_kvs hd) (intsOf_nats ks) (by unfold natsI;rw [List.length_map];exact hklen) fun r1 hr1=>?_))
 have x2:Ext [] σ1 (σ1.set r1 (.list ((sortI (natsI ks)).map .int))):=(Ext.refl [] _).updN hr1 _
 have hp2:=hp1.mono x2
 refine e_sorted (is:=natsI P.ks) (x_attr rfl hp2.o rfl) (items_kvs hp2.a.d) (intsOf_nats P.ks) (by unfold natsI;rw [List.length_map];exact hPl63) fun r2 hr2=>?_
 have x3:=x2.updN (x2.none hr2) (.list ((sortI (natsI P.ks)).map .int))
 refine som_of (x:=!decide (sortI (natsI ks)=sortI (natsI P.ks))) (congrArg (Option.map (!·)) (eqW_ints ((set_ne _ _ (ne_of (set_same _ _ _) hr2)).trans (set_same _ _ _)) (set_same _ _ _))) ?_
 have hd3:=x3.get hd
 have hp3:=hp1.mono x3
 have hP3:=hPl.mono x3
 have x13:=x1.trans x3
 generalize (σ1.set r1 (.list ((sortI (natsI ks)).map .int))).set r2 (.list ((sortI (natsI P.ks)).map .int))=σ3 at *
 by_cases c1:sortI (natsI ks)=sortI (natsI P.ks)
 case neg=>exact (if_pos (ne_dec c1)).mpr (no (b':=.nop) (fun h=>c1 h.keys) x13 fun _ h=>h)
 refine (if_neg (by rw [eq_dec c1];decide)).mpr (s_end ?_)
 have hks:∀ k ∈ ks,k ∈ P.ks:=fun k hk=>by
  have h1:(k:Int) ∈ natsI ks:=List.mem_map_of_mem hk
  have h2:=(sort_perm (natsI P.ks)).mem_iff.mp (c1 ▸ (sort_perm (natsI ks)).mem_iff.mpr h1)
  obtain ⟨j,hj,e⟩:=List.mem_map.mp h2
  have:j=k:=by lia
  exact this ▸ hj
 refine s_asgX (e_list0 fun pr hpr=>?_)
 have base:∀ {σ':AH},Ext [] σ3 σ'→PlanAt σ' p D c l ep ad P∧PlcAt σ' Dp adp ks (plL K)∧KerAt σ' kx ga K∧Ext [] σ σ':=fun x=>⟨hp3.mono x,hP3.mono x,hK.mono (x13.trans x),x13.trans x⟩
 refine s_forX (ev_w (v:=.ref Dp) rfl (forK_one (f:=fun (n:Nat)=>AV.int (n:Int)) (all:=ks) (fun pre m' σ'=>EI1_3 (fun (x4:Option AV) m'=>m'=[some (.obj 52 kx),some (.obj 143 p),some (.ref Dp),some (.ref pr),x4,none,none]) (fun (x4:Option AV) σ'=>Ext [] σ3 σ') (fun (x4:Option AV) σ'=>σ' pr=some (.list ((permK P pre).map fun k=>.obj 87 (ad k)))) (fun (x4:Option AV) σ'=>∀ k ∈ pre,VarOk K k (occ (plL K) k) (P.inf k)) m' σ') (items_kvs ((set_ne _ _ (ne_of hd3 hpr)).trans hd3)) ⟨_,rfl,(Ext.refl [] _).updN hpr _,set_same _ _ _,fun k h=>(nomatch h)⟩ ?_ ?_ ?_))
 · rintro pre m' σ' ⟨_,_,a1,_,_⟩
   exact sameSrc_dict ((set_ne _ _ (ne_of hd3 hpr)).trans hd3) (a1.get hd3) rfl
 · rintro pre k post m' σ' C e ⟨x4,rfl,a1,a2,a3⟩ hC hR
   have hk:k ∈ ks:=by rw [e];simp
   have hkp:=hks k hk
   obtain ⟨b1,b2,b3,b4⟩:=base a1
   have hocl:(occ (plL K) k).length≤100000:=Nat.le_trans (List.length_filter_le _ _) (pl_len hOk)
   refine s_ifX (b_not (b_call hcv (es_ev (v:=.obj 52 kx) rfl (es_ev (v:=.int k) rfl (es_ev (x_idxD rfl (a1.get hd3) rfl (kvs_lookup hk)) (es_ev (x_idxD (x_attr rfl b1.o rfl) b1.a.d rfl (kvs_lookup hkp)) (es_nil ?_)))))))
   refine ⟨kx,ga,adp k,ad k,K,k,occ (plL K) k,P.inf k,rfl,b3,hOk,(b2.mem k).mp hk,hocl,b2.i k hk,b1.a.i k hkp,fun r σ'' hr x4'=>som_of (x:=r) rfl ?_⟩
   obtain ⟨c1',c2',c3',c4'⟩:=base (a1.trans x4')
   cases r with
   | false=>exact (if_pos rfl).mpr (no (b':=.nop) (fun h=>nomatch hr.mpr (h.vars k hk)) c4' fun _ h=>hR _ _ _ h)
   | true=>
    refine (if_neg (by decide)).mpr (s_end ?_)
    have hv:=hr.mp rfl
    have next:∀ j ∈ pre++[k],VarOk K j (occ (plL K) j) (P.inf j):=fun j hj=>by
     rcases List.mem_append.mp hj with q | q
     · exact a3 j q
     · rw [List.mem_singleton.mp q];exact hv
    have hpk:∀ b,decide ((P.inf k).kind=S "perm")=b→permK P (pre++[k])=permK P pre++(if b=true then [k] else []):=fun b hb=>by
     unfold permK
     rw [List.filter_append,List.filter_cons,List.filter_nil,hb]
    have a2':=x4'.get a2
    have hinf:=x_idxD (m:=[some (.obj 52 kx),some (.obj 143 p),some (.ref Dp),some (.ref pr),some (.int k),none,none]) (e:=.attr (.var 1) (S "infos")) (i:=.var 4) (x_attr rfl c1'.o rfl) c1'.a.d rfl (kvs_lookup hkp)
    refine s_if (t:=decide ((P.inf k).kind=S "perm")) (xb_cmp (x_attr hinf (c1'.a.i k hkp) rfl) rfl rfl) (fun q=>?_) (fun q=>?_)
    · have hplen:(permK P pre).length≤64:=by
       have h1:(permK P pre).length≤pre.length:=List.length_filter_le _ _
       have h2:=congrArg List.length e
       rw [List.length_append] at h2
       lia
      refine s_expr (e_app rfl a2' hinf (by rw [List.length_map];unfold LIM;lia) (s_end (s_nop (hC _ _ ⟨_,rfl,(a1.trans x4').updN hpr _,?_,next⟩))))
      rw [set_same,hpk true q,if_pos rfl,List.map_append]
      rfl
    · refine s_end (s_nop (hC _ _ ⟨_,rfl,a1.trans x4',?_,next⟩))
      rw [hpk false q,if_neg (by decide),List.append_nil]
      exact a2'
 rintro m' σ4 ⟨x4,rfl,a1,a2,a3⟩
 obtain ⟨b1,b2,b3,b4⟩:=base a1
 have hpl:(permK P ks).length < 64:=Nat.lt_of_le_of_lt (List.length_filter_le _ _) hklen
 have hpm:∀ k ∈ permK P ks,k ∈ P.ks:=fun k hk=>hks k (List.mem_filter.mp hk).1
 refine s_if (t:=!decide (P.env=((permK P ks).length:Nat))) (xb_cmp (x_attr rfl b1.o rfl) (x_lenL rfl a2) (by rw [List.length_map];rfl)) (fun q=>no (b':=.nop) (fun h=>?_) b4 fun _ h=>h) (fun q=>s_end ?_)
 · rw [h.env] at q;simp at q
 have c2:P.env=((permK P ks).length:Nat):=of_decide_eq_true (not_f q)
 refine s_ifX (b_cmp (e_bi (es_cons (e_compP (f:=fun k=>.obj 87 (ad k)) (g:=fun k=>.int (P.inf k).slot) (p:=fun _=>true) (all:=permK P ks) (v:=.ref pr) rfl (items_list a2) (by unfold LIM;lia) (fun _ _=>rfl) (fun k hk=>x_attr rfl (b1.a.i k (hpm k hk)) rfl) fun s1 hs1=>es_nil (biW_sorted (is:=(permK P ks).map fun k=>(P.inf k).slot) ?_ (by rw [List.length_map];exact hpl) fun s2 hs2=>?_)))))
 · rw [set_same,List.filter_eq_self.mpr (fun _ _=>rfl),List.map_map]
   rfl
 have y1:Ext [] σ4 (σ4.set s1 (.list (((permK P ks).filter fun _=>true).map fun k=>.int (P.inf k).slot))):=(Ext.refl [] _).updN hs1 _
 have y2:=y1.updN (y1.none hs2) (.list ((sortI ((permK P ks).map fun k=>(P.inf k).slot)).map .int))
 have hlx:=x_lenL (m:=[some (.obj 52 kx),some (.obj 143 p),some (.ref Dp),some (.ref pr),x4,none,none]) (e:=.var 3) rfl (y2.get a2)
 refine e_list1n (n:=(permK P ks).length) (x_rng2 rfl (x_bin hlx rfl rfl) ?_) rfl (by rw [List.length_map]) (by unfold LIM;lia) fun s3 hs3=>?_
 · rw [List.length_map];unfold LIM;lia
 have y3:=y2.updN (y2.none hs3) (.list ((ints1 (permK P ks).length).map .int))
 refine som_of (x:=!decide (sortI ((permK P ks).map fun k=>(P.inf k).slot)=ints1 (permK P ks).length)) (congrArg (Option.map (!·)) (eqW_ints ((set_ne _ _ (ne_of (set_same _ _ _) hs3)).trans (set_same _ _ _)) (set_same _ _ _))) ?_
 obtain ⟨d1,d2,d3,d4⟩:=base (a1.trans y3)
 have a2':=y3.get a2
 generalize ((σ4.set s1 (.list (((permK P ks).filter fun _=>true).map fun k=>.int (P.inf k).slot))).set s2 (.list ((sortI ((permK P ks).map fun k=>(P.inf k).slot)).map .int))).set s3 (.list ((ints1 (permK P ks).length).map .int))=σ5 at *
 by_cases c3:sortI ((permK P ks).map fun k=>(P.inf k).slot)=ints1 (permK P ks).length
 case neg=>exact (if_pos (ne_dec c3)).mpr (no (b':=.nop) (fun h=>c3 h.slots) d4 fun _ h=>h)
 refine (if_neg (by rw [eq_dec c3];decide)).mpr (s_end ?_)
 refine s_forX (ev_w (v:=.ref pr) rfl (forK_one (f:=fun k=>.obj 87 (ad k)) (all:=permK P ks) (fun pre m' σ'=>EI2_2 (fun (x5 x6:Option AV) m'=>m'=[some (.obj 52 kx),some (.obj 143 p),some (.ref Dp),some (.ref pr),x4,x5,x6]) (fun (x5 x6:Option AV) σ'=>σ'=σ5) (fun (x5 x6:Option AV) σ'=>∀ a ∈ pre,∀ b ∈ permK P ks,¬ Bad (P.inf a) (P.inf b)) m' σ') (items_list a2') ⟨_,_,rfl,rfl,fun k h=>(nomatch h)⟩ ?_ ?_ ?_))
 · rintro pre m' σ' ⟨_,_,_,rfl,_⟩
   exact sameSrc_list a2' a2'
 · rintro pre a post m' σ' C e ⟨x5,x6,rfl,rfl,f1⟩ hC hR
   have ha:a ∈ permK P ks:=by rw [e];simp
   have hia:=d1.a.i a (hpm a ha)
   refine s_forX (ev_w (v:=.ref pr) rfl (forK_one (f:=fun k=>.obj 87 (ad k)) (all:=permK P ks) (fun pre' m'' σ''=>EI1_2 (fun (x6:Option AV) m''=>m''=[some (.obj 52 kx),some (.obj 143 p),some (.ref Dp),some (.ref pr),x4,some (.obj 87 (ad a)),x6]) (fun (x6:Option AV) σ''=>σ''=σ') (fun (x6:Option AV) σ''=>∀ b ∈ pre',¬ Bad (P.inf a) (P.inf b)) m'' σ'') (items_list a2') ⟨_,rfl,rfl,fun k h=>(nomatch h)⟩ ?_ ?_ ?_))
   · rintro pre m' σ' ⟨_,_,rfl,_⟩
     exact sameSrc_list a2' a2'
   · rintro pre' b post' m'' σ'' C' e' ⟨x6,rfl,rfl,f2⟩ hC' hR'
     have hb:b ∈ permK P ks:=by rw [e'];simp
     have hib:=d1.a.i b (hpm b hb)
     have bad:Bad (P.inf a) (P.inf b)→¬ PlanOk K P ks:=fun h q=>q.ord a ha b hb h
     refine s_if (t:=decide ((P.inf b).last < (P.inf a).last) && decide ((P.inf b).slot < (P.inf a).slot)) (xb_all (b:=decide ((P.inf b).last < (P.inf a).last)) (xb_cmp (x_attr rfl hia rfl) (x_attr rfl hib rfl) rfl) (fun h=>xb_all (b:=decide ((P.inf b).slot < (P.inf a).slot)) (xb_cmp (x_attr rfl hia rfl) (x_attr rfl hib rfl) rfl) (fun h2=>?_) (fun h2=>?_)) (fun h=>?_)) (fun q=>no (b':=.nop) (bad ?_) d4 fun _ h=>hR' _ _ _ (hR _ _ _ h)) (fun q=>s_end ?_)
     · rw [h,h2];rfl
     · rw [h];rfl
     · rw [eq_false_of_ne_true h];rfl
     · rw [Bool.and_eq_true] at q
       exact .inl ⟨of_decide_eq_true q.1,of_decide_eq_true q.2⟩
     refine s_if (t:=decide ((P.inf a).last=(P.inf b).last) && (decide ((P.inf a).var < (P.inf b).var) && decide ((P.inf b).slot < (P.inf a).slot))) (xb_all (b:=decide ((P.inf a).last=(P.inf b).last)) (xb_cmp (x_attr rfl hia rfl) (x_attr rfl hib rfl) rfl) (fun h=>xb_all (b:=decide ((P.inf a).var < (P.inf b).var)) (xb_cmp (x_attr rfl hia rfl) (x_attr rfl hib rfl) rfl) (fun h2=>xb_all (b:=decide ((P.inf b).slot < (P.inf a).slot)) (xb_cmp (x_attr rfl hia rfl) (x_attr rfl hib rfl) rfl) (fun h3=>?_) (fun h3=>?_)) (fun h2=>?_)) (fun h=>?_)) (fun q=>no (b':=.nop) (bad ?_) d4 fun _ h=>hR' _ _ _ (hR _ _ _ h)) (fun q2=>s_end (s_nop (hC' _ _ ⟨_,rfl,rfl,fun j hj=>?_⟩)))
     · rw [h,h2,h3];rfl
     · rw [h,h2];rfl
     · rw [h,eq_false_of_ne_true h2];rfl
     · rw [eq_false_of_ne_true h];rfl
     · rw [Bool.and_eq_true,Bool.and_eq_true] at q
       exact .inr ⟨of_decide_eq_true q.1,of_decide_eq_true q.2.1,of_decide_eq_true q.2.2⟩
     · rcases List.mem_append.mp hj with h | h
       · exact f2 j h
       · rw [List.mem_singleton.mp h]
         rintro (⟨h1,h2⟩ | ⟨h1,h2,h3⟩)
         · rw [decide_eq_true h1,decide_eq_true h2] at q;injection q
         · rw [decide_eq_true h1,decide_eq_true h2,decide_eq_true h3] at q2;injection q2
   · rintro m'' σ'' ⟨x6,rfl,rfl,f2⟩
     refine s_nop (hC _ _ ⟨_,_,rfl,rfl,fun j hj=>?_⟩)
     rcases List.mem_append.mp hj with h | h
     · exact f1 j h
     · rw [List.mem_singleton.mp h];exact f2
 · rintro m' σ' ⟨x5,x6,rfl,rfl,f1⟩
   refine s_retX (e_call hcg (es_ev (v:=.obj 52 kx) rfl (es_ev (v:=.obj 143 p) rfl (es_ev (v:=.ref Dp) rfl (es_nil ⟨kx,ga,p,D,c,l,Dp,K,ep,ad,adp,P,ks,plL K,rfl,d3,hOk,d1,d2,hks,fun r hr=>hQ r ks _ hPl.nd hmem ⟨fun h=>⟨c1,a3,c2,c3,f1,hr.mp h⟩,fun h=>hr.mpr h.goals⟩ d4⟩)))))
inductive T_info (args:List AV) (Q:AV→AH→Prop) (σ:AH):Prop
 | mk (p D c l:Addr) (ep:Nat) (ad:Nat→Addr) (P:PlanD) (k:Nat):(args=[.obj 143 p,.int k])→(PlanAt σ p D c l ep ad P)→(k ∈ P.ks)→(Q (.obj 87 (ad k)) σ)→T_info  args Q σ
noncomputable def t_info:Tr:=T_info
theorem vc_info (Γ:Gam):VC Γ b_ClausePlan_info 2 2 t_info:=by
 rintro args Q σ ⟨p,D,c,l,ep,ad,P,k,rfl,hp,hk,hQ⟩
 refine ⟨rfl,?_⟩
 unfold b_ClausePlan_info
 exact s_ret (x_idxD (x_attr rfl hp.o rfl) hp.a.d rfl (kvs_lookup hk)) hQ
inductive T_is_perm (args:List AV) (Q:AV→AH→Prop) (σ:AH):Prop
 | mk (p D c l:Addr) (ep:Nat) (ad:Nat→Addr) (P:PlanD) (k:Nat):(args=[.obj 143 p,.int k])→(PlanAt σ p D c l ep ad P)→(k ∈ P.ks)→(Q (.bool (decide ((P.inf k).kind=S "perm"))) σ)→T_is_perm  args Q σ
noncomputable def t_is_perm:Tr:=T_is_perm
theorem vc_is_perm (Γ:Gam):VC Γ b_ClausePlan_is_perm 2 2 t_is_perm:=by
 rintro args Q σ ⟨p,D,c,l,ep,ad,P,k,rfl,hp,hk,hQ⟩
 refine ⟨rfl,?_⟩
 unfold b_ClausePlan_is_perm
 exact s_ret (x_cmp (x_attr (x_idxD (x_attr rfl hp.o rfl) hp.a.d rfl (kvs_lookup hk)) (hp.a.i k hk) rfl) rfl rfl) hQ
inductive T_is_void (args:List AV) (Q:AV→AH→Prop) (σ:AH):Prop
 | mk (p D c l:Addr) (ep:Nat) (ad:Nat→Addr) (P:PlanD) (k:Nat):(args=[.obj 143 p,.int k])→(PlanAt σ p D c l ep ad P)→(k ∈ P.ks)→(Q (.bool (decide ((P.inf k).kind=S "void"))) σ)→T_is_void  args Q σ
noncomputable def t_is_void:Tr:=T_is_void
theorem vc_is_void (Γ:Gam):VC Γ b_ClausePlan_is_void 2 2 t_is_void:=by
 rintro args Q σ ⟨p,D,c,l,ep,ad,P,k,rfl,hp,hk,hQ⟩
 refine ⟨rfl,?_⟩
 unfold b_ClausePlan_is_void
 exact s_ret (x_cmp (x_attr (x_idxD (x_attr rfl hp.o rfl) hp.a.d rfl (kvs_lookup hk)) (hp.a.i k hk) rfl) rfl rfl) hQ
theorem slotI_kind (ord:List Nat) (k:Nat) (i:Info):(slotI ord k i).kind=i.kind:=by
 unfold slotI
 split <;> rfl
theorem slotI_last (ord:List Nat) (k:Nat) (i:Info):(slotI ord k i).last=i.last:=by
 unfold slotI
 split <;> rfl
theorem PlanOf.perm {K:Ker} {P:PlanD} {ord:List Nat} (h:PlanOf K P ord) {k:Nat} (hk:k ∈ P.ks):(P.inf k).kind=S "perm" ↔ k ∈ ord:=by
 have hk':=(h.mem k).mp hk
 rw [h.inf k hk',slotI_kind,h.hord.mem]
 exact ⟨fun q=>⟨hk',q⟩,fun q=>q.2⟩
theorem PlanOf.slot {K:Ker} {P:PlanD} {ord:List Nat} (h:PlanOf K P ord) {k:Nat} (hk:k ∈ P.ks) (ho:k ∈ ord):(P.inf k).slot=(ord.idxOf k:Nat)+1:=by
 rw [h.inf k ((h.mem k).mp hk)]
 unfold slotI
 rw [if_pos ho]
inductive T_perms (args:List AV) (Q:AV→AH→Prop) (σ:AH):Prop
 | mk (p D c l:Addr) (ep:Nat) (ad:Nat→Addr) (P:PlanD) (K:Ker) (ord:List Nat):(args=[.obj 143 p])→(PlanAt σ p D c l ep ad P)→(PlanOf K P ord)→(K.count < 64)→(∀ (r:Addr) (σ':AH),σ r=none→Ext [] σ σ'→σ' r=some (.list (natsV ord))→Q (.ref r) σ')→T_perms  args Q σ
noncomputable def t_perms:Tr:=T_perms
theorem vc_perms (Γ:Gam):VC Γ b_ClausePlan_perms 1 3 t_perms:=by
 rintro args Q σ ⟨p,D,c,l,ep,ad,P,K,ord,rfl,hp,hP,hc,hQ⟩
 refine ⟨rfl,?_⟩
 unfold b_ClausePlan_perms
 have hol:=hP.hord.len
 have hnd:=Bef.nodup hP.hord.s
 refine s_asgX (e_repl (ev_w (v:=.int 0) rfl (ev_w (x_attr rfl hp.o rfl) ?_)))
 rw [hP.env]
 refine ⟨Int.natCast_nonneg _,by unfold LIM;lia,fun r hr=>?_⟩
 have xr:Ext [] σ (σ.set r (.list (List.replicate ((ord.length:Nat):Int).toNat (.int 0)))):=(Ext.refl [] _).updN hr _
 have hp1:=hp.mono xr
 refine s_forX (ev_w (x_attr rfl hp1.o rfl) (forK_one (f:=fun (n:Nat)=>AV.int (n:Int)) (all:=P.ks) (fun pre m' σ'=>EI2_4 (fun (x2:Option AV) (F:List Nat) m'=>m'=[some (.obj 143 p),some (.ref r),x2]) (fun (x2:Option AV) (F:List Nat) σ'=>Ext [] σ σ') (fun (x2:Option AV) (F:List Nat) σ'=>σ' r=some (.list (natsV F))) (fun (x2:Option AV) (F:List Nat) σ'=>F.length=ord.length) (fun (x2:Option AV) (F:List Nat) σ'=>∀ i (h:i < ord.length),ord[i] ∈ pre→F[i]?=some ord[i]) m' σ') (items_kvs hp1.a.d) ⟨_,List.replicate ord.length 0,rfl,xr,?_,List.length_replicate,fun i h q=>(nomatch q)⟩ ?_ ?_ ?_))
 · rw [set_same,Int.toNat_natCast]
   unfold natsV
   rw [List.map_replicate]
   rfl
 · rintro pre m' σ' ⟨_,_,_,a1,_⟩
   exact sameSrc_dict hp1.a.d (hp.mono a1).a.d rfl
 · rintro pre k post m' σ' C e ⟨x2,F,rfl,a1,a2,a3,a4⟩ hC _
   have hk:k ∈ P.ks:=by rw [e];simp
   have hp2:=hp.mono a1
   have hinf:=x_idxD (m:=[some (.obj 143 p),some (.ref r),some (.int k)]) (e:=.attr (.var 0) (S "infos")) (i:=.var 2) (x_attr rfl hp2.o rfl) hp2.a.d rfl (kvs_lookup hk)
   refine s_if (t:=decide ((P.inf k).kind=S "perm")) (xb_cmp (x_attr hinf (hp2.a.i k hk) rfl) rfl rfl) (fun q=>?_) (fun q=>s_end (s_nop (hC _ _ ⟨_,F,rfl,a1,a2,a3,fun i h hi=>?_⟩)))
   · have ho:=(hP.perm hk).mp (of_decide_eq_true q)
     have hs:=hP.slot hk ho
     have hix:ord.idxOf k < ord.length:=List.idxOf_lt_length_iff.mpr ho
     have hv:((P.inf k).slot - 1).toNat=ord.idxOf k:=by rw [hs];lia
     refine s_asgIl (v:=.int k) rfl rfl (x_bin (x_attr hinf (hp2.a.i k hk) rfl) rfl rfl) a2 (by rw [hs];lia) (by rw [natsV_length,hs];lia) (s_end (s_nop (hC _ _ ⟨_,F.set (ord.idxOf k) k,rfl,a1.updN hr _,?_,by rw [List.length_set,a3],fun i h hi=>?_⟩)))
     · rw [set_same,hv]
       unfold natsV
       rw [List.map_set]
     · by_cases c:ord[i]=k
       · have:ord.idxOf k=i:=by rw [← c];exact hnd.idxOf_getElem i h
         rw [this,List.getElem?_set_self (by lia),c]
       · have hne:ord.idxOf k≠i:=fun q=>c (by have:=List.getElem_idxOf hix;simp only [q] at this;exact this)
         rw [List.getElem?_set_ne hne]
         exact a4 i h ((List.mem_append.mp hi).resolve_right fun q=>c (List.mem_singleton.mp q))
   · refine a4 i h ((List.mem_append.mp hi).resolve_right fun q'=>?_)
     have h1:ord[i]=k:=List.mem_singleton.mp q'
     exact absurd ((hP.perm hk).mpr (h1 ▸ List.getElem_mem h)) (of_decide_eq_false q)
 · rintro m' σ' ⟨x2,F,rfl,a1,a2,a3,a4⟩
   have:F=ord:=by
    refine List.ext_getElem? fun i=>?_
    by_cases h:i < ord.length
    · rw [a4 i h ((hP.mem _).mpr ((hP.hord.mem _).mp (List.getElem_mem h)).1),List.getElem?_eq_getElem h]
    · rw [List.getElem?_eq_none (by lia),List.getElem?_eq_none (by lia)]
   subst this
   exact s_ret (v:=.ref r) rfl (hQ r σ' hr a1 a2)
inductive T_dying_at (args:List AV) (Q:AV→AH→Prop) (σ:AH):Prop
 | mk (p D c l:Addr) (ep:Nat) (ad:Nat→Addr) (P:PlanD) (K:Ker) (ord:List Nat) (g:Int):(args=[.obj 143 p,.int g])→(PlanAt σ p D c l ep ad P)→(PlanOf K P ord)→(K.count < 64)→(∀ (r:Addr) (σ':AH),σ r=none→Ext [] σ σ'→σ' r=some (.list (natsV (ord.filter fun k=>decide ((P.inf k).last=g))))→Q (.ref r) σ')→T_dying_at  args Q σ
noncomputable def t_dying_at:Tr:=T_dying_at
theorem vc_dying_at (Γ:Gam) (hpm:Γ.mth 143 (S "perms")=some t_perms):VC Γ b_ClausePlan_dying_at 2 4 t_dying_at:=by
 rintro args Q σ ⟨p,D,c,l,ep,ad,P,K,ord,g,rfl,hp,hP,hc,hQ⟩
 refine ⟨rfl,?_⟩
 unfold b_ClausePlan_dying_at
 refine s_asgX (e_list0 fun r hr=>?_)
 have xr:Ext [] σ (σ.set r (.list [])):=(Ext.refl [] _).updN hr _
 have hp1:=hp.mono xr
 have hol:=hP.hord.len
 refine s_forX (e_meth rfl hp1.o hpm rfl (es_nil ⟨p,D,c,l,ep,ad,P,K,ord,rfl,hp1,hP,hc,fun s σ1 hs x1 h1=>?_⟩))
 have hsr:s≠r:=(ne_of (set_same σ r _) hs).symm
 refine forK_one (f:=fun (n:Nat)=>AV.int (n:Int)) (all:=ord) (fun pre m' σ'=>EI1_3 (fun (x3:Option AV) m'=>m'=[some (.obj 143 p),some (.int g),some (.ref r),x3]) (fun (x3:Option AV) σ'=>Ext [] σ σ') (fun (x3:Option AV) σ'=>σ' s=some (.list (natsV ord))) (fun (x3:Option AV) σ'=>σ' r=some (.list (natsV (pre.filter fun k=>decide ((P.inf k).last=g))))) m' σ') (items_list h1) ⟨_,rfl,xr.trans x1,h1,x1.get (set_same _ _ _)⟩ ?_ ?_ ?_
 · rintro pre m' σ' ⟨_,_,_,a2,_⟩
   exact sameSrc_list h1 a2
 · rintro pre k post m' σ' C e ⟨x3,rfl,a1,a2,a3⟩ hC _
   have hko:k ∈ ord:=by rw [e];simp
   have hk:k ∈ P.ks:=(hP.mem _).mpr ((hP.hord.mem _).mp hko).1
   have hp2:=hp.mono a1
   have hinf:=x_idxD (m:=[some (.obj 143 p),some (.int g),some (.ref r),some (.int k)]) (e:=.attr (.var 0) (S "infos")) (i:=.var 3) (x_attr rfl hp2.o rfl) hp2.a.d rfl (kvs_lookup hk)
   have hf:∀ b,decide ((P.inf k).last=g)=b→(pre++[k]).filter (fun k=>decide ((P.inf k).last=g))=pre.filter (fun k=>decide ((P.inf k).last=g))++(if b=true then [k] else []):=fun b hb=>by
    rw [List.filter_append,List.filter_cons,List.filter_nil,hb]
   have hplen:(pre.filter (fun k=>decide ((P.inf k).last=g))).length≤64:=by
    have h1:(pre.filter (fun k=>decide ((P.inf k).last=g))).length≤pre.length:=List.length_filter_le _ _
    have h2:=congrArg List.length e
    rw [List.length_append] at h2
    lia
   refine s_if (t:=decide ((P.inf k).last=g)) (xb_cmp (x_attr hinf (hp2.a.i k hk) rfl) rfl rfl) (fun q=>?_) (fun q=>s_end (s_nop (hC _ _ ⟨_,rfl,a1,a2,?_⟩)))
   · refine s_expr (e_app rfl a3 rfl (by rw [natsV_length];unfold LIM;lia) (s_end (s_nop (hC _ _ ⟨_,rfl,a1.updN hr _,(set_ne _ _ hsr).trans a2,?_⟩))))
     rw [set_same,hf true q,if_pos rfl,nats_app]
   · rw [hf false q,if_neg (by decide),List.append_nil]
     exact a3
 · rintro m' σ' ⟨x3,rfl,a1,a2,a3⟩
   exact s_ret (v:=.ref r) rfl (hQ r σ' hr a1 a3)
section
variable {Γ:Gam} {σ:AH} {m:Env'} {Q:AFl→Env'→AH→Prop} {b:PS} {R:AV→AH→Prop}
theorem x_ite {c x y:PE} {t:Bool} {v:AV} (hc:evB σ m c=some t) (h1:t=true→ev σ m x=some v) (h2:t=false→ev σ m y=some v):ev σ m (.ite c x y)=some v:=by
 show ((evB σ m c).bind fun t=>if t=true then ev σ m x else ev σ m y)=_
 rw [hc]
 show (if t=true then ev σ m x else ev σ m y)=_
 cases t with
 | true=>rw [if_pos rfl];exact h1 rfl
 | false=>rw [if_neg (by decide)];exact h2 rfl
theorem idxK_list {a:Addr} {xs:List AV} {k:Int} {v:AV} (ha:σ a=some (.list xs)) (hk:pyIdx xs k=some v) (h:R v σ):som (idxW σ (.ref a) (.int k)) fun r=>R r σ:=by
 refine som_of (x:=v) ?_ h
 show (σ a).bind (idxO k)=_
 rw [ha]
 exact hk
theorem compK_I {α:Type} {f:α→AV} {all:List α} {elt:PE} {v:AV} (I:List α→List AV→AH→Prop) (hx:itemsOf σ v=some (all.map f)) (hl:all.length≤LIM) (h0:I [] [] σ)
 (hsrc:∀ pre acc σ',I pre acc σ'→sameSrc σ σ' v)
 (hs:∀ pre x post acc σ' (K:AV→AH→Prop),all=pre++x::post→I pre acc σ'→(∀ y σ'',I (pre++[x]) (acc++[y]) σ''→K y σ'')→pwpE Γ elt (m++[some (f x)]) K σ')
 (hk:∀ acc σ',I all acc σ'→∀ r,σ' r=none→R (.ref r) (σ'.set r (.list acc))):CompK Γ elt (.lit (.bool true)) m R v σ:=by
 refine som_of hx ⟨by rw [List.length_map];exact hl,?_⟩
 have main:∀ (post pre:List α) (acc:List AV) (σ':AH),all=pre++post→I pre acc σ'→
  foldW (fun x acc K σ'=>sameSrc σ σ' v∧pwpB Γ (.lit (.bool true)) (m++[some x]) (fun b σ=>if b=true then pwpE Γ elt (m++[some x]) (fun y σ=>K (acc++[y]) σ) σ else K acc σ) σ') (post.map f) acc (fun acc σ'=>sameSrc σ σ' v∧freshW (.list acc) R σ') σ':=by
  intro post
  induction post with
  | nil=>
   intro pre acc σ' e h
   rw [List.append_nil] at e
   subst e
   exact ⟨hsrc _ _ _ h,hk acc σ' h⟩
  | cons x post ih=>
   intro pre acc σ' e h
   exact ⟨hsrc _ _ _ h,evB_w (b:=true) rfl ((if_pos rfl).mpr (hs pre x post acc σ' _ e h fun y σ'' h'=>ih (pre++[x]) (acc++[y]) σ'' (by rw [e,List.append_assoc];rfl) h'))⟩
 exact main all [] [] σ rfl h0
theorem slc_list {a:Addr} {xs:List AV} {n:Nat} (ha:σ a=some (.list xs)) (k:∀ r,σ r=none→R (.ref r) (σ.set r (.list (xs.take n)))):slcW (.ref a) (.int n) R σ:=by
 refine som_of ha (show freshW (.list (if (0:Int)≤n then xs.take (n:Int).toNat else xs.take ((n:Int)+xs.length).toNat)) R σ from ?_)
 rw [if_pos (Int.natCast_nonneg n),Int.toNat_natCast]
 exact k
theorem slc_ro {a:Addr} {xs:List AV} {n:Nat} (ha:σ a=some (.ro xs)) (k:∀ r,σ r=none→R (.ref r) (σ.set r (.list (xs.take n)))):slcW (.ref a) (.int n) R σ:=by
 refine som_of ha (show freshW (.list (if (0:Int)≤n then xs.take (n:Int).toNat else xs.take ((n:Int)+xs.length).toNat)) R σ from ?_)
 rw [if_pos (Int.natCast_nonneg n),Int.toNat_natCast]
 exact k
theorem s_join {a:PS} (J:Env'→AH→Prop) (ha:∀ K:AFl→Env'→AH→Prop,(∀ m' σ',J m' σ'→K .next m' σ')→(∀ v m' σ',Q (.ret v) m' σ'→K (.ret v) m' σ')→pwpS Γ a K m σ) (kb:∀ m' σ',J m' σ'→pwpS Γ b Q m' σ'):pwpS Γ (.seq a b) Q m σ:=ha (Bh Γ b Q) kb (fun _ _ _ h=>h)
theorem i_if {c:PE} {x y:PS} (h:pwpB Γ c m (fun t σ=>if t=true then pwpS Γ x Q m σ else pwpS Γ y Q m σ) σ):pwpS Γ (.ifS c x y) Q m σ:=h
theorem b_and {c1 c2:PE} {P:Bool→AH→Prop} {t:Bool} (J:Bool→AH→Prop) (h1:evB σ m c1=some t) (h2:t=true→∀ P:Bool→AH→Prop,(∀ b σ',J b σ'→P b σ')→pwpB Γ c2 m P σ) (h3:t=false→J false σ) (k:∀ b σ',J b σ'→P b σ'):pwpB Γ (.bop true (.cons c1 (.cons c2 .nil))) m P σ:=by
 refine b_bop (b_cons (evB_w h1 ?_))
 cases t with
 | true=>
  refine (if_pos rfl).mpr (b_cons (h2 rfl _ fun b σ' h=>?_))
  cases b with
  | true=>exact (if_pos rfl).mpr (b_nil (k _ _ h))
  | false=>exact (if_neg (by decide)).mpr (k _ _ h)
 | false=>exact (if_neg (by decide)).mpr (k _ _ (h3 rfl))
end
inductive T_law_next (args:List AV) (Q:AV→AH→Prop) (σ:AH):Prop
 | mk (row:Addr) (xs:List Nat):(args=[.ref row])→(σ row=some (.list (natsV xs)))→(∀ (n:Nat) (xs':List Nat) (σ':AH),Ext [row] σ σ'→σ' row=some (.list (natsV xs'))→Q (.int n) σ')→T_law_next  args Q σ
noncomputable def t_law_next:Tr:=T_law_next
theorem ne_empty {Γ:Gam} {σ:AH} {m:Env'} {P:Bool→AH→Prop} {i:Nat} {a:Addr} {xs:List Nat} (hv:varV m i=some (.ref a)) (ha:σ a=some (.list (natsV xs))) (k:∀ r,σ r=none→P (!xs.isEmpty) (σ.set r (.list []))):pwpB Γ (.cmp .ne (.var i) (.list .nil)) m P σ:=by
 refine b_cmp (ev_w (v:=.ref a) hv (e_list0 fun r hr=>som_of (x:=!decide (natsI xs=[])) (congrArg (Option.map (!·)) (eqW_ints (b:=[]) (by rw [natsI_int];exact (set_ne _ _ (ne_of ha hr)).trans ha) (set_same _ _ _))) ?_))
 have:(!decide (natsI xs=[]))=!xs.isEmpty:=by cases xs <;> rfl
 rw [this]
 exact k r hr
theorem vc_law_next (Γ:Gam):VC Γ b__law_next 1 1 t_law_next:=by
 rintro args Q σ ⟨row,xs,rfl,hr,hQ⟩
 refine ⟨rfl,?_⟩
 refine s_retX (e_ite (ne_empty rfl hr fun r h0=>?_))
 have x1:Ext [] σ (σ.set r (.list [])):=(Ext.refl [] _).updN h0 _
 have h1:=x1.get hr
 have xx:Ext [row] σ (σ.set r (.list [])):=fun b _ o e=>x1.get e
 rcases List.eq_nil_or_concat xs with e | ⟨ys,y,e⟩
 · rw [e]
   refine (if_neg (by decide)).mpr (ev_w (v:=.int 0) rfl ?_)
   rw [e] at h1
   exact hQ 0 [] _ xx h1
 · rw [List.concat_eq_append] at e
   rw [e] at h1 ⊢
   rw [← nats_app] at h1
   have:(!(ys++[y]).isEmpty)=true:=by cases ys <;> rfl
   rw [this]
   exact (if_pos rfl).mpr (e_pop rfl h1 (hQ y ys _ (xx.trans (Ext.upd (.head _) _)) (set_same _ _ _)))
theorem e_draw {Γ:Gam} {σ:AH} {m:Env'} {R:AV→AH→Prop} (hn:Γ.fn (S "_law_next")=some t_law_next) {row:Addr} {xs:List Nat} {i:Nat} {k:Nat} {e:PE} (hi:varV m i=some (.ref row)) (hr:σ row=some (.list (natsV xs))) (hk:0 < k) (hk2:k≤LIM)
 (he:∀ σ':AH,Ext [row] σ σ'→ev σ' m e=some (.int k)) (h:∀ (n:Nat) (xs':List Nat) (σ':AH),n < k→Ext [row] σ σ'→σ' row=some (.list (natsV xs'))→R (.int n) σ'):pwpE Γ (.bin .mod (.call (S "_law_next") (.cons (.var i) .nil)) e) m R σ:=by
 refine e_bin (e_call hn (es_ev (v:=.ref row) hi (es_nil ⟨row,xs,rfl,hr,fun n xs' σ' x1 h1=>ev_w (he σ' x1) ?_⟩)))
 have hp:(0:Int) < k:=by lia
 refine ⟨hp,by lia,?_⟩
 have e1:((n:Int).fmod k)=((n % k:Nat):Int):=by rw [Int.fmod_eq_emod_of_nonneg _ (by lia)];rfl
 rw [e1]
 exact h _ xs' σ' (Nat.mod_lt _ hk) x1 h1
noncomputable def depLe:Nat→Tm→Prop
 | 0,t=>t.isS=false
 | d+1,t=>match t with
  | .s _ ts=>∀ u ∈ ts,depLe d u
  | _=>True
noncomputable def szD:Nat→Nat
 | 0=>1
 | d+1=>1+2 * szD d
structure TmOk (d:Nat) (t:Tm):Prop where
 ok:t.ok
 size:t.size≤szD d
 dep:depLe d t
 vars:∀ k ∈ t.vars,k < 31
theorem TmOk.leafV {d k:Nat} (h:k < 31):TmOk d (.v k):=⟨trivial,by cases d with
 | zero=>exact Nat.le_refl _
 | succ d=>unfold szD;show 1≤_;lia,by cases d <;> first | rfl | trivial,fun j hj=>by rw [List.mem_singleton.mp hj];exact h⟩
theorem TmOk.leafC {d:Nat} {w:Str} {n:Int} (h:w=S "a" ∨ w=S "i"):TmOk d (.c w n):=⟨h,by cases d with
 | zero=>exact Nat.le_refl _
 | succ d=>unfold szD;show 1≤_;lia,by cases d <;> first | rfl | trivial,fun j hj=>nomatch hj⟩
theorem TmOk.s1 {d:Nat} {f:Int} {t:Tm} (h:TmOk d t):TmOk (d+1) (.s f [t]):=⟨⟨h.ok,trivial⟩,by have:=h.size;show 1+(t.size+0)≤1+2 * szD d;lia,fun u hu=>by rw [List.mem_singleton.mp hu];exact h.dep,fun k hk=>by
 have:k ∈ t.vars++[]:=hk
 rw [List.append_nil] at this
 exact h.vars k this⟩
theorem TmOk.s2 {d:Nat} {f:Int} {t u:Tm} (h:TmOk d t) (h':TmOk d u):TmOk (d+1) (.s f [t,u]):=⟨⟨h.ok,h'.ok,trivial⟩,by have:=h.size;have:=h'.size;show 1+(t.size+(u.size+0))≤1+2 * szD d;lia,fun v hv=>by
 rcases List.mem_cons.mp hv with e | e
 · rw [e];exact h.dep
 · rw [List.mem_singleton.mp e];exact h'.dep,fun k hk=>by
 have:k ∈ t.vars++(u.vars++[]):=hk
 rw [List.append_nil] at this
 rcases List.mem_append.mp this with e | e
 · exact h.vars k e
 · exact h'.vars k e⟩
inductive T_law_term (D:Nat) (args:List AV) (Q:AV→AH→Prop) (σ:AH):Prop
 | mk (row:Addr) (xs:List Nat) (d:Nat):(args=[.ref row,.int d])→(d≤D)→(σ row=some (.list (natsV xs)))→(∀ (t:Tm) (xs':List Nat) (σ':AH),TmOk d t→Ext [row] σ σ'→σ' row=some (.list (natsV xs'))→Q (enc t) σ')→T_law_term D args Q σ
noncomputable def t_law_term (D:Nat):Tr:=T_law_term D
theorem vc_law_term (Γ:Gam) (hn:Γ.fn (S "_law_next")=some t_law_next) (D:Nat) (hd:∀ D',D=D'+1→Γ.fn (S "_law_term")=some (t_law_term D')):VC Γ b__law_term 2 4 (t_law_term D):=by
 rintro args Q σ ⟨row,xs,d,rfl,hdD,hr,hQ⟩
 refine ⟨rfl,?_⟩
 have hkk:0 < (if 0 < d then 8 else 4)∧(if 0 < d then 8 else 4)≤LIM:=by by_cases c:0 < d <;> simp [c,LIM]
 refine s_asgX (e_draw hn (row:=row) (k:=if 0 < d then 8 else 4) rfl hr hkk.1 hkk.2 (fun σ' _=>x_ite (t:=decide (0 < d)) ?_ ?_ ?_) fun n xs1 σ1 hn1 x1 h1=>?_)
 · exact xb_cmp (x:=.int d) (y:=.int 0) rfl rfl (congrArg some (decide_eq_decide.mpr (by lia)))
 · intro c
   rw [if_pos (of_decide_eq_true c)]
   rfl
 · intro c
   rw [if_neg (of_decide_eq_false c)]
   rfl
 have keep:∀ {σ2:AH},Ext [row] σ1 σ2→Ext [row] σ σ2:=fun x=>x1.trans x
 have cmpn:∀ (σ':AH) (m:Env') (j:Nat),varV m 2=some (.int n)→evB σ' m (.cmp .eq (.var 2) (.lit (.int j)))=some (decide (n=j)):=fun σ' m j hm=>xb_cmp (y:=.int j) hm rfl (congrArg some (decide_eq_decide.mpr (by lia)))
 refine s_if (cmpn _ _ 1 rfl) (fun c=>?_) (fun c=>s_end ?_)
 · refine s_retX (e_tup (es_ev (v:=.str (S "a")) rfl (es_cons (e_idx (e_list (es_ev (v:=.int 0) rfl (es_ev (v:=.int 4) rfl (es_nil ⟨show 2≤LIM by decide,fun a ha=>?_⟩))))))))
   have hra:=ne_of h1 ha
   refine e_draw hn (row:=row) (k:=2) rfl ((set_ne _ _ hra).trans h1) (by decide) (by decide) (fun _ _=>rfl) fun j xs2 σ2 hj x2 h2=>?_
   have ha2:σ2 a=some (.list [.int 0,.int 4]):=x2 a (by simpa using fun q=>hra q.symm) _ (set_same _ _ _)
   have xx:Ext [row] σ1 σ2:=(fun b hb o e=>x2 b hb o ((set_ne _ _ (ne_of e ha)).trans e))
   have hj':j=0∨j=1:=by lia
   rcases hj' with rfl | rfl
   · exact idxK_list ha2 rfl (es_nil ⟨show 2≤LIM by decide,hQ (.c (S "a") 0) xs2 σ2 (TmOk.leafC (.inl rfl)) (keep xx) h2⟩)
   · exact idxK_list ha2 rfl (es_nil ⟨show 2≤LIM by decide,hQ (.c (S "a") 4) xs2 σ2 (TmOk.leafC (.inl rfl)) (keep xx) h2⟩)
 refine s_if (cmpn _ _ 2 rfl) (fun c=>?_) (fun c=>s_end ?_)
 · refine s_retX (e_tup (es_ev (v:=.str (S "i")) rfl (es_cons (e_idx (e_list (es_ev (v:=.int 0) rfl (es_ev (v:=.int 1) rfl (es_ev (v:=.int (-1)) rfl (es_cons (e_bin (ev_w (v:=.int 10) rfl (ev_w (v:=.int 30) rfl ⟨rfl,rfl,es_nil ⟨show 4≤LIM by decide,fun a ha=>?_⟩⟩))))))))))))
   have hra:=ne_of h1 ha
   refine e_draw hn (row:=row) (k:=4) rfl ((set_ne _ _ hra).trans h1) (by decide) (by decide) (fun _ _=>rfl) fun j xs2 σ2 hj x2 h2=>?_
   have ha2:σ2 a=some (.list [.int 0,.int 1,.int (-1),.int (10 ^ 30)]):=x2 a (by simpa using fun q=>hra q.symm) _ (set_same _ _ _)
   have xx:Ext [row] σ1 σ2:=(fun b hb o e=>x2 b hb o ((set_ne _ _ (ne_of e ha)).trans e))
   have hj':j=0∨j=1∨j=2∨j=3:=by lia
   rcases hj' with rfl | rfl | rfl | rfl
   · exact idxK_list ha2 rfl (es_nil ⟨show 2≤LIM by decide,hQ (.c (S "i") 0) xs2 σ2 (TmOk.leafC (.inr rfl)) (keep xx) h2⟩)
   · exact idxK_list ha2 rfl (es_nil ⟨show 2≤LIM by decide,hQ (.c (S "i") 1) xs2 σ2 (TmOk.leafC (.inr rfl)) (keep xx) h2⟩)
   · exact idxK_list ha2 rfl (es_nil ⟨show 2≤LIM by decide,hQ (.c (S "i") (-1)) xs2 σ2 (TmOk.leafC (.inr rfl)) (keep xx) h2⟩)
   · exact idxK_list ha2 rfl (es_nil ⟨show 2≤LIM by decide,hQ (.c (S "i") (10 ^ 30)) xs2 σ2 (TmOk.leafC (.inr rfl)) (keep xx) h2⟩)
 have hdn:4≤n→∃ d',d=d'+1:=fun h=>by
  refine ⟨d - 1,?_⟩
  by_cases c:0 < d
  · lia
  · rw [if_neg c] at hn1;lia
 refine s_if (cmpn _ _ 4 rfl) (fun c=>?_) (fun c=>s_end ?_)
 · obtain ⟨d',rfl⟩:=hdn (by have:=of_decide_eq_true c;lia)
   have hrec:=hd (D - 1) (by lia)
   have hdl:d'≤D - 1:=by lia
   refine s_retX (e_tup (es_ev (v:=.str (S "s")) rfl (es_ev (v:=.int 12) rfl (es_cons (e_tup (es_cons (e_call hrec (es_ev (v:=.ref row) rfl (es_ev (v:=.int d') ?_ (es_nil ⟨row,xs1,d',rfl,hdl,h1,fun t xs2 σ2 ht x2 h2=>es_nil ⟨show 1≤LIM by decide,es_nil ⟨show 3≤LIM by decide,hQ (.s 12 [t]) xs2 σ2 ht.s1 (keep x2) h2⟩⟩⟩))))))))))
   exact x_bin (x:=.int ((d'+1:Nat):Int)) (y:=.int 1) rfl rfl (by show some (AV.int (((d'+1:Nat):Int) - 1))=_;rw [show ((d'+1:Nat):Int) - 1=d' by lia])
 refine s_if (t:=decide (4 < n)) (xb_cmp (y:=.int 4) (show ev _ _ (.var 2)=some (.int n) from rfl) rfl (congrArg some (decide_eq_decide.mpr (by lia)))) (fun c=>?_) (fun c=>s_end ?_)
 · obtain ⟨d',rfl⟩:=hdn (by have:=of_decide_eq_true c;lia)
   have hrec:=hd (D - 1) (by lia)
   have hdl:d'≤D - 1:=by lia
   have hsub:∀ (σ':AH) (m:Env'),varV m 1=some (.int ((d'+1:Nat):Int))→ev σ' m (.bin .sub (.var 1) (.lit (.int 1)))=some (.int d'):=fun σ' m hm=>x_bin hm rfl (by show some (AV.int (((d'+1:Nat):Int) - 1))=_;rw [show ((d'+1:Nat):Int) - 1=d' by lia])
   refine s_asgX (e_call hrec (es_ev (v:=.ref row) rfl (es_ev (hsub _ _ rfl) (es_nil ⟨row,xs1,d',rfl,hdl,h1,fun t xs2 σ2 ht x2 h2=>?_⟩))))
   have hf:ev σ2 [some (.ref row),some (.int ((d'+1:Nat):Int)),some (.int n),some (enc t)] (.ite (.cmp .eq (.var 2) (.lit (.int (7)))) (.lit (.int (0))) (.lit (.int (13))))=some (.int (if n=7 then 0 else 13)):=by
    refine x_ite (cmpn _ _ 7 rfl) (fun c=>?_) (fun c=>?_)
    · rw [if_pos (of_decide_eq_true c)];rfl
    · rw [if_neg (of_decide_eq_false c)];rfl
   refine s_retX (e_tup (es_ev (v:=.str (S "s")) rfl (es_ev hf (es_cons (e_tup (es_ev (v:=enc t) rfl (es_cons (e_call hrec (es_ev (v:=.ref row) rfl (es_ev (hsub _ _ rfl) (es_nil ⟨row,xs2,d',rfl,hdl,h2,fun u xs3 σ3 hu x3 h3=>es_nil ⟨show 2≤LIM by decide,es_nil ⟨show 3≤LIM by decide,hQ (.s _ [t,u]) xs3 σ3 (ht.s2 hu) (keep (x2.trans x3)) h3⟩⟩⟩)))))))))))
 refine s_retX (e_tup (es_ev (v:=.str (S "v")) rfl (es_cons (e_draw hn (row:=row) (k:=6) rfl h1 (by decide) (by decide) (fun _ _=>rfl) fun j xs2 σ2 hj x2 h2=>es_nil ⟨show 2≤LIM by decide,hQ (.v j) xs2 σ2 (TmOk.leafV (by lia)) (keep x2) h2⟩))))
inductive T_law_terms (args:List AV) (Q:AV→AH→Prop) (σ:AH):Prop
 | mk (row:Addr) (xs:List Nat) (n:Nat):(args=[.ref row,.int n])→(n≤10)→(σ row=some (.list (natsV xs)))→(∀ (r:Addr) (ts:List Tm) (xs':List Nat) (σ':AH),σ r=none→Ext [row] σ σ'→σ' row=some (.list (natsV xs'))→σ' r=some (.list (ts.map enc))→r≠row→ts.length=n→(∀ t ∈ ts,TmOk 2 t)→Q (.ref r) σ')→T_law_terms  args Q σ
noncomputable def t_law_terms:Tr:=T_law_terms
theorem terms_comp {Γ:Gam} {σ:AH} {m:Env'} {R:AV→AH→Prop} {d D:Nat} {cd:PE} (ht:Γ.fn (S "_law_term")=some (t_law_term D)) (hdD:d≤D) {row:Addr} {xs:List Nat} {n:Nat} (hr:σ row=some (.list (natsV xs))) (hn:n≤10) (hm:∀ x,varV (m++[x]) 0=some (.ref row)) (hcd:∀ σ' m',ev σ' m' cd=some (.int d))
 (h:∀ (r:Addr) (ts:List Tm) (xs':List Nat) (σ':AH),σ r=none→Ext [row] σ σ'→σ' row=some (.list (natsV xs'))→σ' r=some (.list (ts.map enc))→r≠row→ts.length=n→(∀ t ∈ ts,TmOk d t)→R (.ref r) σ'):CompK Γ (.call (S "_law_term") (.cons (.var 0) (.cons cd .nil))) (.lit (.bool true)) m R (.rng 0 n) σ:=by
 refine compK_I (f:=fun (i:Nat)=>AV.int (i:Int)) (all:=List.range n) (fun pre acc σ'=>EI2_4 (fun (ts:List Tm) (xs':List Nat) acc=>acc=ts.map enc) (fun (ts:List Tm) (xs':List Nat) σ'=>ts.length=pre.length) (fun (ts:List Tm) (xs':List Nat) σ'=>(∀ t ∈ ts,TmOk d t)) (fun (ts:List Tm) (xs':List Nat) σ'=>Ext [row] σ σ') (fun (ts:List Tm) (xs':List Nat) σ'=>σ' row=some (.list (natsV xs'))) acc σ') items_rng (by rw [List.length_range];unfold LIM;lia) ⟨[],xs,rfl,rfl,fun t h=>(nomatch h),Ext.refl _ _,hr⟩ (fun _ _ _ _=>trivial) ?_ ?_
 · rintro pre x post acc σ' K e ⟨ts,xs',rfl,a2,a3,a4,a5⟩ hK
   refine e_call ht (es_ev (v:=.ref row) (hm _) (es_ev (hcd _ _) (es_nil ⟨row,xs',d,rfl,hdD,a5,fun t xs2 σ2 ht2 x2 h2=>hK _ _ ⟨ts++[t],xs2,by rw [List.map_append];rfl,by rw [List.length_append,List.length_append,a2];rfl,fun u hu=>?_,a4.trans x2,h2⟩⟩)))
   rcases List.mem_append.mp hu with q | q
   · exact a3 u q
   · rw [List.mem_singleton.mp q];exact ht2
 · rintro acc σ' ⟨ts,xs',rfl,a2,a3,a4,a5⟩ r hr0
   rw [List.length_range] at a2
   have hne:=ne_of a5 hr0
   refine h r ts xs' _ ?_ (a4.trans (Ext.fresh hr0 _)) ((set_ne _ _ hne).trans a5) (set_same _ _ _) hne.symm a2 a3
   cases q:σ r with
   | none=>rfl
   | some o=>rw [a4 r (by simpa using hne.symm) o q] at hr0;injection hr0
theorem vc_law_terms (Γ:Gam) (ht:Γ.fn (S "_law_term")=some (t_law_term 2)):VC Γ b__law_terms 2 2 t_law_terms:=by
 rintro args Q σ ⟨row,xs,n,rfl,hn,hr,hQ⟩
 refine ⟨rfl,?_⟩
 exact s_retX (e_comp (ev_w (x_rng (n:=n) rfl (by unfold LIM;lia)) (terms_comp (d:=2) ht (Nat.le_refl _) hr hn (fun _=>rfl) (fun _ _=>rfl) hQ)))
inductive T_law_row (args:List AV) (Q:AV→AH→Prop) (σ:AH):Prop
 | mk (sc:Addr) (xs:List Int):(args=[.ref sc])→(σ sc=some (.ro (xs.map .int)))→(∀ (r:Addr) (ys:List Nat) (σ':AH),σ r=none→Ext [] σ σ'→σ' r=some (.list (natsV ys))→Q (.ref r) σ')→T_law_row  args Q σ
noncomputable def t_law_row:Tr:=T_law_row
theorem mod1013 (N:Nat):binV .mod (.int (N:Int)) (.int 1013)=some (.int ((N % 1013:Nat):Int)):=by
 show (if (0:Int) < 1013∧(1013:Int)≤LIM then some (AV.int ((N:Int).fmod 1013)) else none)=_
 rw [if_pos (by decide),Int.fmod_eq_emod_of_nonneg _ (by decide)]
 rfl
theorem div1013 (N:Nat):binV .fdiv (.int (N:Int)) (.int 1013)=some (.int ((N / 1013:Nat):Int)):=by
 show (if (0:Int) < 1013∧(1013:Int)≤LIM then some (AV.int ((N:Int).fdiv 1013)) else none)=_
 rw [if_pos (by decide),Int.fdiv_eq_ediv_of_nonneg _ (by decide)]
 rfl
theorem vc_law_row (Γ:Gam):VC Γ b__law_row 1 5 t_law_row:=by
 rintro args Q σ ⟨sc,xs,rfl,hsc,hQ⟩
 refine ⟨rfl,?_⟩
 refine s_asgX (e_list0 fun row hr=>?_)
 have x0:Ext [] σ (σ.set row (.list [])):=(Ext.refl [] _).updN hr _
 refine s_forX (e_slc (ev_w (v:=.ref sc) rfl (ev_w (v:=.int (40:Nat)) rfl (slc_ro (x0.get hsc) fun s hs=>?_))))
 rw [← List.map_take]
 have hrs:row≠s:=ne_of (set_same σ row _) hs
 have hs0:=x0.none hs
 have x1:=x0.updN hs0 (.list ((xs.take 40).map AV.int))
 refine forK_one (f:=AV.int) (all:=xs.take 40) (fun pre m' σ'=>EI4_4 (fun (x2 x3 x4:Option AV) (ys:List Nat) m'=>m'=[some (.ref sc),some (.ref row),x2,x3,x4]) (fun (x2 x3 x4:Option AV) (ys:List Nat) σ'=>Ext [] σ σ') (fun (x2 x3 x4:Option AV) (ys:List Nat) σ'=>σ' s=some (.list ((xs.take 40).map AV.int))) (fun (x2 x3 x4:Option AV) (ys:List Nat) σ'=>σ' row=some (.list (natsV ys))) (fun (x2 x3 x4:Option AV) (ys:List Nat) σ'=>ys.length≤31 * pre.length) m' σ')
  (items_list (set_same _ _ _)) ⟨_,_,_,[],rfl,x1,set_same _ _ _,(set_ne _ _ hrs).trans (set_same _ _ _),Nat.zero_le _⟩ ?_ ?_ ?_
 · rintro pre m' σ' ⟨_,_,_,_,_,_,a2,_⟩
   exact sameSrc_list (set_same _ _ _) a2
 · rintro pre c post m' σ' C e ⟨x2,x3,x4,ys,rfl,a1,a2,a3,a4⟩ hC _
   have hpl:pre.length < 40:=by
    have h1:=congrArg List.length e
    have h2:=List.length_take_le 40 xs
    rw [List.length_append,List.length_cons] at h1
    lia
   refine s_asg (v:=.int ((if 0≤c then c else 7 - c).toNat:Nat)) (x_ite (t:=decide (0≤c)) (xb_cmp rfl rfl rfl) (fun q=>?_) (fun q=>?_)) ?_
   · rw [if_pos (of_decide_eq_true q),Int.toNat_of_nonneg (of_decide_eq_true q)];rfl
   · have:=of_decide_eq_false q
     rw [if_neg this,Int.toNat_of_nonneg (by lia)];rfl
   generalize (if 0≤c then c else 7 - c).toNat=N
   refine s_expr (e_app rfl a3 (x_bin rfl rfl (mod1013 N)) (by rw [natsV_length];unfold LIM;lia) ?_)
   refine s_asg (x_bin rfl rfl (div1013 N)) ?_
   refine s_forX (ev_w (x_rng (n:=30) rfl (by decide)) (forK_rng (fun i m'' σ''=>EI3_4 (fun (x4:Option AV) (N:Nat) (zs:List Nat) m''=>m''=[some (.ref sc),some (.ref row),some (.int c),some (.int N),x4]) (fun (x4:Option AV) (N:Nat) (zs:List Nat) σ''=>Ext [] σ σ'') (fun (x4:Option AV) (N:Nat) (zs:List Nat) σ''=>σ'' s=some (.list ((xs.take 40).map AV.int))) (fun (x4:Option AV) (N:Nat) (zs:List Nat) σ''=>σ'' row=some (.list (natsV zs))) (fun (x4:Option AV) (N:Nat) (zs:List Nat) σ''=>zs.length≤31 * pre.length+1+i) m'' σ'')
    ⟨_,N / 1013,ys++[N % 1013],rfl,a1.updN hr _,(set_ne _ _ hrs.symm).trans a2,by rw [set_same,nats_app],by rw [List.length_append,List.length_singleton];lia⟩ ?_ ?_))
   · rintro i m'' σ'' C' hi ⟨y4,N',zs,rfl,b1,b2,b3,b4⟩ hC' _
     refine s_if (t:=decide ((0:Int) < N')) (xb_cmp rfl rfl rfl) (fun q=>?_) (fun q=>s_end (s_nop (hC' _ _ ⟨_,N',zs,rfl,b1,b2,b3,by lia⟩)))
     refine s_expr (e_app rfl b3 (x_bin rfl rfl (mod1013 N')) (by rw [natsV_length];unfold LIM;lia) ?_)
     refine s_asg (x_bin rfl rfl (div1013 N')) (s_end (s_nop (hC' _ _ ⟨_,N' / 1013,zs++[N' % 1013],rfl,b1.updN hr _,(set_ne _ _ hrs.symm).trans b2,by rw [set_same,nats_app],by rw [List.length_append,List.length_singleton];lia⟩)))
   · rintro m'' σ'' ⟨y4,N',zs,rfl,b1,b2,b3,b4⟩
     exact s_nop (hC _ _ ⟨_,_,_,zs,rfl,b1,b2,b3,by rw [List.length_append,List.length_singleton];lia⟩)
 · rintro m' σ' ⟨x2,x3,x4,ys,rfl,a1,a2,a3,a4⟩
   refine s_asgX (e_slc (ev_w (v:=.ref row) rfl (ev_w (v:=.int (120:Nat)) rfl (slc_list a3 fun r2 hr2=>?_))))
   refine s_expr (e_rev rfl (set_same _ _ _) ?_)
   refine s_ret (v:=.ref r2) rfl (hQ r2 (ys.take 120).reverse _ (a1.none hr2) ((a1.updN (a1.none hr2) _).updN (a1.none hr2) _) ?_)
   rw [set_same]
   unfold natsV
   rw [List.map_reverse,List.map_take]
structure GlOk (g:Gl):Prop where
 ok:g.ok
 size:sizes g.terms≤40
 dep:∀ t ∈ g.terms,depLe 2 t
 vars:∀ k ∈ varss g.terms,k < 31
 sp:∀ k,g.special=some k→k < 31
theorem depLe_mono {d:Nat}:∀ {t:Tm},depLe d t→depLe (d+1) t:=by
 induction d with
 | zero=>
  intro t h
  cases t with
  | s f ts=>cases h
  | _=>trivial
 | succ d ih=>
  intro t h
  cases t with
  | s f ts=>exact fun u hu=>ih (h u hu)
  | _=>trivial
theorem tms_ok {d:Nat} {ts:List Tm} (h:∀ t ∈ ts,TmOk d t):oks ts∧sizes ts≤ts.length * szD d∧(∀ k ∈ varss ts,k < 31):=by
 induction ts with
 | nil=>exact ⟨trivial,Nat.zero_le _,fun k hk=>nomatch hk⟩
 | cons t ts ih=>
  obtain ⟨h1,h2,h3⟩:=ih fun t ht=>h t (.tail _ ht)
  have ht:=h t (.head _)
  refine ⟨⟨ht.ok,h1⟩,?_,fun k hk=>?_⟩
  · have:=ht.size
    rw [sizes_cons,List.length_cons,Nat.succ_mul]
    lia
  · rw [varss_cons] at hk
    rcases List.mem_append.mp hk with q | q
    · exact ht.vars k q
    · exact h3 k q
theorem GlOk.sp' {w:Str} {k:Nat} (hw:w=S "level" ∨ w=S "mark" ∨ w=S "cutto") (hk:k < 31):GlOk (.sp w k):=⟨hw,Nat.zero_le _,fun t h=>(nomatch h),fun t h=>(nomatch h),fun j hj=>by (injection hj with z0;subst z0);exact hk⟩
theorem GlOk.ct' {w:Str} (hw:w=S "cut" ∨ w=S "fail"):GlOk (.ct w):=⟨hw,Nat.zero_le _,fun t h=>(nomatch h),fun t h=>(nomatch h),fun j hj=>(nomatch hj)⟩
theorem GlOk.tm' {w:Str} {f:Int} {ts:List Tm} (hw:w=S "call" ∨ w=S "builtin") (h:∀ t ∈ ts,TmOk 2 t) (hl:sizes ts≤40):GlOk (.tm w f ts):=
 ⟨⟨hw,(tms_ok h).1⟩,hl,fun t ht=>(h t ht).dep,(tms_ok h).2.2,fun j hj=>(nomatch hj)⟩
theorem GlOk.un' {t u:Tm} (h:TmOk 2 t) (h':TmOk 2 u):GlOk (.un t u):=by
 have hh:∀ v ∈ [t,u],TmOk 2 v:=fun v hv=>by
  rcases List.mem_cons.mp hv with e | e
  · rw [e];exact h
  · rw [List.mem_singleton.mp e];exact h'
 exact ⟨⟨h.ok,h'.ok⟩,Nat.le_trans (tms_ok hh).2.1 (show 2 * szD 2≤40 by decide),fun v hv=>(hh v hv).dep,(tms_ok hh).2.2,fun j hj=>nomatch hj⟩
theorem TmOk.mono {d:Nat} {t:Tm} (h:TmOk d t):TmOk (d+1) t:=⟨h.ok,by have:=h.size;unfold szD;lia,depLe_mono h.dep,h.vars⟩
inductive T_law_goals (args:List AV) (Q:AV→AH→Prop) (σ:AH):Prop
 | mk (row held:Addr) (xs hs:List Nat):(args=[.ref row,.ref held])→(row≠held)→(σ row=some (.list (natsV xs)))→(σ held=some (.list (natsV hs)))→((∀ h ∈ hs,h < 31))→(hs.length≤1)→(∀ (r:Addr) (gs:List Gl) (xs':List Nat) (σ':AH),σ r=none→Ext [row,held] σ σ'→σ' row=some (.list (natsV xs'))→σ' r=some (.list (gs.map encG))→r≠row→r≠held→(∀ g ∈ gs,GlOk g)→gs.length≤10→Q (.ref r) σ')→T_law_goals  args Q σ
noncomputable def t_law_goals:Tr:=T_law_goals
structure LG (σ₀ σ:AH) (row held r:Addr) (gs:List Gl) (N M:Nat):Prop where
 e:Ext [row,held] σ₀ σ
 row:∃ xs,σ row=some (.list (natsV xs))
 held:∃ hs,σ held=some (.list (natsV hs))∧(∀ h ∈ hs,h < 31)∧hs.length≤M
 r:σ r=some (.list (gs.map encG))
 ok:∀ g ∈ gs,GlOk g
 len:gs.length≤N
theorem LG.draw {σ₀ σ σ':AH} {row held r:Addr} {gs:List Gl} {N M:Nat} (h:LG σ₀ σ row held r gs N M) (x:Ext [row] σ σ') (hx:∃ xs,σ' row=some (.list (natsV xs))) (h1:held≠row) (h2:r≠row):LG σ₀ σ' row held r gs N M:=
 ⟨h.e.trans fun b hb o e=>x b (fun q=>hb (by rw [List.mem_singleton.mp q];exact .head _)) o e,hx,by
  obtain ⟨hs,a,b⟩:=h.held
  exact ⟨hs,x held (by simpa using h1) _ a,b⟩,x r (by simpa using h2) _ h.r,h.ok,h.len⟩
theorem LG.put {σ₀ σ:AH} {row held r:Addr} {gs:List Gl} {N M:Nat} (h:LG σ₀ σ row held r gs N M) (hr0:σ₀ r=none) (h1:r≠row) (h2:r≠held) {g:Gl} (hg:GlOk g):LG σ₀ (σ.set r (.list (gs.map encG++[encG g]))) row held r (gs++[g]) (N+1) M:=
 ⟨h.e.updN hr0 _,by obtain ⟨xs,a⟩:=h.row;exact ⟨xs,(set_ne _ _ h1.symm).trans a⟩,by obtain ⟨hs,a,b⟩:=h.held;exact ⟨hs,(set_ne _ _ h2.symm).trans a,b⟩,by rw [set_same,List.map_append];rfl,fun g' hg'=>(List.mem_append.mp hg').elim (h.ok g') fun q=>by rw [List.mem_singleton.mp q];exact hg,by have:=h.len;rw [List.length_append,List.length_singleton];lia⟩
theorem LG.pure {σ₀ σ σ':AH} {row held r:Addr} {gs:List Gl} {N M:Nat} (h:LG σ₀ σ row held r gs N M) (x:Ext [] σ σ'):LG σ₀ σ' row held r gs N M:=
 ⟨h.e.trans fun b _ o e=>x.get e,by obtain ⟨xs,a⟩:=h.row;exact ⟨xs,x.get a⟩,by obtain ⟨hs,a,b⟩:=h.held;exact ⟨hs,x.get a,b⟩,x.get h.r,h.ok,h.len⟩
theorem LG.hold {σ₀ σ:AH} {row held r:Addr} {gs:List Gl} {N M:Nat} (h:LG σ₀ σ row held r gs N M) (h1:held≠row) (h2:r≠held) {hs:List Nat} {k:Nat} (hh:σ held=some (.list (natsV hs))) (hb:∀ h ∈ hs,h < 31) (hl:hs.length≤M) (hk:k < 31):LG σ₀ (σ.set held (.list (natsV hs++[.int k]))) row held r gs N (M+1):=
 ⟨h.e.trans (Ext.upd (.tail _ (.head _)) _),by obtain ⟨xs,a⟩:=h.row;exact ⟨xs,(set_ne _ _ h1.symm).trans a⟩,⟨hs++[k],by rw [set_same,nats_app],fun x hx=>(List.mem_append.mp hx).elim (hb x) fun q=>by rw [List.mem_singleton.mp q];exact hk,by rw [List.length_append,List.length_singleton];lia⟩,(set_ne _ _ h2).trans h.r,h.ok,h.len⟩
theorem LG.le {σ₀ σ:AH} {row held r:Addr} {gs:List Gl} {N M N' M':Nat} (h:LG σ₀ σ row held r gs N M) (a:N≤N') (b:M≤M'):LG σ₀ σ row held r gs N' M':=
 ⟨h.e,h.row,by obtain ⟨hs,x,y,z⟩:=h.held;exact ⟨hs,x,y,Nat.le_trans z b⟩,h.r,h.ok,Nat.le_trans h.len a⟩
theorem e_heldIdx {Γ:Gam} {σ₀ σ:AH} {m:Env'} {R:AV→AH→Prop} (hn:Γ.fn (S "_law_next")=some t_law_next) {row held r:Addr} {gs:List Gl} {N M:Nat} (h:LG σ₀ σ row held r gs N M) (h1:held≠row) (h2:r≠row) (hM:M≤100) {hs:List Nat} (hh:σ held=some (.list (natsV hs))) (hne:hs≠[]) (m0:varV m 0=some (.ref row)) (m1:varV m 1=some (.ref held))
 (k:∀ (j:Nat) (σ':AH),j < 31→Ext [row] σ σ'→LG σ₀ σ' row held r gs N M→R (.int j) σ'):pwpE Γ (.idx (.var 1) (.bin .mod (.call (S "_law_next") (.cons (.var 0) .nil)) (.bi .len (.cons (.var 1) .nil)))) m R σ:=by
 obtain ⟨xs,hrow⟩:=h.row
 obtain ⟨hs',e1,e2,e3⟩:=h.held
 have:natsV hs'=natsV hs:=by rw [e1] at hh;injection hh with hh;injection hh
 have hhs:hs'=hs:=by
  have h3:natsI hs'=natsI hs:=ints_inj (by rw [natsI_int,natsI_int];exact this)
  have key:∀ a b:List Nat,natsI a=natsI b→a=b:=by
   intro a
   induction a with
   | nil=>intro b hb;cases b with
    | nil=>rfl
    | cons y b=>injection hb
   | cons x a ih=>intro b hb;cases b with
    | nil=>injection hb
    | cons y b=>
     have hb':(x:Int)::natsI a=(y:Int)::natsI b:=hb
     injection hb' with q1 q2
     rw [Int.ofNat_inj.mp q1,ih b q2]
  exact key _ _ h3
 subst hhs
 have hpos:0 < hs'.length:=List.length_pos_iff.mpr hne
 refine e_idx (ev_w (v:=.ref held) m1 (e_draw hn (row:=row) (k:=hs'.length) m0 hrow hpos (by unfold LIM;lia) (fun σ' x=>?_) fun j xs' σ' hj x hx=>?_))
 · rw [x_lenL (e:=.var 1) (a:=held) (xs:=natsV hs') m1 (x held (by simpa using h1) _ e1),natsV_length]
 · exact idxK_list (x held (by simpa using h1) _ e1) ((pyIdx_of rfl).trans (natsV_get hj)) (k _ σ' (e2 _ (List.getElem_mem hj)) x (h.draw x ⟨xs',hx⟩ h1 h2))
theorem e_draw' {Γ:Gam} {σ₀ σ:AH} {m:Env'} {R:AV→AH→Prop} (k:Nat) (hn:Γ.fn (S "_law_next")=some t_law_next) {row held r:Addr} {gs:List Gl} {N M:Nat} (h:LG σ₀ σ row held r gs N M) (h1:held≠row) (h2:r≠row) (m0:varV m 0=some (.ref row)) (hk:0 < k) (hk2:k≤LIM)
 (K:∀ (n:Nat) (σ':AH),n < k→Ext [row] σ σ'→LG σ₀ σ' row held r gs N M→R (.int n) σ'):pwpE Γ (.bin .mod (.call (S "_law_next") (.cons (.var 0) .nil)) (.lit (.int k))) m R σ:=by
 obtain ⟨xs,hrow⟩:=h.row
 exact e_draw hn (row:=row) (k:=k) m0 hrow hk hk2 (fun _ _=>rfl) fun n xs' σ' hj x hx=>K n σ' hj x (h.draw x ⟨xs',hx⟩ h1 h2)
theorem e_term' {Γ:Gam} {σ₀ σ:AH} {m:Env'} {R:AV→AH→Prop} (ht:Γ.fn (S "_law_term")=some (t_law_term 2)) {row held r:Addr} {gs:List Gl} {N M:Nat} (h:LG σ₀ σ row held r gs N M) (h1:held≠row) (h2:r≠row) (m0:varV m 0=some (.ref row))
 (K:∀ (t:Tm) (σ':AH),TmOk 2 t→Ext [row] σ σ'→LG σ₀ σ' row held r gs N M→R (enc t) σ'):pwpE Γ (.call (S "_law_term") (.cons (.var 0) (.cons (.lit (.int 2)) .nil))) m R σ:=by
 obtain ⟨xs,hrow⟩:=h.row
 exact e_call ht (es_ev (v:=.ref row) m0 (es_ev (v:=.int (2:Nat)) rfl (es_nil ⟨row,xs,2,rfl,Nat.le_refl _,hrow,fun t xs' σ' hj x hx=>K t σ' hj x (h.draw x ⟨xs',hx⟩ h1 h2)⟩)))
theorem emp' {Γ:Gam} {σ₀ σ:AH} {row held r:Addr} {gs:List Gl} {N M:Nat} {m:Env'} {P:Bool→AH→Prop} (hm:varV m 1=some (.ref held)) (h:LG σ₀ σ row held r gs N M)
 (k:∀ b σ',(LG σ₀ σ' row held r gs N M∧Ext [] σ σ'∧(b=true→∃ hs,σ' held=some (.list (natsV hs))∧hs≠[]))→P b σ'):pwpB Γ (.cmp .ne (.var 1) (.list .nil)) m P σ:=by
 obtain ⟨hs,e1,e2⟩:=h.held
 refine ne_empty hm e1 fun s hs0=>k _ _ ⟨h.pure ((Ext.refl [] _).updN hs0 _),(Ext.refl [] _).updN hs0 _,fun hb=>⟨hs,((Ext.refl [] _).updN hs0 _).get e1,fun q=>?_⟩⟩
 rw [q] at hb
 injection hb
theorem vc_law_goals (Γ:Gam) (hn:Γ.fn (S "_law_next")=some t_law_next) (ht:Γ.fn (S "_law_term")=some (t_law_term 2)) (hts:Γ.fn (S "_law_terms")=some t_law_terms):VC Γ b__law_goals 2 8 t_law_goals:=by
 rintro args Q σ ⟨row,held,xs,hs,rfl,hrh,hrow,hheld,hhs,hhl,hQ⟩
 refine ⟨rfl,?_⟩
 refine s_asgX (e_list0 fun r hr=>?_)
 have hrr:r≠row:=(ne_of hrow hr).symm
 have hrhe:r≠held:=(ne_of hheld hr).symm
 have hhr:=hrh.symm
 have x0:Ext [] σ (σ.set r (.list [])):=(Ext.refl [] _).updN hr _
 have g0:LG σ (σ.set r (.list [])) row held r [] 0 1:=⟨fun b _ o e=>x0.get e,⟨xs,x0.get hrow⟩,⟨hs,x0.get hheld,hhs,hhl⟩,set_same _ _ _,fun g h=>(nomatch h),Nat.le_refl _⟩
 generalize σ.set r (.list [])=σ1 at g0
 refine s_join (fun m' σ'=>EI1_1 (fun (gs:List Gl) m'=>m'=[some (.ref row),some (.ref held),some (.ref r),none,none,none,none,none]) (fun (gs:List Gl) σ'=>LG σ σ' row held r gs 1 2) m' σ') (fun K hK _=>?_) ?_
 · refine i_if (b_cmp (e_draw' 3 hn g0 hhr hrr rfl (by decide) (by decide) fun n σ2 _ _ a=>ev_w (v:=.int 1) rfl (som_of (x:=decide ((n:Int)=1)) rfl ?_)))
   by_cases c:(n:Int)=1
   · refine (if_pos (decide_eq_true c)).mpr ?_
     have a':=a.put hr hrr hrhe (GlOk.sp' (w:=S "level") (k:=20) (.inl rfl) (by decide))
     refine s_expr (e_app rfl a.r (v:=encG (.sp (S "level") 20)) rfl (show 0 < LIM by decide) ?_)
     obtain ⟨hs',e1,e2,e3⟩:=a'.held
     refine s_expr (e_app rfl e1 (v:=.int (20:Nat)) rfl (by rw [natsV_length];unfold LIM;lia) (s_nop (hK _ _ ⟨[.sp (S "level") 20],rfl,?_⟩)))
     exact a'.hold hhr hrhe e1 e2 e3 (by decide)
   · refine (if_neg (by rw [decide_eq_false c];decide)).mpr (s_nop (hK _ _ ⟨[],rfl,a.le (by decide) (by decide)⟩))
 rintro _ σ2 ⟨gs,rfl,g1⟩
 refine s_asg (v:=.bool false) rfl (s_forX (e_bi (es_cons (e_draw' 9 hn g1 hhr hrr rfl (by decide) (by decide) fun n9 σ3 hn9 _ g2=>es_nil ⟨by unfold LIM;lia,by unfold LIM;lia,?_⟩))))
 refine forK_rng (fun i m' σ'=>EI6_1 (fun (c:Bool) (x4 x5 x6 x7:Option AV) (gs:List Gl) m'=>m'=[some (.ref row),some (.ref held),some (.ref r),some (.bool c),x4,x5,x6,x7]) (fun (c:Bool) (x4 x5 x6 x7:Option AV) (gs:List Gl) σ'=>LG σ σ' row held r gs (1+i) (2+i)) m' σ') ⟨_,_,_,_,_,gs,rfl,g2⟩ ?_ ?_
 · clear g2 g1 g0 gs
   rintro i m' σ' C hi ⟨c,x4,x5,x6,x7,gs,rfl,a1⟩ hC _
   refine s_asgX (e_draw' 8 hn a1 hhr hrr rfl (by decide) (by decide) fun n σ4 hn8 _ a2=>?_)
   have hM:2+i≤100:=by lia
   have cmpn:∀ (σ':AH) (m:Env') (j:Nat),varV m 5=some (.int n)→evB σ' m (.cmp .eq (.var 5) (.lit (.int j)))=some (decide (n=j)):=fun σ' m j hm=>xb_cmp (y:=.int j) hm rfl (congrArg some (decide_eq_decide.mpr (by lia)))
   have hlen:∀ {gs:List Gl} {σ5:AH},LG σ σ5 row held r gs (1+i) (2+i)→(gs.map encG).length < LIM:=fun h=>by have:=h.len;rw [List.length_map];unfold LIM;lia
   have fin:∀ {σ5:AH} {c':Bool} {y4 y5 y6 y7:Option AV} (g:Gl),LG σ σ5 row held r gs (1+i) (2+i)→GlOk g→C .next [some (.ref row),some (.ref held),some (.ref r),some (.bool c'),y4,y5,y6,y7] (σ5.set r (.list (gs.map encG++[encG g]))):=
    fun g h hg=>hC _ _ ⟨_,_,_,_,_,_,rfl,(h.put hr hrr hrhe hg).le (by lia) (by lia)⟩
   refine s_if (cmpn _ _ 2 rfl) (fun q=>?_) (fun q=>?_)
   · refine s_expr (e_appX rfl a2.r (e_tup (es_ev (v:=.str (S "builtin")) rfl (es_ev (v:=.int 13) rfl (es_cons (e_bi (es_cons (e_call hts (es_ev (v:=.ref row) rfl (es_cons (e_bin (ev_w (v:=.int 1) rfl (e_draw' 2 hn a2 hhr hrr rfl (by decide) (by decide) fun j σ5 hj y1 a3=>?_)))))))))))))
     obtain ⟨ys,hy⟩:=a3.row
     show pwpEs _ _ _ _ _
     refine es_nil ⟨row,ys,1+j,rfl,by lia,hy,fun s ts ys' σ6 hs x1 h1 h2 h3 h4 h5=>es_nil ?_⟩
     have a4:=a3.draw x1 ⟨ys',h1⟩ hhr hrr
     refine lstAt_of h2 ?_
     refine es_nil ⟨show 3≤LIM by decide,bmK_app a4.r (hlen a4) (s_end (s_nop ?_))⟩
     rw [← encs_map]
     refine fin (.tm (S "builtin") 13 ts) a4 (GlOk.tm' (.inr rfl) h5 ?_)
     have h6:=(tms_ok h5).2.1
     rw [h4] at h6
     have h7:(1+j) * szD 2≤2 * szD 2:=Nat.mul_le_mul_right _ (by lia)
     have h8:2 * szD 2=14:=rfl
     lia
   refine s_if (cmpn _ _ 3 rfl) (fun q=>?_) (fun q=>?_)
   · refine s_asgX (e_term' ht a2 hhr hrr rfl fun t σ5 ht1 y1 a3=>?_)
     refine s_expr (e_appX rfl a3.r (e_tup (es_ev (v:=.str (S "unify")) rfl (es_ev (v:=enc t) rfl (es_cons (e_term' ht a3 hhr hrr rfl fun u σ6 hu1 y2 a4=>es_nil ?_))))))
     exact ⟨show 3≤LIM by decide,bmK_app a4.r (hlen a4) (s_end (s_end (s_nop (fin (.un t u) a4 (GlOk.un' ht1 hu1)))))⟩
   refine s_ifX (b_and (fun b σ'=>LG σ σ' row held r gs (1+i) (2+i)∧(b=true→∃ hs,σ' held=some (.list (natsV hs))∧hs≠[])) (cmpn _ _ 4 rfl) (fun _ P k=>emp' rfl a2 fun b σ' h=>k b σ' ⟨h.1,h.2.2⟩) (fun _=>⟨a2,fun h=>(nomatch h)⟩) ?_)
   rintro b σ5 ⟨a3,hb⟩
   cases b with
   | true=>
    obtain ⟨hs',e1,e2⟩:=hb rfl
    refine (if_pos rfl).mpr (s_expr (e_appX rfl a3.r (e_tup (es_ev (v:=.str (S "cutto")) rfl (es_cons (e_heldIdx hn a3 hhr hrr hM e1 e2 rfl rfl fun j σ6 hj y2 a4=>es_nil ?_))))))
    exact ⟨show 2≤LIM by decide,bmK_app a4.r (hlen a4) (s_end (s_end (s_end (s_nop (fin (.sp (S "cutto") j) a4 (GlOk.sp' (.inr (.inr rfl)) hj))))))⟩
   | false=>
    refine (if_neg (by decide)).mpr ?_
    refine s_if (t:=decide (n=4) && !c) (xb_all (b:=decide (n=4)) (cmpn _ _ 4 rfl) (fun h=>xb_all (b:=!c) rfl (fun h2=>by rw [h,h2];rfl) (fun h2=>by rw [h];rfl)) (fun h=>by rw [eq_false_of_ne_true h];rfl)) (fun q=>?_) (fun q=>?_)
    · exact s_expr (e_app rfl a3.r (v:=.tup [.str (S "cut")]) rfl (hlen a3) (s_end (s_end (s_end (s_end (s_nop (fin (.ct (S "cut")) a3 (GlOk.ct' (.inl rfl)))))))))
    refine s_if (cmpn _ _ 5 rfl) (fun q=>?_) (fun q=>?_)
    · have a4:=a3.put hr hrr hrhe (GlOk.sp' (w:=S "mark") (k:=21+i) (.inr (.inl rfl)) (by lia))
      refine s_expr (e_app rfl a3.r (v:=encG (.sp (S "mark") (21+i))) rfl (hlen a3) ?_)
      obtain ⟨hs',e1,e2,e3⟩:=a4.held
      refine s_expr (e_app rfl e1 (v:=.int ((21+i:Nat):Int)) rfl (by rw [natsV_length];unfold LIM;lia) (s_end (s_end (s_end (s_end (s_end (s_nop ?_)))))))
      exact hC _ _ ⟨_,_,_,_,_,_,rfl,(a4.hold hhr hrhe e1 e2 e3 (by lia)).le (by lia) (by lia)⟩
    refine s_if (cmpn _ _ 7 rfl) (fun q=>?_) (fun q=>?_)
    · exact s_expr (e_app rfl a3.r (v:=.tup [.str (S "fail")]) rfl (hlen a3) (s_end (s_end (s_end (s_end (s_end (s_end (s_nop (fin (.ct (S "fail")) a3 (GlOk.ct' (.inr rfl)))))))))))
    refine s_asgX (e_comp (e_bi (es_cons (e_draw' 5 hn a3 hhr hrr rfl (by decide) (by decide) fun n5 σ6 hn5 _ a4=>es_nil ⟨by unfold LIM;lia,by unfold LIM;lia,?_⟩))))
    obtain ⟨ys,hy⟩:=a4.row
    refine terms_comp (d:=1) (n:=n5) ht (by decide) hy (by lia) (fun _=>rfl) (fun _ _=>rfl) fun s ts ys' σ7 hs x1 h1 h2 h3 h4 h5=>?_
    have a5:=a4.draw x1 ⟨ys',h1⟩ hhr hrr
    have hsr:s≠r:=(ne_of a4.r hs).symm
    have hsh:s≠held:=by
     obtain ⟨hs',e1,_⟩:=a4.held
     exact (ne_of e1 hs).symm
    have h5':∀ t ∈ ts,TmOk 2 t:=fun t ht=>(h5 t ht).mono
    have hs5:=(tms_ok h5).2.1
    have h8:szD 1=3:=rfl
    have h9:ts.length * szD 1≤4 * szD 1:=Nat.mul_le_mul_right _ (by lia)
    have hs0:σ s=none:=by
     cases q:σ s with
     | none=>rfl
     | some o=>rw [a4.e s (by simp [h3,hsh]) o q] at hs;injection hs
    refine s_join (fun m' σ'=>EI1_4 (fun (us:List Tm) m'=>m'=[some (.ref row),some (.ref held),some (.ref r),some (.bool c),some (.int i),some (.int n),x6,some (.ref s)]) (fun (us:List Tm) σ'=>LG σ σ' row held r gs (1+i) (2+i)) (fun (us:List Tm) σ'=>σ' s=some (.list (us.map enc))) (fun (us:List Tm) σ'=>(∀ t ∈ us,TmOk 2 t)) (fun (us:List Tm) σ'=>sizes us≤40) m' σ') (fun K hK _=>?_) ?_
    · refine i_if (b_and (fun b σ'=>LG σ σ' row held r gs (1+i) (2+i)∧σ' s=some (.list (ts.map enc))∧(b=true→∃ hs,σ' held=some (.list (natsV hs))∧hs≠[])) (cmpn _ _ 6 rfl) (fun _ P k=>emp' rfl a5 fun b σ' h=>k b σ' ⟨h.1,h.2.1.get h2,h.2.2⟩) (fun _=>⟨a5,h2,fun h=>(nomatch h)⟩) ?_)
      rintro b σ8 ⟨a6,h6,hb⟩
      cases b with
      | true=>
       obtain ⟨hs',e1,e2⟩:=hb rfl
       refine (if_pos rfl).mpr (s_expr (e_appX rfl h6 (e_tup (es_ev (v:=.str (S "v")) rfl (es_cons (e_heldIdx hn a6 hhr hrr hM e1 e2 rfl rfl fun j σ9 hj y2 a7=>es_nil ?_))))))
       have h7:=y2 s (by simpa using h3) _ h6
       refine ⟨show 2≤LIM by decide,bmK_app h7 (by rw [List.length_map];unfold LIM;lia) (s_nop (hK _ _ ⟨ts++[.v j],rfl,?_,?_,?_,?_⟩))⟩
       · exact ⟨a7.e.updN hs0 _,by obtain ⟨ys,e⟩:=a7.row;exact ⟨ys,(set_ne _ _ h3.symm).trans e⟩,by obtain ⟨ys,e,e'⟩:=a7.held;exact ⟨ys,(set_ne _ _ hsh.symm).trans e,e'⟩,(set_ne _ _ hsr.symm).trans a7.r,a7.ok,a7.len⟩
       · rw [set_same,List.map_append];rfl
       · intro t ht
         rcases List.mem_append.mp ht with q | q
         · exact h5' t q
         · rw [List.mem_singleton.mp q];exact TmOk.leafV hj
       · rw [sizes_app]
         show sizes ts+1≤40
         lia
      | false=>exact (if_neg (by decide)).mpr (s_nop (hK _ _ ⟨ts,rfl,a6,h6,h5',by lia⟩))
    rintro _ σ8 ⟨us,rfl,a6,h6,h7,h8⟩
    refine s_expr (e_appX rfl a6.r (e_tup (es_ev (v:=.str (S "call")) rfl (es_ev (v:=.int 0) rfl (es_cons (e_bi (es_ev (v:=.ref s) rfl (es_nil ?_))))))))
    refine lstAt_of h6 ?_
    refine es_nil ⟨show 3≤LIM by decide,bmK_app a6.r (hlen a6) ?_⟩
    rw [← encs_map]
    exact s_asg (v:=.bool true) rfl (s_end (s_end (s_end (s_end (s_end (s_end (s_nop (fin (.tm (S "call") 0 us) a6 (GlOk.tm' (.inl rfl) h7 h8)))))))))
 · rintro m' σ' ⟨c,x4,x5,x6,x7,gs,rfl,a1⟩
   obtain ⟨xs',hx⟩:=a1.row
   exact s_ret (v:=.ref r) rfl (hQ r gs xs' σ' hr a1.e hx a1.r hrr hrhe a1.ok (by have:=a1.len;lia))
structure NmAt (σ:AH) (nm:Addr) (ns:List Nat):Prop where
 d:∃ ep,σ nm=some (.dict (kvsOf (fun k=>.int (ns.idxOf k:Nat)) ns) ep)
 nd:ns.Nodup
 lt:∀ x ∈ ns,x < 31
theorem NmAt.len {σ:AH} {nm:Addr} {ns:List Nat} (h:NmAt σ nm ns):ns.length≤31:=pigeon 31 ns h.nd h.lt
theorem NmAt.mono {σ σ':AH} {nm:Addr} {ns:List Nat} (h:NmAt σ nm ns) (e:∀ o,σ nm=some o→σ' nm=some o):NmAt σ' nm ns:=⟨by obtain ⟨ep,q⟩:=h.d;exact ⟨ep,e _ q⟩,h.nd,h.lt⟩
structure NmTo (ns ns':List Nat) (vs:List Nat):Prop where
 le:ns.length≤ns'.length
 lt:∀ v ∈ vs,v < ns'.length
 all:∀ v,ns.length≤v→v < ns'.length→v ∈ vs
theorem NmTo.refl (ns:List Nat):NmTo ns ns []:=⟨Nat.le_refl _,fun v h=>(nomatch h),fun v h h'=>absurd h' (by lia)⟩
theorem NmTo.trans {a b c:List Nat} {vs ws:List Nat} (h:NmTo a b vs) (k:NmTo b c ws):NmTo a c (vs++ws) where
 le:=Nat.le_trans h.le k.le
 lt:=fun v hv=>(List.mem_append.mp hv).elim (fun q=>Nat.lt_of_lt_of_le (h.lt v q) k.le) (k.lt v)
 all:=fun v h1 h2=>by
  by_cases q:v < b.length
  · exact List.mem_append_left _ (h.all v h1 q)
  · exact List.mem_append_right _ (k.all v (by lia) h2)
inductive T_law_number (args:List AV) (Q:AV→AH→Prop) (σ:AH):Prop
 | mk (k:Nat) (nm:Addr) (ns:List Nat):(args=[.int k,.ref nm])→(NmAt σ nm ns)→(k < 31)→(∀ (n:Nat) (ns':List Nat) (σ':AH),Ext [nm] σ σ'→NmAt σ' nm ns'→NmTo ns ns' [n]→Q (.int n) σ')→T_law_number  args Q σ
noncomputable def t_law_number:Tr:=T_law_number
theorem vc_law_number (Γ:Gam):VC Γ b__law_number 2 2 t_law_number:=by
 rintro args Q σ ⟨k,nm,ns,rfl,hN,hk,hQ⟩
 refine ⟨rfl,?_⟩
 unfold b__law_number
 obtain ⟨ep,hd⟩:=hN.d
 have hlen:=hN.len
 refine s_if (t:=!decide (k ∈ ns)) ?_ (fun q=>?_) (fun q=>s_end ?_)
 · refine xb_cmp (show ev _ _ (.var 0)=some (.int k) from rfl) rfl ?_
   show Option.map (!·) (inW _ _ _)=_
   rw [inD hd,kvs_any]
   rfl
 · have q':k ∉ ns:=by simpa using q
   refine s_asgId (v:=.int (ns.length:Nat)) ((x_lenD rfl hd).trans (by unfold kvsOf;rw [List.length_map])) rfl rfl hd (by unfold kvsOf LIM;rw [List.length_map];lia) fun ep' _=>s_end ?_
   have hix:(ns++[k]).idxOf k=ns.length:=by rw [List.idxOf_append,if_neg q'];simp
   have hkv:putD (kvsOf (fun k=>AV.int (ns.idxOf k:Nat)) ns) (k:Int) (.int (ns.length:Nat))=kvsOf (fun j=>.int ((ns++[k]).idxOf j:Nat)) (ns++[k]):=by
    rw [kvs_putNew q']
    unfold kvsOf
    refine List.map_congr_left fun j hj=>?_
    dsimp only
    by_cases c:j=k
    · rw [if_pos c,c,hix]
    · have hj':j ∈ ns:=(List.mem_append.mp hj).resolve_right fun q=>c (List.mem_singleton.mp q)
      rw [if_neg c,List.idxOf_append,if_pos hj']
   rw [hkv]
   refine s_ret (x_idxD rfl (set_same _ _ _) rfl (kvs_lookup (List.mem_append_right _ (.head _)))) ?_
   rw [hix]
   refine hQ ns.length (ns++[k]) _ (Ext.upd (.head _) _) ⟨⟨ep',set_same _ _ _⟩,?_,fun x hx=>(List.mem_append.mp hx).elim (hN.lt x) fun q=>by rw [List.mem_singleton.mp q];exact hk⟩ ⟨by simp,fun v hv=>by rw [List.mem_singleton.mp hv];simp,fun v h1 h2=>?_⟩
   · exact List.nodup_append.mpr ⟨hN.nd,by simp,fun a ha b hb=>by rw [List.mem_singleton.mp hb];exact fun q=>q' (q ▸ ha)⟩
   · rw [List.length_append,List.length_singleton] at h2
     have:v=ns.length:=by lia
     rw [this];exact .head _
 · have q':k ∈ ns:=by simpa using q
   exact s_ret (x_idxD rfl hd rfl (kvs_lookup q')) (hQ _ ns σ (Ext.refl _ _) hN ⟨Nat.le_refl _,fun v hv=>by rw [List.mem_singleton.mp hv];exact List.idxOf_lt_length_iff.mpr q',fun v h1 h2=>by lia⟩)
inductive T_law_renamed (D:Nat) (args:List AV) (Q:AV→AH→Prop) (σ:AH):Prop
 | mk (t:Tm) (nm:Addr) (ns:List Nat):(args=[enc t,.ref nm])→(depLe D t)→(t.ok)→((∀ k ∈ t.vars,k < 31))→(NmAt σ nm ns)→(t.size≤100)→(∀ (t':Tm) (ns':List Nat) (σ':AH),t'.ok→t'.size=t.size→NmTo ns ns' t'.vars→Ext [nm] σ σ'→NmAt σ' nm ns'→Q (enc t') σ')→T_law_renamed D args Q σ
noncomputable def t_law_renamed (D:Nat):Tr:=T_law_renamed D
theorem ren_comp {Γ:Gam} {σ:AH} {m:Env'} {R:AV→AH→Prop} {D:Nat} {i j:Nat} {v:AV} (hr:Γ.fn (S "_law_renamed")=some (t_law_renamed D)) {ts:List Tm} {nm:Addr} {ns:List Nat} (hx:itemsOf σ v=some (ts.map enc)) (hv:∀ σ',Ext [nm] σ σ'→sameSrc σ σ' v) (hi:∀ x,varV (m++[x]) i=x) (hj:∀ x,varV (m++[x]) j=some (.ref nm))
 (hd:∀ t ∈ ts,depLe D t) (ho:oks ts) (hvs:∀ k ∈ varss ts,k < 31) (hN:NmAt σ nm ns) (hsz:sizes ts≤100)
 (h:∀ (r:Addr) (us:List Tm) (ns':List Nat) (σ':AH),σ r=none→Ext [nm] σ σ'→NmAt σ' nm ns'→σ' r=some (.list (us.map enc))→oks us→sizes us=sizes ts→NmTo ns ns' (varss us)→r≠nm→R (.ref r) σ'):CompK Γ (.call (S "_law_renamed") (.cons (.var i) (.cons (.var j) .nil))) (.lit (.bool true)) m R v σ:=by
 have hl:=len_sizes ts
 refine compK_I (f:=enc) (all:=ts) (fun pre acc σ'=>EI2_5 (fun (us:List Tm) (ns':List Nat) acc=>acc=us.map enc) (fun (us:List Tm) (ns':List Nat) σ'=>oks us) (fun (us:List Tm) (ns':List Nat) σ'=>sizes us=sizes pre) (fun (us:List Tm) (ns':List Nat) σ'=>NmTo ns ns' (varss us)) (fun (us:List Tm) (ns':List Nat) σ'=>Ext [nm] σ σ') (fun (us:List Tm) (ns':List Nat) σ'=>NmAt σ' nm ns') acc σ') hx (by unfold LIM;lia) ⟨[],ns,rfl,trivial,rfl,NmTo.refl _,Ext.refl _ _,hN⟩ (fun _ _ _ ⟨_,_,_,_,_,_,x,_⟩=>hv _ x) ?_ ?_
 · rintro pre t post acc σ' K e ⟨us,ns',rfl,a2,a3,a4,a5,a6⟩ hK
   have ht:t ∈ ts:=by rw [e];simp
   refine e_call hr (es_ev (v:=enc t) (hi _) (es_ev (v:=.ref nm) (hj _) (es_nil ⟨t,nm,ns',rfl,hd t ht,oks_mem ho t ht,fun k hk=>hvs k (vars_mem ht hk),a6,Nat.le_trans (size_le ht) hsz,fun t' ns2 σ2 b1 b2 b3 b4 b5=>hK _ _ ⟨us++[t'],ns2,by rw [List.map_append];rfl,oks_app a2 ⟨b1,trivial⟩,?_,?_,a5.trans b4,b5⟩⟩)))
   · rw [sizes_app,sizes_app,a3]
     show sizes pre+(t'.size+0)=sizes pre+(t.size+0)
     rw [b2]
   · rw [varss_app]
     show NmTo ns ns2 (varss us++(t'.vars++[]))
     rw [List.append_nil]
     exact a4.trans b3
 · rintro acc σ' ⟨us,ns',rfl,a2,a3,a4,a5,a6⟩ r hr0
   obtain ⟨ep,hdn⟩:=a6.d
   have hne:=ne_of hdn hr0
   refine h r us ns' _ ?_ (a5.trans (Ext.fresh hr0 _)) (a6.mono fun o e=>(set_ne _ _ hne).trans e) (set_same _ _ _) a2 a3 a4 hne.symm
   cases q:σ r with
   | none=>rfl
   | some o=>rw [a5 r (by simpa using hne.symm) o q] at hr0;injection hr0
theorem vc_law_renamed (Γ:Gam) (hnum:Γ.fn (S "_law_number")=some t_law_number) (D:Nat) (hD:∀ D',D=D'+1→Γ.fn (S "_law_renamed")=some (t_law_renamed D')):VC Γ b__law_renamed 2 2 (t_law_renamed D):=by
 rintro args Q σ ⟨t,nm,ns,rfl,hd,ho,hv,hN,hsz,hQ⟩
 refine ⟨rfl,?_⟩
 unfold b__law_renamed
 refine s_if (enc_isV (i:=0) ho rfl) (fun q=>?_) (fun q=>s_end ?_)
 · cases t with
   | s f ts=>injection q
   | c w n=>injection q
   | v k=>
    refine s_retX (e_tup (es_ev (v:=.str (S "v")) rfl (es_cons (e_call hnum (es_ev (enc_v1 rfl) (es_ev (v:=.ref nm) rfl (es_nil ⟨k,nm,ns,rfl,hN,hv k (.head _),fun n ns' σ' x1 x2 x3=>es_nil ⟨show 2≤LIM by decide,hQ (.v n) ns' σ' trivial rfl x3 x1 x2⟩⟩)))))))
 refine s_if (enc_isS (i:=0) ho rfl) (fun q2=>?_) (fun q2=>s_end ?_)
 · cases t with
   | v k=>injection q
   | c w n=>injection q2
   | s f ts=>
    cases D with
    | zero=>cases hd
    | succ D=>
     have hsz':sizes ts≤100:=by have:1+sizes ts≤100:=hsz;lia
     refine s_retX (e_tup (es_ev (v:=.str (S "s")) rfl (es_ev (v:=.int f) rfl (es_cons (e_bi (es_cons (e_comp (ev_w (enc_s2 rfl) (ren_comp (ns:=ns) (hD D rfl) rfl (fun _ _=>trivial) (fun _=>?_) (fun _=>rfl) hd ho hv hN hsz' fun r us ns' σ' h0 x1 x2 x3 x4 x5 x6 _=>es_nil ?_)))))))))
     · rename_i x;cases x <;> rfl
     refine lstAt_of x3 ?_
     refine es_nil ⟨show 3≤LIM by decide,?_⟩
     rw [← encs_map]
     refine hQ (.s f us) ns' σ' x4 ?_ x6 x1 x2
     show 1+sizes us=1+sizes ts
     rw [x5]
 · cases t with
   | v k=>injection q
   | s f ts=>injection q2
   | c w n=>exact s_ret (v:=enc (.c w n)) rfl (hQ (.c w n) ns σ ho rfl (NmTo.refl _) (Ext.refl _ _) hN)
noncomputable def glVars (g:Gl):List Nat:=(match g.special with
 | some k=>[k]
 | none=>[])++varss g.terms
theorem ocGoal_k (a c:Nat) (g:Gl):(ocGoal a c g).map (·.k)=glVars g:=by
 unfold ocGoal glVars
 rw [List.map_append,oc_k]
 cases g.special <;> rfl
theorem ocGoals_k:∀ (gs:List Gl) (a c:Nat),(ocGoals a c gs).map (·.k)=gs.flatMap glVars
 | [],a,c=>rfl
 | g::gs,a,c=>by
  show (ocGoal a c g++ocGoals _ _ gs).map (·.k)=glVars g++gs.flatMap glVars
  rw [List.map_append,ocGoal_k,ocGoals_k gs]
theorem koc_k (K:Ker):K.oc.map (·.k)=varss K.args++K.goals.flatMap glVars:=by
 unfold Ker.oc
 rw [List.map_append,oc_k,ocGoals_k]
inductive T_law_kernel (args:List AV) (Q:AV→AH→Prop) (σ:AH):Prop
 | mk (row:Addr) (xs:List Nat):(args=[.ref row])→(σ row=some (.list (natsV xs)))→(∀ (kx ga:Addr) (K:Ker) (xs':List Nat) (σ':AH),Ext [row] σ σ'→σ' row=some (.list (natsV xs'))→KerAt σ' kx ga K→K.Ok→ga≠row→Q (.obj 52 kx) σ')→T_law_kernel  args Q σ
noncomputable def t_law_kernel:Tr:=T_law_kernel
theorem encG_in3 {g:Gl} (h:g.ok) (σ:AH) (m:Env') (i:Nat) (hm:varV m i=some (encG g)):evB σ m (.cmp .isin (.idx (.var i) (.lit (.int 0))) (.tup (.cons (.lit (.str (S "level"))) (.cons (.lit (.str (S "mark"))) (.cons (.lit (.str (S "cutto"))) .nil)))))=some g.special.isSome:=by
 have h1:∀ (w:Str) (xs:List AV),encG g=.tup (.str w::xs)→inStrs w [.str (S "level"),.str (S "mark"),.str (S "cutto")]=some g.special.isSome→evB σ m (.cmp .isin (.idx (.var i) (.lit (.int 0))) (.tup (.cons (.lit (.str (S "level"))) (.cons (.lit (.str (S "mark"))) (.cons (.lit (.str (S "cutto"))) .nil)))))=some g.special.isSome:=fun w xs e k=>
  xb_cmp (x:=.str w) (x_idxT (xs:=.str w::xs) (k:=0) (hm.trans (congrArg some e)) rfl rfl) (show ev σ m _=some (.tup [.str (S "level"),.str (S "mark"),.str (S "cutto")]) from rfl) k
 cases g with
 | sp w k=>exact h1 w _ rfl (by rcases h with rfl | rfl | rfl <;> rfl)
 | un x y=>exact h1 (S "unify") _ rfl rfl
 | tm w f ts=>exact h1 w _ rfl (by rcases h.1 with rfl | rfl <;> rfl)
 | ct w=>exact h1 w _ rfl (by rcases h with rfl | rfl <;> rfl)
noncomputable def Gl.isUn:Gl→Bool
 | .un _ _=>true
 | _=>false
noncomputable def Gl.isTm:Gl→Bool
 | .tm _ _ _=>true
 | _=>false
theorem encG_un {g:Gl} (h:g.ok) (σ:AH) (m:Env') (i:Nat) (hm:varV m i=some (encG g)):evB σ m (.cmp .eq (.idx (.var i) (.lit (.int 0))) (.lit (.str (S "unify"))))=some g.isUn:=by
 have h1:∀ (w:Str) (xs:List AV),encG g=.tup (.str w::xs)→decide (w=S "unify")=g.isUn→evB σ m (.cmp .eq (.idx (.var i) (.lit (.int 0))) (.lit (.str (S "unify"))))=some g.isUn:=fun w xs e k=>
  xb_cmp (x:=.str w) (x_idxT (xs:=.str w::xs) (k:=0) (hm.trans (congrArg some e)) rfl rfl) rfl (congrArg some k)
 cases g with
 | sp w k=>exact h1 w _ rfl (by rcases h with rfl | rfl | rfl <;> rfl)
 | un x y=>exact h1 (S "unify") _ rfl rfl
 | tm w f ts=>exact h1 w _ rfl (by rcases h.1 with rfl | rfl <;> rfl)
 | ct w=>exact h1 w _ rfl (by rcases h with rfl | rfl <;> rfl)
theorem encG_in2 {g:Gl} (h:g.ok) (σ:AH) (m:Env') (i:Nat) (hm:varV m i=some (encG g)):evB σ m (.cmp .isin (.idx (.var i) (.lit (.int 0))) (.tup (.cons (.lit (.str (S "call"))) (.cons (.lit (.str (S "builtin"))) .nil))))=some g.isTm:=by
 have h1:∀ (w:Str) (xs:List AV),encG g=.tup (.str w::xs)→inStrs w [.str (S "call"),.str (S "builtin")]=some g.isTm→evB σ m (.cmp .isin (.idx (.var i) (.lit (.int 0))) (.tup (.cons (.lit (.str (S "call"))) (.cons (.lit (.str (S "builtin"))) .nil))))=some g.isTm:=fun w xs e k=>
  xb_cmp (x:=.str w) (x_idxT (xs:=.str w::xs) (k:=0) (hm.trans (congrArg some e)) rfl rfl) (show ev σ m _=some (.tup [.str (S "call"),.str (S "builtin")]) from rfl) k
 cases g with
 | sp w k=>exact h1 w _ rfl (by rcases h with rfl | rfl | rfl <;> rfl)
 | un x y=>exact h1 (S "unify") _ rfl rfl
 | tm w f ts=>exact h1 w _ rfl (by rcases h.1 with rfl | rfl <;> rfl)
 | ct w=>exact h1 w _ rfl (by rcases h with rfl | rfl <;> rfl)
theorem vc_law_kernel (Γ:Gam) (hn:Γ.fn (S "_law_next")=some t_law_next) (hts:Γ.fn (S "_law_terms")=some t_law_terms) (hgo:Γ.fn (S "_law_goals")=some t_law_goals) (hnum:Γ.fn (S "_law_number")=some t_law_number) (hr:Γ.fn (S "_law_renamed")=some (t_law_renamed 2))
 (hkc:Γ.cls (S "KernelClause")=some (52,t_KernelInit)):VC Γ b__law_kernel 1 8 t_law_kernel:=by
 rintro args Q σ ⟨row,xs,rfl,hrow,hQ⟩
 refine ⟨rfl,?_⟩
 refine s_asgX (e_call hts (es_ev (v:=.ref row) rfl (es_cons (e_draw hn (row:=row) (k:=4) rfl hrow (by decide) (by decide) (fun _ _=>rfl) fun n xs1 σ1 hn4 x1 h1=>es_nil ⟨row,xs1,n,rfl,by lia,h1,fun hd ts xs2 σ2 c1 c2 c3 c4 c5 c6 c7=>?_⟩))))
 refine s_asgX (e_list0 fun held hheld=>?_)
 have hrh:row≠held:=ne_of c3 hheld
 have hdh:hd≠held:=ne_of c4 hheld
 have hheld0:σ held=none:=by
  cases q:σ held with
  | none=>rfl
  | some o=>rw [(x1.trans c2) held (by simpa using hrh.symm) o q] at hheld;injection hheld
 have hts7:=tms_ok c7
 have h27:ts.length * szD 2≤3 * szD 2:=Nat.mul_le_mul_right _ (by lia)
 have h22:3 * szD 2=21:=rfl
 refine s_join (fun m' σ'=>EI3_8 (fun (us:List Tm) (hs ys:List Nat) m'=>m'=[some (.ref row),some (.ref hd),some (.ref held),none,none,none,none,none]) (fun (us:List Tm) (hs ys:List Nat) σ'=>Ext [row] σ σ') (fun (us:List Tm) (hs ys:List Nat) σ'=>σ' row=some (.list (natsV ys))) (fun (us:List Tm) (hs ys:List Nat) σ'=>σ' hd=some (.list (us.map enc))) (fun (us:List Tm) (hs ys:List Nat) σ'=>σ' held=some (.list (natsV hs))) (fun (us:List Tm) (hs ys:List Nat) σ'=>(∀ t ∈ us,TmOk 2 t)) (fun (us:List Tm) (hs ys:List Nat) σ'=>sizes us≤40) (fun (us:List Tm) (hs ys:List Nat) σ'=>(∀ h ∈ hs,h < 31)) (fun (us:List Tm) (hs ys:List Nat) σ'=>hs.length≤1) m' σ') (fun K hK _=>?_) ?_
 · have y0:σ2.set held (.list []) row=some (.list (natsV xs2)):=(set_ne _ _ hrh).trans c3
   refine i_if (b_cmp (e_draw hn (row:=row) (k:=4) rfl y0 (by decide) (by decide) (fun _ _=>rfl) fun n' xs3 σ3 _ x3 h3=>ev_w (v:=.int 1) rfl (som_of (x:=decide ((n':Int)=1)) rfl ?_)))
   have hdv:σ3 hd=some (.list (ts.map enc)):=x3 hd (by simpa using c5) _ ((set_ne _ _ hdh).trans c4)
   have hev:σ3 held=some (.list []):=x3 held (by simpa using hrh.symm) _ (set_same _ _ _)
   have hd0:σ1 hd=none:=c1
   have xx:Ext [row] σ σ3:=x1.trans (c2.trans (fun b hb o e=>x3 b hb o ((set_ne _ _ (ne_of e hheld)).trans e)))
   have hhd0:σ hd=none:=by
    cases q:σ hd with
    | none=>rfl
    | some o=>rw [x1 hd (by simpa using c5) o q] at hd0;injection hd0
   by_cases c:(n':Int)=1
   · refine (if_pos (decide_eq_true c)).mpr ?_
     refine s_expr (e_app rfl hdv (v:=enc (.v 30)) rfl (by rw [List.length_map];unfold LIM;lia) ?_)
     refine s_expr (e_app rfl ((set_ne _ _ hdh.symm).trans hev) (v:=.int (30:Nat)) rfl (show 0 < LIM by decide) (s_nop (hK _ _ ⟨ts++[.v 30],[30],xs3,rfl,(xx.updN hhd0 _).updN hheld0 _,?_,?_,set_same _ _ _,?_,?_,by decide,by decide⟩)))
     · rw [set_ne _ _ hrh,set_ne _ _ c5.symm];exact h3
     · rw [set_ne _ _ hdh,set_same,List.map_append];rfl
     · intro t ht
       rcases List.mem_append.mp ht with q | q
       · exact c7 t q
       · rw [List.mem_singleton.mp q];exact TmOk.leafV (by decide)
     · have:=hts7.2.1
       rw [sizes_app]
       show sizes ts+1≤40
       lia
   · refine (if_neg (by rw [decide_eq_false c];decide)).mpr (s_nop (hK _ _ ⟨ts,[],xs3,rfl,xx,h3,hdv,hev,c7,by have:=hts7.2.1;lia,fun h q=>(nomatch q),by decide⟩))
 clear hts7 h27 h22 c1 c2 c3 c4 c6 c7 h1 x1
 rintro _ σ3 ⟨us,hs,ys,rfl,d1,d2,d3,d4,d6',d5',d7,d8⟩
 refine s_asgX (e_call hgo (es_ev (v:=.ref row) rfl (es_ev (v:=.ref held) rfl (es_nil ⟨row,held,ys,hs,rfl,hrh,d2,d4,d7,d8,fun gl gs ys2 σ4 f1 f2 f3 f4 f5 f6 f7 f8=>?_⟩))))
 have d3':σ4 hd=some (.list (us.map enc)):=f2 hd (by simp [c5,hdh]) _ d3
 have y4:Ext [row] σ σ4:=fun b hb o e=>f2 b (by
  simp only [List.mem_cons,List.not_mem_nil,or_false,not_or]
  exact ⟨fun r=>hb (by rw [r];exact .head _),fun r=>by rw [r,hheld0] at e;injection e⟩) o (d1 b hb o e)
 clear d1 d2 d3 d4 d7 d8 f2
 refine s_asgX (e_dict0 fun nm hnm=>?_)
 have hN0:NmAt (σ4.set nm (.dict [] 0)) nm []:=⟨⟨0,set_same _ _ _⟩,List.nodup_nil,fun x h=>(nomatch h)⟩
 have hdn:=ne_of d3' hnm
 have hgn:=ne_of f4 hnm
 have hrn:=ne_of f3 hnm
 have y5:Ext [row] σ (σ4.set nm (.dict [] 0)):=fun b hb o e=>(set_ne _ _ (ne_of (y4 b hb o e) hnm)).trans (y4 b hb o e)
 have d3:=(set_ne σ4 (.dict [] 0) hdn).trans d3'
 have g4:=(set_ne σ4 (.dict [] 0) hgn).trans f4
 have r4:=(set_ne σ4 (.dict [] 0) hrn).trans f3
 have hnm0:∀ b o,σ b=some o→b≠row→b≠nm:=fun b o e hb=>ne_of (y4 b (by simpa using hb) o e) hnm
 generalize σ4.set nm (.dict [] 0)=σ5 at hN0 y5 d3 g4 r4
 clear y4 f1 f3 f4 hnm d3'
 have hus:=tms_ok d6'
 refine s_asgX (e_comp (ev_w (v:=.ref hd) rfl (ren_comp (i:=8) (j:=4) (ns:=[]) hr (items_list d3) (fun σ' x=>sameSrc_list d3 (x hd (by simpa using hdn) _ d3)) (fun x=>by cases x <;> rfl) (fun _=>rfl) (fun t ht=>(d6' t ht).dep) hus.1 hus.2.2 hN0 (by lia) fun h2 vs ns1 σ6 k1 k2 k3 k4 k5 k6 k7 k8=>?_)))
 have g6:=k2 gl (by simpa using hgn) _ g4
 have r6:=k2 row (by simpa using hrn) _ r4
 have y6:Ext [row] σ σ6:=fun b hb o e=>k2 b (by simpa using hnm0 b o e (by simpa using hb)) o (y5 b hb o e)
 clear g4 r4 y5 d3 hN0 k1 k2
 refine s_asgX (e_list0 fun dn hdn'=>?_)
 have hgd:=ne_of g6 hdn'
 have hrd:=ne_of r6 hdn'
 have hhd:=ne_of k4 hdn'
 obtain ⟨ep1,hnmv⟩:=k3.d
 have hnd:=ne_of hnmv hdn'
 have hd0:∀ b o,σ b=some o→b≠row→b≠dn:=fun b o e hb=>ne_of (y6 b (by simpa using hb) o e) hdn'
 have g7:=(set_ne σ6 (.list []) hgd).trans g6
 have r7:=(set_ne σ6 (.list []) hrd).trans r6
 have h7:=(set_ne σ6 (.list []) hhd).trans k4
 have n7:NmAt (σ6.set dn (.list [])) nm ns1:=k3.mono fun o e=>(set_ne _ _ hnd).trans e
 have v7:=set_same σ6 dn (.list [])
 have y7:Ext [row] σ (σ6.set dn (.list [])):=fun b hb o e=>(set_ne _ _ (hd0 b o e (by simpa using hb))).trans (y6 b hb o e)
 generalize σ6.set dn (.list [])=σ7 at g7 r7 h7 n7 v7 y7
 clear g6 r6 k3 k4 y6 hdn' hnmv
 refine s_forX (ev_w (v:=.ref gl) rfl (forK_one (f:=encG) (all:=gs) (fun pre m' σ'=>EI4_6 (fun (x6 x7:Option AV) (ds:List Gl) (ns':List Nat) m'=>m'=[some (.ref row),some (.ref h2),some (.ref held),some (.ref gl),some (.ref nm),some (.ref dn),x6,x7]) (fun (x6 x7:Option AV) (ds:List Gl) (ns':List Nat) σ'=>Ext [nm,dn] σ7 σ') (fun (x6 x7:Option AV) (ds:List Gl) (ns':List Nat) σ'=>NmAt σ' nm ns') (fun (x6 x7:Option AV) (ds:List Gl) (ns':List Nat) σ'=>σ' dn=some (.list (ds.map encG))) (fun (x6 x7:Option AV) (ds:List Gl) (ns':List Nat) σ'=>(∀ d ∈ ds,d.ok∧sizes d.terms≤100)) (fun (x6 x7:Option AV) (ds:List Gl) (ns':List Nat) σ'=>ds.length=pre.length) (fun (x6 x7:Option AV) (ds:List Gl) (ns':List Nat) σ'=>NmTo ns1 ns' (ds.flatMap glVars)) m' σ') (items_list g7) ⟨_,_,[],ns1,rfl,Ext.refl _ _,n7,v7,fun d h=>(nomatch h),rfl,NmTo.refl _⟩ ?_ ?_ ?_))
 · rintro pre m' σ' ⟨_,_,_,_,_,a1,_⟩
   exact sameSrc_list g7 (a1 gl (by simp [hgn,hgd]) _ g7)
 · rintro pre g post m' σ' C e ⟨x6,x7,ds,ns',rfl,a1,a2,a3,a4,a5,a6⟩ hC _
   have hg:=f7 g (by rw [e];simp)
   have hsz:sizes g.terms≤100:=Nat.le_trans hg.size (by decide)
   have hlen:(ds.map encG).length < LIM:=by
    have:=congrArg List.length e
    rw [List.length_append] at this
    rw [List.length_map]
    unfold LIM
    lia
   have fin:∀ {σ2:AH} {x6 x7:Option AV} (d:Gl) (ns2:List Nat),Ext [nm] σ' σ2→NmAt σ2 nm ns2→NmTo ns' ns2 (glVars d)→d.ok→sizes d.terms≤100→C .next [some (.ref row),some (.ref h2),some (.ref held),some (.ref gl),some (.ref nm),some (.ref dn),x6,x7] (σ2.set dn (.list (ds.map encG++[encG d]))):=
    fun d ns2 b1 b2 b3 b4 b5=>hC _ _ ⟨_,_,ds++[d],ns2,rfl,(a1.trans fun b hb o e=>b1 b (fun q=>hb (by rw [List.mem_singleton.mp q];exact .head _)) o e).trans (Ext.upd (.tail _ (.head _)) _),b2.mono fun o e=>(set_ne _ _ hnd).trans e,by rw [set_same,List.map_append];rfl,fun x hx=>(List.mem_append.mp hx).elim (a4 x) fun q=>by rw [List.mem_singleton.mp q];exact ⟨b4,b5⟩,by rw [List.length_append,List.length_append,a5];rfl,by rw [List.flatMap_append,List.flatMap_singleton];exact a6.trans b3⟩
   have dnx:∀ {σ2:AH},Ext [nm] σ' σ2→σ2 dn=some (.list (ds.map encG)):=fun x=>x dn (by simpa using hnd.symm) _ a3
   refine s_if (encG_in3 (i:=6) hg.ok _ _ rfl) (fun q=>?_) (fun q=>?_)
   · cases g with
     | un x y=>injection q
     | tm w f ts=>injection q
     | ct w=>injection q
     | sp w k=>
      refine s_expr (e_appX rfl a3 (e_tup (es_ev (v:=.str w) rfl (es_cons (e_call hnum (es_ev (v:=.int k) rfl (es_ev (v:=.ref nm) rfl (es_nil ⟨k,nm,ns',rfl,a2,hg.sp k rfl,fun n ns2 σ2 b1 b2 b3=>es_nil ?_⟩))))))))
      exact ⟨show 2≤LIM by decide,bmK_app (dnx b1) hlen (s_end (s_nop (fin (.sp w n) ns2 b1 b2 b3 hg.ok (Nat.zero_le _))))⟩
   refine s_if (encG_un (i:=6) hg.ok _ _ rfl) (fun q2=>?_) (fun q2=>?_)
   · cases g with
     | sp w k=>injection q2
     | tm w f ts=>injection q2
     | ct w=>injection q2
     | un x y=>
      have hx:=hg.ok
      have hvx:∀ k ∈ x.vars,k < 31:=fun k hk=>hg.vars k (List.mem_append_left _ hk)
      have hvy:∀ k ∈ y.vars,k < 31:=fun k hk=>hg.vars k (List.mem_append_right _ (List.mem_append_left _ hk))
      have hs2:x.size+(y.size+0)≤40:=hg.size
      refine s_asgX (e_call hr (es_ev (v:=enc x) rfl (es_ev (v:=.ref nm) rfl (es_nil ⟨x,nm,ns',rfl,hg.dep x (.head _),hx.1,hvx,a2,by lia,fun x' ns2 σ2 b1 b2 b3 b4 b5=>?_⟩))))
      refine s_expr (e_appX rfl (dnx b4) (e_tup (es_ev (v:=.str (S "unify")) rfl (es_ev (v:=enc x') rfl (es_cons (e_call hr (es_ev (v:=enc y) rfl (es_ev (v:=.ref nm) rfl (es_nil ⟨y,nm,ns2,rfl,hg.dep y (.tail _ (.head _)),hx.2,hvy,b5,by lia,fun y' ns3 σ3 c1 c2 c3 c4 c5'=>es_nil ?_⟩)))))))))
      refine ⟨show 3≤LIM by decide,bmK_app (dnx (b4.trans c4)) hlen (s_end (s_end (s_nop (fin (.un x' y') ns3 (b4.trans c4) c5' ?_ ⟨b1,c1⟩ ?_))))⟩
      · show NmTo ns' ns3 ([]++(x'.vars++(y'.vars++[])))
        rw [List.append_nil]
        exact b3.trans c3
      · show x'.size+(y'.size+0)≤100
        lia
   refine s_if (encG_in2 (i:=6) hg.ok _ _ rfl) (fun q3=>?_) (fun q3=>?_)
   · cases g with
     | sp w k=>injection q
     | un x y=>injection q2
     | ct w=>injection q3
     | tm w f ts=>
      refine s_expr (e_appX rfl a3 (e_tup (es_ev (v:=.str w) rfl (es_ev (v:=.int f) rfl (es_cons (e_bi (es_cons (e_comp (ev_w (v:=.tup (encs ts)) rfl ?_)))))))))
      rw [encs_map]
      refine ren_comp (i:=8) (j:=4) hr rfl (fun _ _=>trivial) (fun x=>by cases x <;> rfl) (fun _=>rfl) hg.dep hg.ok.2 hg.vars a2 hsz fun s us' ns2 σ2 b1 b2 b3 b4 b5 b6 b7 b8=>es_nil ?_
      refine lstAt_of b4 ?_
      refine es_nil ⟨show 3≤LIM by decide,bmK_app (dnx b2) hlen (s_end (s_end (s_end (s_nop ?_))))⟩
      rw [← encs_map]
      exact fin (.tm w f us') ns2 b2 b3 b7 ⟨hg.ok.1,b5⟩ (by rw [show (Gl.tm w f us').terms=us' from rfl,b6];exact hsz)
   · cases g with
     | sp w k=>injection q
     | un x y=>injection q2
     | tm w f ts=>injection q3
     | ct w=>exact s_expr (e_app rfl a3 rfl hlen (s_end (s_end (s_end (s_nop (fin (.ct w) ns' (Ext.refl _ _) a2 (NmTo.refl _) hg.ok (Nat.zero_le _)))))))
 · rintro m' σ' ⟨x6,x7,ds,ns',rfl,a1,a2,a3,a4,a5,a6⟩
   have h8:=a1 h2 (by simp [k8,hhd]) _ h7
   have r8:=a1 row (by simp [hrn,hrd]) _ r7
   obtain ⟨ep2,hnv⟩:=a2.d
   have htup:ev σ' [some (.ref row),some (.ref h2),some (.ref held),some (.ref gl),some (.ref nm),some (.ref dn),x6,x7] (.bi .tuple (.cons (.var 1) .nil))=some (.tup (vs.map enc)):=by
    show ((σ' h2).bind listO).map AV.tup=_
    rw [h8]
    rfl
   refine s_retX (e_new hkc (es_ev (v:=.int 0) rfl (es_ev htup (es_ev (v:=.ref dn) rfl (es_ev (x_lenD (a:=nm) rfl hnv) (es_nil fun kx hkx=>⟨kx,.int 0,_,_,_,rfl,set_same _ _ _,rfl,?_⟩))))))
   have z:Ext [] σ' _:=(((((Ext.refl [] σ').updN hkx (.attrs 52 [])).updN hkx (.attrs 52 [(S "functor",.int 0)])).updN hkx (.attrs 52 [(S "functor",.int 0),(S "args",.tup (vs.map enc))])).updN hkx (.attrs 52 [(S "functor",.int 0),(S "args",.tup (vs.map enc)),(S "goals",.ref dn)])).updN hkx (.attrs 52 [(S "functor",.int 0),(S "args",.tup (vs.map enc)),(S "goals",.ref dn),(S "count",.int ((kvsOf (fun k=>.int (ns'.idxOf k:Nat)) ns').length:Nat))])
   have hto:=k7.trans a6
   refine hQ kx dn ⟨vs,ds,ns'.length⟩ ys2 _ (fun b hb o e=>z.get (a1 b (by simp [hnm0 b o e (by simpa using hb),hd0 b o e (by simpa using hb)]) o (y7 b hb o e))) (z.get r8) ⟨⟨.int 0,?_⟩,z.get a3⟩ ?_ hrd.symm
   · rw [set_same]
     unfold kvsOf
     rw [List.length_map]
   · have hk:∀ (K:Ker) (k:Nat),K=⟨vs,ds,ns'.length⟩→k ∈ varss vs++ds.flatMap glVars→∃ o ∈ K.oc,o.k=k:=by
      rintro K k rfl h
      rw [← show (Ker.oc ⟨vs,ds,ns'.length⟩).map (·.k)=varss vs++ds.flatMap glVars from koc_k _] at h
      exact List.mem_map.mp h
     refine ⟨k5,fun g hg=>(a4 g hg).1,?_,fun g hg=>(a4 g hg).2,?_,?_,fun o ho=>?_,fun k hk'=>hk _ k rfl (hto.all k (Nat.zero_le _) hk')⟩
     · show sizes vs≤100
       lia
     · show ds.length≤100
       lia
     · show ns'.length < 64
       have:=a2.len
       lia
     · have h1:o.k ∈ (Ker.oc ⟨vs,ds,ns'.length⟩).map (·.k):=List.mem_map_of_mem ho
       rw [koc_k] at h1
       exact hto.lt _ h1
noncomputable def ocT (o:Oc):AV:=.tup [.int o.at',.int o.chunk,.str o.word]
structure PLs (σ:AH) (pl:Addr) (n:Nat) (pa:Nat→Addr) (l:List Oc):Prop where
 p:σ pl=some (.list ((List.range n).map fun k=>.ref (pa k)))
 i:∀ k,k < n→σ (pa k)=some (.list ((occ l k).map ocT))
 inj:∀ j k,j < n→k < n→pa j=pa k→j=k
 np:∀ k,k < n→pa k≠pl
theorem PLs.step {σ:AH} {pl:Addr} {n:Nat} {pa:Nat→Addr} {l:List Oc} (h:PLs σ pl n pa l) (o:Oc) (ho:o.k < n):PLs (σ.set (pa o.k) (.list ((occ l o.k).map ocT++[ocT o]))) pl n pa (l++[o]) where
 p:=(set_ne _ _ (h.np _ ho).symm).trans h.p
 i:=fun k hk=>by
  rw [occ_snoc]
  by_cases c:o.k=k
  · subst c
    rw [set_same,if_pos rfl,List.map_append]
    rfl
  · rw [set_ne _ _ fun q=>c (h.inj _ _ hk ho q).symm,if_neg c]
    exact h.i k hk
 inj:=h.inj
 np:=h.np
theorem PLs.keep {σ σ':AH} {pl:Addr} {n:Nat} {pa:Nat→Addr} {l:List Oc} (h:PLs σ pl n pa l) (x:∀ b o,σ b=some o→b=pl∨b ∈ (List.range n).map pa→σ' b=some o):PLs σ' pl n pa l:=
 ⟨x _ _ h.p (.inl rfl),fun k hk=>x _ _ (h.i k hk) (.inr (List.mem_map_of_mem (List.mem_range.mpr hk))),h.inj,h.np⟩
theorem PLs.ex {σ:AH} {pl:Addr} {n:Nat} {pa:Nat→Addr} {l:List Oc} (h:PLs σ pl n pa l) {b:Addr} (hb:b ∈ (List.range n).map pa):σ b≠none:=by
 obtain ⟨k,hk,rfl⟩:=List.mem_map.mp hb
 rw [h.i k (List.mem_range.mp hk)]
 exact fun e=>nomatch e
noncomputable def wordQ (p:Str) (b:Bool):Str:=if b=true then p++S "_struct" else if p=S "special" then p else p++S "_arg"
noncomputable def ocQ (r:Row) (x:Tm × Bool):List Oc:=match x.1 with
 | .v k=>[⟨k,r.a,r.c,wordQ r.p x.2⟩]
 | t=>t.vars.map fun k=>⟨k,r.a,r.c,wordQ r.p true⟩
noncomputable def stQ (r:Row) (x:Tm × Bool):AV:=.tup [enc x.1,.str (wordQ r.p x.2)]
noncomputable def Row.ocq (r:Row):List Oc:=(r.ts.map fun t=>(t,false)).flatMap (ocQ r)
theorem ocQ_true (r:Row):∀ ts:List Tm,(ts.map fun t=>(t,true)).flatMap (ocQ r)=(varss ts).map fun k=>⟨k,r.a,r.c,wordQ r.p true⟩
 | []=>rfl
 | t::ts=>by
  rw [List.map_cons,List.flatMap_cons,ocQ_true r ts,varss_cons,List.map_append]
  cases t <;> rfl
theorem ne_emptyG {Γ:Gam} {σ:AH} {m:Env'} {P:Bool→AH→Prop} {i:Nat} {a:Addr} {xs:List AV} (hv:varV m i=some (.ref a)) (ha:σ a=some (.list xs)) (k:∀ r,σ r=none→P (!xs.isEmpty) (σ.set r (.list []))):pwpB Γ (.cmp .ne (.var i) (.list .nil)) m P σ:=by
 refine b_cmp (ev_w (v:=.ref a) hv (e_list0 fun r hr=>?_))
 have h:eqW (σ.set r (.list [])) (.ref a) (.ref r)=some xs.isEmpty:=by
  show (((σ.set r (.list [])) a).bind listO).bind (fun xs=>(((σ.set r (.list [])) r).bind listO).bind fun ys=>listsEq xs ys)=_
  rw [(set_ne _ _ (ne_of ha hr)).trans ha,set_same]
  cases xs <;> rfl
 exact som_of (x:=!xs.isEmpty) (congrArg (Option.map (!·)) h) (k r hr)
theorem e_addL {σ:AH} {R:AV→AH→Prop} {a b:Addr} {xs ys:List AV} (ha:σ a=some (.list xs)) (hb:σ b=some (.list ys)) (hl:xs.length+ys.length≤LIM) (k:∀ r,σ r=none→R (.ref r) (σ.set r (.list (xs++ys)))):binW .add (.ref a) (.ref b) R σ:=by
 exact lstAt_of ha (lstAt_of hb ⟨hl,k⟩)
noncomputable def walkC:PS:=(.seq (.asg 10 (.comp (.tup (.cons (.var 12) (.cons (.ite (.cmp .eq (.var 7) (.lit (.str (S "special")))) (.var 7) (.bin .add (.var 7) (.lit (.str (S "_arg"))))) .nil))) (.var 8) (.lit (.bool true)))) <|
     (.seq (.whl (.cmp .ne (.var 10) (.list .nil))
      (.seq (.asgT [9,11] (.bm (.var 10) .pop (.cons (.lit (.int (0))) .nil))) <|
      (.seq (.ifS (.cmp .eq (.idx (.var 9) (.lit (.int (0)))) (.lit (.str (S "v"))))
       (.seq (.expr (.bm (.idx (.var 1) (.idx (.var 9) (.lit (.int (1))))) .append (.cons (.tup (.cons (.var 5) (.cons (.var 4) (.cons (.var 11) .nil)))) .nil))) <|
       .nop)
       (.seq (.ifS (.cmp .eq (.idx (.var 9) (.lit (.int (0)))) (.lit (.str (S "s"))))
        (.seq (.asg 10 (.bin .add (.comp (.tup (.cons (.var 12) (.cons (.bin .add (.var 7) (.lit (.str (S "_struct")))) .nil))) (.idx (.var 9) (.lit (.int (2)))) (.lit (.bool true))) (.var 10))) <|
        .nop)
        .nop) <|
       .nop)) <|
      .nop))) <|
     .nop))
theorem walk_row2 {Γ:Gam} {σ:AH} {pl la:Addr} {n:Nat} {pa:Nat→Addr} {l:List Oc} {r:Row} (h:PLs σ pl n pa l) (hla:σ la=some (.list (r.ts.map enc))) (hok:oks r.ts) (hvs:∀ k ∈ varss r.ts,k < n) (hsz:sizes r.ts≤100) (hp:r.p.length≤100) (hll:l.length≤200000)
 {e0 e2 e3 e6 x9 x10 x11:Option AV} {C:AFl→Env'→AH→Prop}
 (hC:∀ σ' x9 x10 x11,PLs σ' pl n pa (l++r.ocq)→Ext ((List.range n).map pa) σ σ'→C .next [e0,some (.ref pl),e2,e3,some (.int r.c),some (.int r.a),e6,some (.str r.p),some (.ref la),x9,x10,x11] σ'):
 pwpS Γ walkC C [e0,some (.ref pl),e2,e3,some (.int r.c),some (.int r.a),e6,some (.str r.p),some (.ref la),x9,x10,x11] σ:=by
 have hw:∀ x:Str,x.length≤100→r.p.length+x.length≤LIM:=fun x hx=>by unfold LIM;lia
 have hlen:=len_sizes r.ts
 have h1:evB σ [e0,some (.ref pl),e2,e3,some (.int r.c),some (.int r.a),e6,some (.str r.p),some (.ref la),x9,x10,x11] (.lit (.bool true))=some true:=rfl
 refine s_asgX (e_compP (f:=enc) (g:=fun t=>stQ r (t,false)) (p:=fun _=>true) (all:=r.ts) (v:=.ref la) rfl (items_list hla) (by unfold LIM;lia) (fun _ _=>rfl) (fun t _=>x_tup (xs_cons (show ev _ _ (.var 12)=some (enc t) from rfl) (xs_cons (v:=.str (wordQ r.p false)) ?_ xs_nil)) (show 2≤LIM by decide)) fun w hw0=>?_)
 · refine x_ite (t:=decide (r.p=S "special")) (xb_cmp rfl rfl rfl) (fun q=>?_) (fun q=>?_)
   · unfold wordQ
     rw [if_neg (by decide),if_pos (of_decide_eq_true q)]
     rfl
   · unfold wordQ
     rw [if_neg (by decide),if_neg (of_decide_eq_false q)]
     exact x_bin rfl rfl (if_pos (hw _ (by decide)))
 rw [List.filter_eq_self.mpr (fun _ _=>rfl)]
 have fresh:∀ {b:Addr},σ b=none→b ∉ (List.range n).map pa∧b≠pl:=fun hb=>⟨fun q=>h.ex q hb,fun q=>by rw [q,h.p] at hb;injection hb⟩
 have keepN:∀ {σ':AH} {l':List Oc} {b:Addr} {o:AO},PLs σ' pl n pa l'→σ b=none→PLs (σ'.set b o) pl n pa l':=fun hp hb=>hp.keep fun c u e hc=>(set_ne _ _ fun q=>by
  rcases hc with hc | hc
  · exact (fresh hb).2 (q ▸ hc)
  · exact (fresh hb).1 (q ▸ hc)).trans e
 refine s_whlG (fun k m' σ'=>EI5_9 (fun (w:Addr) (us:List (Tm × Bool)) (l':List Oc) (y9 y11:Option AV) m'=>m'=[e0,some (.ref pl),e2,e3,some (.int r.c),some (.int r.a),e6,some (.str r.p),some (.ref la),y9,some (.ref w),y11]) (fun (w:Addr) (us:List (Tm × Bool)) (l':List Oc) (y9 y11:Option AV) σ'=>PLs σ' pl n pa l') (fun (w:Addr) (us:List (Tm × Bool)) (l':List Oc) (y9 y11:Option AV) σ'=>Ext ((List.range n).map pa) σ σ') (fun (w:Addr) (us:List (Tm × Bool)) (l':List Oc) (y9 y11:Option AV) σ'=>σ w=none) (fun (w:Addr) (us:List (Tm × Bool)) (l':List Oc) (y9 y11:Option AV) σ'=>σ' w=some (.list (us.map (stQ r)))) (fun (w:Addr) (us:List (Tm × Bool)) (l':List Oc) (y9 y11:Option AV) σ'=>oks (us.map Prod.fst)) (fun (w:Addr) (us:List (Tm × Bool)) (l':List Oc) (y9 y11:Option AV) σ'=>(∀ k ∈ varss (us.map Prod.fst),k < n)) (fun (w:Addr) (us:List (Tm × Bool)) (l':List Oc) (y9 y11:Option AV) σ'=>szP us≤k) (fun (w:Addr) (us:List (Tm × Bool)) (l':List Oc) (y9 y11:Option AV) σ'=>k≤100) (fun (w:Addr) (us:List (Tm × Bool)) (l':List Oc) (y9 y11:Option AV) σ'=>l'++us.flatMap (ocQ r)=l++r.ocq) m' σ')
  (fun k m' σ'=>EI7_9 (fun (w:Addr) (t:Tm) (b:Bool) (us:List (Tm × Bool)) (l':List Oc) (y9 y11:Option AV) m'=>m'=[e0,some (.ref pl),e2,e3,some (.int r.c),some (.int r.a),e6,some (.str r.p),some (.ref la),y9,some (.ref w),y11]) (fun (w:Addr) (t:Tm) (b:Bool) (us:List (Tm × Bool)) (l':List Oc) (y9 y11:Option AV) σ'=>PLs σ' pl n pa l') (fun (w:Addr) (t:Tm) (b:Bool) (us:List (Tm × Bool)) (l':List Oc) (y9 y11:Option AV) σ'=>Ext ((List.range n).map pa) σ σ') (fun (w:Addr) (t:Tm) (b:Bool) (us:List (Tm × Bool)) (l':List Oc) (y9 y11:Option AV) σ'=>σ w=none) (fun (w:Addr) (t:Tm) (b:Bool) (us:List (Tm × Bool)) (l':List Oc) (y9 y11:Option AV) σ'=>σ' w=some (.list (((t,b)::us).map (stQ r)))) (fun (w:Addr) (t:Tm) (b:Bool) (us:List (Tm × Bool)) (l':List Oc) (y9 y11:Option AV) σ'=>oks (((t,b)::us).map Prod.fst)) (fun (w:Addr) (t:Tm) (b:Bool) (us:List (Tm × Bool)) (l':List Oc) (y9 y11:Option AV) σ'=>(∀ k ∈ varss (((t,b)::us).map Prod.fst),k < n)) (fun (w:Addr) (t:Tm) (b:Bool) (us:List (Tm × Bool)) (l':List Oc) (y9 y11:Option AV) σ'=>szP ((t,b)::us)≤k) (fun (w:Addr) (t:Tm) (b:Bool) (us:List (Tm × Bool)) (l':List Oc) (y9 y11:Option AV) σ'=>k≤100) (fun (w:Addr) (t:Tm) (b:Bool) (us:List (Tm × Bool)) (l':List Oc) (y9 y11:Option AV) σ'=>l'++((t,b)::us).flatMap (ocQ r)=l++r.ocq) m' σ') (n:=sizes r.ts) ?_ ?_ ?_
 · have hid:(r.ts.map fun t=>(t,false)).map Prod.fst=r.ts:=by rw [List.map_map,show (Prod.fst ∘ fun t:Tm=>(t,false))=id from rfl,List.map_id]
   refine ⟨w,r.ts.map fun t=>(t,false),l,x9,x11,rfl,keepN h hw0,Ext.fresh hw0 _,hw0,?_,by rw [hid];exact hok,by rw [hid];exact hvs,by unfold szP;rw [hid];exact Nat.le_refl _,hsz,rfl⟩
   rw [set_same,List.map_map]
   rfl
 · rintro k m' σ' P ⟨w,us,l',y9,y11,rfl,b1,b2,b3,b4,b5,b6,b7,b8,b9⟩ k1 k2
   refine ne_emptyG rfl b4 fun s hs=>?_
   have hs0:σ s=none:=by
    cases q:σ s with
    | none=>rfl
    | some o=>
     exfalso
     by_cases c:s ∈ (List.range n).map pa
     · exact b1.ex c hs
     · rw [b2 s c o q] at hs;injection hs
   have b1':=keepN (o:=.list []) b1 hs0
   have b2':=b2.updN hs0 (.list [])
   have b4':=(set_ne σ' (.list []) (ne_of b4 hs)).trans b4
   generalize σ'.set s (.list [])=σ3 at b1' b2' b4'
   cases us with
   | nil=>
    refine k2 σ3 (s_nop (hC _ _ _ _ ?_ b2'))
    rw [← b9,List.flatMap_nil,List.append_nil]
    exact b1'
   | cons u us=>exact k1 σ3 ⟨w,u.1,u.2,us,l',y9,y11,rfl,b1',b2',b3,b4',b5,b6,b7,b8,b9⟩
 · rintro k m' σ' K ⟨w,t,b,us,l',y9,y11,rfl,b1,b2,b3,b4,b5,b6,b7,b8,b9⟩ hK _
   have hu:t.ok∧oks (us.map Prod.fst):=b5
   have hk1:∀ k ∈ t.vars,k < n:=fun k hk=>b6 k (List.mem_append_left _ hk)
   have hk2:∀ k ∈ varss (us.map Prod.fst),k < n:=fun k hk=>b6 k (List.mem_append_right _ hk)
   have h8:t.size+szP us≤k:=b7
   have hp1:=size_pos t
   have hlu:us.length≤szP us:=by have:=len_sizes (us.map Prod.fst);rwa [List.length_map] at this
   refine s_asgTX (e_pop0 (v:=stQ r (t,b)) (xs:=us.map (stQ r)) rfl b4 ⟨rfl,?_⟩)
   have c1:=keepN (o:=.list (us.map (stQ r))) b1 b3
   have c2:=b2.updN b3 (.list (us.map (stQ r)))
   have c3:=set_same σ' w (.list (us.map (stQ r)))
   generalize σ'.set w (.list (us.map (stQ r)))=σ2 at c1 c2 c3
   refine s_if (enc_isV (i:=9) hu.1 rfl) (fun c=>?_) (fun cv=>?_)
   · cases t with
     | s f us'=>injection c
     | c w n=>injection c
     | v j=>
      have hj:j < n:=hk1 j (.head _)
      have hpl:((List.range n).map fun k=>AV.ref (pa k))[j]?=some (.ref (pa j)):=by rw [List.getElem?_map,List.getElem?_range hj];rfl
      have hol:(occ l' j).length≤300000:=by
       have q1:(occ l' j).length≤l'.length:=List.length_filter_le _ _
       have q2:=congrArg List.length b9
       rw [List.length_append,List.length_append] at q2
       have q3:r.ocq.length≤100:=by
        have key:∀ ts:List Tm,((ts.map fun t=>(t,false)).flatMap (ocQ r)).length≤sizes ts:=by
         intro ts
         induction ts with
         | nil=>exact Nat.le_refl _
         | cons t ts ih=>
          rw [List.map_cons,List.flatMap_cons,List.length_append,sizes_cons]
          have:(ocQ r (t,false)).length≤t.size:=by
           cases t with
           | v k=>exact Nat.le_refl _
           | c w n=>exact Nat.zero_le _
           | s f us=>have:=vars_len (.s f us);show ((Tm.s f us).vars.map _).length≤_;rw [List.length_map];exact this
          lia
        have:=key r.ts
        unfold Row.ocq
        lia
       lia
      refine s_expr (e_app (x_idxL rfl c1.p (enc_v1 rfl) ((pyIdx_of rfl).trans hpl)) (c1.i j hj) (v:=ocT ⟨j,r.a,r.c,wordQ r.p b⟩) rfl (by rw [List.length_map];unfold LIM;lia) ?_)
      have hwp:w≠pa j:=fun q=>(fresh b3).1 (q ▸ List.mem_map_of_mem (List.mem_range.mpr hj))
      refine s_end (s_nop (hK (szP us) _ _ (by lia) ⟨w,us,l'++[⟨j,r.a,r.c,wordQ r.p b⟩],_,_,rfl,c1.step ⟨j,r.a,r.c,wordQ r.p b⟩ hj,c2.trans (Ext.upd (List.mem_map_of_mem (List.mem_range.mpr hj)) _),b3,(set_ne _ _ hwp).trans c3,hu.2,hk2,Nat.le_refl _,by lia,?_⟩))
      rw [← b9,List.flatMap_cons,List.append_assoc]
      rfl
   · refine s_if (enc_isS (i:=9) hu.1 rfl) (fun c=>?_) (fun c=>?_)
     · cases t with
       | v k=>injection cv
       | c w n=>injection c
       | s f us'=>
        have hs:(Tm.s f us').size=1+sizes us':=rfl
        have hl':=len_sizes us'
        refine s_asgX (e_bin (e_compP (f:=enc) (g:=fun t=>stQ r (t,true)) (p:=fun _=>true) (all:=us') (enc_s2 rfl) rfl (by unfold LIM;lia) (fun _ _=>rfl) (fun t _=>x_tup (xs_cons (show ev _ _ (.var 12)=some (enc t) from rfl) (xs_cons (v:=.str (wordQ r.p true)) (x_bin rfl rfl (if_pos (hw _ (by decide)))) xs_nil)) (show 2≤LIM by decide)) fun s hs0=>ev_w (v:=.ref w) rfl (e_addL (set_same _ _ _) ((set_ne _ _ (ne_of c3 hs0)).trans c3) ?_ fun w2 hw2=>?_)))
        · rw [List.filter_eq_self.mpr (fun _ _=>rfl),List.length_map,List.length_map]
          unfold LIM
          lia
        have none0:∀ {s:Addr},σ2 s=none→σ s=none:=fun {s} hs=>by
         cases q:σ s with
         | none=>rfl
         | some o=>
          exfalso
          by_cases c:s ∈ (List.range n).map pa
          · exact c1.ex c hs
          · rw [c2 s c o q] at hs;injection hs
        have hs1:=none0 hs0
        have hw2':σ2 w2=none:=by
         cases q:σ2 w2 with
         | none=>rfl
         | some o=>rw [set_ne _ _ (ne_of q hs0),q] at hw2;injection hw2
        have hw3:=none0 hw2'
        rw [List.filter_eq_self.mpr (fun _ _=>rfl)]
        have hm2:((us'.map fun t=>(t,true))++us).map Prod.fst=us'++us.map Prod.fst:=by
         rw [List.map_append,List.map_map,show (Prod.fst ∘ fun t:Tm=>(t,true))=id from rfl,List.map_id]
        have hz:szP ((us'.map fun t=>(t,true))++us)=sizes us'+szP us:=by
         unfold szP;rw [hm2,sizes_app]
        refine s_end (s_end (s_nop (hK (sizes us'+szP us) _ _ (by lia) ⟨w2,(us'.map fun t=>(t,true))++us,l',_,_,rfl,keepN (keepN c1 hs1) hw3,(c2.updN hs1 _).updN hw3 _,hw3,?_,?_,?_,by lia,by lia,?_⟩)))
        · rw [set_same,List.map_append,List.map_map]
          rfl
        · rw [hm2]
          exact oks_app hu.1 hu.2
        · rw [hm2,varss_app]
          exact fun k hk=>(List.mem_append.mp hk).elim (hk1 k) (hk2 k)
        · rw [← b9,List.flatMap_append,ocQ_true,List.flatMap_cons]
          rfl
     · cases t with
       | v k=>injection cv
       | s f us'=>injection c
       | c w' n'=>
        refine s_end (s_end (s_nop (hK (szP us) _ _ (by lia) ⟨w,us,l',_,_,rfl,c1,c2,b3,c3,hu.2,hk2,Nat.le_refl _,by lia,?_⟩)))
        rw [← b9]
        rfl
noncomputable def rowL (a c:Nat):Gl→List Row
 | .sp w k=>[⟨a,c,S "special",[.v k]⟩]
 | .un x y=>[⟨a,c,S "goal",[x,y]⟩]
 | .tm w f ts=>[⟨a,c,S "goal",ts⟩]
 | .ct w=>[]
noncomputable def rowsL (K:Ker):List Row:=⟨-1,0,S "head",K.args⟩::goalsG rowL 0 0 K.goals
theorem ocq_terms {a:Int} {c:Nat} {p:Str} (hp:p≠S "special"):∀ ts:List Tm,(Row.mk a c p ts).ocq=ocTerms a c p ts:=by
 have key:∀ us ts:List Tm,(ts.map fun t=>(t,false)).flatMap (ocQ ⟨a,c,p,us⟩)=ocTerms a c p ts:=by
  intro us ts
  induction ts with
  | nil=>rfl
  | cons t ts ih=>
   rw [List.map_cons,List.flatMap_cons,ih,ocTerms_cons]
   congr 1
   cases t with
   | v k=>
    show [(⟨k,a,c,wordQ p false⟩:Oc)]=[⟨k,a,c,p++S "_arg"⟩]
    unfold wordQ
    rw [if_neg (by decide),if_neg hp]
   | c w n=>rfl
   | s f us=>rfl
 exact fun ts=>key ts ts
theorem rowsL_oc (K:Ker):(rowsL K).flatMap Row.ocq=K.oc:=by
 unfold rowsL Ker.oc
 rw [List.flatMap_cons,ocq_terms (by decide),goalsG_flatMap,ocGoals_G]
 congr 1
 refine goalsG_congr (fun a c g=>?_) _ _ _
 cases g with
 | sp w k=>
  show (Row.mk a c (S "special") [.v k]).ocq++[]=[(⟨k,a,c,S "special"⟩:Oc)]++[]
  rw [List.append_nil,List.append_nil]
  show [(⟨k,(a:Int),c,wordQ (S "special") false⟩:Oc)]++[]=_
  rw [List.append_nil]
  rfl
 | un x y=>
  show (Row.mk a c (S "goal") [x,y]).ocq++[]=_
  rw [List.append_nil,ocq_terms (by decide)]
  rfl
 | tm w f ts=>
  show (Row.mk a c (S "goal") ts).ocq++[]=_
  rw [List.append_nil,ocq_terms (by decide)]
  rfl
 | ct w=>rfl
noncomputable def rowT (x:Row × Addr):List AV:=[.int x.1.a,.int x.1.c,.str x.1.p,.ref x.2]
structure RB (σ₀ σ:AH) (pl:Addr) (n:Nat) (pa:Nat→Addr) (rw:Addr) (RS:List (Row × Addr)):Prop where
 pls:PLs σ pl n pa []
 e:Ext [] σ₀ σ
 rw0:σ₀ rw=none
 r:σ rw=some (.list (RS.map fun x=>.tup (rowT x)))
 l:∀ x ∈ RS,σ x.2=some (.list (x.1.ts.map enc))∧x.2≠rw∧x.2 ∉ (List.range n).map pa
 ne:rw≠pl∧rw ∉ (List.range n).map pa
theorem RB.add {σ₀ σ:AH} {pl:Addr} {n:Nat} {pa:Nat→Addr} {rw:Addr} {RS:List (Row × Addr)} (h:RB σ₀ σ pl n pa rw RS) {a:Addr} (ha:σ a=none) (r:Row):RB σ₀ ((σ.set a (.list (r.ts.map enc))).set rw (.list ((RS.map fun x=>.tup (rowT x))++[.tup (rowT (r,a))]))) pl n pa rw (RS++[(r,a)]):=by
 have ha0:=h.e.none ha
 have har:rw≠a:=ne_of h.r ha
 refine ⟨h.pls.keep fun b o e hb=>?_,(h.e.updN ha0 _).updN h.rw0 _,h.rw0,by rw [set_same,List.map_append];rfl,fun x hx=>?_,h.ne⟩
 · rw [set_ne _ _ fun q=>?_,set_ne _ _ (ne_of e ha)]
   · exact e
   · rcases hb with hb | hb
     · exact h.ne.1 (q ▸ hb)
     · exact h.ne.2 (q ▸ hb)
 · rcases List.mem_append.mp hx with q | q
   · obtain ⟨h1,h2,h3⟩:=h.l x q
     exact ⟨(set_ne _ _ h2).trans ((set_ne _ _ (ne_of h1 ha)).trans h1),h2,h3⟩
   · rw [List.mem_singleton.mp q]
     exact ⟨(set_ne _ _ har.symm).trans (set_same _ _ _),har.symm,fun q=>h.pls.ex q ha⟩
inductive T_law_places (args:List AV) (Q:AV→AH→Prop) (σ:AH):Prop
 | mk (kx ga:Addr) (K:Ker):(args=[.obj 52 kx])→(KerAt σ kx ga K)→(K.Ok)→(∀ (pl:Addr) (pa:Nat→Addr) (σ':AH),Ext [] σ σ'→PLs σ' pl K.count pa K.oc→Q (.ref pl) σ')→T_law_places  args Q σ
noncomputable def t_law_places:Tr:=T_law_places
theorem vc_law_places (Γ:Gam):VC Γ b__law_places 1 12 t_law_places:=by
 rintro args Q σ ⟨kx,ga,K,rfl,hK,hOk,hQ⟩
 refine ⟨rfl,?_⟩
 unfold b__law_places
 have hcnt:=hOk.count
 refine s_asgX (e_list0 fun pl hpl=>?_)
 have x0:Ext [] σ (σ.set pl (.list [])):=(Ext.refl [] _).updN hpl _
 obtain ⟨f0,hf0⟩:=(hK.mono x0).o
 refine s_forX (ev_w (x_rng (n:=K.count) (x_attr rfl hf0 rfl) (by unfold LIM;lia)) (forK_rng (fun i m' σ'=>EI2_4 (fun (pa:Nat→Addr) (x2:Option AV) m'=>m'=[some (.obj 52 kx),some (.ref pl),x2,none,none,none,none,none,none,none,none,none]) (fun (pa:Nat→Addr) (x2:Option AV) σ'=>Ext [] σ σ') (fun (pa:Nat→Addr) (x2:Option AV) σ'=>σ' pl=some (.list ((List.range i).map fun k=>.ref (pa k)))) (fun (pa:Nat→Addr) (x2:Option AV) σ'=>(∀ k,k < i→σ' (pa k)=some (.list [])∧σ (pa k)=none∧pa k≠pl)) (fun (pa:Nat→Addr) (x2:Option AV) σ'=>∀ j k,j < i→k < i→pa j=pa k→j=k) m' σ') ⟨fun _=>0,_,rfl,x0,set_same _ _ _,fun k h=>absurd h (Nat.not_lt_zero _),fun j k h=>absurd h (Nat.not_lt_zero _)⟩ ?_ ?_))
 · rintro i m' σ' C hi ⟨pa,x2,rfl,a1,a2,a3,a4⟩ hC _
   refine s_expr (e_appX rfl a2 (e_list0 fun q hq=>?_))
   have hqp:pl≠q:=ne_of a2 hq
   have a2':=(set_ne σ' (.list []) hqp).trans a2
   have hq0:=a1.none hq
   have hpq:∀ k,k < i→pa k≠q:=fun k hk=>ne_of (a3 k hk).1 hq
   refine bmK_app a2' (by rw [List.length_map,List.length_range];unfold LIM;lia) (s_nop (hC _ _ ⟨fun k=>if k=i then q else pa k,_,rfl,(a1.updN hq0 _).updN hpl _,?_,fun k hk=>?_,fun j k hj hk e=>?_⟩))
   · rw [set_same,List.range_succ,List.map_append,List.map_singleton]
     dsimp only
     rw [if_pos rfl]
     congr 3
     exact List.map_congr_left fun k hk=>by rw [if_neg fun (q:k=i)=>by rw [q] at hk;exact absurd (List.mem_range.mp hk) (Nat.lt_irrefl _)]
   · dsimp only
     by_cases c:k=i
     · rw [if_pos c]
       exact ⟨(set_ne _ _ hqp.symm).trans (set_same _ _ _),hq0,hqp.symm⟩
     · rw [if_neg c]
       obtain ⟨h1,h2,h3⟩:=a3 k (by lia)
       exact ⟨(set_ne _ _ h3).trans ((set_ne _ _ (hpq k (by lia))).trans h1),h2,h3⟩
   · dsimp only at e
     by_cases cj:j=i
     · by_cases ck:k=i
       · rw [cj,ck]
       · rw [if_pos cj,if_neg ck] at e
         exact absurd e.symm (hpq k (by lia))
     · by_cases ck:k=i
       · rw [if_neg cj,if_pos ck] at e
         exact absurd e (hpq j (by lia))
       · rw [if_neg cj,if_neg ck] at e
         exact a4 j k (by lia) (by lia) e
 rintro _ σ1 ⟨pa,x2,rfl,a1,a2,a3,a4⟩
 have hpa0:∀ b ∈ (List.range K.count).map pa,σ b=none:=fun b hb=>by
  obtain ⟨k,hk,rfl⟩:=List.mem_map.mp hb
  exact (a3 k (List.mem_range.mp hk)).2.1
 have hP1:PLs σ1 pl K.count pa []:=⟨a2,fun k hk=>(a3 k hk).1,a4,fun k hk=>(a3 k hk).2.2⟩
 clear a2 a3 a4
 obtain ⟨f1,hf1⟩:=(hK.mono a1).o
 refine s_asgX (e_list (es_cons (e_tup (es_ev (v:=.int (-1)) rfl (es_ev (v:=.int 0) rfl (es_ev (v:=.str (S "head")) rfl (es_cons (e_bi (es_ev (x_attr rfl hf1 rfl) (es_nil fun la hla=>es_nil ⟨show 4≤LIM by decide,es_nil ⟨show 1≤LIM by decide,fun rw hrw=>?_⟩⟩))))))))))
 have hlr:la≠rw:=ne_of (set_same σ1 la _) hrw
 have hrw1:σ1 rw=none:=by rwa [set_ne _ _ hlr.symm] at hrw
 have hla0:=a1.none hla
 have hrw0:=a1.none hrw1
 have hB:RB σ ((σ1.set la (.list (K.args.map enc))).set rw (.list [.tup [.int (-1),.int 0,.str (S "head"),.ref la]])) pl K.count pa rw [(⟨-1,0,S "head",K.args⟩,la)]:=
  ⟨hP1.keep fun b o e _=>(set_ne _ _ (ne_of e hrw1)).trans ((set_ne _ _ (ne_of e hla)).trans e),(a1.updN hla0 _).updN hrw0 _,hrw0,set_same _ _ _,fun x hx=>by rw [List.mem_singleton.mp hx];exact ⟨(set_ne _ _ hlr).trans (set_same _ _ _),hlr,fun q=>hP1.ex q hla⟩,
   ⟨(ne_of hP1.p hrw1).symm,fun q=>hP1.ex q hrw1⟩⟩
 generalize (σ1.set la (.list (K.args.map enc))).set rw (.list [.tup [.int (-1),.int 0,.str (S "head"),.ref la]])=σ2 at hB
 refine s_asg (v:=.int 0) rfl ?_
 obtain ⟨f2,hf2⟩:=(hK.mono hB.e).o
 have hgl:K.goals.length≤LIM:=Nat.le_trans hOk.goalsLen (by decide)
 have hrl:ev σ2 [some (.obj 52 kx),some (.ref pl),x2,some (.ref rw),some (.int 0),none,none,none,none,none,none,none] (.bi .len (.cons (.attr (.var 0) (S "goals")) .nil))=some (.int (K.goals.length:Nat)):=by
  rw [x_lenL (x_attr rfl hf2 rfl) (hK.mono hB.e).g,List.length_map]
 refine s_forX (ev_w (x_rng hrl hgl) (forK_rng (fun i m' σ'=>EI3_2 (fun (x5 x6:Option AV) (RS:List (Row × Addr)) m'=>m'=[some (.obj 52 kx),some (.ref pl),x2,some (.ref rw),some (.int (callsIn (K.goals.take i):Nat)),x5,x6,none,none,none,none,none]) (fun (x5 x6:Option AV) (RS:List (Row × Addr)) σ'=>RB σ σ' pl K.count pa rw RS) (fun (x5 x6:Option AV) (RS:List (Row × Addr)) σ'=>RS.map Prod.fst=⟨-1,0,S "head",K.args⟩::goalsG rowL 0 0 (K.goals.take i)) m' σ') ⟨_,_,_,rfl,hB,rfl⟩ ?_ ?_))
 · rintro i m' σ' C hi ⟨x5,x6,RS,rfl,b1,b2⟩ hC _
   have hK':=hK.mono b1.e
   obtain ⟨f3,hf3⟩:=hK'.o
   have hg:=hOk.goalsOk _ (List.getElem_mem hi)
   have hgv:(K.goals.map encG)[i]?=some (encG K.goals[i]):=by rw [List.getElem?_map,List.getElem?_eq_getElem hi];rfl
   refine s_asg (v:=encG K.goals[i]) (x_idxL (x_attr rfl hf3 rfl) hK'.g rfl ((pyIdx_of rfl).trans hgv)) ?_
   have hrow:=goalsG_take rowL hi
   have hci:callsIn (K.goals.take (i+1))=callsIn (K.goals.take i)+(if K.goals[i].isCall=true then 1 else 0):=by rw [take_snoc hi,callsIn_snoc]
   have hRl:(RS.map fun x=>AV.tup (rowT x)).length < LIM:=by
    have h1:=congrArg List.length b2
    rw [List.length_map,List.length_cons] at h1
    have h2:=goalsG_len (F:=rowL) (B:=1) (K.goals.take i) 0 0 fun g _ a c=>by cases g <;> first | exact Nat.le_refl _ | exact Nat.zero_le _
    have h3:=List.length_take_le i K.goals
    have h4:=hOk.goalsLen
    rw [List.length_map,h1]
    unfold LIM
    lia
   revert hg hrow hci
   generalize K.goals[i]=g
   intro hg hrow hci
   refine s_join (fun m' σ'=>EI1_2 (fun (RS':List (Row × Addr)) m'=>m'=[some (.obj 52 kx),some (.ref pl),x2,some (.ref rw),some (.int (callsIn (K.goals.take i):Nat)),some (.int i),some (encG g),none,none,none,none,none]) (fun (RS':List (Row × Addr)) σ'=>RB σ σ' pl K.count pa rw RS') (fun (RS':List (Row × Addr)) σ'=>RS'.map Prod.fst=⟨-1,0,S "head",K.args⟩::goalsG rowL 0 0 (K.goals.take (i+1))) m' σ') (fun C1 hC1 _=>?_) ?_
   · have fin:∀ {a:Addr} (r:Row),σ' a=none→rowL i (callsIn (K.goals.take i)) g=[r]→C1 .next [some (.obj 52 kx),some (.ref pl),x2,some (.ref rw),some (.int (callsIn (K.goals.take i):Nat)),some (.int i),some (encG g),none,none,none,none,none] ((σ'.set a (.list (r.ts.map enc))).set rw (.list ((RS.map fun x=>.tup (rowT x))++[.tup (rowT (r,a))]))):=
      fun r ha hr=>hC1 _ _ ⟨_,rfl,b1.add ha r,by rw [List.map_append,b2,hrow,hr];rfl⟩
     have rwx:∀ {a:Addr} {o:AO},σ' a=none→(σ'.set a o) rw=some (.list (RS.map fun x=>.tup (rowT x))):=fun ha=>(set_ne _ _ (ne_of b1.r ha)).trans b1.r
     refine i_if (evB_w (encG_in3 (i:=6) hg _ _ rfl) ?_)
     cases g with
     | sp w k=>
      refine (if_pos rfl).mpr (s_expr (e_appX rfl b1.r (e_tup (es_ev (v:=.int i) rfl (es_ev (v:=.int (callsIn (K.goals.take i):Nat)) rfl (es_ev (v:=.str (S "special")) rfl (es_cons (e_list1 (v:=enc (.v k)) rfl fun a ha=>es_nil ?_))))))))
      exact ⟨show 4≤LIM by decide,bmK_app (rwx ha) hRl (s_nop (fin ⟨i,callsIn (K.goals.take i),S "special",[.v k]⟩ ha rfl))⟩
     | un x y=>
      refine (if_neg Bool.false_ne_true).mpr (s_if (encG_un (i:=6) hg _ _ rfl) (fun _=>?_) (fun q=>nomatch q))
      refine s_expr (e_appX rfl b1.r (e_tup (es_ev (v:=.int i) rfl (es_ev (v:=.int (callsIn (K.goals.take i):Nat)) rfl (es_ev (v:=.str (S "goal")) rfl (es_cons (e_list (es_ev (v:=enc x) rfl (es_ev (v:=enc y) rfl (es_nil ⟨show 2≤LIM by decide,fun a ha=>es_nil ?_⟩))))))))))
      exact ⟨show 4≤LIM by decide,bmK_app (rwx ha) hRl (s_end (s_nop (fin ⟨i,callsIn (K.goals.take i),S "goal",[x,y]⟩ ha rfl)))⟩
     | tm w f ts=>
      refine (if_neg Bool.false_ne_true).mpr (s_if (encG_un (i:=6) hg _ _ rfl) (fun q=>nomatch q) (fun _=>s_if (encG_in2 (i:=6) hg _ _ rfl) (fun _=>?_) (fun q=>nomatch q)))
      refine s_expr (e_appX rfl b1.r (e_tup (es_ev (v:=.int i) rfl (es_ev (v:=.int (callsIn (K.goals.take i):Nat)) rfl (es_ev (v:=.str (S "goal")) rfl (es_cons (e_bi (es_ev (v:=.tup (encs ts)) rfl (es_nil fun a ha=>es_nil ?_)))))))))
      refine ⟨show 4≤LIM by decide,bmK_app (rwx ha) hRl (s_end (s_end (s_nop ?_)))⟩
      rw [encs_map]
      exact fin ⟨i,callsIn (K.goals.take i),S "goal",ts⟩ ha rfl
     | ct w=>
      refine (if_neg Bool.false_ne_true).mpr (s_if (encG_un (i:=6) hg _ _ rfl) (fun q=>nomatch q) (fun _=>s_if (encG_in2 (i:=6) hg _ _ rfl) (fun q=>nomatch q) (fun _=>s_end (s_end (s_nop (hC1 _ _ ⟨RS,rfl,b1,?_⟩))))))
      rw [b2,hrow]
      exact (congrArg _ (List.append_nil _)).symm
   · rintro _ σ'' ⟨RS',rfl,c1,c2⟩
     refine s_if (encG_call hg _ _ 6 rfl) (fun q=>?_) (fun q=>?_)
     · rw [if_pos q] at hci
       refine s_augV (x:=(callsIn (K.goals.take i):Nat)) (y:=1) rfl rfl rfl (.inl rfl) (s_end (s_nop (hC _ _ ⟨some (.int i),some (encG g),RS',?_,c1,c2⟩)))
       rw [hci]
       rfl
     · rw [if_neg (by rw [q];decide)] at hci
       exact s_end (s_nop (hC _ _ ⟨some (.int i),some (encG g),RS',by rw [hci];rfl,c1,c2⟩))
 rintro _ σ3 ⟨x5,x6,RS,rfl,b1,b2⟩
 rw [List.take_length] at b2
 have hrs:RS.map Prod.fst=rowsL K:=b2
 have hfl:∀ pre:List (Row × Addr),pre.flatMap (fun x=>x.1.ocq)=(pre.map Prod.fst).flatMap Row.ocq:=fun pre=>by rw [List.flatMap_map]
 have hall:RS.flatMap (fun x=>x.1.ocq)=K.oc:=by rw [hfl,hrs,rowsL_oc]
 have hrows:∀ r ∈ rowsL K,oks r.ts∧(∀ k ∈ varss r.ts,k < K.count)∧sizes r.ts≤100∧r.p.length≤100:=by
  have hvk:∀ k ∈ varss K.args++K.goals.flatMap glVars,k < K.count:=fun k hk=>by
   rw [← koc_k] at hk
   obtain ⟨o,ho,rfl⟩:=List.mem_map.mp hk
   exact hOk.below o ho
  intro r hr
  rcases List.mem_cons.mp hr with q | q
  · rw [q];exact ⟨hOk.argsOk,fun k hk=>hvk k (List.mem_append_left _ hk),hOk.argsSize,show (S "head").length≤100 by decide⟩
  · have key:∀ (gs:List Gl) (a c:Nat),r ∈ goalsG rowL a c gs→∃ g ∈ gs,∃ a c,r ∈ rowL a c g:=by
     intro gs
     induction gs with
     | nil=>intro a c h;cases h
     | cons g gs ih=>
      intro a c h
      rcases List.mem_append.mp (show r ∈ rowL a c g++goalsG rowL _ _ gs from h) with h | h
      · exact ⟨g,.head _,a,c,h⟩
      · obtain ⟨g',h1,h2⟩:=ih _ _ h
        exact ⟨g',.tail _ h1,h2⟩
    obtain ⟨g,h1,a,c,h2⟩:=key _ _ _ q
    have hg:=hOk.goalsOk g h1
    have hs:=hOk.goalsSize g h1
    have hv:∀ k ∈ glVars g,k < K.count:=fun k hk=>hvk k (List.mem_append_right _ (List.mem_flatMap.mpr ⟨g,h1,hk⟩))
    cases g with
    | sp w k=>
     rw [List.mem_singleton.mp h2]
     exact ⟨⟨trivial,trivial⟩,fun j hj=>hv j hj,show 1+0≤100 by decide,show (S "special").length≤100 by decide⟩
    | un x y=>
     rw [List.mem_singleton.mp h2]
     exact ⟨⟨hg.1,hg.2,trivial⟩,fun j hj=>hv j hj,hs,show (S "goal").length≤100 by decide⟩
    | tm w f ts=>
     rw [List.mem_singleton.mp h2]
     exact ⟨hg.2,fun j hj=>hv j hj,hs,show (S "goal").length≤100 by decide⟩
    | ct w=>cases h2
 refine s_forX (ev_w (v:=.ref rw) rfl (forK_many (f:=rowT) (all:=RS) (fun pre m' σ'=>EI8_2 (fun (x4 x5 x6 x7 x8 x9 x10 x11:Option AV) m'=>m'=[some (.obj 52 kx),some (.ref pl),x2,some (.ref rw),x4,x5,x6,x7,x8,x9,x10,x11]) (fun (x4 x5 x6 x7 x8 x9 x10 x11:Option AV) σ'=>PLs σ' pl K.count pa (pre.flatMap fun x=>x.1.ocq)) (fun (x4 x5 x6 x7 x8 x9 x10 x11:Option AV) σ'=>Ext ((List.range K.count).map pa) σ3 σ') m' σ') b1.r (fun _=>rfl)
  ⟨_,_,_,_,_,_,_,_,rfl,b1.pls,Ext.refl _ _⟩ ?_ ?_ ?_))
 · rintro pre m' σ' ⟨_,_,_,_,_,_,_,_,_,c1,c2⟩
   rw [c2 rw b1.ne.2 _ b1.r,b1.r]
 · rintro pre ⟨r,a⟩ post m' σ' C e ⟨x4,x5,x6,x7,x8,x9,x10,x11,rfl,c1,c2⟩ hC _
   have hxm:(r,a) ∈ RS:=by rw [e];simp
   have hr:r ∈ rowsL K:=by rw [← hrs];exact List.mem_map_of_mem hxm
   obtain ⟨h1,h2,h3,h4⟩:=hrows r hr
   obtain ⟨h5,h6,ha⟩:=b1.l _ hxm
   have hl:(pre.flatMap fun x=>x.1.ocq).length≤200000:=by
    have h7:=koc_len hOk
    rw [← hall,e,List.flatMap_append,List.length_append] at h7
    lia
   refine walk_row2 (r:=r) c1 (c2 a ha _ h5) h1 h2 h3 h4 hl fun σ'' y9 y10 y11 d1 d2=>hC _ _ ⟨_,_,_,_,_,_,_,_,rfl,?_,c2.trans d2⟩
   rw [List.flatMap_append,List.flatMap_singleton]
   exact d1
 · rintro m' σ' ⟨x4,x5,x6,x7,x8,x9,x10,x11,rfl,c1,c2⟩
   rw [hall] at c1
   exact s_ret (v:=.ref pl) rfl (hQ pl pa σ' (fun b _ o e=>c2 b (fun q=>by rw [hpa0 b q] at e;injection e) o (b1.e.get e)) c1)
theorem kvs_congr {f g:Nat→AV} {ks:List Nat} (h:∀ k ∈ ks,f k=g k):kvsOf f ks=kvsOf g ks:=List.map_congr_left fun k hk=>by rw [h k hk]
theorem s_augId {Γ:Gam} {σ:AH} {m:Env'} {Q:AFl→Env'→AH→Prop} {b:PS} {o i e:PE} {a:Addr} {kvs:List (Int × AV)} {ep:Nat} {k x y:Int} (ho:ev σ m o=some (.ref a)) (hi:ev σ m i=some (.int k)) (ha:σ a=some (.dict kvs ep)) (hl:kvs.lookup k=some (.int x)) (he:ev σ m e=some (.int y)) (hlen:kvs.length < LIM) (hin:(kvs.any fun p=>decide (p.1=k))=true)
 (h:pwpS Γ b Q m (σ.set a (.dict (putD kvs k (.int (x+y))) ep))):pwpS Γ (.seq (.augI o i .add e) b) Q m σ:=by
 refine s_augK (ev_w ho (ev_w hi (som_of (x:=.int x) ?_ (ev_w he ?_))))
 · show (σ a).bind (idxO k)=_
   rw [ha]
   exact hl
 · exact som_of (g:=setIO a k (.int (x+y)) (fun σ=>pwpS Γ b Q m σ) σ) ha ⟨hlen,fun ep' hep=>by rw [hep hin];exact h⟩
theorem pyIdx_fst {os:List Oc} (h:os≠[]):pyIdx (os.map ocT) 0=some (ocT (fstO os)):=by
 cases os with
 | nil=>exact absurd rfl h
 | cons o os=>rfl
theorem pyIdx_lst {os:List Oc} (h:os≠[]):pyIdx (os.map ocT) (-1)=some (ocT (lstO os)):=by
 obtain ⟨l,o,rfl⟩:∃ l o,os=l++[o]:=by
  rcases List.eq_nil_or_concat os with e | ⟨l,o,e⟩
  · exact absurd e h
  · exact ⟨l,o,e.trans List.concat_eq_append⟩
 have h1:lstO (l++[o])=o:=by
  unfold lstO
  rw [List.getLast?_concat]
  rfl
 rw [h1]
 unfold pyIdx
 rw [if_neg (by decide),if_pos (by rw [List.length_map,List.length_append,List.length_singleton];lia)]
 have h2:((-1:Int)+((l++[o]).map ocT).length).toNat=(l.map ocT).length:=by
  rw [List.length_map,List.length_append,List.length_singleton,List.length_map]
  lia
 rw [h2,List.map_append,List.getElem?_append_right (Nat.le_refl _),Nat.sub_self]
 rfl
section
variable {σ:AH} {m:Env'} {pl:Addr} {n:Nat} {pa:Nat→Addr} {l:List Oc} {e i:PE} {k:Nat}
theorem PLs.at (h:PLs σ pl n pa l) (he:ev σ m e=some (.ref pl)) (hi:ev σ m i=some (.int k)) (hk:k < n):ev σ m (.idx e i)=some (.ref (pa k)):=by
 refine x_idxL he h.p hi ((pyIdx_of rfl).trans ?_)
 rw [List.getElem?_map,List.getElem?_range hk]
 rfl
theorem PLs.fst (h:PLs σ pl n pa l) (hne:∀ k,k < n→occ l k≠[]) (he:ev σ m e=some (.ref pl)) (hi:ev σ m i=some (.int k)) (hk:k < n):ev σ m (.idx (.idx e i) (.lit (.int 0)))=some (ocT (fstO (occ l k))):=
 x_idxL (h.at he hi hk) (h.i k hk) rfl (pyIdx_fst (hne k hk))
theorem PLs.lst (h:PLs σ pl n pa l) (hne:∀ k,k < n→occ l k≠[]) (he:ev σ m e=some (.ref pl)) (hi:ev σ m i=some (.int k)) (hk:k < n):ev σ m (.idx (.idx e i) (.neg (.lit (.int 1))))=some (ocT (lstO (occ l k))):=
 x_idxL (h.at he hi hk) (h.i k hk) rfl (pyIdx_lst (hne k hk))
theorem PLs.mono {σ':AH} (h:PLs σ pl n pa l) (x:Ext [] σ σ'):PLs σ' pl n pa l:=h.keep fun _ _ e _=>x.get e
end
noncomputable def crossK (l:List Oc) (k:Nat):Bool:=!decide ((fstO (occ l k)).chunk=(lstO (occ l k)).chunk)
noncomputable def homesK (n:Nat) (l:List Oc):List Nat:=(List.range n).filter (crossK l)
noncomputable def lastK (l:List Oc) (k:Nat):Int:=(lstO (occ l k)).at'
noncomputable def befH (l:List Oc) (k o:Nat):Bool:=decide (lastK l k < lastK l o) || (decide (lastK l o=lastK l k) && decide (o < k))
noncomputable def rankH (n:Nat) (l:List Oc) (k:Nat):Nat:=1+((homesK n l).filter (befH l k)).length
inductive T_law_homes (args:List AV) (Q:AV→AH→Prop) (σ:AH):Prop
 | mk (pl:Addr) (n:Nat) (pa:Nat→Addr) (l:List Oc):(args=[.ref pl])→(PLs σ pl n pa l)→(n < 64)→((∀ k,k < n→occ l k≠[]))→(∀ (r:Addr) (ep:Nat) (σ':AH),σ r=none→Ext [] σ σ'→σ' r=some (.dict (kvsOf (fun k=>.int (rankH n l k:Nat)) (homesK n l)) ep)→Q (.ref r) σ')→T_law_homes  args Q σ
noncomputable def t_law_homes:Tr:=T_law_homes
theorem vc_law_homes (Γ:Gam):VC Γ b__law_homes 1 6 t_law_homes:=by
 rintro args Q σ ⟨pl,n,pa,l,rfl,hP,hn,hne,hQ⟩
 refine ⟨rfl,?_⟩
 unfold b__law_homes
 refine s_asgX (e_dict0 fun r hr=>?_)
 have x0:Ext [] σ (σ.set r (.dict [] 0)):=(Ext.refl [] _).updN hr _
 have hl0:ev (σ.set r (.dict [] 0)) [some (.ref pl),some (.ref r),none,none,none,none] (.bi .len (.cons (.var 0) .nil))=some (.int (n:Nat)):=by
  rw [x_lenL (a:=pl) rfl (x0.get hP.p),List.length_map,List.length_range]
 refine s_forX (ev_w (x_rng hl0 (by unfold LIM;lia)) (forK_rng (fun i m' σ'=>EI2_2 (fun (x2:Option AV) (ep:Nat) m'=>m'=[some (.ref pl),some (.ref r),x2,none,none,none]) (fun (x2:Option AV) (ep:Nat) σ'=>Ext [] σ σ') (fun (x2:Option AV) (ep:Nat) σ'=>σ' r=some (.dict (kvsOf (fun _=>.int 1) ((List.range i).filter (crossK l))) ep)) m' σ') ⟨_,_,rfl,x0,set_same _ _ _⟩ ?_ ?_))
 · rintro i m' σ' C hi ⟨x2,ep,rfl,a1,a2⟩ hC _
   have hP':=hP.mono a1
   have hf:∀ b,crossK l i=b→(List.range (i+1)).filter (crossK l)=(List.range i).filter (crossK l)++(if b=true then [i] else []):=fun b hb=>by
    rw [List.range_succ,List.filter_append,List.filter_cons,List.filter_nil,hb]
   have hlen:((List.range i).filter (crossK l)).length≤i:=by have:=List.length_filter_le (crossK l) (List.range i);rwa [List.length_range] at this
   refine s_if (t:=crossK l i) (xb_cmp (x_idxT (hP'.fst hne rfl rfl hi) rfl rfl) (x_idxT (hP'.lst hne rfl rfl hi) rfl rfl) ?_) (fun q=>?_) (fun q=>?_)
   · show some (!decide (((fstO (occ l i)).chunk:Int)=((lstO (occ l i)).chunk:Int)))=_
     unfold crossK
     congr 2
     exact decide_eq_decide.mpr Int.ofNat_inj
   · have hni:i ∉ (List.range i).filter (crossK l):=fun q=>absurd (List.mem_range.mp (List.mem_filter.mp q).1) (Nat.lt_irrefl _)
     refine s_asgId (v:=.int 1) rfl rfl rfl a2 (by unfold kvsOf LIM;rw [List.length_map];lia) fun ep' _=>s_end (s_nop (hC _ _ ⟨_,ep',rfl,a1.updN hr _,?_⟩))
     rw [set_same,kvs_putNew hni,hf true q,if_pos rfl]
     congr 2
     exact kvs_congr fun k _=>ite_self _
   · refine s_end (s_nop (hC _ _ ⟨_,ep,rfl,a1,?_⟩))
     rw [hf false q,if_neg (by decide),List.append_nil]
     exact a2
 rintro _ σ1 ⟨x2,ep,rfl,a1,a2⟩
 have a2':σ1 r=some (.dict (kvsOf (fun _=>.int 1) (homesK n l)) ep):=a2
 have hhn:∀ k ∈ homesK n l,k < n:=fun k hk=>List.mem_range.mp (List.mem_filter.mp hk).1
 have hnd:(homesK n l).Nodup:=List.nodup_range.filter _
 have hhl:(homesK n l).length≤n:=pigeon n _ hnd hhn
 have hkl:∀ f:Nat→AV,(kvsOf f (homesK n l)).length < LIM:=fun f=>by unfold kvsOf LIM;rw [List.length_map];lia
 refine s_forX (ev_w (v:=.ref r) rfl (forK_one (f:=fun (n:Nat)=>AV.int (n:Int)) (all:=homesK n l) (fun pre m' σ'=>EI4_2 (fun (x2 x3 x4 x5:Option AV) m'=>m'=[some (.ref pl),some (.ref r),x2,x3,x4,x5]) (fun (x2 x3 x4 x5:Option AV) σ'=>Ext [] σ σ') (fun (x2 x3 x4 x5:Option AV) σ'=>σ' r=some (.dict (kvsOf (fun k=>if k ∈ pre then .int (rankH n l k:Nat) else .int 1) (homesK n l)) ep)) m' σ') (items_kvs a2') ⟨_,_,_,_,rfl,a1,a2'⟩ ?_ ?_ ?_))
 · rintro pre m' σ' ⟨_,_,_,_,_,_,b2⟩
   refine sameSrc_dict a2' b2 ?_
   unfold kvsOf
   rw [List.map_map,List.map_map]
   rfl
 · rintro pre k post m' σ' C e ⟨x2,x3,x4,x5,rfl,b1,b2⟩ hC _
   have hkm:k ∈ homesK n l:=by rw [e];simp
   have hkn:=hhn k hkm
   have hkp:k ∉ pre:=fun q=>by
    rw [e] at hnd
    exact (List.nodup_append.mp hnd).2.2 k q k (.head _) rfl
   have hP':=hP.mono b1
   refine s_asg (v:=.int (lastK l k)) (x_idxT (hP'.lst hne rfl rfl hkn) rfl rfl) ?_
   refine s_forX (ev_w (v:=.ref r) rfl (forK_one (f:=fun (n:Nat)=>AV.int (n:Int)) (all:=homesK n l) (fun pre' m' σ'=>EI2_2 (fun (x4 x5:Option AV) m'=>m'=[some (.ref pl),some (.ref r),some (.int k),some (.int (lastK l k)),x4,x5]) (fun (x4 x5:Option AV) σ'=>Ext [] σ σ') (fun (x4 x5:Option AV) σ'=>σ' r=some (.dict (kvsOf (fun j=>if j=k then .int ((1+(pre'.filter (befH l k)).length:Nat):Int) else if j ∈ pre then .int (rankH n l j:Nat) else .int 1) (homesK n l)) ep)) m' σ') (items_kvs b2) ⟨_,_,rfl,b1,?_⟩ ?_ ?_ ?_))
   · rw [b2]
     congr 2
     refine kvs_congr fun j _=>?_
     by_cases c:j=k
     · rw [if_pos c,c,if_neg hkp];rfl
     · rw [if_neg c]
   · rintro pre' m' σ' ⟨_,_,_,_,c2⟩
     refine sameSrc_dict b2 c2 ?_
     unfold kvsOf
     rw [List.map_map,List.map_map]
     rfl
   · rintro pre' o post' m' σ2 C' e' ⟨y4,y5,rfl,c1,c2⟩ hC' _
     have hom:o ∈ homesK n l:=by rw [e'];simp
     have hon:=hhn o hom
     have hP2:=hP.mono c1
     have hf:∀ b,befH l k o=b→(pre'++[o]).filter (befH l k)=pre'.filter (befH l k)++(if b=true then [o] else []):=fun b hb=>by
      rw [List.filter_append,List.filter_cons,List.filter_nil,hb]
     refine s_asg (v:=.int (lastK l o)) (x_idxT (hP2.lst hne rfl rfl hon) rfl rfl) ?_
     have hgt:cmpW .gt σ2 (.int (lastK l o)) (.int (lastK l k))=some (decide (lastK l k < lastK l o)):=rfl
     have hand:evB σ2 [some (.ref pl),some (.ref r),some (.int k),some (.int (lastK l k)),some (.int o),some (.int (lastK l o))] (.bop true (.cons (.cmp .eq (.var 5) (.var 3)) (.cons (.cmp .lt (.var 4) (.var 2)) .nil)))=some (decide (lastK l o=lastK l k) && decide (o < k)):=by
      refine xb_all (b:=decide (lastK l o=lastK l k)) (xb_cmp rfl rfl rfl) (fun h=>xb_all (b:=decide (o < k)) (xb_cmp (x:=.int o) (y:=.int k) rfl rfl (congrArg some (decide_eq_decide.mpr (by lia)))) (fun h2=>?_) (fun h2=>?_)) (fun h=>?_)
      · rw [h,h2];rfl
      · rw [h];rfl
      · rw [eq_false_of_ne_true h];rfl
     refine s_if (t:=befH l k o) (xb_all (b:=decide (lastK l k < lastK l o)) (xb_cmp rfl rfl hgt) (fun h=>xb_all hand (fun h2=>?_) (fun h2=>?_)) (fun h=>?_)) (fun q=>?_) (fun q=>?_)
     · unfold befH;rw [h,h2];rfl
     · unfold befH;rw [h];rfl
     · unfold befH;rw [eq_true_of_ne_false h];rfl
     · refine s_augId (k:=(k:Int)) rfl rfl c2 ((kvs_lookup hkm).trans (by rw [if_pos rfl])) (y:=1) rfl (hkl _) (by rw [kvs_any];exact decide_eq_true hkm) (s_end (s_nop (hC' _ _ ⟨_,_,rfl,c1.updN hr _,?_⟩)))
       rw [set_same,kvs_putOld hkm]
       congr 2
       refine kvs_congr fun j _=>?_
       by_cases c:j=k
       · rw [if_pos c,if_pos c,hf true q,if_pos rfl,List.length_append,List.length_singleton]
         congr 1
       · rw [if_neg c,if_neg c,if_neg c]
     · refine s_end (s_nop (hC' _ _ ⟨_,_,rfl,c1,?_⟩))
       rw [hf false q,if_neg (by decide),List.append_nil]
       exact c2
   · rintro m' σ2 ⟨y4,y5,rfl,c1,c2⟩
     refine s_nop (hC _ _ ⟨_,_,_,_,rfl,c1,?_⟩)
     rw [c2]
     congr 2
     refine kvs_congr fun j _=>?_
     by_cases c:j=k
     · rw [if_pos c,c,if_pos (List.mem_append_right _ (.head _))]
       rfl
     · rw [if_neg c]
       by_cases d:j ∈ pre
       · rw [if_pos d,if_pos (List.mem_append_left _ d)]
       · rw [if_neg d,if_neg fun q=>(List.mem_append.mp q).elim d fun q=>c (List.mem_singleton.mp q)]
 · rintro m' σ' ⟨x2,x3,x4,x5,rfl,b1,b2⟩
   refine s_ret (v:=.ref r) rfl (hQ r ep σ' hr b1 ?_)
   rw [b2]
   congr 2
   exact kvs_congr fun k hk=>if_pos hk
theorem PlanAt.put {σ:AH} {p D c l:Addr} {ep:Nat} {ad:Nat→Addr} {P:PlanD} (h:PlanAt σ p D c l ep ad P) {k:Nat} (hk:k ∈ P.ks) (v:Info):PlanAt (σ.set (ad k) (.attrs 87 v.fs)) p D c l ep ad { P with inf:=fun j=>if j=k then v else P.inf j } where
 o:=(set_ne _ _ fun q=>by have:=h.o;rw [q,h.a.i k hk] at this;injection this with this;injection this with this;exact absurd this (by decide)).trans h.o
 a:=h.a.put hk v
 hc:=(set_ne _ _ fun q=>by have:=h.hc;rw [q,h.a.i k hk] at this;(injection this with z0;injection z0)).trans h.hc
 hl:=(set_ne _ _ fun q=>by have:=h.hl;rw [q,h.a.i k hk] at this;(injection this with z0;injection z0)).trans h.hl
 cl:=h.cl
theorem PlanAt.congr {σ:AH} {p D c l:Addr} {ep:Nat} {ad:Nat→Addr} {P P':PlanD} (h:PlanAt σ p D c l ep ad P) (e:P=P'):PlanAt σ p D c l ep ad P':=e ▸ h
theorem fold_min:∀ (r:List Nat) (i:Nat),∃ a,a ∈ i::r∧(natsI r).foldl min (i:Int)=(a:Nat)∧∀ x ∈ i::r,a≤x
 | [],i=>⟨i,.head _,rfl,fun x hx=>by rw [List.mem_singleton.mp hx];exact Nat.le_refl _⟩
 | j::r,i=>by
  obtain ⟨a,h1,h2,h3⟩:=fold_min r (min i j)
  refine ⟨a,?_,?_,fun x hx=>?_⟩
  · rcases List.mem_cons.mp h1 with q | q
    · rw [q]
      rcases Nat.le_total i j with h | h
      · rw [Nat.min_eq_left h];exact .head _
      · rw [Nat.min_eq_right h];exact .tail _ (.head _)
    · exact .tail _ (.tail _ q)
  · rw [← h2]
    show (natsI r).foldl min (min (i:Int) (j:Int))=_
    rw [show min (i:Int) (j:Int)=((min i j:Nat):Int) by omega]
  · have h4:=h3 (min i j) (.head _)
    rcases List.mem_cons.mp hx with q | q
    · rw [q];omega
    · rcases List.mem_cons.mp q with q | q
      · rw [q];omega
      · exact h3 x (.tail _ q)
theorem fold_max:∀ (r:List Nat) (i:Nat),∃ a,a ∈ i::r∧(natsI r).foldl max (i:Int)=(a:Nat)∧∀ x ∈ i::r,x≤a
 | [],i=>⟨i,.head _,rfl,fun x hx=>by rw [List.mem_singleton.mp hx];exact Nat.le_refl _⟩
 | j::r,i=>by
  obtain ⟨a,h1,h2,h3⟩:=fold_max r (max i j)
  refine ⟨a,?_,?_,fun x hx=>?_⟩
  · rcases List.mem_cons.mp h1 with q | q
    · rw [q]
      rcases Nat.le_total i j with h | h
      · rw [Nat.max_eq_right h];exact .tail _ (.head _)
      · rw [Nat.max_eq_left h];exact .head _
    · exact .tail _ (.tail _ q)
  · rw [← h2]
    show (natsI r).foldl max (max (i:Int) (j:Int))=_
    rw [show max (i:Int) (j:Int)=((max i j:Nat):Int) by omega]
  · have h4:=h3 (max i j) (.head _)
    rcases List.mem_cons.mp hx with q | q
    · rw [q];omega
    · rcases List.mem_cons.mp q with q | q
      · rw [q];omega
      · exact h3 x (.tail _ q)
noncomputable def swapI (inf:Nat→Info) (a b:Nat):Nat→Info:=fun j=>if j=b then { inf b with slot:=(inf a).slot } else if j=a then { inf a with slot:=(inf b).slot } else inf j
inductive T_law_swapped (args:List AV) (Q:AV→AH→Prop) (σ:AH):Prop
 | mk (p D c l H:Addr) (ep eph:Nat) (ad:Nat→Addr) (P:PlanD) (f:Nat→AV) (hk:List Nat):(args=[.obj 143 p,.ref H])→(PlanAt σ p D c l ep ad P)→(σ H=some (.dict (kvsOf f hk) eph))→(hk.Nodup)→(1 < hk.length)→((∀ k ∈ hk,k ∈ P.ks))→(∀ (a b:Nat) (σ':AH),a ∈ hk→b ∈ hk→a < b→PlanAt σ' p D c l ep ad { P with inf:=swapI P.inf a b }→Ext (P.ks.map ad) σ σ'→Q .none σ')→T_law_swapped  args Q σ
noncomputable def t_law_swapped:Tr:=T_law_swapped
theorem vc_law_swapped (Γ:Gam) (hΓ:Γ.attrOk=P0.attrOk):VC Γ b__law_swapped 2 7 t_law_swapped:=by
 rintro args Q σ ⟨p,D,c,l,H,ep,eph,ad,P,f,hk,rfl,hp,hH,hnd,hlen,hks,hQ⟩
 refine ⟨rfl,?_⟩
 unfold b__law_swapped
 obtain ⟨i,r,rfl⟩:∃ i r,hk=i::r:=by
  cases hk with
  | nil=>exact absurd hlen (by decide)
  | cons i r=>exact ⟨i,r,rfl⟩
 obtain ⟨mn,h1,h2,h3⟩:=fold_min r i
 obtain ⟨mx,h4,h5,h6⟩:=fold_max r i
 have hmm:mn < mx:=by
  refine Nat.lt_of_le_of_ne (h3 mx h4) fun q=>?_
  cases r with
  | nil=>exact absurd (show 1 < 1 from hlen) (by decide)
  | cons j r=>
   have e1:i=mn:=Nat.le_antisymm (q ▸ h6 i (.head _)) (h3 i (.head _))
   have e2:j=mn:=Nat.le_antisymm (q ▸ h6 j (.tail _ (.head _))) (h3 j (.tail _ (.head _)))
   exact (List.nodup_cons.mp hnd).1 (by rw [e1,← e2];exact .head _)
 have hit:(itemsOf σ (.ref H)).bind intsOf=some ((i:Int)::natsI r):=by
  rw [items_kvs hH]
  exact intsOf_nats (i::r)
 refine s_asg (v:=.int (mn:Nat)) ?_ (s_asg (v:=.int (mx:Nat)) ?_ ?_)
 · show foldV min σ (.ref H)=_
   show ((itemsOf σ (.ref H)).bind intsOf).bind (foldL _)=_
   rw [hit]
   exact congrArg (fun x=>some (AV.int x)) h2
 · show foldV max σ (.ref H)=_
   show ((itemsOf σ (.ref H)).bind intsOf).bind (foldL _)=_
   rw [hit]
   exact congrArg (fun x=>some (AV.int x)) h5
 have hlast:∀ (m:Env') (j:Nat) (k:Nat),varV m 0=some (.obj 143 p)→varV m j=some (.int k)→k ∈ i::r→ev σ m (.attr (.idx (.attr (.var 0) (S "infos")) (.var j)) (S "last_goal"))=some (.int (P.inf k).last):=fun m j k h0 hj hk=>
  x_attr (x_idxD (x_attr h0 hp.o rfl) hp.a.d hj (kvs_lookup (hks k hk))) (hp.a.i k (hks k hk)) rfl
 refine s_forX (ev_w (v:=.ref H) rfl (forK_one (f:=fun (n:Nat)=>AV.int (n:Int)) (all:=i::r) (fun pre m' σ'=>EI4_4 (fun (a b:Nat) (x4 x5:Option AV) m'=>m'=[some (.obj 143 p),some (.ref H),some (.int a),some (.int b),x4,x5,none]) (fun (a b:Nat) (x4 x5:Option AV) σ'=>σ'=σ) (fun (a b:Nat) (x4 x5:Option AV) σ'=>a ∈ i::r) (fun (a b:Nat) (x4 x5:Option AV) σ'=>b ∈ i::r) (fun (a b:Nat) (x4 x5:Option AV) σ'=>a < b) m' σ') (items_kvs hH) ⟨mn,mx,_,_,rfl,rfl,h1,h4,hmm⟩ ?_ ?_ ?_))
 · rintro pre m' σ' ⟨_,_,_,_,_,rfl,_⟩
   exact sameSrc_dict hH hH rfl
 · rintro pre k post m' σ' C e ⟨a,b,x4,x5,rfl,rfl,c1,c2,c3⟩ hC _
   have hkm:k ∈ i::r:=by rw [e];simp
   refine s_forX (ev_w (v:=.ref H) rfl (forK_one (f:=fun (n:Nat)=>AV.int (n:Int)) (all:=i::r) (fun pre m' σ''=>EI3_4 (fun (a b:Nat) (x5:Option AV) m'=>m'=[some (.obj 143 p),some (.ref H),some (.int a),some (.int b),some (.int k),x5,none]) (fun (a b:Nat) (x5:Option AV) σ''=>σ''=σ') (fun (a b:Nat) (x5:Option AV) σ''=>a ∈ i::r) (fun (a b:Nat) (x5:Option AV) σ''=>b ∈ i::r) (fun (a b:Nat) (x5:Option AV) σ''=>a < b) m' σ'') (items_kvs hH) ⟨a,b,_,rfl,rfl,c1,c2,c3⟩ ?_ ?_ ?_))
   · rintro pre m' σ' ⟨_,_,_,_,rfl,_⟩
     exact sameSrc_dict hH hH rfl
   · rintro pre' o post' m' σ'' C' e' ⟨a,b,x5,rfl,rfl,d1,d2,d3⟩ hC' _
     have hom:o ∈ i::r:=by rw [e'];simp
     refine s_if (t:=decide (k < o) && decide ((P.inf k).last=(P.inf o).last)) (xb_all (b:=decide (k < o)) (xb_cmp (x:=.int k) (y:=.int o) rfl rfl (congrArg some (decide_eq_decide.mpr (by lia)))) (fun h=>xb_all (b:=decide ((P.inf k).last=(P.inf o).last)) (xb_cmp (hlast _ 4 k rfl rfl hkm) (hlast _ 5 o rfl rfl hom) rfl) (fun h2=>?_) (fun h2=>?_)) (fun h=>?_)) (fun q=>?_) (fun q=>s_end (s_nop (hC' _ _ ⟨a,b,_,rfl,rfl,d1,d2,d3⟩)))
     · rw [h,h2];rfl
     · rw [h];rfl
     · rw [eq_false_of_ne_true h];rfl
     · rw [Bool.and_eq_true] at q
       exact s_asg (v:=.int k) rfl (s_asg (v:=.int o) rfl (s_end (s_nop (hC' _ _ ⟨k,o,_,rfl,rfl,hkm,hom,of_decide_eq_true q.1⟩))))
   · rintro m' σ'' ⟨a,b,x5,rfl,rfl,d1,d2,d3⟩
     exact s_nop (hC _ _ ⟨a,b,_,_,rfl,rfl,d1,d2,d3⟩)
 · rintro m' σ' ⟨a,b,x4,x5,rfl,rfl,c1,c2,c3⟩
   have ha:=hks a c1
   have hb:=hks b c2
   have hsl:∀ (m:Env') (j:Nat) (k:Nat),varV m 0=some (.obj 143 p)→varV m j=some (.int k)→k ∈ P.ks→ev σ' m (.idx (.attr (.var 0) (S "infos")) (.var j))=some (.obj 87 (ad k)):=fun m j k h0 hj hk=>x_idxD (x_attr h0 hp.o rfl) hp.a.d hj (kvs_lookup hk)
   refine s_asg (v:=.int (P.inf a).slot) (x_attr (hsl _ 2 a rfl rfl ha) (hp.a.i a ha) rfl) ?_
   refine s_asgA (v:=.int (P.inf b).slot) (x_attr (hsl _ 3 b rfl rfl hb) (hp.a.i b hb) rfl) (hsl _ 2 a rfl rfl ha) (hp.a.i a ha) (by rw [hΓ];decide) (show 9 < 1000 by decide) ?_
   have hp2:=hp.put ha { P.inf a with slot:=(P.inf b).slot }
   have hba:b≠a:=fun q=>by lia
   have hib:=hp2.a.i b hb
   have e1:(if b=a then { P.inf a with slot:=(P.inf b).slot } else P.inf b)=P.inf b:=if_neg hba
   have hib':=hib.trans (congrArg (fun i=>some (AO.attrs 87 (Info.fs i))) e1)
   refine s_asgA (v:=.int (P.inf a).slot) rfl (x_idxD (x_attr (C:=143) rfl hp2.o rfl) hp2.a.d rfl (kvs_lookup hb)) hib' (by rw [hΓ];decide) (show 9 < 1000 by decide) ?_
   have hp3:=hp2.put hb { P.inf b with slot:=(P.inf a).slot }
   exact s_nop (hQ a b _ c1 c2 c3 hp3 ((Ext.upd (List.mem_map_of_mem ha) _).trans (Ext.upd (List.mem_map_of_mem hb) _)))
noncomputable def updK (inf:Nat→Info) (k:Nat) (v:Info):Nat→Info:=fun j=>if j=k then v else inf j
inductive Spoil (hk:List Nat) (P:PlanD):PlanD→Prop
 | env:Spoil hk P { P with env:=P.env+1 }
 | needs:Spoil hk P { P with needs:=!P.needs }
 | chunks:Spoil hk P { P with chunks:=P.chunks++[0] }
 | live:Spoil hk P { P with live:=P.live++[0] }
 | chunkAt (i:Nat):i < P.chunks.length→Spoil hk P { P with chunks:=P.chunks.set i (cAt P i+1) }
 | liveUp (i:Nat):i < P.live.length→Spoil hk P { P with live:=P.live.set i (lAt P i+1) }
 | liveDn (i:Nat):i < P.live.length→Spoil hk P { P with live:=P.live.set i (lAt P i - 1) }
 | envDn:P.ks=[]→Spoil hk P { P with env:=P.env - 1 }
 | last (k:Nat):k ∈ P.ks→Spoil hk P { P with inf:=updK P.inf k { P.inf k with last:=(P.inf k).last+1 } }
 | uns (k:Nat):k ∈ P.ks→Spoil hk P { P with inf:=updK P.inf k { P.inf k with uns:=!(P.inf k).uns } }
 | swap (a b:Nat):a ∈ hk→b ∈ hk→a < b→Spoil hk P { P with inf:=swapI P.inf a b }
 | var (k:Nat):k ∈ P.ks→Spoil hk P { P with inf:=updK P.inf k { P.inf k with var:=(P.inf k).var+1 } }
 | first (k:Nat):k ∈ P.ks→Spoil hk P { P with inf:=updK P.inf k { P.inf k with first:=if (P.inf k).first=S "special" then S "goal_arg" else S "special" } }
 | pop (k:Nat):k ∈ P.ks→Spoil hk P { P with ks:=P.ks.filter fun j=>decide (j≠k) }
 | kslot (k:Nat):k ∈ P.ks→Spoil hk P { P with inf:=updK P.inf k { P.inf k with kind:=S "slot" } }
 | kind (k:Nat):k ∈ P.ks→Spoil hk P { P with inf:=updK P.inf k { P.inf k with kind:=if (P.inf k).kind=S "temp" then S "void" else S "temp" } }
 | slot (k:Nat):k ∈ P.ks→Spoil hk P { P with inf:=updK P.inf k { P.inf k with slot:=(P.inf k).slot+1 } }
section
variable {Γ:Gam} {σ:AH} {m:Env'} {Q:AFl→Env'→AH→Prop} {b:PS} {R:AV→AH→Prop}
theorem s_augIl {o i e:PE} {op:Op2} {a:Addr} {xs:List AV} {n:Nat} {x y:Int} (hop:op=.add∨op=.sub) (ho:ev σ m o=some (.ref a)) (hi:ev σ m i=some (.int n)) (ha:σ a=some (.list xs)) (hl:xs[n]?=some (.int x)) (he:ev σ m e=some (.int y))
 (h:pwpS Γ b Q m (σ.set a (.list (xs.set n (.int (match op with | .add=>x+y | _=>x - y)))))):pwpS Γ (.seq (.augI o i op e) b) Q m σ:=by
 have hn:n < xs.length:=(List.getElem?_eq_some_iff.mp hl).1
 have hidx:idxW σ (.ref a) (.int n)=some (.int x):=by
  show (σ a).bind (idxO n)=_
  rw [ha]
  exact (pyIdx_of rfl).trans hl
 refine s_augK (ev_w ho (ev_w hi (som_of hidx (ev_w he ?_))))
 rcases hop with rfl | rfl
 · exact som_of (g:=setIO a n (.int (x+y)) (fun σ=>pwpS Γ b Q m σ) σ) ha ⟨Int.natCast_nonneg n,Int.ofNat_lt.mpr hn,h⟩
 · exact som_of (g:=setIO a n (.int (x - y)) (fun σ=>pwpS Γ b Q m σ) σ) ha ⟨Int.natCast_nonneg n,Int.ofNat_lt.mpr hn,h⟩
theorem e_popD {e i:PE} {a:Addr} {kvs:List (Int × AV)} {ep:Nat} {k:Int} {v:AV} (ho:ev σ m e=some (.ref a)) (ha:σ a=some (.dict kvs ep)) (hi:ev σ m i=some (.int k)) (hl:kvs.lookup k=some v) (h:∀ ep',R v (σ.set a (.dict (kvs.filter fun p=>decide (p.1≠k)) ep'))):pwpE Γ (.bm e .pop (.cons i .nil)) m R σ:=by
 exact e_bmO (ev_w ho (som_of ha ⟨.inr (.inr rfl),es_ev hi (es_nil (bmK_of ha trivial (som_of hl h)))⟩))
end
theorem kvs_filter (f:Nat→AV) (k:Nat):∀ ks:List Nat,(kvsOf f ks).filter (fun p=>decide (p.1≠(k:Int)))=kvsOf f (ks.filter fun j=>decide (j≠k))
 | []=>rfl
 | j::ks=>by
  show List.filter _ (((j:Int),f j)::kvsOf f ks)=_
  rw [List.filter_cons,List.filter_cons,kvs_filter f k ks]
  by_cases c:j=k
  · rw [if_neg (by simp [c]),if_neg (by simp [c])]
  · have:(j:Int)≠k:=by lia
    rw [if_pos (decide_eq_true this),if_pos (decide_eq_true c)]
    rfl
inductive T_law_spoiled (args:List AV) (Q:AV→AH→Prop) (σ:AH):Prop
 | mk (p D c l H:Addr) (ep eph:Nat) (ad:Nat→Addr) (P:PlanD) (f:Nat→AV) (hk:List Nat) (d:Nat) (k a:Int):(args=[.obj 143 p,.int d,.int k,.int a,.ref H])→(PlanAt σ p D c l ep ad P)→(σ H=some (.dict (kvsOf f hk) eph))→(hk.Nodup)→((∀ k ∈ hk,k ∈ P.ks))→((k < 0→P.ks=[]))→((0≤k→∃ j:Nat,k=j∧j ∈ P.ks))→((0≤a→∃ i:Nat,a=i∧i < P.chunks.length∧i < P.live.length))→(P.chunks.length≤1000)→(P.live.length≤1000)→(∀ (P':PlanD) (ep':Nat) (σ':AH),Spoil hk P P'→PlanAt σ' p D c l ep' ad P'→Ext (p::D::c::l::P.ks.map ad) σ σ'→Q .none σ')→T_law_spoiled  args Q σ
noncomputable def t_law_spoiled:Tr:=T_law_spoiled
theorem ints_set {l:List Int} {i:Nat} {x:Int}:(l.map AV.int).set i (.int x)=(l.set i x).map AV.int:=List.map_set.symm
theorem vc_law_spoiled (Γ:Gam) (hΓ:Γ.attrOk=P0.attrOk) (hsw:Γ.fn (S "_law_swapped")=some t_law_swapped):VC Γ b__law_spoiled 5 5 t_law_spoiled:=by
 rintro args Q σ ⟨p,D,c,l,H,ep,eph,ad,P,f,hk,d,k,a,rfl,hp,hH,hnd,hks,hk0,hk1,ha1,hcl,hll,hQ⟩
 refine ⟨rfl,?_⟩
 unfold b__law_spoiled
 have cmpd:∀ (m:Env') (j:Nat),varV m 1=some (.int d)→evB σ m (.cmp .eq (.var 1) (.lit (.int j)))=some (decide (d=j)):=fun m j hm=>xb_cmp (y:=.int j) hm rfl (congrArg some (decide_eq_decide.mpr (by lia)))
 have cmpa:∀ (m:Env') (j:Nat),varV m 1=some (.int d)→varV m 3=some (.int a)→evB σ m (.bop true (.cons (.cmp .eq (.var 1) (.lit (.int j))) (.cons (.cmp .ge (.var 3) (.lit (.int 0))) .nil)))=some (decide (d=j) && decide (0≤a)):=fun m j hm ha=>by
  refine xb_all (b:=decide (d=j)) (cmpd m j hm) (fun h=>xb_all (b:=decide (0≤a)) (xb_cmp ha rfl rfl) (fun h2=>?_) (fun h2=>?_)) (fun h=>?_)
  · rw [h,h2];rfl
  · rw [h];rfl
  · rw [eq_false_of_ne_true h];rfl
 have hpD:D≠p:=fun q=>by have:=hp.a.d;rw [q,hp.o] at this;(injection this with z0;injection z0)
 have hpc:c≠p:=fun q=>by have:=hp.hc;rw [q,hp.o] at this;(injection this with z0;injection z0)
 have hplv:l≠p:=fun q=>by have:=hp.hl;rw [q,hp.o] at this;(injection this with z0;injection z0)
 have hcD:D≠c:=fun q=>by have:=hp.a.d;rw [q,hp.hc] at this;(injection this with z0;injection z0)
 have hlD:D≠l:=fun q=>by have:=hp.a.d;rw [q,hp.hl] at this;(injection this with z0;injection z0)
 have adp:∀ j ∈ P.ks,ad j≠p:=fun j hj q=>by have:=hp.o;rw [← q,hp.a.i j hj] at this;injection this with this;injection this with this;exact absurd this (by decide)
 have adc:∀ j ∈ P.ks,ad j≠c:=fun j hj q=>by have:=hp.hc;rw [← q,hp.a.i j hj] at this;(injection this with z0;injection z0)
 have adl:∀ j ∈ P.ks,ad j≠l:=fun j hj q=>by have:=hp.hl;rw [← q,hp.a.i j hj] at this;(injection this with z0;injection z0)
 have adD:∀ j ∈ P.ks,ad j≠D:=fun j hj q=>by have:=hp.a.d;rw [← q,hp.a.i j hj] at this;(injection this with z0;injection z0)
 have foot:∀ j ∈ P.ks,ad j ∈ p::D::c::l::P.ks.map ad:=fun j hj=>.tail _ (.tail _ (.tail _ (.tail _ (List.mem_map_of_mem hj))))
 have putP:∀ (ne:Bool) (en:Int),PlanAt (σ.set p (.attrs 143 (planFs D c l ne en))) p D c l ep ad { P with needs:=ne,env:=en }:=fun ne en=>
  ⟨set_same _ _ _,⟨(set_ne _ _ hpD).trans hp.a.d,fun j hj=>(set_ne _ _ (adp j hj)).trans (hp.a.i j hj),hp.a.inj⟩,(set_ne _ _ hpc).trans hp.hc,(set_ne _ _ hplv).trans hp.hl,hp.cl⟩
 have putC:∀ xs:List Int,PlanAt (σ.set c (.list (xs.map .int))) p D c l ep ad { P with chunks:=xs }:=fun xs=>
  ⟨(set_ne _ _ hpc.symm).trans hp.o,⟨(set_ne _ _ hcD).trans hp.a.d,fun j hj=>(set_ne _ _ (adc j hj)).trans (hp.a.i j hj),hp.a.inj⟩,set_same _ _ _,(set_ne _ _ hp.cl.symm).trans hp.hl,hp.cl⟩
 have putL:∀ xs:List Int,PlanAt (σ.set l (.list (xs.map .int))) p D c l ep ad { P with live:=xs }:=fun xs=>
  ⟨(set_ne _ _ hplv.symm).trans hp.o,⟨(set_ne _ _ hlD).trans hp.a.d,fun j hj=>(set_ne _ _ (adl j hj)).trans (hp.a.i j hj),hp.a.inj⟩,(set_ne _ _ hp.cl).trans hp.hc,set_same _ _ _,hp.cl⟩
 have hinf:∀ (m:Env') (j:Nat),varV m 0=some (.obj 143 p)→varV m 2=some (.int k)→k=j→j ∈ P.ks→ev σ m (.idx (.attr (.var 0) (S "infos")) (.var 2))=some (.obj 87 (ad j)):=fun m j h0 h2 e hj=>x_idxD (x_attr h0 hp.o rfl) hp.a.d (h2.trans (by rw [e])) (kvs_lookup hj)
 have m0:∀ {x:AV},x=.int d→True:=fun _=>trivial
 refine s_if (cmpd _ 0 rfl) (fun q=>?_) (fun q=>?_)
 · exact s_augA (i:=P.env) (j:=1) (.inl rfl) rfl hp.o rfl rfl (by rw [hΓ];decide) (show 5 < 1000 by decide) (s_end (s_nop (hQ _ ep _ .env (putP P.needs (P.env+1)) (Ext.upd (.head _) _))))
 refine s_if (cmpd _ 1 rfl) (fun q=>?_) (fun q=>?_)
 · refine s_asgA (v:=.bool !P.needs) ?_ rfl hp.o (by rw [hΓ];decide) (show 5 < 1000 by decide) (s_end (s_end (s_nop (hQ _ ep _ .needs (putP (!P.needs) P.env) (Ext.upd (.head _) _)))))
   show (ev σ _ (.attr (.var 0) (S "needs_env"))).bind (fun v=>(truthW σ v).map fun b=>AV.bool (!b))=_
   rw [x_attr (C:=143) (dx:=p) rfl hp.o rfl]
   rfl
 refine s_if (cmpd _ 2 rfl) (fun q=>?_) (fun q=>?_)
 · refine s_expr (e_app (x_attr rfl hp.o rfl) hp.hc (v:=.int 0) rfl (by rw [List.length_map];unfold LIM;lia) (s_end (s_end (s_end (s_nop ?_)))))
   have:=hQ _ ep _ .chunks (putC (P.chunks++[0])) (Ext.upd (.tail _ (.tail _ (.head _))) _)
   rw [List.map_append] at this
   exact this
 refine s_if (cmpd _ 3 rfl) (fun q=>?_) (fun q=>?_)
 · refine s_expr (e_app (x_attr rfl hp.o rfl) hp.hl (v:=.int 0) rfl (by rw [List.length_map];unfold LIM;lia) (s_end (s_end (s_end (s_end (s_nop ?_))))))
   have:=hQ _ ep _ .live (putL (P.live++[0])) (Ext.upd (.tail _ (.tail _ (.tail _ (.head _)))) _)
   rw [List.map_append] at this
   exact this
 refine s_if (cmpa _ 4 rfl rfl) (fun q=>?_) (fun q=>?_)
 · rw [Bool.and_eq_true] at q
   obtain ⟨i,rfl,h1,h2⟩:=ha1 (of_decide_eq_true q.2)
   refine s_augIl (.inl rfl) (x_attr rfl hp.o rfl) rfl hp.hc (ints_get h1) (y:=1) rfl (s_end (s_end (s_end (s_end (s_end (s_nop ?_))))))
   rw [ints_set]
   exact hQ _ ep _ (.chunkAt i h1) (putC _) (Ext.upd (.tail _ (.tail _ (.head _))) _)
 refine s_if (cmpa _ 5 rfl rfl) (fun q=>?_) (fun q=>?_)
 · rw [Bool.and_eq_true] at q
   obtain ⟨i,rfl,h1,h2⟩:=ha1 (of_decide_eq_true q.2)
   refine s_augIl (.inl rfl) (x_attr rfl hp.o rfl) rfl hp.hl (ints_get h2) (y:=1) rfl (s_end (s_end (s_end (s_end (s_end (s_end (s_nop ?_)))))))
   rw [ints_set]
   exact hQ _ ep _ (.liveUp i h2) (putL _) (Ext.upd (.tail _ (.tail _ (.tail _ (.head _)))) _)
 refine s_if (cmpa _ 6 rfl rfl) (fun q=>?_) (fun q=>?_)
 · rw [Bool.and_eq_true] at q
   obtain ⟨i,rfl,h1,h2⟩:=ha1 (of_decide_eq_true q.2)
   refine s_augIl (.inr rfl) (x_attr rfl hp.o rfl) rfl hp.hl (ints_get h2) (y:=1) rfl (s_end (s_end (s_end (s_end (s_end (s_end (s_end (s_nop ?_))))))))
   rw [ints_set]
   exact hQ _ ep _ (.liveDn i h2) (putL _) (Ext.upd (.tail _ (.tail _ (.tail _ (.head _)))) _)
 refine s_if (t:=decide (k < 0)) (xb_cmp rfl rfl rfl) (fun q=>?_) (fun q=>?_)
 · exact s_augA (i:=P.env) (j:=1) (.inr rfl) rfl hp.o rfl rfl (by rw [hΓ];decide) (show 5 < 1000 by decide) (s_end (s_end (s_end (s_end (s_end (s_end (s_end (s_end (s_nop (hQ _ ep _ (.envDn (hk0 (of_decide_eq_true q))) (putP P.needs (P.env - 1)) (Ext.upd (.head _) _)))))))))))
 obtain ⟨j,rfl,hj⟩:=hk1 (by have:=of_decide_eq_false q;lia)
 have hi:=hp.a.i j hj
 have done:∀ (v:Info),Spoil hk P { P with inf:=updK P.inf j v }→Q .none (σ.set (ad j) (.attrs 87 v.fs)):=fun v h=>hQ _ ep _ h (hp.put hj v) (Ext.upd (foot j hj) _)
 have hx:=fun m h0 h2=>hinf m j h0 h2 rfl hj
 clear q
 refine s_if (cmpd _ 7 rfl) (fun q=>?_) (fun q=>?_)
 · exact s_augA (i:=(P.inf j).last) (j:=1) (.inl rfl) (hx _ rfl rfl) hi rfl rfl (by rw [hΓ];decide) (show 9 < 1000 by decide) (s_end (s_end (s_end (s_end (s_end (s_end (s_end (s_end (s_end (s_nop (done _ (.last j hj))))))))))))
 refine s_if (cmpd _ 8 rfl) (fun q=>?_) (fun q=>?_)
 · refine s_asgA (v:=.bool !(P.inf j).uns) ?_ (hx _ rfl rfl) hi (by rw [hΓ];decide) (show 9 < 1000 by decide) (s_end (s_end (s_end (s_end (s_end (s_end (s_end (s_end (s_end (s_end (s_nop (done _ (.uns j hj)))))))))))))
   show (ev σ _ (.attr (.idx (.attr (.var 0) (S "infos")) (.var 2)) (S "unsafe"))).bind (fun v=>(truthW σ v).map fun b=>AV.bool (!b))=_
   rw [x_attr (hx _ rfl rfl) hi rfl]
   rfl
 have hlen9:evB σ [some (.obj 143 p),some (.int d),some (.int j),some (.int a),some (.ref H)] (.bop true (.cons (.cmp .eq (.var 1) (.lit (.int 9))) (.cons (.cmp .gt (.bi .len (.cons (.var 4) .nil)) (.lit (.int 1))) .nil)))=some (decide (d=9) && decide (1 < hk.length)):=by
  refine xb_all (b:=decide (d=9)) (cmpd _ 9 rfl) (fun h=>xb_all (b:=decide (1 < hk.length)) (xb_cmp (x_lenD rfl hH) rfl ?_) (fun h2=>?_) (fun h2=>?_)) (fun h=>?_)
  · show some (decide ((1:Int) < ((kvsOf f hk).length:Nat)))=_
    unfold kvsOf
    rw [List.length_map]
    congr 1
    exact decide_eq_decide.mpr (by lia)
  · rw [h,h2];rfl
  · rw [h];rfl
  · rw [eq_false_of_ne_true h];rfl
 refine s_if hlen9 (fun q=>?_) (fun q=>?_)
 · rw [Bool.and_eq_true] at q
   refine s_expr (e_call hsw (es_ev (v:=.obj 143 p) rfl (es_ev (v:=.ref H) rfl (es_nil ⟨p,D,c,l,H,ep,eph,ad,P,f,hk,rfl,hp,hH,hnd,of_decide_eq_true q.2,hks,fun x y σ' h1 h2 h3 h4 h5=>?_⟩))))
   exact s_end (s_end (s_end (s_end (s_end (s_end (s_end (s_end (s_end (s_end (s_end (s_nop (hQ _ ep _ (.swap x y h1 h2 h3) h4 fun b hb o e=>h5 b (fun q=>hb (.tail _ (.tail _ (.tail _ (.tail _ q))))) o e))))))))))))
 refine s_if (cmpd _ 10 rfl) (fun q=>?_) (fun q=>?_)
 · exact s_augA (i:=(P.inf j).var) (j:=1) (.inl rfl) (hx _ rfl rfl) hi rfl rfl (by rw [hΓ];decide) (show 9 < 1000 by decide) (s_end (s_end (s_end (s_end (s_end (s_end (s_end (s_end (s_end (s_end (s_end (s_end (s_nop (done _ (.var j hj)))))))))))))))
 refine s_if (cmpd _ 11 rfl) (fun q=>?_) (fun q=>?_)
 · refine s_asgA (v:=.str (if (P.inf j).first=S "special" then S "goal_arg" else S "special")) (x_ite (t:=!decide ((P.inf j).first=S "special")) (xb_cmp (x_attr (hx _ rfl rfl) hi rfl) rfl rfl) (fun h=>?_) (fun h=>?_)) (hx _ rfl rfl) hi (by rw [hΓ];decide) (show 9 < 1000 by decide) (s_end (s_end (s_end (s_end (s_end (s_end (s_end (s_end (s_end (s_end (s_end (s_end (s_end (s_nop (done _ (.first j hj))))))))))))))))
   · rw [if_neg (by simpa using h)];rfl
   · rw [if_pos (of_decide_eq_true (not_f h))];rfl
 refine s_if (cmpd _ 12 rfl) (fun q=>?_) (fun q=>?_)
 · refine s_expr (e_popD (x_attr rfl hp.o rfl) hp.a.d rfl (kvs_lookup hj) fun ep'=>?_)
   rw [kvs_filter]
   have hsub:∀ i ∈ P.ks.filter (fun x=>decide (x≠j)),i ∈ P.ks:=fun i hi=>(List.mem_filter.mp hi).1
   exact s_end (s_end (s_end (s_end (s_end (s_end (s_end (s_end (s_end (s_end (s_end (s_end (s_end (s_end (s_nop (hQ _ ep' _ (.pop j hj) ⟨(set_ne _ _ hpD.symm).trans hp.o,⟨set_same _ _ _,fun i hi=>(set_ne _ _ (adD i (hsub i hi))).trans (hp.a.i i (hsub i hi)),fun x hx y hy=>hp.a.inj x (hsub x hx) y (hsub y hy)⟩,(set_ne _ _ hcD.symm).trans hp.hc,(set_ne _ _ hlD.symm).trans hp.hl,hp.cl⟩ (Ext.upd (.tail _ (.head _)) _))))))))))))))))
 refine s_if (cmpd _ 13 rfl) (fun q=>?_) (fun q=>?_)
 · exact s_asgA (v:=.str (S "slot")) rfl (hx _ rfl rfl) hi (by rw [hΓ];decide) (show 9 < 1000 by decide) (s_end (s_end (s_end (s_end (s_end (s_end (s_end (s_end (s_end (s_end (s_end (s_end (s_end (s_end (s_end (s_nop (done _ (.kslot j hj))))))))))))))))))
 refine s_if (cmpd _ 14 rfl) (fun q=>?_) (fun q=>?_)
 · refine s_asgA (v:=.str (if (P.inf j).kind=S "temp" then S "void" else S "temp")) (x_ite (t:=decide ((P.inf j).kind=S "temp")) (xb_cmp (x_attr (hx _ rfl rfl) hi rfl) rfl rfl) (fun h=>?_) (fun h=>?_)) (hx _ rfl rfl) hi (by rw [hΓ];decide) (show 9 < 1000 by decide) (s_end (s_end (s_end (s_end (s_end (s_end (s_end (s_end (s_end (s_end (s_end (s_end (s_end (s_end (s_end (s_end (s_nop (done _ (.kind j hj)))))))))))))))))))
   · rw [if_pos (of_decide_eq_true h)];rfl
   · rw [if_neg (of_decide_eq_false h)];rfl
 exact s_augA (i:=(P.inf j).slot) (j:=1) (.inl rfl) (hx _ rfl rfl) hi rfl rfl (by rw [hΓ];decide) (show 9 < 1000 by decide) (s_end (s_end (s_end (s_end (s_end (s_end (s_end (s_end (s_end (s_end (s_end (s_end (s_end (s_end (s_end (s_end (s_nop (done _ (.slot j hj)))))))))))))))))))
theorem ocTerms_at {g:Int} {c:Nat} {p:Str}:∀ {ts:List Tm} {o:Oc},o ∈ ocTerms g c p ts→o.at'=g∧o.chunk=c
 | t::ts,o,h=>by
  rw [ocTerms_cons] at h
  rcases List.mem_append.mp h with h | h
  · cases t with
    | v k=>rw [List.mem_singleton.mp h];exact ⟨rfl,rfl⟩
    | c w n=>cases h
    | s f us=>
     obtain ⟨k,_,rfl⟩:=List.mem_map.mp h
     exact ⟨rfl,rfl⟩
  · exact ocTerms_at h
theorem ocGoal_at {a c:Nat} {g:Gl} {o:Oc} (h:o ∈ ocGoal a c g):o.at'=a∧o.chunk=c:=by
 rcases List.mem_append.mp (show o ∈ spG a c g++ocTerms a c (S "goal") g.terms from h) with h | h
 · unfold spG at h
   cases e:g.special with
   | none=>rw [e] at h;cases h
   | some k=>rw [e] at h;rw [List.mem_singleton.mp h];exact ⟨rfl,rfl⟩
 · exact ocTerms_at h
theorem mem_goals:∀ {gs:List Gl} {a c:Nat} {o:Oc},o ∈ ocGoals a c gs→∃ (i:Nat) (h:i < gs.length),o ∈ ocGoal (a+i) (c+callsIn (gs.take i)) gs[i]
 | g::gs,a,c,o,h=>by
  rcases List.mem_append.mp (show o ∈ ocGoal a c g++ocGoals _ _ gs from h) with h | h
  · exact ⟨0,Nat.zero_lt_succ _,h⟩
  · obtain ⟨i,h1,h2⟩:=mem_goals h
    refine ⟨i+1,Nat.succ_lt_succ h1,?_⟩
    rw [List.take_succ_cons,callsIn_cons]
    have e1:a+(i+1)=a+1+i:=by lia
    have e2:c+((if g.isCall=true then 1 else 0)+callsIn (gs.take i))=(if g.isCall=true then c+1 else c)+callsIn (gs.take i):=by
     by_cases q:g.isCall=true
     · rw [if_pos q,if_pos q];lia
     · rw [if_neg q,if_neg q];lia
    rw [e1,e2]
    exact h2
theorem mem_oc {K:Ker} {o:Oc} (h:o ∈ K.oc):(o ∈ ocTerms (-1) 0 (S "head") K.args)∨∃ (i:Nat) (hi:i < K.goals.length),o ∈ ocGoal i (callsIn (K.goals.take i)) K.goals[i]:=by
 rcases List.mem_append.mp h with h | h
 · exact .inl h
 · obtain ⟨i,h1,h2⟩:=mem_goals h
   rw [Nat.zero_add,Nat.zero_add] at h2
   exact .inr ⟨i,h1,h2⟩
theorem oc_at {K:Ker} {o:Oc} (h:o ∈ K.oc):o.chunk=callsIn (K.goals.take o.at'.toNat)∧-1≤o.at'∧o.at' < K.goals.length:=by
 rcases mem_oc h with h | ⟨i,hi,h⟩
 · obtain ⟨h1,h2⟩:=ocTerms_at h
   rw [h1,h2]
   exact ⟨rfl,by decide,by lia⟩
 · obtain ⟨h1,h2⟩:=ocGoal_at h
   rw [h1,h2]
   exact ⟨rfl,by lia,by lia⟩
theorem pw_const {l:List Oc} {g:Int} (h:∀ o ∈ l,o.at'=g):l.Pairwise fun a b=>a.at'≤b.at':=by
 induction l with
 | nil=>exact .nil
 | cons o l ih=>exact .cons (fun p hp=>by rw [h o (.head _),h p (.tail _ hp)];exact Int.le_refl _) (ih fun p hp=>h p (.tail _ hp))
theorem pw_goals:∀ (gs:List Gl) (a c:Nat),(ocGoals a c gs).Pairwise (fun a b=>a.at'≤b.at')∧∀ o ∈ ocGoals a c gs,(a:Int)≤o.at'
 | [],a,c=>⟨.nil,fun o h=>nomatch h⟩
 | g::gs,a,c=>by
  obtain ⟨h1,h2⟩:=pw_goals gs (a+1) (if g.isCall=true then c+1 else c)
  have h3:∀ o ∈ ocGoal a c g,o.at'=a:=fun o ho=>(ocGoal_at ho).1
  refine ⟨List.pairwise_append.mpr ⟨pw_const h3,h1,fun x hx y hy=>?_⟩,fun o ho=>?_⟩
  · rw [h3 x hx]
    have:=h2 y hy
    lia
  · rcases List.mem_append.mp (show o ∈ ocGoal a c g++ocGoals _ _ gs from ho) with h | h
    · rw [h3 o h];exact Int.le_refl _
    · have:=h2 o h;lia
theorem koc_pw (K:Ker):K.oc.Pairwise fun a b=>a.at'≤b.at':=by
 have h3:∀ o ∈ ocTerms (-1) 0 (S "head") K.args,o.at'=-1:=fun o ho=>(ocTerms_at ho).1
 refine List.pairwise_append.mpr ⟨pw_const h3,(pw_goals _ _ _).1,fun x hx y hy=>?_⟩
 rw [h3 x hx]
 have:=(pw_goals _ _ _).2 y hy
 lia
theorem fst_mem {os:List Oc} (h:os≠[]):fstO os ∈ os:=by
 cases os with
 | nil=>exact absurd rfl h
 | cons o os=>exact .head _
theorem lst_mem {os:List Oc} (h:os≠[]):lstO os ∈ os:=by
 obtain ⟨l,o,rfl⟩:∃ l o,os=l++[o]:=by
  rcases List.eq_nil_or_concat os with e | ⟨l,o,e⟩
  · exact absurd e h
  · exact ⟨l,o,e.trans List.concat_eq_append⟩
 have h1:lstO (l++[o])=o:=by
  unfold lstO
  rw [List.getLast?_concat]
  rfl
 rw [h1]
 exact List.mem_append_right _ (.head _)
theorem fst_le {os:List Oc} (hp:os.Pairwise fun a b=>a.at'≤b.at') {o:Oc} (ho:o ∈ os):(fstO os).at'≤o.at':=by
 cases os with
 | nil=>cases ho
 | cons p os=>
  rcases List.mem_cons.mp ho with q | q
  · rw [q];exact Int.le_refl _
  · exact (List.pairwise_cons.mp hp).1 o q
theorem lst_ge {os:List Oc} (hp:os.Pairwise fun a b=>a.at'≤b.at') {o:Oc} (ho:o ∈ os):o.at'≤(lstO os).at':=by
 obtain ⟨l,p,rfl⟩:∃ l o,os=l++[o]:=by
  rcases List.eq_nil_or_concat os with e | ⟨l,o,e⟩
  · rw [e] at ho;cases ho
  · exact ⟨l,o,e.trans List.concat_eq_append⟩
 have h1:lstO (l++[p])=p:=by
  unfold lstO
  rw [List.getLast?_concat]
  rfl
 rw [h1]
 rcases List.mem_append.mp ho with q | q
 · exact (List.pairwise_append.mp hp).2.2 o q p (.head _)
 · rw [List.mem_singleton.mp q];exact Int.le_refl _
section
variable {K:Ker} (hOk:K.Ok) {k:Nat} (hk:k < K.count)
include hOk hk
theorem oc_ne:occ K.oc k≠[]:=occ_ne.mpr (hOk.all k hk)
omit hOk hk in
theorem occ_pw:(occ K.oc k).Pairwise fun a b=>a.at'≤b.at':=(koc_pw K).filter _
omit hOk hk in
theorem occ_mem {o:Oc} (h:o ∈ occ K.oc k):o ∈ K.oc:=(List.mem_filter.mp h).1
omit hOk hk in
theorem pl_perm:List.Perm (occ (plL K) k) (occ K.oc k):=(plL_perm K).filter _
theorem le_eq (i:Int):leA (occ (plL K) k) i=decide ((fstO (occ K.oc k)).at'≤i):=by
 have hne:=oc_ne hOk hk
 unfold leA
 rw [pl_perm.any_eq]
 by_cases c:(fstO (occ K.oc k)).at'≤i
 · rw [decide_eq_true c]
   exact List.any_eq_true.mpr ⟨_,fst_mem hne,decide_eq_true c⟩
 · rw [decide_eq_false c]
   refine List.any_eq_false.mpr fun o ho=>?_
   have:=fst_le occ_pw ho
   simp
   lia
theorem gt_eq (i:Int):gtA (occ (plL K) k) i=decide (i < (lstO (occ K.oc k)).at'):=by
 have hne:=oc_ne hOk hk
 unfold gtA
 rw [pl_perm.any_eq]
 by_cases c:i < (lstO (occ K.oc k)).at'
 · rw [decide_eq_true c]
   exact List.any_eq_true.mpr ⟨_,lst_mem hne,decide_eq_true c⟩
 · rw [decide_eq_false c]
   refine List.any_eq_false.mpr fun o ho=>?_
   have:=lst_ge occ_pw ho
   simp
   lia
end
theorem calls_between (K:Ker) (a:Nat):∀ b,a≤b→b≤K.goals.length→callsIn (K.goals.take a)≤callsIn (K.goals.take b)∧(callsIn (K.goals.take a)≠callsIn (K.goals.take b)↔∃ i,a≤i∧i < b∧callAt K i=true):=by
 intro b
 induction b with
 | zero=>
  intro h _
  have:a=0:=by lia
  subst this
  exact ⟨Nat.le_refl _,fun h=>absurd rfl h,fun ⟨i,_,h,_⟩=>absurd h (Nat.not_lt_zero _)⟩
 | succ b ih=>
  intro h1 h2
  by_cases c:a=b+1
  · subst c
    exact ⟨Nat.le_refl _,fun h=>absurd rfl h,fun ⟨i,h3,h4,_⟩=>by lia⟩
  · obtain ⟨h3,h4⟩:=ih (by lia) (by lia)
    have h5:=callsIn_step K (i:=b) (by lia)
    by_cases q:callAt K b=true
    · rw [if_pos q] at h5
      exact ⟨by lia,fun _=>⟨b,by lia,by lia,q⟩,fun _=>by lia⟩
    · rw [if_neg q,Nat.add_zero] at h5
      rw [h5]
      refine ⟨h3,fun h=>?_,fun ⟨i,a1,a2,a3⟩=>?_⟩
      · obtain ⟨i,a1,a2,a3⟩:=h4.mp h
        exact ⟨i,a1,by lia,a3⟩
      · refine h4.mpr ⟨i,a1,?_,a3⟩
        have:i≠b:=fun e=>q (e ▸ a3)
        lia
section
variable {K:Ker} (hOk:K.Ok) {k:Nat} (hk:k < K.count)
include hOk hk
theorem fst_lst:(fstO (occ K.oc k)).at'≤(lstO (occ K.oc k)).at':=fst_le occ_pw (lst_mem (oc_ne hOk hk))
theorem chunk_le:(fstO (occ K.oc k)).chunk≤(lstO (occ K.oc k)).chunk∧((fstO (occ K.oc k)).chunk≠(lstO (occ K.oc k)).chunk↔∃ i:Nat,(fstO (occ K.oc k)).at'≤i∧(i:Int) < (lstO (occ K.oc k)).at'∧callAt K i=true):=by
 have hne:=oc_ne hOk hk
 obtain ⟨a1,a2,a3⟩:=oc_at (occ_mem (fst_mem hne))
 obtain ⟨b1,b2,b3⟩:=oc_at (occ_mem (lst_mem hne))
 have h:=fst_lst hOk hk
 obtain ⟨c1,c2⟩:=calls_between K (fstO (occ K.oc k)).at'.toNat (lstO (occ K.oc k)).at'.toNat (by lia) (by lia)
 rw [a1,b1]
 refine ⟨c1,c2.trans ⟨fun ⟨i,d1,d2,d3⟩=>⟨i,by lia,by lia,d3⟩,fun ⟨i,d1,d2,d3⟩=>⟨i,by lia,by lia,d3⟩⟩⟩
theorem cross_eq:crossB K (occ (plL K) k)=crossK K.oc k:=by
 have hne:=oc_ne hOk hk
 obtain ⟨_,h⟩:=chunk_le hOk hk
 obtain ⟨_,_,b3⟩:=oc_at (occ_mem (lst_mem hne))
 unfold crossB crossK
 by_cases c:(fstO (occ K.oc k)).chunk=(lstO (occ K.oc k)).chunk
 · rw [decide_eq_true c]
   refine List.any_eq_false.mpr fun i hi=>?_
   rw [le_eq hOk hk,gt_eq hOk hk]
   intro q
   simp only [Bool.and_eq_true,decide_eq_true_eq] at q
   exact (h.mpr ⟨i,q.2.1,q.2.2,q.1⟩) c
 · rw [decide_eq_false c]
   obtain ⟨i,d1,d2,d3⟩:=h.mp c
   refine List.any_eq_true.mpr ⟨i,List.mem_range.mpr (by lia),?_⟩
   rw [le_eq hOk hk,gt_eq hOk hk,d3,decide_eq_true d1,decide_eq_true d2]
   rfl
theorem kind_perm:kindW (infoOf k (occ K.oc k))=S "perm" ↔ crossK K.oc k=true:=by
 have hne:=oc_ne hOk hk
 obtain ⟨h1,_⟩:=chunk_le hOk hk
 unfold kindW crossK infoOf
 dsimp only
 by_cases c:((occ K.oc k).length:Int)=1
 · rw [if_pos c]
   have:fstO (occ K.oc k)=lstO (occ K.oc k):=by
    obtain ⟨o,ho⟩:∃ o,occ K.oc k=[o]:=List.length_eq_one_iff.mp (by lia)
    rw [ho]
    rfl
   rw [this,decide_eq_true rfl]
   exact ⟨fun q=>absurd q (by decide),fun q=>nomatch q⟩
 · rw [if_neg c]
   by_cases d:((fstO (occ K.oc k)).chunk:Int) < ((lstO (occ K.oc k)).chunk:Int)
   · rw [if_pos d,decide_eq_false (by lia)]
     exact ⟨fun _=>rfl,fun _=>rfl⟩
   · rw [if_neg d,decide_eq_true (by lia)]
     exact ⟨fun q=>absurd q (by decide),fun q=>nomatch q⟩
omit hOk hk in
theorem kind_void:kindW (infoOf k (occ K.oc k))=S "void" ↔ (occ K.oc k).length=1:=by
 unfold kindW infoOf
 dsimp only
 by_cases c:((occ K.oc k).length:Int)=1
 · rw [if_pos c]
   exact ⟨fun _=>by lia,fun _=>rfl⟩
 · rw [if_neg c]
   refine ⟨fun q=>?_,fun q=>absurd (by lia) c⟩
   by_cases d:((fstO (occ K.oc k)).chunk:Int) < ((lstO (occ K.oc k)).chunk:Int)
   · rw [if_pos d] at q;exact absurd q (by decide)
   · rw [if_neg d] at q;exact absurd q (by decide)
omit hOk hk in
theorem kind_three (i:Info):kindW i=S "void" ∨ kindW i=S "perm" ∨ kindW i=S "temp" := by
 unfold kindW
 by_cases c:i.count=1
 · rw [if_pos c];exact .inl rfl
 · rw [if_neg c]
   by_cases d:i.fch < i.lch
   · rw [if_pos d];exact .inr (.inl rfl)
   · rw [if_neg d];exact .inr (.inr rfl)
end
theorem fold_maxI:∀ (r:List Int) (i:Int),(r.foldl max i=i∨r.foldl max i ∈ r)∧i≤r.foldl max i∧∀ x ∈ r,x≤r.foldl max i
 | [],i=>⟨.inl rfl,Int.le_refl _,fun x h=>nomatch h⟩
 | j::r,i=>by
  obtain ⟨h1,h2,h3⟩:=fold_maxI r (max i j)
  refine ⟨?_,?_,fun x hx=>?_⟩
  · rcases h1 with h | h
    · rcases Int.le_total i j with q | q
      · exact .inr (by show r.foldl max (max i j) ∈ _;rw [h,Int.max_eq_right q];exact .head _)
      · exact .inl (by show r.foldl max (max i j)=_;rw [h,Int.max_eq_left q])
    · exact .inr (.tail _ h)
  · exact Int.le_trans (Int.le_max_left i j) h2
  · rcases List.mem_cons.mp hx with q | q
    · rw [q];exact Int.le_trans (Int.le_max_right i j) h2
    · exact h3 x q
theorem maxL_eq {os:List Oc} {m:Oc} (hm:m ∈ os) (h:∀ o ∈ os,o.at'≤m.at'):maxL os=m.at':=by
 cases os with
 | nil=>cases hm
 | cons o os=>
  obtain ⟨h1,h2,h3⟩:=fold_maxI (os.map (·.at')) o.at'
  refine Int.le_antisymm ?_ ?_
  · show (os.map (·.at')).foldl max o.at'≤_
    rcases h1 with q | q
    · rw [q];exact h o (.head _)
    · obtain ⟨p,hp,e⟩:=List.mem_map.mp q
      rw [← e]
      exact h p (.tail _ hp)
  · show _≤(os.map (·.at')).foldl max o.at'
    rcases List.mem_cons.mp hm with q | q
    · rw [q];exact h2
    · exact h3 _ (List.mem_map_of_mem q)
theorem best_eq {f:Oc}:∀ (pre post:List Oc) (s:Oc),(f.at' < s.at'∨s=f)→(∀ o ∈ pre,f.at' < o.at')→(∀ o ∈ post,f.at'≤o.at')→bestO s (pre++f::post)=f
 | [],post,s,hs,_,h2=>by
  show bestO (if f.at' < s.at' then f else s) post=f
  have:(if f.at' < s.at' then f else s)=f:=by
   rcases hs with h | h
   · rw [if_pos h]
   · rw [h,if_neg (Int.lt_irrefl _)]
  rw [this]
  clear hs this s
  induction post with
  | nil=>rfl
  | cons o post ih=>
   show bestO (if o.at' < f.at' then o else f) post=f
   rw [if_neg (by have:=h2 o (.head _);lia)]
   exact ih fun p hp=>h2 p (.tail _ hp)
 | o::pre,post,s,hs,h1,h2=>by
  show bestO (if o.at' < s.at' then o else s) (pre++f::post)=f
  refine best_eq pre post _ ?_ (fun p hp=>h1 p (.tail _ hp)) h2
  by_cases c:o.at' < s.at'
  · rw [if_pos c];exact .inl (h1 o (.head _))
  · rw [if_neg c];exact hs
theorem bestL_eq {f:Oc} {pre post:List Oc} (h1:∀ o ∈ pre,f.at' < o.at') (h2:∀ o ∈ post,f.at'≤o.at'):bestL (pre++f::post)=f:=by
 cases pre with
 | nil=>exact best_eq [] post f (.inr rfl) h1 h2
 | cons o pre=>exact best_eq (o::pre) post o (.inl (h1 o (.head _))) h1 h2
theorem sp_unique {K:Ker} {f o:Oc} (hf:f ∈ K.oc) (hs:isSp f=true) (ho:o ∈ K.oc) (e:o.at'=f.at'):o=f:=by
 have h1:∀ {x:Oc},x ∈ ocTerms (-1) 0 (S "head") K.args→x.at'=-1:=fun h=>(ocTerms_at h).1
 rcases mem_oc hf with h | ⟨i,hi,h⟩
 · rw [nosp_head h] at hs;injection hs
 · have hfi:=(ocGoal_at h).1
   rcases mem_oc ho with h' | ⟨j,hj,h'⟩
   · have:=h1 h';lia
   · have hoj:=(ocGoal_at h').1
     have:j=i:=by lia
     subst this
     have hsp:∀ {x:Oc} {a c:Nat} {g:Gl},f ∈ ocGoal a c g→x ∈ ocGoal a c g→x=f:=fun {x a c g} hf hx=>by
      rcases List.mem_append.mp (show f ∈ spG a c g++ocTerms a c (S "goal") g.terms from hf) with q | q
      · cases g with
        | sp w k=>
         have e1:f=⟨k,a,c,S "special"⟩:=List.mem_singleton.mp q
         have e2:x=⟨k,a,c,S "special"⟩:=List.mem_singleton.mp hx
         rw [e1,e2]
        | un x y=>cases q
        | tm w f ts=>cases q
        | ct w=>cases q
      · rw [nosp_goal q] at hs;injection hs
     exact hsp h h'
theorem occ_filter (l:List Oc) (p:Oc→Bool) (k:Nat):occ (l.filter p) k=(occ l k).filter p:=by
 unfold occ
 rw [List.filter_filter,List.filter_filter]
 congr 1
 funext o
 exact Bool.and_comm _ _
theorem bestL_min {os:List Oc} (h:os≠[]):bestL os ∈ os∧∀ o ∈ os,(bestL os).at'≤o.at':=by
 have key:∀ (l:List Oc) (s:Oc),(bestO s l=s∨bestO s l ∈ l)∧(bestO s l).at'≤s.at'∧∀ o ∈ l,(bestO s l).at'≤o.at':=by
  intro l
  induction l with
  | nil=>intro s;exact ⟨.inl rfl,Int.le_refl _,fun o h=>nomatch h⟩
  | cons p l ih=>
   intro s
   obtain ⟨h1,h2,h3⟩:=ih (if p.at' < s.at' then p else s)
   have e:bestO s (p::l)=bestO (if p.at' < s.at' then p else s) l:=rfl
   rw [e]
   by_cases c:p.at' < s.at'
   · rw [if_pos c] at h1 h2 h3 ⊢
     refine ⟨.inr ?_,by lia,fun o ho=>?_⟩
     · rcases h1 with q | q
       · rw [q];exact .head _
       · exact .tail _ q
     · rcases List.mem_cons.mp ho with q | q
       · rw [q];exact h2
       · exact h3 o q
   · rw [if_neg c] at h1 h2 h3 ⊢
     refine ⟨h1.imp id fun q=>.tail _ q,h2,fun o ho=>?_⟩
     rcases List.mem_cons.mp ho with q | q
     · rw [q];lia
     · exact h3 o q
 cases os with
 | nil=>exact absurd rfl h
 | cons o os=>
  obtain ⟨h1,h2,h3⟩:=key (o::os) o
  refine ⟨?_,h3⟩
  rcases h1 with q | q
  · show bestO o (o::os) ∈ _
    rw [q];exact .head _
  · exact q
section
variable {K:Ker} (hOk:K.Ok) {k:Nat} (hk:k < K.count)
include hOk hk
theorem max_pl:maxL (occ (plL K) k)=(lstO (occ K.oc k)).at':=
 maxL_eq (pl_perm.mem_iff.mpr (lst_mem (oc_ne hOk hk))) fun o ho=>lst_ge occ_pw (pl_perm.mem_iff.mp ho)
theorem best_pl:bestL (occ (plL K) k)=fstO (occ K.oc k):=by
 have hne:=oc_ne hOk hk
 have hfm:=fst_mem hne
 by_cases hs:isSp (fstO (occ K.oc k))=true
 · have hne':occ (plL K) k≠[]:=fun q=>hne (by have:=(pl_perm (K:=K) (k:=k)).length_eq;rw [q] at this;exact List.eq_nil_of_length_eq_zero this.symm)
   obtain ⟨h1,h2⟩:=bestL_min hne'
   have h3:=h2 _ (pl_perm.mem_iff.mpr hfm)
   have h4:=fst_le occ_pw (pl_perm.mem_iff.mp h1)
   exact sp_unique (occ_mem hfm) hs (occ_mem (pl_perm.mem_iff.mp h1)) (by lia)
 · rw [plL_eq,occ_app,occ_filter,occ_filter]
   obtain ⟨f,os,e⟩:∃ f os,occ K.oc k=f::os:=by
    cases h:occ K.oc k with
    | nil=>exact absurd h hne
    | cons f os=>exact ⟨f,os,rfl⟩
   have hpw:=occ_pw (K:=K) (k:=k)
   have hmem:∀ o ∈ occ K.oc k,o ∈ K.oc:=fun o ho=>occ_mem ho
   rw [e] at hs hpw hmem ⊢
   have hff:fstO (f::os)=f:=rfl
   rw [hff] at hs ⊢
   have h1:(f::os).filter (fun o=>!isSp o)=f::os.filter (fun o=>!isSp o):=by
    rw [List.filter_cons,if_pos (by rw [eq_false_of_ne_true hs];rfl)]
   rw [h1]
   refine bestL_eq (fun o ho=>?_) (fun o ho=>(List.pairwise_cons.mp hpw).1 o (List.mem_filter.mp ho).1)
   obtain ⟨h2,h3⟩:=List.mem_filter.mp ho
   have h4:f.at'≤o.at':=by
    rcases List.mem_cons.mp h2 with q | q
    · rw [q];exact Int.le_refl _
    · exact (List.pairwise_cons.mp hpw).1 o q
   have h5:f.at'≠o.at':=fun q=>hs (by
    have:=sp_unique (hmem o h2) h3 (hmem f (.head _)) q
    rw [this]
    exact h3)
   lia
end
theorem Bef.asymm {inf:Nat→Info} {a b:Nat} (h:Bef inf a b) (h':Bef inf b a):False:=by
 rcases h with h | ⟨h1,h2⟩ <;> rcases h' with h' | ⟨h3,h4⟩ <;> lia
theorem bef_idx {inf:Nat→Info} {ord:List Nat} (hs:ord.Pairwise (Bef inf)) {a b:Nat} (ha:a ∈ ord) (hb:b ∈ ord) (h:Bef inf a b):ord.idxOf a < ord.idxOf b:=by
 have h1:=List.idxOf_lt_length_iff.mpr ha
 have h2:=List.idxOf_lt_length_iff.mpr hb
 have e1:=List.getElem_idxOf h1
 have e2:=List.getElem_idxOf h2
 rcases Nat.lt_trichotomy (ord.idxOf a) (ord.idxOf b) with q | q | q
 · exact q
 · exfalso
   have:a=b:=by rw [← e1,← e2];simp only [q]
   subst this
   exact Bef.irrefl h
 · exfalso
   have:=List.pairwise_iff_getElem.mp hs _ _ h2 h1 q
   rw [e1,e2] at this
   exact h.asymm this
theorem idx_ne {x k:Nat} {l:List Nat} (c:x≠k):(x::l).idxOf k=l.idxOf k+1:=by
 rw [List.idxOf_cons,beq_eq_false_iff_ne.mpr c]
 rfl
theorem rank_idx {inf:Nat→Info} {q:Nat→Bool} {k:Nat}:∀ {ord:List Nat},ord.Pairwise (Bef inf)→k ∈ ord→(∀ o ∈ ord,q o=true↔Bef inf o k)→(ord.filter q).length=ord.idxOf k
 | x::ord,hs,hk,hq=>by
  obtain ⟨h1,h2⟩:=List.pairwise_cons.mp hs
  by_cases c:x=k
  · subst c
    have h3:∀ o ∈ x::ord,q o=false:=fun o ho=>by
     refine Bool.eq_false_iff.mpr fun e=>?_
     have hb:=(hq o ho).mp e
     rcases List.mem_cons.mp ho with r | r
     · rw [r] at hb;exact Bef.irrefl hb
     · exact (h1 o r).asymm hb
    rw [filt_none h3,List.idxOf_cons_self]
    rfl
  · have hk':k ∈ ord:=(List.mem_cons.mp hk).resolve_left fun e=>c e.symm
    have h3:q x=true:=(hq x (.head _)).mpr (h1 k hk')
    rw [List.filter_cons,if_pos h3,List.length_cons,rank_idx h2 hk' fun o ho=>hq o (.tail _ ho),idx_ne c]
theorem tw_idx {inf:Nat→Info} {i:Int} {k:Nat}:∀ {ord:List Nat},ord.Pairwise (Bef inf)→k ∈ ord→(ord.idxOf k < (ord.takeWhile fun k=>decide (i < (inf k).last)).length↔i < (inf k).last)
 | x::ord,hs,hk=>by
  obtain ⟨h1,h2⟩:=List.pairwise_cons.mp hs
  by_cases c:x=k
  · subst c
    rw [List.idxOf_cons_self,List.takeWhile_cons]
    by_cases d:i < (inf x).last
    · rw [decide_eq_true d];exact ⟨fun _=>d,fun _=>Nat.zero_lt_succ _⟩
    · rw [decide_eq_false d];exact ⟨fun h=>absurd h (Nat.not_lt_zero _),fun h=>absurd h d⟩
  · have hk':k ∈ ord:=(List.mem_cons.mp hk).resolve_left fun e=>c e.symm
    rw [idx_ne c,List.takeWhile_cons]
    have hb:=h1 k hk'
    by_cases d:i < (inf x).last
    · rw [decide_eq_true d]
      show _+1 < List.length (x::_)↔_
      rw [List.length_cons]
      exact (Nat.succ_lt_succ_iff).trans (tw_idx h2 hk')
    · rw [decide_eq_false d]
      refine ⟨fun h=>absurd h (Nat.not_lt_zero _),fun h=>absurd ?_ d⟩
      rcases hb with q | ⟨q,_⟩ <;> omega
section
variable {K:Ker} {P:PlanD} {ord:List Nat}
theorem pinf_var (h:PlanOf K P ord) {k:Nat} (hk:k < K.count):(P.inf k).var=k:=by
 rw [h.inf k hk];unfold slotI;split <;> rfl
theorem pinf_first (h:PlanOf K P ord) {k:Nat} (hk:k < K.count):(P.inf k).first=(fstO (occ K.oc k)).word:=by
 rw [h.inf k hk];unfold slotI;split <;> rfl
theorem pinf_last (h:PlanOf K P ord) {k:Nat} (hk:k < K.count):(P.inf k).last=(lstO (occ K.oc k)).at':=by
 rw [h.inf k hk];unfold slotI;split <;> rfl
theorem pinf_kind (h:PlanOf K P ord) {k:Nat} (hk:k < K.count):(P.inf k).kind=kindW (infoOf k (occ K.oc k)):=by
 rw [h.inf k hk,slotI_kind];rfl
theorem inf1_last (K:Ker) (k:Nat):(inf1 K k).last=lastK K.oc k:=rfl
theorem ord_mem (hOk:K.Ok) (h:PlanOf K P ord) {k:Nat}:k ∈ ord↔k < K.count∧crossK K.oc k=true:=by
 rw [h.hord.mem]
 refine and_congr_right fun hk=>?_
 exact kind_perm hOk hk
theorem pinf_out (h:PlanOf K P ord) {k:Nat} (hk:k < K.count) (ho:k ∉ ord):(P.inf k).slot=0∧(P.inf k).uns=false:=by
 rw [h.inf k hk];unfold slotI;rw [if_neg ho];exact ⟨rfl,rfl⟩
theorem pinf_uns (h:PlanOf K P ord) {k:Nat} (hk:k < K.count) (ho:k ∈ ord):(P.inf k).uns=decide ((P.inf k).first=S "goal_arg"):=by
 rw [pinf_first h hk,h.inf k hk];unfold slotI;rw [if_pos ho];rfl
theorem home_perm (hOk:K.Ok) (h:PlanOf K P ord):List.Perm (homesK K.count K.oc) ord:=
 (List.perm_ext_iff_of_nodup (List.nodup_range.filter _) (Bef.nodup h.hord.s)).mpr fun k=>by
  rw [ord_mem hOk h]
  rw [List.mem_filter,List.mem_range]
theorem befH_iff (K:Ker) (k o:Nat):befH K.oc k o=true↔Bef (inf1 K) o k:=by
 unfold befH Bef
 rw [Bool.or_eq_true,Bool.and_eq_true,decide_eq_true_eq,decide_eq_true_eq,decide_eq_true_eq]
 exact Iff.rfl
theorem rank_eq (hOk:K.Ok) (h:PlanOf K P ord) {k:Nat} (hk:k ∈ ord):rankH K.count K.oc k=ord.idxOf k+1:=by
 unfold rankH
 rw [((home_perm hOk h).filter _).length_eq,rank_idx h.hord.s hk fun o _=>befH_iff K k o,Nat.add_comm]
theorem live_at (h:PlanOf K P ord) {i:Nat} (hi:i < K.goals.length):lAt P i=(liveN (inf1 K) ord i:Nat):=by
 unfold lAt
 rw [h.live]
 unfold natsI
 rw [List.getElem?_map,List.getElem?_map,List.getElem?_range hi]
 rfl
theorem chunk_at (h:PlanOf K P ord) {i:Nat} (hi:i < K.goals.length):cAt P i=(callsIn (K.goals.take i):Nat):=by
 unfold cAt
 rw [h.chunks]
 unfold natsI
 rw [List.getElem?_map,chunksOf_get _ _ _ hi,Nat.zero_add]
 rfl
theorem live_len (h:PlanOf K P ord):P.live.length=K.goals.length:=by
 rw [h.live];unfold natsI;rw [List.length_map,List.length_map,List.length_range]
theorem chunk_len (h:PlanOf K P ord):P.chunks.length=K.goals.length:=by
 rw [h.chunks];unfold natsI;rw [List.length_map,chunksOf_len]
theorem live_le (K:Ker) (ord:List Nat) (i:Nat):liveN (inf1 K) ord i≤ord.length:=(List.takeWhile_prefix _).sublist.length_le
theorem permK_ord (h:PlanOf K P ord) {ks:List Nat} (hn:ks.Nodup) (hm:∀ k,k ∈ ks↔k < K.count):List.Perm (permK P ks) ord:=
 (List.perm_ext_iff_of_nodup (hn.filter _) (Bef.nodup h.hord.s)).mpr fun k=>by
  rw [List.mem_filter,hm,decide_eq_true_eq]
  constructor
  · rintro ⟨h1,h2⟩
    exact (h.perm ((h.mem k).mpr h1)).mp h2
  · intro ho
    have h1:=((h.hord.mem k).mp ho).1
    exact ⟨h1,(h.perm ((h.mem k).mpr h1)).mpr ho⟩
theorem ord_slots (h:PlanOf K P ord):(ord.map fun k=>(P.inf k).slot)=ints1 ord.length:=by
 have hnd:=Bef.nodup h.hord.s
 unfold ints1
 refine List.ext_getElem (by simp) fun i h1 h2=>?_
 rw [List.getElem_map,List.getElem_map,List.getElem_range]
 rw [List.length_map] at h1
 have ho:=List.getElem_mem h1
 rw [h.slot ((h.mem _).mpr ((h.hord.mem _).mp ho).1) ho,hnd.idxOf_getElem i h1]
 lia
theorem ints1_sorted (n:Nat):(ints1 n).Pairwise (·≤·):=List.pairwise_map.mpr (List.pairwise_lt_range.imp fun h=>by lia)
theorem varok (hOk:K.Ok) (h:PlanOf K P ord) {k:Nat} (hk:k < K.count):VarOk K k (occ (plL K) k) (P.inf k) where
 var:=pinf_var h hk
 first:=by rw [pinf_first h hk,best_pl hOk hk]
 last:=by rw [pinf_last h hk,max_pl hOk hk]
 void:=by
  rw [pinf_kind h hk,pl_perm.length_eq]
  exact decide_eq_decide.mpr kind_void
 perm:=by
  rw [pinf_kind h hk,cross_eq hOk hk]
  by_cases c:crossK K.oc k=true
  · rw [c];exact decide_eq_true ((kind_perm hOk hk).mpr c)
  · rw [eq_false_of_ne_true c];exact decide_eq_false fun q=>c ((kind_perm hOk hk).mp q)
 kind:=by rw [pinf_kind h hk];exact kind_three _
 plain:=fun q=>pinf_out h hk fun ho=>q ((h.perm ((h.mem k).mpr hk)).mpr ho)
 uns:=fun q=>pinf_uns h hk ((h.perm ((h.mem k).mpr hk)).mp q)
theorem goalsok (hOk:K.Ok) (h:PlanOf K P ord) {ks:List Nat} (hm:∀ k,k ∈ ks↔k < K.count):GoalsOk K P ks (plL K) where
 cl:=chunk_len h
 ll:=live_len h
 each:=fun i hi=>⟨chunk_at h hi,fun k hk hp=>by
  have hk':=(hm k).mp hk
  have hkP:=(h.mem k).mpr hk'
  have ho:=(h.perm hkP).mp hp
  rw [gt_eq hOk hk',h.slot hkP ho,live_at h hi]
  have:=tw_idx (i:=(i:Int)) h.hord.s ho
  refine decide_eq_decide.mpr ?_
  rw [← show (inf1 K k).last=(lstO (occ K.oc k)).at' from rfl,← this]
  unfold liveN
  omega,by
  rw [live_at h hi,h.env]
  have:=live_le K ord i
  omega⟩
 ne:=h.needs
theorem planok (hOk:K.Ok) (h:PlanOf K P ord) {ks:List Nat} (hn:ks.Nodup) (hm:∀ k,k ∈ ks↔k < K.count):PlanOk K P ks where
 keys:=by rw [sort_range hn hm,sort_range h.nd h.mem]
 vars:=fun k hk=>varok hOk h ((hm k).mp hk)
 env:=by rw [h.env,(permK_ord h hn hm).length_eq]
 slots:=by
  rw [(permK_ord h hn hm).length_eq]
  refine sort_eq ?_ (ints1_sorted _)
  rw [← ord_slots h]
  exact (permK_ord h hn hm).map _
 ord:=fun a ha b hb bad=>by
  have ha':=(permK_ord h hn hm).mem_iff.mp ha
  have hb':=(permK_ord h hn hm).mem_iff.mp hb
  have hac:=((h.hord.mem a).mp ha').1
  have hbc:=((h.hord.mem b).mp hb').1
  have key:Bef (inf1 K) a b→¬ (P.inf b).slot < (P.inf a).slot:=fun hbef=>by
   rw [h.slot ((h.mem a).mpr hac) ha',h.slot ((h.mem b).mpr hbc) hb']
   have:=bef_idx h.hord.s ha' hb' hbef
   lia
  unfold Bad at bad
  rw [pinf_last h hac,pinf_last h hbc,pinf_var h hac,pinf_var h hbc] at bad
  rcases bad with ⟨h1,h2⟩ | ⟨h1,h2,h3⟩
  · exact key (.inl h1) h2
  · exact key (.inr ⟨h1,by lia⟩) h3
 goals:=goalsok hOk h hm
end
theorem updK_same (inf:Nat→Info) (k:Nat) (v:Info):updK inf k v k=v:=if_pos rfl
theorem updK_ne (inf:Nat→Info) {k j:Nat} (v:Info) (h:j≠k):updK inf k v j=inf j:=if_neg h
theorem set_get {l:List Int} {i:Nat} (h:i < l.length) (v:Int):((l.set i v)[i]?).getD 0=v:=by rw [List.getElem?_set_self h];rfl
theorem spoiled {K:Ker} {P P':PlanD} {ord hk ks:List Nat} (hOk:K.Ok) (h:PlanOf K P ord) (hh:∀ k ∈ hk,k ∈ ord) (hn:ks.Nodup) (hm:∀ k,k ∈ ks↔k < K.count) (hs:Spoil hk P P'):¬ PlanOk K P' ks:=by
 have hpo:=permK_ord h hn hm
 have hin:∀ {k},k ∈ P.ks→k ∈ ks:=fun q=>(hm _).mpr ((h.mem _).mp q)
 have hv:∀ {k},k ∈ P.ks→VarOk K k (occ (plL K) k) (P.inf k):=fun q=>varok hOk h ((h.mem _).mp q)
 intro ok
 cases hs with
 | env=>
  have h1:P.env+1=((permK P ks).length:Nat):=ok.env
  rw [hpo.length_eq,h.env] at h1
  lia
 | needs=>
  have h1:(!P.needs)=K.goals.dropLast.any Gl.isCall:=ok.goals.ne
  rw [← h.needs] at h1
  cases e:P.needs <;> rw [e] at h1 <;> injection h1
 | chunks=>
  have h1:(P.chunks++[0]).length=K.goals.length:=ok.goals.cl
  rw [List.length_append,chunk_len h,List.length_singleton] at h1
  lia
 | live=>
  have h1:(P.live++[0]).length=K.goals.length:=ok.goals.ll
  rw [List.length_append,live_len h,List.length_singleton] at h1
  lia
 | chunkAt i hi=>
  have hi':i < K.goals.length:=by rw [← chunk_len h];exact hi
  have h1:((P.chunks.set i (cAt P i+1))[i]?).getD 0=(callsIn (K.goals.take i):Nat):=(ok.goals.each i hi').ch
  rw [set_get hi,chunk_at h hi'] at h1
  lia
 | liveUp i hi=>
  have hi':i < K.goals.length:=by rw [← live_len h];exact hi
  have g:=ok.goals.each i hi'
  have hl:lAt { P with live:=P.live.set i (lAt P i+1) } i=(liveN (inf1 K) ord i:Nat)+1:=by
   rw [← live_at h hi']
   exact set_get hi _
  have h2:lAt { P with live:=P.live.set i (lAt P i+1) } i≤P.env:=g.lo.2
  rw [hl,h.env] at h2
  have hlt:liveN (inf1 K) ord i < ord.length:=by lia
  have hko:=List.getElem_mem hlt
  have hkc:=((h.hord.mem _).mp hko).1
  have hkP:=(h.mem _).mpr hkc
  have hid:=(Bef.nodup h.hord.s).idxOf_getElem _ hlt
  have h3:gtA (occ (plL K) ord[liveN (inf1 K) ord i]) i=decide ((P.inf ord[liveN (inf1 K) ord i]).slot≤lAt { P with live:=P.live.set i (lAt P i+1) } i):=g.us _ (hin hkP) ((h.perm hkP).mpr hko)
  have h5:=tw_idx (i:=(i:Int)) h.hord.s hko
  rw [hl,gt_eq hOk hkc,h.slot hkP hko,hid,decide_eq_true (Int.le_refl _)] at h3
  have h4:=h5.mpr (of_decide_eq_true h3)
  rw [hid] at h4
  exact absurd h4 (Nat.lt_irrefl _)
 | liveDn i hi=>
  have hi':i < K.goals.length:=by rw [← live_len h];exact hi
  have g:=ok.goals.each i hi'
  have hl:lAt { P with live:=P.live.set i (lAt P i - 1) } i=(liveN (inf1 K) ord i:Nat) - 1:=by
   rw [← live_at h hi']
   exact set_get hi _
  have h2:0≤lAt { P with live:=P.live.set i (lAt P i - 1) } i:=g.lo.1
  rw [hl] at h2
  have hle:=live_le K ord i
  have hlt:liveN (inf1 K) ord i - 1 < ord.length:=by lia
  have hko:=List.getElem_mem hlt
  have hkc:=((h.hord.mem _).mp hko).1
  have hkP:=(h.mem _).mpr hkc
  have hid:=(Bef.nodup h.hord.s).idxOf_getElem _ hlt
  have h3:gtA (occ (plL K) ord[liveN (inf1 K) ord i - 1]) i=decide ((P.inf ord[liveN (inf1 K) ord i - 1]).slot≤lAt { P with live:=P.live.set i (lAt P i - 1) } i):=g.us _ (hin hkP) ((h.perm hkP).mpr hko)
  have h5:=tw_idx (i:=(i:Int)) h.hord.s hko
  rw [hl,gt_eq hOk hkc,h.slot hkP hko,hid] at h3
  have h4:(i:Int) < (inf1 K ord[liveN (inf1 K) ord i - 1]).last:=h5.mp (by rw [hid];show _ < liveN (inf1 K) ord i;lia)
  rw [decide_eq_true (show (i:Int) < (lstO (occ K.oc ord[liveN (inf1 K) ord i - 1])).at' from h4)] at h3
  have:=of_decide_eq_true h3.symm
  lia
 | envDn he=>
  have h1:P.env - 1=((permK P ks).length:Nat):=ok.env
  have:ord=[]:=by
   cases e:ord with
   | nil=>rfl
   | cons x o=>
    have hx:x ∈ ord:=by rw [e];exact .head _
    have:=(h.mem x).mpr ((h.hord.mem x).mp hx).1
    rw [he] at this
    cases this
  rw [hpo.length_eq,h.env,this] at h1
  exact absurd h1 (by decide)
 | last k hk=>
  have h1:=(ok.vars k (hin hk)).last
  have h2:=(hv hk).last
  rw [show ({ P with inf:=updK P.inf k { P.inf k with last:=(P.inf k).last+1 } }:PlanD).inf k=_ from updK_same _ _ _] at h1
  have h3:(P.inf k).last+1=maxL (occ (plL K) k):=h1
  lia
 | uns k hk=>
  have h1:=ok.vars k (hin hk)
  rw [show ({ P with inf:=updK P.inf k { P.inf k with uns:=!(P.inf k).uns } }:PlanD).inf k=_ from updK_same _ _ _] at h1
  have h2:=hv hk
  by_cases c:(P.inf k).kind=S "perm"
  · have h3:(!(P.inf k).uns)=decide ((P.inf k).first=S "goal_arg"):=h1.uns c
    rw [← h2.uns c] at h3
    cases e:(P.inf k).uns <;> rw [e] at h3 <;> injection h3
  · have h3:(!(P.inf k).uns)=false:=(h1.plain c).2
    rw [(h2.plain c).2] at h3
    injection h3
 | swap a b ha hb hab=>
  have ha':=hh a ha
  have hb':=hh b hb
  have hac:=((h.hord.mem a).mp ha').1
  have hbc:=((h.hord.mem b).mp hb').1
  have haP:=(h.mem a).mpr hac
  have hbP:=(h.mem b).mpr hbc
  have hba:b≠a:=by lia
  have hab':a≠b:=by lia
  have eb:swapI P.inf a b b={ P.inf b with slot:=(P.inf a).slot }:=if_pos rfl
  have ea:swapI P.inf a b a={ P.inf a with slot:=(P.inf b).slot }:=(if_neg hab').trans (if_pos rfl)
  have ham:a ∈ permK { P with inf:=swapI P.inf a b } ks:=List.mem_filter.mpr ⟨hin haP,decide_eq_true (by show (swapI P.inf a b a).kind=_;rw [ea];exact (h.perm haP).mpr ha')⟩
  have hbm:b ∈ permK { P with inf:=swapI P.inf a b } ks:=List.mem_filter.mpr ⟨hin hbP,decide_eq_true (by show (swapI P.inf a b b).kind=_;rw [eb];exact (h.perm hbP).mpr hb')⟩
  have k1:¬ Bad (swapI P.inf a b a) (swapI P.inf a b b):=ok.ord a ham b hbm
  have k2:¬ Bad (swapI P.inf a b b) (swapI P.inf a b a):=ok.ord b hbm a ham
  rw [ea,eb] at k1 k2
  unfold Bad at k1 k2
  dsimp only at k1 k2
  rw [h.slot haP ha',h.slot hbP hb',pinf_var h hac,pinf_var h hbc] at k1 k2
  have hla:=pinf_last h hac
  have hlb:=pinf_last h hbc
  rcases Int.lt_trichotomy (P.inf a).last (P.inf b).last with q | q | q
  · have:=bef_idx h.hord.s hb' ha' (.inl (by show (lstO (occ K.oc a)).at' < (lstO (occ K.oc b)).at';lia))
    exact k2 (.inl ⟨q,by lia⟩)
  · have:=bef_idx h.hord.s ha' hb' (.inr ⟨by show (lstO (occ K.oc a)).at'=(lstO (occ K.oc b)).at';lia,hab⟩)
    exact k1 (.inr ⟨q,by lia,by lia⟩)
  · have:=bef_idx h.hord.s ha' hb' (.inl (by show (lstO (occ K.oc b)).at' < (lstO (occ K.oc a)).at';lia))
    exact k1 (.inl ⟨q,by lia⟩)
 | var k hk=>
  have h1:=(ok.vars k (hin hk)).var
  rw [show ({ P with inf:=updK P.inf k { P.inf k with var:=(P.inf k).var+1 } }:PlanD).inf k=_ from updK_same _ _ _] at h1
  have h2:(P.inf k).var+1=(k:Int):=h1
  rw [(hv hk).var] at h2
  lia
 | first k hk=>
  have h1:=(ok.vars k (hin hk)).first
  rw [show ({ P with inf:=updK P.inf k { P.inf k with first:=if (P.inf k).first=S "special" then S "goal_arg" else S "special" } }:PlanD).inf k=_ from updK_same _ _ _] at h1
  have h2:(if (P.inf k).first=S "special" then S "goal_arg" else S "special")=(bestL (occ (plL K) k)).word:=h1
  rw [← (hv hk).first] at h2
  by_cases c:(P.inf k).first=S "special"
  · rw [if_pos c,c] at h2;exact absurd h2 (by decide)
  · rw [if_neg c] at h2;exact c h2.symm
 | pop k hk=>
  have h1:sortI (natsI ks)=sortI (natsI (P.ks.filter fun j=>decide (j≠k))):=ok.keys
  have h2:(k:Int) ∈ natsI ks:=List.mem_map_of_mem (hin hk)
  have h3:=(sort_perm (natsI (P.ks.filter fun j=>decide (j≠k)))).mem_iff.mp (h1 ▸ (sort_perm (natsI ks)).mem_iff.mpr h2)
  obtain ⟨j,hj,e⟩:=List.mem_map.mp h3
  have:j=k:=by lia
  exact absurd this (of_decide_eq_true (List.mem_filter.mp hj).2)
 | kslot k hk=>
  have h1:=(ok.vars k (hin hk)).kind
  rw [show ({ P with inf:=updK P.inf k { P.inf k with kind:=S "slot" } }:PlanD).inf k=_ from updK_same _ _ _] at h1
  rcases h1 with q | q | q <;> exact absurd (show S "slot" = _ from q) (by decide)
 | kind k hk=>
  have h1:=ok.vars k (hin hk)
  have h2:=hv hk
  rw [show ({ P with inf:=updK P.inf k { P.inf k with kind:=if (P.inf k).kind=S "temp" then S "void" else S "temp" } }:PlanD).inf k=_ from updK_same _ _ _] at h1
  have h3:decide ((if (P.inf k).kind=S "temp" then S "void" else S "temp")=S "void")=decide ((occ (plL K) k).length=1):=h1.void
  have h4:decide ((if (P.inf k).kind=S "temp" then S "void" else S "temp")=S "perm")=crossB K (occ (plL K) k):=h1.perm
  rw [← h2.void] at h3
  rw [← h2.perm] at h4
  rcases h2.kind with q | q | q
  · rw [q] at h3;exact absurd h3 (by decide)
  · rw [q] at h4;exact absurd h4 (by decide)
  · rw [q] at h3;exact absurd h3 (by decide)
 | slot k hk=>
  have hkc:=(h.mem k).mp hk
  have h1:=ok.vars k (hin hk)
  rw [show ({ P with inf:=updK P.inf k { P.inf k with slot:=(P.inf k).slot+1 } }:PlanD).inf k=_ from updK_same _ _ _] at h1
  by_cases c:(P.inf k).kind=S "perm"
  · have hko:=(h.perm hk).mp c
    have hpk:permK { P with inf:=updK P.inf k { P.inf k with slot:=(P.inf k).slot+1 } } ks=permK P ks:=by
     refine List.filter_congr fun j _=>?_
     by_cases e:j=k
     · subst e
       show decide ((updK P.inf j _ j).kind=_)=_
       rw [updK_same]
     · show decide ((updK P.inf k _ j).kind=_)=_
       rw [updK_ne _ _ e]
    have h2:=ok.slots
    rw [hpk] at h2
    have h3:(P.inf k).slot ∈ ints1 (permK P ks).length:=by
     rw [hpo.length_eq,← ord_slots h]
     exact List.mem_map_of_mem hko
    rw [← h2] at h3
    obtain ⟨j,hj,e⟩:=List.mem_map.mp ((sort_perm _).mem_iff.mp h3)
    have hjo:=hpo.mem_iff.mp hj
    have hjP:=(h.mem j).mpr ((h.hord.mem j).mp hjo).1
    by_cases ejk:j=k
    · subst ejk
      have e':(P.inf j).slot+1=(P.inf j).slot:=by
       have:(updK P.inf j { P.inf j with slot:=(P.inf j).slot+1 } j).slot=(P.inf j).slot:=e
       rw [updK_same] at this
       exact this
      lia
    · have e':(P.inf j).slot=(P.inf k).slot:=by
       have:(updK P.inf k { P.inf k with slot:=(P.inf k).slot+1 } j).slot=(P.inf k).slot:=e
       rw [updK_ne _ _ ejk] at this
       exact this
      rw [h.slot hjP hjo,h.slot hk hko] at e'
      have e2:ord.idxOf j=ord.idxOf k:=by lia
      have l1:=List.idxOf_lt_length_iff.mpr hjo
      have l2:=List.idxOf_lt_length_iff.mpr hko
      have g1:=List.getElem_idxOf l1
      have g2:=List.getElem_idxOf l2
      exact ejk (by rw [← g1,← g2];simp only [e2])
  · have h2:(P.inf k).slot+1=0:=(h1.plain c).1
    rw [((hv hk).plain c).1] at h2
    exact absurd h2 (by decide)
section
variable {K:Ker} {P:PlanD} {ord:List Nat}
theorem home_mem (hOk:K.Ok) (h:PlanOf K P ord) {k:Nat}:k ∈ homesK K.count K.oc↔k ∈ ord:=(home_perm hOk h).mem_iff
theorem kind_val (hOk:K.Ok) (h:PlanOf K P ord) {k:Nat} (hk:k < K.count):(if (occ K.oc k).length=1 then S "void" else if k ∈ homesK K.count K.oc then S "perm" else S "temp")=(P.inf k).kind:=by
 rw [pinf_kind h hk]
 by_cases c:(occ K.oc k).length=1
 · rw [if_pos c,kind_void.mpr c]
 · rw [if_neg c]
   by_cases d:k ∈ homesK K.count K.oc
   · rw [if_pos d]
     exact ((kind_perm hOk hk).mpr (List.mem_filter.mp d).2).symm
   · rw [if_neg d]
     rcases kind_three (infoOf k (occ K.oc k)) with e | e | e
     · exact absurd (kind_void.mp e) c
     · exact absurd (List.mem_filter.mpr ⟨List.mem_range.mpr hk,(kind_perm hOk hk).mp e⟩) d
     · exact e.symm
theorem slot_get (hOk:K.Ok) (h:PlanOf K P ord) {k:Nat} (hk:k < K.count):((kvsOf (fun k=>AV.int (rankH K.count K.oc k:Nat)) (homesK K.count K.oc)).lookup (k:Int)).getD (.int 0)=.int (P.inf k).slot:=by
 by_cases d:k ∈ homesK K.count K.oc
 · have ho:=(home_mem hOk h).mp d
   rw [kvs_lookup d,rank_eq hOk h ho,h.slot ((h.mem k).mpr hk) ho]
   rfl
 · rw [kvs_lookup_none d,(pinf_out h hk fun q=>d ((home_mem hOk h).mpr q)).1]
   rfl
theorem uns_val (hOk:K.Ok) (h:PlanOf K P ord) {k:Nat} (hk:k < K.count):(P.inf k).uns=(decide (k ∈ homesK K.count K.oc) && decide ((fstO (occ K.oc k)).word=S "goal_arg")):=by
 by_cases d:k ∈ homesK K.count K.oc
 · rw [decide_eq_true d,pinf_uns h hk ((home_mem hOk h).mp d),pinf_first h hk]
   rfl
 · rw [decide_eq_false d,(pinf_out h hk fun q=>d ((home_mem hOk h).mpr q)).2]
   rfl
theorem perm_val (hOk:K.Ok) (h:PlanOf K P ord) {k:Nat} (hk:k < K.count):decide ((P.inf k).kind=S "perm")=decide (k ∈ homesK K.count K.oc):=
 decide_eq_decide.mpr ((h.perm ((h.mem k).mpr hk)).trans (home_mem hOk h).symm)
theorem void_val (h:PlanOf K P ord) {k:Nat} (hk:k < K.count):decide ((P.inf k).kind=S "void")=decide ((occ K.oc k).length=1):=by
 rw [pinf_kind h hk]
 exact decide_eq_decide.mpr kind_void
theorem home_len (hOk:K.Ok) (h:PlanOf K P ord):(homesK K.count K.oc).length=ord.length:=(home_perm hOk h).length_eq
theorem filt_take {inf:Nat→Info} {i:Int}:∀ {ord:List Nat},ord.Pairwise (Bef inf)→ord.filter (fun k=>decide (i < (inf k).last))=ord.takeWhile fun k=>decide (i < (inf k).last)
 | [],_=>rfl
 | x::ord,hs=>by
  obtain ⟨h1,h2⟩:=List.pairwise_cons.mp hs
  rw [List.takeWhile_cons,List.filter_cons]
  by_cases d:i < (inf x).last
  · rw [decide_eq_true d,if_pos rfl,filt_take h2]
    exact (if_pos rfl).symm
  · rw [decide_eq_false d,if_neg (by decide)]
    refine filt_none fun y hy=>decide_eq_false fun q=>d ?_
    rcases h1 y hy with h | ⟨h,_⟩ <;> omega
theorem tw_take {p:Nat→Bool}:∀ l:List Nat,l.takeWhile p=l.take (l.takeWhile p).length
 | []=>rfl
 | x::l=>by
  rw [List.takeWhile_cons]
  cases p x with
  | true=>show x::l.takeWhile p=(x::l).take ((l.takeWhile p).length+1);rw [List.take_succ_cons,← tw_take l]
  | false=>rfl
theorem ints1_take {n v:Nat} (h:v≤n):(ints1 n).take v=ints1 v:=by
 unfold ints1
 rw [← List.map_take,List.take_range,Nat.min_eq_left h]
theorem later_val (hOk:K.Ok) (h:PlanOf K P ord) (i:Nat):sortI (((homesK K.count K.oc).filter fun k=>decide ((i:Int) < lastK K.oc k)).map fun k=>(rankH K.count K.oc k:Int))=ints1 (liveN (inf1 K) ord i):=by
 refine sort_eq ?_ (ints1_sorted _)
 have h1:=((home_perm hOk h).filter fun k=>decide ((i:Int) < lastK K.oc k)).map fun k=>(rankH K.count K.oc k:Int)
 refine h1.trans ?_
 have h2:ord.filter (fun k=>decide ((i:Int) < lastK K.oc k))=ord.take (liveN (inf1 K) ord i):=(filt_take (inf:=inf1 K) h.hord.s).trans (tw_take ord)
 rw [h2]
 have h3:(ord.take (liveN (inf1 K) ord i)).map (fun k=>(rankH K.count K.oc k:Int))=(ord.map fun k=>(P.inf k).slot).take (liveN (inf1 K) ord i):=by
  rw [← List.map_take]
  refine List.map_congr_left fun k hk=>?_
  have ho:=List.mem_of_mem_take hk
  rw [rank_eq hOk h ho,h.slot ((h.mem k).mpr ((h.hord.mem k).mp ho).1) ho]
  lia
 rw [h3,ord_slots h,ints1_take (live_le K ord i)]
theorem sortK_eq {rk:Nat→Int} {L M:List Nat} (hp:List.Perm L M) (hs:M.Pairwise fun a b=>rk a < rk b):sortK (L.map fun k=>(rk k,(k:Int)))=natsI M:=by
 have hms:(L.map fun k=>(rk k,(k:Int))).mergeSort (fun a b=>decide (a.1≤b.1))=M.map fun k=>(rk k,(k:Int)):=by
  have hM:(M.map fun k=>(rk k,(k:Int))).Pairwise (fun a b=>a.1≤b.1):=List.pairwise_map.mpr (hs.imp fun h=>Int.le_of_lt h)
  have hpm:=(List.mergeSort_perm (L.map fun k=>(rk k,(k:Int))) (fun a b=>decide (a.1≤b.1))).trans (hp.map fun k=>(rk k,(k:Int)))
  refine List.Perm.eq_of_pairwise (le:=fun a b=>a.1≤b.1) (fun a b ha hb h1 h2=>?_) ?_ hM hpm
  · obtain ⟨x,hx,rfl⟩:=List.mem_map.mp (hpm.mem_iff.mp ha)
    obtain ⟨y,hy,rfl⟩:=List.mem_map.mp hb
    obtain ⟨i,hi,rfl⟩:=List.getElem_of_mem hx
    obtain ⟨j,hj,rfl⟩:=List.getElem_of_mem hy
    dsimp only at h1 h2
    rcases Nat.lt_trichotomy i j with q | q | q
    · have:=List.pairwise_iff_getElem.mp hs i j hi hj q
      lia
    · subst q;rfl
    · have:=List.pairwise_iff_getElem.mp hs j i hj hi q
      lia
  · refine (List.pairwise_mergeSort (le:=fun a b:Int × Int=>decide (a.1≤b.1)) (fun a b c h1 h2=>?_) (fun a b=>?_) _).imp fun h=>of_decide_eq_true h
    · exact decide_eq_true (Int.le_trans (of_decide_eq_true h1) (of_decide_eq_true h2))
    · rcases Int.le_total a.1 b.1 with h | h
      · simp [h]
      · simp [h]
 unfold sortK
 rw [hms,List.map_map]
 rfl
theorem rank_pw (hOk:K.Ok) (h:PlanOf K P ord) {M:List Nat} (hM:M.Sublist ord):M.Pairwise fun a b=>(rankH K.count K.oc a:Int) < (rankH K.count K.oc b:Int):=by
 refine (h.hord.s.sublist hM).imp_of_mem fun {a b} ha hb hab=>?_
 have ha':=hM.subset ha
 have hb':=hM.subset hb
 rw [rank_eq hOk h ha',rank_eq hOk h hb']
 have:=bef_idx h.hord.s ha' hb' hab
 omega
theorem keysD_eq {rk:Nat→Int} {hk L:List Nat} (h:∀ k ∈ L,k ∈ hk):keysD (kvsOf (fun k=>.int (rk k)) hk) (natsV L)=some (L.map fun k=>(rk k,(k:Int))):=by
 induction L with
 | nil=>rfl
 | cons k L ih=>
  show (((kvsOf (fun k=>AV.int (rk k)) hk).lookup (k:Int)).bind fun v=>v.int?.bind fun k'=>(keysD (kvsOf (fun k=>AV.int (rk k)) hk) (natsV L)).map fun ks=>(k',(k:Int))::ks)=_
  rw [kvs_lookup (f:=fun k=>AV.int (rk k)) (h k (.head _)),ih fun j hj=>h j (.tail _ hj)]
  rfl
theorem nodup_rank (hOk:K.Ok) (h:PlanOf K P ord) {L M:List Nat} (hp:List.Perm L M) (hM:M.Sublist ord):((L.map fun k=>((rankH K.count K.oc k:Int),(k:Int))).map (·.1)).Nodup:=by
 rw [List.map_map]
 have h1:(M.map fun k=>(rankH K.count K.oc k:Int)).Nodup:=List.pairwise_map.mpr ((rank_pw hOk h hM).imp fun h q=>by lia)
 exact ((hp.map fun k=>(rankH K.count K.oc k:Int)).nodup_iff).mpr h1
end
theorem e_srtD {Γ:Gam} {σ:AH} {m:Env'} {R:AV→AH→Prop} {K:Ker} {P:PlanD} {ord L M:List Nat} (hOk:K.Ok) (h:PlanOf K P ord) {e:PE} {a H:Addr} {d eph:Nat} (he:ev σ m e=some (.ref a)) (hm:m[d]?=some (some (.ref H))) (hH:σ H=some (.dict (kvsOf (fun k=>.int (rankH K.count K.oc k:Nat)) (homesK K.count K.oc)) eph)) (hx:itemsOf σ (.ref a)=some (natsV L))
 (hp:List.Perm L M) (hM:M.Sublist ord) (k:∀ r,σ r=none→R (.ref r) (σ.set r (.list ((natsI M).map .int)))):pwpE Γ (.srtD e d) m R σ:=by
 have hL:∀ k ∈ L,k ∈ homesK K.count K.oc:=fun k hk=>(home_mem hOk h).mpr (hM.subset (hp.mem_iff.mp hk))
 refine e_srt (ev_w he (som_of hm (som_of rfl (som_of (show (σ H).bind dicO=_ by rw [hH];rfl) (som_of hx (som_of (keysD_eq (rk:=fun k=>(rankH K.count K.oc k:Int)) hL) ⟨?_,nodup_rank hOk h hp hM,?_⟩))))))
 · have h1:=hp.length_eq
   have h2:=hM.length_le
   have h3:=h.hord.len
   have h4:=hOk.count
   rw [List.length_map]
   lia
 · rw [sortK_eq (rk:=fun k=>(rankH K.count K.oc k:Int)) hp (rank_pw hOk h hM)]
   exact k
noncomputable def bodyA:PS:=(.seq (.asg 7 (.idx (.attr (.var 5) (S "infos")) (.var 6))) <|
     (.seq (.asg 8 (.ite (.cmp .eq (.bi .len (.cons (.idx (.var 4) (.var 6)) .nil)) (.lit (.int (1)))) (.lit (.str (S "void"))) (.ite (.cmp .isin (.var 6) (.var 15)) (.lit (.str (S "perm"))) (.lit (.str (S "temp")))))) <|
     (.seq (.ifS (.cmp .ne (.tup (.cons (.attr (.var 7) (S "var")) (.cons (.attr (.var 7) (S "kind")) (.cons (.attr (.var 7) (S "first")) .nil)))) (.tup (.cons (.var 6) (.cons (.var 8) (.cons (.idx (.idx (.idx (.var 4) (.var 6)) (.lit (.int (0)))) (.lit (.int (2)))) .nil)))))
      (.seq (.ret (.lit (.bool false))) <|
      .nop)
      .nop) <|
     (.seq (.ifS (.bop false (.cons (.cmp .ne (.attr (.var 7) (S "slot")) (.bm (.var 15) .get (.cons (.var 6) (.cons (.lit (.int (0))) .nil)))) (.cons (.cmp .ne (.attr (.var 7) (S "last_goal")) (.idx (.idx (.idx (.var 4) (.var 6)) (.neg (.lit (.int (1))))) (.lit (.int (0))))) .nil)))
      (.seq (.ret (.lit (.bool false))) <|
      .nop)
      .nop) <|
     (.seq (.ifS (.cmp .ne (.attr (.var 7) (S "unsafe")) (.bop true (.cons (.cmp .isin (.var 6) (.var 15)) (.cons (.cmp .eq (.idx (.idx (.idx (.var 4) (.var 6)) (.lit (.int (0)))) (.lit (.int (2)))) (.lit (.str (S "goal_arg")))) .nil))))
      (.seq (.ret (.lit (.bool false))) <|
      .nop)
      .nop) <|
     (.seq (.ifS (.bop false (.cons (.cmp .ne (.meth (.var 5) (S "is_perm") (.cons (.var 6) .nil)) (.cmp .isin (.var 6) (.var 15))) (.cons (.cmp .ne (.meth (.var 5) (S "is_void") (.cons (.var 6) .nil)) (.cmp .eq (.bi .len (.cons (.idx (.var 4) (.var 6)) .nil)) (.lit (.int (1))))) (.cons (.cmp .ne (.attr (.meth (.var 5) (S "info") (.cons (.var 6) .nil)) (S "var")) (.var 6)) .nil))))
      (.seq (.ret (.lit (.bool false))) <|
      .nop)
      .nop) <|
     .nop))))))
noncomputable def bodyB:PS:=(.seq (.asg 11 (.comp (.idx (.var 15) (.var 16)) (.var 15) (.cmp .gt (.idx (.idx (.idx (.var 4) (.var 16)) (.neg (.lit (.int (1))))) (.lit (.int (0)))) (.var 9)))) <|
     (.seq (.ifS (.cmp .ne (.bi .sorted (.cons (.var 11) .nil)) (.bi .list (.cons (.bi .range (.cons (.lit (.int (1))) (.cons (.bin .add (.idx (.attr (.var 5) (S "live_after")) (.var 9)) (.lit (.int (1)))) .nil))) .nil)))
      (.seq (.ret (.lit (.bool false))) <|
      .nop)
      .nop) <|
     (.seq (.asg 12 (.comp (.var 16) (.var 15) (.cmp .eq (.idx (.idx (.idx (.var 4) (.var 16)) (.neg (.lit (.int (1))))) (.lit (.int (0)))) (.var 9)))) <|
     (.seq (.ifS (.cmp .ne (.meth (.var 5) (S "dying_at") (.cons (.var 9) .nil)) (.srtD (.var 12) 15))
      (.seq (.ret (.lit (.bool false))) <|
      .nop)
      .nop) <|
     .nop))))
noncomputable def bodyC:PS:=(.seq (.asg 6 (.ite (.cmp .gt (.attr (.var 2) (S "count")) (.lit (.int (0)))) (.bin .mod (.call (S "_law_next") (.cons (.var 1) .nil)) (.attr (.var 2) (S "count"))) (.neg (.lit (.int (1)))))) <|
     (.seq (.asg 9 (.ite (.cmp .ne (.var 3) (.list .nil)) (.bin .mod (.call (S "_law_next") (.cons (.var 1) .nil)) (.bi .len (.cons (.var 3) .nil))) (.neg (.lit (.int (1)))))) <|
     (.seq (.asg 5 (.call (S "classify") (.cons (.var 2) .nil))) <|
     (.seq (.expr (.call (S "_law_spoiled") (.cons (.var 5) (.cons (.bin .mod (.bin .add (.var 13) (.bin .mul (.lit (.int (5))) (.var 14))) (.lit (.int (16)))) (.cons (.var 6) (.cons (.var 9) (.cons (.var 15) .nil))))))) <|
     (.seq (.ifS (.call (S "check_plan") (.cons (.var 2) (.cons (.var 5) .nil)))
      (.seq (.ret (.lit (.bool false))) <|
      .nop)
      .nop) <|
     .nop)))))
section
variable {Γ:Gam} {σ:AH} {m:Env'} {Q:AFl→Env'→AH→Prop} {b:PS} {R:AV→AH→Prop}
theorem s_ifF {c:PE} {x:PS} (h:evB σ m c=some false) (k:pwpS Γ b Q m σ):pwpS Γ (.seq (.ifS c x .nop) b) Q m σ:=s_if h (fun q=>nomatch q) fun _=>s_end k
theorem x_and2 {e1 e2:PE} {x y:Bool} (h1:ev σ m e1=some (.bool x)) (h2:ev σ m e2=some (.bool y)):ev σ m (.bop true (.cons e1 (.cons e2 .nil)))=some (.bool (x && y)):=by
 show (ev σ m e1).bind (fun v=>(truthW σ v).bind fun b=>if b=true then ev σ m e2 else some v)=_
 rw [h1]
 show (if x=true then ev σ m e2 else some (.bool x))=_
 cases x with
 | true=>rw [if_pos rfl,h2];rfl
 | false=>rw [if_neg (by decide)];rfl
theorem ne_false {x y:AV} (h:eqW σ x y=some true):cmpW .ne σ x y=some false:=by
 show (eqW σ x y).map (!·)=_
 rw [h]
 rfl
end
structure LS (σ:AH) (kx ga g3 pl p D c l H:Addr) (pa ad:Nat→Addr) (ep eph:Nat) (K:Ker) (P:PlanD):Prop where
 ker:KerAt σ kx ga K
 g:σ g3=some (.list (K.goals.map encG))
 pls:PLs σ pl K.count pa K.oc
 h:σ H=some (.dict (kvsOf (fun k=>.int (rankH K.count K.oc k:Nat)) (homesK K.count K.oc)) eph)
 plan:PlanAt σ p D c l ep ad P
theorem LS.mono {σ σ':AH} {kx ga g3 pl p D c l H:Addr} {pa ad:Nat→Addr} {ep eph:Nat} {K:Ker} {P:PlanD} (s:LS σ kx ga g3 pl p D c l H pa ad ep eph K P) (x:Ext [] σ σ'):LS σ' kx ga g3 pl p D c l H pa ad ep eph K P:=
 ⟨s.ker.mono x,x.get s.g,s.pls.mono x,x.get s.h,s.plan.mono x⟩
theorem lawA {Γ:Gam} (hip:Γ.mth 143 (S "is_perm")=some t_is_perm) (hiv:Γ.mth 143 (S "is_void")=some t_is_void) (hif:Γ.mth 143 (S "info")=some t_info) {σ:AH} {kx ga g3 pl p D c l H:Addr} {pa ad:Nat→Addr} {ep eph:Nat} {K:Ker} {P:PlanD} {ord:List Nat}
 (s:LS σ kx ga g3 pl p D c l H pa ad ep eph K P) (hOk:K.Ok) (h:PlanOf K P ord) {k:Nat} (hk:k < K.count) {e0 e1 e2 e3 x7 x8 e9 e10 e11 e12 e13 e14:Option AV} {C:AFl→Env'→AH→Prop}
 (hC:∀ x7 x8,C .next [e0,e1,e2,e3,some (.ref pl),some (.obj 143 p),some (.int k),x7,x8,e9,e10,e11,e12,e13,e14,some (.ref H)] σ):
 pwpS Γ bodyA C [e0,e1,e2,e3,some (.ref pl),some (.obj 143 p),some (.int k),x7,x8,e9,e10,e11,e12,e13,e14,some (.ref H)] σ:=by
 unfold bodyA
 have hne:∀ k,k < K.count→occ K.oc k≠[]:=fun k hk=>oc_ne hOk hk
 have hkP:=(h.mem k).mpr hk
 have hi:=s.plan.a.i k hkP
 have hin:∀ m,varV m 6=some (.int k)→varV m 15=some (.ref H)→evB σ m (.cmp .isin (.var 6) (.var 15))=some (decide (k ∈ homesK K.count K.oc)):=fun m h6 h15=>xb_cmp h6 h15 ((inD s.h).trans (congrArg some kvs_any))
 have hin':∀ m,varV m 6=some (.int k)→varV m 15=some (.ref H)→ev σ m (.cmp .isin (.var 6) (.var 15))=some (.bool (decide (k ∈ homesK K.count K.oc))):=fun m h6 h15=>x_cmp h6 h15 ((inD s.h).trans (congrArg some kvs_any))
 have hlen:∀ m,varV m 6=some (.int k)→varV m 4=some (.ref pl)→ev σ m (.cmp .eq (.bi .len (.cons (.idx (.var 4) (.var 6)) .nil)) (.lit (.int 1)))=some (.bool (decide ((occ K.oc k).length=1))):=fun m h6 h4=>by
  refine x_cmp (x_lenL (s.pls.at h4 h6 hk) (s.pls.i k hk)) rfl ?_
  rw [List.length_map]
  show some (decide (((occ K.oc k).length:Int)=1))=_
  congr 1
  exact decide_eq_decide.mpr (by lia)
 refine s_asg (v:=.obj 87 (ad k)) (x_idxD (x_attr rfl s.plan.o rfl) s.plan.a.d rfl (kvs_lookup hkP)) ?_
 refine s_asg (v:=.str (P.inf k).kind) ?_ ?_
 · rw [← kind_val hOk h hk]
   refine x_ite (t:=decide ((occ K.oc k).length=1)) ?_ (fun q=>by rw [if_pos (of_decide_eq_true q)];rfl) (fun q=>?_)
   · refine xb_cmp (x_lenL (s.pls.at rfl rfl hk) (s.pls.i k hk)) rfl ?_
     rw [List.length_map]
     show some (decide (((occ K.oc k).length:Int)=1))=_
     congr 1
     exact decide_eq_decide.mpr (by lia)
   · rw [if_neg (of_decide_eq_false q)]
     exact x_ite (hin _ rfl rfl) (fun q=>by rw [if_pos (of_decide_eq_true q)];rfl) (fun q=>by rw [if_neg (of_decide_eq_false q)];rfl)
 refine s_ifF (xb_cmp (x_tup (xs_cons (x_attr rfl hi rfl) (xs_cons (x_attr rfl hi rfl) (xs_cons (x_attr rfl hi rfl) xs_nil))) (show 3≤LIM by decide)) (x_tup (xs_cons rfl (xs_cons rfl (xs_cons (x_idxT (s.pls.fst hne rfl rfl hk) rfl rfl) xs_nil))) (show 3≤LIM by decide)) (ne_false ?_)) ?_
 · show some (decide ((P.inf k).var=(k:Int)) && (decide ((P.inf k).kind=(P.inf k).kind) && (decide ((P.inf k).first=(fstO (occ K.oc k)).word) && true)))=_
   rw [decide_eq_true (pinf_var h hk),decide_eq_true rfl,decide_eq_true (pinf_first h hk)]
   rfl
 refine s_ifF (xb_all (b:=false) (xb_cmp (x_attr rfl hi rfl) ((x_get rfl s.h rfl rfl).trans (congrArg some (slot_get hOk h hk))) (ne_false (congrArg some (decide_eq_true rfl)))) (fun _=>xb_all (b:=false) (xb_cmp (x_attr rfl hi rfl) (x_idxT (s.pls.lst hne rfl rfl hk) rfl rfl) (ne_false (congrArg some (decide_eq_true (pinf_last h hk))))) (fun _=>rfl) (fun q=>absurd rfl q)) (fun q=>absurd rfl q)) ?_
 refine s_ifF (xb_cmp (x_attr rfl hi rfl) (x_and2 (hin' _ rfl rfl) (x_cmp (x_idxT (s.pls.fst hne rfl rfl hk) rfl rfl) rfl rfl)) (ne_false (congrArg some (decide_eq_true (uns_val hOk h hk))))) ?_
 refine s_ifX (b_bop (b_cons (b_cmp (e_meth rfl s.plan.o hip rfl (es_ev (v:=.int k) rfl (es_nil ⟨p,D,c,l,ep,ad,P,k,rfl,s.plan,hkP,ev_w (hin' _ rfl rfl) (som_of (x:=false) (ne_false (congrArg some (decide_eq_true (perm_val hOk h hk)))) ?_)⟩))))))
 refine (if_pos rfl).mpr (b_cons (b_cmp (e_meth rfl s.plan.o hiv rfl (es_ev (v:=.int k) rfl (es_nil ⟨p,D,c,l,ep,ad,P,k,rfl,s.plan,hkP,ev_w (hlen _ rfl rfl) (som_of (x:=false) (ne_false (congrArg some (decide_eq_true (void_val h hk)))) ?_)⟩)))))
 refine (if_pos rfl).mpr (b_cons (b_cmp (e_attr (e_meth rfl s.plan.o hif rfl (es_ev (v:=.int k) rfl (es_nil ⟨p,D,c,l,ep,ad,P,k,rfl,s.plan,hkP,attrV_w (v:=.int (P.inf k).var) ?_ (ev_w (v:=.int k) rfl (som_of (x:=false) (ne_false (congrArg some (decide_eq_true (pinf_var h hk)))) ?_))⟩))))))
 · show (σ (ad k)).bind (attO 87 (S "var"))=_
   rw [hi]
   rfl
 exact (if_pos rfl).mpr (b_nil ((if_neg (by decide)).mpr (s_end (s_nop (hC _ _)))))
theorem lawB {Γ:Gam} (hdy:Γ.mth 143 (S "dying_at")=some t_dying_at) {σ:AH} {kx ga g3 pl p D c l H:Addr} {pa ad:Nat→Addr} {ep eph:Nat} {K:Ker} {P:PlanD} {ord:List Nat}
 (s:LS σ kx ga g3 pl p D c l H pa ad ep eph K P) (hOk:K.Ok) (h:PlanOf K P ord) {i:Nat} (hi:i < K.goals.length) {e0 e1 e2 e3 e6 e7 e8 e10 x11 x12 e13 e14:Option AV} {C:AFl→Env'→AH→Prop}
 (hC:∀ x11 x12 σ',Ext [] σ σ'→C .next [e0,e1,e2,e3,some (.ref pl),some (.obj 143 p),e6,e7,e8,some (.int i),e10,x11,x12,e13,e14,some (.ref H)] σ'):
 pwpS Γ bodyB C [e0,e1,e2,e3,some (.ref pl),some (.obj 143 p),e6,e7,e8,some (.int i),e10,x11,x12,e13,e14,some (.ref H)] σ:=by
 unfold bodyB
 have hne:∀ k,k < K.count→occ K.oc k≠[]:=fun k hk=>oc_ne hOk hk
 have hhn:∀ k ∈ homesK K.count K.oc,k < K.count:=fun k hk=>List.mem_range.mp (List.mem_filter.mp hk).1
 have hhl:(homesK K.count K.oc).length < 64:=by
  have h1:=home_len hOk h
  have h2:=h.hord.len
  have h3:=hOk.count
  lia
 refine s_asgX (e_compP (f:=fun (n:Nat)=>AV.int (n:Int)) (g:=fun k=>.int (rankH K.count K.oc k:Nat)) (p:=fun k=>decide ((i:Int) < lastK K.oc k)) (all:=homesK K.count K.oc) (v:=.ref H) rfl (items_kvs s.h) (by unfold LIM;lia) (fun k hk=>xb_cmp (x_idxT (s.pls.lst hne rfl rfl (hhn k hk)) rfl rfl) rfl rfl) (fun k hk=>x_idxD rfl s.h rfl (kvs_lookup hk)) fun r1 hr1=>?_)
 have hl1:((homesK K.count K.oc).filter fun k=>decide ((i:Int) < lastK K.oc k)).map (fun k=>AV.int (rankH K.count K.oc k:Nat))=(((homesK K.count K.oc).filter fun k=>decide ((i:Int) < lastK K.oc k)).map fun k=>(rankH K.count K.oc k:Int)).map AV.int:=by
  rw [List.map_map]
  rfl
 rw [hl1]
 have x1:Ext [] σ (σ.set r1 (.list ((((homesK K.count K.oc).filter fun k=>decide ((i:Int) < lastK K.oc k)).map fun k=>(rankH K.count K.oc k:Int)).map AV.int))):=(Ext.refl [] _).updN hr1 _
 have hfl:((homesK K.count K.oc).filter fun k=>decide ((i:Int) < lastK K.oc k)).length < 64:=Nat.lt_of_le_of_lt (List.length_filter_le _ _) hhl
 refine s_ifX (b_cmp (e_sorted rfl (items_list (set_same _ _ _)) (intsOf_ints _) (by rw [List.length_map];exact hfl) fun r2 hr2=>?_))
 rw [later_val hOk h]
 have x2:=x1.updN (x1.none hr2) (.list ((ints1 (liveN (inf1 K) ord i)).map AV.int))
 have hr2s:=set_same (σ.set r1 (.list ((((homesK K.count K.oc).filter fun k=>decide ((i:Int) < lastK K.oc k)).map fun k=>(rankH K.count K.oc k:Int)).map AV.int))) r2 (.list ((ints1 (liveN (inf1 K) ord i)).map AV.int))
 generalize (σ.set r1 (.list ((((homesK K.count K.oc).filter fun k=>decide ((i:Int) < lastK K.oc k)).map fun k=>(rankH K.count K.oc k:Int)).map AV.int))).set r2 (.list ((ints1 (liveN (inf1 K) ord i)).map AV.int))=σ2 at x2 hr2s
 have s2:=s.mono x2
 have hlv:(P.live.map AV.int)[i]?=some (.int (lAt P i)):=ints_get (by rw [live_len h];exact hi)
 have hla:=live_at h hi
 have hle:=live_le K ord i
 have hol:=h.hord.len
 have hcn:=hOk.count
 refine e_list1n (n:=liveN (inf1 K) ord i) (x_rng2 rfl (x_bin (x_idxL (x_attr rfl s2.plan.o rfl) s2.plan.hl rfl ((pyIdx_of rfl).trans hlv)) rfl rfl) ?_) rfl (by rw [hla]) (by unfold LIM;lia) fun r3 hr3=>?_
 · rw [hla];unfold LIM;lia
 have x3:=x2.updN (x2.none hr3) (.list ((ints1 (liveN (inf1 K) ord i)).map AV.int))
 refine som_of (x:=false) (ne_false ((eqW_ints ((set_ne _ _ (ne_of hr2s hr3)).trans hr2s) (set_same _ _ _)).trans (congrArg some (decide_eq_true rfl)))) ((if_neg (by decide)).mpr (s_end ?_))
 generalize σ2.set r3 (.list ((ints1 (liveN (inf1 K) ord i)).map AV.int))=σ3 at x3
 have s3:=s.mono x3
 refine s_asgX (e_compP (f:=fun (n:Nat)=>AV.int (n:Int)) (g:=fun (n:Nat)=>AV.int (n:Int)) (p:=fun k=>decide (lastK K.oc k=(i:Int))) (all:=homesK K.count K.oc) (v:=.ref H) rfl (items_kvs s3.h) (by unfold LIM;lia) (fun k hk=>xb_cmp (x_idxT (s3.pls.lst hne rfl rfl (hhn k hk)) rfl rfl) rfl rfl) (fun k hk=>rfl) fun r4 hr4=>?_)
 have x4:=x3.updN (x3.none hr4) (.list (natsV ((homesK K.count K.oc).filter fun k=>decide (lastK K.oc k=(i:Int)))))
 have hr4s:=set_same σ3 r4 (.list (natsV ((homesK K.count K.oc).filter fun k=>decide (lastK K.oc k=(i:Int)))))
 show pwpS Γ _ _ _ (σ3.set r4 (.list (natsV ((homesK K.count K.oc).filter fun k=>decide (lastK K.oc k=(i:Int))))))
 generalize σ3.set r4 (.list (natsV ((homesK K.count K.oc).filter fun k=>decide (lastK K.oc k=(i:Int)))))=σ4 at x4 hr4s
 have s4:=s.mono x4
 refine s_ifX (b_cmp (e_meth rfl s4.plan.o hdy rfl (es_ev (v:=.int i) rfl (es_nil ⟨p,D,c,l,ep,ad,P,K,ord,i,rfl,s4.plan,h,hOk.count,fun r5 σ5 hr5 x5 h5=>?_⟩))))
 have x45:=x4.trans x5
 have s5:=s.mono x45
 have hfe:(ord.filter fun k=>decide ((P.inf k).last=(i:Int)))=ord.filter fun k=>decide (lastK K.oc k=(i:Int)):=List.filter_congr fun k hk=>by
  rw [pinf_last h ((h.hord.mem k).mp hk).1]
  rfl
 rw [hfe] at h5
 refine e_srtD hOk h (a:=r4) (L:=(homesK K.count K.oc).filter fun k=>decide (lastK K.oc k=(i:Int))) (M:=ord.filter fun k=>decide (lastK K.oc k=(i:Int))) rfl rfl s5.h (items_list (x5.get hr4s)) ((home_perm hOk h).filter _) (List.filter_sublist ..) fun r6 hr6=>?_
 have x6:=x45.updN (x45.none hr6) (.list ((natsI (ord.filter fun k=>decide (lastK K.oc k=(i:Int)))).map AV.int))
 refine som_of (x:=false) (ne_false ((eqW_ints (a:=natsI (ord.filter fun k=>decide (lastK K.oc k=(i:Int)))) (by rw [natsI_int];exact (set_ne _ _ (ne_of h5 hr6)).trans h5) (set_same _ _ _)).trans (congrArg some (decide_eq_true rfl)))) ((if_neg (by decide)).mpr (s_end (s_nop (hC _ _ _ x6))))
theorem spoil_len {hk:List Nat} {P P':PlanD} (h:Spoil hk P P'):P'.ks.length≤P.ks.length:=by
 cases h with
 | pop k _=>exact List.length_filter_le _ _
 | _=>exact Nat.le_refl _
theorem ext_new {σa σb σc:AH} {X:List Addr} (x:Ext [] σa σb) (y:Ext X σb σc) (h:∀ b ∈ X,σa b=none):Ext [] σa σc:=fun b _ o e=>y b (fun q=>by rw [h b q] at e;injection e) o (x.get e)
structure LT (σ:AH) (row kx ga g3 H:Addr) (eph:Nat) (K:Ker):Prop where
 ker:KerAt σ kx ga K
 g:σ g3=some (.list (K.goals.map encG))
 h:σ H=some (.dict (kvsOf (fun k=>.int (rankH K.count K.oc k:Nat)) (homesK K.count K.oc)) eph)
 r:∃ xs,σ row=some (.list (natsV xs))
theorem LT.mono {σ σ':AH} {row kx ga g3 H:Addr} {eph:Nat} {K:Ker} (s:LT σ row kx ga g3 H eph K) (x:Ext [] σ σ'):LT σ' row kx ga g3 H eph K:=
 ⟨s.ker.mono x,x.get s.g,x.get s.h,by obtain ⟨xs,e⟩:=s.r;exact ⟨xs,x.get e⟩⟩
theorem LT.draw {σ σ':AH} {row kx ga g3 H:Addr} {eph:Nat} {K:Ker} (s:LT σ row kx ga g3 H eph K) (h1:ga≠row) (h2:g3≠row) (x:Ext [row] σ σ') {xs:List Nat} (hr:σ' row=some (.list (natsV xs))):LT σ' row kx ga g3 H eph K:=by
 obtain ⟨ys,hy⟩:=s.r
 obtain ⟨f,hf⟩:=s.ker.o
 have hk:kx≠row:=fun q=>by rw [q,hy] at hf;(injection hf with z0;injection z0)
 have hH:H≠row:=fun q=>by have:=s.h;rw [q,hy] at this;(injection this with z0;injection z0)
 exact ⟨⟨⟨f,x kx (by simpa using hk) _ hf⟩,x ga (by simpa using h1) _ s.ker.g⟩,x g3 (by simpa using h2) _ s.g,x H (by simpa using hH) _ s.h,xs,hr⟩
theorem lawC {Γ:Gam} (hn:Γ.fn (S "_law_next")=some t_law_next) (hcl:Γ.fn (S "classify")=some t_classify) (hsp:Γ.fn (S "_law_spoiled")=some t_law_spoiled) (hcp:Γ.fn (S "check_plan")=some t_check_plan)
 {σ:AH} {row kx ga g3 H:Addr} {eph:Nat} {K:Ker} (s:LT σ row kx ga g3 H eph K) (hOk:K.Ok) (h1:ga≠row) (h2:g3≠row) {dr st:Nat} (hst:st < 4) {e0 e4 x5 x6 e7 e8 x9 e10 e11 e12:Option AV} {C:AFl→Env'→AH→Prop}
 (hC:∀ x5 x6 x9 σ',LT σ' row kx ga g3 H eph K→C .next [e0,some (.ref row),some (.obj 52 kx),some (.ref g3),e4,x5,x6,e7,e8,x9,e10,e11,e12,some (.int dr),some (.int st),some (.ref H)] σ'):
 pwpS Γ bodyC C [e0,some (.ref row),some (.obj 52 kx),some (.ref g3),e4,x5,x6,e7,e8,x9,e10,e11,e12,some (.int dr),some (.int st),some (.ref H)] σ:=by
 unfold bodyC
 refine s_join (fun m' σ'=>EI1_3 (fun (k:Int) m'=>m'=[e0,some (.ref row),some (.obj 52 kx),some (.ref g3),e4,x5,some (.int k),e7,e8,x9,e10,e11,e12,some (.int dr),some (.int st),some (.ref H)]) (fun (k:Int) σ'=>LT σ' row kx ga g3 H eph K) (fun (k:Int) σ'=>(k < 0→K.count=0)) (fun (k:Int) σ'=>(0≤k→∃ j:Nat,k=j∧j < K.count)) m' σ') (fun C1 hC1 _=>?_) ?_
 · obtain ⟨f,hf⟩:=s.ker.o
   obtain ⟨xs,hx⟩:=s.r
   have hkr:kx≠row:=fun q=>by rw [q,hx] at hf;(injection hf with z0;injection z0)
   refine i_asg (e_ite (evB_w (b:=decide ((0:Int) < (K.count:Nat))) (xb_cmp (x_attr rfl hf rfl) rfl rfl) ?_))
   by_cases c:0 < K.count
   · refine (if_pos (decide_eq_true (by lia))).mpr (e_draw hn (row:=row) (k:=K.count) rfl hx c (by have:=hOk.count;unfold LIM;lia) (fun σ' x=>x_attr rfl (x kx (by simpa using hkr) _ hf) rfl) fun n xs' σ' hlt x hr=>hC1 _ _ ⟨n,rfl,s.draw h1 h2 x hr,fun q=>by lia,fun _=>⟨n,rfl,hlt⟩⟩)
   · refine (if_neg (by rw [decide_eq_false (by lia)];decide)).mpr (ev_w (v:=.int (-1)) rfl (hC1 _ _ ⟨-1,rfl,s,fun _=>by lia,fun q=>absurd q (by decide)⟩))
 rintro _ σ1 ⟨k,rfl,s1,hk0,hk1⟩
 refine s_join (fun m' σ'=>EI1_2 (fun (a:Int) m'=>m'=[e0,some (.ref row),some (.obj 52 kx),some (.ref g3),e4,x5,some (.int k),e7,e8,some (.int a),e10,e11,e12,some (.int dr),some (.int st),some (.ref H)]) (fun (a:Int) σ'=>LT σ' row kx ga g3 H eph K) (fun (a:Int) σ'=>(0≤a→∃ j:Nat,a=j∧j < K.goals.length)) m' σ') (fun C1 hC1 _=>?_) ?_
 · refine i_asg (e_ite (ne_emptyG rfl s1.g fun q hq=>?_))
   have x1:Ext [] σ1 (σ1.set q (.list [])):=(Ext.refl [] _).updN hq _
   have s2:=s1.mono x1
   generalize σ1.set q (.list [])=σ2 at s2
   obtain ⟨xs,hx⟩:=s2.r
   by_cases c:K.goals=[]
   · rw [c]
     exact (if_neg (by decide)).mpr (ev_w (v:=.int (-1)) rfl (hC1 _ _ ⟨-1,rfl,s2,fun q=>absurd q (by decide)⟩))
   · have hpos:=List.length_pos_iff.mpr c
     have:(!(K.goals.map encG).isEmpty)=true:=by
      cases e:K.goals with
      | nil=>exact absurd e c
      | cons g gs=>rfl
     refine (if_pos this).mpr (e_draw hn (row:=row) (k:=K.goals.length) rfl hx hpos (Nat.le_trans hOk.goalsLen (by decide)) (fun σ' x=>?_) fun n xs' σ' hlt x hr=>hC1 _ _ ⟨n,rfl,s2.draw h1 h2 x hr,fun _=>⟨n,rfl,hlt⟩⟩)
     rw [x_lenL (e:=.var 3) (a:=g3) rfl (x g3 (by simpa using h2) _ s2.g),List.length_map]
 rintro _ σ2 ⟨a,rfl,s2,ha1⟩
 refine s_asgX (e_call hcl (es_ev (v:=.obj 52 kx) rfl (es_nil ⟨kx,ga,K,rfl,s2.ker,hOk,fun p D c l ep ad P ord σ3 x3 hp hP hfoot=>?_⟩)))
 have s3:=s2.mono x3
 have hhP:∀ k ∈ homesK K.count K.oc,k ∈ P.ks:=fun k hk=>(hP.mem k).mpr (List.mem_range.mp (List.mem_filter.mp hk).1)
 have hdraw:ev σ3 [e0,some (.ref row),some (.obj 52 kx),some (.ref g3),e4,some (.obj 143 p),some (.int k),e7,e8,some (.int a),e10,e11,e12,some (.int dr),some (.int st),some (.ref H)] (.bin .mod (.bin .add (.var 13) (.bin .mul (.lit (.int (5))) (.var 14))) (.lit (.int (16))))=some (.int (((dr+5 * st) % 16:Nat):Int)):=by
  refine x_bin (x:=.int ((dr+5 * st:Nat):Int)) (y:=.int 16) (x_bin (x:=.int dr) (y:=.int ((5 * st:Nat):Int)) rfl (x_bin (x:=.int 5) (y:=.int st) rfl rfl ?_) ?_) rfl ?_
  · show (if (5:Int).natAbs≤LIM∧(st:Int).natAbs≤LIM then some (AV.int (5 * (st:Int))) else none)=_
    rw [if_pos ⟨by decide,by unfold LIM;lia⟩]
    congr 2
  · show some (AV.int ((dr:Int)+((5 * st:Nat):Int)))=_
    congr 2
  · show (if (0:Int) < 16∧(16:Int)≤LIM then some (AV.int (((dr+5 * st:Nat):Int).fmod 16)) else none)=_
    rw [if_pos (by decide),Int.fmod_eq_emod_of_nonneg _ (by decide)]
    rfl
 have hcl':=chunk_len hP
 have hll':=live_len hP
 have hgl:=hOk.goalsLen
 refine s_expr (e_call hsp (es_ev (v:=.obj 143 p) rfl (es_ev hdraw (es_ev (v:=.int k) rfl (es_ev (v:=.int a) rfl (es_ev (v:=.ref H) rfl (es_nil ?_)))))))
 refine ⟨p,D,c,l,H,ep,eph,ad,P,_,homesK K.count K.oc,(dr+5 * st) % 16,k,a,rfl,hp,s3.h,List.nodup_range.filter _,hhP,fun q=>?_,fun q=>?_,fun q=>?_,by lia,by lia,fun P' ep' σ4 hs hp' x4=>?_⟩
 · have h0:=hk0 q
   cases e:P.ks with
   | nil=>rfl
   | cons x xs=>
    have:=(hP.mem x).mp (by rw [e];exact .head _)
    lia
 · obtain ⟨j,e1,e2⟩:=hk1 q
   exact ⟨j,e1,(hP.mem j).mpr e2⟩
 · obtain ⟨j,e1,e2⟩:=ha1 q
   exact ⟨j,e1,by lia,by lia⟩
 have s4:=s2.mono (ext_new x3 x4 hfoot)
 have hPl:P.ks.length < 64:=by
  rw [(range_perm hP.nd hP.mem).length_eq,List.length_range]
  exact hOk.count
 refine s_ifX (b_call hcp (es_ev (v:=.obj 52 kx) rfl (es_ev (v:=.obj 143 p) rfl (es_nil ⟨kx,ga,p,D,c,l,K,ep',ad,P',rfl,s4.ker,hOk,hp',Nat.lt_of_le_of_lt (spoil_len hs) hPl,fun r ks σ5 k1 k2 k3 x5=>?_⟩))))
 have hr:r=false:=eq_false_of_ne_true fun q=>spoiled hOk hP (fun k hk=>(home_mem hOk hP).mp hk) k1 k2 hs (k3.mp q)
 subst hr
 exact som_of (x:=false) rfl ((if_neg (by decide)).mpr (s_end (s_nop (hC _ _ _ _ (s4.mono x5)))))
section
variable {Γ:Gam} {σ:AH} {m:Env'} {R:AV→AH→Prop}
theorem compK_P {α:Type} {f g:α→AV} {p:α→Bool} {all:List α} {elt cond:PE} {v:AV} (hx:itemsOf σ v=some (all.map f)) (hl:all.length≤LIM)
 (hc:∀ x ∈ all,evB σ (m++[some (f x)]) cond=some (p x)) (he:∀ x ∈ all,ev σ (m++[some (f x)]) elt=some (g x)) (k:∀ r,σ r=none→R (.ref r) (σ.set r (.list ((all.filter p).map g)))):CompK Γ elt cond m R v σ:=by
 have h:=e_compP (Γ:=Γ) (iter:=.lit v) (show ev σ m (.lit v)=some v from rfl) hx hl hc he k
 exact h
theorem e_callsLen {K:Ker} (hOk:K.Ok) {gs:List Gl} (hgs:∀ g ∈ gs,g ∈ K.goals) (hl:gs.length≤100) {i:Nat} {iter:PE} (hi:∀ (x:AV),varV (m++[some x]) i=some x)
 (h:∀ (R:AV→AH→Prop),(∀ r,σ r=none→R (.ref r) (σ.set r (.list (gs.map encG))))→pwpE Γ iter m R σ) (k:∀ σ',Ext [] σ σ'→R (.int (callsIn gs:Nat)) σ'):
 pwpE Γ (.bi .len (.cons (.comp (.var i) iter (.cmp .eq (.idx (.var i) (.lit (.int (0)))) (.lit (.str (S "call"))))) .nil)) m R σ:=by
 refine e_bi (es_cons (e_comp (h _ fun r hr=>?_)))
 have x1:Ext [] σ (σ.set r (.list (gs.map encG))):=(Ext.refl [] _).updN hr _
 refine compK_P (f:=encG) (g:=encG) (p:=Gl.isCall) (all:=gs) (items_list (set_same _ _ _)) (by unfold LIM;lia) (fun g hg=>encG_call (hOk.goalsOk g (hgs g hg)) _ _ i (hi _)) (fun g hg=>hi _) fun q hq=>es_nil ?_
 have x2:=x1.updN (x1.none hq) (.list ((gs.filter Gl.isCall).map encG))
 refine som_of (set_same _ _ _) ?_
 show R (.int (List.map encG _).length) _
 rw [List.length_map]
 exact k _ x2
theorem e_rangeL {e:PE} {n:Nat} (h:ev σ m e=some (.rng 0 n)) (hn:n≤LIM) (k:∀ r,σ r=none→R (.ref r) (σ.set r (.list ((natsI (List.range n)).map .int)))):pwpE Γ (.bi .list (.cons e .nil)) m R σ:=by
 refine e_bi (es_ev h (es_nil ?_))
 have e1:((n:Int) - 0).toNat=n:=by lia
 show _∧freshW _ _ _
 rw [e1]
 refine ⟨hn,?_⟩
 have e2:(List.range n).map (fun (i:Nat)=>AV.int (0+(i:Int)))=(natsI (List.range n)).map .int:=by
  unfold natsI
  rw [List.map_map]
  exact List.map_congr_left fun i _=>congrArg AV.int (Int.zero_add _)
 rw [e2]
 exact k
theorem e_listL {e:PE} {a:Addr} {xs:List AV} (h:ev σ m e=some (.ref a)) (ha:σ a=some (.list xs)) (k:∀ r,σ r=none→R (.ref r) (σ.set r (.list xs))):pwpE Γ (.bi .list (.cons e .nil)) m R σ:=by
 refine e_bi (es_ev h (es_nil ?_))
 exact lstAt_of ha k
end
theorem calls_before (K:Ker):natsI (chunksOf 0 K.goals)=natsI ((List.range K.goals.length).map fun i=>callsIn (K.goals.take i)):=by
 congr 1
 refine List.ext_getElem? fun i=>?_
 by_cases h:i < K.goals.length
 · rw [chunksOf_get _ _ _ h,List.getElem?_map,List.getElem?_range h,Nat.zero_add]
   rfl
 · rw [List.getElem?_eq_none (by rw [chunksOf_len];lia),List.getElem?_eq_none (by rw [List.length_map,List.length_range];lia)]
theorem calls_any (gs:List Gl):gs.any Gl.isCall=decide (0 < callsIn gs):=by
 unfold callsIn
 by_cases h:gs.any Gl.isCall=true
 · rw [h]
   obtain ⟨g,h1,h2⟩:=List.any_eq_true.mp h
   exact (decide_eq_true (List.length_pos_iff.mpr (List.ne_nil_of_mem (List.mem_filter.mpr ⟨h1,h2⟩)))).symm
 · rw [eq_false_of_ne_true h]
   refine (decide_eq_false fun q=>h ?_).symm
   obtain ⟨g,hg⟩:=List.exists_mem_of_length_pos q
   exact List.any_eq_true.mpr ⟨g,(List.mem_filter.mp hg).1,(List.mem_filter.mp hg).2⟩
theorem vc_law (Γ:Gam) (hlr:Γ.fn (S "_law_row")=some t_law_row) (hlk:Γ.fn (S "_law_kernel")=some t_law_kernel) (hlp:Γ.fn (S "_law_places")=some t_law_places) (hlh:Γ.fn (S "_law_homes")=some t_law_homes)
 (hn:Γ.fn (S "_law_next")=some t_law_next) (hcl:Γ.fn (S "classify")=some t_classify) (hsp:Γ.fn (S "_law_spoiled")=some t_law_spoiled) (hcp:Γ.fn (S "check_plan")=some t_check_plan)
 (hip:Γ.mth 143 (S "is_perm")=some t_is_perm) (hiv:Γ.mth 143 (S "is_void")=some t_is_void) (hif:Γ.mth 143 (S "info")=some t_info) (hpe:Γ.mth 143 (S "perms")=some t_perms) (hdy:Γ.mth 143 (S "dying_at")=some t_dying_at):VC Γ b_law 1 16 t_law:=by
 rintro args Q σ ⟨sc,xs,rfl,hsc,_,_,hQ⟩
 refine ⟨rfl,?_⟩
 unfold b_law
 refine s_asgX (e_call hlr (es_ev (v:=.ref sc) rfl (es_nil ⟨sc,xs,rfl,hsc,fun row ys σ1 _ _ h1=>?_⟩)))
 refine s_asgX (e_call hlk (es_ev (v:=.ref row) rfl (es_nil ⟨row,ys,rfl,h1,fun kx ga K ys2 σ2 _ h2 hK hOk hgr=>?_⟩)))
 clear h1 hsc
 obtain ⟨f,hf⟩:=hK.o
 refine s_asgX (e_listL (x_attr rfl hf rfl) hK.g fun g3 hg3=>?_)
 have hgr3:g3≠row:=(ne_of h2 hg3).symm
 have x3:Ext [] σ2 (σ2.set g3 (.list (K.goals.map encG))):=(Ext.refl [] _).updN hg3 _
 have hg3s:=set_same σ2 g3 (.list (K.goals.map encG))
 have hr3:=x3.get h2
 have hK3:=hK.mono x3
 generalize σ2.set g3 (.list (K.goals.map encG))=σ3 at hg3s hr3 hK3
 clear x3 hg3 h2 hf hK
 refine s_asgX (e_call hlp (es_ev (v:=.obj 52 kx) rfl (es_nil ⟨kx,ga,K,rfl,hK3,hOk,fun pl pa σ4 x4 hP4=>?_⟩)))
 refine s_asgX (e_call hlh (es_ev (v:=.ref pl) rfl (es_nil ⟨pl,K.count,pa,K.oc,rfl,hP4,hOk.count,fun k hk=>oc_ne hOk hk,fun H eph σ5 _ x5 hH5=>?_⟩)))
 have x45:=x4.trans x5
 refine s_asgX (e_call hcl (es_ev (v:=.obj 52 kx) rfl (es_nil ⟨kx,ga,K,rfl,hK3.mono x45,hOk,fun p D c l ep ad P ord σ6 x6 hp h _=>?_⟩)))
 have x46:=x45.trans x6
 have s6:LS σ6 kx ga g3 pl p D c l H pa ad ep eph K P:=⟨hK3.mono x46,x46.get hg3s,hP4.mono (x5.trans x6),x6.get hH5,hp⟩
 have hr6:=x46.get hr3
 clear x46 x6 x45 x5 x4 hp hH5 hP4 hK3 hr3 hg3s
 obtain ⟨f,hf⟩:=s6.ker.o
 have hcn:=hOk.count
 have hgl:=hOk.goalsLen
 have hol:=h.hord.len
 have hPl:P.ks.length < 64:=by
  rw [(range_perm h.nd h.mem).length_eq,List.length_range]
  exact hcn
 refine s_ifX (b_cmp (e_sorted (is:=natsI P.ks) (x_attr rfl s6.plan.o rfl) (items_kvs s6.plan.a.d) (intsOf_nats P.ks) (by unfold natsI;rw [List.length_map];exact hPl) fun r1 hr1=>?_))
 rw [sort_range h.nd h.mem]
 have y1:Ext [] σ6 (σ6.set r1 (.list ((natsI (List.range K.count)).map .int))):=(Ext.refl [] _).updN hr1 _
 refine e_rangeL (n:=K.count) (x_rng (x_attr rfl (y1.get hf) rfl) (by unfold LIM;lia)) (by unfold LIM;lia) fun r2 hr2=>?_
 have y2:=y1.updN (y1.none hr2) (.list ((natsI (List.range K.count)).map .int))
 refine som_of (x:=false) (ne_false ((eqW_ints ((set_ne _ _ (ne_of (set_same _ _ _) hr2)).trans (set_same _ _ _)) (set_same _ _ _)).trans (congrArg some (decide_eq_true rfl)))) ((if_neg (by decide)).mpr (s_end ?_))
 generalize (σ6.set r1 (.list ((natsI (List.range K.count)).map .int))).set r2 (.list ((natsI (List.range K.count)).map .int))=σ7 at y2
 have s7:=s6.mono y2
 have hf7:=y2.get hf
 refine s_forX (ev_w (x_rng (n:=K.count) (x_attr rfl hf7 rfl) (by unfold LIM;lia)) (forK_rng (fun i m' σ'=>EI3_1 (fun (x6 x7 x8:Option AV) m'=>m'=[some (.ref sc),some (.ref row),some (.obj 52 kx),some (.ref g3),some (.ref pl),some (.obj 143 p),x6,x7,x8,none,none,none,none,none,none,some (.ref H)]) (fun (x6 x7 x8:Option AV) σ'=>σ'=σ7) m' σ') ⟨_,_,_,rfl,rfl⟩ ?_ ?_))
 · rintro k m' σ' C hk ⟨x6,x7,x8,rfl,rfl⟩ hC _
   exact lawA hip hiv hif s7 hOk h hk fun y7 y8=>hC _ _ ⟨_,y7,y8,rfl,rfl⟩
 rintro _ σ' ⟨x6,x7,x8,rfl,rfl⟩
 have hlen:ev σ' [some (.ref sc),some (.ref row),some (.obj 52 kx),some (.ref g3),some (.ref pl),some (.obj 143 p),x6,x7,x8,none,none,none,none,none,none,some (.ref H)] (.bi .len (.cons (.var 3) .nil))=some (.int (K.goals.length:Nat)):=by
  rw [x_lenL (a:=g3) rfl s7.g,List.length_map]
 have hgll:K.goals.length≤LIM:=Nat.le_trans hgl (by decide)
 refine s_asgX (e_comp (ev_w (x_rng hlen hgll) (compK_I (f:=fun (n:Nat)=>AV.int (n:Int)) (all:=List.range K.goals.length) (fun pre acc σ''=>Ext [] σ' σ''∧acc=(natsI (pre.map fun i=>callsIn (K.goals.take i))).map .int) items_rng (by rw [List.length_range];exact hgll) ⟨Ext.refl _ _,rfl⟩ (fun _ _ _ _=>trivial) ?_ ?_)))
 · rintro pre i post acc σ'' R e ⟨a1,rfl⟩ hR
   refine e_callsLen hOk (gs:=K.goals.take i) (fun g hg=>List.mem_of_mem_take hg) (Nat.le_trans (List.length_take_le' _ _) hgl) (fun x=>rfl) (fun R' hR'=>?_) fun σ3 x3=>hR _ _ ⟨a1.trans x3,?_⟩
   · refine e_slc (ev_w (v:=.ref g3) rfl (ev_w (v:=.int i) rfl (slc_list (a1.get s7.g) fun r hr=>?_)))
     rw [← List.map_take]
     exact hR' r hr
   · unfold natsI
     rw [List.map_append,List.map_append,List.map_append]
     rfl
 rintro acc σ8 ⟨z1,rfl⟩ b10 hb10
 have z2:=z1.updN (z1.none hb10) (.list ((natsI ((List.range K.goals.length).map fun i=>callsIn (K.goals.take i))).map .int))
 have hb:=set_same σ8 b10 (.list ((natsI ((List.range K.goals.length).map fun i=>callsIn (K.goals.take i))).map .int))
 generalize σ8.set b10 (.list ((natsI ((List.range K.goals.length).map fun i=>callsIn (K.goals.take i))).map .int))=σ9 at z2 hb
 have s9:=s7.mono z2
 refine s_ifX (b_bop (b_cons (b_cmp (e_listL (x_attr rfl s9.plan.o rfl) s9.plan.hc fun q hq=>ev_w (v:=.ref b10) rfl (som_of (x:=false) (ne_false ((eqW_ints (set_same _ _ _) ((set_ne _ _ (ne_of hb hq)).trans hb)).trans (congrArg some (decide_eq_true ?_)))) ?_)))))
 · rw [h.chunks,calls_before]
 have z3:Ext [] σ9 (σ9.set q (.list (P.chunks.map .int))):=(Ext.refl [] _).updN hq _
 generalize σ9.set q (.list (P.chunks.map .int))=σ10 at z3
 have s10:=s9.mono z3
 refine (if_pos rfl).mpr (b_cons (evB_w (b:=false) (xb_cmp (x_attr rfl s10.plan.o rfl) (x_lenD rfl s10.h) (ne_false (congrArg some (decide_eq_true ?_)))) ((if_pos rfl).mpr (b_nil ((if_neg (by decide)).mpr (s_end ?_))))))
 · show P.env=(((homesK K.count K.oc).map _).length:Nat)
   rw [h.env,List.length_map,home_len hOk h]
 refine s_ifX (b_cmp (ev_w (x_attr rfl s10.plan.o rfl) (e_cmp (e_callsLen hOk (gs:=K.goals.dropLast) (fun g hg=>(List.dropLast_sublist _).subset hg) (by rw [List.length_dropLast];lia) (fun x=>rfl) (fun R' hR'=>?_) fun σ11 z4=>ev_w (v:=.int 0) rfl (som_of (x:=decide ((0:Int) < (callsIn K.goals.dropLast:Nat))) rfl (som_of (x:=false) (ne_false (congrArg some (decide_eq_true ?_))) ((if_neg (by decide)).mpr (s_end ?_))))))))
 · refine e_slc (ev_w (v:=.ref g3) rfl (ev_w (v:=.int (-1)) rfl ?_))
   refine som_of s10.g ((congrArg (fun l=>freshW (.list l) _ _) (if_neg (by decide))).mpr ?_)
   have e1:(K.goals.map encG).take ((-1:Int)+((K.goals.map encG).length:Nat)).toNat=K.goals.dropLast.map encG:=by
    rw [List.length_map,List.dropLast_eq_take,List.map_take]
    congr 1
    lia
   rw [e1]
   exact hR'
 · rw [h.needs,calls_any]
   exact decide_eq_decide.mpr (by lia)
 have s11:=s10.mono z4
 refine s_ifF (xb_cmp (x_lenL (x_attr rfl s11.plan.o rfl) s11.plan.hl) (x_lenL rfl s11.g) (ne_false (congrArg some (decide_eq_true ?_)))) ?_
 · rw [List.length_map,List.length_map,live_len h]
 have hr11:=z4.get (z3.get (z2.get (y2.get hr6)))
 have hlen11:ev σ11 [some (.ref sc),some (.ref row),some (.obj 52 kx),some (.ref g3),some (.ref pl),some (.obj 143 p),x6,x7,x8,none,some (.ref b10),none,none,none,none,some (.ref H)] (.bi .len (.cons (.var 3) .nil))=some (.int (K.goals.length:Nat)):=by
  rw [x_lenL (a:=g3) rfl s11.g,List.length_map]
 refine s_forX (ev_w (x_rng hlen11 hgll) (forK_rng (fun i m' σ'=>EI3_1 (fun (x9 x11 x12:Option AV) m'=>m'=[some (.ref sc),some (.ref row),some (.obj 52 kx),some (.ref g3),some (.ref pl),some (.obj 143 p),x6,x7,x8,x9,some (.ref b10),x11,x12,none,none,some (.ref H)]) (fun (x9 x11 x12:Option AV) σ'=>Ext [] σ11 σ') m' σ') ⟨_,_,_,rfl,Ext.refl _ _⟩ ?_ ?_))
 · rintro i m' σ' C hi ⟨x9,x11,x12,rfl,a1⟩ hC _
   exact lawB hdy (s11.mono a1) hOk h hi fun y11 y12 σ'' a2=>hC _ _ ⟨_,y11,y12,rfl,a1.trans a2⟩
 rintro _ σ12 ⟨x9,x11,x12,rfl,w1⟩
 have s12:=s11.mono w1
 refine s_ifX (b_cmp (e_meth rfl s12.plan.o hpe rfl (es_nil ⟨p,D,c,l,ep,ad,P,K,ord,rfl,s12.plan,h,hcn,fun r3 σ13 hr3 w2 h13=>?_⟩)))
 have s13:=s12.mono w2
 refine e_srtD hOk h (a:=H) (L:=homesK K.count K.oc) (M:=ord) rfl rfl s13.h (items_kvs s13.h) (home_perm hOk h) (List.Sublist.refl _) fun r4 hr4=>?_
 have w3:=w2.updN (w2.none hr4) (.list ((natsI ord).map .int))
 refine som_of (x:=false) (ne_false ((eqW_ints (a:=natsI ord) (by rw [natsI_int];exact (set_ne _ _ (ne_of h13 hr4)).trans h13) (set_same _ _ _)).trans (congrArg some (decide_eq_true rfl)))) ((if_neg (by decide)).mpr (s_end ?_))
 generalize σ13.set r4 (.list ((natsI ord).map .int))=σ14 at w3
 have s14:=s12.mono w3
 refine s_ifX (b_not (b_call hcp (es_ev (v:=.obj 52 kx) rfl (es_ev (v:=.obj 143 p) rfl (es_nil ⟨kx,ga,p,D,c,l,K,ep,ad,P,rfl,s14.ker,hOk,s14.plan,hPl,fun r ks σ15 k1 k2 k3 w4=>?_⟩)))))
 have hr:r=true:=k3.mpr (planok hOk h k1 k2)
 subst hr
 refine som_of (x:=true) rfl ((if_neg (by decide)).mpr (s_end ?_))
 have s15:=s14.mono w4
 have hr15:=w4.get (w3.get (w1.get hr11))
 have t15:LT σ15 row kx ga g3 H eph K:=⟨s15.ker,s15.g,s15.h,_,hr15⟩
 refine s_asgX (e_draw hn (row:=row) (k:=16) rfl hr15 (by decide) (by decide) (fun _ _=>rfl) fun dr ys3 σ16 _ v1 h16=>?_)
 have t16:=t15.draw hgr hgr3 v1 h16
 refine s_forX (ev_w (x_rng (n:=4) rfl (by decide)) (forK_rng (fun i m' σ'=>EI4_1 (fun (x5 x6 x9 x14:Option AV) m'=>m'=[some (.ref sc),some (.ref row),some (.obj 52 kx),some (.ref g3),some (.ref pl),x5,x6,x7,x8,x9,some (.ref b10),x11,x12,some (.int dr),x14,some (.ref H)]) (fun (x5 x6 x9 x14:Option AV) σ'=>LT σ' row kx ga g3 H eph K) m' σ') ⟨_,_,_,_,rfl,t16⟩ ?_ ?_))
 · rintro st m' σ' C hst ⟨x5,x6,x9,x14,rfl,t⟩ hC _
   exact lawC hn hcl hsp hcp t hOk hgr hgr3 hst fun y5 y6 y9 σ'' t'=>hC _ _ ⟨y5,y6,y9,_,rfl,t'⟩
 · rintro m' σ' ⟨x5,x6,x9,x14,rfl,t⟩
   exact s_ret (v:=.bool true) rfl (hQ σ')
noncomputable def G0:Gam:=⟨fun _=>none,fun _=>none,fun _ _=>none,P0.attrOk⟩
noncomputable def G1:Gam:=G0.addFn (S "variables_of") t_variables_of
noncomputable def G2:Gam:=G1.addFn (S "variables") t_variables
noncomputable def G3:Gam:=G2.addFn (S "occurrences") t_occurrences
noncomputable def G4:Gam:=G3.addCls (S "KernelClause") 52 t_KernelInit
noncomputable def G5:Gam:=G4.addFn (S "goal_terms") t_goal_terms
noncomputable def G6:Gam:=G5.addFn (S "goal_special") t_goal_special
noncomputable def G7:Gam:=G6.addCls (S "VarInfo") 87 t_VarInfoInit
noncomputable def G8:Gam:=G7.addCls (S "ClausePlan") 143 t_PlanInit
noncomputable def G9:Gam:=G8.addMth 143 (S "info") t_info
noncomputable def G10:Gam:=G9.addMth 143 (S "is_perm") t_is_perm
noncomputable def G11:Gam:=G10.addMth 143 (S "is_void") t_is_void
noncomputable def G12:Gam:=G11.addMth 143 (S "perms") t_perms
noncomputable def G13:Gam:=G12.addMth 143 (S "dying_at") t_dying_at
noncomputable def G14:Gam:=G13.addFn (S "chunk_numbers") t_chunk_numbers
noncomputable def G15:Gam:=G14.addCls (S "Survey") 185 t_SurveyInit
noncomputable def G16:Gam:=G15.addMth 185 (S "meet") t_meet
noncomputable def G17:Gam:=G16.addMth 185 (S "terms") t_terms
noncomputable def G18:Gam:=G17.addFn (S "kind_of") t_kind_of
noncomputable def G19:Gam:=G18.addFn (S "slot_order") t_slot_order
noncomputable def G20:Gam:=G19.addFn (S "classify") t_classify
noncomputable def G21:Gam:=G20.addFn (S "places_of") t_places_of
noncomputable def G22:Gam:=G21.addFn (S "crosses_call") t_crosses_call
noncomputable def G23:Gam:=G22.addFn (S "first_word") t_first_word
noncomputable def G24:Gam:=G23.addFn (S "check_variable") t_check_variable
noncomputable def G25:Gam:=G24.addFn (S "check_goals") t_check_goals
noncomputable def G26:Gam:=G25.addFn (S "check_plan") t_check_plan
noncomputable def G27:Gam:=G26.addFn (S "_law_row") t_law_row
noncomputable def G28:Gam:=G27.addFn (S "_law_next") t_law_next
noncomputable def G29:Gam:=G28.addFn (S "_law_term") (t_law_term 0)
noncomputable def G30:Gam:=G29.addFn (S "_law_term") (t_law_term 1)
noncomputable def G31:Gam:=G30.addFn (S "_law_term") (t_law_term 2)
noncomputable def G32:Gam:=G31.addFn (S "_law_terms") t_law_terms
noncomputable def G33:Gam:=G32.addFn (S "_law_goals") t_law_goals
noncomputable def G34:Gam:=G33.addFn (S "_law_number") t_law_number
noncomputable def G35:Gam:=G34.addFn (S "_law_renamed") (t_law_renamed 0)
noncomputable def G36:Gam:=G35.addFn (S "_law_renamed") (t_law_renamed 1)
noncomputable def G37:Gam:=G36.addFn (S "_law_renamed") (t_law_renamed 2)
noncomputable def G38:Gam:=G37.addFn (S "_law_kernel") t_law_kernel
noncomputable def G39:Gam:=G38.addFn (S "_law_places") t_law_places
noncomputable def G40:Gam:=G39.addFn (S "_law_homes") t_law_homes
noncomputable def G41:Gam:=G40.addFn (S "_law_swapped") t_law_swapped
noncomputable def G42:Gam:=G41.addFn (S "_law_spoiled") t_law_spoiled
theorem GamOk.lam {B:Base} {d:Nat} {Γ:Gam} (h:GamOk B d T0 Γ):GamOk B d T1 Γ where
 attr:=h.attr
 bi:=h.bi
 gint:=h.gint
 fn:=h.fn
 cls:=h.cls
 mth:=h.mth
theorem law_goal:LawGoal:=by
 intro B hB hT hb hc ha hl
 have hi:∀ i:Nat,(fAs.map (bodyOf T0 B.K)++[bodyOf T1 B.K 327])[i]?=goodB[i]?:=fun i=>by rw [hb]
 have hno:T0.lam=true→lamAt B.K 0 B.tab B.lamQ=true∧B.g.BuiltinsAt B.mg B.tab∧mainGlobals≠B.tab:=fun h=>nomatch h
 have hA:∀ {Γ:Gam},Γ.attrOk=P0.attrOk→Γ.attrOk=P0.attrOk:=id
 have g0:GamOk B 0 T0 G0:=by
  have:=gam_start (d:=0) (T:=T0) hT ha rfl
  rw [ha] at this
  exact this
 have g1:GamOk B 4 T0 G1:=gam_fn hT g0 (by decide) (body_sound hB g0 (Option.some.inj (hi 1)) (fun h=>nomatch h) (vc_variables_of _))
 have g2:GamOk B 8 T0 G2:=gam_fn hT g1 (by decide) (body_sound hB g1 (Option.some.inj (hi 0)) (fun h=>nomatch h) (vc_variables _ rfl))
 have g3:GamOk B 12 T0 G3:=gam_fn hT g2 (by decide) (body_sound hB g2 (Option.some.inj (hi 2)) (fun h=>nomatch h) (vc_occurrences _))
 have g4:GamOk B 16 T0 G4:=gam_cls hT hc g3 (by decide) (body_sound hB g3 (Option.some.inj (hi 3)) (fun h=>nomatch h) (vc_KernelInit _ rfl))
 have g5:GamOk B 20 T0 G5:=gam_fn hT g4 (by decide) (body_sound hB g4 (Option.some.inj (hi 4)) (fun h=>nomatch h) (vc_goal_terms _))
 have g6:GamOk B 24 T0 G6:=gam_fn hT g5 (by decide) (body_sound hB g5 (Option.some.inj (hi 5)) (fun h=>nomatch h) (vc_goal_special _))
 have g7:GamOk B 28 T0 G7:=gam_cls hT hc g6 (by decide) (body_sound hB g6 (Option.some.inj (hi 6)) (fun h=>nomatch h) (vc_VarInfoInit _ rfl))
 have g8:GamOk B 32 T0 G8:=gam_cls hT hc g7 (by decide) (body_sound hB g7 (Option.some.inj (hi 7)) (fun h=>nomatch h) (vc_PlanInit _ rfl))
 have g9:GamOk B 36 T0 G9:=gam_mth hT hc g8 (by decide) (body_sound hB g8 (Option.some.inj (hi 8)) (fun h=>nomatch h) (vc_info _))
 have g10:GamOk B 40 T0 G10:=gam_mth hT hc g9 (by decide) (body_sound hB g9 (Option.some.inj (hi 9)) (fun h=>nomatch h) (vc_is_perm _))
 have g11:GamOk B 44 T0 G11:=gam_mth hT hc g10 (by decide) (body_sound hB g10 (Option.some.inj (hi 10)) (fun h=>nomatch h) (vc_is_void _))
 have g12:GamOk B 48 T0 G12:=gam_mth hT hc g11 (by decide) (body_sound hB g11 (Option.some.inj (hi 11)) (fun h=>nomatch h) (vc_perms _))
 have g13:GamOk B 52 T0 G13:=gam_mth hT hc g12 (by decide) (body_sound hB g12 (Option.some.inj (hi 12)) (fun h=>nomatch h) (vc_dying_at _ rfl))
 have g14:GamOk B 56 T0 G14:=gam_fn hT g13 (by decide) (body_sound hB g13 (Option.some.inj (hi 13)) (fun h=>nomatch h) (vc_chunk_numbers _))
 have g15:GamOk B 60 T0 G15:=gam_cls hT hc g14 (by decide) (body_sound hB g14 (Option.some.inj (hi 14)) (fun h=>nomatch h) (vc_SurveyInit _ rfl))
 have g16:GamOk B 64 T0 G16:=gam_mth hT hc g15 (by decide) (body_sound hB g15 (Option.some.inj (hi 15)) (fun h=>nomatch h) (vc_meet _ rfl rfl))
 have g17:GamOk B 68 T0 G17:=gam_mth hT hc g16 (by decide) (body_sound hB g16 (Option.some.inj (hi 16)) (fun h=>nomatch h) (vc_terms _ rfl rfl rfl))
 have g18:GamOk B 72 T0 G18:=gam_fn hT g17 (by decide) (body_sound hB g17 (Option.some.inj (hi 17)) (fun h=>nomatch h) (vc_kind_of _))
 have g19:GamOk B 76 T0 G19:=gam_fn hT g18 (by decide) (body_sound hB g18 (Option.some.inj (hi 18)) (fun h=>nomatch h) (vc_slot_order _))
 have g20:GamOk B 80 T0 G20:=gam_fn hT g19 (by decide) (body_sound hB g19 (Option.some.inj (hi 19)) (fun h=>nomatch h) (vc_classify _ rfl rfl rfl rfl rfl rfl rfl rfl rfl rfl))
 have g21:GamOk B 84 T0 G21:=gam_fn hT g20 (by decide) (body_sound hB g20 (Option.some.inj (hi 20)) (fun h=>nomatch h) (vc_places_of _ rfl rfl))
 have g22:GamOk B 88 T0 G22:=gam_fn hT g21 (by decide) (body_sound hB g21 (Option.some.inj (hi 21)) (fun h=>nomatch h) (vc_crosses_call _))
 have g23:GamOk B 92 T0 G23:=gam_fn hT g22 (by decide) (body_sound hB g22 (Option.some.inj (hi 24)) (fun h=>nomatch h) (vc_first_word _))
 have g24:GamOk B 96 T0 G24:=gam_fn hT g23 (by decide) (body_sound hB g23 (Option.some.inj (hi 23)) (fun h=>nomatch h) (vc_check_variable _ rfl rfl))
 have g25:GamOk B 100 T0 G25:=gam_fn hT g24 (by decide) (body_sound hB g24 (Option.some.inj (hi 25)) (fun h=>nomatch h) (vc_check_goals _))
 have g26:GamOk B 104 T0 G26:=gam_fn hT g25 (by decide) (body_sound hB g25 (Option.some.inj (hi 22)) (fun h=>nomatch h) (vc_check_plan _ rfl rfl rfl))
 have g27:GamOk B 108 T0 G27:=gam_fn hT g26 (by decide) (body_sound hB g26 (Option.some.inj (hi 26)) (fun h=>nomatch h) (vc_law_row _))
 have g28:GamOk B 112 T0 G28:=gam_fn hT g27 (by decide) (body_sound hB g27 (Option.some.inj (hi 27)) (fun h=>nomatch h) (vc_law_next _))
 have g29:GamOk B 116 T0 G29:=gam_fn hT g28 (by decide) (body_sound hB g28 (Option.some.inj (hi 28)) (fun h=>nomatch h) (vc_law_term _ rfl 0 (fun D h=>by injection h)))
 have g30:GamOk B 120 T0 G30:=gam_fn hT g29 (by decide) (body_sound hB g29 (Option.some.inj (hi 28)) (fun h=>nomatch h) (vc_law_term _ rfl 1 (fun D h=>by (injection h with z0;subst z0);exact rfl)))
 have g31:GamOk B 124 T0 G31:=gam_fn hT g30 (by decide) (body_sound hB g30 (Option.some.inj (hi 28)) (fun h=>nomatch h) (vc_law_term _ rfl 2 (fun D h=>by (injection h with z0;subst z0);exact rfl)))
 have g32:GamOk B 128 T0 G32:=gam_fn hT g31 (by decide) (body_sound hB g31 (Option.some.inj (hi 29)) (fun h=>nomatch h) (vc_law_terms _ rfl))
 have g33:GamOk B 132 T0 G33:=gam_fn hT g32 (by decide) (body_sound hB g32 (Option.some.inj (hi 30)) (fun h=>nomatch h) (vc_law_goals _ rfl rfl rfl))
 have g34:GamOk B 136 T0 G34:=gam_fn hT g33 (by decide) (body_sound hB g33 (Option.some.inj (hi 31)) (fun h=>nomatch h) (vc_law_number _))
 have g35:GamOk B 140 T0 G35:=gam_fn hT g34 (by decide) (body_sound hB g34 (Option.some.inj (hi 32)) (fun h=>nomatch h) (vc_law_renamed _ rfl 0 (fun D h=>by injection h)))
 have g36:GamOk B 144 T0 G36:=gam_fn hT g35 (by decide) (body_sound hB g35 (Option.some.inj (hi 32)) (fun h=>nomatch h) (vc_law_renamed _ rfl 1 (fun D h=>by (injection h with z0;subst z0);exact rfl)))
 have g37:GamOk B 148 T0 G37:=gam_fn hT g36 (by decide) (body_sound hB g36 (Option.some.inj (hi 32)) (fun h=>nomatch h) (vc_law_renamed _ rfl 2 (fun D h=>by (injection h with z0;subst z0);exact rfl)))
 have g38:GamOk B 152 T0 G38:=gam_fn hT g37 (by decide) (body_sound hB g37 (Option.some.inj (hi 33)) (fun h=>nomatch h) (vc_law_kernel _ rfl rfl rfl rfl rfl rfl))
 have g39:GamOk B 156 T0 G39:=gam_fn hT g38 (by decide) (body_sound hB g38 (Option.some.inj (hi 34)) (fun h=>nomatch h) (vc_law_places _))
 have g40:GamOk B 160 T0 G40:=gam_fn hT g39 (by decide) (body_sound hB g39 (Option.some.inj (hi 35)) (fun h=>nomatch h) (vc_law_homes _))
 have g41:GamOk B 164 T0 G41:=gam_fn hT g40 (by decide) (body_sound hB g40 (Option.some.inj (hi 36)) (fun h=>nomatch h) (vc_law_swapped _ rfl))
 have g42:GamOk B 168 T0 G42:=gam_fn hT g41 (by decide) (body_sound hB g41 (Option.some.inj (hi 37)) (fun h=>nomatch h) (vc_law_spoiled _ rfl rfl))
 exact (body_sound hB g42.lam (Option.some.inj (hi 38)) (fun _=>hl) (vc_law _ rfl rfl rfl rfl rfl rfl rfl rfl rfl rfl rfl rfl rfl)).mono (by decide)
theorem holds:PySem.Challenge.rw_no0164_01.Holds:=holds0 law_goal
end Mine
theorem PySem.Challenge.cw_no0164_01_holds : PySem.Challenge.rw_no0164_01.Holds :=
  Mine.holds
