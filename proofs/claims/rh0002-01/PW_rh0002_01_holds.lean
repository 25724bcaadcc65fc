import PyProof.Rows.All
import Wide.All
import OpenK.AllK
import Wide.FinOn
import Lean
import PySem.Challenge.RW_rh0002_01
open PySem PySem.W PyProof.Rows
set_option Elab.async false
set_option maxRecDepth 100000
set_option linter.all false
set_option maxHeartbeats 4000000
namespace Mine
namespace Internal
theorem lw {a b c:Nat} (h:a≤b) (k:b≤c:=by decide):a≤c:=Nat.le_trans h k
theorem ltw {a b c:Nat} (h:a < b) (k:b≤c:=by decide):a < c:=Nat.lt_of_lt_of_le h k
theorem lwt {a b c:Nat} (h:a≤b) (k:b < c:=by decide):a < c:=Nat.lt_of_le_of_lt h k
theorem lw0 {a c:Nat} (h:a+1≤c):a≤c:=Nat.le_of_succ_le h
theorem s1 {a b c:Nat} (h:a+1≤b) (k:b≤c:=by decide):1+a≤c:=Nat.le_trans (Nat.le_of_eq (Nat.add_comm ..)) (Nat.le_trans h k)
theorem adL {a b c:Nat} (h:a+b≤c):a≤c:=Nat.le_trans (Nat.le_add_right ..) h
theorem adR {a b c:Nat} (h:a+b≤c):b≤c:=Nat.le_trans (Nat.le_add_left ..) h
theorem ex_add {N d c:Nat} (h:d+c≤N):∃ n,N=n+c:=⟨N - c,(Nat.sub_add_cancel (adR h)).symm⟩
theorem dpw {c d k m n:Nat} (h:d≤k) (hk:c * k+c≤m:=by decide):c * d+c≤n+m:=Nat.le_trans (Nat.add_le_add_right (Nat.mul_le_mul_left c h) c) (Nat.le_trans hk (Nat.le_add_left ..))
theorem dk {c d e n m:Nat} (hN:c * e+c≤n+c) (h:d < e) (hm:n≤m):c * d+c≤m:=Nat.le_trans (Nat.mul_le_mul_left c h) (Nat.le_trans (Nat.le_of_add_le_add_right hN) hm)
theorem adl {a b c:Nat} (h:a+b < c):a < c:=Nat.lt_of_le_of_lt (Nat.le_add_right ..) h
theorem rm1 {a m c:Nat} (h:a+200 < c) (hm:m≤64):a+1+m < c:=Nat.lt_of_le_of_lt (Nat.le_trans (Nat.le_of_eq (Nat.add_assoc ..)) (Nat.add_le_add_left (s1 (Nat.succ_le_succ hm)) a)) h
theorem rmd {u n c:Nat} (h:u+(n+1) < c):u+1+n < c:=Nat.lt_of_le_of_lt (Nat.le_of_eq (Nat.add_right_comm u 1 n)) h
theorem rmu {u n c k:Nat} (h:u+40 * (n+1)+200 < c) (hk:k≤40:=by decide):u+k+40 * n+200 < c:=Nat.lt_of_le_of_lt (Nat.add_le_add_right (Nat.le_trans (Nat.le_of_eq (Nat.add_right_comm ..)) (Nat.add_le_add_left hk (u+40 * n))) 200) h
theorem sub1 {a i k:Nat} (h:a - i=k+1):a - (i+1)=k:=by rw [Nat.sub_succ,h]; rfl
theorem le5 {a b c d:Nat} (h:a=b) (k:b < c) (l:c≤d:=by decide):a < d:=Nat.lt_of_le_of_lt (Nat.le_of_eq h) (Nat.lt_of_lt_of_le k l)
theorem nn {a i j:Nat} (h:i ≠ j:=by decide):a+i ≠ a+j:=fun z=>h (Nat.add_left_cancel z)
theorem nel {a b k:Nat} (h:a < b):a ≠ b+k:=Nat.ne_of_lt (Nat.lt_of_lt_of_le h (Nat.le_add_right ..))
theorem no5 {c l k:Nat} (h:c < l ∨ l+5≤c) (hk:k < 5:=by decide):c ≠ l+k:=h.elim nel fun h=>Nat.ne_of_gt (Nat.lt_of_lt_of_le (Nat.add_lt_add_left hk l) h)
theorem ux {a c m:Nat} (h:a≤c+m):a+1≤c+1+m:=Nat.le_trans (Nat.succ_le_succ h) (Nat.le_of_eq (Nat.add_right_comm c m 1))
theorem mx {a b c d m:Nat} (h:a≤c+m) (k:b≤d+m):max a b+1≤max c d+1+m:=ux (Nat.max_le.mpr ⟨Nat.le_trans h (Nat.add_le_add_right (Nat.le_max_left ..) m),Nat.le_trans k (Nat.add_le_add_right (Nat.le_max_right ..) m)⟩)
inductive D where
 | none | bool (b:Bool) | int (i:Int) | str (x:Str)
 | tup (ds:List D) | lst (ds:List D) | raw (ds:List D) | dct (ks:List Str) (ds:List D)
 | obj (c:Addr) (ks:List Str) (ds:List D)
 deriving Inhabited
inductive V where
 | d (x:D) | loc (n:Nat)
 deriving Inhabited
inductive Cell where
 | lst (ds:List D) | dct (ks:List Str) (ds:List D) | obj (c:Addr) (ks:List Str) (vs:List V) | gone | tab
 deriving Inhabited
noncomputable def clsA:List Addr:=[187,213]
noncomputable def fldNs:List Str:=[Str.ofString "sides", Str.ofString "goes_back", Str.ofString "name", Str.ofString "left", Str.ofString "right", Str.ofString "needs"]
mutual
noncomputable def D.toP:D→PyData
 | .none=>.none | .bool b=>.bool b | .int i=>.int i | .str x=>.str x
 | .tup ds=>.tuple (D.toPs ds) | .lst ds=>.list (D.toPs ds)
 | .dct _ _=>.dict [] | .obj _ _ _=>.dict [] | .raw _=>.dict []
noncomputable def D.toPs:List D→List PyData
 | []=>[] | d::ds=>d.toP::D.toPs ds
end
theorem toP_none:D.toP .none=.none:=rfl
theorem toP_bool {c:Bool}:D.toP (.bool c)=.bool c:=rfl
theorem toP_int {i:Int}:D.toP (.int i)=.int i:=rfl
theorem toP_str {x:Str}:D.toP (.str x)=.str x:=rfl
theorem toP_tup {ds:List D}:D.toP (.tup ds)=.tuple (D.toPs ds):=rfl
theorem toP_lst {ds:List D}:D.toP (.lst ds)=.list (D.toPs ds):=rfl
theorem toP_dct {ks:List Str} {ds:List D}:D.toP (.dct ks ds)=.dict []:=rfl
theorem toP_obj {c:Addr} {ks:List Str} {ds:List D}:D.toP (.obj c ks ds)=.dict []:=rfl
theorem toP_raw {ds:List D}:D.toP (.raw ds)=.dict []:=rfl
theorem toPs_nil:D.toPs []=[]:=rfl
theorem toPs_cons {d:D} {ds:List D}:D.toPs (d::ds)=d.toP::D.toPs ds:=rfl
noncomputable def eqS (x y:D):Option Bool :=
 if SeqAt.shaped x.toP && SeqAt.shaped y.toP then some (PyData.eqv x.toP y.toP) else none
noncomputable def eqD (x y:D):Option Bool:=match x,y with
 | .lst (_::_),.lst []=>some false
 | x,y=>eqS x y
theorem eqD_c (x y:D):(∃ d ds,x=.lst (d::ds)∧y=.lst []∧eqD x y=some false) ∨ eqD x y=eqS x y:=by
 induction x using D.casesOn with
 | lst l =>
  rcases l with _ | ⟨d,ds⟩
  ·exact .inr rfl
  ·induction y using D.casesOn with
   | lst l =>
    rcases l with _ | ⟨e,es⟩
    ·exact .inl ⟨_,_,rfl,rfl,rfl⟩
    ·exact .inr rfl
   | _=>exact .inr rfl
 | _=>exact .inr rfl
noncomputable def kasRun {α:Type} (cmp:Nat→Nat→Bool):KasT α→α
 | .ret a=>a
 | .ask i j k=>kasRun cmp (k (cmp i j))
inductive Tg where
 | one (i:Nat) | tup (is:List Nat)
inductive Bi where
 | len | tuple | list | dict | str | keys | sortKeys | sortSet | items | sortItems
 deriving DecidableEq
set_option genSizeOf false in
set_option genInjectivity false in
inductive X where
 | none | bool (b:Bool) | int (i:Int) | str (x:Str)
 | var (i:Nat)
 | glo (nm:Str) (d:D)
 | andE (a b:X) | orE (a b:X) | notE (a:X)
 | ife (t a b:X)
 | bin (op:Operator) (a b:X)
 | cmp (op:CmpOp) (a b:X)
 | cmp2 (o1 o2:CmpOp) (a b c:X)
 | tup (xs:List X) | lst (xs:List X) | dct0
 | newL (xs:List X) | newD
 | idx (a i:X)
 | cut (a:X) (lo hi:Option Nat)
 | call (f:Nat) (xs:List X)
 | meth (o:X) (nm:Str) (f:Nat) (xs:List X)
 | new (c:Nat) (xs:List X)
 | bi (b:Bi) (a:X)
 | sortKey (a:X) (i:Nat) (body:X)
 | attr (a:X) (nm:Str)
 | app (o v:X)
 | ext (o v:X)
 | extZip (o a b:X)
 | pop (o:X)
 | setdef (o k v:X)
 | comp (caps:List Nat) (el:X) (tg:Tg) (it:X) (cond:Option X)
 | comp2 (caps:List Nat) (el:X) (tg:Tg) (it:X) (tg2:Tg) (it2:X)
 | frz (i:Nat)
 | frzA (i:Nat) (nm:Str)
 deriving Inhabited
set_option genSizeOf false in
set_option genInjectivity false in
inductive S where
 | asg (i:Nat) (x:X)
 | asgC (i:Nat) (x:X)
 | asgT (is:List Nat) (x:X)
 | asgW (is:List Nat) (xs:List X)
 | asgU (is:List Nat) (xs:List X)
 | setI (o i v:X)
 | setA (o:X) (nm:Str) (v:X)
 | expr (x:X)
 | ife (t:X) (a b:List S)
 | forD (tg:Tg) (it:X) (body:List S)
 | forR (i:Nat) (e:X) (body:List S)
 | forE (i j:Nat) (a:X) (body:List S)
 | whl (t:X) (body:List S)
 | ret (x:X)
 | bad
 deriving Inhabited
structure Fn where
 addr:Addr
 name:Str
 params:List Nat
 body:List S
structure Cls where
 addr:Addr
 name:Str
 init:Nat
noncomputable abbrev Env':=List (Nat × V)
noncomputable abbrev Sto:=List Cell
inductive Fl where
 | next | ret (v:D)
noncomputable def V.data?:V→Option D
 | .d x=>some x
 | .loc _=>.none
noncomputable def freeze (σ:Sto) (n:Nat):Option D:=match σ[n]? with
 | some (.lst ds)=>some (.lst ds)
 | some (.dct ks ds)=>some (.dct ks ds)
 | _=>.none
noncomputable def look (x:Str):List Str→List α→Option α
 | k::ks,d::ds=>if x=k then some d else look x ks ds
 | _,_=>.none
noncomputable def put (x:Str) (v:α):List Str→List α→List Str × List α
 | k::ks,d::ds=>if x=k then (k::ks,v::ds) else ((k::(put x v ks ds).1),d::(put x v ks ds).2)
 | _,_=>([x],[v])
theorem look_c {x k:Str} {d:α} {ks:List Str} {ds:List α}:look x (k::ks) (d::ds)=if x=k then some d else look x ks ds:=rfl
theorem put_c {x k:Str} {v d:α} {ks:List Str} {ds:List α}:put x v (k::ks) (d::ds)=if x=k then (k::ks,v::ds) else ((k::(put x v ks ds).1),d::(put x v ks ds).2):=rfl
noncomputable def lstAt (v:V) (σ:Sto):Option (Nat × List D):=match v with
 | .loc n=>(match σ[n]? with | some (.lst ds)=>some (n,ds) | _=>.none)
 | _=>.none
noncomputable def dctAt (v:V) (σ:Sto):Option (Nat × List Str × List D):=match v with
 | .loc n=>(match σ[n]? with | some (.dct ks ds)=>some (n,ks,ds) | _=>.none)
 | _=>.none
noncomputable def truth (v:V) (_:Sto):Option Bool:=match v with
 | .d (.bool b)=>some b
 | _=>.none
noncomputable def small {α:Type} (l:List α):Bool:=decide (l.length≤1000)
noncomputable def lim {α:Type} (b:Bool) (x:α):Option α:=match b with
 | true=>some x
 | false=>.none
noncomputable def lenV (v:V) (σ:Sto):Option Int:=match v with
 | .d (.tup ds)=>lim (small ds) (ds.length:Int)
 | .d (.lst ds)=>lim (small ds) (ds.length:Int)
 | .d (.raw ds)=>lim (small ds) (ds.length:Int)
 | .loc n=>(match σ[n]? with
  | some (.lst ds)=>lim (small ds) (ds.length:Int)
  | _=>.none)
 | _=>.none
noncomputable def anyEq (x:D) (ds:List D):Option Bool :=
 if SeqAt.shaped x.toP && SeqAt.shaped (D.lst ds).toP then some (ds.any fun y=>PyData.eqv y.toP x.toP) else .none
noncomputable def isN:D→Bool
 | .none=>true | _=>false
noncomputable def int2 (a b:D):Option (Int × Int):=match a with
 | .int i=>(match b with | .int j=>some (i,j) | _=>.none)
 | _=>.none
noncomputable def addD (a b:D):Option D:=match a with
 | .int i=>(match b with | .int j=>some (.int (i+j)) | _=>.none)
 | .str x=>(match b with | .str y=>lim (small (x++y).cps.toList) (.str (x++y)) | _=>.none)
 | .tup x=>(match b with | .tup y=>lim (small (x++y)) (.tup (x++y)) | _=>.none)
 | .lst x=>(match b with | .lst y=>lim (small (x++y)) (.lst (x++y)) | _=>.none)
 | _=>.none
noncomputable def binD (op:Operator) (a b:D):Option D:=match op with
 | .Add=>addD a b
 | .Sub=>(int2 a b).map fun p=>.int (p.1 - p.2)
 | .Mult=>(int2 a b).bind fun p=>lim (decide (p.1.natAbs < 1000000) && decide (p.2.natAbs < 1000000)) (.int (p.1 * p.2))
 | .Mod=>(int2 a b).bind fun p=>lim (decide (p.2 ≠ 0)) (.int (Int.fmod p.1 p.2))
 | _=>.none
noncomputable def inD (a b:D):Option Bool:=match b with
 | .dct ks _=>(match a with | .str x=>some (ks.contains x) | _=>.none)
 | .lst ds=>anyEq a ds
 | .tup ds=>anyEq a ds
 | _=>.none
noncomputable def cmpD (op:CmpOp) (a b:D):Option Bool:=match op with
 | .Eq=>eqD a b
 | .NotEq=>(eqD a b).map (!·)
 | .Lt=>(int2 a b).map fun p=>decide (p.1 < p.2)
 | .Gt=>(int2 a b).map fun p=>decide (p.1 > p.2)
 | .GtE=>(int2 a b).map fun p=>decide (p.1 ≥ p.2)
 | .Is=>if isN b then some (isN a) else .none
 | .IsNot=>if isN b then some (!isN a) else .none
 | .In=>inD a b
 | .NotIn=>(inD a b).map (!·)
 | _=>.none
noncomputable def idxD (a i:D):Option D:=match a,i with
 | .tup ds,.int k=>if 0≤k∧k < 1000 then ds[k.toNat]? else .none
 | .lst ds,.int k=>if 0≤k∧k < 1000 then ds[k.toNat]? else .none
 | .str x,.int k=>if 0≤k∧k < 1000 then x.cps[k.toNat]?.map fun c=>.str ⟨#[c]⟩ else .none
 | .dct ks ds,.str x=>look x ks ds
 | _,_=>.none
noncomputable def idxV (σ:Sto) (a:V) (i:D):Option D:=match a with
 | .d a=>idxD a i
 | .loc n=>(match σ[n]? with
  | some (.lst ds)=>idxD (.lst ds) i
  | _=>.none)
noncomputable def cutD (a:D) (lo hi:Option Nat):Option D:=match a,lo,hi with
 | .tup ds,some a,.none=>lim (small ds && (decide (1≤a) && decide (a≤ds.length))) (.tup (ds.drop a))
 | .tup ds,.none,some b=>lim (small ds && decide (b≤ds.length)) (.tup (ds.take b))
 | .lst ds,.none,some b=>lim (small ds) (.lst (ds.take b))
 | .raw ds,.none,some b=>lim (small ds) (.lst (ds.take b))
 | .str x,.none,some b=>lim (small x.cps.toList && decide (b≤x.cps.size)) (.str ⟨(x.cps.toList.take b).toArray⟩)
 | _,_,_=>.none
noncomputable def strLt (a b:Str):Bool:=decide (a.cps.toList < b.cps.toList)
noncomputable def sortBy {α:Type} (cmp:Nat→Nat→Bool) (xs:List α) (d:α):List α :=
 if xs.length < 2 then xs else (kasRun cmp (kas_sort xs.length)).toList.map fun i=>xs.getD i d
noncomputable def sortStrs (xs:List Str):List Str:=sortBy (fun i j=>strLt (xs.getD i default) (xs.getD j default)) xs default
noncomputable def strsOf:List D→Option (List Str)
 | []=>some []
 | .str x::r=>(strsOf r).map (x::·)
 | _::_=>.none
noncomputable def pairsOf':List D→Option (List Str × List D)
 | []=>some ([],[])
 | .tup [.str x,v]::r=>(pairsOf' r).map fun p=>(x::p.1,v::p.2)
 | _::_=>.none
noncomputable def stepT (σ:List Str) (v:Str):List Str:=if v ∈ σ then σ else σ++[v]
noncomputable def dedup (xs:List Str):List Str:=xs.foldl stepT []
noncomputable def zipD:List Str→List D→List D
 | k::ks,d::ds=>.tup [.str k,d]::zipD ks ds
 | _,_=>[]
noncomputable def biD (b:Bi) (a:D):Option D:=match b,a with
 | .tuple,.lst ds=>lim (small ds) (.tup ds)
 | .tuple,.tup ds=>some (.tup ds)
 | .list,.lst ds=>lim (small ds) (.lst ds)
 | .list,.tup ds=>lim (small ds) (.lst ds)
 | .dict,.lst ds=>(pairsOf' ds).bind fun p=>lim (decide p.1.Nodup && small ds) (.dct p.1 p.2)
 | .str,.int i=>lim (decide (0≤i) && decide (i < 1000)) (.str (Str.ofString (toString i)))
 | .sortKeys,.dct ks _=>lim (decide (ks.length < 5)) (.lst ((sortStrs ks).map .str))
 | .sortSet,.lst ds=>(strsOf ds).bind fun xs=>lim (decide (xs.length < 60) && decide ((dedup xs).length < 3)) (.lst ((sortStrs (dedup xs)).map .str))
 | .items,.dct ks ds=>lim (decide (ks.length < 60)) (.lst (zipD ks ds))
 | .sortItems,.dct ks ds=>lim (decide (ks.length < 5) && decide ks.Nodup) (.lst (sortBy (fun i j=>strLt (ks.getD i default) (ks.getD j default)) (zipD ks ds) .none))
 | _,_=>.none
noncomputable def itemsOf:D→Option (List D)
 | .lst ds=>lim (small ds) ds
 | .tup ds=>lim (small ds) ds
 | _=>.none
noncomputable def bindTg (tg:Tg) (d:D) (env:Env'):Option Env':=match tg with
 | .one i=>some ((i,.d d)::env)
 | .tup is=>(match d with
  | .tup ds=>if is.length=ds.length then some ((is.zip (ds.map V.d)).reverse++env) else .none
  | _=>.none)
structure Lv where
 e:Env'→Sto→X→Option (V × Sto)
 s:Env'→Sto→List S→Option (Fl × Env' × Sto)
 c:Nat→List V→Sto→Option (D × Sto)
 n:Nat→List V→Sto→Option (D × Sto)
section
variable (fns:List Fn) (cls:List Cls) (l:Lv)
noncomputable def evD (env:Env') (σ:Sto) (x:X):Option (D × Sto):=(l.e env σ x).bind fun r=>r.1.data?.map fun d=>(d,r.2)
noncomputable def evs (env:Env'):Sto→List X→Option (List V × Sto)
 | σ,[]=>some ([],σ)
 | σ,x::xs=>(l.e env σ x).bind fun r=>(evs env r.2 xs).map fun q=>(r.1::q.1,q.2)
noncomputable def evDs (env:Env'):Sto→List X→Option (List D × Sto)
 | σ,[]=>some ([],σ)
 | σ,x::xs=>(evD l env σ x).bind fun r=>(evDs env r.2 xs).map fun q=>(r.1::q.1,q.2)
noncomputable def test (env:Env') (σ:Sto) (x:X):Option (Bool × Sto):=(l.e env σ x).bind fun r=>(truth r.1 r.2).map fun b=>(b,r.2)
noncomputable def compL (env:Env') (el:X) (tg:Tg) (cond:Option X):List D→Sto→Option (List D × Sto)
 | [],σ=>some ([],σ)
 | d::ds,σ=>(bindTg tg d env).bind fun env1 =>
  (match cond with | .none=>some (true,σ) | some c=>test l env1 σ c).bind fun b =>
  if b.1 then (evD l env1 b.2 el).bind fun r=>(compL env el tg cond ds r.2).map fun (q:List D × Sto)=>(r.1::q.1,q.2)
  else compL env el tg cond ds b.2
noncomputable def compL2 (env:Env') (el:X) (tg:Tg) (tg2:Tg) (it2:X):List D→Sto→Option (List D × Sto)
 | [],σ=>some ([],σ)
 | d::ds,σ=>(bindTg tg d env).bind fun env1=>(evD l env1 σ it2).bind fun i=>(itemsOf i.1).bind fun is =>
  (compL l env1 el tg2 .none is i.2).bind fun r=>(compL2 env el tg tg2 it2 ds r.2).map fun q=>(r.1++q.1,q.2)
noncomputable def caps (is:List Nat) (env:Env'):Env':=is.filterMap fun i=>(env.lookup i).map fun v=>(i,v)
noncomputable def keysL (env:Env') (i:Nat) (body:X):List D→Sto→Option (List (List Str) × Sto)
 | [],σ=>some ([],σ)
 | d::ds,σ=>(evD l ((i,.d d)::env) σ body).bind fun r=>(match r.1 with | .tup ks=>strsOf ks | _=>.none).bind fun k=>(keysL env i body ds r.2).map fun (q:List (List Str) × Sto)=>(k::q.1,q.2)
noncomputable def lexLt:List Str→List Str→Bool
 | [],[]=>false
 | [],_::_=>true
 | _::_,[]=>false
 | x::xs,y::ys=>if x=y then lexLt xs ys else strLt x y
theorem lexLt2 {a b c d:Str}:lexLt [a,b] [c,d]=if a=c then (if b=d then false else strLt b d) else strLt a c:=rfl
noncomputable def evE (env:Env') (σ:Sto):X→Option (V × Sto)
 | .none=>some (.d .none,σ)
 | .bool b=>some (.d (.bool b),σ)
 | .int i=>some (.d (.int i),σ)
 | .str x=>some (.d (.str x),σ)
 | .var i=>(env.lookup i).map fun v=>(v,σ)
 | .glo _ d=>some (.d d,σ)
 | .andE a b=>(l.e env σ a).bind fun r=>(truth r.1 r.2).bind fun t=>if t then l.e env r.2 b else some r
 | .orE a b=>(l.e env σ a).bind fun r=>(truth r.1 r.2).bind fun t=>if t then some r else l.e env r.2 b
 | .notE a=>(l.e env σ a).bind fun r=>(truth r.1 r.2).map fun t=>(.d (.bool (!t)),r.2)
 | .ife t a b=>(test l env σ t).bind fun r=>if r.1 then l.e env r.2 a else l.e env r.2 b
 | .bin op a b=>(evD l env σ a).bind fun r=>(evD l env r.2 b).bind fun q=>(binD op r.1 q.1).map fun d=>(.d d,q.2)
 | .cmp op a b=>(evD l env σ a).bind fun r=>(evD l env r.2 b).bind fun q=>(cmpD op r.1 q.1).map fun d=>(.d (.bool d),q.2)
 | .cmp2 o1 o2 a b c=>(evD l env σ a).bind fun r=>(evD l env r.2 b).bind fun q=>(cmpD o1 r.1 q.1).bind fun t =>
  if t then (evD l env q.2 c).bind fun p=>(cmpD o2 q.1 p.1).map fun d=>(.d (.bool d),p.2) else some (.d (.bool false),q.2)
 | .tup xs=>(evDs l env σ xs).map fun r=>(.d (.tup r.1),r.2)
 | .lst xs=>(evDs l env σ xs).map fun r=>(.d (.lst r.1),r.2)
 | .dct0=>some (.d (.dct [] []),σ)
 | .newL xs=>(evDs l env σ xs).map fun r=>(.loc r.2.length,r.2++[.lst r.1])
 | .newD=>some (.loc σ.length,σ++[.dct [] []])
 | .idx a i=>(l.e env σ a).bind fun r=>(evD l env r.2 i).bind fun q=>(idxV q.2 r.1 q.1).map fun d=>(.d d,q.2)
 | .cut a lo hi=>(evD l env σ a).bind fun r=>(cutD r.1 lo hi).map fun d=>(.d d,r.2)
 | .call f xs=>(evs l env σ xs).bind fun r=>(l.c f r.1 r.2).map fun q=>(.d q.1,q.2)
 | .meth o _ f xs=>(evD l env σ o).bind fun p=>(match p.1 with | .obj c ks _=>lim (decide (c=187) && !ks.contains (Str.ofString "turns")) () | _=>.none).bind fun _=>(evs l env p.2 xs).bind fun r=>(l.c f (.d p.1::r.1) r.2).map fun (q:D × Sto)=>(.d q.1,q.2)
 | .new c xs=>(evs l env σ xs).bind fun r=>(l.n c r.1 r.2).map fun q=>(.d q.1,q.2)
 | .bi .len a=>(l.e env σ a).bind fun r=>(lenV r.1 r.2).map fun i=>(.d (.int i),r.2)
 | .bi b a=>(evD l env σ a).bind fun r=>(biD b r.1).map fun d=>(.d d,r.2)
 | .sortKey a i body=>(evD l env σ a).bind fun r=>(match r.1 with | .lst ds=>some ds | _=>.none).bind fun ds=>(keysL l env i body ds r.2).bind fun ks =>
  lim (decide (ds.length < 5) && (match (ks.2:Sto)[0]? with | some Cell.tab=>true | _=>false)) (.d (.lst (sortBy (fun i j=>lexLt (ks.1.getD i []) (ks.1.getD j [])) ds .none)),ks.2)
 | .attr a nm=>(l.e env σ a).bind fun r=>(match r.1 with
  | .d (.obj _ ks ds)=>(look nm ks ds).map V.d
  | .loc n=>(match r.2[n]? with | some (.obj _ ks vs)=>look nm ks vs | _=>.none)
  | _=>.none).map fun v=>(v,r.2)
 | .app o v=>(l.e env σ o).bind fun r=>(lstAt r.1 r.2).bind fun _=>(evD l env r.2 v).bind fun q=>(lstAt r.1 q.2).bind fun c =>
  lim (small (c.2++[q.1])) (.d .none,q.2.set c.1 (.lst (c.2++[q.1])))
 | .ext o v=>(l.e env σ o).bind fun r=>(lstAt r.1 r.2).bind fun _=>(evD l env r.2 v).bind fun q=>(lstAt r.1 q.2).bind fun c=>(match q.1 with | .lst es=>some es | _=>.none).bind fun es =>
  lim (small (c.2++es)) (.d .none,q.2.set c.1 (.lst (c.2++es)))
 | .extZip o a b=>(l.e env σ o).bind fun r=>(lstAt r.1 r.2).bind fun _=>(evD l env r.2 a).bind fun p=>(evD l env p.2 b).bind fun q=>(lstAt r.1 q.2).bind fun c =>
  (match p.1,q.1 with | .tup xs,.tup ys=>some (xs,ys) | _,_=>.none).bind fun (z:List D × List D) =>
  lim (small (c.2++z.1) && decide (z.1.length=z.2.length)) (.d .none,q.2.set c.1 (.lst (c.2++(z.1.zip z.2).map fun (p:D × D)=>D.tup [p.1,p.2])))
 | .pop o=>(l.e env σ o).bind fun r=>(lstAt r.1 r.2).bind fun c=>c.2.getLast?.bind fun d=>lim (small c.2) (.d d,r.2.set c.1 (.lst c.2.dropLast))
 | .setdef o k v=>(l.e env σ o).bind fun r=>(dctAt r.1 r.2).bind fun _=>(evD l env r.2 k).bind fun p=>(evD l env p.2 v).bind fun q=>(dctAt r.1 q.2).bind fun c =>
  (match p.1 with | .str x=>some x | _=>.none).bind fun x=>(match look x c.2.1 c.2.2 with
   | some d=>lim (decide (c.2.1.length < 900)) (.d d,q.2)
   | .none=>lim (decide (c.2.1.length < 900)) (.d q.1,q.2.set c.1 (.dct (put x q.1 c.2.1 c.2.2).1 (put x q.1 c.2.1 c.2.2).2)))
 | .comp cs el tg it cond=>(evD l env σ it).bind fun r=>(itemsOf r.1).bind fun ds=>(compL l (caps cs env) el tg cond ds r.2).map fun q=>(.d (.lst q.1),q.2)
 | .comp2 cs el tg it tg2 it2=>(evD l env σ it).bind fun r=>(itemsOf r.1).bind fun ds=>(compL2 l (caps cs env) el tg tg2 it2 ds r.2).bind fun q=>lim (small q.1) (.d (.lst q.1),q.2)
 | .frz i=>(env.lookup i).bind fun v=>(match v with
  | .loc n=>(freeze σ n).map fun d=>(.d d,σ.set n .gone)
  | _=>.none)
 | .frzA i nm=>(env.lookup i).bind fun v=>(match v with
  | .loc n=>(match σ[n]? with
   | some (.obj c ks vs)=>(look nm ks vs).bind fun u=>(match u with
    | .loc m=>(freeze σ m).map fun d=>(.d d,(σ.set m .gone).set n (.obj c ks (put nm (.d d) ks vs).2))
    | _=>.none)
   | _=>.none)
  | _=>.none)
noncomputable def forL (tg:Tg) (body:List S):List D→Env'→Sto→Option (Fl × Env' × Sto)
 | [],env,σ=>some (.next,env,σ)
 | d::ds,env,σ=>(bindTg tg d env).bind fun env1=>(l.s env1 σ body).bind fun r=>(match r.1 with
  | .next=>forL tg body ds r.2.1 r.2.2
  | .ret v=>some (.ret v,r.2.1,r.2.2))
noncomputable def whileL (t:X) (body:List S):Nat→Env'→Sto→Option (Fl × Env' × Sto)
 | 0,_,_=>.none
 | k+1,env,σ=>(test l env σ t).bind fun b=>if b.1 then (l.s env b.2 body).bind fun r=>(match r.1 with
  | .next=>whileL t body k r.2.1 r.2.2
  | .ret v=>some (.ret v,r.2.1,r.2.2)) else some (.next,env,b.2)
noncomputable def evS1 (env:Env') (σ:Sto):S→Option (Fl × Env' × Sto)
 | .asg i x=>(l.e env σ x).map fun r=>(.next,(i,r.1)::env,r.2)
 | .asgC i x=>(l.e env σ x).map fun r=>(.next,(i,r.1)::env,r.2)
 | .asgT is x=>(evD l env σ x).bind fun r=>(bindTg (.tup is) r.1 env).map fun e=>(.next,e,r.2)
 | .asgW is xs=>(evs l env σ xs).bind fun r=>if is.length=r.1.length then some (.next,(is.zip r.1)++env,r.2) else .none
 | .asgU is xs=>(evs l env σ xs).bind fun r=>if is.length=r.1.length then some (.next,(is.zip r.1).reverse++env,r.2) else .none
 | .setI o i v=>(evD l env σ v).bind fun r=>(l.e env r.2 o).bind fun p=>(evD l env p.2 i).bind fun q=>(match p.1,q.1 with
  | .loc n,.int k=>(match q.2[n]? with
   | some (.lst ds)=>if 0≤k∧k < 1000∧k.toNat < ds.length then some (.next,env,q.2.set n (.lst (ds.set k.toNat r.1))) else .none
   | _=>.none)
  | .loc n,.str x=>(match q.2[n]? with
   | some (.dct ks ds)=>lim (decide (ks.length < 900)) (.next,env,q.2.set n (.dct (put x r.1 ks ds).1 (put x r.1 ks ds).2))
   | _=>.none)
  | _,_=>.none)
 | .setA o nm v=>(l.e env σ v).bind fun r=>(l.e env r.2 o).bind fun p=>(match p.1 with
  | .loc n=>(match p.2[n]? with
   | some (.obj c ks vs)=>lim (decide (ks.length < 900)) (.next,env,p.2.set n (.obj c (put nm r.1 ks vs).1 (put nm r.1 ks vs).2))
   | _=>.none)
  | _=>.none)
 | .expr x=>(evD l env σ x).bind fun r=>(match r.1 with | .none=>some () | _=>.none).map fun _=>(.next,env,r.2)
 | .ife t a b=>(test l env σ t).bind fun r=>if r.1 then l.s env r.2 a else l.s env r.2 b
 | .forD tg it body=>(evD l env σ it).bind fun r=>(itemsOf r.1).bind fun ds=>forL l tg body ds env r.2
 | .forR i e body=>(evD l env σ e).bind fun r=>(match r.1 with | .int n=>lim (decide (0≤n) && decide (n≤1000)) n | _=>.none).bind fun n=>forL l (.one i) body ((List.range n.toNat).map fun (k:Nat)=>D.int k) env r.2
 | .forE i j a body=>(evD l env σ a).bind fun r=>(match r.1 with | .tup ds=>lim (small ds) ds | _=>.none).bind fun ds=>forL l (.tup [i,j]) body ((ds.zipIdx).map fun (p:D × Nat)=>D.tup [.int p.2,p.1]) env r.2
 | .whl t body=>whileL l t body 100 env σ
 | .ret x=>(evD l env σ x).map fun r=>(.ret r.1,env,r.2)
 | .bad=>.none
noncomputable def evSs (env:Env') (σ:Sto):List S→Option (Fl × Env' × Sto)
 | []=>some (.next,env,σ)
 | s::ss=>(evS1 l env σ s).bind fun r=>(match r.1 with
  | .next=>l.s r.2.1 r.2.2 ss
  | .ret v=>some (.ret v,r.2.1,r.2.2))
noncomputable def flD:Fl→D
 | .next=>.none
 | .ret v=>v
noncomputable def cellLow (n:Nat):Cell→Bool
 | .obj _ _ vs=>vs.all fun v=>(match v with | .loc m=>decide (m < n) | .d _=>true)
 | _=>true
noncomputable def evC (f:Nat) (vs:List V) (σ:Sto):Option (D × Sto) :=
 (fns[f]?).bind fun g=>if g.params.length=vs.length then
  (l.s ((g.params.zip vs).reverse) σ g.body).bind fun r =>
   if (r.2.2.take σ.length).all (cellLow σ.length) then some (flD r.1,r.2.2.take σ.length) else .none
 else .none
noncomputable def dataAll:List V→Option (List D)
 | []=>some []
 | v::r=>v.data?.bind fun d=>(dataAll r).map (d::·)
noncomputable def evN (c:Nat) (vs:List V) (σ:Sto):Option (D × Sto) :=
 (cls[c]?).bind fun k=>(l.c k.init (.loc σ.length::vs) (σ++[.obj k.addr [] []])).bind fun r =>
   (match r.1,r.2[σ.length]? with
   | .none,some (.obj a ks us)=>(dataAll us).map fun ds=>(a,ks,ds)
   | _,_=>.none).bind fun q =>
  if (r.2.take σ.length).all (cellLow σ.length) then some (.obj q.1 q.2.1 q.2.2,r.2.take σ.length) else .none
end
noncomputable def lvS (fns:List Fn) (cls:List Cls) (l:Lv):Lv:=⟨evE l,evSs l,evC fns l,evN cls l⟩
noncomputable def lv (fns:List Fn) (cls:List Cls):Nat→Lv
 | 0=>⟨fun _ _ _=>.none,fun _ _ _=>.none,fun _ _ _=>.none,fun _ _ _=>.none⟩
 | n+1=>lvS fns cls (lv fns cls n)
noncomputable abbrev sx (s:String):Str:=Str.ofString s
noncomputable def nms:List Str:=[sx "t", sx "part", sx "path", sx "pattern", sx "table", sx "kid", sx "found", sx "k", sx "waiting", sx "here", sx "there", sx "self", sx "rules", sx "told", sx "rule", sx "label", sx "side", sx "kind", sx "name", sx "left", sx "right", sx "one", sx "other", sx "is_back", sx "places", sx "needs", sx "known", sx "asked", sx "lost", sx "late", sx "coat", sx "many", sx "spot", sx "floors", sx "way", sx "near", sx "tables", sx "fits", sx "sides", sx "script", sx "has_need", sx "seeker", sx "due", sx "kept", sx "far", sx "filled_now", sx "sign"]
noncomputable def b_is_variable:List S :=
 [(.ret (.andE (.cmp .Eq (.bi .len (.var 0)) (.int 1)) (.cmp .Eq (.cut (.idx (.var 0) (.int 0)) none (some 1)) (.str (sx "?")))))]
noncomputable def f_is_variable:Fn:=⟨93,(sx "is_variable"),[0],b_is_variable⟩
noncomputable def b_variables:List S :=
 [(.ret (.bi .sortSet (.comp [] (.idx (.var 1) (.int 0)) (.tup [2,1]) (.call 3 [(.var 0)]) (some (.call 0 [(.var 1)])))))]
noncomputable def f_variables:Fn:=⟨103,(sx "variables"),[0],b_variables⟩
noncomputable def b_placed:List S :=
 [(.ife (.notE (.call 0 [(.var 3)])) [(.ret (.bin .Add (.tup [(.idx (.var 3) (.int 0))]) (.bi .tuple (.comp [4] (.call 2 [(.var 5),(.var 4)]) (.one 5) (.cut (.var 3) (some 1) none) none))))] []),
 (.ife (.cmp .NotIn (.idx (.var 3) (.int 0)) (.var 4)) [.bad] []),
 (.ret (.idx (.var 4) (.idx (.var 3) (.int 0))))]
noncomputable def f_placed:Fn:=⟨108,(sx "placed"),[3,4],b_placed⟩
noncomputable def b_parts:List S :=
 [(.asg 6 (.newL [(.tup [(.tup []),(.var 0)])])),
 (.forE 7 5 (.cut (.var 0) (some 1) none) [(.expr (.ext (.var 6) (.comp [7] (.tup [(.bin .Add (.tup [(.var 7)]) (.var 2)),(.var 1)]) (.tup [2,1]) (.call 3 [(.var 5)]) none)))]),
 (.ret (.frz 6))]
noncomputable def f_parts:Fn:=⟨113,(sx "parts"),[0],b_parts⟩
noncomputable def b_matched:List S :=
 [(.asgW [4,8] [.newD,(.newL [(.tup [(.var 3),(.var 0)])])]),
 (.whl (.cmp .Gt (.bi .len (.var 8)) (.int 0)) [(.asgT [9,10] (.pop (.var 8))),
  (.ife (.call 0 [(.var 9)]) [(.ife (.cmp .NotEq (.setdef (.var 4) (.idx (.var 9) (.int 0)) (.var 10)) (.var 10)) [(.ret .none)] [])] [(.ife (.orE (.cmp .NotEq (.idx (.var 9) (.int 0)) (.idx (.var 10) (.int 0))) (.cmp .NotEq (.bi .len (.var 9)) (.bi .len (.var 10)))) [(.ret .none)] [(.expr (.extZip (.var 8) (.cut (.var 9) (some 1) none) (.cut (.var 10) (some 1) none)))])])]),
 (.ret (.frz 4))]
noncomputable def f_matched:Fn:=⟨134,(sx "matched"),[3,0],b_matched⟩
noncomputable def b_Seeker__init:List S :=
 [(.setA (.var 11) (sx "sides") (.newL [])),
 (.forD (.one 14) (.var 12) [(.ife (.cmp .Eq (.attr (.var 14) (sx "needs")) (.tup [])) [(.expr (.app (.attr (.var 11) (sx "sides")) (.tup [(.str (sx "rule")),(.attr (.var 14) (sx "name")),(.attr (.var 14) (sx "left")),(.attr (.var 14) (sx "right"))])))] [])]),
 (.forD (.one 15) (.bi .sortKeys (.var 13)) [(.expr (.app (.attr (.var 11) (sx "sides")) (.tup [(.str (sx "told")),(.var 15),(.idx (.idx (.var 13) (.var 15)) (.int 0)),(.idx (.idx (.var 13) (.var 15)) (.int 1))])))]),
 (.setA (.var 11) (sx "goes_back") (.cmp .Eq (.comp [] (.int 1) (.one 16) (.frzA 11 (sx "sides")) (some (.cmp .NotEq (.call 1 [(.idx (.var 16) (.int 2))]) (.call 1 [(.idx (.var 16) (.int 3))])))) (.lst [])))]
noncomputable def f_Seeker__init:Fn:=⟨146,(sx "__init__"),[11,12,13],b_Seeker__init⟩
noncomputable def b_Seeker_turns:List S :=
 [(.asg 6 (.newL [])),
 (.forD (.tup [17,18,19,20]) (.attr (.var 11) (sx "sides")) [(.forD (.tup [21,22,23]) (.tup [(.tup [(.var 19),(.var 20),(.bool false)]),(.tup [(.var 20),(.var 19),(.bool true)])]) [(.asg 4 (.call 4 [(.var 21),(.var 1)])),
  (.ife (.andE (.cmp .IsNot (.var 4) .none) (.cmp .Eq (.bi .sortKeys (.var 4)) (.call 1 [(.var 19)]))) [(.asg 24 (.bi .tuple (.bi .sortItems (.var 4)))),
  (.expr (.app (.var 6) (.tup [(.var 17),(.var 18),(.var 24),(.var 23),(.call 2 [(.var 22),(.var 4)])])))] [])])]),
 (.ret (.frz 6))]
noncomputable def f_Seeker_turns:Fn:=⟨153,(sx "turns"),[11,1],b_Seeker_turns⟩
noncomputable def b_Rule__init:List S :=
 [(.ife (.call 0 [(.var 19)]) [.bad] []),
 (.asg 26 (.call 1 [(.var 19)])),
 (.asg 27 (.bin .Add (.lst [(.tup [(.str (sx "alike")),(.var 20),(.var 20)])]) (.bi .list (.var 25)))),
 (.forD (.tup [17,21,22]) (.var 27) [(.ife (.cmp .NotIn (.var 17) (.tup [(.str (sx "alike")),(.str (sx "unlike"))])) [.bad] []),
  (.asgC 28 (.comp [26] (.var 29) (.one 29) (.bin .Add (.call 1 [(.var 21)]) (.call 1 [(.var 22)])) (some (.cmp .NotIn (.var 29) (.var 26))))),
  (.ife (.cmp .NotEq (.var 28) (.lst [])) [.bad] [])]),
 (.setA (.var 11) (sx "name") (.var 18)),
 (.setA (.var 11) (sx "left") (.var 19)),
 (.setA (.var 11) (sx "right") (.var 20)),
 (.setA (.var 11) (sx "needs") (.bi .tuple (.var 25)))]
noncomputable def f_Rule__init:Fn:=⟨203,(sx "__init__"),[11,18,19,20,25],b_Rule__init⟩
noncomputable def b_law_sides:List S :=
 [(.ret (.tup [(.tup [(.tup [(.str (sx "a"))]),(.tup [(.str (sx "f")),(.tup [(.str (sx "b"))])])]),(.tup [(.tup [(.str (sx "f")),(.glo (sx "_law_x") (.tup [.str (sx "?x")]))]),(.tup [(.str (sx "g")),(.glo (sx "_law_x") (.tup [.str (sx "?x")])),(.glo (sx "_law_x") (.tup [.str (sx "?x")]))])]),(.tup [(.tup [(.str (sx "g")),(.glo (sx "_law_x") (.tup [.str (sx "?x")])),(.glo (sx "_law_y") (.tup [.str (sx "?y")]))]),(.tup [(.str (sx "g")),(.glo (sx "_law_y") (.tup [.str (sx "?y")])),(.glo (sx "_law_x") (.tup [.str (sx "?x")]))])]),(.tup [(.tup [(.str (sx "f")),(.tup [(.str (sx "f")),(.glo (sx "_law_x") (.tup [.str (sx "?x")]))])]),(.glo (sx "_law_x") (.tup [.str (sx "?x")]))]),(.tup [(.tup [(.str (sx "g")),(.glo (sx "_law_x") (.tup [.str (sx "?x")])),(.glo (sx "_law_y") (.tup [.str (sx "?y")]))]),(.tup [(.str (sx "f")),(.glo (sx "_law_x") (.tup [.str (sx "?x")]))])]),(.tup [(.tup [(.str (sx "g")),(.tup [(.str (sx "a"))]),(.glo (sx "_law_x") (.tup [.str (sx "?x")]))]),(.tup [(.str (sx "a"))])]),(.tup [(.tup [(.str (sx "g")),(.tup [(.str (sx "f")),(.glo (sx "_law_x") (.tup [.str (sx "?x")]))]),(.glo (sx "_law_y") (.tup [.str (sx "?y")]))]),(.tup [(.str (sx "f")),(.tup [(.str (sx "g")),(.glo (sx "_law_x") (.tup [.str (sx "?x")])),(.glo (sx "_law_y") (.tup [.str (sx "?y")]))])])]),(.tup [(.tup [(.str (sx "g")),(.glo (sx "_law_x") (.tup [.str (sx "?x")])),(.glo (sx "_law_x") (.tup [.str (sx "?x")]))]),(.glo (sx "_law_x") (.tup [.str (sx "?x")]))]),(.tup [(.tup [(.str (sx "f")),(.tup [(.str (sx "a"))])]),(.tup [(.str (sx "g")),(.tup [(.str (sx "a"))]),(.tup [(.str (sx "b"))])])])]))]
noncomputable def f_law_sides:Fn:=⟨227,(sx "_law_sides"),[],b_law_sides⟩
noncomputable def b_law_reach:List S :=
 [(.asg 32 (.idx (.var 30) (.int 1))),
 (.setI (.var 30) (.int 1) (.bin .Add (.var 32) (.int 1))),
 (.ret (.bin .Mod (.ife (.cmp .Lt (.var 32) (.bi .len (.idx (.var 30) (.int 0)))) (.idx (.idx (.var 30) (.int 0)) (.var 32)) (.bin .Mod (.bin .Add (.bin .Add (.bin .Mult (.bin .Mult (.int 2) (.var 32)) (.var 32)) (.bin .Mult (.int 9) (.var 32))) (.int 4)) (.int 61))) (.var 31)))]
noncomputable def f_law_reach:Fn:=⟨234,(sx "_law_reach"),[30,31],b_law_reach⟩
noncomputable def b_law_drawn:List S :=
 [(.asg 34 (.ife (.cmp .Gt (.var 33) (.int 0)) (.call 9 [(.var 30),(.int 6)]) (.int 0))),
 (.ife (.cmp .Lt (.var 34) (.int 2)) [(.ret (.tup [(.idx (.str (sx "abk")) (.call 9 [(.var 30),(.int 3)]))]))] []),
 (.ife (.cmp .Lt (.var 34) (.int 4)) [(.ret (.tup [(.str (sx "f")),(.call 10 [(.var 30),(.bin .Sub (.var 33) (.int 1))])]))] []),
 (.asg 19 (.call 10 [(.var 30),(.bin .Sub (.var 33) (.int 1))])),
 (.ret (.tup [(.str (sx "g")),(.var 19),(.call 10 [(.var 30),(.bin .Sub (.var 33) (.int 1))])]))]
noncomputable def f_law_drawn:Fn:=⟨241,(sx "_law_drawn"),[30,33],b_law_drawn⟩
noncomputable def b_law_parts:List S :=
 [(.ret (.bin .Add (.lst [(.var 0)]) (.comp2 [] (.var 1) (.one 5) (.cut (.var 0) (some 1) none) (.one 1) (.call 11 [(.var 5)]))))]
noncomputable def f_law_parts:Fn:=⟨246,(sx "_law_parts"),[0],b_law_parts⟩
noncomputable def b_law_names:List S :=
 [(.ret (.bi .sortSet (.comp [] (.idx (.var 1) (.int 0)) (.one 1) (.call 11 [(.var 16)]) (some (.cmp .Eq (.idx (.idx (.var 1) (.int 0)) (.int 0)) (.str (sx "?")))))))]
noncomputable def f_law_names:Fn:=⟨251,(sx "_law_names"),[16],b_law_names⟩
noncomputable def b_law_filled:List S :=
 [(.ret (.ife (.cmp .In (.idx (.var 16) (.int 0)) (.var 4)) (.idx (.var 4) (.idx (.var 16) (.int 0))) (.bin .Add (.cut (.var 16) none (some 1)) (.bi .tuple (.comp [4] (.call 13 [(.var 5),(.var 4)]) (.one 5) (.cut (.var 16) (some 1) none) none)))))]
noncomputable def f_law_filled:Fn:=⟨256,(sx "_law_filled"),[16,4],b_law_filled⟩
noncomputable def b_law_found:List S :=
 [(.asg 35 (.bin .Add (.bin .Add (.lst [(.var 0)]) (.comp [] (.var 5) (.one 5) (.cut (.var 0) (some 1) none) none)) (.comp2 [] (.var 29) (.one 5) (.cut (.var 0) (some 1) none) (.one 29) (.cut (.var 5) (some 1) none)))),
 (.asg 36 (.ife (.orE (.cmp .Eq (.idx (.idx (.var 16) (.int 0)) (.int 0)) (.str (sx "?"))) (.cmp .Eq (.tup [(.idx (.var 16) (.int 0)),(.bi .len (.var 16))]) (.tup [(.idx (.var 0) (.int 0)),(.bi .len (.var 0))]))) (.lst [.dct0]) (.lst []))),
 (.forD (.one 18) (.call 12 [(.var 16)]) [(.asgC 36 (.comp2 [18,35] (.bi .dict (.bin .Add (.bi .items (.var 4)) (.lst [(.tup [(.var 18),(.var 5)])]))) (.one 4) (.var 36) (.one 5) (.var 35)))]),
 (.asgC 37 (.comp [0,16] (.var 4) (.one 4) (.var 36) (some (.cmp .Eq (.call 13 [(.var 16),(.var 4)]) (.var 0))))),
 (.ret (.ife (.cmp .NotEq (.var 37) (.lst [])) (.idx (.var 37) (.int 0)) .none))]
noncomputable def f_law_found:Fn:=⟨261,(sx "_law_found"),[16,0],b_law_found⟩
noncomputable def b_law_due:List S :=
 [(.asg 6 (.newL [])),
 (.forD (.tup [17,18,19,20]) (.var 38) [(.forD (.tup [21,22,23]) (.tup [(.tup [(.var 19),(.var 20),(.bool false)]),(.tup [(.var 20),(.var 19),(.bool true)])]) [(.asg 4 (.call 14 [(.var 21),(.var 0)])),
  (.ife (.andE (.cmp .IsNot (.var 4) .none) (.cmp .Eq (.bi .sortKeys (.var 4)) (.call 12 [(.var 19)]))) [(.expr (.app (.var 6) (.tup [(.var 17),(.var 18),(.bi .tuple (.bi .sortItems (.var 4))),(.var 23),(.call 13 [(.var 22),(.var 4)])])))] [])])]),
 (.ret (.frz 6))]
noncomputable def f_law_due:Fn:=⟨268,(sx "_law_due"),[38,0],b_law_due⟩
noncomputable def b_law_called:List S :=
 [(.ret (.ife (.cmp .Eq (.var 0) (.tup [(.str (sx "k"))])) (.var 29) (.bin .Add (.cut (.var 0) none (some 1)) (.bi .tuple (.comp [29] (.call 16 [(.var 5),(.var 29)]) (.one 5) (.cut (.var 0) (some 1) none) none)))))]
noncomputable def f_law_called:Fn:=⟨273,(sx "_law_called"),[0,29],b_law_called⟩
noncomputable def b_law:List S :=
 [(.asg 30 (.newL [(.ife (.cmp .Gt (.bi .len (.var 39)) (.int 0)) (.bi .list (.cut (.var 39) none (some 40))) (.bi .list (.glo (sx "_law_plain") (.tup [.int 0,.int 0,.int 5,.int 2,.int 0,.int 0,.int 0,.int 0,.int 0,.int 0])))),(.int 0)])),
 (.asgW [38,12,13] [(.newL []),(.newL []),.newD]),
 (.asg 31 (.bin .Add (.int 1) (.call 9 [(.var 30),(.int 2)]))),
 (.forR 7 (.bin .Add (.bin .Add (.var 31) (.int 1)) (.call 9 [(.var 30),(.int 2)])) [(.asgT [19,20] (.idx (.call 8 []) (.call 9 [(.var 30),(.int 9)]))),
  (.ife (.andE (.cmp .GtE (.var 7) (.var 31)) (.cmp2 .Eq .Eq (.call 12 [(.var 19)]) (.lst []) (.call 12 [(.var 20)]))) [(.setI (.var 13) (.bin .Add (.str (sx "t")) (.bi .str (.bin .Sub (.int 9) (.var 7)))) (.tup [(.var 19),(.var 20)])),
  (.expr (.app (.var 38) (.tup [(.str (sx "told")),(.bin .Add (.str (sx "t")) (.bi .str (.bin .Sub (.int 9) (.var 7)))),(.var 19),(.var 20)])))] [(.asg 40 (.andE (.cmp .Eq (.call 9 [(.var 30),(.int 5)]) (.int 4)) (.cmp .In (.str (sx "?x")) (.call 12 [(.var 19)])))),
  (.expr (.app (.var 12) (.new 1 [(.bin .Add (.str (sx "r")) (.bi .str (.var 7))),(.var 19),(.var 20),(.ife (.var 40) (.tup [(.tup [(.str (sx "unlike")),(.glo (sx "_law_x") (.tup [.str (sx "?x")])),(.tup [(.str (sx "b"))])])]) (.tup []))]))),
  (.ife (.notE (.var 40)) [(.expr (.app (.var 38) (.tup [(.str (sx "rule")),(.bin .Add (.str (sx "r")) (.bi .str (.var 7))),(.var 19),(.var 20)])))] [])])]),
 (.asg 38 (.sortKey (.frz 38) 16 (.cut (.var 16) none (some 2)))),
 (.asgU [0,29] [(.call 10 [(.var 30),(.int 3)]),(.call 10 [(.var 30),(.int 1)])]),
 (.asg 41 (.new 0 [(.frz 12),(.frz 13)])),
 (.asg 42 (.call 15 [(.var 38),(.var 0)])),
 (.ife (.orE (.cmp .NotEq (.meth (.var 41) (sx "turns") 6 [(.var 0)]) (.var 42)) (.cmp .NotEq (.meth (.var 41) (sx "turns") 6 [(.tup [(.str (sx "s")),(.var 0)])]) (.call 15 [(.var 38),(.tup [(.str (sx "s")),(.var 0)])]))) [(.ret (.bool false))] []),
 (.asg 43 (.bi .dict (.comp [] (.tup [(.var 18),(.cmp .Eq (.call 12 [(.var 19)]) (.call 12 [(.var 20)]))]) (.tup [17,18,19,20]) (.var 38) none))),
 (.forD (.tup [17,18,24,23,22]) (.var 42) [(.ife (.cmp .NotEq (.cmp .In (.tup [(.var 17),(.var 18),(.var 24),(.notE (.var 23)),(.var 0)]) (.meth (.var 41) (sx "turns") 6 [(.var 22)])) (.idx (.var 43) (.var 18))) [(.ret (.bool false))] [])]),
 (.asg 44 (.meth (.var 41) (sx "turns") 6 [(.call 16 [(.var 0),(.var 29)])])),
 (.forD (.tup [17,18,24,23,22]) (.var 42) [(.asg 45 (.bi .tuple (.comp [29] (.tup [(.var 46),(.call 16 [(.var 1),(.var 29)])]) (.tup [46,1]) (.var 24) none))),
  (.ife (.cmp .NotIn (.tup [(.var 17),(.var 18),(.var 45),(.var 23),(.call 16 [(.var 22),(.var 29)])]) (.var 44)) [(.ret (.bool false))] [])]),
 (.ret (.bool true))]
noncomputable def f_law:Fn:=⟨278,(sx "law"),[39],b_law⟩
noncomputable def fns:List Fn:=[f_is_variable,f_variables,f_placed,f_parts,f_matched,f_Seeker__init,f_Seeker_turns,f_Rule__init,f_law_sides,f_law_reach,f_law_drawn,f_law_parts,f_law_names,f_law_filled,f_law_found,f_law_due,f_law_called]
noncomputable def clss:List Cls:=[⟨187,(sx "Seeker"),5⟩,⟨213,(sx "Rule"),7⟩]
noncomputable def nm (i:Nat):Str:=nms.getD i ⟨#[1114112+i]⟩
theorem nms_small:∀ i < 47,∀ c ∈ (nm i).cps.toList,c < 1114112:=by decide +kernel
theorem nms_inj:∀ i < 47,∀ j < 47,nm i=nm j→i=j:=by decide +kernel
theorem nm_big {i:Nat} (h:47≤i):nm i=⟨#[1114112+i]⟩:=by
 unfold nm
 rw [List.getD_eq_getElem?_getD,List.getElem?_eq_none (show nms.length≤i from h)]
 rfl
theorem nm_inj (i j:Nat) (e:nm i=nm j):i=j:=by
 by_cases hi:i < 47
 ·by_cases hj:j < 47
  ·exact nms_inj i hi j hj e
  ·exfalso
   rw [nm_big (Nat.le_of_not_lt hj)] at e
   have:=nms_small i hi (1114112+j) (by rw [e]; exact .head _)
   exact Nat.not_lt_of_le (Nat.le_add_right ..) this
 ·rw [nm_big (Nat.le_of_not_lt hi)] at e
  by_cases hj:j < 47
  ·exfalso
   have:=nms_small j hj (1114112+i) (by rw [← e]; exact .head _)
   exact Nat.not_lt_of_le (Nat.le_add_right ..) this
  ·rw [nm_big (Nat.le_of_not_lt hj)] at e
   have:(#[1114112+i]:Array Nat)=#[1114112+j]:=congrArg Str.cps e
   have:=congrArg Array.toList this
   simp at this
   exact this
noncomputable def gt:List (Str × D):=[(Str.ofString "_law_x", .tup [.str (sx "?x")]),(Str.ofString "_law_y", .tup [.str (sx "?y")]),(Str.ofString "_law_plain", .tup [.int 0,.int 0,.int 5,.int 2,.int 0,.int 0,.int 0,.int 0,.int 0,.int 0])]
theorem so1 {α:Type} {a b:α} (h:some a=some b):a=b:=Option.some.inj h
theorem so2 {α β:Type} {a c:α} {b d:β} (h:some (a,b)=some (c,d)):a=c∧b=d:=Prod.mk.inj (so1 h)
theorem so3 {α β γ:Type} {a c:α} {b d:β} {e f:γ} (h:some (a,b,e)=some (c,d,f)):a=c∧b=d∧e=f:=⟨(so2 h).1,Prod.mk.inj (so2 h).2⟩
theorem pj {α β:Type} {a c:α} {b d:β} (h:(a,b)=(c,d)):a=c∧b=d:=Prod.mk.inj h
theorem nos {α:Type} {P:Prop} {a:α} (h:none=some a):P:=nomatch h
theorem hide {P:Prop} (h:¬ ¬ P):P:=Classical.byContradiction h
theorem nsm {α:Type} {P:Prop} {x:Option α} {a:α} (e:x=none) (h:x=some a):P:=nomatch e.symm.trans h
theorem nl {α:Type} {P:Prop} {x:Option α} (e:x=none) (h:x.isSome=true):P:=by subst e; exact nomatch h
theorem liv {α β:Type} {x:Option α} {y:Option β} (h:x.isSome=true) (k:∀ a,x=some a→y.isSome=true):y.isSome=true:=match x,h with
 | some a,_=>k a rfl
theorem isk {α:Type} {x y:Option α} (h:x.isSome=true) (k:∀ a,x=some a→y=some a):y.isSome=true:=liv h fun a e=>by rw [k a e]; rfl
theorem fls {P:Prop} (h:false=true):P:=nomatch h
inductive BindR {α β:Type} (x:Option α) (f:α→Option β) (b:β):Prop
 | mk (a:α):x=some a→f a=some b→BindR x f b
inductive BindP {α β γ:Type} (x:Option (α × β)) (f:α × β→Option γ) (b:γ):Prop
 | mk (a:α) (c:β):x=some (a,c)→f (a,c)=some b→BindP x f b
inductive MapR {α β:Type} (x:Option α) (f:α→β) (b:β):Prop
 | mk (a:α):x=some a→f a=b→MapR x f b
theorem md {α β:Type} {x:Option α} {f:α→β} {b:β} (h:x.map f=some b):MapR x f b :=
 match x,h with
 | some a,h=>⟨a,rfl,so1 h⟩
inductive MapP {α β γ:Type} (x:Option (α × β)) (f:α × β→γ) (b:γ):Prop
 | mk (a:α) (c:β):x=some (a,c)→f (a,c)=b→MapP x f b
theorem mpp {α β γ:Type} {x:Option (α × β)} {f:α × β→γ} {b:γ} (h:x.map f=some b):MapP x f b :=
 match x,h with
 | some (a,c),h=>⟨a,c,rfl,so1 h⟩
theorem bd {α β:Type} {x:Option α} {f:α→Option β} {b:β} (h:x.bind f=some b):BindR x f b :=
 match x,h with
 | some a,h=>⟨a,rfl,h⟩
theorem bp {α β γ:Type} {x:Option (α × β)} {f:α × β→Option γ} {b:γ} (h:x.bind f=some b):BindP x f b :=
 match x,h with
 | some (a,c),h=>⟨a,c,rfl,h⟩
noncomputable abbrev Adr:=List (List Addr)
noncomputable def inAd (ad:Adr) (a:Addr):Prop:=∃ l ∈ ad,a ∈ l
noncomputable def KeysAre:List DictEntry→List Str→Prop
 | [],[]=>True
 | e::es,k::ks=>(∃ t,e.key=.str k t)∧KeysAre es ks
 | _,_=>False
inductive Fa2 {α β:Type} (R:α→β→Prop):List α→List β→Prop
 | nil:Fa2 R [] []
 | cons {a as b bs}:R a b→Fa2 R as bs→Fa2 R (a::as) (b::bs)
set_option inductive.autoPromoteIndices false in
inductive Fa2s {γ α β:Type} (R:γ→α→β→Prop):γ→List α→List β→Prop
 | nil {c}:Fa2s R c [] []
 | cons {c a as b bs}:R c a b→Fa2s R c as bs→Fa2s R c (a::as) (b::bs)
section
variable (prog:Program) (w:World)
inductive DR (h:Heap) (M:Addr→Prop):Value→D→Prop
 | none:DR h M .none .none
 | bool (b):DR h M (.bool b) (.bool b)
 | int (i t):DR h M (.int i t) (.int i)
 | str (x t):DR h M (.str x t) (.str x)
 | tup {a o vs n ds}:h.get? a=some o→o.cls=.type "tuple" → o.data=.seq vs n→¬ M a→Fa2 (DR h M) vs.toList ds→DR h M (.ref a) (.tup ds)
 | lst {a o vs n ds}:h.get? a=some o→(o.cls=.type "list" ∧ o.dict=Option.none)→o.data=.seq vs n→¬ M a→Fa2 (DR h M) vs.toList ds→DR h M (.ref a) (.lst ds)
 | raw {a o vs n ds}:h.get? a=some o→o.cls=.type "list" → o.data=.seq vs n→¬ M a→Fa2 (DR h M) vs.toList ds→DR h M (.ref a) (.raw ds)
 | dct {a o} {kvs:List (Str × Value)} {ks ds}:h.get? a=some o→o.IsDictOf (PySem.strKind prog w) kvs→¬ M a→(a == sysModules)=false→kvs.map (·.1)=ks→Fa2 (DR h M) (kvs.map (·.2)) ds→DR h M (.ref a) (.dct ks ds)
 | obj {a c d es n ks ds}:c ∈ clsA→h.get? a=some (instObj c d)→h.get? d=some (dictOf es n)→¬ M a→¬ M d→KeysAre es ks→Fa2 (DR h M) (es.map (·.val)) ds→DR h M (.ref a) (.obj c ks ds)
noncomputable abbrev DRs (h:Heap) (M:Addr→Prop):List Value→List D→Prop:=Fa2 (DR prog w h M)
inductive SeqI (h:Heap) (M:Addr→Prop) (t:String) (v:Value) (ds:List D):Prop
 | mk (a:Addr) (o:Obj) (vs:Array Value) (n:Nat):v=.ref a→h.get? a=some o→o.cls=.type t→o.data=.seq vs n→¬ M a→DRs prog w h M vs.toList ds→SeqI h M t v ds
inductive LstI (h:Heap) (M:Addr→Prop) (v:Value) (ds:List D):Prop
 | mk (a:Addr) (o:Obj) (vs:Array Value) (n:Nat):v=.ref a→h.get? a=some o→(o.cls=.type "list" ∧ o.dict=Option.none)→o.data=.seq vs n→¬ M a→DRs prog w h M vs.toList ds→LstI h M v ds
inductive DctI (h:Heap) (M:Addr→Prop) (v:Value) (ks:List Str) (ds:List D):Prop
 | mk (a:Addr) (o:Obj) (kvs:List (Str × Value)):v=.ref a→h.get? a=some o→o.IsDictOf (PySem.strKind prog w) kvs→¬ M a→(a == sysModules)=false→kvs.map (·.1)=ks→DRs prog w h M (kvs.map (·.2)) ds→DctI h M v ks ds
inductive ObjI (h:Heap) (M:Addr→Prop) (v:Value) (c:Addr) (ks:List Str) (ds:List D):Prop
 | mk (a d:Addr) (es:List DictEntry) (n:Nat):v=.ref a→c ∈ clsA→h.get? a=some (instObj c d)→h.get? d=some (dictOf es n)→¬ M a→¬ M d→KeysAre es ks→DRs prog w h M (es.map (·.val)) ds→ObjI h M v c ks ds
noncomputable def DRI (h:Heap) (M:Addr→Prop) (v:Value):D→Prop
 | .none=>v=.none
 | .bool b=>v=.bool b
 | .int i=>∃ t,v=.int i t
 | .str x=>∃ t,v=.str x t
 | .tup ds=>SeqI prog w h M "tuple" v ds
 | .lst ds=>LstI prog w h M v ds
 | .raw ds=>SeqI prog w h M "list" v ds
 | .dct ks ds=>DctI prog w h M v ks ds
 | .obj c ks ds=>ObjI prog w h M v c ks ds
noncomputable def Mt (ad:Adr) (F:Addr→Prop):Addr→Prop:=fun a=>inAd ad a ∨ F a
inductive VR (h:Heap) (ad:Adr) (F:Addr→Prop):Value→V→Prop
 | d {v d}:DR prog w h (Mt ad F) v d→VR h ad F v (.d d)
 | loc {a n l}:ad[n]?=some l→(l=[] ∨ l.head?=some a)→VR h ad F (.ref a) (.loc n)
inductive VRs (h:Heap) (ad:Adr) (F:Addr→Prop):List Value→List V→Prop
 | nil:VRs h ad F [] []
 | cons {v vs d ds}:VR prog w h ad F v d→VRs h ad F vs ds→VRs h ad F (v::vs) (d::ds)
inductive CR (h:Heap) (ad:Adr) (F:Addr→Prop):List Addr→Cell→Prop
 | gone:CR h ad F [] .gone
 | tab {a}:h.get? a=some (tabObj #[])→CR h ad F [a] .tab
 | lst {a vs n ds}:h.get? a=some (seqObj "list" vs n)→DRs prog w h (Mt ad F) vs.toList ds→CR h ad F [a] (.lst ds)
 | dct {a o} {kvs:List (Str × Value)} {ks ds}:h.get? a=some o→o.IsDictOf (PySem.strKind prog w) kvs→(a == sysModules)=false→kvs.map (·.1)=ks→DRs prog w h (Mt ad F) (kvs.map (·.2)) ds→CR h ad F [a] (.dct ks ds)
 | obj {a c d es n ks vs}:c ∈ clsA→h.get? a=some (instObj c d)→h.get? d=some (dictOf es n)→KeysAre es ks→VRs prog w h ad F (es.map (·.val)) vs→CR h ad F [a,d] (.obj c ks vs)
inductive CRs (h:Heap) (ad:Adr) (F:Addr→Prop):Adr→List Cell→Prop
 | nil:CRs h ad F [] []
 | cons {l ls c cs}:CR prog w h ad F l c→CRs h ad F ls cs→CRs h ad F (l::ls) (c::cs)
noncomputable def CRI (h:Heap) (ad:Adr) (F:Addr→Prop) (l:List Addr):Cell→Prop
 | .gone=>l=[]
 | .tab=>∃ a,l=[a]∧h.get? a=some (tabObj #[])
 | .lst ds=>∃ a vs n,l=[a]∧h.get? a=some (seqObj "list" vs n)∧DRs prog w h (Mt ad F) vs.toList ds
 | .dct ks ds=>∃ (a:Addr) (o:Obj) (kvs:List (Str × Value)),l=[a]∧h.get? a=some o∧o.IsDictOf (PySem.strKind prog w) kvs∧(a == sysModules)=false∧kvs.map (·.1)=ks∧DRs prog w h (Mt ad F) (kvs.map (·.2)) ds
 | .obj c ks vs=>∃ (a d:Addr) (es:List DictEntry) (n:Nat),l=[a,d]∧c ∈ clsA∧h.get? a=some (instObj c d)∧h.get? d=some (dictOf es n)∧KeysAre es ks∧VRs prog w h ad F (es.map (·.val)) vs
structure SR (b:Heap) (F:Addr→Prop) (h:Heap) (ad:Adr) (σ:Sto):Prop where
 keep:∀ a o,b.get? a=some o→h.get? a=some o
 nodup:ad.flatten.Nodup
 off:∀ a,inAd ad a→¬ F a∧b.get? a=none
 offF:∀ a,F a→b.get? a=none
 live:∀ a,F a→(h.get? a).isSome=true
 cells:CRs prog w h ad F ad σ
structure Mv (L:Addr) (s:Shared) (ad:Adr) (s':Shared) (ad':Adr):Prop where
 rest:∃ h tk dr,s'={ s with heap:=h,toks:=tk,drawn:=dr }
 old:∀ a o,¬ inAd ad a→a ≠ L→s.heap.get? a=some o→s'.heap.get? a=some o
 ns:∀ m,s.heap.Ns L m→s'.heap.Ns L m
 liv:(s.heap.get? L).isSome=true→(s'.heap.get? L).isSome=true
 new:∀ a,inAd ad' a→inAd ad a ∨ s.heap.get? a=none
 loc:∀ (n:Nat) (l:List Addr),ad[n]?=some l→ad'[n]?=some l ∨ ad'[n]?=some []
end
section
variable {prog:Program} {w:World} {h h':Heap} {M M':Addr→Prop} {b:Heap} {F:Addr→Prop} {ad ad':Adr} {σ σ':Sto} {s s' s'':Shared} {ad'':Adr} {L:Addr}
theorem Fa2.mp {α β:Type} {R R':α→β→Prop} (hk:∀ a b,R a b→R' a b) {as:List α} {bs:List β} (x:Fa2 R as bs):Fa2 R' as bs:=by
 induction x with
 | nil=>exact .nil
 | cons a _ i=>exact .cons (hk _ _ a) i
theorem DR.mono (hk:∀ a o,¬ M a→h.get? a=some o→h'.get? a=some o∧¬ M' a) {v:Value} {d:D} (x:DR prog w h M v d):DR prog w h' M' v d :=
 DR.rec (motive_1:=fun v d _=>DR prog w h' M' v d) (motive_2:=fun v d _=>DRs prog w h' M' v d) .none .bool .int .str
  (fun e c d m _ r=>.tup (hk _ _ m e).1 c d (hk _ _ m e).2 r) (fun e c d m _ r=>.lst (hk _ _ m e).1 c d (hk _ _ m e).2 r) (fun e c d m _ r=>.raw (hk _ _ m e).1 c d (hk _ _ m e).2 r)
  (fun e d m z k _ r=>.dct (hk _ _ m e).1 d (hk _ _ m e).2 z k r) (fun c e d m n k _ r=>.obj c (hk _ _ m e).1 (hk _ _ n d).1 (hk _ _ m e).2 (hk _ _ n d).2 k r)
  .nil (fun _ _ a r=>.cons a r) x
theorem DRs.mono (hk:∀ a o,¬ M a→h.get? a=some o→h'.get? a=some o∧¬ M' a) {v:List Value} {d:List D} (x:DRs prog w h M v d):DRs prog w h' M' v d:=Fa2.mp (fun _ _ e=>e.mono hk) x
theorem DRs.ind {C:List Value→List D→Prop} (h0:C [] []) (h1:∀ v vs d ds,DR prog w h M v d→DRs prog w h M vs ds→C vs ds→C (v::vs) (d::ds)) {vs:List Value} {ds:List D} (x:DRs prog w h M vs ds):C vs ds :=
 Fa2.rec (motive:=fun vs ds _=>C vs ds) h0 (fun e r i=>h1 _ _ _ _ e r i) x
theorem DRs.length {vs:List Value} {ds:List D} (x:DRs prog w h M vs ds):vs.length=ds.length :=
 x.ind (C:=fun vs ds=>vs.length=ds.length) rfl fun _ _ _ _ _ _ i=>congrArg (·+1) i
theorem DRs.append {vs vs':List Value} {ds ds':List D} (x:DRs prog w h M vs ds) (y:DRs prog w h M vs' ds'):DRs prog w h M (vs++vs') (ds++ds') :=
 x.ind (C:=fun vs ds=>DRs prog w h M (vs++vs') (ds++ds')) y fun _ _ _ _ e _ i=>.cons e i
theorem DRs.get {vs:List Value} {ds:List D} (x:DRs prog w h M vs ds) {k:Nat} {d:D} (e:ds[k]?=some d):∃ v,vs[k]?=some v∧DR prog w h M v d :=
 x.ind (C:=fun vs ds=>∀ (k:Nat) d,ds[k]?=some d→∃ v,vs[k]?=some v∧DR prog w h M v d) (fun _ _ e=>nos e) (fun v _ _ _ e _ i k d q=>match k,q with
  | 0,q=>⟨v,rfl,so1 q ▸ e⟩
  | k+1,q=>i k d q) k d e
theorem DRs.getV {vs:List Value} {ds:List D} (x:DRs prog w h M vs ds) {k:Nat} {v:Value} (e:vs[k]?=some v):∃ d,ds[k]?=some d∧DR prog w h M v d :=
 x.ind (C:=fun vs ds=>∀ (k:Nat) v,vs[k]?=some v→∃ d,ds[k]?=some d∧DR prog w h M v d) (fun _ _ e=>nos e) (fun _ _ d _ e _ i k v q=>match k,q with
  | 0,q=>⟨d,rfl,so1 q ▸ e⟩
  | k+1,q=>i k v q) k v e
theorem DRs.drop {vs:List Value} {ds:List D} (x:DRs prog w h M vs ds):∀ k,DRs prog w h M (vs.drop k) (ds.drop k) :=
 x.ind (C:=fun vs ds=>∀ k,DRs prog w h M (vs.drop k) (ds.drop k)) (fun k=>by cases k <;> exact .nil) fun _ _ _ _ e r i k=>match k with
  | 0=>.cons e r
  | k+1=>i k
theorem DRs.take {vs:List Value} {ds:List D} (x:DRs prog w h M vs ds):∀ k,DRs prog w h M (vs.take k) (ds.take k) :=
 x.ind (C:=fun vs ds=>∀ k,DRs prog w h M (vs.take k) (ds.take k)) (fun k=>by cases k <;> exact .nil) fun _ _ _ _ e r i k=>match k with
  | 0=>.nil
  | k+1=>.cons e (i k)
theorem DRs.set {vs:List Value} {ds:List D} (x:DRs prog w h M vs ds) {v:Value} {d:D} (e:DR prog w h M v d):∀ k,DRs prog w h M (vs.set k v) (ds.set k d) :=
 x.ind (C:=fun vs ds=>∀ k,DRs prog w h M (vs.set k v) (ds.set k d)) (fun k=>.nil) fun _ _ _ _ q r i k=>match k with
  | 0=>.cons e r
  | k+1=>.cons q (i k)
theorem DRs.dropLast {vs:List Value} {ds:List D} (x:DRs prog w h M vs ds):DRs prog w h M vs.dropLast ds.dropLast:=by
 rw [List.dropLast_eq_take,List.dropLast_eq_take,x.length]
 exact x.take _
theorem DRs.of_get {vs:List Value} {ds:List D} (hl:vs.length=ds.length) (e:∀ (k:Nat) v,vs[k]?=some v→∃ d,ds[k]?=some d∧DR prog w h M v d):DRs prog w h M vs ds:=by
 induction vs generalizing ds with
 | nil=>cases ds with
  | nil=>exact .nil
  | cons=>exact nomatch hl
 | cons v vs ih=>cases ds with
  | nil=>exact nomatch hl
  | cons d ds =>
   obtain ⟨d',e1,e2⟩:=e 0 v rfl
   exact .cons (so1 e1 ▸ e2) (ih (Nat.succ.inj hl) fun k v hv=>e (k+1) v hv)
theorem Mt.keep (hL:F L) (hm:Mv L s ad s' ad'):∀ a o,¬ Mt ad F a→s.heap.get? a=some o→s'.heap.get? a=some o∧¬ Mt ad' F a:=fun a o m e=>by
 refine ⟨hm.old a o (fun q=>m (.inl q)) (fun q=>m (.inr (q ▸ hL))) e,fun q=>?_⟩
 rcases q with q | q
 ·rcases hm.new a q with q | q
  ·exact m (.inl q)
  ·rw [q] at e; exact nos e
 ·exact m (.inr q)
theorem DR.mv {v:Value} {d:D} (x:DR prog w s.heap (Mt ad F) v d) (hL:F L) (hm:Mv L s ad s' ad'):DR prog w s'.heap (Mt ad' F) v d:=x.mono (Mt.keep hL hm)
theorem DRs.mv {v:List Value} {d:List D} (x:DRs prog w s.heap (Mt ad F) v d) (hL:F L) (hm:Mv L s ad s' ad'):DRs prog w s'.heap (Mt ad' F) v d:=x.mono (Mt.keep hL hm)
theorem VR.mv {v:Value} {d:V} (x:VR prog w s.heap ad F v d) (hL:F L) (hm:Mv L s ad s' ad'):VR prog w s'.heap ad' F v d:=by
 induction x using VR.casesOn with
 | d x=>exact .d (x.mv hL hm)
 | loc e hl =>
  rcases hm.loc _ _ e with q | q
  ·exact .loc q hl
  ·exact .loc q (.inl rfl)
theorem VRs.map {ad ad':Adr} {F':Addr→Prop} (hk:∀ v d,VR prog w h ad F v d→VR prog w h' ad' F' v d) {vs:List Value} {ds:List V} (x:VRs prog w h ad F vs ds):VRs prog w h' ad' F' vs ds :=
 VRs.rec (motive:=fun vs ds _=>VRs prog w h' ad' F' vs ds) .nil (fun e _ i=>.cons (hk _ _ e) i) x
theorem VRs.mv {v:List Value} {d:List V} (x:VRs prog w s.heap ad F v d) (hL:F L) (hm:Mv L s ad s' ad'):VRs prog w s'.heap ad' F v d:=x.map fun _ _ e=>e.mv hL hm
theorem VRs.length {vs:List Value} {ds:List V} (x:VRs prog w h ad F vs ds):vs.length=ds.length :=
 VRs.rec (motive:=fun vs ds _=>vs.length=ds.length) rfl (fun _ _ i=>congrArg (·+1) i) x
theorem Mv.refl:Mv L s ad s ad:=⟨⟨_,_,_,rfl⟩,fun _ _ _ _ e=>e,fun _ q=>q,fun q=>q,fun _ q=>.inl q,fun _ _ e=>.inl e⟩
theorem Mv.tok (t:Nat):Mv L s ad { s with toks:=t } ad:=⟨⟨_,_,_,rfl⟩,fun _ _ _ _ e=>e,fun _ q=>q,fun q=>q,fun _ q=>.inl q,fun _ _ e=>.inl e⟩
theorem Mv.trans (x:Mv L s ad s' ad') (y:Mv L s' ad' s'' ad''):Mv L s ad s'' ad'':=by
 obtain ⟨h1,t1,u1,e1⟩:=x.rest
 obtain ⟨h2,t2,u2,e2⟩:=y.rest
 refine ⟨⟨h2,t2,u2,by rw [e2,e1]⟩,fun a o m n e=>?_,fun m q=>y.ns m (x.ns m q),fun q=>y.liv (x.liv q),fun a q=>?_,fun n l e=>?_⟩
 ·have q:=x.old a o m n e
  refine y.old a o (fun z=>?_) n q
  rcases x.new a z with z | z
  ·exact m z
  ·rw [z] at e; exact nos e
 ·rcases y.new a q with q | q
  ·exact x.new a q
  ·by_cases m:inAd ad a
   ·exact .inl m
   ·right
    cases z:s.heap.get? a with
    | none=>rfl
    | some o =>
     by_cases n:a=L
     ·subst n
      have:=x.liv (by rw [z]; rfl)
      rw [q] at this; exact fls this
     ·have:=x.old a o m n z; rw [q] at this; exact nos this
 ·rcases x.loc n l e with q | q
  ·exact y.loc n l q
  ·rcases y.loc n [] q with z | z <;> exact .inr z
theorem Mv.grow {h:Heap} {t:Nat} (hk:∀ a o,s.heap.get? a=some o→h.get? a=some o):Mv L s ad { s with heap:=h,toks:=t } ad :=
 ⟨⟨_,_,_,rfl⟩,fun a o _ _ e=>hk a o e,fun m q=>q.keeps hk,fun q=>by
  cases z:s.heap.get? L with
  | none=>rw [z] at q; exact fls q
  | some o=>show (h.get? L).isSome=true; rw [hk _ _ z]; rfl,fun _ q=>.inl q,fun _ _ e=>.inl e⟩
theorem CR.liv {l:List Addr} {c:Cell} (x:CR prog w h ad F l c):∀ a ∈ l,(h.get? a).isSome=true:=by
 have one:∀ {a o},h.get? a=some o→∀ b ∈ [a],(h.get? b).isSome=true:=fun {a o} e b m=>by rw [List.mem_singleton.mp m,e]; rfl
 induction x using CR.casesOn with
 | gone=>exact fun _ m=>nomatch m
 | tab e=>exact one e
 | lst e=>exact one e
 | dct e=>exact one e
 | obj _ e d=>exact fun b m=>(List.mem_cons.mp m).elim (fun z=>one e b (z ▸ .head _)) (one d b)
theorem inAd.lt_of (x:CRs prog w h ad' F ad σ) {a:Addr} (q:inAd ad a):(h.get? a).isSome=true:=by
 obtain ⟨l,hl,ha⟩:=q
 induction x with
 | nil=>exact nomatch hl
 | cons c r ih=>exact (List.mem_cons.mp hl).elim (fun z=>c.liv a (z ▸ ha)) ih
theorem CRs.length {ls:Adr} {σ:Sto} (x:CRs prog w h ad F ls σ):ls.length=σ.length:=by
 induction x with
 | nil=>rfl
 | cons _ _ ih=>rw [List.length_cons,List.length_cons,ih]
theorem CRs.get {ls:Adr} {σ:Sto} (x:CRs prog w h ad F ls σ) {n:Nat} {c:Cell} (e:σ[n]?=some c):∃ l,ls[n]?=some l∧CR prog w h ad F l c :=
 CRs.rec (motive:=fun ls σ _=>∀ (n:Nat),σ[n]?=some c→∃ l,ls[n]?=some l∧CR prog w h ad F l c) (fun _ e=>nos e) (fun q _ i n e=>match n,e with
  | 0,e=>⟨_,rfl,so1 e ▸ q⟩
  | n+1,e=>i n e) x n e
theorem VR.grow {v:Value} {d:V} (hk:∀ a o,h.get? a=some o→h'.get? a=some o) (x:VR prog w h ad F v d):VR prog w h' ad F v d:=by
 induction x using VR.casesOn with
 | d r=>exact .d (r.mono fun a o m e=>⟨hk a o e,m⟩)
 | loc e l=>exact .loc e l
theorem VRs.grow {vs:List Value} {ds:List V} (hk:∀ a o,h.get? a=some o→h'.get? a=some o) (x:VRs prog w h ad F vs ds):VRs prog w h' ad F vs ds:=x.map fun _ _ e=>e.grow hk
theorem CR.grow {l:List Addr} {c:Cell} (x:CR prog w h ad F l c) (hk:∀ a o,h.get? a=some o→h'.get? a=some o):CR prog w h' ad F l c:=by
 have hd:∀ {v d},DRs prog w h (Mt ad F) v d→DRs prog w h' (Mt ad F) v d:=fun r=>r.mono fun a o m e=>⟨hk a o e,m⟩
 induction x using CR.casesOn with
 | gone=>exact .gone
 | tab e=>exact .tab (hk _ _ e)
 | lst e r=>exact .lst (hk _ _ e) (hd r)
 | dct e d z k r=>exact .dct (hk _ _ e) d z k (hd r)
 | obj c e d k r =>
  refine .obj c (hk _ _ e) (hk _ _ d) k ?_
  exact VRs.grow hk r
theorem CRs.grow {ls:Adr} {σ:Sto} (x:CRs prog w h ad F ls σ) (hk:∀ a o,h.get? a=some o→h'.get? a=some o):CRs prog w h' ad F ls σ:=by
 induction x with
 | nil=>exact .nil
 | cons q _ ih=>exact .cons (q.grow hk) ih
theorem SR.grow (x:SR prog w b F h ad σ) (hk:∀ a o,h.get? a=some o→h'.get? a=some o):SR prog w b F h' ad σ :=
 ⟨fun a o e=>hk a o (x.keep a o e),x.nodup,x.off,x.offF,fun a q=>by
  cases z:h.get? a with
  | none=>have:=x.live a q; rw [z] at this; exact fls this
  | some o=>rw [hk _ _ z]; rfl,x.cells.grow hk⟩
noncomputable def allN (b h:Heap) (L:Addr):List (Addr × Obj):=(List.range h.objs.size).filterMap fun a=>if a=L ∨ (b.get? a).isSome=true then none else (h.get? a).map fun o=>(a,o)
theorem allN_mem {b h:Heap} {L a:Addr} {o:Obj}:(a,o) ∈ allN b h L ↔ a ≠ L∧b.get? a=none∧h.get? a=some o:=by
 unfold allN
 rw [List.mem_filterMap]
 constructor
 ·rintro ⟨x,_,e⟩
  split at e
  ·cases e
  ·rename_i q
   obtain ⟨o',ho,e⟩:=md e
   cases e
   exact ⟨fun z=>q (.inl z),by cases z:b.get? a with | none=>rfl | some _=>exact absurd (.inr (by rw [z]; rfl)) q,ho⟩
 ·rintro ⟨h1,h2,h3⟩
  refine ⟨a,List.mem_range.mpr (Heap.lt_size h3),?_⟩
  rw [if_neg (by rintro (z | z); exact h1 z; rw [h2] at z; cases z),h3]
  rfl
theorem allN_news {b h:Heap} {L:Addr}:News b L h (allN b h L):=fun p hp=>by
 obtain ⟨a,o⟩:=p
 obtain ⟨h1,h2,h3⟩:=allN_mem.mp hp
 exact ⟨h3,h1,h2⟩
theorem allN_apart {b h:Heap} {L:Addr}:(allN b h L).Pairwise fun p q=>p.1 ≠ q.1:=by
 unfold allN
 rw [List.pairwise_filterMap]
 refine List.Pairwise.imp ?_ (List.nodup_range (n:=h.objs.size))
 intro x y hxy p hp q hq
 split at hp
 ·cases hp
 ·split at hq
  ·cases hq
  ·obtain ⟨o,_,rfl⟩:=md hp
   obtain ⟨o',_,rfl⟩:=md hq
   exact hxy
theorem allN_split {b h:Heap} {L a:Addr} {o:Obj} (hm:(a,o) ∈ allN b h L):∃ pre post,allN b h L=pre++(a,o)::post∧(∀ p ∈ pre,p.1 ≠ a)∧(∀ p ∈ post,p.1 ≠ a):=by
 obtain ⟨pre,post,e⟩:=List.append_of_mem hm
 have hp:=allN_apart (b:=b) (h:=h) (L:=L)
 rw [e,List.pairwise_append] at hp
 obtain ⟨_,h2,h3⟩:=hp
 rw [List.pairwise_cons] at h2
 exact ⟨pre,post,e,fun p q=>h3 p q _ (.head _),fun p q z=>h2.1 p q z.symm⟩
theorem allN_kept {b h h':Heap} {L:Addr} {m:Str→Option Value} {news:List (Addr × Obj)} (hb:∀ a o,b.get? a=some o→h.get? a=some o) (F':Fr b L h' m) (N:News b L h' news) (hs:∀ p ∈ allN b h L,p ∈ news) :
  ∀ a o,a ≠ L→h.get? a=some o→h'.get? a=some o:=fun a o n e=>by
 cases z:b.get? a with
 | some o' =>
  have:=hb a o' z
  rw [e] at this
  cases this
  exact F'.keep a o z
 | none=>exact N.get (hs _ (allN_mem.mpr ⟨n,z,e⟩))
theorem DR.kept (hL:F L) (hk:∀ a o,a ≠ L→h.get? a=some o→h'.get? a=some o) {v:Value} {d:D} (x:DR prog w h (Mt ad F) v d):DR prog w h' (Mt ad F) v d :=
 x.mono fun a o m e=>⟨hk a o (fun q=>m (.inr (q ▸ hL))) e,m⟩
theorem DRs.kept (hL:F L) (hk:∀ a o,a ≠ L→h.get? a=some o→h'.get? a=some o) {v:List Value} {d:List D} (x:DRs prog w h (Mt ad F) v d):DRs prog w h' (Mt ad F) v d :=
 x.mono fun a o m e=>⟨hk a o (fun q=>m (.inr (q ▸ hL))) e,m⟩
theorem VRs.kept (hL:F L) (hk:∀ a o,a ≠ L→h.get? a=some o→h'.get? a=some o) {vs:List Value} {ds:List V} (x:VRs prog w h ad F vs ds):VRs prog w h' ad F vs ds:=x.map fun _ _ e=>by
 induction e using VR.casesOn with
 | d r=>exact .d (r.kept hL hk)
 | loc e l=>exact .loc e l
theorem CR.kept {ad2:Adr} (hL:F L) (hk:∀ a o,a ≠ L→h.get? a=some o→h'.get? a=some o) {l:List Addr} {c:Cell} (hl:∀ a ∈ l,a ≠ L) (x:CR prog w h ad F l c):CR prog w h' ad F l c:=by
 induction x using CR.casesOn with
 | gone=>exact .gone
 | tab e=>exact .tab (hk _ _ (hl _ (.head _)) e)
 | lst e r=>exact .lst (hk _ _ (hl _ (.head _)) e) (r.kept hL hk)
 | dct e d z k r=>exact .dct (hk _ _ (hl _ (.head _)) e) d z k (r.kept hL hk)
 | obj c e d k r=>exact .obj c (hk _ _ (hl _ (.head _)) e) (hk _ _ (hl _ (.tail _ (.head _))) d) k (r.kept hL hk)
theorem CRs.kept (hL:F L) (hk:∀ a o,a ≠ L→h.get? a=some o→h'.get? a=some o) {ls:Adr} {σ:Sto} (hl:∀ l ∈ ls,∀ a ∈ l,a ≠ L) (x:CRs prog w h ad F ls σ):CRs prog w h' ad F ls σ:=by
 induction x with
 | nil=>exact .nil
 | cons q _ ih=>exact .cons (q.kept (ad2:=ad) hL hk (hl _ (.head _))) (ih fun l hm=>hl l (.tail _ hm))
theorem SR.kept (hL:F L) (x:SR prog w b F h ad σ) (hk:∀ a o,a ≠ L→h.get? a=some o→h'.get? a=some o) (hl:(h'.get? L).isSome=true):SR prog w b F h' ad σ:=by
 refine ⟨fun a o e=>hk a o (fun q=>?_) (x.keep a o e),x.nodup,x.off,x.offF,fun a q=>?_,x.cells.kept hL hk fun l hm a ha q=>(x.off a ⟨l,hm,ha⟩).1 (q ▸ hL)⟩
 ·rw [q,x.offF L hL] at e; exact nos e
 ·by_cases n:a=L
  ·rw [n]; exact hl
  ·cases z:h.get? a with
   | none=>have:=x.live a q; rw [z] at this; exact fls this
   | some o=>rw [hk _ _ n z]; rfl
theorem SR.fresh (x:SR prog w b F h ad σ) {a:Addr} (hn:h.get? a=none):¬ Mt ad F a:=fun q=>by
 rcases q with q | q
 ·have:=inAd.lt_of x.cells q; rw [hn] at this; exact fls this
 ·have:=x.live a q; rw [hn] at this; exact fls this
theorem ns_uniq {a:Addr} {m m':Str→Option Value} (x:h.Ns a m) (y:h.Ns a m'):m=m':=by
 obtain ⟨o,es,ep,h1,h2,_,h4⟩:=x
 obtain ⟨o',es',ep',g1,g2,_,g4⟩:=y
 rw [h1] at g1; cases g1
 rw [h2] at g2; cases g2
 funext n
 rw [← h4,← g4]
theorem ns_some {a:Addr} {m:Str→Option Value} (x:h.Ns a m):(h.get? a).isSome=true:=by
 obtain ⟨o,_,_,h1,_⟩:=x
 rw [h1]; rfl
theorem Mv.ofKept {m:Str→Option Value} {h':Heap} {t:Nat} (hn:s.heap.Ns L m) (hn':h'.Ns L m) (hk:∀ a o,a ≠ L→s.heap.get? a=some o→h'.get? a=some o):Mv L s ad { s with heap:=h',toks:=t } ad :=
 ⟨⟨_,_,_,rfl⟩,fun a o _ n e=>hk a o n e,fun m' q=>by rw [ns_uniq q hn]; exact hn',fun _=>ns_some hn',fun _ q=>.inl q,fun _ _ e=>.inl e⟩
theorem DR.inv {v:Value} {d:D} (x:DR prog w h M v d):DRI prog w h M v d:=by
 induction x using DR.casesOn with
 | none=>exact rfl
 | bool b=>exact rfl
 | int i t=>exact ⟨t,rfl⟩
 | str x t=>exact ⟨t,rfl⟩
 | tup e c d m r=>exact ⟨_,_,_,_,rfl,e,c,d,m,r⟩
 | lst e c d m r=>exact ⟨_,_,_,_,rfl,e,c,d,m,r⟩
 | raw e c d m r=>exact ⟨_,_,_,_,rfl,e,c,d,m,r⟩
 | dct e d m z k r=>exact ⟨_,_,_,rfl,e,d,m,z,k,r⟩
 | obj c e d m z k r=>exact ⟨_,_,_,_,rfl,c,e,d,m,z,k,r⟩
theorem DR.noneI {v:Value} (x:DR prog w h M v .none):v=.none:=x.inv
theorem DR.boolI {v:Value} {b:Bool} (x:DR prog w h M v (.bool b)):v=.bool b:=x.inv
theorem DR.tupI {v:Value} {ds:List D} (x:DR prog w h M v (.tup ds)):SeqI prog w h M "tuple" v ds:=x.inv
theorem DR.lstN {v:Value} {ds:List D} (x:DR prog w h M v (.lst ds)):LstI prog w h M v ds:=x.inv
theorem DR.lstI {v:Value} {ds:List D} (x:DR prog w h M v (.lst ds)):SeqI prog w h M "list" v ds:=by
 obtain ⟨a,o,vs,n,h1,h2,h3,h4,h5,h6⟩:=x.lstN
 exact ⟨a,o,vs,n,h1,h2,h3.1,h4,h5,h6⟩
theorem DR.rawI {v:Value} {ds:List D} (x:DR prog w h M v (.raw ds)):SeqI prog w h M "list" v ds:=x.inv
theorem DR.dctI {v:Value} {ks:List Str} {ds:List D} (x:DR prog w h M v (.dct ks ds)):DctI prog w h M v ks ds:=x.inv
theorem DR.objI {v:Value} {c:Addr} {ks:List Str} {ds:List D} (x:DR prog w h M v (.obj c ks ds)):ObjI prog w h M v c ks ds:=x.inv
theorem DR.strI {v:Value} {x:Str} (y:DR prog w h M v (.str x)):∃ t,v=.str x t:=y.inv
theorem DR.intI {v:Value} {x:Int} (y:DR prog w h M v (.int x)):∃ t,v=.int x t:=y.inv
theorem VR.dI {v:Value} {d:D} (x:VR prog w h ad F v (.d d)):DR prog w h (Mt ad F) v d:=by
 cases x; assumption
theorem CR.inv {l:List Addr} {c:Cell} (x:CR prog w h ad F l c):CRI prog w h ad F l c:=by
 induction x using CR.casesOn with
 | gone=>exact rfl
 | tab e=>exact ⟨_,rfl,e⟩
 | lst e r=>exact ⟨_,_,_,rfl,e,r⟩
 | dct e d z k r=>exact ⟨_,_,_,rfl,e,d,z,k,r⟩
 | obj c e d k r=>exact ⟨_,_,_,_,rfl,c,e,d,k,r⟩
theorem DRs.nilI {vs:List Value} (x:DRs prog w h M vs []):vs=[]:=by cases x; rfl
theorem DRs.consI {vs:List Value} {d:D} {ds:List D} (x:DRs prog w h M vs (d::ds)):∃ v vs',vs=v::vs'∧DR prog w h M v d∧DRs prog w h M vs' ds:=by
 cases x with | cons e r=>exact ⟨_,_,rfl,e,r⟩
end
noncomputable def globB (sc:Scope) (s:Str):Bool:=(sc.names.lookup s == some .globalImplicit) && !(s == ("__debug__" : Str))
noncomputable def storeB (sc:Scope) (s:Str):Bool:=(sc.names.lookup s == some .local) || (sc.names.lookup s == some .cell)
noncomputable def localB (sc:Scope) (s:Str):Bool:=sc.names.lookup s == some .local
noncomputable def kindE:Expr→Nat
 | .Slice ..=>1
 | .Call ..=>2
 | .ListComp ..=>3
 | .SetComp ..=>3
 | .DictComp ..=>3
 | .Tuple ..=>4
 | .Set ..=>5
 | .Starred ..=>6
 | _=>0
noncomputable def notCall (e:Expr):Bool:=kindE e != 2
noncomputable def notComp (e:Expr):Bool:=kindE e != 3
noncomputable def notTup (e:Expr):Bool:=kindE e != 4 && kindE e != 3
noncomputable def compSc (sc scope:Scope) (caps:List Str):Bool :=
 scope.kind == .function && scope.names.all (fun y=>y.2 != .cell) &&
 scope.names.all (fun y=>y.2 != .local || scope.names.lookup y.1 == some .local) &&
 caps.all (fun t=>scope.names.lookup t == some .free) &&
 scope.names.all (fun y=>y.2 != .free || sc.names.lookup y.1 == some .cell)
noncomputable def cutC:Option Nat→Option Expr→Bool
 | none,none=>true
 | some n,some (.Constant (.int i) _ _)=>decide (i=(n:Int)) && decide (n < 1000)
 | _,_=>false
noncomputable def biName:Bi→Option (Str × Value)
 | .len=>some (Str.ofString "len", .builtin "len")
 | .tuple=>some (Str.ofString "tuple", .type "tuple")
 | .list=>some (Str.ofString "list", .type "list")
 | .dict=>some (Str.ofString "dict", .type "dict")
 | .str=>some (Str.ofString "str", .type "str")
 | .sortKeys=>some (Str.ofString "sorted", .builtin "sorted")
 | _=>none
noncomputable def methName (s:Str):Bool:=s == Str.ofString "__init__" || s == Str.ofString "turns"
noncomputable def tgNs:Tg→List Nat
 | .one i=>[i]
 | .tup is=>is
section
inductive NamesAre (ok:Str→Bool):List Nat→List Expr→Prop
 | nil:NamesAre ok [] []
 | cons {i s p is es}:nm i=s→ok s=true→NamesAre ok is es→NamesAre ok (i::is) (.Name s p::es)
inductive EncT (scope:Scope):Tg→Expr→Prop
 | one {i s p}:nm i=s→storeB scope s=true→EncT scope (.one i) (.Name s p)
 | tup {is es k p}:is.length≤20→NamesAre (storeB scope) is es→EncT scope (.tup is) (.Tuple es k p)
inductive Enc:Scope→X→Expr→Prop
 | none {sc k p}:Enc sc .none (.Constant .none k p)
 | bool {sc b k p}:Enc sc (.bool b) (.Constant (.bool b) k p)
 | int {sc i k p}:Enc sc (.int i) (.Constant (.int i) k p)
 | str {sc x k p}:Enc sc (.str x) (.Constant (.str x) k p)
 | var {sc i s p}:nm i=s→(s == ("__debug__" : Str))=false→Enc sc (.var i) (.Name s p)
 | glo {sc s d p}:globB sc s=true→(s,d) ∈ gt→Enc sc (.glo s d) (.Name s p)
 | andE {sc a b x y p}:Enc sc a x→Enc sc b y→Enc sc (.andE a b) (.BoolOp .And [x,y] p)
 | orE {sc a b x y p}:Enc sc a x→Enc sc b y→Enc sc (.orE a b) (.BoolOp .Or [x,y] p)
 | notE {sc a x p}:Enc sc a x→Enc sc (.notE a) (.UnaryOp .Not x p)
 | ife {sc t a b x y z p}:Enc sc t x→Enc sc a y→Enc sc b z→Enc sc (.ife t a b) (.IfExp x y z p)
 | bin {sc op a b x y p}:Enc sc a x→Enc sc b y→Enc sc (.bin op a b) (.BinOp x op y p)
 | cmp {sc op a b x y p}:Enc sc a x→Enc sc b y→Enc sc (.cmp op a b) (.Compare x [op] [y] p)
 | cmp2 {sc o1 o2 a b c x y z p}:Enc sc a x→Enc sc b y→Enc sc c z→Enc sc (.cmp2 o1 o2 a b c) (.Compare x [o1,o2] [y,z] p)
 | tup {sc xs es k p}:Fa2s Enc sc xs es→xs.length≤100→Enc sc (.tup xs) (.Tuple es k p)
 | lst {sc xs es p}:Fa2s Enc sc xs es→xs.length≤100→Enc sc (.lst xs) (.List es p)
 | newL {sc xs es p}:Fa2s Enc sc xs es→xs.length≤100→Enc sc (.newL xs) (.List es p)
 | dct0 {sc p}:Enc sc .dct0 (.Dict [] [] p)
 | newD {sc p}:Enc sc .newD (.Dict [] [] p)
 | idx {sc a i x y p}:Enc sc a x→Enc sc i y→Enc sc (.idx a i) (.Subscript x y p)
 | cut {sc a lo hi x l u q p}:Enc sc a x→cutC lo l=true→cutC hi u=true→(lo.isNone || hi.isNone)=true→Enc sc (.cut a lo hi) (.Subscript x (.Slice l u none q) p)
 | call {sc f g xs es q p}:fns[f]?=some g→methName g.name=false→globB sc g.name=true→Fa2s Enc sc xs es→xs.length≤20→Enc sc (.call f xs) (.Call (.Name g.name q) es [] p)
 | meth {sc o x s f g xs es q p}:fns[f]?=some g→g.addr=153→s=Str.ofString "turns" → notCall x=true→Enc sc o x→Fa2s Enc sc xs es→xs.length≤20→(q.endLine == p.line)=true→Enc sc (.meth o s f xs) (.Call (.Attribute x s q) es [] p)
 | new {sc c k xs es q p}:clss[c]?=some k→globB sc k.name=true→Fa2s Enc sc xs es→xs.length≤20→Enc sc (.new c xs) (.Call (.Name k.name q) es [] p)
 | bi {sc b n v a x q p}:biName b=some (n,v)→globB sc n=true→Enc sc a x→Enc sc (.bi b a) (.Call (.Name n q) [x] [] p)
 | sortSet {sc a x q1 q2 p1 p}:globB sc (Str.ofString "sorted")=true→globB sc (Str.ofString "set")=true→Enc sc a x→Enc sc (.bi .sortSet a) (.Call (.Name (Str.ofString "sorted") q1) [.Call (.Name (Str.ofString "set") q2) [x] [] p1] [] p)
 | items {sc a x q1 q2 p1 p}:globB sc (Str.ofString "list")=true→notCall x=true→Enc sc a x→(q2.endLine == p1.line)=true→Enc sc (.bi .items a) (.Call (.Name (Str.ofString "list") q1) [.Call (.Attribute x (Str.ofString "items") q2) [] [] p1] [] p)
 | sortItems {sc a x q1 q2 p1 p}:globB sc (Str.ofString "sorted")=true→notCall x=true→Enc sc a x→(q2.endLine == p1.line)=true→Enc sc (.bi .sortItems a) (.Call (.Name (Str.ofString "sorted") q1) [.Call (.Attribute x (Str.ofString "items") q2) [] [] p1] [] p)
 | attr {sc a x s p}:s ∈ fldNs→notCall x=true→Enc sc a x→Enc sc (.attr a s) (.Attribute x s p)
 | app {sc o v x y q p}:notCall x=true→Enc sc o x→Enc sc v y→(q.endLine == p.line)=true→Enc sc (.app o v) (.Call (.Attribute x (Str.ofString "append") q) [y] [] p)
 | ext {sc o v x y q p}:notCall x=true→Enc sc o x→Enc sc v y→(q.endLine == p.line)=true→Enc sc (.ext o v) (.Call (.Attribute x (Str.ofString "extend") q) [y] [] p)
 | extZip {sc o a b x y z q q1 p1 p}:globB sc (Str.ofString "zip")=true→notCall x=true→Enc sc o x→Enc sc a y→Enc sc b z→(q.endLine == p.line)=true→Enc sc (.extZip o a b) (.Call (.Attribute x (Str.ofString "extend") q) [.Call (.Name (Str.ofString "zip") q1) [y,z] [] p1] [] p)
 | pop {sc o x q p}:notCall x=true→Enc sc o x→(q.endLine == p.line)=true→Enc sc (.pop o) (.Call (.Attribute x (Str.ofString "pop") q) [] [] p)
 | setdef {sc o k v x y z q p}:notCall x=true→Enc sc o x→Enc sc k y→Enc sc v z→(q.endLine == p.line)=true→Enc sc (.setdef o k v) (.Call (.Attribute x (Str.ofString "setdefault") q) [y,z] [] p)
 | comp {sc cs el tg it x t y scope p}:compSc sc scope (cs.map nm)=true→Enc scope el x→EncT scope tg t→Enc sc it y→Enc sc (.comp cs el tg it .none) (.ListComp x [⟨t,y,[],0⟩] scope p)
 | compC {sc cs el tg it c x t y z scope p}:compSc sc scope (cs.map nm)=true→Enc scope el x→EncT scope tg t→Enc sc it y→Enc scope c z→Enc sc (.comp cs el tg it (some c)) (.ListComp x [⟨t,y,[z],0⟩] scope p)
 | comp2 {sc cs el tg it tg2 it2 x t y t2 y2 scope p}:((tgNs tg2).all fun i=>!(tgNs tg).contains i)=true→compSc sc scope (cs.map nm)=true→Enc scope el x→EncT scope tg t→Enc sc it y→EncT scope tg2 t2→Enc scope it2 y2→Enc sc (.comp2 cs el tg it tg2 it2) (.ListComp x [⟨t,y,[],0⟩,⟨t2,y2,[],0⟩] scope p)
 | frz {sc i s p}:nm i=s→(s == ("__debug__" : Str))=false→Enc sc (.frz i) (.Name s p)
 | frzA {sc i s n q p}:n ∈ fldNs→nm i=s→(s == ("__debug__" : Str))=false→Enc sc (.frzA i n) (.Attribute (.Name s q) n p)
noncomputable abbrev EncL:Scope→List X→List Expr→Prop:=Fa2s Enc
theorem EncL.nil {sc}:EncL sc [] []:=Fa2s.nil
theorem EncL.cons {sc x e xs es} (h:Enc sc x e) (r:EncL sc xs es):EncL sc (x::xs) (e::es):=Fa2s.cons h r
inductive EncLC (sc:Scope):X→Expr→List Comprehension→Scope→Prop
 | comp {cs el tg it x t y scope}:compSc sc scope (cs.map nm)=true→Enc scope el x→EncT scope tg t→Enc sc it y→EncLC sc (.comp cs el tg it .none) x [⟨t,y,[],0⟩] scope
 | compC {cs el tg it c x t y z scope}:compSc sc scope (cs.map nm)=true→Enc scope el x→EncT scope tg t→Enc sc it y→Enc scope c z→EncLC sc (.comp cs el tg it (some c)) x [⟨t,y,[z],0⟩] scope
 | comp2 {cs el tg it tg2 it2 x t y t2 y2 scope}:((tgNs tg2).all fun i=>!(tgNs tg).contains i)=true→compSc sc scope (cs.map nm)=true→Enc scope el x→EncT scope tg t→Enc sc it y→EncT scope tg2 t2→Enc scope it2 y2→EncLC sc (.comp2 cs el tg it tg2 it2) x [⟨t,y,[],0⟩,⟨t2,y2,[],0⟩] scope
inductive EncS (sc:Scope):S→Stmt→Prop
 | asg {i x e s q p}:nm i=s→storeB sc s=true→notComp e=true→Enc sc x e→EncS sc (.asg i x) (.Assign [.Name s q] e p)
 | asgC {i x e gs scope s q p1 p}:nm i=s→localB sc s=true→EncLC sc x e gs scope→(q.line == p1.line)=true→(scope.names.any fun (n,k)=>n == s && (k == .local || k == .cell))=false →
   EncS sc (.asgC i x) (.Assign [.Name s q] (.ListComp e gs scope p1) p)
 | asgT {is x t e p}:EncT sc (.tup is) t→notTup e=true→Enc sc x e→EncS sc (.asgT is x) (.Assign [t] e p)
 | asgW {is xs ts k q es k2 q2 p}:NamesAre (localB sc) is ts→ts.all (fun e=>e.pos.line == (ts.head?.map (·.pos.line)).getD 0)=true→is.Nodup→(is.length=2 ∨ is.length=3)→EncL sc xs es→xs.length=is.length →
   es.all (foldedForSure 8)=false→es.all (constantsAlone 8)=false→EncS sc (.asgW is xs) (.Assign [.Tuple ts k q] (.Tuple es k2 q2) p)
 | asgU {is xs t ts k q es k2 q2 p}:t=Expr.Tuple ts k q→EncT sc (.tup is) t→is.any (fun i=>!localB sc (nm i))=true→EncL sc xs es→xs.length=is.length→xs.length≤100 →
   EncS sc (.asgU is xs) (.Assign [t] (.Tuple es k2 q2) p)
 | setI {o i v x y z q p}:Enc sc o x→Enc sc i y→Enc sc v z→EncS sc (.setI o i v) (.Assign [.Subscript x y q] z p)
 | setA {o n v x z q p}:n ∈ fldNs→Enc sc o x→Enc sc v z→EncS sc (.setA o n v) (.Assign [.Attribute x n q] z p)
 | expr {x f es ks q p}:Enc sc x (.Call f es ks q)→EncS sc (.expr x) (.Expr (.Call f es ks q) p)
 | ife {t a b x y z p}:Enc sc t x→Fa2 (EncS sc) a y→Fa2 (EncS sc) b z→EncS sc (.ife t a b) (.If x y z p)
 | forD {tg it body t x y p}:EncT sc tg t→Enc sc it x→Fa2 (EncS sc) body y→EncS sc (.forD tg it body) (.For t x y [] p)
 | forR {i e body s x y q q1 p1 p}:nm i=s→storeB sc s=true→globB sc (Str.ofString "range")=true→Enc sc e x→Fa2 (EncS sc) body y→EncS sc (.forR i e body) (.For (.Name s q) (.Call (.Name (Str.ofString "range") q1) [x] [] p1) y [] p)
 | forE {i j a body t x y q1 p1 p}:EncT sc (.tup [i,j]) t→globB sc (Str.ofString "enumerate")=true→Enc sc a x→Fa2 (EncS sc) body y→EncS sc (.forE i j a body) (.For t (.Call (.Name (Str.ofString "enumerate") q1) [x] [] p1) y [] p)
 | whl {t body x y p}:Enc sc t x→Fa2 (EncS sc) body y→EncS sc (.whl t body) (.While x y [] p)
 | ret {x e p}:Enc sc x e→EncS sc (.ret x) (.Return (some e) p)
 | bad {st}:EncS sc .bad st
noncomputable abbrev EncSs (sc:Scope):List S→List Stmt→Prop:=Fa2 (EncS sc)
theorem EncSs.nil {sc}:EncSs sc [] []:=Fa2.nil
theorem EncSs.cons {sc x e xs es} (h:EncS sc x e) (r:EncSs sc xs es):EncSs sc (x::xs) (e::es):=Fa2.cons h r
end
noncomputable def Room (A:Around) (n:Nat):Prop:=A.handled=none∧A.depth+n < recursionLimit∧A.units+40 * n+200 < cLine
theorem Room.le {A:Around} {n m:Nat} (x:Room A n) (h:m≤n):Room A m:=⟨x.1,Nat.lt_of_le_of_lt (Nat.add_le_add_left h _) x.2.1,Nat.lt_of_le_of_lt (Nat.add_le_add_right (Nat.add_le_add_left (Nat.mul_le_mul_left 40 h) _) _) x.2.2⟩
theorem Room.line {A:Around} {n:Nat} (x:Room A n):A.units+200 < cLine:=Nat.lt_of_le_of_lt (Nat.add_le_add_right (Nat.le_add_right _ _) _) x.2.2
section
variable (prog:Program) (w:World) (K:Frag) (mg mb:Str→Option Value) (b:Heap)
structure FR (h:Heap) (ad:Adr) (F:Addr→Prop) (sc:Scope) (renv:Env) (env:Env'):Prop where
 kind:renv.scope.kind=.function
 glb:renv.globals=mainGlobals
 bi:renv.builtins=builtinsNs
 same:∀ x k,sc.names.lookup x=some k→k ≠ .free→renv.kindOf x=some k
 vars:∃ m,h.Ns renv.locals m∧∀ i v,env.lookup i=some v→(renv.kindOf (nm i)=some .local∧∃ rv,m (nm i)=some rv∧VR prog w h ad F rv v) ∨
  (renv.kindOf (nm i)=some .cell∧∃ c rv,renv.cells.lookup (nm i)=some c∧h.IsCell c (some rv)∧VR prog w h ad F rv v)
 cel:∀ x,renv.kindOf x=some .cell→∃ c v,renv.cells.lookup x=some c∧h.IsCell c v
 ownL:F renv.locals
 above:b.objs.size≤renv.locals
 ownC:∀ x c,renv.cells.lookup x=some c→F c∧c ≠ renv.locals
 apart:∀ x y c,renv.cells.lookup x=some c→renv.cells.lookup y=some c→x=y
noncomputable def biltins:List (Str × Value):=[(Str.ofString "len", .builtin "len"),(Str.ofString "tuple", .type "tuple"),(Str.ofString "list", .type "list"),(Str.ofString "dict", .type "dict"),(Str.ofString "str", .type "str"),
 (Str.ofString "sorted", .builtin "sorted"),(Str.ofString "set", .type "set"),(Str.ofString "zip", .type "zip"),(Str.ofString "range", .type "range"),(Str.ofString "enumerate", .type "enumerate")]
theorem bil_len:(Str.ofString "len", Value.builtin "len") ∈ biltins:=.head _
theorem bil_tuple:(Str.ofString "tuple", Value.type "tuple") ∈ biltins:=.tail _ (.head _)
theorem bil_list:(Str.ofString "list", Value.type "list") ∈ biltins:=.tail _ (.tail _ (.head _))
theorem bil_dict:(Str.ofString "dict", Value.type "dict") ∈ biltins:=.tail _ (.tail _ (.tail _ (.head _)))
theorem bil_str:(Str.ofString "str", Value.type "str") ∈ biltins:=.tail _ (.tail _ (.tail _ (.tail _ (.head _))))
theorem bil_sorted:(Str.ofString "sorted", Value.builtin "sorted") ∈ biltins:=.tail _ (.tail _ (.tail _ (.tail _ (.tail _ (.head _)))))
theorem bil_set:(Str.ofString "set", Value.type "set") ∈ biltins:=.tail _ (.tail _ (.tail _ (.tail _ (.tail _ (.tail _ (.head _))))))
theorem bil_zip:(Str.ofString "zip", Value.type "zip") ∈ biltins:=.tail _ (.tail _ (.tail _ (.tail _ (.tail _ (.tail _ (.tail _ (.head _)))))))
theorem bil_range:(Str.ofString "range", Value.type "range") ∈ biltins:=.tail _ (.tail _ (.tail _ (.tail _ (.tail _ (.tail _ (.tail _ (.tail _ (.head _))))))))
theorem bil_enumerate:(Str.ofString "enumerate", Value.type "enumerate") ∈ biltins:=.tail _ (.tail _ (.tail _ (.tail _ (.tail _ (.tail _ (.tail _ (.tail _ (.tail _ (.head _)))))))))
structure Gd:Prop where
 X:K.In b
 g:b.Ns mainGlobals mg
 bn:b.Ns builtinsNs mb
 nolimit:b.NoLimit
 builtins:∀ x:Str,x ≠ "__name__" → mb x=bootBuiltins x
 inj:∀ i j,nm i=nm j→i=j
 bil:∀ p ∈ biltins,mg p.1=none∧bootBuiltins p.1=some p.2∧p.1 ≠ ("__name__" : Str)
 atGet:∀ c ∈ clsA,∀ x,plainGet K c x=true
 atHas:∀ c ∈ clsA,hasDictIn K c=true
 atOver:∀ c ∈ clsA,plainOver K c=true
 atSet:∀ c ∈ clsA,findIn K (.ref c) "__setattr__" = some (some (.builtin "object.__setattr__"))
 atNo:∀ c ∈ clsA,∀ x ∈ fldNs,findIn K (.ref c) x=some none
 glo:∀ p ∈ gt,∃ v,mg p.1=some v∧DR prog w b (fun a=>b.get? a=none) v p.2
inductive EP (F:Addr→Prop) (L:Addr) (s:Shared) (ad:Adr) (σ':Sto) (v:V) (rv:Value) (s':Shared):Prop
 | mk (ad':Adr):Mv L s ad s' ad'→SR prog w b F s'.heap ad' σ'→VR prog w s'.heap ad' F rv v→EP F L s ad σ' v rv s'
inductive DP (F:Addr→Prop) (L:Addr) (s:Shared) (ad:Adr) (σ':Sto) (d:D) (rv:Value) (s':Shared):Prop
 | mk (ad':Adr):Mv L s ad s' ad'→SR prog w b F s'.heap ad' σ'→DR prog w s'.heap (Mt ad' F) rv d→DP F L s ad σ' d rv s'
inductive BP (F:Addr→Prop) (L:Addr) (s:Shared) (ad:Adr) (σ':Sto) (t:Bool) (rv:Bool) (s':Shared):Prop
 | mk (e:rv=t) (ad':Adr):Mv L s ad s' ad'→SR prog w b F s'.heap ad' σ'→BP F L s ad σ' t rv s'
inductive LP (F:Addr→Prop) (L:Addr) (s:Shared) (ad:Adr) (σ':Sto) (ds:List D) (rv:List Value) (s':Shared):Prop
 | mk (ad':Adr):Mv L s ad s' ad'→SR prog w b F s'.heap ad' σ'→DRs prog w s'.heap (Mt ad' F) rv ds→LP F L s ad σ' ds rv s'
noncomputable def Ev (l:Lv) (n:Nat):Prop:=∀ sc x e,Enc sc x e→∀ env σ v σ',l.e env σ x=some (v,σ') →
 ∀ (A:Around) (s:Shared) (ad:Adr) (F:Addr→Prop) (renv:Env) (E:Value→Shared→Prop),Room A n→FR prog w b s.heap ad F sc renv env→SR prog w b F s.heap ad σ →
 wpAny (model prog w) A (eval e renv) (EP prog w b F renv.locals s ad σ' v) E s
end
section
variable {prog:Program} {w:World} {K:Frag} {mg mb:Str→Option Value} {b:Heap}
variable {h h':Heap} {F:Addr→Prop} {ad ad':Adr} {σ σ':Sto} {s s':Shared} {A:Around} {E:Value→Shared→Prop} {sc:Scope} {renv:Env} {env:Env'} {L:Addr}
theorem FR.glob (hF:FR prog w b h ad F sc renv env):∀ x,globB sc x=true→renv.kindOf x=some .globalImplicit:=fun x q=>by
 unfold globB at q
 rw [Bool.and_eq_true,beq_iff_eq] at q
 exact hF.same x _ q.1 (by decide)
theorem FR.store (hF:FR prog w b h ad F sc renv env):∀ x,storeB sc x=true→renv.kindOf x=some .local ∨ renv.kindOf x=some .cell:=fun x q=>by
 unfold storeB at q
 rw [Bool.or_eq_true,beq_iff_eq,beq_iff_eq] at q
 exact q.imp (fun q=>hF.same x _ q (by decide)) (fun q=>hF.same x _ q (by decide))
theorem FR.loc (hF:FR prog w b h ad F sc renv env):∀ x,localB sc x=true→renv.kindOf x=some .local:=fun x q=>by
 unfold localB at q
 rw [beq_iff_eq] at q
 exact hF.same x _ q (by decide)
theorem FR.mv (x:FR prog w b s.heap ad F sc renv env) (hS:SR prog w b F s.heap ad σ) (hm:Mv renv.locals s ad s' ad'):FR prog w b s'.heap ad' F sc renv env:=by
 have kC:∀ {n c v},renv.cells.lookup n=some c→s.heap.IsCell c v→s'.heap.IsCell c v:=fun {n c v} q ⟨o,ho,hd⟩=>⟨o,hm.old _ _ (fun z=>(hS.off _ z).1 (x.ownC _ _ q).1) (x.ownC _ _ q).2 ho,hd⟩
 refine ⟨x.kind,x.glb,x.bi,x.same,?_,fun n hn=>?_,x.ownL,x.above,x.ownC,x.apart⟩
 ·obtain ⟨m,hn,hv⟩:=x.vars
  refine ⟨m,hm.ns _ hn,fun i v e=>?_⟩
  rcases hv i v e with ⟨k,rv,e1,r⟩ | ⟨k,c,rv,e1,e2,r⟩
  ·exact .inl ⟨k,rv,e1,r.mv x.ownL hm⟩
  ·exact .inr ⟨k,c,rv,e1,kC e1 e2,r.mv x.ownL hm⟩
 ·obtain ⟨c,v,e1,e2⟩:=x.cel n hn
  exact ⟨c,v,e1,kC e1 e2⟩
theorem FR.mvB (x:FR prog w b s.heap ad F sc renv env) (hoff:∀ x d,renv.cells.lookup x=some d→¬ inAd ad d) (hm:Mv renv.locals s ad s' ad'):FR prog w b s'.heap ad' F sc renv env:=by
 have kC:∀ {n c v},renv.cells.lookup n=some c→s.heap.IsCell c v→s'.heap.IsCell c v:=fun {n c v} q ⟨o,ho,hd⟩=>⟨o,hm.old _ _ (hoff _ _ q) (x.ownC _ _ q).2 ho,hd⟩
 refine ⟨x.kind,x.glb,x.bi,x.same,?_,fun n hn=>?_,x.ownL,x.above,x.ownC,x.apart⟩
 ·obtain ⟨m,hn,hv⟩:=x.vars
  refine ⟨m,hm.ns _ hn,fun i v e=>?_⟩
  rcases hv i v e with ⟨k,rv,e1,r⟩ | ⟨k,c,rv,e1,e2,r⟩
  ·exact .inl ⟨k,rv,e1,r.mv x.ownL hm⟩
  ·exact .inr ⟨k,c,rv,e1,kC e1 e2,r.mv x.ownL hm⟩
 ·obtain ⟨c,v,e1,e2⟩:=x.cel n hn
  exact ⟨c,v,e1,kC e1 e2⟩
theorem EP.of_data {d:D} {rv:Value} (x:DP prog w b F L s ad σ' d rv s'):EP prog w b F L s ad σ' (.d d) rv s':=by
 obtain ⟨ad',m,S,r⟩:=x
 exact ⟨ad',m,S,.d r⟩
theorem EP.data {v:V} {d:D} {rv:Value} (x:EP prog w b F L s ad σ' v rv s') (e:v.data?=some d):DP prog w b F L s ad σ' d rv s':=by
 obtain ⟨ad',m,S,r⟩:=x
 cases v with
 | d d'=>obtain rfl:=so1 e; exact ⟨ad',m,S,r.dI⟩
 | loc=>exact nos e
theorem Ev.d {l:Lv} {n:Nat} (ih:Ev prog w b l n) {x:X} {e:PySem.Expr} (hx:Enc sc x e) {d:D} (he:evD l env σ x=some (d,σ')) (hA:Room A n)
  (hF:FR prog w b s.heap ad F sc renv env) (hS:SR prog w b F s.heap ad σ):wpAny (model prog w) A (eval e renv) (DP prog w b F renv.locals s ad σ' d) E s:=by
 unfold evD at he
 obtain ⟨v,σ1,h1,h2⟩:=bp he
 obtain ⟨d',h3,h4⟩:=md h2
 cases h4
 exact wpAny_mono (ih _ _ _ hx _ _ _ _ h1 _ _ _ _ _ _ hA hF hS) (fun rv s' q=>q.data h3) fun _ _ z=>z
theorem evD_e {l:Lv} {x:X} {d:D} (h:evD l env σ x=some (d,σ')):l.e env σ x=some (.d d,σ'):=by
 obtain ⟨v,σ1,h1,h⟩:=bp h
 obtain ⟨dd,h2,h⟩:=md h
 cases v with
 | d d'=>exact h1.trans (by rw [(so1 h2:d'=dd),(pj h).1]; exact congrArg (fun z=>some (V.d d,z)) (pj h).2)
 | loc=>exact nos h2
noncomputable def isStar:PySem.Expr→Bool:=fun | .Starred ..=>true | _=>false
structure OkF (e:PySem.Expr):Prop where
 set:∀ env x',foldedSetIterable e env x'=pure x'
 marks:∀ op,behindInMarks op e=false
 star:∀ rest env,starEach (e::rest) env=(false,eval e env)::starEach rest env
 sub:∀ o i,subscripted e false o i=operate [o,i] (getItem o i)
 nostar:isStar e=false
 swI:∀ a c p ln renv,swapsWith e (some (.Subscript a c p)) ln renv=pure false
 swA:∀ a c p ln renv,swapsWith e (some (.Attribute a c p)) ln renv=pure false
theorem enc_okF {x:X} {e:PySem.Expr} (hx:Enc sc x e):OkF e:=by
 induction hx using Enc.casesOn <;> exact ⟨fun _ _=>rfl,fun _=>rfl,fun _ _=>rfl,fun _ _=>rfl,rfl,fun _ _ _ _ _=>rfl,fun _ _ _ _ _=>rfl⟩
theorem enc_notSet {x:X} {e:PySem.Expr} (hx:Enc sc x e):∀ env x',foldedSetIterable e env x'=pure x':=(enc_okF hx).set
theorem enc_marks {x:X} {e:PySem.Expr} (hx:Enc sc x e) (op:CmpOp):behindInMarks op e=false:=(enc_okF hx).marks op
theorem enc_star {x:X} {e:PySem.Expr} (hx:Enc sc x e) (rest:List PySem.Expr) (env:Env):starEach (e::rest) env=(false,eval e env)::starEach rest env:=(enc_okF hx).star rest env
theorem enc_sub {x:X} {e:PySem.Expr} (hx:Enc sc x e) (o i:Value):subscripted e false o i=operate [o,i] (getItem o i):=(enc_okF hx).sub o i
theorem EP.val {d:D} {rv:Value} {t:Nat} (hS:SR prog w b F s.heap ad σ) (r:DR prog w s.heap (Mt ad F) rv d):EP prog w b F L s ad σ (.d d) rv { s with toks:=t } :=
 ⟨ad,Mv.tok t,hS,.d r⟩
theorem EP.here {v:V} {rv:Value} (hS:SR prog w b F s.heap ad σ) (r:VR prog w s.heap ad F rv v):EP prog w b F L s ad σ v rv s:=⟨ad,Mv.refl,hS,r⟩
theorem EP.after {v:V} {rv:Value} {s1 s2:Shared} {ad1:Adr} {σ2:Sto} (m:Mv L s ad s1 ad1) (x:EP prog w b F L s1 ad1 σ2 v rv s2):EP prog w b F L s ad σ2 v rv s2:=by
 obtain ⟨ad',m',S,r⟩:=x
 exact ⟨ad',m.trans m',S,r⟩
theorem DP.after {v:D} {rv:Value} {s1 s2:Shared} {ad1:Adr} {σ2:Sto} (m:Mv L s ad s1 ad1) (x:DP prog w b F L s1 ad1 σ2 v rv s2):DP prog w b F L s ad σ2 v rv s2:=by
 obtain ⟨ad',m',S,r⟩:=x
 exact ⟨ad',m.trans m',S,r⟩
theorem ev_var {i:Nat} {x:Str} {p:Pos} {v:V} (hi:nm i=x) (hd:(x == ("__debug__" : Str))=false) (he:env.lookup i=some v) (hF:FR prog w b s.heap ad F sc renv env) (hS:SR prog w b F s.heap ad σ) :
  wpAny (model prog w) A (eval (.Name x p) renv) (EP prog w b F renv.locals s ad σ v) E s:=by
 subst hi
 obtain ⟨m,hn,hv⟩:=hF.vars
 rcases hv i v he with ⟨k,rv,e1,r⟩ | ⟨k,c,rv,e1,e2,r⟩
 ·exact wpAny_Name (wpAny_loadName_local hF.kind k hn e1 (EP.here hS r)) hd
 ·exact wpAny_Name (wpAny_loadName_cell hF.kind k e1 e2 (EP.here hS r)) hd
theorem Room.down {A:Around} {n:Nat} (x:Room A (n+1)):Room A n:=x.le (Nat.le_succ n)
theorem ev_glo {x:Str} {d:D} {p:Pos} (G:Gd prog w K mg mb b) (hg:globB sc x=true) (hm:(x,d) ∈ gt) (hF:FR prog w b s.heap ad F sc renv env) (hS:SR prog w b F s.heap ad σ) :
  wpAny (model prog w) A (eval (.Name x p) renv) (EP prog w b F renv.locals s ad σ (.d d)) E s:=by
 obtain ⟨v,hv,r⟩:=G.glo _ hm
 have hk:=hF.glob x hg
 refine Calls.Name_function_global hF.kind hk (Calls.loadGlobal_global (mg:=mg) (hF.glb ▸ G.g.keeps hS.keep) hv (EP.here hS (.d ?_))) (by
  have:=hg; unfold globB at this; simp only [Bool.and_eq_true,Bool.not_eq_true'] at this; exact this.2)
 refine r.mono fun a o m e=>⟨hS.keep a o e,fun q=>?_⟩
 rcases q with q | q
 ·rw [(hS.off a q).2] at e; cases e
 ·rw [hS.offF a q] at e; cases e
theorem bi_name {x:Str} {v:Value} {p:Pos} {Q:Value→Shared→Prop} (G:Gd prog w K mg mb b) (hg:globB sc x=true) (hm:(x,v) ∈ biltins) (hF:FR prog w b s.heap ad F sc renv env) (hS:SR prog w b F s.heap ad σ)
  (h:Q v s):wpAny (model prog w) A (eval (.Name x p) renv) Q E s:=by
 obtain ⟨h1,h2,h3⟩:=G.bil _ hm
 refine Calls.Name_function_global hF.kind (hF.glob x hg) (Calls.loadGlobal_builtin (mg:=mg) (mb:=mb) (hF.glb ▸ G.g.keeps hS.keep) h1 (hF.bi ▸ G.bn.keeps hS.keep) ((G.builtins x h3).trans h2) h) (by
  have:=hg; unfold globB at this; simp only [Bool.and_eq_true,Bool.not_eq_true'] at this; exact this.2)
theorem truth_some {v:V} {t:Bool} (h:truth v σ=some t):v=.d (.bool t):=by
 rcases v with d | l
 ·induction d using D.casesOn with
  | bool b=>rw [so1 h]
  | _=>exact nos h
 ·exact nos h
theorem EP.truth {v:V} {t:Bool} {rv:Value} {Q:Bool→Shared→Prop} (x:EP prog w b F L s ad σ' v rv s') (ht:truth v σ'=some t)
  (h:rv=.bool t→v=.d (.bool t)→EP prog w b F L s ad σ' v rv s'→Q t s'):wpAny (model prog w) A (truthy rv) Q E s':=by
 obtain rfl:=truth_some ht
 obtain ⟨ad',m,S,r⟩:=id x
 obtain rfl:=r.dI.boolI
 exact wpAny_truthy_bool (h rfl rfl x)
theorem ev_andE {l:Lv} {n:Nat} (ih:Ev prog w b l n) {a c:X} {x y:PySem.Expr} {p:Pos} {v:V} (hx:Enc sc a x) (hy:Enc sc c y)
  (he:evE l env σ (.andE a c)=some (v,σ')) (hA:Room A n) (hF:FR prog w b s.heap ad F sc renv env) (hS:SR prog w b F s.heap ad σ) :
  wpAny (model prog w) A (eval (.BoolOp .And [x,y] p) renv) (EP prog w b F renv.locals s ad σ' v) E s:=by
 obtain ⟨v1,σ1,h1,h2⟩:=bp he
 obtain ⟨t,h3,h4⟩:=bd h2
 refine BoolOp_and (wpAny_mono (ih _ _ _ hx _ _ _ _ h1 _ _ _ _ _ _ hA hF hS) (fun rv s1 q=>?_) fun _ _ z=>z)
 refine q.truth h3 fun _ _ q=>?_
 cases t with
 | false=>obtain ⟨rfl,rfl⟩:=so2 h4; exact q
 | true =>
  obtain ⟨ad1,m,S,r⟩:=q
  exact BoolOp_one (wpAny_mono (ih _ _ _ hy _ _ _ _ h4 _ _ _ _ _ _ hA (hF.mv hS m) S) (fun _ _ z=>z.after m) fun _ _ z=>z)
theorem ev_orE {l:Lv} {n:Nat} (ih:Ev prog w b l n) {a c:X} {x y:PySem.Expr} {p:Pos} {v:V} (hx:Enc sc a x) (hy:Enc sc c y)
  (he:evE l env σ (.orE a c)=some (v,σ')) (hA:Room A n) (hF:FR prog w b s.heap ad F sc renv env) (hS:SR prog w b F s.heap ad σ) :
  wpAny (model prog w) A (eval (.BoolOp .Or [x,y] p) renv) (EP prog w b F renv.locals s ad σ' v) E s:=by
 obtain ⟨v1,σ1,h1,h2⟩:=bp he
 obtain ⟨t,h3,h4⟩:=bd h2
 refine BoolOp_or (wpAny_mono (ih _ _ _ hx _ _ _ _ h1 _ _ _ _ _ _ hA hF hS) (fun rv s1 q=>?_) fun _ _ z=>z)
 refine q.truth h3 fun _ _ q=>?_
 cases t with
 | true=>obtain ⟨rfl,rfl⟩:=so2 h4; exact q
 | false =>
  obtain ⟨ad1,m,S,r⟩:=q
  exact BoolOp_one (wpAny_mono (ih _ _ _ hy _ _ _ _ h4 _ _ _ _ _ _ hA (hF.mv hS m) S) (fun _ _ z=>z.after m) fun _ _ z=>z)
theorem ev_notE {l:Lv} {n:Nat} (ih:Ev prog w b l n) {a:X} {x:PySem.Expr} {p:Pos} {v:V} (hx:Enc sc a x)
  (he:evE l env σ (.notE a)=some (v,σ')) (hA:Room A n) (hF:FR prog w b s.heap ad F sc renv env) (hS:SR prog w b F s.heap ad σ) :
  wpAny (model prog w) A (eval (.UnaryOp .Not x p) renv) (EP prog w b F renv.locals s ad σ' v) E s:=by
 obtain ⟨v1,σ1,h1,h2⟩:=bp he
 obtain ⟨t,h3,h4⟩:=md h2
 cases h4
 refine UnaryOp_ (wpAny_mono (ih _ _ _ hx _ _ _ _ h1 _ _ _ _ _ _ hA hF hS) (fun rv s1 q=>?_) fun _ _ z=>z)
 refine not_of (q.truth h3 fun _ _ q=>?_)
 obtain ⟨ad1,m,S,r⟩:=q
 exact ⟨ad1,m,S,.d (.bool _)⟩
noncomputable def Tst (prog:Program) (w:World) (b:Heap) (l:Lv) (n:Nat):Prop:=∀ sc x e,Enc sc x e→∀ env σ t σ',test l env σ x=some (t,σ') →
 ∀ (A:Around) (s:Shared) (ad:Adr) (F:Addr→Prop) (renv:Env) (E:Value→Shared→Prop),Room A n→FR prog w b s.heap ad F sc renv env→SR prog w b F s.heap ad σ →
 wpAny (model prog w) A (isTrue e renv (eval e renv)) (BP prog w b F renv.locals s ad σ' t) E s
theorem ev_ife {l:Lv} {n:Nat} (ih:Ev prog w b l n) (it:Tst prog w b l n) {t a c:X} {x y z:PySem.Expr} {p:Pos} {v:V} (hx:Enc sc t x) (hy:Enc sc a y) (hz:Enc sc c z)
  (he:evE l env σ (.ife t a c)=some (v,σ')) (hA:Room A n) (hF:FR prog w b s.heap ad F sc renv env) (hS:SR prog w b F s.heap ad σ) :
  wpAny (model prog w) A (eval (.IfExp x y z p) renv) (EP prog w b F renv.locals s ad σ' v) E s:=by
 obtain ⟨t1,σ1,h1,h2⟩:=bp he
 refine IfExp_ (wpAny_mono (it _ _ _ hx _ _ _ _ h1 _ _ _ _ _ _ hA hF hS) (fun rv s1 q=>?_) fun _ _ z=>z)
 obtain ⟨rfl,ad1,m,S⟩:=q
 cases rv with
 | true =>
  exact wpAny_mono (ih _ _ _ hy _ _ _ _ h2 _ _ _ _ _ _ hA (hF.mv hS m) S) (fun _ _ z=>z.after m) fun _ _ z=>z
 | false =>
  exact wpAny_mono (ih _ _ _ hz _ _ _ _ h2 _ _ _ _ _ _ hA (hF.mv hS m) S) (fun _ _ z=>z.after m) fun _ _ z=>z
theorem ev_two {l:Lv} {n:Nat} (ih:Ev prog w b l n) {a c:X} {x y:PySem.Expr} {r q:D × Sto} {Q:Value→Value→Shared→Prop} (hx:Enc sc a x) (hy:Enc sc c y)
  (h1:evD l env σ a=some r) (h2:evD l env r.2 c=some q) (hA:Room A n) (hF:FR prog w b s.heap ad F sc renv env) (hS:SR prog w b F s.heap ad σ)
  (h:∀ u v s' ad',Mv renv.locals s ad s' ad'→SR prog w b F s'.heap ad' q.2→DR prog w s'.heap (Mt ad' F) u r.1→DR prog w s'.heap (Mt ad' F) v q.1→Q u v s') :
  wpAny (model prog w) A (eval x renv) (fun u s1=>wpAny (model prog w) A (eval y renv) (fun v s2=>Q u v s2) E s1) E s:=by
 refine wpAny_mono (ih.d hx h1 hA hF hS) (fun u s1 z=>?_) fun _ _ z=>z
 obtain ⟨ad1,m1,S1,r1⟩:=z
 refine wpAny_mono (ih.d hy h2 hA (hF.mv hS m1) S1) (fun v s2 z=>?_) fun _ _ z=>z
 obtain ⟨ad2,m2,S2,r2⟩:=z
 exact h u v s2 ad2 (m1.trans m2) S2 (r1.mv hF.ownL m2) r2
end
section
variable {prog:Program} {w:World} {K:Frag} {mg mb:Str→Option Value} {b:Heap}
variable {h h':Heap} {F:Addr→Prop} {ad ad':Adr} {σ σ':Sto} {s s':Shared} {A:Around} {E:Value→Shared→Prop} {sc:Scope} {renv:Env} {env:Env'} {L:Addr}
theorem FR.fr (hF:FR prog w b s.heap ad F sc renv env) (hS:SR prog w b F s.heap ad σ):∃ m,s.heap.Ns renv.locals m∧Fr b renv.locals s.heap m:=by
 obtain ⟨m,hn,_⟩:=hF.vars
 exact ⟨m,hn,hn,hS.keep,hF.above⟩
theorem br_back {m:Str→Option Value} {news:List (Addr × Obj)} {t:Nat} (hL:F L) (hS:SR prog w b F s.heap ad σ) (hn:s.heap.Ns L m) (F':Fr b L h' m) (N':News b L h' news) (hs:∀ p ∈ allN b s.heap L,p ∈ news) :
  Mv L s ad { s with heap:=h',toks:=t } ad∧SR prog w b F h' ad σ :=
 have hk:=allN_kept hS.keep F' N' hs
 ⟨Mv.ofKept hn F'.ns hk,hS.kept hL hk (ns_some F'.ns)⟩
theorem lim_some {α:Type} {c:Bool} {x y:α} (h:lim c x=some y):c=true∧y=x:=by
 cases c with
 | true=>obtain rfl:=so1 h; exact ⟨rfl,rfl⟩
 | false=>exact nos h
theorem small_le {α:Type} {l:List α} (h:small l=true):l.length≤1000:=of_decide_eq_true h
theorem le_line {n:Nat} (h:n≤1000):n≤sizeLine:=by rw [sizeLine_eq]; exact lw h
theorem isTup_of {a:Addr} {o:Obj} {vs:Array Value} {n:Nat} (e:h.get? a=some o) (c:o.cls=.type "tuple") (d:o.data=.seq vs n):IsTup h a vs:=⟨o,e,c,n,d⟩
theorem isList_of {a:Addr} {o:Obj} {vs:Array Value} {n:Nat} (e:h.get? a=some o) (c:o.cls=.type "list") (d:o.data=.seq vs n):h.IsList a vs:=⟨o,e,c,n,d⟩
theorem abs_lt {i:Int} (h:i.natAbs < 1000000):i < 2 ^ 64:=Int.lt_of_lt_of_le (Int.lt_of_le_of_lt Int.le_natAbs (Int.ofNat_lt.mpr h)) (by decide)
theorem mulOk {i j:Int} (hi:i.natAbs < 1000000) (hj:j.natAbs < 1000000):IntMulOk i j:=IntMulOk.of_left (PySem.intBits_le_64 (Int.neg_lt_of_neg_lt (abs_lt (Int.natAbs_neg i ▸ hi))) (abs_lt hi))
theorem p_add_tup {u v:Value} {x y:List D} (hu:DR prog w s.heap (Mt ad F) u (.tup x)) (hv:DR prog w s.heap (Mt ad F) v (.tup y)) (hc:small (x++y)=true)
  (hF:FR prog w b s.heap ad F sc renv env) (hS:SR prog w b F s.heap ad σ):wpAny (model prog w) A (binaryOp .Add u v) (DP prog w b F renv.locals s ad σ (.tup (x++y))) E s:=by
 obtain ⟨m,hn,Fb⟩:=hF.fr hS
 obtain ⟨a1,o1,vs1,n1,rfl,e1,c1,d1,m1,r1⟩:=hu.tupI
 obtain ⟨a2,o2,vs2,n2,rfl,e2,c2,d2,m2,r2⟩:=hv.tupI
 have hc':=small_le hc
 have l1:=r1.length
 have l2:=r2.length
 rw [List.length_append] at hc'
 refine add_tuples (vs:=vs1.toList) (ws:=vs2.toList) Fb allN_news (isTup_of e1 c1 d1) (isTup_of e2 c2 d2) (fun z=>?_) (fun _ z=>?_) (fun _ _ h' F' N'=>?_) (le_line (by rw [l1,l2]; exact hc'))
 ·have:x=[]:=by rw [z] at l1; exact List.length_eq_zero_iff.mp l1.symm
  subst this
  exact ⟨ad,Mv.refl,hS,.tup e2 c2 d2 m2 r2⟩
 ·have:y=[]:=by rw [z] at l2; exact List.length_eq_zero_iff.mp l2.symm
  subst this
  exact ⟨ad,Mv.refl,hS,by rw [List.append_nil]; exact .tup e1 c1 d1 m1 r1⟩
 ·obtain ⟨M',S'⟩:=br_back (t:=s.toks) hF.ownL hS hn F' N' (fun p q=>.tail _ q)
  exact ⟨ad,M',S',.tup (N'.get (.head _)) rfl rfl (hS.fresh (Heap.get?_none_of_le (Nat.le_refl _))) ((r1.mv hF.ownL M').append (r2.mv hF.ownL M'))⟩
theorem p_add_lst {u v:Value} {x y:List D} (hu:DR prog w s.heap (Mt ad F) u (.lst x)) (hv:DR prog w s.heap (Mt ad F) v (.lst y)) (hc:small (x++y)=true)
  (hF:FR prog w b s.heap ad F sc renv env) (hS:SR prog w b F s.heap ad σ):wpAny (model prog w) A (binaryOp .Add u v) (DP prog w b F renv.locals s ad σ (.lst (x++y))) E s:=by
 obtain ⟨m,hn,Fb⟩:=hF.fr hS
 obtain ⟨a1,o1,vs1,n1,rfl,e1,c1,d1,m1,r1⟩:=hu.lstI
 obtain ⟨a2,o2,vs2,n2,rfl,e2,c2,d2,m2,r2⟩:=hv.lstI
 have hc':=small_le hc
 have l1:=r1.length
 have l2:=r2.length
 rw [List.length_append] at hc'
 rw [Array.length_toList] at l1 l2
 refine add_arrays Fb allN_news (isList_of e1 c1 d1) (isList_of e2 c2 d2) (fun h' F' N'=>?_) (le_line (by rw [l1,l2]; exact hc'))
 obtain ⟨M',S'⟩:=br_back (t:=s.toks) hF.ownL hS hn F' N' (fun p q=>.tail _ q)
 exact ⟨ad,M',S',.lst (N'.get (.head _)) ⟨rfl,rfl⟩ rfl (hS.fresh (Heap.get?_none_of_le (Nat.le_refl _))) ((r1.mv hF.ownL M').append (r2.mv hF.ownL M'))⟩
theorem int2_inv {x y:D} {p:Int × Int} (he:int2 x y=some p):x=.int p.1∧y=.int p.2:=by
 cases x <;> first | exact nos he | (cases y <;> first | exact nos he | (cases so1 he; exact ⟨rfl,rfl⟩))
theorem p_ints {u v:Value} {x y:D} {p:Int × Int} {C:Value→Value→Prop} (hu:DR prog w s.heap (Mt ad F) u x) (hv:DR prog w s.heap (Mt ad F) v y) (he:int2 x y=some p) (h:∀ t t',C (.int p.1 t) (.int p.2 t')):C u v:=by
 obtain ⟨e1,e2⟩:=int2_inv he
 rw [e1] at hu
 rw [e2] at hv
 obtain ⟨t1,e3⟩:=hu.intI
 obtain ⟨t2,e4⟩:=hv.intI
 rw [e3,e4]; exact h _ _
inductive AddI:D→D→D→Prop
 | int (i j):AddI (.int i) (.int j) (.int (i+j))
 | str (x y):small (x++y).cps.toList=true→AddI (.str x) (.str y) (.str (x++y))
 | tup (x y):small (x++y)=true→AddI (.tup x) (.tup y) (.tup (x++y))
 | lst (x y):small (x++y)=true→AddI (.lst x) (.lst y) (.lst (x++y))
theorem addI {x y d:D} (he:addD x y=some d):AddI x y d:=by
 cases x <;> first | exact nos he | (cases y <;> first | exact nos he | (first | (cases so1 he; exact .int _ _) | (obtain ⟨hc,e⟩:=lim_some he; rw [e]; first | exact .str _ _ hc | exact .tup _ _ hc | exact .lst _ _ hc)))
theorem str_room {x y:Str} (hc:small (x++y).cps.toList=true):x.length+y.length≤sizeLine:=by
 have h1:=small_le hc
 have h2:(x++y).cps.toList.length=x.length+y.length:=by
  show (x.cps++y.cps).toList.length=_
  rw [Array.length_toList,Array.size_append]; rfl
 rw [h2] at h1
 exact le_line h1
theorem p_bin {op:Operator} {u v:Value} {x y d:D} (hu:DR prog w s.heap (Mt ad F) u x) (hv:DR prog w s.heap (Mt ad F) v y) (he:binD op x y=some d)
  (hF:FR prog w b s.heap ad F sc renv env) (hS:SR prog w b F s.heap ad σ):wpAny (model prog w) A (binaryOp op u v) (DP prog w b F renv.locals s ad σ d) E s:=by
 cases op <;> first | exact nos he | skip
 ·cases addI he with
  | int i j=>obtain ⟨t,e⟩:=hu.intI; obtain ⟨t',e'⟩:=hv.intI; rw [e,e']; exact add_int ⟨ad,Mv.tok _,hS,.int _ _⟩
  | str x y hc=>obtain ⟨t,e⟩:=hu.strI; obtain ⟨t',e'⟩:=hv.strI; rw [e,e']; exact add_str (fun t tk=>⟨ad,Mv.tok _,hS,.str _ _⟩) (str_room hc)
  | tup x y hc=>exact p_add_tup hu hv hc hF hS
  | lst x y hc=>exact p_add_lst hu hv hc hF hS
 ·obtain ⟨p,hp,e⟩:=md he
  rw [← e]
  exact p_ints (C:=fun u v=>wpAny (model prog w) A (binaryOp .Sub u v) _ E s) hu hv hp fun _ _=>sub_int ⟨ad,Mv.tok _,hS,.int _ _⟩
 ·obtain ⟨p,hp,he⟩:=bd he
  obtain ⟨hc,e⟩:=lim_some he
  rw [e]
  rw [Bool.and_eq_true,decide_eq_true_eq,decide_eq_true_eq] at hc
  exact p_ints (C:=fun u v=>wpAny (model prog w) A (binaryOp .Mult u v) _ E s) hu hv hp fun _ _=>mul_int ⟨ad,Mv.tok _,hS,.int _ _⟩ (mulOk hc.1 hc.2)
 ·obtain ⟨p,hp,he⟩:=bd he
  obtain ⟨hc,e⟩:=lim_some he
  rw [e]
  exact p_ints (C:=fun u v=>wpAny (model prog w) A (binaryOp .Mod u v) _ E s) hu hv hp fun _ _=>mod_int (of_decide_eq_true hc) ⟨ad,Mv.tok _,hS,.int _ _⟩
theorem DR.reads {M:Addr→Prop} {v:Value} {d:D} (x:DR prog w h M v d):d.toP.canLay0=true→∃ as,Reads h v d.toP as :=
 DR.rec (motive_1:=fun v d _=>d.toP.canLay0=true→∃ as,Reads h v d.toP as) (motive_2:=fun v d _=>PyData.canLayAll0 (D.toPs d)=true→∃ as,ReadsAll h v (D.toPs d) as)
  (fun _=>⟨_,.none⟩) (fun b _=>⟨_,.bool b⟩) (fun i t _=>⟨_,.int i t⟩) (fun i t _=>⟨_,.str i t⟩)
  (fun e c d _ _ i q=>(i q).elim fun _ z=>⟨_,.tuple e c d z⟩) (fun e c d _ _ i q=>(i q).elim fun _ z=>⟨_,.list e c.1 d z⟩) (fun _ _ _ _ _ _ q=>fls q) (fun _ _ _ _ _ _ _ q=>fls q) (fun _ _ _ _ _ _ _ _ q=>fls q)
  (fun _=>⟨_,.nil⟩) (fun _ _ i j q=>(i (Bool.and_eq_true_iff.mp q).1).elim fun _ z=>(j (Bool.and_eq_true_iff.mp q).2).elim fun _ y=>⟨_,.cons z y⟩) x
theorem valueAt_look:∀ (kvs:List (Str × Value)) (x:Str),(valueAt kvs x).isSome=(kvs.map (·.1)).contains x:=by
 intro kvs x
 induction kvs with
 | nil=>rfl
 | cons p r ih =>
  unfold valueAt at ih ⊢
  rw [List.find?_cons,List.map_cons,List.contains_cons]
  by_cases hp:p.1=x
  ·simp [hp]
  ·rw [decide_eq_false hp]
   have hx:(x == p.1)=false:=beq_eq_false_iff_ne.mpr fun q=>hp q.symm
   rw [hx,Bool.false_or]
   exact ih
theorem isNone_of {M:Addr→Prop} {v:Value} {d:D} (x:DR prog w h M v d):(v == Value.none)=isN d:=by
 induction x using DR.casesOn <;> rfl
theorem p_eq {u v:Value} {x y:D} {t:Bool} (hu:DR prog w s.heap (Mt ad F) u x) (hv:DR prog w s.heap (Mt ad F) v y) (he:eqS x y=some t) (hA:A.units+64 < cLine) {Q:Value→Shared→Prop} (h:Q (.bool t) s) :
  wpAny (model prog w) A (compareOp .Eq u v) Q E s:=by
 unfold eqS at he
 split at he
 ·rename_i hc
  obtain rfl:=so1 he
  rw [Bool.and_eq_true] at hc
  obtain ⟨as,ra⟩:=hu.reads (SeqAt.canLay_of_shaped hc.1)
  obtain ⟨bs,rb⟩:=hv.reads (SeqAt.canLay_of_shaped hc.2)
  exact eq_dataH ra rb hc.1 hc.2 hA h
 ·exact nos he
theorem p_ne {u v:Value} {x y:D} {t:Bool} (hu:DR prog w s.heap (Mt ad F) u x) (hv:DR prog w s.heap (Mt ad F) v y) (he:eqS x y=some t) (hA:A.units+64 < cLine) {Q:Value→Shared→Prop} (h:Q (.bool (!t)) s) :
  wpAny (model prog w) A (compareOp .NotEq u v) Q E s:=by
 unfold eqS at he
 split at he
 ·rename_i hc
  obtain rfl:=so1 he
  rw [Bool.and_eq_true] at hc
  obtain ⟨as,ra⟩:=hu.reads (SeqAt.canLay_of_shaped hc.1)
  obtain ⟨bs,rb⟩:=hv.reads (SeqAt.canLay_of_shaped hc.2)
  exact ne_dataH ra rb hc.1 hc.2 hA h
 ·exact nos he
theorem anyEq_some {x:D} {ds:List D} {t:Bool} (he:anyEq x ds=some t):SeqAt.shaped x.toP=true∧SeqAt.shaped (D.lst ds).toP=true∧t=((D.toPs ds).any fun y=>PyData.eqv y x.toP):=by
 unfold anyEq at he
 split at he
 ·rename_i hc
  cases he
  rw [Bool.and_eq_true] at hc
  refine ⟨hc.1,hc.2,?_⟩
  clear hc
  induction ds with
  | nil=>rfl
  | cons d ds ih=>rw [toPs_cons,List.any_cons,List.any_cons,ih]
 ·cases he
theorem shaped_all {ds:List D} (h:SeqAt.shaped (D.lst ds).toP=true):PyData.canLayAll0 (D.toPs ds)=true∧PyData.depthAll (D.toPs ds)≤64:=by
 have h1:=SeqAt.canLay_of_shaped h
 have h2:=SeqAt.depth_of_shaped h
 rw [toP_lst] at h1 h2
 rw [PyData.canLay0] at h1
 rw [PyData.depth] at h2
 exact ⟨h1,lw0 h2⟩
theorem in_inv {x y:D} {t:Bool} (he:inD x y=some t):(∃ z ks ds,x=.str z∧y=.dct ks ds∧t=ks.contains z) ∨ (∃ ds,y=.lst ds∧anyEq x ds=some t) ∨ (∃ ds,y=.tup ds∧anyEq x ds=some t):=by
 cases y <;> first | exact nos he | exact .inr (.inl ⟨_,rfl,he⟩) | exact .inr (.inr ⟨_,rfl,he⟩) | (cases x <;> first | exact nos he | exact .inl ⟨_,_,_,rfl,rfl,(so1 he).symm⟩)
theorem isN_inv {x:D} (h:isN x=true):x=.none:=by
 cases x <;> first | rfl | exact fls h
theorem shaped_tup {ds:List D} (h2:SeqAt.shaped (D.lst ds).toP=true):SeqAt.shaped (D.tup ds).toP=true:=by
 have:(D.tup ds).toP.canLay0=(D.lst ds).toP.canLay0:=by rw [toP_tup,toP_lst,PyData.canLay0,PyData.canLay0]
 have z:(D.tup ds).toP.depth=(D.lst ds).toP.depth:=by rw [toP_tup,toP_lst,PyData.depth,PyData.depth]
 unfold SeqAt.shaped at h2 ⊢
 rw [this,z]; exact h2
section
variable {u v:Value} {x y:D} {t:Bool}
theorem in_lst {ds:List D} {Q:Value→Shared→Prop} (hu:DR prog w s.heap (Mt ad F) u x) (hv:DR prog w s.heap (Mt ad F) v (.lst ds)) (hc:anyEq x ds=some t) (hA:A.units+200 < cLine):(Q (.bool t) s→wpAny (model prog w) A (compareOp .In u v) Q E s)∧(Q (.bool (!t)) s→wpAny (model prog w) A (compareOp .NotIn u v) Q E s):=by
 obtain ⟨h1,h2,e⟩:=anyEq_some hc
 obtain ⟨as,ra⟩:=hu.reads (SeqAt.canLay_of_shaped h1)
 obtain ⟨bs,rb⟩:=hv.reads (SeqAt.canLay_of_shaped h2)
 rw [toP_lst] at rb
 obtain ⟨h3,h4⟩:=shaped_all h2
 have hm:=Nat.min_le_left (PyData.depthAll (D.toPs ds)) x.toP.depth
 have hb:A.units+min (PyData.depthAll (D.toPs ds)) x.toP.depth < cLine:=Nat.lt_of_le_of_lt (Nat.add_le_add_left (lw (Nat.le_trans hm h4)) _) hA
 rw [e]
 exact ⟨fun q=>SeqAt.in_list_reads rb ra h3 (SeqAt.canLay_of_shaped h1) (rm1 hA (Nat.le_trans hm h4)) q,fun q=>SeqAt.notIn_list_reads rb ra h3 (SeqAt.canLay_of_shaped h1) (rm1 hA (Nat.le_trans hm h4)) q⟩
theorem in_tup {ds:List D} {Q:Value→Shared→Prop} (hu:DR prog w s.heap (Mt ad F) u x) (hv:DR prog w s.heap (Mt ad F) v (.tup ds)) (hc:anyEq x ds=some t) (hA:A.units+200 < cLine):(Q (.bool t) s→wpAny (model prog w) A (compareOp .In u v) Q E s)∧(Q (.bool (!t)) s→wpAny (model prog w) A (compareOp .NotIn u v) Q E s):=by
 obtain ⟨h1,h2,e⟩:=anyEq_some hc
 obtain ⟨as,ra⟩:=hu.reads (SeqAt.canLay_of_shaped h1)
 obtain ⟨bs,rb⟩:=hv.reads (SeqAt.canLay_of_shaped (shaped_tup h2))
 rw [toP_tup] at rb
 obtain ⟨h3,h4⟩:=shaped_all h2
 have hm:=Nat.min_le_left (PyData.depthAll (D.toPs ds)) x.toP.depth
 rw [e]
 exact ⟨fun q=>SeqAt.in_tuple_reads rb ra h3 (SeqAt.canLay_of_shaped h1) (rm1 hA (Nat.le_trans hm h4)) q,fun q=>SeqAt.notIn_tuple_reads rb ra h3 (SeqAt.canLay_of_shaped h1) (rm1 hA (Nat.le_trans hm h4)) q⟩
theorem in_dct {z:Str} {ks:List Str} {ds:List D} {Q:Value→Shared→Prop} (hu:DR prog w s.heap (Mt ad F) u (.str z)) (hv:DR prog w s.heap (Mt ad F) v (.dct ks ds)):((∀ k,Q (.bool (ks.contains z)) { s with toks:=k })→wpAny (model prog w) A (compareOp .In u v) Q E s)∧((∀ k,Q (.bool (!ks.contains z)) { s with toks:=k })→wpAny (model prog w) A (compareOp .NotIn u v) Q E s):=by
 obtain ⟨tk,e0⟩:=hu.strI
 obtain ⟨a,o,kvs,e1,e,d,m,lo,e2,r⟩:=hv.dctI
 have hD:s.heap.DictOf (PySem.strKind prog w) a kvs:=Heap.dictOf_iff.mpr ⟨o,e,d⟩
 rw [e0,e1,← e2,← valueAt_look]
 exact ⟨fun q=>wpAny_in_of (strKind_is prog w z tk) lo hD.mapOf (q _),fun q=>wpAny_notIn_of (strKind_is prog w z tk) lo hD.mapOf (q _)⟩
theorem p_in {Q:Value→Shared→Prop} (hu:DR prog w s.heap (Mt ad F) u x) (hv:DR prog w s.heap (Mt ad F) v y) (he:inD x y=some t) (hA:A.units+200 < cLine):((∀ k,Q (.bool t) { s with toks:=k })→wpAny (model prog w) A (compareOp .In u v) Q E s)∧((∀ k,Q (.bool (!t)) { s with toks:=k })→wpAny (model prog w) A (compareOp .NotIn u v) Q E s):=by
 rcases in_inv he with ⟨z,ks,ds,h1,h2,h3⟩ | ⟨ds,h1,h2⟩ | ⟨ds,h1,h2⟩
 ·rw [h1] at hu; rw [h2] at hv; rw [h3]
  exact in_dct hu hv
 ·rw [h1] at hv
  exact ⟨fun q=>(in_lst hu hv h2 hA).1 (q s.toks),fun q=>(in_lst hu hv h2 hA).2 (q s.toks)⟩
 ·rw [h1] at hv
  exact ⟨fun q=>(in_tup hu hv h2 hA).1 (q s.toks),fun q=>(in_tup hu hv h2 hA).2 (q s.toks)⟩
theorem p_eqD {Q:Value→Shared→Prop} (hu:DR prog w s.heap (Mt ad F) u x) (hv:DR prog w s.heap (Mt ad F) v y) (he:eqD x y=some t) (hA:A.units+200 < cLine):(Q (.bool t) s→wpAny (model prog w) A (compareOp .Eq u v) Q E s)∧(Q (.bool (!t)) s→wpAny (model prog w) A (compareOp .NotEq u v) Q E s):=by
 rcases eqD_c x y with ⟨d,ds,rfl,rfl,e⟩ | e <;> rw [e] at he <;> clear e
 ·rw [← so1 he]
  obtain ⟨a,o,vs,n,e0,e,c,d,m,r⟩:=hu.lstI
  obtain ⟨a',o',vs',n',e0',e',c',d',m',r'⟩:=hv.lstI
  have l1:=r.length
  have l2:=r'.length
  rw [Array.length_toList] at l1 l2
  have hne:(vs.size != vs'.size)=true:=by rw [l1,l2]; rfl
  rw [e0,e0']
  exact ⟨fun q=>SeqAt.eq_list_lengthsAt (isList_of e c d) (isList_of e' c' d') hne (adl hA) q,fun q=>SeqAt.RcNeAt.lists_lengths (isList_of e c d) (isList_of e' c' d') hne (adl hA) prog w E _ q⟩
 ·exact ⟨fun q=>p_eq hu hv he (Nat.lt_of_le_of_lt (Nat.add_le_add_left (by decide) _) hA) q,fun q=>p_ne hu hv he (Nat.lt_of_le_of_lt (Nat.add_le_add_left (by decide) _) hA) q⟩
theorem ifN {x:D} {c t:Bool} (he:(if isN x then some c else none)=some t):x=.none∧c=t:=by
 cases hx:isN x with
 | true=>rw [hx] at he; exact ⟨isN_inv hx,so1 he⟩
 | false=>rw [hx] at he; exact nos he
theorem p_cmp {op:CmpOp} (hu:DR prog w s.heap (Mt ad F) u x) (hv:DR prog w s.heap (Mt ad F) v y) (he:cmpD op x y=some t) (hA:A.units+200 < cLine)
  (hS:SR prog w b F s.heap ad σ):wpAny (model prog w) A (compareOp op u v) (DP prog w b F L s ad σ (.bool t)) E s:=by
 have two:∀ (t:Bool) (k:Nat),DP prog w b F L s ad σ (.bool t) (.bool t) { s with toks:=k }:=fun t k=>⟨ad,Mv.tok _,hS,.bool _⟩
 clear hS
 generalize DP prog w b F L s ad σ=Q at two ⊢
 cases op <;> first | exact nos he | skip
 ·exact (p_eqD hu hv he hA).1 (two _ s.toks)
 ·obtain ⟨c,hc,e⟩:=md he
  rw [← e]
  exact (p_eqD hu hv hc hA).2 (two _ s.toks)
 ·obtain ⟨p,hp,e⟩:=md he
  rw [← e]
  exact p_ints (C:=fun u v=>wpAny (model prog w) A (compareOp .Lt u v) _ E s) hu hv hp fun _ _=>lt_int (two _ s.toks)
 ·obtain ⟨p,hp,e⟩:=md he
  rw [← e]
  exact p_ints (C:=fun u v=>wpAny (model prog w) A (compareOp .Gt u v) _ E s) hu hv hp fun _ _=>gt_int (two _ s.toks)
 ·obtain ⟨p,hp,e⟩:=md he
  rw [← e]
  exact p_ints (C:=fun u v=>wpAny (model prog w) A (compareOp .GtE u v) _ E s) hu hv hp fun _ _=>ge_int (two _ s.toks)
 ·obtain ⟨e,e2⟩:=ifN he
  rw [e] at hv
  rw [hv.noneI,← e2]
  exact is_none (by rw [isNone_of hu]; exact two _ s.toks)
 ·obtain ⟨e,e2⟩:=ifN he
  rw [e] at hv
  rw [hv.noneI,← e2]
  exact isNot_none (by rw [isNone_of hu]; exact two _ s.toks)
 ·exact (p_in hu hv he hA).1 (two _)
 ·obtain ⟨c,hc,e⟩:=md he
  rw [← e]
  exact (p_in hu hv hc hA).2 (two _)
end
theorem ev_bin {l:Lv} {n:Nat} (ih:Ev prog w b l n) {op:Operator} {a c:X} {x y:PySem.Expr} {p:Pos} {v:V} (hx:Enc sc a x) (hy:Enc sc c y)
  (he:evE l env σ (.bin op a c)=some (v,σ')) (hA:Room A n) (hF:FR prog w b s.heap ad F sc renv env) (hS:SR prog w b F s.heap ad σ) :
  wpAny (model prog w) A (eval (.BinOp x op y p) renv) (EP prog w b F renv.locals s ad σ' v) E s:=by
 obtain ⟨r,h1,h2⟩:=bd he
 obtain ⟨q,h3,h4⟩:=bd h2
 obtain ⟨d,h5,h6⟩:=md h4
 obtain ⟨rfl,rfl⟩:=pj h6
 refine wpAny_BinOp (ev_two ih hx hy h1 h3 hA hF hS fun u v s' ad' m S r1 r2=>?_)
 exact wpAny_mono (p_bin r1 r2 h5 (hF.mv hS m) S) (fun _ _ z=>EP.of_data (z.after m)) fun _ _ z=>z
theorem ev_cmp {l:Lv} {n:Nat} (ih:Ev prog w b l n) {op:CmpOp} {a c:X} {x y:PySem.Expr} {p:Pos} {v:V} (hx:Enc sc a x) (hy:Enc sc c y)
  (he:evE l env σ (.cmp op a c)=some (v,σ')) (hA:Room A n) (hF:FR prog w b s.heap ad F sc renv env) (hS:SR prog w b F s.heap ad σ) :
  wpAny (model prog w) A (eval (.Compare x [op] [y] p) renv) (EP prog w b F renv.locals s ad σ' v) E s:=by
 obtain ⟨r,h1,h2⟩:=bd he
 obtain ⟨q,h3,h4⟩:=bd h2
 obtain ⟨d,h5,h6⟩:=md h4
 obtain ⟨rfl,rfl⟩:=pj h6
 refine wpAny_Compare1 (ev_two ih hx hy h1 h3 hA hF hS fun u v s' ad' m S r1 r2=>?_) (enc_marks hy _)
 exact wpAny_mono (p_cmp (L:=renv.locals) r1 r2 h5 (Nat.lt_of_le_of_lt (Nat.add_le_add_right (Nat.le_add_right ..) 200) hA.2.2) S) (fun _ _ z=>EP.of_data (z.after m)) fun _ _ z=>z
theorem truthy_of {rv:Value} {t:Bool} {Q:Bool→Shared→Prop} (r:DP prog w b F L s ad σ (.bool t) rv s') (h:(∃ ad',Mv L s ad s' ad'∧SR prog w b F s'.heap ad' σ)→rv=.bool t→Q t s'):wpAny (model prog w) A (truthy rv) Q E s':=by
 obtain ⟨ad',m,S,r⟩:=r
 obtain rfl:=r.boolI
 exact wpAny_truthy_bool (h ⟨ad',m,S⟩ rfl)
end
section
variable {prog:Program} {w:World} {K:Frag} {mg mb:Str→Option Value} {b:Heap}
variable {h h':Heap} {F:Addr→Prop} {ad ad':Adr} {σ σ':Sto} {s s':Shared} {A:Around} {E:Value→Shared→Prop} {sc:Scope} {renv:Env} {env:Env'} {L:Addr}
theorem enc_last {x:X} {e:PySem.Expr} (hx:Enc sc x e) (o1 o2:CmpOp) (y:PySem.Expr):lastMarks [o1,o2] [y,e]=false:=by
 show behindInMarks o2 e=false
 exact enc_marks hx o2
theorem ev_cmp2 {l:Lv} {n:Nat} (ih:Ev prog w b l n) {o1 o2:CmpOp} {a c e:X} {x y z:PySem.Expr} {p:Pos} {v:V} (hx:Enc sc a x) (hy:Enc sc c y) (hz:Enc sc e z)
  (he:evE l env σ (.cmp2 o1 o2 a c e)=some (v,σ')) (hA:Room A n) (hF:FR prog w b s.heap ad F sc renv env) (hS:SR prog w b F s.heap ad σ) :
  wpAny (model prog w) A (eval (.Compare x [o1,o2] [y,z] p) renv) (EP prog w b F renv.locals s ad σ' v) E s:=by
 obtain ⟨r,h1,h2⟩:=bd he
 obtain ⟨q,h3,h4⟩:=bd h2
 obtain ⟨t,h5,h6⟩:=bd h4
 refine Compare_chain (wpAny_mono (ih.d hx h1 hA hF hS) (fun u s1 g1=>?_) fun _ _ z=>z) (enc_last hz _ _ _)
 obtain ⟨ad1,m1,S1,r1⟩:=g1
 have F1:=hF.mv hS m1
 refine chain_link (wpAny_mono (ih.d hy h3 hA F1 S1) (fun v2 s2 g2=>?_) fun _ _ z=>z)
 obtain ⟨ad2,m2,S2,r2⟩:=g2
 have F2:=F1.mv S1 m2
 refine wpAny_mono (p_cmp (L:=renv.locals) (r1.mv hF.ownL m2) r2 h5 hA.line S2) (fun v3 s3 g3=>?_) fun _ _ z=>z
 refine truthy_of g3 fun ⟨ad3,m3,S3⟩ e3=>?_
 have F3:=F2.mv S2 m3
 cases t with
 | false=>obtain ⟨rfl,rfl⟩:=so2 h6; exact ⟨ad3,(m1.trans m2).trans m3,S3,e3 ▸ .d (.bool _)⟩
 | true =>
  obtain ⟨g,h7,h8⟩:=bd h6
  obtain ⟨d,h9,h10⟩:=md h8
  obtain ⟨rfl,rfl⟩:=pj h10
  refine chain_last (wpAny_mono (ih.d hz h7 hA F3 S3) (fun v4 s4 g4=>?_) fun _ _ z=>z)
  obtain ⟨ad4,m4,S4,r4⟩:=g4
  exact wpAny_mono (p_cmp (L:=renv.locals) ((r2.mv hF.ownL m3).mv hF.ownL m4) r4 h9 hA.line S4) (fun v5 s5 g5=>EP.of_data (g5.after (((m1.trans m2).trans m3).trans m4))) fun _ _ z=>z
theorem test_of {l:Lv} {x:X} {v:V} {t:Bool} {σ1:Sto} (h:l.e env σ x=some (v,σ1)) (ht:truth v σ1=some t):test l env σ x=some (t,σ1):=by
 unfold test
 rw [h]
 show (truth v σ1).map _=_
 rw [ht]
 rfl
theorem BP.after {t rv:Bool} {s1 s2:Shared} {ad1:Adr} {σ2:Sto} (m:Mv L s ad s1 ad1) (x:BP prog w b F L s1 ad1 σ2 t rv s2):BP prog w b F L s ad σ2 t rv s2:=by
 obtain ⟨e,ad',m',S⟩:=x
 exact ⟨e,ad',m.trans m',S⟩
theorem t_not {l:Lv} {n:Nat} (it:Tst prog w b l n) {a:X} {x:PySem.Expr} {p:Pos} {v:V} {t:Bool} (hx:Enc sc a x) (h1:evE l env σ (.notE a)=some (v,σ')) (h3:truth v σ'=some t) (hA:Room A n)
  (hF:FR prog w b s.heap ad F sc renv env) (hS:SR prog w b F s.heap ad σ):wpAny (model prog w) A (isTrue (.UnaryOp .Not x p) renv (eval (.UnaryOp .Not x p) renv)) (BP prog w b F renv.locals s ad σ' t) E s:=by
 obtain ⟨v1,σ1,g1,g2⟩:=bp h1
 obtain ⟨t1,g3,g4⟩:=md g2
 obtain ⟨rfl,rfl⟩:=pj g4
 refine isTrue_not (wpAny_mono (it _ _ _ hx _ _ _ _ (test_of g1 g3) _ _ _ _ _ _ hA hF hS) (fun c s1 q=>?_) fun _ _ z=>z)
 obtain ⟨rfl,r⟩:=q
 exact ⟨so1 h3,_,‹_›,‹_›⟩
theorem t_and {l:Lv} {n:Nat} (it:Tst prog w b l n) {a c:X} {x y:PySem.Expr} {p:Pos} {v:V} {t:Bool} (hx:Enc sc a x) (hy:Enc sc c y) (h1:evE l env σ (.andE a c)=some (v,σ')) (h3:truth v σ'=some t) (hA:Room A n)
  (hF:FR prog w b s.heap ad F sc renv env) (hS:SR prog w b F s.heap ad σ):wpAny (model prog w) A (isTrue (.BoolOp .And [x,y] p) renv (eval (.BoolOp .And [x,y] p) renv)) (BP prog w b F renv.locals s ad σ' t) E s:=by
 obtain ⟨v1,σ1,g1,g2⟩:=bp h1
 obtain ⟨t1,g3,g4⟩:=bd g2
 refine isTrue_and (wpAny_mono (it _ _ _ hx _ _ _ _ (test_of g1 g3) _ _ _ _ _ _ hA hF hS) (fun c s1 q=>?_) fun _ _ z=>z)
 obtain ⟨rfl,ad1,m,S⟩:=q
 cases c with
 | false =>
  obtain ⟨rfl,rfl⟩:=so2 g4
  exact ⟨so1 (g3.symm.trans h3),ad1,m,S⟩
 | true =>
  refine isTrue_and (wpAny_mono (it _ _ _ hy _ _ _ _ (test_of g4 h3) _ _ _ _ _ _ hA (hF.mv hS m) S) (fun c s2 q=>?_) fun _ _ z=>z)
  cases c with
  | false=>exact q.after m
  | true=>exact isTrue_and_nil (q.after m)
theorem t_or {l:Lv} {n:Nat} (it:Tst prog w b l n) {a c:X} {x y:PySem.Expr} {p:Pos} {v:V} {t:Bool} (hx:Enc sc a x) (hy:Enc sc c y) (h1:evE l env σ (.orE a c)=some (v,σ')) (h3:truth v σ'=some t) (hA:Room A n)
  (hF:FR prog w b s.heap ad F sc renv env) (hS:SR prog w b F s.heap ad σ):wpAny (model prog w) A (isTrue (.BoolOp .Or [x,y] p) renv (eval (.BoolOp .Or [x,y] p) renv)) (BP prog w b F renv.locals s ad σ' t) E s:=by
 obtain ⟨v1,σ1,g1,g2⟩:=bp h1
 obtain ⟨t1,g3,g4⟩:=bd g2
 refine isTrue_or (wpAny_mono (it _ _ _ hx _ _ _ _ (test_of g1 g3) _ _ _ _ _ _ hA hF hS) (fun c s1 q=>?_) fun _ _ z=>z)
 obtain ⟨rfl,ad1,m,S⟩:=q
 cases c with
 | true =>
  obtain ⟨rfl,rfl⟩:=so2 g4
  exact ⟨so1 (g3.symm.trans h3),ad1,m,S⟩
 | false =>
  refine isTrue_or (wpAny_mono (it _ _ _ hy _ _ _ _ (test_of g4 h3) _ _ _ _ _ _ hA (hF.mv hS m) S) (fun c s2 q=>?_) fun _ _ z=>z)
  cases c with
  | true=>exact q.after m
  | false=>exact isTrue_or_nil (q.after m)
theorem t_ife {l:Lv} {n:Nat} (it:Tst prog w b l n) {e a c:X} {x y z:PySem.Expr} {p:Pos} {v:V} {t:Bool} (hx:Enc sc e x) (hy:Enc sc a y) (hz:Enc sc c z) (h1:evE l env σ (.ife e a c)=some (v,σ')) (h3:truth v σ'=some t) (hA:Room A n)
  (hF:FR prog w b s.heap ad F sc renv env) (hS:SR prog w b F s.heap ad σ):wpAny (model prog w) A (isTrue (.IfExp x y z p) renv (eval (.IfExp x y z p) renv)) (BP prog w b F renv.locals s ad σ' t) E s:=by
 obtain ⟨t1,σ1,g1,g2⟩:=bp h1
 refine isTrue_IfExp (wpAny_mono (it _ _ _ hx _ _ t1 _ g1 _ _ _ _ _ _ hA hF hS) (fun c s1 q=>?_) fun _ _ z=>z)
 obtain ⟨rfl,ad1,m,S⟩:=q
 cases c with
 | true=>exact wpAny_mono (it _ _ _ hy _ _ _ _ (test_of g2 h3) _ _ _ _ _ _ hA (hF.mv hS m) S) (fun c s2 q=>q.after m) fun _ _ z=>z
 | false=>exact wpAny_mono (it _ _ _ hz _ _ _ _ (test_of g2 h3) _ _ _ _ _ _ hA (hF.mv hS m) S) (fun c s2 q=>q.after m) fun _ _ z=>z
theorem t_cmp {l:Lv} {n:Nat} (ih:Ev prog w b l n) {op:CmpOp} {a c:X} {x y:PySem.Expr} {p:Pos} {v:V} {t:Bool} (hx:Enc sc a x) (hy:Enc sc c y) (h1:evE l env σ (.cmp op a c)=some (v,σ')) (h3:truth v σ'=some t) (hA:Room A n)
  (hF:FR prog w b s.heap ad F sc renv env) (hS:SR prog w b F s.heap ad σ):wpAny (model prog w) A (isTrue (.Compare x [op] [y] p) renv (eval (.Compare x [op] [y] p) renv)) (BP prog w b F renv.locals s ad σ' t) E s:=by
 obtain ⟨r,g1,g2⟩:=bd h1
 obtain ⟨q,g3,g4⟩:=bd g2
 obtain ⟨d,g5,g6⟩:=md g4
 obtain ⟨rfl,rfl⟩:=pj g6
 obtain rfl:=so1 h3
 refine wpAny_isTrue_Compare1 (ev_two ih hx hy g1 g3 hA hF hS fun u v s' ad' m S r1 r2=>?_) (enc_marks hy _)
 refine wpAny_mono (p_cmp (L:=renv.locals) r1 r2 g5 hA.line S) (fun c s3 g3=>?_) fun _ _ z=>z
 exact truthy_of g3 fun ⟨ad3,m3,S3⟩ e3=>⟨rfl,ad3,m.trans m3,S3⟩
theorem t_cmp2 {l:Lv} {n:Nat} (ih:Ev prog w b l n) {o1 o2:CmpOp} {a c e:X} {x y z:PySem.Expr} {p:Pos} {v:V} {t:Bool} (hx:Enc sc a x) (hy:Enc sc c y) (hz:Enc sc e z) (h1:evE l env σ (.cmp2 o1 o2 a c e)=some (v,σ')) (h3:truth v σ'=some t) (hA:Room A n)
  (hF:FR prog w b s.heap ad F sc renv env) (hS:SR prog w b F s.heap ad σ):wpAny (model prog w) A (isTrue (.Compare x [o1,o2] [y,z] p) renv (eval (.Compare x [o1,o2] [y,z] p) renv)) (BP prog w b F renv.locals s ad σ' t) E s:=by
 obtain ⟨r,g1,g2⟩:=bd h1
 obtain ⟨q,g3,g4⟩:=bd g2
 obtain ⟨t1,g5,g6⟩:=bd g4
 refine isTrue_chain (wpAny_mono (ih.d hx g1 hA hF hS) (fun u s1 k1=>?_) fun _ _ z=>z) (enc_last hz _ _ _)
 obtain ⟨ad1,m1,S1,r1⟩:=k1
 have F1:=hF.mv hS m1
 refine test_link (wpAny_mono (ih.d hy g3 hA F1 S1) (fun v2 s2 k2=>?_) fun _ _ z=>z)
 obtain ⟨ad2,m2,S2,r2⟩:=k2
 have F2:=F1.mv S1 m2
 refine wpAny_mono (p_cmp (L:=renv.locals) (r1.mv hF.ownL m2) r2 g5 hA.line S2) (fun v3 s3 k3=>?_) fun _ _ z=>z
 refine truthy_of k3 fun ⟨ad3,m3,S3⟩ e3=>?_
 have F3:=F2.mv S2 m3
 cases t1 with
 | false=>obtain ⟨rfl,rfl⟩:=so2 g6; exact ⟨so1 h3,ad3,(m1.trans m2).trans m3,S3⟩
 | true =>
  obtain ⟨g,g7,g8⟩:=bd g6
  obtain ⟨d,g9,g10⟩:=md g8
  obtain ⟨rfl,rfl⟩:=pj g10
  obtain rfl:=so1 h3
  refine test_last (wpAny_mono (ih.d hz g7 hA F3 S3) (fun v4 s4 k4=>?_) fun _ _ z=>z)
  obtain ⟨ad4,m4,S4,r4⟩:=k4
  refine wpAny_mono (p_cmp (L:=renv.locals) ((r2.mv hF.ownL m3).mv hF.ownL m4) r4 g9 hA.line S4) (fun v5 s5 k5=>?_) fun _ _ z=>z
  exact truthy_of k5 fun ⟨ad5,m5,S5⟩ e5=>⟨rfl,ad5,(((m1.trans m2).trans m3).trans m4).trans m5,S5⟩
theorem tst_step {n:Nat} (i0:Ev prog w b (lv fns clss n) n) (ih:Ev prog w b (lv fns clss (n+1)) (n+1)) (it:Tst prog w b (lv fns clss n) n) :
  Tst prog w b (lv fns clss (n+1)) (n+1):=by
 intro sc x e hx env σ t σ' he A s ad F renv E hA hF hS
 obtain ⟨v,σ1,h1,h2⟩:=bp he
 obtain ⟨t',h3,h4⟩:=md h2
 obtain ⟨rfl,rfl⟩:=pj h4
 have plain:(∀ whole:Sem Value,isTrue e renv whole=(do let v ← whole; standAt e.pos; holding [v] (truthy v)))→wpAny (model prog w) A (isTrue e renv (eval e renv)) (BP prog w b F renv.locals s ad σ1 t') E s:=fun hq=>by
  rw [hq]
  refine wpAny_bind (wpAny_mono (ih _ _ _ hx _ _ _ _ h1 _ _ _ _ _ _ hA hF hS) (fun rv s1 q=>?_) fun _ _ z=>z)
  refine wpAny_bind (wpAny_standAt (wpAny_holding (q.truth h3 fun _ _ q=>?_)))
  obtain ⟨ad1,m,S,_⟩:=q
  exact ⟨rfl,ad1,m,S⟩
 clear he h2 ih
 have hA:=hA.down
 induction hx using Enc.casesOn with
 | notE hx=>exact t_not it hx h1 h3 hA hF hS
 | andE hx hy=>exact t_and it hx hy h1 h3 hA hF hS
 | orE hx hy=>exact t_or it hx hy h1 h3 hA hF hS
 | ife hx hy hz=>exact t_ife it hx hy hz h1 h3 hA hF hS
 | cmp hx hy=>exact t_cmp i0 hx hy h1 h3 hA hF hS
 | cmp2 hx hy hz=>exact t_cmp2 i0 hx hy hz h1 h3 hA hF hS
 | _=>exact plain fun _=>rfl
end
section
variable {prog:Program} {w:World} {K:Frag} {mg mb:Str→Option Value} {b:Heap}
variable {h h':Heap} {F:Addr→Prop} {ad ad':Adr} {σ σ':Sto} {s s':Shared} {A:Around} {E:Value→Shared→Prop} {sc:Scope} {renv:Env} {env:Env'} {L:Addr}
theorem VRs.step (hk:∀ a o,¬ Mt ad F a→h.get? a=some o→h'.get? a=some o∧¬ Mt ad' F a) (hl:∀ (n:Nat) (l:List Addr),ad[n]?=some l→ad'[n]?=some l ∨ ad'[n]?=some [])
  {vs:List Value} {ds:List V} (x:VRs prog w h ad F vs ds):VRs prog w h' ad' F vs ds:=by
 induction x with
 | nil=>exact .nil
 | cons e _ ih =>
  refine .cons ?_ ih
  induction e using VR.casesOn with
  | d r=>exact .d (r.mono hk)
  | loc e l =>
   rcases hl _ _ e with q | q
   ·exact .loc q l
   ·exact .loc q (.inl rfl)
theorem CR.step (hk:∀ a o,¬ Mt ad F a→h.get? a=some o→h'.get? a=some o∧¬ Mt ad' F a) (hl:∀ (n:Nat) (l:List Addr),ad[n]?=some l→ad'[n]?=some l ∨ ad'[n]?=some [])
  {l:List Addr} {c:Cell} (hc:∀ a ∈ l,∀ o,h.get? a=some o→h'.get? a=some o) (x:CR prog w h ad F l c):CR prog w h' ad' F l c:=by
 induction x using CR.casesOn with
 | gone=>exact .gone
 | tab e=>exact .tab (hc _ (.head _) _ e)
 | lst e r=>exact .lst (hc _ (.head _) _ e) (r.mono hk)
 | dct e d z k r=>exact .dct (hc _ (.head _) _ e) d z k (r.mono hk)
 | obj c e d k r=>exact .obj c (hc _ (.head _) _ e) (hc _ (.tail _ (.head _)) _ d) k (r.step hk hl)
theorem CRs.step (hk:∀ a o,¬ Mt ad F a→h.get? a=some o→h'.get? a=some o∧¬ Mt ad' F a) (hl:∀ (n:Nat) (l:List Addr),ad[n]?=some l→ad'[n]?=some l ∨ ad'[n]?=some [])
  {ls:Adr} {σ:Sto} (hc:∀ l ∈ ls,∀ a ∈ l,∀ o,h.get? a=some o→h'.get? a=some o) (x:CRs prog w h ad F ls σ):CRs prog w h' ad' F ls σ:=by
 induction x with
 | nil=>exact .nil
 | cons q _ ih=>exact .cons (q.step hk hl (hc _ (.head _))) (ih fun l hm=>hc l (.tail _ hm))
theorem CRs.upd (hk:∀ a o,¬ Mt ad F a→h.get? a=some o→h'.get? a=some o∧¬ Mt ad' F a) (hl:∀ (n:Nat) (l:List Addr),ad[n]?=some l→ad'[n]?=some l ∨ ad'[n]?=some [])
  {l':List Addr} {c':Cell} (hn:CR prog w h' ad' F l' c') {ls:Adr} {σ:Sto} (x:CRs prog w h ad F ls σ):∀ (n:Nat),(∀ (i:Nat) (l:List Addr),i ≠ n→ls[i]?=some l→∀ a ∈ l,∀ o,h.get? a=some o→h'.get? a=some o) →
  CRs prog w h' ad' F (ls.set n l') (σ.set n c'):=by
 induction x with
 | nil=>intro n _; exact .nil
 | cons q r ih =>
  intro n hc
  cases n with
  | zero =>
   refine .cons hn (r.step hk hl fun l hm a ha o e=>?_)
   obtain ⟨i,hi⟩:=List.getElem?_of_mem hm
   exact hc (i+1) l (Nat.succ_ne_zero i) (by simpa using hi) a ha o e
  | succ n =>
   refine .cons (q.step hk hl fun a ha o e=>hc 0 _ (Nat.succ_ne_zero n).symm rfl a ha o e) (ih n fun i l hi e a ha o q=>?_)
   exact hc (i+1) l (fun z=>hi (Nat.succ.inj z)) (by simpa using e) a ha o q
theorem CRs.append {ls ls':Adr} {σ σ':Sto} (x:CRs prog w h ad F ls σ) (y:CRs prog w h ad F ls' σ'):CRs prog w h ad F (ls++ls') (σ++σ'):=by
 induction x with
 | nil=>exact y
 | cons q _ ih=>exact .cons q ih
theorem inAd_iff {ad:Adr} {a:Addr}:inAd ad a ↔ a ∈ ad.flatten:=by
 unfold inAd; rw [List.mem_flatten]
theorem nodup_apart {ad:Adr} (h:ad.flatten.Nodup) {i n:Nat} {l k:List Addr} (hi:ad[i]?=some l) (hn:ad[n]?=some k) (hne:i ≠ n) {a:Addr} (ha:a ∈ l):a ∉ k:=by
 induction ad generalizing i n with
 | nil=>simp at hi
 | cons x r ih =>
  rw [List.flatten_cons,List.nodup_append] at h
  cases i with
  | zero =>
   simp at hi; subst hi
   cases n with
   | zero=>exact absurd rfl hne
   | succ n =>
    intro q
    have:k ∈ r:=List.mem_of_getElem? (by simpa using hn)
    exact h.2.2 a ha a (List.mem_flatten.mpr ⟨k,this,q⟩) rfl
  | succ i =>
   cases n with
   | zero =>
    simp at hn; subst hn
    intro q
    have:l ∈ r:=List.mem_of_getElem? (by simpa using hi)
    exact h.2.2 a q a (List.mem_flatten.mpr ⟨l,this,ha⟩) rfl
   | succ n=>exact ih h.2.1 (by simpa using hi) (by simpa using hn) (fun z=>hne (congrArg Nat.succ z))
theorem set_same {α:Type} {l:List α} {n:Nat} {x:α} (h:l[n]?=some x):l.set n x=l:=by
 obtain ⟨h1,rfl⟩:=List.getElem?_eq_some_iff.mp h
 exact List.set_getElem_self h1
theorem sto_grow {h:Heap} {t:Nat} (hS:SR prog w b F s.heap ad σ) (hk:∀ a o,s.heap.get? a=some o→h.get? a=some o) :
  Mv L s ad { s with heap:=h,toks:=t } ad∧SR prog w b F h ad σ:=⟨Mv.grow hk,hS.grow hk⟩
theorem sto_set {n t:Nat} {l:List Addr} {c:Cell} (hL:F L) (hS:SR prog w b F s.heap ad σ) (hn:ad[n]?=some l) (hk:∀ a o,a ∉ l→s.heap.get? a=some o→h'.get? a=some o) (hc:CR prog w h' ad F l c) :
  Mv L s ad { s with heap:=h',toks:=t } ad∧SR prog w b F h' ad (σ.set n c):=by
 have hin:∀ a,a ∈ l→inAd ad a:=fun a q=>⟨l,List.mem_of_getElem? hn,q⟩
 have hne:∀ a,F a→a ∉ l:=fun a q z=>(hS.off a (hin a z)).1 q
 refine ⟨⟨⟨_,_,_,rfl⟩,fun a o m _ e=>hk a o (fun z=>m (hin a z)) e,fun m ⟨o,es,ep,e,r⟩=>⟨o,es,ep,hk _ _ (hne _ hL) e,r⟩,fun q=>?_,fun _ q=>.inl q,fun _ _ e=>.inl e⟩,
  fun a o e=>hk a o (fun z=>?_) (hS.keep a o e),hS.nodup,hS.off,hS.offF,fun a q=>?_,?_⟩
 ·cases z:s.heap.get? L with
  | none=>rw [z] at q; exact fls q
  | some o=>show (h'.get? L).isSome=true; rw [hk _ _ (hne _ hL) z]; rfl
 ·rw [(hS.off a (hin a z)).2] at e; exact nos e
 ·cases z:s.heap.get? a with
  | none=>have:=hS.live a q; rw [z] at this; exact fls this
  | some o=>rw [hk _ _ (hne _ q) z]; rfl
 ·have:=hS.cells.upd (ad':=ad) (fun a o m e=>⟨hk a o (fun z=>m (.inl (hin a z))) e,m⟩) (fun _ _ e=>.inl e) hc n (fun i l' hi e a ha o q=>hk a o (nodup_apart hS.nodup e hn hi ha) q)
  rwa [set_same hn] at this
theorem sto_new {t:Nat} {o:Obj} {c:Cell} (hL:F L) (hS:SR prog w b F s.heap ad σ) (ho:o.isFreed=false) (hc:CR prog w (s.heap.push o) (ad++[[s.heap.objs.size]]) F [s.heap.objs.size] c) :
  Mv L s ad { s with heap:=s.heap.push o,toks:=t } (ad++[[s.heap.objs.size]])∧SR prog w b F (s.heap.push o) (ad++[[s.heap.objs.size]]) (σ++[c]):=by
 have hf:∀ a o',s.heap.get? a=some o'→a ≠ s.heap.objs.size:=fun a o' e=>Nat.ne_of_lt (Heap.lt_size e)
 have hk:∀ a o',s.heap.get? a=some o'→(s.heap.push o).get? a=some o':=fun a o' e=>Heap.get?_push_of_some _ e
 have hi:∀ a,inAd (ad++[[s.heap.objs.size]]) a ↔ inAd ad a ∨ a=s.heap.objs.size:=fun a=>by
  rw [inAd_iff,inAd_iff]; simp
 have hz:s.heap.get? s.heap.objs.size=none:=Heap.get?_none_of_le (Nat.le_refl _)
 have hM:∀ a o',¬ Mt ad F a→s.heap.get? a=some o'→(s.heap.push o).get? a=some o'∧¬ Mt (ad++[[s.heap.objs.size]]) F a:=fun a o' m e=>⟨hk a o' e,fun q=>by
  rcases q with q | q
  ·rcases (hi a).mp q with q | q
   ·exact m (.inl q)
   ·exact hf a o' e q
  ·exact m (.inr q)⟩
 refine ⟨⟨⟨_,_,_,rfl⟩,fun a o' _ _ e=>hk a o' e,fun m q=>q.keeps hk,fun q=>?_,fun a q=>?_,fun n l e=>.inl ?_⟩,
  fun a o' e=>hk a o' (hS.keep a o' e),?_,fun a q=>?_,hS.offF,fun a q=>?_,?_⟩
 ·cases z:s.heap.get? L with
  | none=>rw [z] at q; exact fls q
  | some o'=>show ((s.heap.push o).get? L).isSome=true; rw [hk _ _ z]; rfl
 ·rcases (hi a).mp q with q | rfl
  ·exact .inl q
  ·exact .inr hz
 ·rw [List.getElem?_append_left (List.getElem?_eq_some_iff.mp e).1]; exact e
 ·rw [List.flatten_append,List.nodup_append]
  refine ⟨hS.nodup,by simp,fun a q c z=>?_⟩
  simp at z
  rintro rfl
  have:=inAd.lt_of hS.cells (inAd_iff.mpr q)
  rw [z,hz] at this; exact fls this
 ·rcases (hi a).mp q with q | rfl
  ·exact hS.off a q
  ·refine ⟨fun q=>?_,?_⟩
   ·have:=hS.live _ q; rw [hz] at this; exact fls this
   ·cases z:b.get? s.heap.objs.size with
    | none=>rfl
    | some o'=>have:=hS.keep _ _ z; rw [hz] at this; exact nos this
 ·cases z:s.heap.get? a with
  | none=>have:=hS.live a q; rw [z] at this; exact fls this
  | some o'=>rw [hk _ _ z]; rfl
 ·refine CRs.append ?_ (.cons hc .nil)
  exact hS.cells.step hM (fun n l e=>.inl (by rw [List.getElem?_append_left (List.getElem?_eq_some_iff.mp e).1]; exact e)) fun l hl a ha o' e=>hk a o' e
theorem ad_set_in {ad:Adr} {n:Nat} {a:Addr} (q:inAd (ad.set n []) a):inAd ad a:=by
 obtain ⟨l,hl,ha⟩:=q
 rcases List.mem_or_eq_of_mem_set hl with z | z
 ·exact ⟨l,z,ha⟩
 ·rw [z] at ha; cases ha
theorem ad_set_off {ad:Adr} (hd:ad.flatten.Nodup) {n:Nat} {l:List Addr} (hn:ad[n]?=some l) {a:Addr} (ha:a ∈ l):¬ inAd (ad.set n []) a:=by
 rintro ⟨k,hk,hak⟩
 obtain ⟨i,hi⟩:=List.getElem?_of_mem hk
 by_cases e:i=n
 ·subst e
  rw [List.getElem?_set_self (List.getElem?_eq_some_iff.mp hn).1] at hi
  obtain rfl:=so1 hi; cases hak
 ·rw [List.getElem?_set_ne (Ne.symm e)] at hi
  exact nodup_apart hd hn hi (Ne.symm e) ha hak
theorem sto_gone {n:Nat} (hS:SR prog w b F s.heap ad σ):Mv L s ad s (ad.set n [])∧SR prog w b F s.heap (ad.set n []) (σ.set n .gone):=by
 have hM:∀ a o',¬ Mt ad F a→s.heap.get? a=some o'→s.heap.get? a=some o'∧¬ Mt (ad.set n []) F a:=fun a o' m e=>⟨e,fun q=>m (q.imp ad_set_in id)⟩
 have hl:∀ (i:Nat) (l:List Addr),ad[i]?=some l→(ad.set n [])[i]?=some l ∨ (ad.set n [])[i]?=some []:=fun i l e=>by
  by_cases z:i=n
  ·subst z; exact .inr (List.getElem?_set_self (List.getElem?_eq_some_iff.mp e).1)
  ·exact .inl (by rw [List.getElem?_set_ne (Ne.symm z)]; exact e)
 refine ⟨⟨⟨_,_,_,rfl⟩,fun a o' _ _ e=>e,fun m q=>q,fun q=>q,fun a q=>.inl (ad_set_in q),hl⟩,
  hS.keep,?_,fun a q=>hS.off a (ad_set_in q),hS.offF,hS.live,hS.cells.upd hM hl .gone n fun _ _ _ _ _ _ _ e=>e⟩
 have:∀ (ad:Adr) (n:Nat),(ad.set n []).flatten.Sublist ad.flatten:=by
  intro ad
  induction ad with
  | nil=>intro n; simp
  | cons x r ih=>intro n; cases n with
   | zero=>simp
   | succ n=>simpa using List.Sublist.append_left (ih n) x
 exact hS.nodup.sublist (this ad n)
end
section
variable {prog:Program} {w:World} {K:Frag} {mg mb:Str→Option Value} {b:Heap}
variable {h h':Heap} {F:Addr→Prop} {ad ad':Adr} {σ σ':Sto} {s s':Shared} {A:Around} {E:Value→Shared→Prop} {sc:Scope} {renv:Env} {env:Env'} {L:Addr}
inductive VP (prog:Program) (w:World) (b:Heap) (F:Addr→Prop) (L:Addr) (s:Shared) (ad:Adr) (σ':Sto) (ds:List V) (rv:List Value) (s':Shared):Prop
 | mk (ad':Adr):Mv L s ad s' ad'→SR prog w b F s'.heap ad' σ'→VRs prog w s'.heap ad' F rv ds→VP prog w b F L s ad σ' ds rv s'
inductive EncLI (sc:Scope) (x:X) (xs:List X) (es:List PySem.Expr):Prop
 | mk (e:PySem.Expr) (r:List PySem.Expr):es=e::r→Enc sc x e→EncL sc xs r→EncLI sc x xs es
theorem EncL.inv {x:X} {xs:List X} {es:List PySem.Expr} (h:EncL sc (x::xs) es):EncLI sc x xs es:=by
 cases h with | cons a b=>exact ⟨_,_,rfl,a,b⟩
theorem EncL.nilI {es:List PySem.Expr} (h:EncL sc [] es):es=[]:=by cases h; rfl
theorem ev_items {l:Lv} {n:Nat} (ih:Ev prog w b l n) {p:Pos}:∀ {xs:List X} {es:List PySem.Expr} (hx:EncL sc xs es) {σ:Sto} {s:Shared} {ad:Adr} {ds:List D}
  (he:evDs l env σ xs=some (ds,σ')) (hA:Room A n) (hF:FR prog w b s.heap ad F sc renv env) (hS:SR prog w b F s.heap ad σ),
  wpAny (model prog w) A (spliced (backTo p (starEach es renv))) (LP prog w b F renv.locals s ad σ' ds) E s:=by
 intro xs
 induction xs with
 | nil =>
  intro es hx σ s ad ds he hA hF hS
  obtain rfl:=hx.nilI
  exact wpAny_items_nil ⟨ad,Mv.refl,(so2 he).2 ▸ hS,(so2 he).1 ▸ .nil⟩
 | cons x xs ih2 =>
  intro es hx σ s ad ds he hA hF hS
  obtain ⟨e,es',rfl,hx1,hr⟩:=hx.inv
  obtain ⟨d,σ1,h1,he⟩:=bp he
  obtain ⟨ds1,σ2,h3,he⟩:=mpp he
  have e2:σ2=σ':=(pj he).2
  refine wpAny_items_cons (wpAny_mono (ih.d hx1 h1 hA hF hS) (fun u s1 z=>?_) fun _ _ z=>z) (enc_star hx1 _ _)
  obtain ⟨ad1,m1,S1,r1⟩:=z
  refine wpAny_mono (ih2 hr (e2 ▸ h3) hA (hF.mv hS m1) S1) (fun vs s2 z=>?_) fun _ _ z=>z
  obtain ⟨ad2,m2,S2,r2⟩:=z
  exact ⟨ad2,m1.trans m2,S2,(pj he).1 ▸ .cons (r1.mv hF.ownL m2) r2⟩
theorem ev_args {l:Lv} {n:Nat} (ih:Ev prog w b l n) {p:Pos}:∀ {xs:List X} {es:List PySem.Expr} (hx:EncL sc xs es) {σ:Sto} {s:Shared} {ad:Adr} {ds:List V}
  (he:evs l env σ xs=some (ds,σ')) (hA:Room A n) (hF:FR prog w b s.heap ad F sc renv env) (hS:SR prog w b F s.heap ad σ),
  wpAny (model prog w) A (spliced (backTo p (starEach es renv))) (VP prog w b F renv.locals s ad σ' ds) E s:=by
 intro xs
 induction xs with
 | nil =>
  intro es hx σ s ad ds he hA hF hS
  obtain rfl:=hx.nilI
  exact wpAny_items_nil ⟨ad,Mv.refl,(so2 he).2 ▸ hS,(so2 he).1 ▸ .nil⟩
 | cons x xs ih2 =>
  intro es hx σ s ad ds he hA hF hS
  obtain ⟨e,es',rfl,hx1,hr⟩:=hx.inv
  obtain ⟨d,σ1,h1,he⟩:=bp he
  obtain ⟨ds1,σ2,h3,he⟩:=mpp he
  have e2:σ2=σ':=(pj he).2
  refine wpAny_items_cons (wpAny_mono (ih _ _ _ hx1 _ _ _ _ h1 _ _ _ _ _ _ hA hF hS) (fun u s1 z=>?_) fun _ _ z=>z) (enc_star hx1 _ _)
  obtain ⟨ad1,m1,S1,r1⟩:=z
  refine wpAny_mono (ih2 hr (e2 ▸ h3) hA (hF.mv hS m1) S1) (fun vs s2 z=>?_) fun _ _ z=>z
  obtain ⟨ad2,m2,S2,r2⟩:=z
  exact ⟨ad2,m1.trans m2,S2,(pj he).1 ▸ .cons (r1.mv hF.ownL m2) r2⟩
theorem evDs_len {l:Lv}:∀ {xs:List X} {σ:Sto} {ds:List D} {σ':Sto},evDs l env σ xs=some (ds,σ')→ds.length=xs.length:=by
 intro xs
 induction xs with
 | nil=>intro σ ds σ' he; obtain ⟨rfl,rfl⟩:=so2 he; rfl
 | cons x xs ih =>
  intro σ ds σ' he
  obtain ⟨d,σ1,h1,h2⟩:=bp he
  obtain ⟨ds1,σ2,h3,h4⟩:=mpp h2
  obtain ⟨rfl,rfl⟩:=pj h4
  rw [List.length_cons,List.length_cons,ih h3]
theorem push_keep (o:Obj):∀ a o',s.heap.get? a=some o'→(s.heap.push o).get? a=some o':=fun a o' e=>Heap.get?_push_of_some _ e
theorem mk_tup {vs:List Value} {ds:List D} {xs:Array Value} (hxs:xs.toList=vs) (hS:SR prog w b F s.heap ad σ) (r:DRs prog w s.heap (Mt ad F) vs ds) :
  DP prog w b F L s ad σ (.tup ds) (.ref s.heap.objs.size) { s with heap:=s.heap.push { cls:=.type "tuple", data:=.seq xs } }:=by
 obtain ⟨m,S⟩:=sto_grow (L:=L) (t:=s.toks) hS (push_keep { cls:=.type "tuple", data:=.seq xs })
 exact ⟨ad,m,S,.tup (Heap.get?_push_size _ rfl) rfl rfl (hS.fresh (Heap.get?_none_of_le (Nat.le_refl _))) (hxs ▸ r.mono fun a o m e=>⟨push_keep _ a o e,m⟩)⟩
theorem mk_lst {vs:List Value} {ds:List D} {xs:Array Value} (hxs:xs.toList=vs) (hS:SR prog w b F s.heap ad σ) (r:DRs prog w s.heap (Mt ad F) vs ds) :
  DP prog w b F L s ad σ (.lst ds) (.ref s.heap.objs.size) { s with heap:=s.heap.push { cls:=.type "list", data:=.seq xs } }:=by
 obtain ⟨m,S⟩:=sto_grow (L:=L) (t:=s.toks) hS (push_keep { cls:=.type "list", data:=.seq xs })
 exact ⟨ad,m,S,.lst (Heap.get?_push_size _ rfl) ⟨rfl,rfl⟩ rfl (hS.fresh (Heap.get?_none_of_le (Nat.le_refl _))) (hxs ▸ r.mono fun a o m e=>⟨push_keep _ a o e,m⟩)⟩
theorem dict_new {o:Obj} (hn:(s.heap.push { cls:=.type "dict", data:=.dict #[] }).get? s.heap.objs.size=some o):o.IsDictOf (PySem.strKind prog w) []:=by
 obtain ⟨o',ho,hd⟩:=Heap.dictOf_iff.mp (Heap.DictOf.new (knd:=PySem.strKind prog w) s.heap)
 rw [hn] at ho
 obtain rfl:=so1 ho
 exact hd
theorem Gd.notMod (G:Gd prog w K mg mb b) (hS:SR prog w b F s.heap ad σ):(s.heap.objs.size == sysModules)=false:=by
 rw [beq_eq_false_iff_ne]
 intro e
 obtain ⟨o,es,ep,eo,_⟩:=G.g
 have h1:=Heap.lt_size (hS.keep _ _ eo)
 rw [e] at h1
 exact absurd h1 (by decide)
theorem ev_tup {l:Lv} {n:Nat} (ih:Ev prog w b l n) {xs:List X} {es:List PySem.Expr} {k:Nat} {p:Pos} {v:V} (hx:EncL sc xs es) (hl:xs.length≤100)
  (he:evE l env σ (.tup xs)=some (v,σ')) (hA:Room A n) (hF:FR prog w b s.heap ad F sc renv env) (hS:SR prog w b F s.heap ad σ) :
  wpAny (model prog w) A (eval (.Tuple es k p) renv) (EP prog w b F renv.locals s ad σ' v) E s:=by
 obtain ⟨ds,σ1,h1,h2⟩:=mpp he
 obtain ⟨rfl,rfl⟩:=pj h2
 refine wpAny_Tuple (wpAny_mono (ev_items ih hx h1 hA hF hS) (fun vs s1 z=>?_) fun _ _ z=>z)
 obtain ⟨ad1,m1,S1,r1⟩:=z
 exact ⟨le_line (by rw [r1.length,evDs_len h1]; exact lw hl),EP.of_data ((mk_tup (by simp) S1 r1).after m1)⟩
theorem ev_lst {l:Lv} {n:Nat} (ih:Ev prog w b l n) {xs:List X} {es:List PySem.Expr} {p:Pos} {v:V} (hx:EncL sc xs es) (hl:xs.length≤100)
  (he:evE l env σ (.lst xs)=some (v,σ')) (hA:Room A n) (hF:FR prog w b s.heap ad F sc renv env) (hS:SR prog w b F s.heap ad σ) :
  wpAny (model prog w) A (eval (.List es p) renv) (EP prog w b F renv.locals s ad σ' v) E s:=by
 obtain ⟨ds,σ1,h1,h2⟩:=mpp he
 obtain ⟨rfl,rfl⟩:=pj h2
 refine wpAny_List (wpAny_mono (ev_items ih hx h1 hA hF hS) (fun vs s1 z=>?_) fun _ _ z=>z)
 obtain ⟨ad1,m1,S1,r1⟩:=z
 exact ⟨le_line (by rw [r1.length,evDs_len h1]; exact lw hl),EP.of_data ((mk_lst (by simp) S1 r1).after m1)⟩
theorem Mt_new (hS:SR prog w b F s.heap ad σ) {o:Obj}:∀ a o',¬ Mt ad F a→s.heap.get? a=some o'→(s.heap.push o).get? a=some o'∧¬ Mt (ad++[[s.heap.objs.size]]) F a:=fun a o' m e=>⟨push_keep _ _ _ e,fun q=>by
 rcases q with ⟨l,hl,ha⟩ | q
 ·rcases List.mem_append.mp hl with z | z
  ·exact m (.inl ⟨l,z,ha⟩)
  ·rw [List.mem_singleton.mp z] at ha
   rw [List.mem_singleton.mp ha] at e
   exact Nat.lt_irrefl _ (Heap.lt_size e)
 ·exact m (.inr q)⟩
theorem new_loc (hl:ad.length=σ.length):VR prog w h (ad++[[a]]) F (.ref a) (.loc σ.length):=.loc (l:=[a]) (by rw [← hl]; simp) (.inr rfl)
theorem ev_newL {l:Lv} {n:Nat} (ih:Ev prog w b l n) {xs:List X} {es:List PySem.Expr} {p:Pos} {v:V} (hx:EncL sc xs es) (hl:xs.length≤100)
  (he:evE l env σ (.newL xs)=some (v,σ')) (hA:Room A n) (hF:FR prog w b s.heap ad F sc renv env) (hS:SR prog w b F s.heap ad σ) :
  wpAny (model prog w) A (eval (.List es p) renv) (EP prog w b F renv.locals s ad σ' v) E s:=by
 obtain ⟨ds,σ1,h1,h2⟩:=mpp he
 obtain ⟨rfl,rfl⟩:=pj h2
 refine wpAny_List (wpAny_mono (ev_items ih hx h1 hA hF hS) (fun vs s1 z=>?_) fun _ _ z=>z)
 obtain ⟨ad1,m1,S1,r1⟩:=z
 refine ⟨le_line (by rw [r1.length,evDs_len h1]; exact lw hl),?_⟩
 obtain ⟨m2,S2⟩:=sto_new (L:=renv.locals) (t:=s1.toks) (c:=.lst ds) (o:={ cls:=.type "list", data:=.seq vs.toArray }) hF.ownL S1 rfl (.lst (n:=0) (vs:=vs.toArray) (Heap.get?_push_size _ rfl) (by simpa using r1.mono (Mt_new S1)))
 exact ⟨_,m1.trans m2,S2,new_loc S1.cells.length⟩
theorem ev_dct0 {l:Lv} (G:Gd prog w K mg mb b) {p:Pos} {v:V} (he:evE l env σ .dct0=some (v,σ')) (hF:FR prog w b s.heap ad F sc renv env) (hS:SR prog w b F s.heap ad σ) :
  wpAny (model prog w) A (eval (.Dict [] [] p) renv) (EP prog w b F renv.locals s ad σ' v) E s:=by
 obtain ⟨rfl,rfl⟩:=so2 he
 refine wpAny_Dict_empty ?_
 obtain ⟨m,S⟩:=sto_grow (L:=renv.locals) (t:=s.toks) hS (push_keep { cls:=.type "dict", data:=.dict #[] })
 exact ⟨ad,m,S,.d (.dct (kvs:=[]) (Heap.get?_push_size _ rfl) (dict_new (s:=s) (Heap.get?_push_size s.heap rfl)) (hS.fresh (Heap.get?_none_of_le (Nat.le_refl _))) (G.notMod hS) rfl .nil)⟩
theorem ev_newD {l:Lv} (G:Gd prog w K mg mb b) {p:Pos} {v:V} (he:evE l env σ .newD=some (v,σ')) (hF:FR prog w b s.heap ad F sc renv env) (hS:SR prog w b F s.heap ad σ) :
  wpAny (model prog w) A (eval (.Dict [] [] p) renv) (EP prog w b F renv.locals s ad σ' v) E s:=by
 obtain ⟨rfl,rfl⟩:=so2 he
 refine wpAny_Dict_empty ?_
 obtain ⟨m2,S2⟩:=sto_new (L:=renv.locals) (t:=s.toks) (c:=.dct [] []) (o:={ cls:=.type "dict", data:=.dict #[] }) hF.ownL hS rfl (.dct (kvs:=[]) (Heap.get?_push_size _ rfl) (dict_new (s:=s) (Heap.get?_push_size s.heap rfl)) (G.notMod hS) rfl .nil)
 exact ⟨_,m2,S2,new_loc hS.cells.length⟩
inductive LocG (prog:Program) (w:World) (h:Heap) (ad:Adr) (F:Addr→Prop) (rv:Value) (n:Nat) (c:Cell):Prop
 | mk (a:Addr) (l:List Addr):rv=.ref a→ad[n]?=some (a::l)→CR prog w h ad F (a::l) c→LocG prog w h ad F rv n c
theorem loc_get (hS:SR prog w b F s.heap ad σ) {rv:Value} {n:Nat} {c:Cell} (x:VR prog w s.heap ad F rv (.loc n)) (hc:σ[n]?=some c) (hg:c ≠ .gone):LocG prog w s.heap ad F rv n c:=by
 cases x with
 | loc e hl =>
  obtain ⟨l',h1,h2⟩:=hS.cells.get hc
  rw [e] at h1; obtain rfl:=so1 h1
  rcases hl with rfl | hl
  ·cases h2; exact absurd rfl hg
  ·rename_i l
   cases l with
   | nil=>exact nos hl
   | cons x r=>obtain rfl:=so1 hl; exact ⟨_,r,rfl,e,h2⟩
inductive CLst (prog:Program) (w:World) (h:Heap) (ad:Adr) (F:Addr→Prop) (a:Addr) (l:List Addr) (ds:List D):Prop
 | mk (vs:Array Value) (k:Nat):l=[]→h.get? a=some (seqObj "list" vs k)→DRs prog w h (Mt ad F) vs.toList ds→CLst prog w h ad F a l ds
theorem CR.lstI {a:Addr} {l:List Addr} {ds:List D} (x:CR prog w h ad F (a::l) (.lst ds)):CLst prog w h ad F a l ds:=by
 cases x with | lst e r=>exact ⟨_,_,rfl,e,r⟩
inductive CDct (prog:Program) (w:World) (h:Heap) (ad:Adr) (F:Addr→Prop) (a:Addr) (l:List Addr) (ks:List Str) (ds:List D):Prop
 | mk (o:Obj) (kvs:List (Str × Value)):l=[]→h.get? a=some o→o.IsDictOf (PySem.strKind prog w) kvs→(a == sysModules)=false→kvs.map (·.1)=ks→DRs prog w h (Mt ad F) (kvs.map (·.2)) ds→CDct prog w h ad F a l ks ds
theorem CR.dctI {a:Addr} {l:List Addr} {ks:List Str} {ds:List D} (x:CR prog w h ad F (a::l) (.dct ks ds)):CDct prog w h ad F a l ks ds:=by
 cases x with | dct e d z k r=>exact ⟨_,_,rfl,e,d,z,k,r⟩
inductive CObj (prog:Program) (w:World) (h:Heap) (ad:Adr) (F:Addr→Prop) (a:Addr) (l:List Addr) (c:Addr) (ks:List Str) (vs:List V):Prop
 | mk (d:Addr) (es:List DictEntry) (n:Nat):l=[d]→c ∈ clsA→h.get? a=some (instObj c d)→h.get? d=some (dictOf es n)→KeysAre es ks→VRs prog w h ad F (es.map (·.val)) vs→CObj prog w h ad F a l c ks vs
theorem CR.objI {a c:Addr} {l:List Addr} {ks:List Str} {vs:List V} (x:CR prog w h ad F (a::l) (.obj c ks vs)):CObj prog w h ad F a l c ks vs:=by
 cases x with | obj c e d k r=>exact ⟨_,_,_,rfl,c,e,d,k,r⟩
theorem valueAt_cons (p:Str × Value) (r:List (Str × Value)) (x:Str):valueAt (p::r) x=if p.1=x then some p.2 else valueAt r x:=by
 unfold valueAt
 rw [List.find?_cons]
 by_cases h:p.1=x
 ·rw [if_pos h,decide_eq_true h]; rfl
 ·rw [if_neg h,decide_eq_false h]
theorem look_value:∀ {kvs:List (Str × Value)} {ds:List D} {M:Addr→Prop} {x:Str} {d:D},DRs prog w h M (kvs.map (·.2)) ds→look x (kvs.map (·.1)) ds=some d→∃ v,valueAt kvs x=some v∧DR prog w h M v d:=by
 intro kvs
 induction kvs with
 | nil=>intro ds M x d r e; cases r; exact nos e
 | cons p rest ih =>
  intro ds M x d r e
  cases ds with
  | nil=>cases r
  | cons d1 ds =>
   have e:(if x=p.1 then some d1 else look x (rest.map (·.1)) ds)=some d:=e
   rw [valueAt_cons]
   cases r with
   | cons q r =>
    by_cases hx:x=p.1
    ·rw [if_pos hx] at e
     rw [if_pos hx.symm]
     exact ⟨_,rfl,so1 e ▸ q⟩
    ·rw [if_neg hx] at e
     rw [if_neg (Ne.symm hx)]
     exact ih r e
theorem fits63 {k:Nat} (h:k≤1000):((k:Nat):Int) < 2 ^ 63:=Int.lt_of_le_of_lt (Int.ofNat_le.mpr h) (by decide)
theorem key_is (x:Str) (t:Tok):(PySem.strKind prog w).is x (.str x t)=true:=strKind_is prog w x t
inductive IdxI (a i d:D):Prop
 | tup (ds:List D) (k:Int):a=.tup ds→i=.int k→(0≤k∧k < 1000)→ds[k.toNat]?=some d→IdxI a i d
 | lst (ds:List D) (k:Int):a=.lst ds→i=.int k→(0≤k∧k < 1000)→ds[k.toNat]?=some d→IdxI a i d
 | str (x:Str) (k:Int) (c:Nat):a=.str x→i=.int k→(0≤k∧k < 1000)→x.cps[k.toNat]?=some c→d=.str ⟨#[c]⟩→IdxI a i d
 | dct (ks:List Str) (ds:List D) (x:Str):a=.dct ks ds→i=.str x→look x ks ds=some d→IdxI a i d
theorem if_some {α:Type} {p:Prop} [Decidable p] {x:Option α} {a:α} (h:(if p then x else none)=some a):p∧x=some a:=by
 by_cases q:p
 ·rw [if_pos q] at h; exact ⟨q,h⟩
 ·rw [if_neg q] at h; exact nos h
theorem idxD_inv {a i d:D} (h:idxD a i=some d):IdxI a i d:=by
 cases a <;> first | exact nos h | (cases i <;> first | exact nos h | skip)
 ·obtain ⟨c,h1,h2⟩:=md (if_some h).2
  exact .str _ _ c rfl rfl (if_some h).1 h1 h2.symm
 ·exact .tup _ _ rfl rfl (if_some h).1 (if_some h).2
 ·exact .lst _ _ rfl rfl (if_some h).1 (if_some h).2
 ·exact .dct _ _ _ rfl rfl h
theorem idx_lst {x y:PySem.Expr} {a:Addr} {items:Array Value} {k:Value} {i:Int} {ds:List D} {d:D} {M:Addr→Prop} {Q:Value→Shared→Prop} (hy:∀ o i,subscripted y false o i=operate [o,i] (getItem o i)) (hl:s.heap.IsList a items)
  (r:DRs prog w s.heap M items.toList ds) (r2:DR prog w s.heap M k (.int i)) (hk:0≤i∧i < 1000) (hd:ds[i.toNat]?=some d) (fin:∀ rv,DR prog w s.heap M rv d→Q rv s):wpAny (model prog w) A (subscriptTail x y (.ref a) k) Q E s:=by
 obtain ⟨t,rfl⟩:=r2.intI
 obtain ⟨v,hv,rr⟩:=r.get hd
 exact tail_any hl.typeIs slot_list_getitem.lookup (wpAny_getItem_list hl hk.1 (Int.lt_trans hk.2 (by decide)) ((Array.getElem?_toList ..).symm.trans hv) (fin _ rr)) (hy _ _)
theorem lt_size {vs:Array Value} {k:Nat} {v:Value} (h:vs.toList[k]?=some v):k < vs.size:=(List.getElem?_eq_some_iff.mp h).1
theorem idx_data {x y:PySem.Expr} {u k:Value} {da di d:D} {M:Addr→Prop} {Q:Value→Shared→Prop} (hy:∀ o i,subscripted y false o i=operate [o,i] (getItem o i)) (h:idxD da di=some d) (r1:DR prog w s.heap M u da) (r2:DR prog w s.heap M k di)
  (fin:∀ rv t,DR prog w s.heap M rv d→Q rv { s with toks:=t }):wpAny (model prog w) A (subscriptTail x y u k) Q E s:=by
 cases idxD_inv h with
 | tup ds i e1 e2 hk hd =>
  obtain ⟨a,o,vs,n',rfl,e,c,dd,mm',r⟩:=(e1 ▸ r1).tupI
  obtain ⟨t,rfl⟩:=(e2 ▸ r2).intI
  obtain ⟨v,hv,rr⟩:=r.get hd
  have hT:=isTup_of e c dd
  have hlt:=lt_size hv
  exact tail_any hT.typeIs slot_tuple_getitem.lookup (getItem_tuple hT (Int.le_trans (by decide) hk.1) (Int.lt_trans hk.2 (by decide)) (seqIndex_of hk.1 ((Int.toNat_lt hk.1).mp hlt)) ((Array.getElem?_toList ..).symm.trans hv) (fin _ s.toks rr)) (hy _ _)
 | lst ds i e1 e2 hk hd =>
  obtain ⟨a,o,vs,n',rfl,e,c,dd,mm',r⟩:=(e1 ▸ r1).lstI
  exact idx_lst hy (isList_of e c dd) r (e2 ▸ r2) hk hd fun rv z=>fin rv s.toks z
 | str z i ch e1 e2 hk hc e3 =>
  obtain ⟨t,rfl⟩:=(e1 ▸ r1).strI
  obtain ⟨t',rfl⟩:=(e2 ▸ r2).intI
  have hlt:i.toNat < z.length:=(Array.getElem?_eq_some_iff.mp hc).1
  exact tail_any (T := "str") rfl PySem.F.slot_str_getitem.lookup (P.getItem_str (c:=ch) (by simp only [Bool.or_eq_false_iff,decide_eq_false_iff_not]; exact ⟨Int.not_lt.mpr (Int.le_trans (by decide) hk.1),Int.not_le.mpr (Int.lt_trans hk.2 (by decide))⟩) (by rw [seqIndex_of hk.1 ((Int.toNat_lt hk.1).mp hlt)]; exact hc) (fin _ _ (e3 ▸ .str _ _))) (hy _ _)
 | dct ks ds z e1 e2 hl =>
  obtain ⟨a,o,kvs,rfl,e,dd,mm',hm,rfl,r⟩:=(e1 ▸ r1).dctI
  obtain ⟨t,rfl⟩:=(e2 ▸ r2).strI
  obtain ⟨v,hv,rr⟩:=look_value r hl
  have hD:s.heap.DictOf (PySem.strKind prog w) a kvs:=Heap.dictOf_iff.mpr ⟨o,e,dd⟩
  exact tail_any hD.typeIs slot_dict_getitem.lookup (wpAny_getItem_of (key_is z t) hD.mapOf hv (fin _ _ rr)) (hy _ _)
inductive IdxV (σ:Sto) (va:V) (di d:D):Prop
 | dat (da:D):va=.d da→idxD da di=some d→IdxV σ va di d
 | cell (n:Nat) (ds:List D):va=.loc n→σ[n]?=some (.lst ds)→idxD (.lst ds) di=some d→IdxV σ va di d
theorem idxV_inv {va:V} {di d:D} (h:idxV σ va di=some d):IdxV σ va di d:=by
 cases va with
 | d da=>exact .dat da rfl h
 | loc n =>
  have h:(match σ[n]? with | some (.lst ds)=>idxD (.lst ds) di | _=>none)=some d:=h
  cases hc:σ[n]? with
  | none=>rw [hc] at h; exact nos h
  | some c =>
   rw [hc] at h
   cases c with
   | lst ds=>exact .cell n ds rfl hc h
   | _=>exact nos h
theorem idx_tail {x y:PySem.Expr} {u k:Value} {va:V} {di d:D} {Q:Value→Shared→Prop} (hy:∀ o i,subscripted y false o i=operate [o,i] (getItem o i)) (h:idxV σ va di=some d) (S:SR prog w b F s.heap ad σ)
  (r1:VR prog w s.heap ad F u va) (r2:DR prog w s.heap (Mt ad F) k di) (fin:∀ rv t,DR prog w s.heap (Mt ad F) rv d→Q rv { s with toks:=t }):wpAny (model prog w) A (subscriptTail x y u k) Q E s:=by
 cases idxV_inv h with
 | dat da e h=>exact idx_data hy h (e ▸ r1).dI r2 fin
 | cell n ds e hc h =>
  obtain ⟨a,l',rfl,hl',cr⟩:=loc_get S (e ▸ r1) hc Cell.noConfusion
  obtain ⟨vs,n1,_,e2,r⟩:=cr.lstI
  cases idxD_inv h with
  | lst ds' i q e3 hk hd=>exact idx_lst hy (isList_of e2 rfl rfl) ((D.lst.inj q) ▸ r) (e3 ▸ r2) hk hd fun rv z=>fin rv s.toks z
  | tup _ _ q=>exact nomatch q
  | str _ _ _ q=>exact nomatch q
  | dct _ _ _ q=>exact nomatch q
theorem ev_idx {l:Lv} {n:Nat} (ih:Ev prog w b l n) {a c:X} {x y:PySem.Expr} {p:Pos} {v:V} (hx:Enc sc a x) (hy:Enc sc c y)
  (he:evE l env σ (.idx a c)=some (v,σ')) (hA:Room A n) (hF:FR prog w b s.heap ad F sc renv env) (hS:SR prog w b F s.heap ad σ) :
  wpAny (model prog w) A (eval (.Subscript x y p) renv) (EP prog w b F renv.locals s ad σ' v) E s:=by
 obtain ⟨va,σ1,h1,he⟩:=bp he
 obtain ⟨di,σ2,h3,he⟩:=bp he
 obtain ⟨d,h5,he⟩:=md he
 refine Subscript_ (wpAny_mono (ih _ _ _ hx _ _ _ _ h1 _ _ _ _ _ _ hA hF hS) (fun u s1 z=>?_) fun _ _ z=>z)
 obtain ⟨ad1,m1,S1,r1⟩:=z
 refine wpAny_mono (ih.d hy h3 hA (hF.mv hS m1) S1) (fun k s2 z=>?_) fun _ _ z=>z
 obtain ⟨ad2,m2,S2,r2⟩:=z
 exact idx_tail (enc_sub hy) h5 S2 (r1.mv hF.ownL m2) r2 fun rv t r=>(pj he).1 ▸ (pj he).2 ▸ ⟨ad2,(m1.trans m2).trans (Mv.tok _),S2,.d r⟩
theorem cutC_some {n:Nat} {e:PySem.Expr} (h:cutC (some n) (some e)=true):∃ k p,e=.Constant (.int n) k p:=by
 cases e with
 | Constant c k p=>cases c with
  | int i =>
   have h:=Bool.and_eq_true_iff.mp h
   exact ⟨k,p,by rw [of_decide_eq_true h.1]⟩
  | _=>exact fls h
 | _=>exact fls h
noncomputable def cutV (o:Option Nat) (t:Nat) (v:Value):Prop:=match o with | some n=>v=.int n t | .none=>v=.none
theorem cut_part {o:Option Nat} {oe:Option PySem.Expr} (hc:cutC o oe=true) {Q:Value→Shared→Prop}
  (h:∀ v t,cutV o s.toks v→Q v { s with toks:=t }):wpAny (model prog w) A (evalPart oe renv) Q E s:=by
 cases oe with
 | none=>cases o with
  | none=>rw [evalPart_none]; exact wpAny_pure (h .none s.toks rfl)
  | some n=>exact fls hc
 | some e=>cases o with
  | none=>exact fls hc
  | some n =>
   obtain ⟨k,p,rfl⟩:=cutC_some hc
   rw [evalPart_some]
   exact wpAny_Constant_int (h _ _ rfl)
theorem adjust_upto (a n:Nat) (ha:a≤n):Builtin.Slice.sliceAdjust none (some (a:Int)) 1 (n:Int)=(0,(a:Int)):=by
 unfold Builtin.Slice.sliceAdjust
 have h1:¬ ((1:Int) < 0):=by decide
 have h2:¬ ((a:Int) < 0):=Int.not_lt.mpr (Int.natCast_nonneg a)
 simp only [h1,h2,if_false]
 congr 1
 exact Int.min_eq_left (Int.ofNat_le.mpr ha)
theorem places_upto (a:Nat):Builtin.Slice.slicePlaces 0 (a:Int) 1=a:=by
 unfold Builtin.Slice.slicePlaces
 have h1:(1:Int) > 0:=by decide
 simp only [h1,if_true,Int.ediv_one]
 split
 ·rw [Int.sub_zero,Int.sub_add_cancel,Int.toNat_natCast]
 ·rename_i z
  exact (Nat.eq_zero_of_not_pos fun z'=>z (Int.ofNat_lt.mpr z')).symm
theorem sliceApplied_upto {sl:Addr} {a n:Nat} {u:Tok} {Q:Int × Int × Nat→Shared→Prop} (hs:s.heap.IsSliceOf sl .none (.int a u) .none) (ha:a≤n) (h:Q (0,1,a) s) :
  wpAny (model prog w) A (Builtin.Slice.sliceApplied (.ref sl) (pure (n:Int))) Q E s:=by
 obtain ⟨os,hos,hcs,hds⟩:=id hs
 unfold Builtin.Slice.sliceApplied Builtin.Slice.sliceFields
 refine wpAny_bind (wpAny_bind (wpAny_field hos hds (x:=.none) rfl (wpAny_bind (wpAny_field hos hds (x:=.int a u) rfl (wpAny_bind (wpAny_field hos hds (x:=.none) rfl (wpAny_pure ?_)))))))
 refine wpAny_bind (slicePart_none ?_)
 show wpAny _ _ (if ((1:Int) == 0)=true then _ else _) _ _ s
 rw [if_neg (by decide)]
 refine wpAny_bind (slicePart_none (wpAny_bind (slicePart_int (wpAny_bind (wpAny_pure ?_)))))
 show wpAny _ _ (match Builtin.Slice.sliceAdjust none (some (a:Int)) 1 (n:Int) with | (lo,hi)=>pure (lo,(1:Int),Builtin.Slice.slicePlaces lo hi 1)) _ _ s
 rw [adjust_upto a n ha]
 show wpAny _ _ (pure ((0:Int),(1:Int),Builtin.Slice.slicePlaces 0 (a:Int) 1)) _ _ s
 rw [places_upto a]
 exact wpAny_pure h
theorem pick_upto (xs:Array Value) (a:Nat):((List.range a).filterMap fun (k:Nat)=>xs[((0:Int)+(k:Int) * 1).toNat]?).toArray=(xs.toList.take a).toArray:=by
 have e:(fun (k:Nat)=>xs[((0:Int)+(k:Int) * 1).toNat]?)=fun k=>xs[0+k]?:=by
  funext k
  have:((0:Int)+(k:Int) * 1).toNat=0+k:=by rw [Int.mul_one,Int.zero_add,Nat.zero_add,Int.toNat_natCast]
  rw [this]
 rw [e]
 have:=pick_run xs 0 a
 rw [List.filterMap_map] at this
 have e2:((fun x=>xs[x]?) ∘ fun x=>0+x)=fun k=>xs[0+k]?:=rfl
 rw [e2] at this
 rw [this,List.drop_zero]
theorem getItem_tuple_upto {t sl:Addr} {items:Array Value} {a:Nat} {u:Tok} {Q:Value→Shared→Prop} (ht:IsTup s.heap t items) (hs:s.heap.IsSliceOf sl .none (.int a u) .none) (ha:a≤items.size)
  (h0:a=items.size→Q (.ref t) s)
  (h:Q (.ref s.heap.objs.size) { s with heap:=s.heap.push { cls:=.type "tuple", data:=.seq (items.toList.take a).toArray } })
  (hsz:items.size≤sizeLine):wpAny (model prog w) A (getItem (.ref t) (.ref sl)) Q E s:=by
 have hdrop:sizeOk (.seq (items.toList.take a).toArray):=by
  show (items.toList.take a).toArray.size≤sizeLine
  rw [List.size_toArray,List.length_take,Array.length_toList]
  exact Nat.le_trans (Nat.min_le_right ..) hsz
 obtain ⟨os,hos,hcs,hds⟩:=id hs
 have hTs:s.TypeIs (.ref sl) "slice" := ⟨os,hos,hcs⟩
 unfold getItem
 try with_reducible refine wpAny_holding ?_
 first | refine wpAny_bind (wpAny_pure ?_) | skip
 refine wpAny_bind (wpAny_sequenceKey ht.typeIs (by decide) ?_)
 refine wpAny_bind (wpAny_callSpecial?_slot (name:=Str.ofString "__getitem__") ht.typeIs slot_tuple_getitem
  (wpAny_call_entry slot_tuple_getitem ht.typeIs entry_tuple_getitem ?_ (args_tuple_getitem _ _)))
 show wpAny _ _ (Builtin.Tuple.tupleItemsOf (.ref t) >>= _) _ _ s
 refine wpAny_bind (tupleItemsOf_ ht ?_)
 refine wpAny_bind (wpAny_typeOf hTs ?_)
 rw [if_pos (by decide)]
 refine wpAny_bind (sliceApplied_upto hs ha ?_)
 show wpAny _ _ (if ((0:Int) == 0 && (1:Int) == 1 && a == items.size)=true then _ else _) _ _ s
 by_cases hq:a=items.size
 ·rw [if_pos (by rw [hq]; simp)]
  unfold Builtin.Tuple.tupleIsExact
  refine wpAny_bind (wpAny_bind (wpAny_typeOf ht.typeIs (wpAny_pure ?_)))
  rw [if_pos (by decide)]
  refine wpAny_bind (wpAny_rule ?_)
  first
   | exact wpAny_bind (wpAny_pure ⟨_,rfl,wpAny_pure (h0 hq)⟩)
   | exact wpAny_pure ⟨_,rfl,wpAny_pure (h0 hq)⟩
   | exact wpAny_bind (wpAny_ret ⟨_,rfl,wpAny_pure (h0 hq)⟩)
   | exact wpAny_bind (wpAny_ret (wpAny_pure ⟨_,rfl,wpAny_pure (h0 hq)⟩))
   | trace_state
 ·have hno:¬ (((0:Int) == 0 && (1:Int) == 1 && a == items.size)=true):=by
   have:(a == items.size)=false:=by rw [beq_eq_false_iff_ne]; exact hq
   rw [this]; simp
  rw [if_neg hno,pick_upto items a]
  first
   | exact wpAny_bind (m:=Builtin.Tuple.tupleExact _) (wpAny_newObj_type (wpAny_pure ⟨_,rfl,wpAny_pure h⟩) hdrop)
   | exact wpAny_bind (m:=Builtin.Tuple.tupleExact _) (wpAny_newObj_type (wpAny_bind (wpAny_pure (wpAny_pure ⟨_,rfl,wpAny_pure h⟩))) hdrop)
   | exact wpAny_bind (wpAny_bind (m:=Builtin.Tuple.tupleExact _) (wpAny_newObj_type (wpAny_pure (wpAny_pure ⟨_,rfl,wpAny_pure h⟩)) hdrop))
   | exact wpAny_bind (wpAny_bind (m:=Builtin.Tuple.tupleExact _) (wpAny_newObj_type (wpAny_pure ⟨_,rfl,wpAny_pure h⟩) hdrop))
theorem picked_upto (x:Str) {k:Nat} (hb:k≤x.length) (t:Tok):(slicePicked x none (some ((k:Int),t)) none).filterMap (x.cps[·]?)=x.cps.toList.take k:=by
 have h:=StrLaws.sliced_plain x (Nat.zero_le k) hb
 rw [List.drop_zero,Nat.sub_zero] at h
 rw [← h]
 congr 1
theorem picked_len (x:Str) {k:Nat} (hb:k≤x.length) (t:Tok):(slicePicked x none (some ((k:Int),t)) none).length=k:=by
 have h:=StrLaws.strSliceIndices_plain (Nat.zero_le k) hb
 have e:slicePicked x none (some ((k:Int),t)) none=slicePicked x (some (((0:Nat):Int),t)) (some ((k:Int),t)) none:=by
  unfold slicePicked Builtin.Str.strSliceIndices
  simp
  rw [show max (0:Int) (min 0 (x.length:Int))=0 by rw [Int.min_eq_left (Int.natCast_nonneg _)]; rfl]
 rw [e]
 unfold slicePicked
 simp only [Option.map_some,Option.map_none,Option.getD_none]
 rw [h]
 simp
inductive CutI (da:D) (lo hi:Option Nat) (d:D):Prop
 | tupF (ds:List D) (k:Nat):da=.tup ds→lo=some k→hi=none→(small ds=true∧1≤k∧k≤ds.length)→d=.tup (ds.drop k)→CutI da lo hi d
 | tup (ds:List D) (k:Nat):da=.tup ds→lo=none→hi=some k→(small ds=true∧k≤ds.length)→d=.tup (ds.take k)→CutI da lo hi d
 | lst (ds:List D) (k:Nat):da=.lst ds→lo=none→hi=some k→small ds=true→d=.lst (ds.take k)→CutI da lo hi d
 | raw (ds:List D) (k:Nat):da=.raw ds→lo=none→hi=some k→small ds=true→d=.lst (ds.take k)→CutI da lo hi d
 | str (x:Str) (k:Nat):da=.str x→lo=none→hi=some k→(small x.cps.toList=true∧k≤x.length)→d=.str ⟨(x.cps.toList.take k).toArray⟩→CutI da lo hi d
theorem and_dec {p:Bool} {q:Prop} [Decidable q] (h:(p && decide q)=true):p=true∧q:=(Bool.and_eq_true_iff.mp h).imp id of_decide_eq_true
theorem cutD_inv {da d:D} {lo hi:Option Nat} (h:cutD da lo hi=some d):CutI da lo hi d:=by
 cases da <;> first | exact nos h | (cases lo <;> cases hi <;> first | exact nos h | skip)
 ·exact .str _ _ rfl rfl rfl (and_dec (lim_some h).1) (lim_some h).2
 ·exact .tup _ _ rfl rfl rfl (and_dec (lim_some h).1) (lim_some h).2
 ·exact .tupF _ _ rfl rfl rfl ((Bool.and_eq_true_iff.mp (lim_some h).1).imp id fun z=>(and_dec z).imp of_decide_eq_true id) (lim_some h).2
 ·exact .lst _ _ rfl rfl rfl (lim_some h).1 (lim_some h).2
 ·exact .raw _ _ rfl rfl rfl (lim_some h).1 (lim_some h).2
theorem size_le {vs:Array Value} {ds:List D} {M:Addr→Prop} (r:DRs prog w h M vs.toList ds) (hs:small ds=true):vs.size≤1000:=Nat.le_trans (Nat.le_of_eq r.length) (small_le hs)
theorem cut_lst {le ue:Option PySem.Expr} {x:PySem.Expr} {q:Pos} {a sl:Addr} {vs:Array Value} {k t:Nat} {ds:List D} (S:SR prog w b F s.heap ad σ) (hT:s.heap.IsList a vs) (r:DRs prog w s.heap (Mt ad F) vs.toList ds) (hs:small ds=true)
  (hsl:s.heap.IsSliceOf sl .none (.int k t) .none):wpAny (model prog w) A (subscriptTail x (.Slice le ue none q) (.ref a) (.ref sl)) (DP prog w b F L s ad σ (.lst (ds.take k))) E s:=by
 refine tail_any hT.typeIs slot_list_getitem.lookup (wpAny_getItem_list_slice hT hsl .none (.int _ _) .none (fun z=>nos z) ?_ (le_line (size_le r hs))) rfl
 rw [slicePick_upto']
 exact mk_lst (by simp) S (r.take _)
theorem cut_data {le ue:Option PySem.Expr} {x:PySem.Expr} {q:Pos} {lo hi:Option Nat} {u vl vu:Value} {sl:Addr} {t1 t2:Nat} {da d:D} (h:cutD da lo hi=some d) (S:SR prog w b F s.heap ad σ) (r0:DR prog w s.heap (Mt ad F) u da)
  (hvl:cutV lo t1 vl) (hvu:cutV hi t2 vu) (hsl:s.heap.IsSliceOf sl vl vu .none):wpAny (model prog w) A (subscriptTail x (.Slice le ue none q) u (.ref sl)) (DP prog w b F L s ad σ d) E s:=by
 cases cutD_inv h with
 | tupF ds k e1 e2 e3 hc e4 =>
  subst e1; subst e2; subst e3; subst e4
  obtain ⟨a',o,vs,n',rfl,e,c,dd,mm',r⟩:=r0.tupI
  have hT:=isTup_of e c dd
  cases hvl; cases hvu
  exact tail_any hT.typeIs slot_tuple_getitem.lookup (getItem_tuple_from hT hsl hc.2.1 (Nat.le_trans hc.2.2 (Nat.le_of_eq r.length.symm)) (mk_tup (by simp) S (r.drop _)) (le_line (size_le r hc.1))) rfl
 | tup ds k e1 e2 e3 hc e4 =>
  subst e1; subst e2; subst e3; subst e4
  obtain ⟨a',o,vs,n',rfl,e,c,dd,mm',r⟩:=r0.tupI
  have hT:=isTup_of e c dd
  cases hvl; cases hvu
  refine tail_any hT.typeIs slot_tuple_getitem.lookup (getItem_tuple_upto hT hsl (Nat.le_trans hc.2 (Nat.le_of_eq r.length.symm)) (fun hq=>?_) (mk_tup (by simp) S (r.take _)) (le_line (size_le r hc.1))) rfl
  rw [List.take_of_length_le (hq ▸ Nat.le_of_eq r.length.symm)]
  exact ⟨ad,Mv.refl,S,r0⟩
 | lst ds k e1 e2 e3 hc e4 =>
  subst e1; subst e2; subst e3; subst e4
  obtain ⟨a',o,vs,n',rfl,e,c,dd,mm',r⟩:=r0.lstI
  cases hvl; cases hvu
  exact cut_lst S (isList_of e c dd) r hc hsl
 | raw ds k e1 e2 e3 hc e4 =>
  subst e1; subst e2; subst e3; subst e4
  obtain ⟨a',o,vs,n',rfl,e,c,dd,mm',r⟩:=r0.rawI
  cases hvl; cases hvu
  exact cut_lst S (isList_of e c dd) r hc hsl
 | str z k e1 e2 e3 hc e4 =>
  subst e1; subst e2; subst e3; subst e4
  obtain ⟨t,rfl⟩:=r0.strI
  cases hvl; cases hvu
  refine tail_any (T := "str") rfl PySem.F.slot_str_getitem.lookup (wpAny_getItem_str_slice (l:=none) (u:=some ((k:Int),t2)) (st:=none) hsl rfl ?_) rfl
  unfold sliceMade
  split
  ·rename_i hq
   have hk:k=z.length:=by
    simp only [Option.map_none,Option.getD_none,beq_self_eq_true,Bool.true_and,beq_iff_eq,picked_len z hc.2] at hq
    exact hq
   have ez:(⟨(z.cps.toList.take k).toArray⟩:Str)=z:=by
    rw [List.take_of_length_le (by rw [hk]; simp [Str.length])]
   rw [ez]
   exact ⟨ad,Mv.refl,S,.str _ _⟩
  ·rw [picked_upto z hc.2]
   refine ⟨?_,⟨ad,Mv.tok _,S,.str _ _⟩⟩
   have hsm:=small_le hc.1
   exact le_line (by simp only [Str.length,List.size_toArray,List.length_take]; exact Nat.le_trans (Nat.min_le_right ..) hsm)
theorem ev_cut {l:Lv} {n:Nat} (ih:Ev prog w b l n) {a:X} {lo hi:Option Nat} {x:PySem.Expr} {le ue:Option PySem.Expr} {p q:Pos} {v:V} (hx:Enc sc a x) (hlo:cutC lo le=true) (hhi:cutC hi ue=true)
  (he:evE l env σ (.cut a lo hi)=some (v,σ')) (hA:Room A n) (hF:FR prog w b s.heap ad F sc renv env) (hS:SR prog w b F s.heap ad σ) :
  wpAny (model prog w) A (eval (.Subscript x (.Slice le ue none q) p) renv) (EP prog w b F renv.locals s ad σ' v) E s:=by
 obtain ⟨da,σ1,h1,he⟩:=bp he
 obtain ⟨d,h3,he⟩:=md he
 refine Subscript_ (wpAny_mono (ih.d hx h1 hA hF hS) (fun u s1 z=>?_) fun _ _ z=>z)
 obtain ⟨ad1,m1,S1,r1⟩:=z
 refine wpAny_Slice (cut_part hlo fun vl t1 hvl=>cut_part hhi fun vu t2 hvu=>?_)
 rw [evalPart_none]
 refine wpAny_pure ?_
 obtain ⟨m2,S2⟩:=sto_grow (L:=renv.locals) (t:=t2) S1 (push_keep { cls:=.type "slice", data:=.fields #[vl,vu,.none] })
 exact wpAny_mono (cut_data h3 S2 (r1.mv hF.ownL m2) hvl hvu (Heap.IsSliceOf.new ..)) (fun rv s3 z=>(pj he).1 ▸ (pj he).2 ▸ EP.of_data (z.after (m1.trans m2))) fun _ _ z=>z
end
section
variable {prog:Program} {w:World} {K:Frag} {mg mb:Str→Option Value} {b:Heap}
variable {h h':Heap} {F:Addr→Prop} {ad ad':Adr} {σ σ':Sto} {s s':Shared} {A:Around} {E:Value→Shared→Prop} {sc:Scope} {renv:Env} {env:Env'} {L:Addr}
noncomputable def Plain (es:List PySem.Expr) (renv:Env):Prop:=starEach es renv=es.map fun e=>(false,eval e renv)
theorem encL_plain {xs:List X} {es:List PySem.Expr} (hx:EncL sc xs es) (renv:Env):Plain es renv:=by
 induction xs generalizing es with
 | nil=>cases hx; rfl
 | cons x xs ih=>cases hx with | cons h r=>show starEach _ _=_; rw [enc_star h,ih r]; rfl
theorem Plain.back {es:List PySem.Expr} (h:Plain es renv) (p:Pos):backTo p (starEach es renv)=es.map fun e=>(false,eval e renv):=by
 rw [h]
 unfold backTo
 rw [List.map_map]
 apply List.map_congr_left
 intro e _
 rfl
theorem Plain.any {es:List PySem.Expr} (h:Plain es renv) (p:Pos):(backTo p (starEach es renv)).any (·.1)=false:=by
 rw [h.back,List.any_map]
 simp
theorem Plain.all {es:List PySem.Expr} (h:Plain es renv) (p:Pos):(backTo p (starEach es renv)).all (fun x=>!x.1)=true:=by
 rw [h.back,List.all_map]
 simp
theorem Plain.args {es:List PySem.Expr} (h:Plain es renv) {p:Pos} {f:Value} {M:Model} {Q:Args→Shared→Prop} (hs:wpAny M A (spliced (backTo p (starEach es renv))) (fun vs s'=>Q ⟨vs,[]⟩ s') E s) :
  wpAny M A (evalArgs f true (backTo p (starEach es renv)) []) Q E s:=by
 rw [h.back] at hs ⊢
 cases es with
 | nil =>
  unfold evalArgs
  show wpAny M A (spliced [] >>= _) Q E s
  refine wpAny_bind (wpAny_mono hs (fun vs s' h'=>?_) fun _ _ x=>x)
  first
   | (refine wpAny_holding ?_; exact wpAny_bind (wpAny_pure (wpAny_bind (wpAny_pure (wpAny_pure h')))))
   | (refine wpAny_bind (wpAny_pure ?_); refine wpAny_holding ?_; exact wpAny_bind (wpAny_pure (wpAny_bind (wpAny_pure (wpAny_pure h')))))
 | cons e r=>exact Calls.evalArgs_plain hs
theorem cw_builtin {es:List PySem.Expr} (h:Plain es renv) {p:Pos} {id:String} {first:List Value} {M:Model} {Q:Value→Shared→Prop}
  (hs:wpAny M A (spliced (backTo p (starEach es renv))) (fun vs s'=>wpAny M A (call (.builtin id) (first++vs)) Q E s') E s):wpAny M A (callWith p (.builtin id) first (backTo p (starEach es renv)) []) Q E s :=
 Calls.callWith_builtin (h.any p) (h.args hs)
theorem cw_type {es:List PySem.Expr} (h:Plain es renv) {p:Pos} {T:String} {first:List Value} {M:Model} {Q:Value→Shared→Prop}
  (hs:wpAny M A (spliced (backTo p (starEach es renv))) (fun vs s'=>wpAny M A (call (.type T) (first++vs)) Q E s') E s):wpAny M A (callWith p (.type T) first (backTo p (starEach es renv)) []) Q E s :=
 PyProof.Rows.callWith_type (h.any p) (h.args hs)
theorem cw_func {es:List PySem.Expr} (h:Plain es renv) {p:Pos} {a:Addr} {o:Obj} {fd:FuncData} (hd:o.data=.func fd) {first:List Value} {M:Model} {Q:Value→Shared→Prop}
  (hs:wpAny M A (spliced (backTo p (starEach es renv))) (fun vs s'=>s'.heap.get? a=some o∧wpAny M A (call (.ref a) (first++vs)) Q E s') E s):wpAny M A (callWith p (.ref a) first (backTo p (starEach es renv)) []) Q E s :=
 Calls.callWith_function (o:=o) (fd:=fd) (h.args (wpAny_mono hs (fun vs s₁ h₁=>⟨⟨h₁.1,hd⟩,h₁.2⟩) fun _ _ x=>x))
theorem base_of {x:PySem.Expr} (h:notCall x=true) (n:Str) (w':Sem Value):attributeBase x n renv w'=w':=by
 cases x <;> first | rfl | exact fls h
theorem meth_call {x:PySem.Expr} {es:List PySem.Expr} {name:Str} {T id:String} {p q:Pos} {Q:Value→Shared→Prop} (hn:notCall x=true) (hp:Plain es renv) (hlen:es.length < 30) (hl:(q.endLine == p.line)=true)
  (pa:PlainAttrs T) (sl:Slot T name id) (ty:typeOf (.builtin id)=pure (.type "method_descriptor"))
  (h:wpAny (model prog w) A (eval x renv) (fun ov s1=>s1.TypeIs ov T∧(∀ a,ov=.ref a→∃ ob,s1.heap.get? a=some ob∧ob.dict=none) ∧
   wpAny (model prog w) A (spliced (backTo p (starEach es renv))) (fun vs s2=>wpAny (model prog w) A (call (.builtin id) (ov::vs)) Q E s2) E s1) E s) :
  wpAny (model prog w) A (eval (.Call (.Attribute x name q) es [] p) renv) Q E s:=by
 refine wpAny_Call_method_late (trees:=backTo p (starEach es renv)) (base_of hn _ _) ?_ hl rfl (wpAny_mono h (fun ov s1 h1=>?_) fun _ _ z=>z)
 ·rw [hp.all]
  rw [show keywordEach [] renv=[] from rfl]
  simp [backToKw]
  exact hlen
 ·exact ⟨T,id,pa,sl,ty,h1.1,h1.2.1,cw_builtin hp h1.2.2⟩
theorem encL_len {xs:List X} {es:List PySem.Expr} (hx:EncL sc xs es):es.length=xs.length:=by
 induction xs generalizing es with
 | nil=>cases hx; rfl
 | cons x xs ih=>cases hx with | cons h r=>rw [List.length_cons,List.length_cons,ih r]
theorem encL_one {x:X} {e:PySem.Expr} (hx:Enc sc x e):EncL sc [x] [e]:=.cons hx .nil
theorem arg_one {l:Lv} {n:Nat} (ih:Ev prog w b l n) {p:Pos} {x:X} {e:PySem.Expr} {d:D} {Q:List Value→Shared→Prop} (hx:Enc sc x e) (he:evD l env σ x=some (d,σ')) (hA:Room A n)
  (hF:FR prog w b s.heap ad F sc renv env) (hS:SR prog w b F s.heap ad σ) (h:∀ v s' ad',Mv renv.locals s ad s' ad'→SR prog w b F s'.heap ad' σ'→DR prog w s'.heap (Mt ad' F) v d→Q [v] s') :
  wpAny (model prog w) A (spliced (backTo p (starEach [e] renv))) Q E s:=by
 refine wpAny_items_cons (wpAny_mono (ih.d hx he hA hF hS) (fun u s1 z=>?_) fun _ _ z=>z) (enc_star hx _ _)
 obtain ⟨ad1,m1,S1,r1⟩:=z
 exact wpAny_items_nil (h u s1 ad1 m1 S1 r1)
theorem isStr_self (x:Str) (t:Tok):(Value.str x t).isStr x=true:=by simp [Value.isStr]
theorem isStr_ne {x k:Str} (h:x ≠ k) (t:Tok):(Value.str k t).isStr x=false:=by simp [Value.isStr]; exact fun z=>h z.symm
theorem getL_hit {x:Str} {t:Tok} {e:DictEntry} {es:List DictEntry} (hk:e.key=.str x t):getL x (e::es)=some (some e.val):=by
 unfold getL; rw [List.find?_cons,hk,isStr_self]
theorem getL_miss {x k:Str} {t:Tok} {e:DictEntry} {es:List DictEntry} {v:Value} (hk:e.key=.str k t) (hx:x ≠ k) (hv:getL x es=some (some v)):getL x (e::es)=some (some v):=by
 unfold getL at hv ⊢
 rw [List.find?_cons,hk,isStr_ne hx]
 dsimp only
 split at hv <;> rename_i hf
 ·rw [hf]; exact hv
 ·split at hv <;> cases hv
inductive ConsI {α:Type} (R:Value→α→Prop) (Rs:List Value→List α→Prop) (v:Value) (vs:List Value) (ds:List α):Prop
 | mk (d:α) (r:List α):ds=d::r→R v d→Rs vs r→ConsI R Rs v vs ds
theorem keys_look {R:Value→α→Prop} {Rs:List Value→List α→Prop} (hR:∀ {v vs ds},Rs (v::vs) ds→ConsI R Rs v vs ds) (hN:∀ {ds},Rs [] ds→ds=[]) {x:Str} {d:α} :
  ∀ {es:List DictEntry} {ks:List Str} {ds:List α},KeysAre es ks→Rs (es.map (·.val)) ds→look x ks ds=some d→∃ v,getL x es=some (some v)∧R v d:=by
 intro es
 induction es with
 | nil =>
  intro ks ds k r e
  rcases ks with _ | ⟨k0,ks⟩
  ·rw [hN r] at e; exact nos e
  ·exact k.elim
 | cons e es ih =>
  intro ks ds k r q
  rcases ks with _ | ⟨k0,ks⟩
  ·exact k.elim
  ·obtain ⟨⟨t,hk⟩,k2⟩:=k
   obtain ⟨d0,r0,rfl,h1,h2⟩:=hR r
   have q:(if x=k0 then some d0 else look x ks r0)=some d:=q
   by_cases hx:x=k0
   ·rw [if_pos hx] at q
    exact ⟨_,getL_hit (hx ▸ hk),so1 q ▸ h1⟩
   ·rw [if_neg hx] at q
    obtain ⟨v,hv,hr⟩:=ih k2 h2 q
    exact ⟨v,getL_miss hk hx hv,hr⟩
theorem DRs.inv {M:Addr→Prop} {v:Value} {vs:List Value} {ds:List D} (x:DRs prog w h M (v::vs) ds):ConsI (fun v d=>DR prog w h M v d) (fun vs ds=>DRs prog w h M vs ds) v vs ds:=by
 cases x with | cons a b=>exact ⟨_,_,rfl,a,b⟩
theorem VRs.inv {v:Value} {vs:List Value} {ds:List V} (x:VRs prog w h ad F (v::vs) ds):ConsI (fun v d=>VR prog w h ad F v d) (fun vs ds=>VRs prog w h ad F vs ds) v vs ds:=by
 cases x with | cons a b=>exact ⟨_,_,rfl,a,b⟩
theorem VR.handed {v:Value} {d:V} (x:VR prog w h ad F v d):handedIn v=true:=by
 induction x using VR.casesOn with
 | d r=>cases r <;> rfl
 | loc=>rfl
theorem keys_len:∀ {es:List DictEntry} {ks:List Str},KeysAre es ks→es.length=ks.length:=by
 intro es
 induction es with
 | nil =>
  intro ks k
  rcases ks with _ | ⟨k0,ks⟩
  ·rfl
  ·exact k.elim
 | cons e es ih =>
  intro ks k
  rcases ks with _ | ⟨k0,ks⟩
  ·exact k.elim
  ·exact congrArg (·+1) (ih k.2)
theorem putL_hit {x:Str} {hsh:Int} {kv v:Value} {t:Tok} {e:DictEntry} {es:List DictEntry} (hk:e.key=.str x t):putL x hsh kv v (e::es)={ e with val:=v }::es:=by
 unfold putL; rw [hk,isStr_self,if_pos rfl]
theorem putL_miss {x k:Str} {hsh:Int} {kv v:Value} {t:Tok} {e:DictEntry} {es:List DictEntry} (hk:e.key=.str k t) (hx:x ≠ k):putL x hsh kv v (e::es)=e::putL x hsh kv v es:=by
 rw [putL,hk,isStr_ne hx,if_neg Bool.false_ne_true]
inductive KPut {α:Type} (Rs:List Value→List α→Prop) (es':List DictEntry) (n:Nat) (p:List Str × List α):Prop
 | mk:KeysAre es' p.1→Rs (es'.map (·.val)) p.2→es'.length≤n+1→KPut Rs es' n p
theorem keys_put {x:Str} {hsh:Int} {t:Tok} {v:Value} {d:α} {R:Value→α→Prop} {Rs:List Value→List α→Prop} (hR:∀ {v vs ds},Rs (v::vs) ds→ConsI R Rs v vs ds) (hN:∀ {ds},Rs [] ds→ds=[]) (hC:∀ {v vs d ds},R v d→Rs vs ds→Rs (v::vs) (d::ds)) (h0:Rs [] []) (hv:R v d) :
  ∀ {es:List DictEntry} {ks:List Str} {ds:List α},KeysAre es ks→Rs (es.map (·.val)) ds→KPut Rs (putL x hsh (.str x t) v es) ks.length (put x d ks ds):=by
 intro es
 induction es with
 | nil =>
  intro ks ds k r
  rcases ks with _ | ⟨k0,ks⟩
  ·rw [hN r]; exact ⟨⟨⟨t,rfl⟩,trivial⟩,hC hv h0,by simp [putL]⟩
  ·exact k.elim
 | cons e es ih =>
  intro ks ds k r
  rcases ks with _ | ⟨k0,ks⟩
  ·exact k.elim
  ·obtain ⟨⟨t0,hk⟩,k2⟩:=k
   obtain ⟨d0,r0,rfl,h1,h2⟩:=hR r
   rw [put_c]
   by_cases hx:x=k0
   ·rw [if_pos hx,putL_hit (hx ▸ hk)]
    exact ⟨⟨⟨t0,hk⟩,k2⟩,hC hv h2,Nat.le_succ_of_le (Nat.le_of_eq (congrArg (·+1) (keys_len k2)))⟩
   ·rw [if_neg hx,putL_miss hk hx]
    obtain ⟨a1,a2,a3⟩:=ih k2 h2
    exact ⟨⟨⟨t0,hk⟩,a1⟩,hC h1 a2,Nat.succ_le_succ a3⟩
theorem keys_some {x:Str}:∀ {es:List DictEntry} {ks:List Str},KeysAre es ks→(getL x es).isSome=true:=by
 intro es ks k
 unfold getL
 split
 ·rfl
 ·have:es.any (·.refKey)=false:=by
   rename_i hnone
   clear hnone
   induction es generalizing ks with
   | nil=>rfl
   | cons e es ih =>
    cases ks with
    | nil=>exact k.elim
    | cons k0 ks =>
     obtain ⟨⟨t,hk⟩,k2⟩:=k
     rw [List.any_cons,ih k2]
     simp [DictEntry.refKey,hk]
  rw [this]; rfl
inductive AttrI (l:Lv) (env:Env') (σ:Sto) (a:X) (f:Str) (v:V) (σ':Sto):Prop
 | dat (c:Addr) (ks:List Str) (ds:List D) (d:D):l.e env σ a=some (.d (.obj c ks ds),σ')→look f ks ds=some d→V.d d=v→AttrI l env σ a f v σ'
 | cell (n:Nat) (c:Addr) (ks:List Str) (vs:List V):l.e env σ a=some (.loc n,σ')→σ'[n]?=some (.obj c ks vs)→look f ks vs=some v→AttrI l env σ a f v σ'
theorem attr_inv {l:Lv} {a:X} {f:Str} {v:V} (he:evE l env σ (.attr a f)=some (v,σ')):AttrI l env σ a f v σ':=by
 obtain ⟨va,σ1,h1,he⟩:=bp he
 obtain ⟨v',h3,h4⟩:=md he
 have e2:σ1=σ':=(pj h4).2
 subst e2
 obtain rfl:v'=v:=(pj h4).1
 clear h4 he
 induction va using V.casesOn with
 | d da =>
  induction da using D.casesOn with
  | obj c ks ds =>
   obtain ⟨d,h,e⟩:=md h3
   exact .dat c ks ds d h1 h e
  | _=>exact nos h3
 | loc n =>
  have h3:(match σ1[n]? with | some (.obj _ ks vs)=>look f ks vs | _=>none)=some v':=h3
  cases e:σ1[n]? with
  | none=>rw [e] at h3; exact nos h3
  | some c=>rw [e] at h3; induction c using Cell.casesOn with
   | obj c ks vs=>exact .cell n c ks vs h1 e h3
   | _=>exact nos h3
theorem attr_ok {x:PySem.Expr} (hc:notCall x=true) {f:Str} {p:Pos}:eval (.Attribute x f p) renv=(do let o ← eval x renv; standAt p.atName; let r ← holding [o] (getAttr o f true); letTemporaryGo x o r; pure r):=by
 cases x <;> first | rfl | exact fls hc
theorem ev_attr {l:Lv} {n:Nat} (G:Gd prog w K mg mb b) (ih:Ev prog w b l n) {a:X} {x:PySem.Expr} {f:Str} {p:Pos} {v:V} (hf:f ∈ fldNs) (hc:notCall x=true) (hx:Enc sc a x)
  (he:evE l env σ (.attr a f)=some (v,σ')) (hA:Room A n) (hF:FR prog w b s.heap ad F sc renv env) (hS:SR prog w b F s.heap ad σ) :
  wpAny (model prog w) A (eval (.Attribute x f p) renv) (EP prog w b F renv.locals s ad σ' v) E s:=by
 cases attr_inv he with
 | dat c ks ds d h1 h3 e =>
  refine Attribute_any_ (wpAny_mono (ih _ _ _ hx _ _ _ _ h1 _ _ _ _ _ _ hA hF hS) (fun u s1 z=>?_) fun _ _ z=>z) (attr_ok hc)
  obtain ⟨ad1,m1,S1,r1⟩:=z
  obtain ⟨m,hn,Fb⟩:=(hF.mv hS m1).fr S1
  obtain ⟨a',dx,es,n',rfl,hcl,e1,e2,m1',m2',hk,hr⟩:=r1.dI.objI
  obtain ⟨rv,hv,rr⟩:=keys_look (R:=fun v d=>DR prog w s1.heap (Mt ad1 F) v d) (Rs:=fun v d=>DRs prog w s1.heap (Mt ad1 F) v d) DRs.inv (fun q=>by cases q; rfl) hk hr h3
  exact get_own Fb G.X (ox:=instObj c dx) ⟨e1,rfl,rfl,e2⟩ (G.atGet _ hcl _) (G.atHas _ hcl) (G.atNo _ hcl _ hf) rfl hv (VR.handed (F:=F) (ad:=ad1) (.d rr)) (e ▸ ⟨ad1,m1.trans (Mv.tok _),S1,.d rr⟩)
 | cell n' c ks vs h1 hcell h3 =>
  refine Attribute_any_ (wpAny_mono (ih _ _ _ hx _ _ _ _ h1 _ _ _ _ _ _ hA hF hS) (fun u s1 z=>?_) fun _ _ z=>z) (attr_ok hc)
  obtain ⟨ad1,m1,S1,r1⟩:=z
  obtain ⟨m,hn,Fb⟩:=(hF.mv hS m1).fr S1
  obtain ⟨a',l',rfl,hl',cr⟩:=loc_get S1 r1 hcell Cell.noConfusion
  obtain ⟨d,es,n,rfl,hcl,e1,e2,hk,hr⟩:=cr.objI
  obtain ⟨rv,hv,rr⟩:=keys_look (R:=fun v d=>VR prog w s1.heap ad1 F v d) (Rs:=fun v d=>VRs prog w s1.heap ad1 F v d) VRs.inv (fun q=>by cases q; rfl) hk hr h3
  exact get_own Fb G.X (ox:=instObj c d) ⟨e1,rfl,rfl,e2⟩ (G.atGet _ hcl _) (G.atHas _ hcl) (G.atNo _ hcl _ hf) rfl hv rr.handed ⟨ad1,m1.trans (Mv.tok _),S1,rr⟩
end
section
variable {prog:Program} {w:World} {K:Frag} {mg mb:Str→Option Value} {b:Heap}
variable {h h':Heap} {F:Addr→Prop} {ad ad':Adr} {σ σ':Sto} {s s':Shared} {A:Around} {E:Value→Shared→Prop} {sc:Scope} {renv:Env} {env:Env'} {L:Addr}
theorem lstAt_inv {v:V} {n:Nat} {ds:List D} (h:lstAt v σ=some (n,ds)):v=.loc n∧σ[n]?=some (.lst ds):=by
 induction v using V.casesOn with
 | d=>exact nos h
 | loc m =>
  have h:(match σ[m]? with | some (.lst ds)=>some (m,ds) | _=>none)=some (n,ds):=h
  cases e:σ[m]? with
  | none=>rw [e] at h; exact nos h
  | some c=>rw [e] at h; induction c using Cell.casesOn with
   | lst d=>obtain ⟨rfl,rfl⟩:=so2 h; exact ⟨rfl,e⟩
   | _=>exact nos h
theorem dctAt_inv {v:V} {n:Nat} {ks:List Str} {ds:List D} (h:dctAt v σ=some (n,ks,ds)):v=.loc n∧σ[n]?=some (.dct ks ds):=by
 induction v using V.casesOn with
 | d=>exact nos h
 | loc m =>
  have h:(match σ[m]? with | some (.dct ks ds)=>some (m,ks,ds) | _=>none)=some (n,ks,ds):=h
  cases e:σ[m]? with
  | none=>rw [e] at h; exact nos h
  | some c=>rw [e] at h; induction c using Cell.casesOn with
   | dct k d=>obtain ⟨rfl,rfl,rfl⟩:=so3 h; exact ⟨rfl,e⟩
   | _=>exact nos h
theorem VR.refI {rv:Value} {v:V} {n:Nat} (x:VR prog w h ad F rv v) (e:v=.loc n):∃ a,rv=.ref a:=by
 subst e; cases x; exact ⟨_,rfl⟩
inductive LstA (prog:Program) (w:World) (h:Heap) (ad:Adr) (F:Addr→Prop) (a:Addr) (n:Nat) (ds:List D):Prop
 | mk (vs:Array Value) (k:Nat):ad[n]?=some [a]→h.get? a=some (seqObj "list" vs k)→DRs prog w h (Mt ad F) vs.toList ds→LstA prog w h ad F a n ds
theorem lst_at (hS:SR prog w b F s.heap ad σ) {a:Addr} {v:V} {n:Nat} {ds:List D} (x:VR prog w s.heap ad F (.ref a) v) (hc:lstAt v σ=some (n,ds)):LstA prog w s.heap ad F a n ds:=by
 obtain ⟨a',l',e1,hl',cr⟩:=loc_get hS ((lstAt_inv hc).1 ▸ x) (lstAt_inv hc).2 Cell.noConfusion
 obtain ⟨vs,k,e2,ho,r⟩:=cr.lstI
 have e1:=Value.ref.inj e1
 exact ⟨vs,k,by rw [hl',e1,e2],e1 ▸ ho,r⟩
inductive DctA (prog:Program) (w:World) (h:Heap) (ad:Adr) (F:Addr→Prop) (a:Addr) (n:Nat) (ks:List Str) (ds:List D):Prop
 | mk (o:Obj) (kvs:List (Str × Value)):ad[n]?=some [a]→h.get? a=some o→o.IsDictOf (PySem.strKind prog w) kvs→(a == sysModules)=false→kvs.map (·.1)=ks→DRs prog w h (Mt ad F) (kvs.map (·.2)) ds→DctA prog w h ad F a n ks ds
theorem dct_at (hS:SR prog w b F s.heap ad σ) {a:Addr} {v:V} {n:Nat} {ks:List Str} {ds:List D} (x:VR prog w s.heap ad F (.ref a) v) (hc:dctAt v σ=some (n,ks,ds)):DctA prog w s.heap ad F a n ks ds:=by
 obtain ⟨a',l',e1,hl',cr⟩:=loc_get hS ((dctAt_inv hc).1 ▸ x) (dctAt_inv hc).2 Cell.noConfusion
 obtain ⟨o,kvs,e2,ho,hd,hm,hk,r⟩:=cr.dctI
 have e1:=Value.ref.inj e1
 exact ⟨o,kvs,by rw [hl',e1,e2],e1 ▸ ho,hd,e1 ▸ hm,hk,r⟩
theorem size_app {M:Addr→Prop} {vs:Array Value} {ds es:List D} (r:DRs prog w h M vs.toList ds) (hz:small (ds++es)=true):vs.size+es.length≤1000:=by
 have:=small_le hz
 rw [List.length_append,← r.length] at this
 exact this
theorem size_app1 {M:Addr→Prop} {vs:Array Value} {ds es:List D} (r:DRs prog w h M vs.toList ds) (hz:small (ds++es)=true):vs.size≤1000:=Nat.le_trans (Nat.le_add_right _ _) (size_app r hz)
theorem obj_eq {o:Obj} {x:Value} {y:Data} (c:o.cls=x) (d:o.data=y):o=⟨x,o.dict,y,o.slots⟩:=by subst c; subst d; rfl
theorem lst_put {n k k':Nat} {a:Addr} {vs vs':Array Value} {ds':List D} {t:Nat} (hL:F L) (hS:SR prog w b F s.heap ad σ) (hl:ad[n]?=some [a]) (ho:s.heap.get? a=some (seqObj "list" vs k))
  (hk:∀ c o,c ≠ a→s.heap.get? c=some o→h'.get? c=some o) (h1:h'.get? a=some (seqObj "list" vs' k')) (hr:DRs prog w s.heap (Mt ad F) vs'.toList ds') :
  Mv L s ad { s with heap:=h',toks:=t } ad∧SR prog w b F h' ad (σ.set n (.lst ds')):=by
 refine sto_set hL hS hl (fun c o hc e=>hk c o (fun z=>hc (by rw [z]; exact .head _)) e) (.lst h1 (hr.mono fun c o m e=>⟨hk c o (fun z=>m (.inl ⟨[a],List.mem_of_getElem? hl,by rw [z]; exact .head _⟩)) e,m⟩))
theorem upd_keep {a:Addr} {f:Obj→Obj}:∀ c o,c ≠ a→s.heap.get? c=some o→(s.heap.update a f).get? c=some o:=fun c o hc e=>(Heap.get?_update_other _ f (Ne.symm hc)).trans e
theorem ev_app {l:Lv} {n:Nat} (ih:Ev prog w b l n) {o v':X} {x y:PySem.Expr} {p q:Pos} {v:V} (hc:notCall x=true) (hx:Enc sc o x) (hy:Enc sc v' y) (hl:(q.endLine == p.line)=true)
  (he:evE l env σ (.app o v')=some (v,σ')) (hA:Room A n) (hF:FR prog w b s.heap ad F sc renv env) (hS:SR prog w b F s.heap ad σ) :
  wpAny (model prog w) A (eval (.Call (.Attribute x (Str.ofString "append") q) [y] [] p) renv) (EP prog w b F renv.locals s ad σ' v) E s:=by
 obtain ⟨vo,σ1,h1,he⟩:=bp he
 obtain ⟨n0,ds0,h3,he⟩:=bp he
 obtain ⟨d,σ2,h5,he⟩:=bp he
 obtain ⟨n1,ds,h7,he⟩:=bp he
 obtain ⟨hz,h9⟩:=lim_some he
 refine meth_call hc (encL_plain (encL_one hy) renv) (by simp) hl PySem.F.plainAttrs_list PySem.F.slot_list_append PySem.F.type_list_append (wpAny_mono (ih _ _ _ hx _ _ _ _ h1 _ _ _ _ _ _ hA hF hS) (fun u s1 z=>?_) fun _ _ z=>z)
 obtain ⟨ad1,m1,S1,r1⟩:=z
 obtain ⟨a,rfl⟩:=r1.refI (lstAt_inv h3).1
 obtain ⟨vs,k,_,ho,_⟩:=lst_at S1 r1 h3
 refine ⟨⟨_,ho,rfl⟩,fun a' e=>⟨_,Value.ref.inj e ▸ ho,rfl⟩,arg_one ih hy h5 hA (hF.mv hS m1) S1 fun dv s2 ad2 m2 S2 r2=>?_⟩
 obtain ⟨vs2,k2,hl2,ho2,hr2⟩:=lst_at S2 (r1.mv hF.ownL m2) h7
 refine call_meets PySem.F.slot_list_append ⟨_,ho2,rfl⟩ PySem.F.entry_list_append (PySem.F.args_list_append_2 _ _) (PySem.list_append a vs2 k2 dv (le_line (size_app1 hr2 hz))) ⟨ho2,?_⟩
 obtain ⟨m3,S3⟩:=lst_put (L:=renv.locals) (t:=s2.toks) hF.ownL S2 hl2 ho2 upd_keep (PySem.IsL.update ho2 (·.push dv)) (by simpa using hr2.append (.cons r2 .nil))
 exact (pj h9).1 ▸ (pj h9).2 ▸ ⟨ad2,(m1.trans m2).trans m3,S3,.d .none⟩
theorem extend_any (l:Addr) (items:Array Value) (n:Nat) (b:Addr) (items2:Array Value) (n2:Nat) (dd:Option Addr) (sl:Array (Option Value)) (hc0:¬(!items.isEmpty && Builtin.List.listTooLong (items.size+items2.size))=true) (hc1:items.size≤sizeLine) (hs2:items.size+items2.size≤sizeLine+1) :
  Meets (Builtin.«list.extend» ⟨[.ref l,.ref b],[]⟩) (fun _ R s=>s.heap.get? l=some { cls:=.type "list", dict:=none,data:=.seq items n,slots:=#[] }∧s.heap.get? b=some { cls:=.type "list", dict:=dd,data:=.seq items2 n2,slots:=sl }∧R (.ok (.ret Value.none)) { s with heap:=s.heap.update l (Obj.mapSeq fun x=>x++items2),toks:=s.toks }) :=
 .of_wp fun prog w A R s h=>by
  obtain ⟨hp,g,d,tk,os⟩:=s; obtain ⟨hl,hb,h⟩:=h; have f1:=AutoSeq1.idx_int; have f2:=AutoSeq1.sub_tuple_tuple; have f3:=AutoSeq1.sub_list_list; have f4:=AutoSeq1.sub_tuple_list; have f5:=AutoSeq1.sub_list_tuple;
  have hz':(items++items2).size≤sizeLine+1:=by rw [Array.size_append]; exact hs2
  wp_walk using (wpAny_updateSeq hl rfl (hz:=hc1) (_hz':=hz')),AutoSeq1.wpAny_loadPart' hl,AutoSeq1.wpAny_loadPart' hb; exact ⟨_,rfl,h⟩
theorem lst_of {d:D} {es:List D} (h:(match d with | .lst es=>some es | _=>none)=some es):d=.lst es:=by
 induction d using D.casesOn with
 | lst=>rw [so1 h]
 | _=>exact nos h
theorem ev_ext {l:Lv} {n:Nat} (ih:Ev prog w b l n) {o v':X} {x y:PySem.Expr} {p q:Pos} {v:V} (hc:notCall x=true) (hx:Enc sc o x) (hy:Enc sc v' y) (hl:(q.endLine == p.line)=true)
  (he:evE l env σ (.ext o v')=some (v,σ')) (hA:Room A n) (hF:FR prog w b s.heap ad F sc renv env) (hS:SR prog w b F s.heap ad σ) :
  wpAny (model prog w) A (eval (.Call (.Attribute x (Str.ofString "extend") q) [y] [] p) renv) (EP prog w b F renv.locals s ad σ' v) E s:=by
 obtain ⟨vo,σ1,h1,he⟩:=bp he
 obtain ⟨n0,ds0,h3,he⟩:=bp he
 obtain ⟨d,σ2,h5,he⟩:=bp he
 obtain ⟨n1,ds,h7,he⟩:=bp he
 obtain ⟨es,h9,he⟩:=bd he
 obtain ⟨hz,h11⟩:=lim_some he
 have ed:d=.lst es:=lst_of h9
 refine meth_call hc (encL_plain (encL_one hy) renv) (by simp) hl PySem.F.plainAttrs_list PySem.F.slot_list_extend PySem.F.type_list_extend (wpAny_mono (ih _ _ _ hx _ _ _ _ h1 _ _ _ _ _ _ hA hF hS) (fun u s1 z=>?_) fun _ _ z=>z)
 obtain ⟨ad1,m1,S1,r1⟩:=z
 obtain ⟨a,rfl⟩:=r1.refI (lstAt_inv h3).1
 obtain ⟨vs,k,_,ho,_⟩:=lst_at S1 r1 h3
 refine ⟨⟨_,ho,rfl⟩,fun a' e=>⟨_,Value.ref.inj e ▸ ho,rfl⟩,arg_one ih hy h5 hA (hF.mv hS m1) S1 fun dv s2 ad2 m2 S2 r2=>?_⟩
 obtain ⟨vs2,k2,hl2,ho2,hr2⟩:=lst_at S2 (r1.mv hF.ownL m2) h7
 obtain ⟨a3,o3,vs3,n3,rfl,e3,c3,d3,mm3,r3⟩:=(ed ▸ r2).lstI
 have e5:vs3.size=es.length:=r3.length
 have hsz:vs2.size+vs3.size≤1000:=e5 ▸ size_app hr2 hz
 have hs2:=le_line (size_app1 hr2 hz)
 refine call_meets PySem.F.slot_list_extend ⟨_,ho2,rfl⟩ PySem.F.entry_list_extend (PySem.F.args_list_extend_2 _ _) (extend_any a vs2 k2 a3 vs3 n3 o3.dict o3.slots (extend_door (le_line hsz)) hs2 (Nat.le_succ_of_le (le_line hsz))) ⟨ho2,obj_eq c3 d3 ▸ e3,?_⟩
 obtain ⟨m3,S3⟩:=lst_put (L:=renv.locals) (t:=s2.toks) hF.ownL S2 hl2 ho2 upd_keep (PySem.IsL.update ho2 (·++vs3)) (by simpa using hr2.append r3)
 exact (pj h11).1 ▸ (pj h11).2 ▸ ⟨ad2,(m1.trans m2).trans m3,S3,.d .none⟩
theorem last_pop {xs:Array Value} (h:xs.size ≠ 0):(xs.eraseIdxIfInBounds (xs.size - 1)).toList=xs.toList.dropLast:=by
 have hb:xs.size - 1 < xs.size:=Nat.sub_lt (Nat.pos_of_ne_zero h) Nat.one_pos
 rw [Array.eraseIdxIfInBounds,dif_pos hb,Array.toList_eraseIdx,List.eraseIdx_eq_dropLast (by rw [Array.length_toList]; exact Nat.sub_add_cancel (Nat.pos_of_ne_zero h))]
theorem ev_pop {l:Lv} {n:Nat} (ih:Ev prog w b l n) {o:X} {x:PySem.Expr} {p q:Pos} {v:V} (hc:notCall x=true) (hx:Enc sc o x) (hl:(q.endLine == p.line)=true)
  (he:evE l env σ (.pop o)=some (v,σ')) (hA:Room A n) (hF:FR prog w b s.heap ad F sc renv env) (hS:SR prog w b F s.heap ad σ) :
  wpAny (model prog w) A (eval (.Call (.Attribute x (Str.ofString "pop") q) [] [] p) renv) (EP prog w b F renv.locals s ad σ' v) E s:=by
 obtain ⟨vo,σ1,h1,he⟩:=bp he
 obtain ⟨n0,ds,h3,he⟩:=bp he
 obtain ⟨d,h5,he⟩:=bd he
 obtain ⟨hz,h9⟩:=lim_some he
 refine meth_call (es:=[]) hc rfl (by simp) hl PySem.F.plainAttrs_list PySem.F.slot_list_pop PySem.F.type_list_pop (wpAny_mono (ih _ _ _ hx _ _ _ _ h1 _ _ _ _ _ _ hA hF hS) (fun u s1 z=>?_) fun _ _ z=>z)
 obtain ⟨ad1,m1,S1,r1⟩:=z
 obtain ⟨a,rfl⟩:=r1.refI (lstAt_inv h3).1
 obtain ⟨vs,k,hl1,ho,hr⟩:=lst_at S1 r1 h3
 refine ⟨⟨_,ho,rfl⟩,fun a' e=>⟨_,Value.ref.inj e ▸ ho,rfl⟩,wpAny_items_nil ?_⟩
 have hlen:vs.size=ds.length:=hr.length
 have h5:ds[ds.length - 1]?=some d:=List.getLast?_eq_getElem?.symm.trans h5
 obtain ⟨rv,hv,rr⟩:=hr.get h5
 have hne:vs.size ≠ 0:=fun z=>absurd (List.getElem?_eq_some_iff.mp h5).1 (by rw [← hlen,z]; exact Nat.lt_irrefl 0)
 refine call_meets PySem.F.slot_list_pop ⟨_,ho,rfl⟩ PySem.F.entry_list_pop (PySem.F.args_list_pop_1 _) (PySem.MeetsSeq.list_pop_last a vs k rv ((Array.getElem?_toList ..).symm.trans (hlen ▸ hv)) (le_line (size_le hr hz))) ⟨ho,?_⟩
 obtain ⟨m3,S3⟩:=lst_put (L:=renv.locals) (t:=s1.toks) hF.ownL S1 hl1 ho upd_keep (PySem.IsL.update ho (·.eraseIdxIfInBounds (vs.size - 1))) (by rw [last_pop hne]; exact hr.dropLast)
 exact (pj h9).1 ▸ (pj h9).2 ▸ ⟨ad1,m1.trans m3,S3,.d (rr.mv hF.ownL m3)⟩
theorem any_keys (kvs:List (Str × Value)) (x:Str):(kvs.any fun kv=>decide (kv.1=x))=(kvs.map (·.1)).contains x:=by
 induction kvs with
 | nil=>rfl
 | cons p r ih =>
  rw [List.any_cons,ih,List.map_cons,List.contains_cons]
  congr 1
  by_cases h:p.1=x
  ·simp [h]
  ·rw [decide_eq_false h]
   exact (beq_eq_false_iff_ne.mpr fun q=>h q.symm).symm
theorem put_new {α:Type} {x:Str} {v:α}:∀ {ks:List Str} {ds:List α},ks.length=ds.length→x ∉ ks→put x v ks ds=(ks++[x],ds++[v]):=by
 intro ks
 induction ks with
 | nil=>intro ds h _; cases ds with
  | nil=>rfl
  | cons=>simp at h
 | cons k ks ih =>
  intro ds h hx
  cases ds with
  | nil=>simp at h
  | cons d ds =>
   rw [put_c,if_neg (fun z=>hx (by rw [z]; exact .head _)),ih (by simpa using h) (fun z=>hx (.tail _ z))]
   rfl
theorem map_same {x:Str} {v:Value}:∀ {kvs:List (Str × Value)},x ∉ kvs.map (·.1)→(kvs.map fun kv=>if kv.1=x then (kv.1,v) else kv)=kvs:=by
 intro kvs
 induction kvs with
 | nil=>intro _; rfl
 | cons p r ih =>
  intro hx
  rw [List.map_cons,if_neg (fun z=>hx (by rw [← z]; exact .head _)),ih fun z=>hx (.tail _ z)]
theorem put_hit {α:Type} {x:Str} {v d:α} {ks:List Str} {ds:List α}:put x v (x::ks) (d::ds)=(x::ks,v::ds):=if_pos rfl
theorem put_miss {α:Type} {x k:Str} (h:x ≠ k) {v d:α} {ks:List Str} {ds:List α}:put x v (k::ks) (d::ds)=(k::(put x v ks ds).1,d::(put x v ks ds).2):=if_neg h
theorem stored_put {M:Addr→Prop} {x:Str} {v:Value} {d:D}:∀ {kvs:List (Str × Value)} {ds:List D},(kvs.map (·.1)).Nodup→DRs prog w h M (kvs.map (·.2)) ds→DR prog w h M v d →
  (stored kvs x v).map (·.1)=(put x d (kvs.map (·.1)) ds).1∧DRs prog w h M ((stored kvs x v).map (·.2)) (put x d (kvs.map (·.1)) ds).2:=by
 intro kvs ds hn hr hv
 unfold stored
 rw [any_keys]
 by_cases hx:x ∈ kvs.map (·.1)
 ·rw [if_pos (List.contains_iff_mem.mpr hx)]
  induction kvs generalizing ds with
  | nil=>cases hx
  | cons p r ih =>
   obtain ⟨d0,r0,rfl,h1,h2⟩:=DRs.inv hr
   rw [List.map_cons,List.nodup_cons] at hn
   rw [List.map_cons,List.map_cons]
   by_cases hp:x=p.1
   ·subst hp
    rw [if_pos rfl,map_same hn.1,List.map_cons,put_hit]
    exact ⟨rfl,.cons hv h2⟩
   ·rw [if_neg (fun z=>hp z.symm),List.map_cons,put_miss hp]
    rw [List.map_cons] at hx
    obtain ⟨a1,a2⟩:=ih hn.2 h2 (by rcases List.mem_cons.mp hx with z | z; exact absurd z hp; exact z)
    exact ⟨by rw [a1],.cons h1 a2⟩
 ·rw [if_neg (fun z=>hx (List.contains_iff_mem.mp z)),put_new (by rw [List.length_map,← hr.length,List.length_map]) hx]
  refine ⟨by simp,?_⟩
  rw [List.map_append]
  exact hr.append (.cons hv .nil)
theorem look_none:∀ {kvs:List (Str × Value)} {ds:List D} {M:Addr→Prop} {x:Str},DRs prog w h M (kvs.map (·.2)) ds→look x (kvs.map (·.1)) ds=none→valueAt kvs x=none:=by
 intro kvs
 induction kvs with
 | nil=>intro ds M x r e; rfl
 | cons p rest ih =>
  intro ds M x r e
  obtain ⟨d0,r0,rfl,h1,h2⟩:=DRs.inv r
  rw [List.map_cons,look_c] at e
  unfold valueAt
  rw [List.find?_cons]
  by_cases hx:x=p.1
  ·rw [if_pos hx] at e; cases e
  ·rw [if_neg hx] at e
   rw [decide_eq_false (fun z=>hx z.symm)]
   exact ih h2 e
theorem dct_put {n:Nat} {a:Addr} {kvs:List (Str × Value)} {ks:List Str} {ds':List D} {t:Nat} (hL:F L) (hS:SR prog w b F s.heap ad σ) (hl:ad[n]?=some [a])
  (hk:Heap.SameBut a s.heap h') (h1:h'.DictOf (PySem.strKind prog w) a kvs) (hm:(a == sysModules)=false) (hks:kvs.map (·.1)=ks) (hr:DRs prog w s.heap (Mt ad F) (kvs.map (·.2)) ds') :
  Mv L s ad { s with heap:=h',toks:=t } ad∧SR prog w b F h' ad (σ.set n (.dct ks ds')):=by
 obtain ⟨o,ho,hd⟩:=Heap.dictOf_iff.mp h1
 refine sto_set hL hS hl (fun c o hc e=>hk.extBut c o (fun z=>hc (by rw [z]; exact .head _)) e) (.dct ho hd hm hks (hr.mono fun c o m e=>⟨hk.extBut c o (fun z=>m (.inl ⟨[a],List.mem_of_getElem? hl,by rw [z]; exact .head _⟩)) e,m⟩))
theorem args_two {l:Lv} {n:Nat} (ih:Ev prog w b l n) {p:Pos} {x y:X} {e e':PySem.Expr} {r q:D × Sto} {Q:List Value→Shared→Prop} (hx:Enc sc x e) (hy:Enc sc y e') (h1:evD l env σ x=some r) (h2:evD l env r.2 y=some q) (hA:Room A n)
  (hF:FR prog w b s.heap ad F sc renv env) (hS:SR prog w b F s.heap ad σ) (h:∀ u v s' ad',Mv renv.locals s ad s' ad'→SR prog w b F s'.heap ad' q.2→DR prog w s'.heap (Mt ad' F) u r.1→DR prog w s'.heap (Mt ad' F) v q.1→Q [u,v] s') :
  wpAny (model prog w) A (spliced (backTo p (starEach [e,e'] renv))) Q E s:=by
 refine wpAny_items_cons (wpAny_mono (ev_two ih hx hy h1 h2 hA hF hS (Q:=fun u v s'=>Q [u,v] s') h) (fun u s1 z=>?_) fun _ _ z=>z) (enc_star hx _ _)
 exact wpAny_items_cons (wpAny_mono z (fun v s2 z=>wpAny_items_nil z) fun _ _ z=>z) (enc_star hy _ _)
theorem dstr_of {d:D} {x:Str} (h:(match d with | .str x=>some x | _=>none)=some x):d=.str x:=by
 induction d using D.casesOn with
 | str=>rw [so1 h]
 | _=>exact nos h
theorem dict_no {o:Obj} {kvs:List (Str × Value)} (h:o.IsDictOf (PySem.strKind prog w) kvs):o.dict=none:=by
 obtain ⟨_,_,hx,_⟩:=h; exact hx.2.1
theorem dict_nodup {o:Obj} {kvs:List (Str × Value)} (h:o.IsDictOf (PySem.strKind prog w) kvs):(kvs.map (·.1)).Nodup:=by
 obtain ⟨_,_,_,_,_,_,hn⟩:=h; exact hn
theorem setdef_inv {x:Str} {ks:List Str} {ds:List D} {n:Nat} {dv:D} {r:V × Sto} (h:(match look x ks ds with
   | some d=>lim (decide (ks.length < 900)) (V.d d,σ)
   | none=>lim (decide (ks.length < 900)) (V.d dv,σ.set n (.dct (put x dv ks ds).1 (put x dv ks ds).2)))=some r) :
  ks.length < 900∧(∀ d,look x ks ds=some d→r=(V.d d,σ))∧(look x ks ds=none→r=(V.d dv,σ.set n (.dct (put x dv ks ds).1 (put x dv ks ds).2))):=by
 cases e:look x ks ds with
 | none=>rw [e] at h; exact ⟨of_decide_eq_true (lim_some h).1,fun _ z=>nos z,fun _=>(lim_some h).2⟩
 | some d=>rw [e] at h; exact ⟨of_decide_eq_true (lim_some h).1,fun _ z=>so1 z ▸ (lim_some h).2,fun z=>nomatch z⟩
theorem ev_setdef {l:Lv} {n:Nat} (ih:Ev prog w b l n) {o k' v':X} {x y z:PySem.Expr} {p q:Pos} {v:V} (hc:notCall x=true) (hx:Enc sc o x) (hy:Enc sc k' y) (hz:Enc sc v' z) (hl:(q.endLine == p.line)=true)
  (he:evE l env σ (.setdef o k' v')=some (v,σ')) (hA:Room A n) (hF:FR prog w b s.heap ad F sc renv env) (hS:SR prog w b F s.heap ad σ) :
  wpAny (model prog w) A (eval (.Call (.Attribute x (Str.ofString "setdefault") q) [y,z] [] p) renv) (EP prog w b F renv.locals s ad σ' v) E s:=by
 obtain ⟨vo,σ1,h1,he⟩:=bp he
 obtain ⟨n0,⟨ks0,ds0⟩,h3,he⟩:=bp he
 obtain ⟨dk,σ2,h5,he⟩:=bp he
 obtain ⟨dv,σ3,h7,he⟩:=bp he
 obtain ⟨n1,⟨ks,ds⟩,h9,he⟩:=bp he
 obtain ⟨xs,h11,he⟩:=bd he
 have ek:dk=.str xs:=dstr_of h11
 have hf:=setdef_inv he
 refine meth_call hc (encL_plain (.cons hy (.cons hz .nil)) renv) (by simp) hl PySem.F.plainAttrs_dict PySem.F.slot_dict_setdefault PySem.F.type_dict_setdefault (wpAny_mono (ih _ _ _ hx _ _ _ _ h1 _ _ _ _ _ _ hA hF hS) (fun u s1 z=>?_) fun _ _ z=>z)
 obtain ⟨ad1,m1,S1,r1⟩:=z
 obtain ⟨a,rfl⟩:=r1.refI (dctAt_inv h3).1
 obtain ⟨ob,kvs0,_,ho,hd0,_⟩:=dct_at S1 r1 h3
 refine ⟨(Heap.dictOf_iff.mpr ⟨ob,ho,hd0⟩:s1.heap.DictOf (PySem.strKind prog w) a kvs0).typeIs,fun a' e=>⟨_,Value.ref.inj e ▸ ho,dict_no hd0⟩,args_two ih hy hz h5 h7 hA (hF.mv hS m1) S1 fun uk uv s2 ad2 m2 S2 r2 r3=>?_⟩
 obtain ⟨ob2,kvs,hl2,ho2,hd2,hm2,hk2,hr2⟩:=dct_at S2 (r1.mv hF.ownL m2) h9
 have hD:s2.heap.DictOf (PySem.strKind prog w) a kvs:=Heap.dictOf_iff.mpr ⟨ob2,ho2,hd2⟩
 obtain ⟨t,rfl⟩:=(ek ▸ r2).strI
 have hsz:kvs.length≤1000:=by
  have:=hf.1
  rw [← hk2,List.length_map] at this
  exact Nat.le_trans (Nat.le_of_lt this) (by decide)
 refine call_meetsIn PySem.F.slot_dict_setdefault hD.typeIs PySem.F.entry_dict_setdefault (PySem.F.args_dict_setdefault_3 _ _ _) (kt_meets_setdefault (PySem.strKind prog w) a (key_is xs t) hm2 uv) ⟨kvs,hD,le_line hsz,fun rv hv=>?_,fun hv h' hm' hs'=>?_⟩
 ·cases hlk:look xs ks ds with
  | none=>exact nsm (look_none hr2 (hk2 ▸ hlk)) hv
  | some d =>
   obtain ⟨rv',hv',rr⟩:=look_value hr2 (hk2 ▸ hlk)
   have e:=pj (hf.2.1 d hlk)
   exact e.1 ▸ e.2 ▸ ⟨ad2,(m1.trans m2).trans (Mv.tok _),S2,.d (so1 (hv'.symm.trans hv) ▸ rr)⟩
 ·cases hlk:look xs ks ds with
  | some d =>
   obtain ⟨rv',hv',rr⟩:=look_value hr2 (hk2 ▸ hlk)
   exact nsm hv hv'
  | none =>
   have e:=pj (hf.2.2 hlk)
   obtain ⟨a1,a2⟩:=stored_put (x:=xs) (dict_nodup hd2) hr2 r3
   obtain ⟨m3,S3⟩:=dct_put (L:=renv.locals) (t:=s2.toks+1) hF.ownL S2 hl2 hs' hm' hm2 a1 a2
   rw [hk2] at S3
   exact e.1 ▸ e.2 ▸ ⟨ad2,(m1.trans m2).trans m3,S3,.d (r3.mv hF.ownL m3)⟩
theorem freeze_inv {n:Nat} {d:D} (h:freeze σ n=some d):(∃ ds,σ[n]?=some (.lst ds)∧d=.lst ds) ∨ ∃ ks ds,σ[n]?=some (.dct ks ds)∧d=.dct ks ds:=by
 unfold freeze at h
 cases e:σ[n]? with
 | none=>rw [e] at h; exact nos h
 | some c=>rw [e] at h; induction c using Cell.casesOn with
  | lst ds=>exact .inl ⟨ds,rfl,(so1 h).symm⟩
  | dct ks ds=>exact .inr ⟨ks,ds,rfl,(so1 h).symm⟩
  | _=>exact nos h
theorem gone_at {n:Nat} {d:D} {rv:Value} (hS:SR prog w b F s.heap ad σ) (x:VR prog w s.heap ad F rv (.loc n)) (hf:freeze σ n=some d) :
  Mv L s ad s (ad.set n [])∧SR prog w b F s.heap (ad.set n []) (σ.set n .gone)∧DR prog w s.heap (Mt (ad.set n []) F) rv d:=by
 obtain ⟨m,S⟩:=sto_gone (L:=L) (n:=n) hS
 have hM:∀ a o',¬ Mt ad F a→s.heap.get? a=some o'→s.heap.get? a=some o'∧¬ Mt (ad.set n []) F a:=fun a o' m e=>⟨e,fun q=>m (q.imp ad_set_in id)⟩
 refine ⟨m,S,?_⟩
 rcases freeze_inv hf with ⟨ds,hc,rfl⟩ | ⟨ks,ds,hc,rfl⟩
 ·obtain ⟨a,l',rfl,hl',cr⟩:=loc_get hS x hc Cell.noConfusion
  obtain ⟨vs,k,rfl,e,r⟩:=cr.lstI
  exact .lst e ⟨rfl,rfl⟩ rfl (fun q=>q.elim (ad_set_off hS.nodup hl' (.head _)) fun q=>(hS.off a ⟨_,List.mem_of_getElem? hl',.head _⟩).1 q) (r.mono hM)
 ·obtain ⟨a,l',rfl,hl',cr⟩:=loc_get hS x hc Cell.noConfusion
  obtain ⟨o,kvs,rfl,e,dd,z,k,r⟩:=cr.dctI
  exact .dct e dd (fun q=>q.elim (ad_set_off hS.nodup hl' (.head _)) fun q=>(hS.off a ⟨_,List.mem_of_getElem? hl',.head _⟩).1 q) z k (r.mono hM)
theorem ev_frz {l:Lv} {i:Nat} {x:Str} {p:Pos} {v:V} (hi:nm i=x) (hd:(x == ("__debug__" : Str))=false) (he:evE l env σ (.frz i)=some (v,σ')) (hF:FR prog w b s.heap ad F sc renv env) (hS:SR prog w b F s.heap ad σ) :
  wpAny (model prog w) A (eval (.Name x p) renv) (EP prog w b F renv.locals s ad σ' v) E s:=by
 obtain ⟨v1,h1,h2⟩:=bd he
 refine wpAny_mono (ev_var (A:=A) hi hd h1 hF hS) (fun rv s1 z=>?_) fun _ _ z=>z
 obtain ⟨ad1,m1,S1,r1⟩:=z
 induction v1 using V.casesOn with
 | d=>exact nos h2
 | loc n =>
  obtain ⟨d,h3,h4⟩:=md h2
  obtain ⟨m2,S2,r2⟩:=gone_at (L:=renv.locals) S1 r1 h3
  exact (pj h4).1 ▸ (pj h4).2 ▸ ⟨_,m1.trans m2,S2,.d r2⟩
end
section
variable {prog:Program} {w:World} {K:Frag} {mg mb:Str→Option Value} {b:Heap}
variable {h h':Heap} {F:Addr→Prop} {ad ad':Adr} {σ σ':Sto} {s s':Shared} {A:Around} {E:Value→Shared→Prop} {sc:Scope} {renv:Env} {env:Env'} {L:Addr}
inductive KSw (prog:Program) (w:World) (h:Heap) (ad:Adr) (F:Addr→Prop) (x:Str) (v0:V) (es:List DictEntry) (ks:List Str) (vs:List V):Prop
 | mk (rv:Value):getL x es=some (some rv)→VR prog w h ad F rv v0→(∀ (h':Heap) (ad':Adr) (d':V),VRs prog w h' ad' F (es.map (·.val)) vs→VR prog w h' ad' F rv d'→VRs prog w h' ad' F (es.map (·.val)) (put x d' ks vs).2∧(put x d' ks vs).1=ks)→KSw prog w h ad F x v0 es ks vs
theorem keys_swap {x:Str} {v0:V}:∀ {es:List DictEntry} {ks:List Str} {vs:List V},KeysAre es ks→VRs prog w h ad F (es.map (·.val)) vs→look x ks vs=some v0→KSw prog w h ad F x v0 es ks vs:=by
 intro es
 induction es with
 | nil =>
  intro ks ds k r e
  rcases ks with _ | ⟨k0,ks⟩
  ·cases r; exact nos e
  ·exact k.elim
 | cons e es ih =>
  intro ks ds k r q
  rcases ks with _ | ⟨k0,ks⟩
  ·exact k.elim
  ·obtain ⟨⟨t,hk⟩,k2⟩:=k
   obtain ⟨d0,r0,rfl,h1,h2⟩:=VRs.inv r
   have q:(if x=k0 then some d0 else look x ks r0)=some v0:=q
   by_cases hx:x=k0
   ·subst hx
    rw [if_pos rfl] at q
    refine ⟨_,getL_hit hk,so1 q ▸ h1,fun h' ad' d' rr hv=>?_⟩
    rw [put_hit]
    obtain ⟨_,_,e1,_,h3⟩:=VRs.inv rr
    exact ⟨.cons hv ((List.cons.inj e1).2 ▸ h3),rfl⟩
   ·rw [if_neg hx] at q
    obtain ⟨v,hv,hr,hc⟩:=ih k2 h2 q
    refine ⟨v,getL_miss hk hx hv,hr,fun h' ad' d' rr hv=>?_⟩
    rw [put_miss hx]
    obtain ⟨_,_,e1,h3,h4⟩:=VRs.inv rr
    have e2:=List.cons.inj e1
    obtain ⟨c1,c2⟩:=hc h' ad' d' (e2.2 ▸ h4) hv
    exact ⟨.cons (e2.1 ▸ h3) c1,congrArg _ c2⟩
theorem freeze_kind {n:Nat} {d:D} (h:freeze σ n=some d):∀ c ks vs,σ[n]? ≠ some (.obj c ks vs):=by
 intro c ks vs e
 unfold freeze at h
 rw [e] at h
 cases h
inductive FrzI (env:Env') (σ:Sto) (i:Nat) (f:Str) (v:V) (σ':Sto):Prop
 | mk (n:Nat) (c:Addr) (ks:List Str) (vs:List V) (m:Nat) (d:D):env.lookup i=some (.loc n)→σ[n]?=some (.obj c ks vs)→look f ks vs=some (.loc m)→freeze σ m=some d→V.d d=v→(σ.set m .gone).set n (.obj c ks (put f (.d d) ks vs).2)=σ'→FrzI env σ i f v σ'
theorem frzA_inv {l:Lv} {i:Nat} {f:Str} {v:V} (he:evE l env σ (.frzA i f)=some (v,σ')):FrzI env σ i f v σ':=by
 obtain ⟨v1,h1,h2⟩:=bd he
 induction v1 using V.casesOn with
 | d=>exact nos h2
 | loc n =>
  have h2:(match σ[n]? with
   | some (.obj c ks vs)=>(look f ks vs).bind fun u=>(match u with
    | .loc m=>(freeze σ m).map fun d=>(V.d d,(σ.set m .gone).set n (.obj c ks (put f (.d d) ks vs).2))
    | _=>none)
   | _=>none)=some (v,σ'):=h2
  cases e:σ[n]? with
  | none=>rw [e] at h2; exact nos h2
  | some c=>rw [e] at h2; induction c using Cell.casesOn with
   | obj c ks vs =>
    obtain ⟨u,h3,h4⟩:=bd h2
    induction u using V.casesOn with
    | d=>exact nos h4
    | loc m =>
     obtain ⟨d,h5,h6⟩:=md h4
     exact ⟨n,c,ks,vs,m,d,h1,e,h3,h5,(pj h6).1,(pj h6).2⟩
   | _=>exact nos h2
theorem ev_frzA {l:Lv} (G:Gd prog w K mg mb b) {i:Nat} {x f:Str} {p q:Pos} {v:V} (hf:f ∈ fldNs) (hi:nm i=x) (hd:(x == ("__debug__" : Str))=false) (he:evE l env σ (.frzA i f)=some (v,σ')) (hF:FR prog w b s.heap ad F sc renv env) (hS:SR prog w b F s.heap ad σ) :
  wpAny (model prog w) A (eval (.Attribute (.Name x q) f p) renv) (EP prog w b F renv.locals s ad σ' v) E s:=by
 obtain ⟨n,c,ks,vs,k,d,h1,hcell,h3,h5,ev,eσ⟩:=frzA_inv he
 refine Attribute_Name_ (wpAny_mono (ev_var (A:=A) hi hd h1 hF hS) (fun rv s1 z=>?_) fun _ _ z=>z)
 obtain ⟨ad1,m1,S1,r1⟩:=z
 obtain ⟨m,hn,Fb⟩:=(hF.mv hS m1).fr S1
 obtain ⟨a',l',rfl,hl',cr⟩:=loc_get S1 r1 hcell Cell.noConfusion
 obtain ⟨dx,es,n',rfl,hcl,e1,e2,hk,hr⟩:=cr.objI
 obtain ⟨rv,hv,rr,hput⟩:=keys_swap hk hr h3
 refine get_own Fb G.X (ox:=instObj c _) ⟨e1,rfl,rfl,e2⟩ (G.atGet _ hcl _) (G.atHas _ hcl) (G.atNo _ hcl _ hf) rfl hv rr.handed ?_
 obtain ⟨m2,S2,r2⟩:=gone_at (L:=renv.locals) S1 rr h5
 have hl2:(ad1.set k [])[n]?=some _:=(List.getElem?_set_ne (fun e=>freeze_kind h5 _ _ _ (e ▸ hcell))).trans hl'
 obtain ⟨p1,p2⟩:=hput s1.heap _ (.d d) (hr.mv hF.ownL m2) (.d r2)
 obtain ⟨m3,S3⟩:=sto_set (L:=renv.locals) (t:=s1.toks+1) (h':=s1.heap) hF.ownL S2 hl2 (fun _ _ _ e=>e) (.obj hcl e1 e2 hk p1)
 exact ev ▸ eσ ▸ ⟨_,(m1.trans m2).trans m3,S3,.d r2⟩
theorem bi_call {l:Lv} {n:Nat} (G:Gd prog w K mg mb b) (ih:Ev prog w b l n) {a:X} {x:PySem.Expr} {nb:Str} {fv:Value} {p q:Pos} {v:V} {Q:Value→Shared→Prop} (hg:globB sc nb=true) (hm:(nb,fv) ∈ biltins) (hx:Enc sc a x)
  (he:l.e env σ a=some (v,σ')) (hA:Room A n) (hF:FR prog w b s.heap ad F sc renv env) (hS:SR prog w b F s.heap ad σ) (hfv:(∃ id,fv=.builtin id) ∨ ∃ T,fv=.type T)
  (h:∀ rv s1 ad1,Mv renv.locals s ad s1 ad1→SR prog w b F s1.heap ad1 σ'→VR prog w s1.heap ad1 F rv v→wpAny (model prog w) A (call fv [rv]) Q E s1) :
  wpAny (model prog w) A (eval (.Call (.Name nb q) [x] [] p) renv) Q E s:=by
 have hp:=encL_plain (encL_one hx) renv
 refine Call_Name (trees:=backTo p (starEach [x] renv)) rfl (bi_name G hg hm hF hS ?_)
 have sp:wpAny (model prog w) A (spliced (backTo p (starEach [x] renv))) (fun vs s'=>wpAny (model prog w) A (call fv ([]++vs)) Q E s') E s:=by
  refine wpAny_items_cons (wpAny_mono (ih _ _ _ hx _ _ _ _ he _ _ _ _ _ _ hA hF hS) (fun u s1 z=>?_) fun _ _ z=>z) (enc_star hx _ _)
  obtain ⟨ad1,m1,S1,r1⟩:=z
  exact wpAny_items_nil (h _ _ _ m1 S1 r1)
 rcases hfv with ⟨id,rfl⟩ | ⟨T,rfl⟩
 ·exact cw_builtin hp sp
 ·exact cw_type hp sp
theorem p_len {rv:Value} {v:V} {i:Int} {Q:Value→Shared→Prop} (r1:VR prog w s.heap ad F rv v) (hS:SR prog w b F s.heap ad σ) (h3:lenV v σ=some i)
  (fin:∀ {k t t':Nat},(k:Int)=i→Q (.int (k:Int) t) { s with toks:=t' }):wpAny (model prog w) A (call (.builtin "len") [rv]) Q E s:=by
 have fits:∀ {M:Addr→Prop} {vs:Array Value} {ds:List D},DRs prog w s.heap M vs.toList ds→lim (small ds) (ds.length:Int)=some i→((vs.size:Nat):Int) < 2 ^ 63∧((vs.size:Nat):Int)=i:=fun r h=>by
  obtain ⟨hc,rfl⟩:=lim_some h
  rw [← Array.length_toList,r.length]
  exact ⟨fits63 (small_le hc),rfl⟩
 cases v with
 | d da =>
  have r:=r1.dI
  cases da with
  | tup ds =>
   obtain ⟨a,o,vs,n',rfl,e,c,dd,mm',r0⟩:=r.tupI
   exact len_tuple (isTup_of e c dd) (fits r0 h3).1 (fin (fits r0 h3).2)
  | lst ds =>
   obtain ⟨a,o,vs,n',rfl,e,c,dd,mm',r0⟩:=r.lstI
   exact PyProof.Rows.len_list (isList_of e c dd) (fits r0 h3).1 (fin (fits r0 h3).2)
  | raw ds =>
   obtain ⟨a,o,vs,n',rfl,e,c,dd,mm',r0⟩:=r.rawI
   exact PyProof.Rows.len_list (isList_of e c dd) (fits r0 h3).1 (fin (fits r0 h3).2)
  | _=>exact nos h3
 | loc n1 =>
  unfold lenV at h3
  dsimp only at h3
  split at h3
  ·rename_i ds hcell
   obtain ⟨a',l',rfl,hl',cr⟩:=loc_get hS r1 hcell Cell.noConfusion
   obtain ⟨a,vs,k,e0,e,r⟩:=cr.inv
   obtain ⟨rfl,rfl⟩:=List.cons.inj e0
   exact PyProof.Rows.len_list (isList_of e rfl rfl) (fits r h3).1 (fin (fits r h3).2)
  ·exact nos h3
theorem ev_len {l:Lv} {n:Nat} (G:Gd prog w K mg mb b) (ih:Ev prog w b l n) {a:X} {x:PySem.Expr} {p q:Pos} {v:V} (hg:globB sc (Str.ofString "len")=true) (hx:Enc sc a x)
  (he:evE l env σ (.bi .len a)=some (v,σ')) (hA:Room A n) (hF:FR prog w b s.heap ad F sc renv env) (hS:SR prog w b F s.heap ad σ) :
  wpAny (model prog w) A (eval (.Call (.Name (Str.ofString "len") q) [x] [] p) renv) (EP prog w b F renv.locals s ad σ' v) E s:=by
 obtain ⟨va,σ1,h1,h2⟩:=bp he
 obtain ⟨i,h3,h4⟩:=md h2
 obtain ⟨rfl,rfl⟩:=pj h4
 exact bi_call (fv:=.builtin "len") G ih hg (bil_len) hx h1 hA hF hS (.inl ⟨_,rfl⟩) fun rv s1 ad1 m1 S1 r1=>p_len r1 S1 h3 fun e=>⟨ad1,m1.trans (Mv.tok _),S1,e ▸ .d (.int _ _)⟩
theorem grown_lst {h2:Heap} {vs:Array Value} {ds:List D} {a:Addr} {t:Nat} {o:Obj} (hS:SR prog w b F s.heap ad σ) (hk:∀ c o,s.heap.get? c=some o→h2.get? c=some o) (ha:s.heap.get? a=none) (h1:h2.get? a=some o) (hc:o.cls=.type "list" ∧ o.dict=Option.none) (hd:∃ n,o.data=.seq vs n) (r:DRs prog w s.heap (Mt ad F) vs.toList ds) :
  DP prog w b F L s ad σ (.lst ds) (.ref a) { s with heap:=h2,toks:=t }:=by
 obtain ⟨m,S⟩:=sto_grow (L:=L) (t:=t) hS hk
 obtain ⟨n,hd⟩:=hd
 exact ⟨ad,m,S,.lst h1 hc hd (hS.fresh ha) (r.mono fun c o m e=>⟨hk _ _ e,m⟩)⟩
theorem seq_len {M:Addr→Prop} {vs:Array Value} {ds:List D} (r:DRs prog w h M vs.toList ds) (hc:small ds=true):vs.size≤sizeLine:=le_line (by rw [← Array.length_toList,r.length]; exact small_le hc)
theorem p_tuple {rv:Value} {da d:D} (r1:DR prog w s.heap (Mt ad F) rv da) (hL:F L) (hS:SR prog w b F s.heap ad σ) (h3:biD .tuple da=some d):wpAny (model prog w) A (call (.type "tuple") [rv]) (DP prog w b F L s ad σ d) E s:=by
 cases da with
 | lst ds =>
  obtain ⟨hc,rfl⟩:=lim_some h3
  obtain ⟨a,o,vs,n',rfl,e,c,dd,mm',r⟩:=r1.lstI
  refine call_tuple_list (isList_of e c dd) (fun h2 hk=>?_) (seq_len r hc)
  obtain ⟨m2,S2⟩:=sto_grow (L:=L) (t:=s.toks) hS hk
  exact (mk_tup rfl S2 (r.mv hL m2)).after m2
 | tup ds =>
  obtain rfl:=so1 h3
  obtain ⟨a,o,vs,n',rfl,e,c,dd,mm',r⟩:=r1.tupI
  exact call_tuple_same (items:=vs) ⟨o,e,c,n',dd⟩ ⟨ad,Mv.refl,hS,.tup e c dd mm' r⟩
 | _=>exact nos h3
theorem p_list {rv:Value} {da d:D} (r1:DR prog w s.heap (Mt ad F) rv da) (hS:SR prog w b F s.heap ad σ) (h3:biD .list da=some d):wpAny (model prog w) A (call (.type "list") [rv]) (DP prog w b F L s ad σ d) E s:=by
 have fin:∀ {ds:List D} {vs:Array Value} {h2:Heap} {c:Obj},d=.lst ds→DRs prog w s.heap (Mt ad F) vs.toList ds→(∀ c o,s.heap.get? c=some o→h2.get? c=some o)→h2.get? s.heap.objs.size=some c→(c.cls=.type "list" ∧ c.dict=none)→(∃ n,c.data=.seq vs n) →
   DP prog w b F L s ad σ d (.ref s.heap.objs.size) { s with heap:=h2,toks:=s.toks }:=fun e r hk hD h1 h2=>e ▸ grown_lst (t:=s.toks) hS hk (Heap.get?_none_of_le (Nat.le_refl _)) hD h1 h2 r
 cases da with
 | lst ds =>
  obtain ⟨hc,rfl⟩:=lim_some h3
  obtain ⟨a,o,vs,n',rfl,e,c,dd,mm',r⟩:=r1.lstI
  exact call_list_seq a (.inl rfl) e c dd (fun h2 c' hk hD=>fin rfl r hk hD ⟨rfl,rfl⟩ ⟨_,rfl⟩) (seq_len r hc)
 | tup ds =>
  obtain ⟨hc,rfl⟩:=lim_some h3
  obtain ⟨a,o,vs,n',rfl,e,c,dd,mm',r⟩:=r1.tupI
  exact call_list_seq a (.inr rfl) e c dd (fun h2 c' hk hD=>fin rfl r hk hD ⟨rfl,rfl⟩ ⟨_,rfl⟩) (seq_len r hc)
 | _=>exact nos h3
theorem small_log {i:Int} (h0:0≤i) (h1:i < 1000):i.natAbs.log2 < 1000:=Nat.lt_of_le_of_lt (Nat.log2_le_self _) (Int.ofNat_lt.mp (by rw [Int.natAbs_of_nonneg h0]; exact h1))
theorem p_str {rv:Value} {da d:D} (r1:DR prog w s.heap (Mt ad F) rv da) (hS:SR prog w b F s.heap ad σ) (h3:biD .str da=some d):wpAny (model prog w) A (call (.type "str") [rv]) (DP prog w b F L s ad σ d) E s:=by
 cases da with
 | int i =>
  obtain ⟨hc,rfl⟩:=lim_some h3
  rw [Bool.and_eq_true] at hc
  have:=small_log (of_decide_eq_true hc.1) (of_decide_eq_true hc.2)
  obtain ⟨t,rfl⟩:=r1.intI
  exact P.str_of_int (ltw this) ⟨ad,Mv.tok _,hS,.str _ _⟩
 | _=>exact nos h3
inductive BiI (l:Lv) (env:Env') (σ:Sto) (bb:Bi) (a:X) (v:V) (σ':Sto):Prop
 | mk (da d:D):evD l env σ a=some (da,σ')→biD bb da=some d→V.d d=v→BiI l env σ bb a v σ'
theorem biE_inv {l:Lv} {bb:Bi} {a:X} {v:V} (he:((evD l env σ a).bind fun r=>(biD bb r.1).map fun d=>(V.d d,r.2))=some (v,σ')):BiI l env σ bb a v σ':=by
 obtain ⟨da,σ1,h1,he⟩:=bp he
 obtain ⟨d,h3,he⟩:=md he
 have e2:σ1=σ':=(pj he).2
 exact ⟨da,d,e2 ▸ h1,h3,(pj he).1⟩
theorem ev_biD {l:Lv} {n:Nat} (G:Gd prog w K mg mb b) (ih:Ev prog w b l n) {bb:Bi} {nb:Str} {fv:Value} {a:X} {x:PySem.Expr} {p q:Pos} {v:V} (hm:(nb,fv) ∈ biltins) (hfv:(∃ id,fv=.builtin id) ∨ ∃ T,fv=.type T) (hg:globB sc nb=true) (hx:Enc sc a x)
  (he:((evD l env σ a).bind fun r=>(biD bb r.1).map fun d=>(V.d d,r.2))=some (v,σ')) (hA:Room A n) (hF:FR prog w b s.heap ad F sc renv env) (hS:SR prog w b F s.heap ad σ)
  (P:∀ rv s1 ad1 da d,DR prog w s1.heap (Mt ad1 F) rv da→SR prog w b F s1.heap ad1 σ'→FR prog w b s1.heap ad1 F sc renv env→biD bb da=some d→wpAny (model prog w) A (call fv [rv]) (DP prog w b F renv.locals s1 ad1 σ' d) E s1) :
  wpAny (model prog w) A (eval (.Call (.Name nb q) [x] [] p) renv) (EP prog w b F renv.locals s ad σ' v) E s:=by
 obtain ⟨da,d,h1,h3,e⟩:=biE_inv he
 exact bi_call G ih hg hm hx (evD_e h1) hA hF hS hfv fun rv s1 ad1 m1 S1 r1=>wpAny_mono (P rv s1 ad1 da d r1.dI S1 (hF.mv hS m1) h3) (fun _ _ z=>e ▸ EP.of_data (z.after m1)) fun _ _ z=>z
end
noncomputable def Own (renv:Env) (a:Addr):Prop:=a=renv.locals ∨ ∃ x,renv.cells.lookup x=some a
structure MvS (O:Addr→Prop) (s:Shared) (ad:Adr) (s':Shared) (ad':Adr):Prop where
 rest:∃ h tk dr,s'={ s with heap:=h,toks:=tk,drawn:=dr }
 old:∀ a o,¬ inAd ad a→¬ O a→s.heap.get? a=some o→s'.heap.get? a=some o
 liv:∀ a,O a→(s.heap.get? a).isSome=true→(s'.heap.get? a).isSome=true
 new:∀ a,inAd ad' a→inAd ad a ∨ s.heap.get? a=none
 loc:∀ (n:Nat) (l:List Addr),ad[n]?=some l→ad'[n]?=some l ∨ ad'[n]?=some []
inductive FlR (prog:Program) (w:World) (h:Heap) (M:Addr→Prop):Flow→Fl→Prop
 | next:FlR prog w h M .next .next
 | ret {v d}:DR prog w h M v d→FlR prog w h M (.ret v) (.ret d)
section
variable {prog:Program} {w:World} {K:Frag} {mg mb:Str→Option Value} {b:Heap}
variable {h h':Heap} {F:Addr→Prop} {ad ad' ad'':Adr} {σ σ':Sto} {s s' s'':Shared} {A:Around} {E:Value→Shared→Prop} {sc:Scope} {renv:Env} {env:Env'} {L:Addr} {O:Addr→Prop}
theorem MvS.refl:MvS O s ad s ad:=⟨⟨_,_,_,rfl⟩,fun _ _ _ _ e=>e,fun _ _ q=>q,fun _ q=>.inl q,fun _ _ e=>.inl e⟩
theorem Mv.toS (x:Mv L s ad s' ad') (hO:O L) (hoff:∀ a,O a→¬ inAd ad a):MvS O s ad s' ad':=by
 refine ⟨x.rest,fun a o m n e=>x.old a o m (fun q=>n (q ▸ hO)) e,fun a q z=>?_,x.new,x.loc⟩
 by_cases e:a=L
 ·subst e; exact x.liv z
 ·cases y:s.heap.get? a with
  | none=>rw [y] at z; exact fls z
  | some o=>rw [x.old a o (hoff a q) e y]; rfl
theorem MvS.trans (x:MvS O s ad s' ad') (y:MvS O s' ad' s'' ad''):MvS O s ad s'' ad'':=by
 obtain ⟨h1,t1,u1,e1⟩:=x.rest
 obtain ⟨h2,t2,u2,e2⟩:=y.rest
 refine ⟨⟨h2,t2,u2,by rw [e2,e1]⟩,fun a o m n e=>?_,fun a q z=>y.liv a q (x.liv a q z),fun a q=>?_,fun n l e=>?_⟩
 ·refine y.old a o (fun z=>?_) n (x.old a o m n e)
  rcases x.new a z with z | z
  ·exact m z
  ·rw [z] at e; exact nos e
 ·rcases y.new a q with q | q
  ·exact x.new a q
  ·by_cases m:inAd ad a
   ·exact .inl m
   ·right
    cases z:s.heap.get? a with
    | none=>rfl
    | some o =>
     by_cases n:O a
     ·have:=x.liv a n (by rw [z]; rfl); rw [q] at this; exact fls this
     ·have:=x.old a o m n z; rw [q] at this; exact nos this
 ·rcases x.loc n l e with q | q
  ·exact y.loc n l q
  ·rcases y.loc n [] q with z | z <;> exact .inr z
theorem Mt.keepS (hO:∀ a,O a→F a) (hm:MvS O s ad s' ad'):∀ a o,¬ Mt ad F a→s.heap.get? a=some o→s'.heap.get? a=some o∧¬ Mt ad' F a:=fun a o m e=>by
 refine ⟨hm.old a o (fun q=>m (.inl q)) (fun q=>m (.inr (hO a q))) e,fun q=>?_⟩
 rcases q with q | q
 ·rcases hm.new a q with q | q
  ·exact m (.inl q)
  ·rw [q] at e; exact nos e
 ·exact m (.inr q)
theorem DR.mvS {v:Value} {d:D} (x:DR prog w s.heap (Mt ad F) v d) (hO:∀ a,O a→F a) (hm:MvS O s ad s' ad'):DR prog w s'.heap (Mt ad' F) v d:=x.mono (Mt.keepS hO hm)
theorem DRs.mvS {v:List Value} {d:List D} (x:DRs prog w s.heap (Mt ad F) v d) (hO:∀ a,O a→F a) (hm:MvS O s ad s' ad'):DRs prog w s'.heap (Mt ad' F) v d:=x.mono (Mt.keepS hO hm)
theorem VR.mvS {v:Value} {d:V} (x:VR prog w s.heap ad F v d) (hO:∀ a,O a→F a) (hm:MvS O s ad s' ad'):VR prog w s'.heap ad' F v d:=by
 induction x using VR.casesOn with
 | d x=>exact .d (x.mvS hO hm)
 | loc e hl =>
  rcases hm.loc _ _ e with q | q
  ·exact .loc q hl
  ·exact .loc q (.inl rfl)
theorem VRs.mvS {v:List Value} {d:List V} (x:VRs prog w s.heap ad F v d) (hO:∀ a,O a→F a) (hm:MvS O s ad s' ad'):VRs prog w s'.heap ad' F v d:=by
 induction v generalizing d with
 | nil=>cases x; exact .nil
 | cons v vs ih=>cases x with | cons e r=>exact .cons (e.mvS hO hm) (ih r)
theorem FR.own (hF:FR prog w b h ad F sc renv env):∀ a,Own renv a→F a:=fun a q=>by
 rcases q with rfl | ⟨x,q⟩
 ·exact hF.ownL
 ·exact (hF.ownC x a q).1
theorem FR.offS (hF:FR prog w b s.heap ad F sc renv env) (hS:SR prog w b F s.heap ad σ):∀ a,Own renv a→¬ inAd ad a:=fun a q z=>(hS.off a z).1 (hF.own a q)
theorem FR.toS (hF:FR prog w b s.heap ad F sc renv env) (hS:SR prog w b F s.heap ad σ) (x:Mv renv.locals s ad s' ad'):MvS (Own renv) s ad s' ad':=x.toS (.inl rfl) (hF.offS hS)
inductive SP (prog:Program) (w:World) (b:Heap) (F:Addr→Prop) (s:Shared) (ad:Adr) (sc:Scope) (renv:Env) (fl:Fl) (env':Env') (σ':Sto) (f:Flow) (s':Shared):Prop
 | mk (ad':Adr):MvS (Own renv) s ad s' ad'→SR prog w b F s'.heap ad' σ'→FR prog w b s'.heap ad' F sc renv env'→FlR prog w s'.heap (Mt ad' F) f fl→SP prog w b F s ad sc renv fl env' σ' f s'
theorem SP.after {fl:Fl} {env':Env'} {f:Flow} {s1:Shared} {ad1:Adr} (m:MvS (Own renv) s ad s1 ad1) (x:SP prog w b F s1 ad1 sc renv fl env' σ' f s'):SP prog w b F s ad sc renv fl env' σ' f s':=by
 obtain ⟨ad',m',S,F,r⟩:=x
 exact ⟨ad',m.trans m',S,F,r⟩
noncomputable def Sd (prog:Program) (w:World) (b:Heap) (l:Lv) (n:Nat):Prop:=∀ sc ss es,EncSs sc ss es→∀ env σ fl env' σ',l.s env σ ss=some (fl,env',σ') →
 ∀ (A:Around) (s:Shared) (ad:Adr) (F:Addr→Prop) (renv:Env) (E:Value→Shared→Prop),Room A n→FR prog w b s.heap ad F sc renv env→SR prog w b F s.heap ad σ →
 wpAny (model prog w) A (execs es renv) (SP prog w b F s ad sc renv fl env' σ') E s
theorem own_put {c:Addr} {t:Nat} (hO:O c) (hc:F c) (hS:SR prog w b F s.heap ad σ) (hk:Heap.SameBut c s.heap h') (hl:(h'.get? c).isSome=true) :
  MvS O s ad { s with heap:=h',toks:=t } ad∧SR prog w b F h' ad σ:=by
 have hk':∀ a o,a ≠ c→s.heap.get? a=some o→h'.get? a=some o:=fun a o n e=>hk.extBut a o n e
 refine ⟨⟨⟨_,_,_,rfl⟩,fun a o _ n e=>hk' a o (fun q=>n (q ▸ hO)) e,fun a q z=>?_,fun _ q=>.inl q,fun _ _ e=>.inl e⟩,hS.kept hc hk' hl⟩
 by_cases e:a=c
 ·subst e; exact hl
 ·cases y:s.heap.get? a with
  | none=>rw [y] at z; exact fls z
  | some o=>show (h'.get? a).isSome=true; rw [hk' _ _ e y]; rfl
structure Home (O:Addr→Prop) (sc:Scope) (renv:Env):Prop where
 l:O renv.locals
 c:∀ x c,storeB sc x=true→renv.kindOf x=some .cell→renv.cells.lookup x=some c→O c
 o:∀ a,O a→Own renv a
theorem Home.own:Home (Own renv) sc renv:=⟨.inl rfl,fun _ _ _ _ q=>.inr ⟨_,q⟩,fun _ q=>q⟩
theorem IsCell.some {c:Addr} {v:Option Value} (x:h.IsCell c v):(h.get? c).isSome=true:=by
 obtain ⟨o,ho,_⟩:=x; rw [ho]; rfl
theorem VR.kept {c:Addr} (hc:F c) (hk:∀ a o,a ≠ c→h.get? a=some o→h'.get? a=some o) {v:Value} {d:V} (x:VR prog w h ad F v d):VR prog w h' ad F v d:=by
 induction x using VR.casesOn with
 | d r=>exact .d (r.kept hc hk)
 | loc e l=>exact .loc e l
theorem st_one {i:Nat} {x:Str} {rv:Value} {v:V} {Q:Unit→Shared→Prop} (H:Home O sc renv) (inj:∀ i j,nm i=nm j→i=j) (hi:nm i=x) (hs:storeB sc x=true) (hF:FR prog w b s.heap ad F sc renv env) (hS:SR prog w b F s.heap ad σ)
  (hv:VR prog w s.heap ad F rv v) (h:∀ s',MvS O s ad s' ad→SR prog w b F s'.heap ad σ→FR prog w b s'.heap ad F sc renv ((i,v)::env)→Q () s'):wpAny (model prog w) A (storeName renv x rv) Q E s:=by
 subst hi
 have hl:∀ j u,((i,v)::env).lookup j=some u→(j=i∧u=v) ∨ (j ≠ i∧env.lookup j=some u):=fun j u e=>by
  rw [List.lookup_cons] at e
  by_cases q:j=i
  ·subst q; simp at e; exact .inl ⟨rfl,e.symm⟩
  ·rw [beq_false_of_ne q] at e; exact .inr ⟨q,e⟩
 obtain ⟨m,hn,hvars⟩:=hF.vars
 rcases hF.store _ hs with hk | hk
 ·refine wpAny_storeName_local hk hn (fun h' hn' hsb=>?_) (by rw [hF.kind]; rfl)
  have kk:∀ a o,a ≠ renv.locals→s.heap.get? a=some o→h'.get? a=some o:=fun a o n e=>hsb.extBut a o n e
  obtain ⟨M',S'⟩:=own_put (t:=s.toks+1) (c:=renv.locals) H.l hF.ownL hS hsb (ns_some hn')
  have kC:∀ {c v},(∃ x,renv.cells.lookup x=some c)→s.heap.IsCell c v→h'.IsCell c v:=fun {c v} ⟨x,q⟩ ⟨o,ho,hd⟩=>⟨o,kk _ _ (hF.ownC _ _ q).2 ho,hd⟩
  refine h _ M' S' ⟨hF.kind,hF.glb,hF.bi,hF.same,⟨_,hn',fun j u e=>?_⟩,fun y hy=>?_,hF.ownL,hF.above,hF.ownC,hF.apart⟩
  ·rcases hl j u e with ⟨rfl,rfl⟩ | ⟨hne,e⟩
   ·exact .inl ⟨hk,rv,by simp,hv.kept hF.ownL kk⟩
   ·rcases hvars j u e with ⟨k1,rv1,e1,r1⟩ | ⟨k1,c,rv1,e1,e2,r1⟩
    ·exact .inl ⟨k1,rv1,by rw [if_neg (fun q=>hne (inj _ _ q))]; exact e1,r1.kept hF.ownL kk⟩
    ·exact .inr ⟨k1,c,rv1,e1,kC ⟨_,e1⟩ e2,r1.kept hF.ownL kk⟩
  ·obtain ⟨c,v,e1,e2⟩:=hF.cel y hy
   exact ⟨c,v,e1,kC ⟨_,e1⟩ e2⟩
 ·obtain ⟨c,v0,hc,hcell⟩:=hF.cel _ hk
  refine wpAny_storeName_cell hF.kind hk hc hcell (fun h' hc' hsb=>?_)
  have kk:∀ a o,a ≠ c→s.heap.get? a=some o→h'.get? a=some o:=fun a o n e=>hsb.extBut a o n e
  have hFc:F c:=(hF.ownC _ _ hc).1
  obtain ⟨M',S'⟩:=own_put (t:=s.toks) (c:=c) (H.c _ _ hs hk hc) hFc hS hsb (IsCell.some hc')
  refine h _ M' S' ⟨hF.kind,hF.glb,hF.bi,hF.same,⟨m,hn.sameBut hsb (Ne.symm (hF.ownC _ _ hc).2),fun j u e=>?_⟩,fun y hy=>?_,hF.ownL,hF.above,hF.ownC,hF.apart⟩
  ·rcases hl j u e with ⟨rfl,rfl⟩ | ⟨hne,e⟩
   ·exact .inr ⟨hk,c,rv,hc,hc',hv.kept hFc kk⟩
   ·rcases hvars j u e with ⟨k1,rv1,e1,r1⟩ | ⟨k1,c1,rv1,e1,e2,r1⟩
    ·exact .inl ⟨k1,rv1,e1,r1.kept hFc kk⟩
    ·refine .inr ⟨k1,c1,rv1,e1,?_,r1.kept hFc kk⟩
     have hcc:c1 ≠ c:=fun q=>hne (inj _ _ (hF.apart _ _ c (q ▸ e1) hc))
     obtain ⟨o,ho,hd⟩:=e2
     exact ⟨o,kk _ _ hcc ho,hd⟩
  ·obtain ⟨c1,v1,e1,e2⟩:=hF.cel y hy
   by_cases hcc:c1=c
   ·subst hcc; exact ⟨c1,_,e1,hc'⟩
   ·obtain ⟨o,ho,hd⟩:=e2
    exact ⟨c1,v1,e1,o,kk _ _ hcc ho,hd⟩
theorem names_each {ok:Str→Bool} {is:List Nat} {es:List PySem.Expr} (hN:NamesAre ok is es):assignEach es renv=es.map fun e=>(false,assign e renv):=by
 induction hN with
 | nil=>rfl
 | cons _ _ _ ih=>show _::_=_; rw [ih]; rfl
theorem names_len {ok:Str→Bool} {is:List Nat} {es:List PySem.Expr} (hN:NamesAre ok is es):es.length=is.length:=by
 induction hN with
 | nil=>rfl
 | cons _ _ _ ih=>rw [List.length_cons,List.length_cons,ih]
theorem st_many {ok:Str→Bool} (H:Home O sc renv) (inj:∀ i j,nm i=nm j→i=j) (hok:∀ x,ok x=true→storeB sc x=true) {is:List Nat} {es:List PySem.Expr} (hN:NamesAre ok is es):∀ {env:Env'} {s:Shared} {rvs:List Value} {vs:List V} {Q:Unit→Shared→Prop} (hl:is.length=vs.length)
  (hF:FR prog w b s.heap ad F sc renv env) (hS:SR prog w b F s.heap ad σ) (hv:VRs prog w s.heap ad F rvs vs)
  (h:∀ s',MvS O s ad s' ad→SR prog w b F s'.heap ad σ→FR prog w b s'.heap ad F sc renv ((is.zip vs).reverse++env)→Q () s'),wpAny (model prog w) A (assignInOrder (es.map fun e=>assign e renv) rvs) Q E s:=by
 induction hN with
 | nil =>
  intro env s rvs vs Q hl hF hS hv h
  cases vs with
  | nil=>exact assignInOrder_nil (h _ MvS.refl hS hF)
  | cons=>cases hl
 | cons hi hs _ ih =>
  intro env s rvs vs Q hl hF hS hv h
  cases hv with
  | nil=>cases hl
  | cons h1 h2 =>
   refine assignInOrder_cons (PyProof.Rows.assign_Name (st_one H inj hi (hok _ hs) hF hS h1 fun s1 m1 S1 F1=>?_))
   refine ih (by simpa using hl) F1 S1 (h2.mvS (fun a q=>hF.own a (H.o a q)) m1) fun s2 m2 S2 F2=>h s2 (m1.trans m2) S2 ?_
   simpa [List.zip_cons_cons,List.reverse_cons,List.append_assoc] using F2
theorem DRs.vrs {M:Addr→Prop}:∀ {vs:List Value} {ds:List D},DRs prog w h (Mt ad F) vs ds→VRs prog w h ad F vs (ds.map V.d):=by
 intro vs
 induction vs with
 | nil=>intro ds x; cases x; exact .nil
 | cons v vs ih=>intro ds x; cases x with | cons e r=>exact .cons (.d e) (ih r)
theorem tg_assign {tg:Tg} {t:PySem.Expr} {d:D} {env':Env'} {rv:Value} {Q:Unit→Shared→Prop} (H:Home O sc renv) (inj:∀ i j,nm i=nm j→i=j) (ht:EncT sc tg t) (hb:bindTg tg d env=some env') (hh:A.handled=none) (hF:FR prog w b s.heap ad F sc renv env) (hS:SR prog w b F s.heap ad σ)
  (hv:DR prog w s.heap (Mt ad F) rv d) (h:∀ s',MvS O s ad s' ad→SR prog w b F s'.heap ad σ→FR prog w b s'.heap ad F sc renv env'→Q () s'):wpAny (model prog w) A (assign t renv rv) Q E s:=by
 cases ht with
 | one hi hs=>obtain rfl:=so1 hb; exact PyProof.Rows.assign_Name (st_one H inj hi hs hF hS (.d hv) h)
 | tup hl hN =>
  cases d <;> (first | (exact nos hb; done) | skip)
  rename_i is es k p ds
  simp only [bindTg] at hb
  split at hb
  ·rename_i hlen
   obtain rfl:=so1 hb
   obtain ⟨a,o,vs,n,rfl,e,c,dd,m,r⟩:=hv.tupI
   have hr:=r.length
   have hn:=names_len hN
   refine wpAny_assign_Tuple (items:=vs) hh ⟨o,e,c,n,dd⟩ ?_ ?_ fun h' he=>?_
   ·rw [names_each hN,List.length_map,hn,hlen,← hr,Array.length_toList]
   ·rw [names_each hN,List.findIdx?_eq_none_iff]
    intro x hx
    obtain ⟨y,_,rfl⟩:=List.mem_map.mp hx
    rfl
   ·have hk:∀ a o,s.heap.get? a=some o→h'.get? a=some o:=fun a o e=>he a o (Nat.ne_of_lt (Heap.lt_size e)) e
    obtain ⟨M',S'⟩:=sto_grow (L:=renv.locals) (t:=s.toks) hS hk
    rw [names_each hN,List.map_map]
    refine st_many H inj (fun _ q=>q) hN (vs:=ds.map V.d) (by rw [hlen,List.length_map]) (hF.mv hS M') S' (DRs.vrs (M:=fun _=>False) (r.mv hF.ownL M')) fun s2 m2 S2 F2=>?_
    exact h s2 ((M'.toS H.l fun a q=>hF.offS hS a (H.o a q)).trans m2) S2 F2
  ·exact nos hb
end
structure Src (prog:Program) (w:World) (A:Around) (target:PySem.Expr) (it:Value) (W fp:Addr→Prop) (n:Nat) (P:Nat→Value→Heap→Prop) (St:Nat→Heap→Prop):Prop where
 item:∀ (i:Nat) (s:Shared) (Q:Option Value→Shared→Prop) (E:Value→Shared→Prop),i < n→St i s.heap →
  (∀ v s1,(∀ (Q2:Unit→Shared→Prop) (E2:Value→Shared→Prop),(∀ h' tk,P i v h'→St (i+1) h'→(∀ a o,¬ W a→s.heap.get? a=some o→h'.get? a=some o)→Q2 () { s with heap:=h',toks:=tk }) →
   wpAny (model prog w) A (letOwnedTupleGo target it v) Q2 E2 s1)→Q (some v) s1)→wpAny (model prog w) A (pyNext it) Q E s
 done:∀ (s:Shared) (Q:Option Value→Shared→Prop) (E:Value→Shared→Prop),St n s.heap →
  (∀ h' tk,(∀ a o,¬ W a→s.heap.get? a=some o→h'.get? a=some o)→Q none { s with heap:=h',toks:=tk })→wpAny (model prog w) A (pyNext it) Q E s
 self:∀ (i:Nat) (s:Shared) (Q:Value→Shared→Prop) (E:Value→Shared→Prop),St i s.heap→Q it s→wpAny (model prog w) A (pyIter it) Q E s
 frame:∀ i h h',St i h→(∀ a o,fp a→h.get? a=some o→h'.get? a=some o)→St i h'
 live:∀ i h,St i h→∀ a,W a→(h.get? a).isSome=true
 data:∀ i h,St i h→∀ a o,W a→h.get? a=some o→(∀ es ep,o.data ≠ .dict es ep)∧∀ v,o.data ≠ .cell v
section
variable {prog:Program} {w:World} {K:Frag} {mg mb:Str→Option Value} {b:Heap}
variable {h h':Heap} {F W fp:Addr→Prop} {ad ad' ad'':Adr} {σ σ':Sto} {s s' s'' s0:Shared} {A:Around} {E:Value→Shared→Prop} {sc:Scope} {renv:Env} {env:Env'} {L:Addr} {O:Addr→Prop}
theorem Src.ofWalks {target:PySem.Expr} {I:Addr} {fp wr:List Addr} {n:Nat} {P:Nat→Value→Prop} {St:Nat→Heap→Prop} (X:Walks prog w A I fp wr n P St)
  (hgo:∀ i v (s:Shared) (Q:Unit→Shared→Prop) (E:Value→Shared→Prop),St i s.heap→Q () s→wpAny (model prog w) A (letOwnedTupleGo target (.ref I) v) Q E s)
  (hl:∀ i h,St i h→∀ a ∈ wr,∃ o,h.get? a=some o∧(∀ es ep,o.data ≠ .dict es ep)∧∀ v,o.data ≠ .cell v) :
  Src prog w A target (.ref I) (fun a=>a ∈ wr) (fun a=>a ∈ fp) n (fun i v _=>P i v) St where
 item:=fun i s Q E hi st hQ=>X.item i s _ E hi st fun v h' tk hP st' hk=>hQ v _ fun Q2 E2 z=>hgo (i+1) v _ _ _ st' (z h' tk hP st' fun a o m e=>hk a o m e)
 done:=fun s Q E st hQ=>X.done s _ E st fun h' tk hk=>hQ h' tk fun a o m e=>hk a o m e
 self:=fun i s Q E st q=>X.self i s Q E st q
 frame:=fun i h h' st hk=>X.frame i h h' st fun a m o e=>hk a o m e
 live:=fun i h st a m=>by obtain ⟨o,ho,_⟩:=hl i h st a m; rw [ho]; rfl
 data:=fun i h st a o m e=>by obtain ⟨o',ho,r⟩:=hl i h st a m; rw [ho] at e; obtain rfl:=so1 e; exact r
theorem DRs.aside {vs:List Value} {ds:List D} (x:DRs prog w s0.heap (Mt ad F) vs ds) (hO:∀ a,O a→F a) (hm:MvS O s0 ad s' ad') (hW:∀ a,W a→s0.heap.get? a=none):DRs prog w s'.heap (Mt ad' fun a=>F a ∨ W a) vs ds :=
 x.mono fun a o m e=>by
  obtain ⟨h1,h2⟩:=Mt.keepS hO hm a o m e
  refine ⟨h1,fun q=>?_⟩
  rcases q with q | q | q
  ·exact h2 (.inl q)
  ·exact h2 (.inr q)
  ·rw [hW a q] at e; exact nos e
theorem VRs.aside {vs:List Value} {ds:List V} (hW:∀ a,W a→h.get? a=none) (x:VRs prog w h ad F vs ds):VRs prog w h ad (fun a=>F a ∨ W a) vs ds:=by
 induction x with
 | nil=>exact .nil
 | cons e _ ih =>
  refine .cons ?_ ih
  cases e with
  | d r=>exact .d (r.mono fun a o m e=>⟨e,fun q=>by
    rcases q with q | q | q
    ·exact m (.inl q)
    ·exact m (.inr q)
    ·rw [hW a q] at e; exact nos e⟩)
  | loc e l=>exact .loc e l
theorem CRs.aside {ls:Adr} {σ:Sto} (hW:∀ a,W a→h.get? a=none) (x:CRs prog w h ad F ls σ):CRs prog w h ad (fun a=>F a ∨ W a) ls σ:=by
 have hd:∀ {v d},DRs prog w h (Mt ad F) v d→DRs prog w h (Mt ad fun a=>F a ∨ W a) v d:=fun r=>r.mono fun a o m e=>⟨e,fun q=>by
    rcases q with q | q | q
    ·exact m (.inl q)
    ·exact m (.inr q)
    ·rw [hW a q] at e; exact nos e⟩
 induction x with
 | nil=>exact .nil
 | cons q _ ih =>
  refine .cons ?_ ih
  induction q using CR.casesOn with
  | gone=>exact .gone
  | tab e=>exact .tab e
  | lst e r=>exact .lst e (hd r)
  | dct e d z k r=>exact .dct e d z k (hd r)
  | obj c e d k r=>exact .obj c e d k (r.aside hW)
theorem SR.aside (x:SR prog w b F s.heap ad σ) (hW:∀ a,W a→s.heap.get? a=none) (hk:∀ a o,s.heap.get? a=some o→h'.get? a=some o) (hl:∀ a,W a→(h'.get? a).isSome=true):SR prog w b (fun a=>F a ∨ W a) h' ad σ:=by
 refine ⟨fun a o e=>hk a o (x.keep a o e),x.nodup,fun a q=>⟨fun z=>?_,(x.off a q).2⟩,fun a q=>?_,fun a q=>?_,(x.cells.aside hW).grow hk⟩
 ·rcases z with z | z
  ·exact (x.off a q).1 z
  ·have:=inAd.lt_of x.cells q; rw [hW a z] at this; exact fls this
 ·rcases q with q | q
  ·exact x.offF a q
  ·cases z:b.get? a with
   | none=>rfl
   | some o=>have:=x.keep a o z; rw [hW a q] at this; exact nos this
 ·rcases q with q | q
  ·cases z:s.heap.get? a with
   | none=>have:=x.live a q; rw [z] at this; exact fls this
   | some o=>rw [hk _ _ z]; rfl
  ·exact hl a q
theorem VR.aside {v:Value} {d:V} (hW:∀ a,W a→h.get? a=none) (x:VR prog w h ad F v d):VR prog w h ad (fun a=>F a ∨ W a) v d:=by
 have:=VRs.aside hW (.cons x .nil)
 cases this with | cons a _=>exact a
theorem FR.aside (x:FR prog w b s.heap ad F sc renv env) (hW:∀ a,W a→s.heap.get? a=none) (hk:∀ a o,s.heap.get? a=some o→h'.get? a=some o):FR prog w b h' ad (fun a=>F a ∨ W a) sc renv env:=by
 have kC:∀ {c v},s.heap.IsCell c v→h'.IsCell c v:=fun {c v} ⟨o,ho,hd⟩=>⟨o,hk _ _ ho,hd⟩
 refine ⟨x.kind,x.glb,x.bi,x.same,?_,fun n hn=>?_,.inl x.ownL,x.above,fun y c q=>⟨.inl (x.ownC y c q).1,(x.ownC y c q).2⟩,x.apart⟩
 ·obtain ⟨m,hn,hv⟩:=x.vars
  refine ⟨m,hn.keeps hk,fun i v e=>?_⟩
  rcases hv i v e with ⟨k,rv,e1,r⟩ | ⟨k,c,rv,e1,e2,r⟩
  ·exact .inl ⟨k,rv,e1,(r.aside hW).grow hk⟩
  ·exact .inr ⟨k,c,rv,e1,kC e2,(r.aside hW).grow hk⟩
 ·obtain ⟨c,v,e1,e2⟩:=x.cel n hn
  exact ⟨c,v,e1,kC e2⟩
theorem VRs.turn {vs:List Value} {ds:List V} (hk:∀ a o,¬ W a→h.get? a=some o→h'.get? a=some o) (x:VRs prog w h ad (fun a=>F a ∨ W a) vs ds):VRs prog w h' ad (fun a=>F a ∨ W a) vs ds:=by
 induction x with
 | nil=>exact .nil
 | cons e _ ih =>
  refine .cons ?_ ih
  induction e using VR.casesOn with
  | d r=>exact .d (r.mono fun a o m e=>⟨hk a o (fun q=>m (.inr (.inr q))) e,m⟩)
  | loc e l=>exact .loc e l
theorem VR.turn {v:Value} {d:V} (hk:∀ a o,¬ W a→h.get? a=some o→h'.get? a=some o) (x:VR prog w h ad (fun a=>F a ∨ W a) v d):VR prog w h' ad (fun a=>F a ∨ W a) v d:=by
 have:=VRs.turn hk (.cons x .nil)
 cases this with | cons a _=>exact a
theorem SR.turn (x:SR prog w b (fun a=>F a ∨ W a) h ad σ) (hk:∀ a o,¬ W a→h.get? a=some o→h'.get? a=some o) (hl:∀ a,W a→(h'.get? a).isSome=true):SR prog w b (fun a=>F a ∨ W a) h' ad σ:=by
 have hM:∀ a o,¬ Mt ad (fun a=>F a ∨ W a) a→h.get? a=some o→h'.get? a=some o∧¬ Mt ad (fun a=>F a ∨ W a) a:=fun a o m e=>⟨hk a o (fun q=>m (.inr (.inr q))) e,m⟩
 refine ⟨fun a o e=>hk a o (fun q=>?_) (x.keep a o e),x.nodup,x.off,x.offF,fun a q=>?_,x.cells.step hM (fun _ _ e=>.inl e) fun l hl a ha o e=>hk a o (fun q=>(x.off a ⟨l,hl,ha⟩).1 (.inr q)) e⟩
 ·rw [x.offF a (.inr q)] at e; exact nos e
 ·by_cases m:W a
  ·exact hl a m
  ·cases z:h.get? a with
   | none=>have:=x.live a q; rw [z] at this; exact fls this
   | some o=>rw [hk _ _ m z]; rfl
theorem FR.turn (x:FR prog w b h ad (fun a=>F a ∨ W a) sc renv env) (hd:∀ a o,W a→h.get? a=some o→(∀ es ep,o.data ≠ .dict es ep)∧∀ v,o.data ≠ .cell v) (hk:∀ a o,¬ W a→h.get? a=some o→h'.get? a=some o):FR prog w b h' ad (fun a=>F a ∨ W a) sc renv env:=by
 have kC:∀ {c v},h.IsCell c v→h'.IsCell c v:=fun {c v} ⟨o,ho,hc⟩=>⟨o,hk _ _ (fun q=>(hd _ _ q ho).2 _ hc) ho,hc⟩
 refine ⟨x.kind,x.glb,x.bi,x.same,?_,fun n hn=>?_,x.ownL,x.above,x.ownC,x.apart⟩
 ·obtain ⟨m,⟨o,es,ep,ho,hdd,r1,r2⟩,hv⟩:=x.vars
  refine ⟨m,⟨o,es,ep,hk _ _ (fun q=>(hd _ _ q ho).1 _ _ hdd) ho,hdd,r1,r2⟩,fun i v e=>?_⟩
  rcases hv i v e with ⟨k,rv,e1,r⟩ | ⟨k,c,rv,e1,e2,r⟩
  ·exact .inl ⟨k,rv,e1,r.turn hk⟩
  ·exact .inr ⟨k,c,rv,e1,kC e2,r.turn hk⟩
 ·obtain ⟨c,v,e1,e2⟩:=x.cel n hn
  exact ⟨c,v,e1,kC e2⟩
theorem DR.drop {v:Value} {d:D} (x:DR prog w h (Mt ad fun a=>F a ∨ W a) v d):DR prog w h (Mt ad F) v d:=x.mono fun a o m e=>⟨e,fun q=>m (q.imp id .inl)⟩
theorem DRs.dropW {v:List Value} {d:List D} (x:DRs prog w h (Mt ad fun a=>F a ∨ W a) v d):DRs prog w h (Mt ad F) v d:=x.mono fun a o m e=>⟨e,fun q=>m (q.imp id .inl)⟩
theorem VRs.drop {vs:List Value} {ds:List V} (x:VRs prog w h ad (fun a=>F a ∨ W a) vs ds):VRs prog w h ad F vs ds:=by
 induction x with
 | nil=>exact .nil
 | cons e _ ih =>
  refine .cons ?_ ih
  induction e using VR.casesOn with
  | d r=>exact .d r.drop
  | loc e l=>exact .loc e l
theorem VR.drop {v:Value} {d:V} (x:VR prog w h ad (fun a=>F a ∨ W a) v d):VR prog w h ad F v d:=by
 have:=VRs.drop (.cons x .nil)
 cases this with | cons a _=>exact a
theorem CRs.drop {ls:Adr} {σ:Sto} (x:CRs prog w h ad (fun a=>F a ∨ W a) ls σ):CRs prog w h ad F ls σ:=by
 induction x with
 | nil=>exact .nil
 | cons q _ ih =>
  refine .cons ?_ ih
  induction q using CR.casesOn with
  | gone=>exact .gone
  | tab e=>exact .tab e
  | lst e r=>exact .lst e r.dropW
  | dct e d z k r=>exact .dct e d z k r.dropW
  | obj c e d k r=>exact .obj c e d k r.drop
theorem SR.drop (x:SR prog w b (fun a=>F a ∨ W a) h ad σ) (hFW:∀ a,F a→¬ W a) (hk:∀ a o,¬ W a→h.get? a=some o→h'.get? a=some o):SR prog w b F h' ad σ:=by
 have hM:∀ a o,¬ Mt ad (fun a=>F a ∨ W a) a→h.get? a=some o→h'.get? a=some o∧¬ Mt ad (fun a=>F a ∨ W a) a:=fun a o m e=>⟨hk a o (fun q=>m (.inr (.inr q))) e,m⟩
 refine ⟨fun a o e=>hk a o (fun q=>?_) (x.keep a o e),x.nodup,fun a q=>⟨fun z=>(x.off a q).1 (.inl z),(x.off a q).2⟩,fun a q=>x.offF a (.inl q),fun a q=>?_,(x.cells.step hM (fun _ _ e=>.inl e) fun l hl a ha o e=>hk a o (fun q=>(x.off a ⟨l,hl,ha⟩).1 (.inr q)) e).drop⟩
 ·rw [x.offF a (.inr q)] at e; exact nos e
 ·cases z:h.get? a with
  | none=>have:=x.live a (.inl q); rw [z] at this; exact fls this
  | some o=>rw [hk _ _ (hFW a q) z]; rfl
theorem FR.drop {ad0:Adr} {h0:Heap} {env0:Env'} (x:FR prog w b h ad (fun a=>F a ∨ W a) sc renv env) (x0:FR prog w b h0 ad0 F sc renv env0) (hFW:∀ a,F a→¬ W a) (hk:∀ a o,¬ W a→h.get? a=some o→h'.get? a=some o):FR prog w b h' ad F sc renv env:=by
 have kC:∀ {c v},(∃ y,renv.cells.lookup y=some c)→h.IsCell c v→h'.IsCell c v:=fun {c v} ⟨y,q⟩ ⟨o,ho,hc⟩=>⟨o,hk _ _ (hFW _ (x0.ownC _ _ q).1) ho,hc⟩
 refine ⟨x.kind,x.glb,x.bi,x.same,?_,fun n hn=>?_,x0.ownL,x.above,x0.ownC,x.apart⟩
 ·obtain ⟨m,⟨o,es,ep,ho,r1⟩,hv⟩:=x.vars
  refine ⟨m,⟨o,es,ep,hk _ _ (hFW _ x0.ownL) ho,r1⟩,fun i v e=>?_⟩
  rcases hv i v e with ⟨k,rv,e1,r⟩ | ⟨k,c,rv,e1,e2,r⟩
  ·exact .inl ⟨k,rv,e1,(r.turn hk).drop⟩
  ·exact .inr ⟨k,c,rv,e1,kC ⟨_,e1⟩ e2,(r.turn hk).drop⟩
 ·obtain ⟨c,v,e1,e2⟩:=x.cel n hn
  exact ⟨c,v,e1,kC ⟨_,e1⟩ e2⟩
theorem MvS.turn {t:Nat} (x:MvS O s0 ad s ad') (hW:∀ a,W a→s0.heap.get? a=none) (hOW:∀ a,O a→¬ W a) (hk:∀ a o,¬ W a→s.heap.get? a=some o→h'.get? a=some o):MvS O s0 ad { s with heap:=h',toks:=t } ad':=by
 obtain ⟨h1,t1,u1,e1⟩:=x.rest
 refine ⟨⟨h',t,u1,by rw [e1]⟩,fun a o m n e=>hk a o (fun q=>by rw [hW a q] at e; exact nos e) (x.old a o m n e),fun a q z=>?_,x.new,x.loc⟩
 have:=x.liv a q z
 cases y:s.heap.get? a with
 | none=>rw [y] at this; exact fls this
 | some o=>show (h'.get? a).isSome=true; rw [hk a o (hOW a q) y]; rfl
inductive FoI (prog:Program) (w:World) (b:Heap) (F W:Addr→Prop) (sc:Scope) (renv:Env) (s0:Shared) (ad0:Adr) (St:Nat→Heap→Prop) (f:List D→Env'→Sto→Option (Fl × Env' × Sto)) (ds:List D) (r:Fl × Env' × Sto) (k:Nat) (s:Shared):Prop
 | mk (i:Nat) (ad:Adr) (env:Env') (σ:Sto):k=ds.length+1 - i→i≤ds.length→MvS (Own renv) s0 ad0 s ad→SR prog w b (fun a=>F a ∨ W a) s.heap ad σ→FR prog w b s.heap ad (fun a=>F a ∨ W a) sc renv env→St i s.heap→f (ds.drop i) env σ=some r→FoI prog w b F W sc renv s0 ad0 St f ds r k s
inductive ForI (l:Lv) (tg:Tg) (body:List S) (ds:List D) (d:D) (env:Env') (σ:Sto) (r:Fl × Env' × Sto):Prop
 | mk (env1:Env') (f1:Fl) (env2:Env') (σ2:Sto):bindTg tg d env=some env1→l.s env1 σ body=some (f1,env2,σ2)→(f1=.next→forL l tg body ds env2 σ2=some r)→(∀ v,f1=.ret v→(Fl.ret v,env2,σ2)=r)→ForI l tg body ds d env σ r
theorem forL_cons {l:Lv} {tg:Tg} {body:List S} {ds:List D} {d:D} {r:Fl × Env' × Sto} (h:forL l tg body (d::ds) env σ=some r):ForI l tg body ds d env σ r:=by
 obtain ⟨env1,h1,h⟩:=bd h
 obtain ⟨f1,⟨env2,σ2⟩,h3,h⟩:=bp h
 exact ⟨env1,f1,env2,σ2,h1,h3,fun e=>by subst e; exact h,fun v e=>by subst e; exact so1 h⟩
theorem FlR.elim {M:Addr→Prop} {f:Flow} {fl:Fl} {P:Prop} (x:FlR prog w h M f fl) (h1:f=.next→fl=.next→P) (h2:∀ v d,f=.ret v→fl=.ret d→DR prog w h M v d→P):P:=by
 cases x with
 | next=>exact h1 rfl rfl
 | ret r=>exact h2 _ _ rfl rfl r
theorem for_code {l:Lv} {n:Nat} (sd:Sd prog w b l n) {tg:Tg} {t:PySem.Expr} {body:List S} {bs:List Stmt} (hb:EncSs sc body bs)
  {it:Value} {ds:List D} {P:Nat→Value→Heap→Prop} {St:Nat→Heap→Prop} (X:Src prog w A t it W fp ds.length P St) {R:Result→Shared→Prop} {env0:Env'} {fl:Fl} {env':Env'} {σ' σ0:Sto} {ad0:Adr}
  (hA:Room A n) (hF0:FR prog w b s0.heap ad0 F sc renv env0) (hW:∀ a,W a→s0.heap.get? a=none) (hfp:∀ a,fp a→W a ∨ (¬ Mt ad0 F a∧(s0.heap.get? a).isSome=true)) (hS0:SR prog w b F s0.heap ad0 σ0)
  (hasg:∀ i d v s ad σ env env1 (Q:Unit→Shared→Prop) (E:Value→Shared→Prop),ds[i]?=some d→P i v s.heap→MvS (Own renv) s0 ad0 s ad→bindTg tg d env=some env1→FR prog w b s.heap ad (fun a=>F a ∨ W a) sc renv env→SR prog w b (fun a=>F a ∨ W a) s.heap ad σ →
   (∀ s',MvS (Own renv) s ad s' ad→SR prog w b (fun a=>F a ∨ W a) s'.heap ad σ→FR prog w b s'.heap ad (fun a=>F a ∨ W a) sc renv env1→Q () s')→wpAny (model prog w) A (assign t renv v) Q E s)
  (hR:∀ f s',SP prog w b F s0 ad0 sc renv fl env' σ' f s'→R (.ok f) s')
  (m0:MvS (Own renv) s0 ad0 s ad) (hS:SR prog w b (fun a=>F a ∨ W a) s.heap ad σ) (hF:FR prog w b s.heap ad (fun a=>F a ∨ W a) sc renv env) (st:St 0 s.heap) (he:forL l tg body ds env σ=some (fl,env',σ')) :
  codeAny (model prog w) A (.forLoop t it bs [] renv) R s:=by
 have hFW:∀ a,F a→¬ W a:=fun a q z=>nl (hW a z) (hS0.live a q)
 have hOW:∀ a,Own renv a→¬ W a:=fun a q=>hFW a (hF0.own a q)
 obtain ⟨I,hI⟩:∃ I:Nat→Shared→Prop,∀ k s,I k s ↔ FoI prog w b F W sc renv s0 ad0 St (forL l tg body) ds (fl,env',σ') k s:=⟨_,fun _ _=>Iff.rfl⟩
 refine codeAny_forLoop_any I ?_ (ds.length+1) ((hI _ _).mpr ⟨0,ad,env,σ,rfl,Nat.zero_le _,m0,hS,hF,st,he⟩)
 intro k s1 g1
 refine hide fun no=>?_
 obtain ⟨i,ad1,env1,σ1,e0,hi,m1,S1,F1,st1,he1⟩:=(hI _ _).mp g1
 have frame:∀ {s s':Shared} {ad ad':Adr} {σ:Sto},SR prog w b (fun a=>F a ∨ W a) s.heap ad σ→MvS (Own renv) s0 ad0 s ad→MvS (Own renv) s ad s' ad'→St (i+1) s.heap→St (i+1) s'.heap:=fun {s s' ad ad' σ} T mm m z=>X.frame _ _ _ z fun a o q e=>by
  rcases hfp a q with q | ⟨q1,q2⟩
  ·exact m.old a o (fun z=>(T.off a z).1 (.inr q)) (fun z=>hOW a z q) e
  ·exact m.old a o (fun z=>(mm.new a z).elim (fun z=>q1 (.inl z)) fun z=>nl z q2) (fun z=>q1 (.inr (hF0.own a z))) e
 clear g1 he m0 hS hF st hfp
 rcases Nat.lt_or_ge i ds.length with hlt | hge
 ·have hd:ds[i]?=some ds[i]:=List.getElem?_eq_getElem hlt
  obtain ⟨env2,f1,env3,σ3,h1,h3,h4,h5⟩:=forL_cons (List.drop_eq_getElem_cons hlt ▸ he1)
  refine no (X.item i s1 _ _ hlt st1 fun v s1' go=>go _ _ fun h2 tk hP st2 hk=>?_)
  have S2:=S1.turn hk (X.live _ _ st2)
  have m2:=m1.turn (t:=tk) hW hOW hk
  refine hasg i _ v _ ad1 σ1 env1 env2 _ _ hd hP m2 h1 (F1.turn (X.data _ _ st1) hk) S2 fun s3 m3 S3 F3=>?_
  refine wpAny_mono (sd _ _ _ hb _ _ _ _ _ h3 A s3 ad1 _ renv _ hA F3 S3) (fun f s4 z=>?_) fun _ _ z=>z
  refine hide fun no=>?_
  obtain ⟨ad4,m4,S4,F4,fr⟩:=z
  have M4:=(m2.trans m3).trans m4
  refine fr.elim (fun e1 e2=>no ?_) fun v d e1 e2 rd=>no ?_
  ·subst e1
   exact ⟨_,e0 ▸ Nat.sub_lt_sub_left (Nat.lt_succ_of_lt hlt) (Nat.lt_succ_self i),(hI _ _).mpr ⟨i+1,ad4,env3,σ3,rfl,hlt,M4,S4,F4,frame S3 (m2.trans m3) m4 (frame S2 m2 m3 st2),h4 e2⟩⟩
  ·subst e1
   have e3:=h5 d e2
   have e4:=Prod.mk.inj (Prod.mk.inj e3).2
   exact hR _ _ ⟨ad4,M4,e4.2 ▸ S4.drop hFW (fun _ _ _ e=>e),e4.1 ▸ F4.drop hF0 hFW (fun _ _ _ e=>e),(Prod.mk.inj e3).1 ▸ .ret rd.drop⟩
 ·have e3:=so1 (show some (Fl.next,env1,σ1)=_ from List.drop_of_length_le hge ▸ he1)
  have e4:=Prod.mk.inj (Prod.mk.inj e3).2
  exact no (X.done s1 _ _ (Nat.le_antisymm hi hge ▸ st1) fun h2 tk hk=>wpAny_execs_nil (hR _ _ ⟨ad1,m1.turn hW hOW hk,e4.2 ▸ S1.drop hFW hk,e4.1 ▸ F1.drop hF0 hFW hk,(Prod.mk.inj e3).1 ▸ .next⟩))
end
section
variable {prog:Program} {w:World} {K:Frag} {mg mb:Str→Option Value} {b:Heap}
variable {h h':Heap} {F W fp:Addr→Prop} {ad ad' ad'':Adr} {σ σ':Sto} {s s' s'' s0:Shared} {A:Around} {E:Value→Shared→Prop} {sc:Scope} {renv:Env} {env:Env'} {L:Addr} {O:Addr→Prop}
inductive Wk (prog:Program) (w:World) (A:Around) (t:PySem.Expr) (F:Addr→Prop) (ad:Adr) (ds:List D) (s0:Shared) (it:Value) (s1:Shared):Prop
 | mk (W fp:Addr→Prop) (P:Nat→Value→Heap→Prop) (St:Nat→Heap→Prop) (vs:List Value):Src prog w A t it W fp ds.length P St→(∀ a,W a→s0.heap.get? a=none) →
  (∀ a,fp a→W a ∨ (¬ Mt ad F a∧(s0.heap.get? a).isSome=true))→(∀ a o,s0.heap.get? a=some o→s1.heap.get? a=some o)→(∃ h tk,s1={ s0 with heap:=h,toks:=tk })→St 0 s1.heap →
  DRs prog w s0.heap (Mt ad F) vs ds→(∀ i v h,P i v h→vs[i]?=some v)→Wk prog w A t F ad ds s0 it s1
theorem iter_data {t:PySem.Expr} {d:D} {ds:List D} {rv:Value} {Q:Value→Shared→Prop} (hh:A.handled=none) (hd:itemsOf d=some ds) (x:DR prog w s.heap (Mt ad F) rv d)
  (h:∀ it s1,Wk prog w A t F ad ds s it s1→Q it s1):wpAny (model prog w) A (pyIter rv) Q E s:=by
 have hz:s.heap.get? s.heap.objs.size=none:=Heap.get?_none_of_le (Nat.le_refl _)
 cases d <;> (first | (exact nos hd; done) | skip)
 case lst es =>
  obtain ⟨_,rfl⟩:=lim_some hd
  obtain ⟨a,o,vs,n,rfl,e,c,dd,m,r⟩:=x.lstI
  have hlt:a < s.heap.objs.size:=Heap.lt_size e
  have hl:=isList_of e c dd
  refine wpAny_pyIter_list hl (h _ _ ⟨fun a=>a ∈ [s.heap.objs.size],fun x=>x ∈ [s.heap.objs.size,a],fun i v _=>vs[i]?=some v,fun i h=>h.IsListIter s.heap.objs.size a i∧h.IsList a vs,vs.toList,?_,?_,?_,fun a o e=>Heap.get?_push_of_some _ e,⟨_,_,rfl⟩,?_,r,?_⟩)
  ·have:=Src.ofWalks (target:=t) (Walks.list (prog:=prog) (w:=w) hh s.heap.objs.size a (Nat.ne_of_lt hlt) vs) (fun i v s Q E st q=>letGo_listiter st.1 q) fun i h st b hb=>by
    rw [List.mem_singleton.mp hb]
    obtain ⟨o,ho,hc,hd⟩:=st.1
    exact ⟨o,ho,fun _ _ q=>(by rw [hd] at q; cases q),fun _ q=>(by rw [hd] at q; cases q)⟩
   rwa [show vs.size=ds.length by simpa using r.length] at this
  ·intro b hb; rw [List.mem_singleton.mp hb]; exact hz
  ·intro b hb
   rcases List.mem_cons.mp hb with rfl | hb
   ·exact .inl (.head _)
   ·rw [List.mem_singleton.mp hb]; exact .inr ⟨m,by rw [e]; rfl⟩
  ·exact ⟨⟨_,Heap.get?_push_size _ rfl,rfl,rfl⟩,hl.at fun o e=>Heap.get?_push_of_some _ e⟩
  ·intro i v h hp
   simpa using hp
 case tup es =>
  obtain ⟨_,rfl⟩:=lim_some hd
  obtain ⟨a,o,vs,n,rfl,e,c,dd,m,r⟩:=x.tupI
  have hlt:a < s.heap.objs.size:=Heap.lt_size e
  have hl:s.heap.IsTuple a vs:=⟨o,e,c,n,dd⟩
  refine wpAny_pyIter_tuple hl (h _ _ ⟨fun a=>a ∈ [s.heap.objs.size],fun x=>x ∈ [s.heap.objs.size,a],fun i v _=>vs[i]?=some v,fun i h=>h.IsTupleIter s.heap.objs.size a i∧h.IsTuple a vs,vs.toList,?_,?_,?_,fun a o e=>Heap.get?_push_of_some _ e,⟨_,_,rfl⟩,?_,r,?_⟩)
  ·have:=Src.ofWalks (target:=t) (Walks.tuple (prog:=prog) (w:=w) hh s.heap.objs.size a (Nat.ne_of_lt hlt) vs) (fun i v s Q E st q=>letGo_tupleiter st.1 q) fun i h st b hb=>by
    rw [List.mem_singleton.mp hb]
    obtain ⟨o,ho,hc,hd⟩:=st.1
    exact ⟨o,ho,fun _ _ q=>(by rw [hd] at q; cases q),fun _ q=>(by rw [hd] at q; cases q)⟩
   rwa [show vs.size=ds.length by simpa using r.length] at this
  ·intro b hb; rw [List.mem_singleton.mp hb]; exact hz
  ·intro b hb
   rcases List.mem_cons.mp hb with rfl | hb
   ·exact .inl (.head _)
   ·rw [List.mem_singleton.mp hb]; exact .inr ⟨m,by rw [e]; rfl⟩
  ·exact ⟨⟨_,Heap.get?_push_size _ rfl,rfl,rfl⟩,hl.at fun o e=>Heap.get?_push_of_some _ e⟩
  ·intro i v h hp
   simpa using hp
theorem for_walk {l:Lv} {n:Nat} (inj:∀ i j,nm i=nm j→i=j) (sd:Sd prog w b l n) {tg:Tg} {t:PySem.Expr} {body:List S} {bs:List Stmt} (ht:EncT sc tg t) (hb:EncSs sc body bs)
  {it:Value} {ds:List D} {s1:Shared} (X:Wk prog w A t F ad ds s it s1) {R:Result→Shared→Prop} {fl:Fl} {env':Env'} {σ':Sto}
  (hA:Room A n) (hF:FR prog w b s.heap ad F sc renv env) (hS:SR prog w b F s.heap ad σ)
  (hR:∀ f s',SP prog w b F s ad sc renv fl env' σ' f s'→R (.ok f) s') (he:forL l tg body ds env σ=some (fl,env',σ')) :
  codeAny (model prog w) A (.forLoop t it bs [] renv) R s1:=by
 obtain ⟨W,fp,P,St,vs,X,hW,hfp,hk,⟨h1,tk,rfl⟩,st,r,hP⟩:=X
 have hl:=X.live _ _ st
 refine for_code sd hb X hA hF hW hfp hS (fun i d v s2 ad2 σ2 env1 env2 Q E hd hPi m2 hbt F2 S2 z=>?_) hR
  ((hF.toS hS (Mv.grow hk))) (hS.aside hW hk hl) (hF.aside hW hk) st he
 refine tg_assign Home.own inj ht hbt hA.1 F2 S2 ?_ z
 have r2:=r.aside hF.own m2 hW
 obtain ⟨v',e1,e2⟩:=r2.get hd
 rw [hP i v _ hPi] at e1; obtain rfl:=so1 e1
 exact e2
theorem enc_iter {x:X} {e:PySem.Expr} (hx:Enc sc x e):∀ y,foldedSetIterable e renv y=pure y:=enc_notSet hx renv
theorem sd_forD {l:Lv} {n:Nat} (inj:∀ i j,nm i=nm j→i=j) (ih:Ev prog w b l n) (sd:Sd prog w b l n) {tg:Tg} {t x:PySem.Expr} {it:X} {body:List S} {bs:List Stmt} {p:Pos} (ht:EncT sc tg t) (hx:Enc sc it x) (hb:EncSs sc body bs)
  {fl:Fl} {env':Env'} {σ':Sto} (he:evS1 l env σ (.forD tg it body)=some (fl,env',σ')) (hA:Room A n) (hF:FR prog w b s.heap ad F sc renv env) (hS:SR prog w b F s.heap ad σ) :
  wpAny (model prog w) A (exec (.For t x bs [] p) renv) (SP prog w b F s ad sc renv fl env' σ') E s:=by
 obtain ⟨d,σ1,h1,h2⟩:=bp he
 obtain ⟨ds,h3,h4⟩:=bd h2
 refine wpAny_For (wpAny_mono (ih.d hx h1 hA hF hS) (fun rv s1 z=>?_) fun _ _ z=>z) (enc_iter hx)
 obtain ⟨ad1,m1,S1,r1⟩:=z
 have F1:=hF.mv hS m1
 refine iter_data (t:=t) hA.1 h3 r1 fun i s2 X=>?_
 exact for_walk inj sd ht hb X hA F1 S1 (fun f s' z=>z.after (hF.toS hS m1)) h4
theorem int_lim {d:D} {k:Int} (h:(match d with | .int n=>lim (decide (0≤n) && decide (n≤1000)) n | _=>none)=some k):d=.int k∧0≤k∧k≤1000:=by
 induction d using D.casesOn with
 | int n =>
  obtain ⟨a,rfl⟩:=lim_some h
  exact ⟨rfl,of_decide_eq_true (Bool.and_eq_true_iff.mp a).1,of_decide_eq_true (Bool.and_eq_true_iff.mp a).2⟩
 | _=>exact nos h
theorem range_size {k:Int} (h:0≤k):Builtin.Range.rangeSize 0 k 1=k:=by
 unfold Builtin.Range.rangeSize
 simp only [show (1:Int) > 0 from by decide,if_true,Int.ediv_one]
 split
 ·rw [Int.sub_zero,Int.sub_add_cancel]
 ·rename_i z
  exact Int.le_antisymm h (Int.not_lt.mp z)
theorem range_small {k:Int} (h:0≤k) (h1:k≤1000):Builtin.Range.small 0 k 1=true:=by
 unfold Builtin.Range.small
 rw [range_size h]
 simp [Builtin.Range.rangeFitsLong]
 have a:=Int.le_trans (show (-9223372036854775808:Int)≤0 by decide) h
 have b:=Int.lt_of_le_of_lt h1 (show (1000:Int) < 9223372036854775808 by decide)
 exact ⟨⟨a,b⟩,.inr ⟨a,b⟩⟩
theorem range_at {k j:Nat} {d:D} (h:((List.range k).map fun (k:Nat)=>D.int k)[j]?=some d):d=.int j:=by
 rw [List.getElem?_map] at h
 obtain ⟨i,h1,h2⟩:=md h
 rw [← h2,(List.getElem?_eq_some_iff.mp h1).2.symm,List.getElem_range]
theorem sd_forR {l:Lv} {n:Nat} (G:Gd prog w K mg mb b) (ih:Ev prog w b l n) (sd:Sd prog w b l n) {i:Nat} {v:Str} {x:PySem.Expr} {e:X} {body:List S} {bs:List Stmt} {p q q1 p1:Pos} (hi:nm i=v) (hs:storeB sc v=true) (hg:globB sc (Str.ofString "range")=true) (hx:Enc sc e x) (hb:EncSs sc body bs)
  {fl:Fl} {env':Env'} {σ':Sto} (he:evS1 l env σ (.forR i e body)=some (fl,env',σ')) (hA:Room A n) (hF:FR prog w b s.heap ad F sc renv env) (hS:SR prog w b F s.heap ad σ) :
  wpAny (model prog w) A (exec (.For (.Name v q) (.Call (.Name (Str.ofString "range") q1) [x] [] p1) bs [] p) renv) (SP prog w b F s ad sc renv fl env' σ') E s:=by
 obtain ⟨d,σ2,h1,he⟩:=bp he
 obtain ⟨k,h3,h4⟩:=bd he
 have e0:d=.int k:=(int_lim h3).1
 have hc:=(int_lim h3).2
 refine wpAny_For (bi_call (fv:=.type "range") G ih hg bil_range hx (evD_e h1) hA hF hS (.inr ⟨_,rfl⟩) fun rv s1 ad1 m1 S1 r1=>?_) (fun _=>rfl)
 obtain ⟨t,rfl⟩:=(e0 ▸ r1.dI).intI
 refine call_range_1 ?_
 obtain ⟨m2,S2⟩:=sto_grow (L:=renv.locals) (t:=s1.toks+1+1) S1 (push_keep { cls:=.type "range", data:=.fields #[.int 0 s1.toks,.int k t,.int 1 (s1.toks+1)] })
 have F2:=(hF.mv hS m1).mv S1 m2
 refine wpAny_pyIter_range (a:=0) (b:=k) (c:=1) (Heap.get?_push_size _ rfl) (range_small hc.1 hc.2) ?_
 rw [range_size hc.1]
 generalize hs2:({ heap:=s1.heap.push { cls:=.type "range", data:=.fields #[.int 0 s1.toks,.int k t,.int 1 (s1.toks+1)] },gens:=s1.gens,drawn:=s1.drawn,toks:=s1.toks+1+1,os:=s1.os }:Shared)=s2 at m2 F2 ⊢
 have S2':SR prog w b F s2.heap ad1 σ2:=hs2 ▸ S2
 clear S2 hs2
 have X:=Src.ofWalks (target:=.Name v q) ((Walks.range (prog:=prog) (w:=w) hA.1 s2.heap.objs.size 0 1 k.toNat).bound) (fun i v s Q E st q=>wpAny_pure q) fun i h st b hb=>by
  rw [List.mem_singleton.mp hb]
  exact ⟨_,st,fun _ _ q=>(by cases q),fun _ q=>(by cases q)⟩
 have hW:∀ a,a ∈ [s2.heap.objs.size]→s2.heap.get? a=none:=fun a hb=>by rw [List.mem_singleton.mp hb]; exact Heap.get?_none_of_le (Nat.le_refl _)
 refine for_code sd hb (W:=fun a=>a ∈ [s2.heap.objs.size]) (fp:=fun a=>a ∈ [s2.heap.objs.size]) (ds:=(List.range k.toNat).map fun (k:Nat)=>D.int k) (by simpa using X) hA F2 hW (fun _ q=>.inl q) S2' (fun j d u s3 ad3 σ3 env1 env2 Q E hd hP m3 hbt F3 S3 z=>?_)
  (fun f s' z=>z.after (hF.toS hS (m1.trans m2))) (F2.toS S2' (Mv.grow (t:=s2.toks) (push_keep _))) (S2'.aside hW (push_keep _) (fun b hb=>by rw [List.mem_singleton.mp hb,Heap.get?_push_size _ rfl]; rfl)) (F2.aside hW (push_keep _)) ?_ h4
 ·obtain ⟨hlt,t',rfl⟩:=hP
  exact tg_assign Home.own G.inj (.one hi hs) hbt hA.1 F3 S3 (range_at hd ▸ .int _ _) z
 ·show IsRangeIter _ _ _ _ _
  rw [show (max k 0 - ((0:Nat):Int))=k by rw [Int.max_eq_left hc.1]; exact Int.sub_zero k]
  simpa using Heap.get?_push_size s2.heap (o:={ cls:=.type "range_iterator", data:=.fields #[rawInt 0,rawInt k,rawInt 1] }) rfl
end
section
variable {prog:Program} {w:World} {K:Frag} {mg mb:Str→Option Value} {b:Heap}
variable {h h':Heap} {F W fp:Addr→Prop} {ad ad' ad'' ad0:Adr} {σ σ':Sto} {s s' s'' s0:Shared} {A:Around} {E:Value→Shared→Prop} {sc scope:Scope} {renv:Env} {env:Env'} {L:Addr} {O:Addr→Prop}
noncomputable def Non:Addr→Prop:=fun _=>False
theorem MvS.then {V:Addr→Prop} (x:MvS O s0 ad0 s ad) (y:MvS V s ad s' ad') (hV:∀ a,V a→s0.heap.get? a=none) (hO:∀ a,O a→¬ V a∧¬ inAd ad a):MvS O s0 ad0 s' ad':=by
 obtain ⟨h1,t1,u1,e1⟩:=x.rest
 obtain ⟨h2,t2,u2,e2⟩:=y.rest
 have keep:∀ a o,¬ inAd ad0 a→¬ O a→s0.heap.get? a=some o→s'.heap.get? a=some o:=fun a o m n e=>by
  refine y.old a o (fun z=>?_) (fun z=>by rw [hV a z] at e; exact nos e) (x.old a o m n e)
  rcases x.new a z with z | z
  ·exact m z
  ·rw [z] at e; exact nos e
 refine ⟨⟨h2,t2,u2,by rw [e2,e1]⟩,keep,fun a q z=>?_,fun a q=>?_,fun n l e=>?_⟩
 ·have:=x.liv a q z
  cases y':s.heap.get? a with
  | none=>rw [y'] at this; exact fls this
  | some o=>rw [y.old a o (hO a q).2 (hO a q).1 y']; rfl
 ·rcases y.new a q with q | q
  ·exact x.new a q
  ·by_cases m:inAd ad0 a
   ·exact .inl m
   ·right
    cases z:s0.heap.get? a with
    | none=>rfl
    | some o =>
     by_cases n:O a
     ·have:=x.liv a n (by rw [z]; rfl); rw [q] at this; exact fls this
     ·have:=x.old a o m n z; rw [q] at this; exact nos this
 ·rcases x.loc n l e with q | q
  ·exact y.loc n l q
  ·rcases y.loc n [] q with z | z <;> exact .inr z
theorem MvS.toMv (x:MvS Non s ad s' ad') (hF:FR prog w b s.heap ad F sc renv env) (hS:SR prog w b F s.heap ad σ):Mv renv.locals s ad s' ad':=by
 have hoff:¬ inAd ad renv.locals:=hF.offS hS _ (.inl rfl)
 refine ⟨x.rest,fun a o m _ e=>x.old a o m (fun q=>q) e,fun m ⟨o,es,ep,e,r⟩=>⟨o,es,ep,x.old _ _ hoff (fun q=>q) e,r⟩,fun q=>?_,x.new,x.loc⟩
 cases z:s.heap.get? renv.locals with
 | none=>rw [z] at q; exact fls q
 | some o=>rw [x.old _ _ hoff (fun q=>q) z]; rfl
theorem Mv.one (x:Mv L s ad s' ad') (hL:¬ inAd ad L):MvS (fun a=>a=L) s ad s' ad':=x.toS rfl fun a q=>q ▸ hL
theorem closure_of (names:List (Str × NameKind)) (hn:∀ p ∈ names,p.2=.free→∃ c,renv.cells.lookup p.1=some c):∀ acc:List (Str × Addr),∃ cl:List (Str × Addr),
  (forIn names acc fun (p:Str × NameKind) r=>(if (p.2 == NameKind.free)=true then do let c ← cellOf renv p.1; pure (ForInStep.yield ((p.1,c)::r)) else pure (ForInStep.yield r):Sem (ForInStep (List (Str × Addr)))))=(pure cl:Sem _) ∧
  (∀ x c,cl.lookup x=some c→renv.cells.lookup x=some c ∨ acc.lookup x=some c) ∧
  ∀ x c,renv.cells.lookup x=some c→acc.lookup x=some c ∨ (∃ p ∈ names,p.2=.free∧p.1=x)→cl.lookup x=some c:=by
 induction names with
 | nil=>intro acc; exact ⟨acc,rfl,fun x c q=>.inr q,fun x c _ q=>q.elim id fun ⟨_,q,_⟩=>nomatch q⟩
 | cons p r ih =>
  intro acc
  by_cases hp:p.2=.free
  ·obtain ⟨c,hc⟩:=hn p (.head _) hp
   obtain ⟨cl,h1,h2,h3⟩:=ih (fun q hq=>hn q (.tail _ hq)) ((p.1,c)::acc)
   have hd:∀ x c',((p.1,c)::acc).lookup x=some c'→(x=p.1∧c'=c) ∨ (x ≠ p.1∧acc.lookup x=some c'):=fun x c' q=>by
    rw [List.lookup_cons] at q
    by_cases hx:x=p.1
    ·subst hx; simp at q; exact .inl ⟨rfl,q.symm⟩
    ·rw [beq_false_of_ne hx] at q; exact .inr ⟨hx,q⟩
   refine ⟨cl,?_,fun x c' q=>?_,fun x c' e q=>h3 x c' e ?_⟩
   ·rw [List.forIn_cons,hp]
    simp only [beq_self_eq_true,if_true]
    unfold cellOf
    rw [hc]
    exact h1
   ·rcases h2 x c' q with q | q
    ·exact .inl q
    ·rcases hd x c' q with ⟨rfl,rfl⟩ | ⟨_,q⟩
     ·exact .inl hc
     ·exact .inr q
   ·by_cases hx:x=p.1
    ·subst hx
     rw [hc] at e; obtain rfl:=so1 e
     left
     rw [List.lookup_cons]; simp
    ·rcases q with q | ⟨p',hp',h4,h5⟩
     ·left; rw [List.lookup_cons,beq_false_of_ne hx]; exact q
     ·right
      rcases List.mem_cons.mp hp' with rfl | hp'
      ·exact absurd h5.symm hx
      ·exact ⟨p',hp',h4,h5⟩
  ·obtain ⟨cl,h1,h2,h3⟩:=ih (fun q hq=>hn q (.tail _ hq)) acc
   refine ⟨cl,?_,h2,fun x c' e q=>h3 x c' e ?_⟩
   ·rw [List.forIn_cons,if_neg (by rw [beq_iff_eq]; exact hp)]
    exact h1
   ·rcases q with q | ⟨p',hp',h4,h5⟩
    ·exact .inl q
    ·right
     rcases List.mem_cons.mp hp' with rfl | hp'
     ·exact absurd h4 hp
     ·exact ⟨p',hp',h4,h5⟩
structure Comp (sc scope:Scope) (caps:List Str):Prop where
 kind:scope.kind=.function
 nocell:∀ y ∈ scope.names,y.2 ≠ .cell
 names:∀ y ∈ scope.names,y.2=.local→scope.names.lookup y.1=some .local
 caps:∀ x ∈ caps,scope.names.lookup x=some .free
 free:∀ y ∈ scope.names,y.2=.free→sc.names.lookup y.1=some .cell
theorem comp_of {caps:List Str} (hc:compSc sc scope caps=true):Comp sc scope caps:=by
 unfold compSc at hc
 simp only [Bool.and_eq_true,List.all_eq_true,beq_iff_eq,Bool.or_eq_true,bne_iff_ne,ne_eq] at hc
 obtain ⟨⟨⟨⟨h1,h2⟩,h3⟩,h4⟩,h5⟩:=hc
 exact ⟨h1,h2,fun y hy q=>(h3 y hy).resolve_left fun z=>z q,h4,fun y hy q=>(h5 y hy).resolve_left fun z=>z q⟩
theorem lookup_mem {x:Str} {k:NameKind}:∀ {names:List (Str × NameKind)},names.lookup x=some k→(x,k) ∈ names:=by
 intro names
 induction names with
 | nil=>intro h; exact nos h
 | cons p r ih =>
  intro h
  rw [List.lookup_cons] at h
  by_cases hx:x=p.1
  ·subst hx; simp at h; subst h; exact .head _
  ·rw [beq_false_of_ne hx] at h; exact .tail _ (ih h)
theorem closure_ok {caps:List Str} (C:Comp sc scope caps) (hF:FR prog w b s.heap ad F sc renv env):∃ cl,closureFor scope renv=pure cl∧(∀ x c,cl.lookup x=some c→renv.cells.lookup x=some c) ∧
  ∀ x c,scope.names.lookup x=some .free→renv.cells.lookup x=some c→cl.lookup x=some c:=by
 have hn:∀ p ∈ scope.names,p.2=.free→∃ c,renv.cells.lookup p.1=some c:=fun p hp hf=>by
  obtain ⟨c,v,e,_⟩:=hF.cel p.1 (hF.same _ _ (C.free p hp hf) (by decide))
  exact ⟨c,e⟩
 obtain ⟨cl,h1,h2,h3⟩:=closure_of scope.names hn []
 refine ⟨cl,?_,(fun x c q=>(h2 x c q).resolve_right (fun z=>nomatch z)),fun x c q e=>h3 x c e (.inr ⟨_,lookup_mem q,rfl,rfl⟩)⟩
 unfold closureFor
 refine Eq.trans ?_ h1
 first
  | rfl
  | (simp only [bind_pure]; rfl)
  | simp
theorem relabel_look (hF:FR prog w b s.heap ad F sc renv env) {caps:List Str} (C:Comp sc scope caps):∀ {names:List (Str × NameKind)},(∀ y ∈ names,y ∈ scope.names)→∀ {x:Str} {k:NameKind},names.lookup x=some k →
  (names.map fun (n,k)=>if (k == NameKind.free && renv.scope.kind == .function && renv.kindOf n == some .cell) then (n,NameKind.cell) else (n,k)).lookup x=some (if k=.free then .cell else k):=by
 intro names
 induction names with
 | nil=>intro _ x k h; exact nos h
 | cons p r ih =>
  intro hm x k h
  obtain ⟨n,kk⟩:=p
  rw [List.lookup_cons] at h
  rw [List.map_cons]
  by_cases hx:x=n
  ·subst hx
   simp at h
   subst h
   by_cases hk:kk=.free
   ·subst hk
    have hc:=hF.same _ _ (C.free _ (hm _ (.head _)) rfl) (by decide)
    have e:(NameKind.free == NameKind.free && renv.scope.kind == .function && renv.kindOf x == some .cell)=true:=by rw [hF.kind,hc]; decide
    dsimp only
    rw [if_pos e,List.lookup_cons]
    simp
   ·have e:¬ (kk == NameKind.free && renv.scope.kind == .function && renv.kindOf x == some .cell)=true:=by simp [hk]
    dsimp only
    rw [if_neg e,List.lookup_cons]
    simp [hk]
  ·rw [beq_false_of_ne hx] at h
   have ih':=ih (fun y hy=>hm y (.tail _ hy)) h
   dsimp only
   split
   ·rw [List.lookup_cons,beq_false_of_ne hx]; exact ih'
   ·rw [List.lookup_cons,beq_false_of_ne hx]; exact ih'
theorem kind_comp (hF:FR prog w b s.heap ad F sc renv env) {caps:List Str} (C:Comp sc scope caps) {cl:List (Str × Addr)} {c:Addr} {x:Str} {k:NameKind} (h:scope.names.lookup x=some k):(compEnvC scope cl c renv).kindOf x=some (if k=.free then .cell else k) :=
 relabel_look hF C (fun y hy=>hy) h
theorem kind_cell (hF:FR prog w b s.heap ad F sc renv env) {caps:List Str} (C:Comp sc scope caps) {cl:List (Str × Addr)} {c:Addr} {x:Str} (h:(compEnvC scope cl c renv).kindOf x=some .cell):scope.names.lookup x=some .free:=by
 cases hk:scope.names.lookup x with
 | none =>
  exfalso
  have:∀ {names:List (Str × NameKind)},names.lookup x=none→(names.map fun (n,k)=>if (k == NameKind.free && renv.scope.kind == .function && renv.kindOf n == some .cell) then (n,NameKind.cell) else (n,k)).lookup x=none:=by
   intro names
   induction names with
   | nil=>intro _; rfl
   | cons p r ih =>
    intro hh
    obtain ⟨n,kk⟩:=p
    rw [List.lookup_cons] at hh
    rw [List.map_cons]
    by_cases hx:x=n
    ·subst hx; simp at hh
    ·rw [beq_false_of_ne hx] at hh
     dsimp only
     split
     ·rw [List.lookup_cons,beq_false_of_ne hx]; exact ih hh
     ·rw [List.lookup_cons,beq_false_of_ne hx]; exact ih hh
  have e:=this hk
  rw [show (compEnvC scope cl c renv).kindOf x=none from e] at h
  exact nos h
 | some k =>
  rw [kind_comp hF C hk] at h
  by_cases hf:k=.free
  ·rw [hf]
  ·rw [if_neg hf] at h
   obtain rfl:=so1 h
   exact absurd rfl (C.nocell _ (lookup_mem hk))
theorem caps_look {cs:List Nat} {i:Nat} {v:V}:(caps cs env).lookup i=some v→i ∈ cs∧env.lookup i=some v:=by
 unfold caps
 induction cs with
 | nil=>intro h; exact nos h
 | cons j r ih =>
  intro h
  rw [List.filterMap_cons] at h
  cases hj:env.lookup j with
  | none =>
   rw [hj] at h
   exact ⟨.tail _ (ih h).1,(ih h).2⟩
  | some u =>
   rw [hj] at h
   simp only [Option.map_some] at h
   rw [List.lookup_cons] at h
   by_cases hi:i=j
   ·subst hi; simp at h; subst h; exact ⟨.head _,hj⟩
   ·rw [beq_false_of_ne hi] at h
    exact ⟨.tail _ (ih h).1,(ih h).2⟩
theorem FR.comp {cs:List Nat} {cl:List (Str × Addr)} {c:Addr} {m:Str→Option Value} (C:Comp sc scope (cs.map nm)) (hF:FR prog w b s0.heap ad0 F sc renv env) (hS:SR prog w b F s0.heap ad0 σ)
  (hcl:(∀ x c,cl.lookup x=some c→renv.cells.lookup x=some c)∧∀ x c,scope.names.lookup x=some .free→renv.cells.lookup x=some c→cl.lookup x=some c)
  (m0:MvS Non s0 ad0 s ad) (hW:∀ a,W a→s0.heap.get? a=none) (hc:W c) (hb:b.objs.size≤c) (hn:s.heap.Ns c m):FR prog w b s.heap ad (fun a=>F a ∨ W a) scope (compEnvC scope cl c renv) (caps cs env):=by
 have kC:∀ {x d v},renv.cells.lookup x=some d→s0.heap.IsCell d v→s.heap.IsCell d v:=fun {x d v} q ⟨o,ho,hd⟩=>⟨o,m0.old _ _ (fun z=>(hS.off _ z).1 (hF.ownC _ _ q).1) (fun z=>z) ho,hd⟩
 refine ⟨C.kind,hF.glb,hF.bi,fun x k hk hne=>?_,⟨m,hn,fun i v e=>.inr ?_⟩,fun x hx=>?_,.inr hc,hb,fun x d q=>⟨.inl (hF.ownC x d (hcl.1 x d q)).1,fun z=>?_⟩,fun x y d q1 q2=>hF.apart x y d (hcl.1 _ _ q1) (hcl.1 _ _ q2)⟩
 ·rw [kind_comp hF C hk,if_neg hne]
 ·obtain ⟨hi,he⟩:=caps_look e
  have hfr:=C.caps (nm i) (List.mem_map_of_mem hi)
  have hk:=hF.same _ _ (C.free _ (lookup_mem hfr) rfl) (by decide)
  obtain ⟨m1,hn1,hv⟩:=hF.vars
  rcases hv i v he with ⟨k,_⟩ | ⟨k,d,rv,e1,e2,r⟩
  ·rw [hk] at k; cases k
  ·refine ⟨by rw [kind_comp hF C hfr,if_pos rfl],d,rv,hcl.2 _ _ hfr e1,kC e1 e2,?_⟩
   exact ((VR.aside hW r).mvS (s:=s0) (O:=Non) (fun a q=>q.elim) m0)
 ·have hfr:=kind_cell hF C hx
  have hk:=hF.same _ _ (C.free _ (lookup_mem hfr) rfl) (by decide)
  obtain ⟨d,v,e1,e2⟩:=hF.cel x hk
  exact ⟨d,v,hcl.2 _ _ hfr e1,kC e1 e2⟩
 ·have:=hS.live d (hF.ownC x d (hcl.1 x d q)).1
  rw [z] at this
  rw [show (compEnvC scope cl c renv).locals=c from rfl,hW c hc] at this
  exact fls this
end
section
variable {prog:Program} {w:World} {K:Frag} {mg mb:Str→Option Value} {b:Heap}
variable {h h':Heap} {F W fp:Addr→Prop} {ad ad' ad'' ad0:Adr} {σ σ' σ0:Sto} {s s' s'' s0:Shared} {A:Around} {E:Value→Shared→Prop} {sc scope:Scope} {renv:Env} {env:Env'} {L:Addr} {O:Addr→Prop}
theorem comp_loop {elt target iter:PySem.Expr} {ifs:List PySem.Expr} {scope:Scope} {pos:Pos} {it acc:Value} {env:Env} {R:Result→Shared→Prop} (I:Nat→Shared→Prop)
  (turn:∀ n s,I n s→wpAny (model prog w) A (pyNext it) (fun r s₁=>match r with
   | none=>R (.ok .next) s₁
   | some v=>wpAny (model prog w) A (letOwnedTupleGo target it v) (fun _ s₀=>wpAny (model prog w) A (assign target env v) (fun _ s₂ =>
     wpAny (model prog w) A (forIn ifs true fun c r=>if r=true then do let ok ← isTrue c env (eval c env); pure (ForInStep.yield ok) else pure (ForInStep.yield r)) (fun ok s₃ =>
      if ok=true then wpAny (model prog w) A (eval elt env) (fun x s₄ =>
       wpAny (model prog w) A (call (.builtin "list.append") [acc,x]) (fun _ s₅=>∃ m,m < n∧I m s₅) (notedBy (model prog w) A env fun e s'=>R (.error e) s') s₄) (notedBy (model prog w) A env fun e s'=>R (.error e) s') s₃
      else ∃ m,m < n∧I m s₃) (notedBy (model prog w) A env fun e s'=>R (.error e) s') s₂) (notedBy (model prog w) A env fun e s'=>R (.error e) s') s₀) (notedBy (model prog w) A env fun e s'=>R (.error e) s') s₁) (notedBy (model prog w) A env fun e s'=>R (.error e) s') s)
  (n:Nat) (h:I n s):codeAny (model prog w) A (.compLoop (.ListComp elt [⟨target,iter,ifs,0⟩] scope pos) 0 it acc env) R s:=by
 refine codeAny_loop rfl I (fun n s hI=>?_) n h
 show wpAny _ A ((compTurn (.ListComp elt [⟨target,iter,ifs,0⟩] scope pos) 0 it acc env).onRaise (fun x=>do noteFrame x env; theTreesLotGoes x)) _ _ s
 refine wpAny_noted ?_
 rw [compTurn_list]
 refine wpAny_bind (wpAny_standAt (wpAny_bind (wpAny_mono (turn n s hI) (fun r s₁ h₁=>?_) fun _ _ h'=>h')))
 cases r with
 | none=>exact wpAny_pure h₁
 | some v =>
  refine wpAny_bind (wpAny_mono h₁ (fun _ s₀ h₀'=>?_) fun _ _ h'=>h')
  refine wpAny_bind (wpAny_mono h₀' (fun _ s₂ h₂=>?_) fun _ _ h'=>h')
  refine wpAny_bind (wpAny_mono h₂ (fun ok s₃ h₃=>?_) fun _ _ h'=>h')
  cases ok with
  | false=>exact wpAny_pure ⟨rfl,h₃⟩
  | true =>
   exact wpAny_bind (wpAny_bind (wpAny_mono h₃ (fun x s₄ h₄=>wpAny_bind (wpAny_mono h₄ (fun _ s₅ h₅=>wpAny_pure (wpAny_pure ⟨rfl,h₅⟩)) fun _ _ h'=>h')) fun _ _ h'=>h'))
inductive EncC (scope:Scope):Option X→List PySem.Expr→Prop
 | none:EncC scope .none []
 | one {c z}:Enc scope c z→EncC scope (some c) [z]
theorem own_app {D c:Addr} {ys:Array Value} {k:Nat} {v:Value} {V:Addr→Prop} {Q:Value→Shared→Prop} (hD:W D) (ho:s.heap.get? D=some (seqObj "list" ys k)) (hsz:ys.size≤sizeLine)
  (h:∀ h',h'.get? D=some (seqObj "list" (ys.push v) (k+1))→(∀ a o,a ≠ D→s.heap.get? a=some o→h'.get? a=some o)→Q .none { s with heap:=h' }) :
  wpAny (model prog w) A (call (.builtin "list.append") [.ref D,v]) Q E s:=by
 refine call_meets PySem.F.slot_list_append ⟨_,ho,rfl⟩ PySem.F.entry_list_append (PySem.F.args_list_append_2 _ _) (PySem.list_append D ys k v hsz) ⟨ho,?_⟩
 refine h _ ?_ upd_keep
 have:=PySem.IsL.update ho (·.push v)
 rw [this]
 simp
theorem compL_len {l:Lv} {el:X} {tg:Tg} {cond:Option X}:∀ {ds:List D} {σ:Sto} {r:List D} {σ':Sto},compL l env el tg cond ds σ=some (r,σ')→r.length≤ds.length:=by
 intro ds
 induction ds with
 | nil=>intro σ r σ' h; obtain ⟨rfl,rfl⟩:=so2 h; exact Nat.le_refl _
 | cons d ds ih =>
  intro σ r σ' h
  obtain ⟨env1,h1,h2⟩:=bd h
  obtain ⟨b,h3,h4⟩:=bd h2
  split at h4
  ·obtain ⟨x,h5,h6⟩:=bd h4
   obtain ⟨q,h7,h8⟩:=md h6
   obtain ⟨rfl,rfl⟩:=pj h8
   simp only [List.length_cons]
   exact Nat.succ_le_succ (ih h7)
  ·exact Nat.le_succ_of_le (ih h4)
theorem DRs.at {M:Addr→Prop} {vs:List Value} {ds:List D} {v:Value} {d:D} {i:Nat} (r:DRs prog w h M vs ds) (hv:vs[i]?=some v) (hd:ds[i]?=some d):DR prog w h M v d:=by
 obtain ⟨v',e1,e2⟩:=r.get hd
 exact so1 (e1.symm.trans hv) ▸ e2
theorem ns_keep {c:Addr} {m:Str→Option Value} (hk:∀ o,h.get? c=some o→h'.get? c=some o) (x:h.Ns c m):h'.Ns c m:=by
 obtain ⟨o,es,ep,e,r⟩:=x; exact ⟨o,es,ep,hk _ e,r⟩
structure CX (prog:Program) (w:World) (b:Heap) (F W O:Addr→Prop) (c Dd:Addr) (s0:Shared) (ad0:Adr) (St:Nat→Heap→Prop):Prop where
 cF:F c ∨ W c
 dF:F Dd ∨ W Dd
 cD:c ≠ Dd
 step:∀ {s s':Shared} {ad ad':Adr} {V:Addr→Prop},(∀ a,V a→a=c ∨ a=Dd)→¬ inAd ad c→¬ inAd ad Dd→MvS O s0 ad0 s ad→MvS V s ad s' ad'→MvS O s0 ad0 s' ad'
 fp:∀ {s s':Shared} {ad ad':Adr} {V:Addr→Prop} {j:Nat} {σ:Sto},SR prog w b (fun a=>F a ∨ W a) s.heap ad σ→MvS O s0 ad0 s ad→MvS V s ad s' ad'→(∀ a,V a→a=c ∨ a=Dd)→St j s.heap→St j s'.heap
structure CI (prog:Program) (w:World) (b:Heap) (F W O:Addr→Prop) (Dd:Addr) (s0:Shared) (ad0:Adr) (St:Nat→Heap→Prop) (i:Nat) (s:Shared) (ad:Adr) (σ:Sto) (ys:Array Value) (kk:Nat) (dn:List D):Prop where
 M:MvS O s0 ad0 s ad
 S:SR prog w b (fun a=>F a ∨ W a) s.heap ad σ
 st:St i s.heap
 hD:s.heap.get? Dd=some (seqObj "list" ys kk)
 dn:DRs prog w s.heap (Mt ad fun a=>F a ∨ W a) ys.toList dn
inductive CLs (prog:Program) (w:World) (b:Heap) (F W O:Addr→Prop) (Dd:Addr) (s0:Shared) (ad0:Adr) (St:Nat→Heap→Prop) (Z:Shared→Adr→Prop) (f:List D→Sto→Option (List D × Sto)) (ds tot:List D) (σ':Sto) (k:Nat) (s:Shared):Prop
 | mk (i:Nat) (ad:Adr) (σ:Sto) (ys:Array Value) (kk:Nat) (dn rr:List D):k=ds.length+1 - i→i≤ds.length→CI prog w b F W O Dd s0 ad0 St i s ad σ ys kk dn→Z s ad→dn++rr=tot→f (ds.drop i) σ=some (rr,σ')→CLs prog w b F W O Dd s0 ad0 St Z f ds tot σ' k s
section
variable {c Dd:Addr} {St:Nat→Heap→Prop} {i kk:Nat} {ys:Array Value} {dn:List D} {V:Addr→Prop}
theorem CLs.next {Z:Shared→Adr→Prop} {f:List D→Sto→Option (List D × Sto)} {ds tot rr:List D} {k:Nat} (e0:k=ds.length+1 - i) (hlt:i < ds.length) (J:CI prog w b F W O Dd s0 ad0 St (i+1) s ad σ ys kk dn) (z:Z s ad) (e:dn++rr=tot) (he:f (ds.drop (i+1)) σ=some (rr,σ')) :
  ∃ m,m < k∧CLs prog w b F W O Dd s0 ad0 St Z f ds tot σ' m s:=⟨_,e0 ▸ Nat.sub_lt_sub_left (Nat.lt_succ_of_lt hlt) (Nat.lt_succ_self i),i+1,ad,σ,ys,kk,dn,rr,rfl,hlt,J,z,e,he⟩
theorem CI.offc (x:CI prog w b F W O Dd s0 ad0 St i s ad σ ys kk dn) (X:CX prog w b F W O c Dd s0 ad0 St):¬ inAd ad c:=fun z=>(x.S.off _ z).1 X.cF
theorem CI.offD (x:CI prog w b F W O Dd s0 ad0 St i s ad σ ys kk dn) (X:CX prog w b F W O c Dd s0 ad0 St):¬ inAd ad Dd:=fun z=>(x.S.off _ z).1 X.dF
theorem CI.step (x:CI prog w b F W O Dd s0 ad0 St i s ad σ ys kk dn) (X:CX prog w b F W O c Dd s0 ad0 St) (hV:∀ a,V a→a=c) (m:MvS V s ad s' ad') (S:SR prog w b (fun a=>F a ∨ W a) s'.heap ad' σ'):CI prog w b F W O Dd s0 ad0 St i s' ad' σ' ys kk dn :=
 ⟨X.step (fun a q=>.inl (hV a q)) (x.offc X) (x.offD X) x.M m,S,X.fp x.S x.M m (fun a q=>.inl (hV a q)) x.st,m.old _ _ (x.offD X) (fun z=>X.cD (hV _ z).symm) x.hD,x.dn.mvS (fun a q=>hV a q ▸ X.cF) m⟩
theorem CI.turn {t:Nat} {j:Nat} (x:CI prog w b F W O Dd s0 ad0 St j s ad σ ys kk dn) (hW:∀ a,W a→s0.heap.get? a=none) (hOW:∀ a,O a→¬ W a) (hk:∀ a o,¬ W a→s.heap.get? a=some o→h'.get? a=some o) (hl:∀ a,W a→(h'.get? a).isSome=true) (st:St i h')
  (hD:h'.get? Dd=some (seqObj "list" ys kk)):CI prog w b F W O Dd s0 ad0 St i { s with heap:=h',toks:=t } ad σ ys kk dn :=
 ⟨x.M.turn hW hOW hk,x.S.turn hk hl,st,hD,x.dn.mono fun a o m e=>⟨hk a o (fun q=>m (.inr (.inr q))) e,m⟩⟩
theorem CI.push {rv:Value} {dv:D} {rr tot:List D} {Q:Value→Shared→Prop} (x:CI prog w b F W O Dd s0 ad0 St i s ad σ ys kk dn) (X:CX prog w b F W O c Dd s0 ad0 St) (r:DR prog w s.heap (Mt ad fun a=>F a ∨ W a) rv dv) (e:dn++rr=tot) (hz:tot.length≤1000)
  (h:∀ h',CI prog w b F W O Dd s0 ad0 St i { s with heap:=h' } ad σ (ys.push rv) (kk+1) (dn++[dv])→(∀ a o,a ≠ Dd→s.heap.get? a=some o→h'.get? a=some o)→Q .none { s with heap:=h' }) :
  wpAny (model prog w) A (call (.builtin "list.append") [.ref Dd,rv]) Q E s:=by
 have hsz:ys.size≤1000:=Nat.le_trans (Nat.le_of_eq x.dn.length) (Nat.le_trans (by rw [← e,List.length_append]; exact Nat.le_add_right _ _) hz)
 refine own_app (W:=fun a=>F a ∨ W a) (c:=c) (V:=Non) X.dF x.hD (le_line hsz) fun h6 hD6 hk6=>h h6 ?_ hk6
 have hl6:(h6.get? Dd).isSome=true:=congrArg Option.isSome hD6
 have m6:MvS (fun a=>a=Dd) s ad { s with heap:=h6 } ad:=⟨⟨_,_,_,rfl⟩,fun a o _ n e=>hk6 a o n e,fun a q _=>q ▸ hl6,fun _ q=>.inl q,fun _ _ e=>.inl e⟩
 have hK:∀ a o,¬ Mt ad (fun a=>F a ∨ W a) a→s.heap.get? a=some o→h6.get? a=some o∧¬ Mt ad (fun a=>F a ∨ W a) a:=fun a o m e=>⟨hk6 a o (fun q=>m (.inr (q ▸ X.dF))) e,m⟩
 exact ⟨X.step (fun a q=>.inr q) (x.offc X) (x.offD X) x.M m6,x.S.kept X.dF hk6 hl6,X.fp x.S x.M m6 (fun a q=>.inr q) x.st,hD6,by rw [Array.toList_push]; exact (x.dn.mono hK).append (.cons (r.mono hK) .nil)⟩
theorem CI.over {W1:Addr→Prop} {t:Nat} {m:Str→Option Value} {P:Prop} (x:CI prog w b F W Non Dd s0 ad0 St i s ad σ ys kk dn) (hFW:∀ a,F a→¬ W a) (hW:∀ a,W a→s0.heap.get? a=none) (hW1:∀ a,W1 a→W a) (hWall:∀ a,W a→W1 a ∨ a=c ∨ a=Dd)
  (hcW:W c) (hDW:W Dd) (hcD:c ≠ Dd) (hc1:¬ W1 c) (hD1:¬ W1 Dd) (hn:s.heap.Ns c m) (hk:∀ a o,¬ W1 a→s.heap.get? a=some o→h'.get? a=some o)
  (hR:MvS Non s0 ad0 { s with heap:=h',toks:=t } ad→SR prog w b (fun a=>F a ∨ a=c) h' ad σ→h'.get? Dd=some (seqObj "list" ys kk)→¬ Mt ad F Dd→DRs prog w h' (Mt ad fun a=>F a ∨ a=c) ys.toList dn→h'.Ns c m→P):P:=by
 have eF:(fun a=>F a ∨ W a)=fun a=>(F a ∨ a=c) ∨ (W1 a ∨ a=Dd):=funext fun a=>propext ⟨fun q=>by
  rcases q with q | q
  ·exact .inl (.inl q)
  ·rcases hWall a q with q | q | q
   ·exact .inr (.inl q)
   ·exact .inl (.inr q)
   ·exact .inr (.inr q),fun q=>by
  rcases q with (q | q) | (q | q)
  ·exact .inl q
  ·exact .inr (q ▸ hcW)
  ·exact .inr (hW1 a q)
  ·exact .inr (q ▸ hDW)⟩
 have hF2:∀ a,(F a ∨ a=c)→¬ (W1 a ∨ a=Dd):=fun a q z=>q.elim (fun q=>hFW a q (z.elim (hW1 a) fun z=>z ▸ hDW)) fun q=>z.elim (fun z=>hc1 (q ▸ z)) (fun z=>hcD (q ▸ z))
 have hk2:∀ a o,¬ (W1 a ∨ a=Dd)→s.heap.get? a=some o→h'.get? a=some o:=fun a o m e=>hk a o (fun q=>m (.inl q)) e
 have hdn:DRs prog w s.heap (Mt ad fun a=>(F a ∨ a=c) ∨ (W1 a ∨ a=Dd)) ys.toList dn:=eF ▸ x.dn
 exact hR (x.M.turn hW (fun a q=>q.elim) fun a o m e=>hk a o (fun q=>m (hW1 a q)) e) ((eF ▸ x.S).drop hF2 hk2) (hk _ _ hD1 x.hD) (fun q=>q.elim (fun q=>(x.S.off _ q).1 (.inr hDW)) fun q=>hFW _ q hDW)
  (DRs.dropW (hdn.mono fun a o m e=>⟨hk2 a o (fun q=>m (.inr (.inr q))) e,m⟩)) (ns_keep (hk _ · hc1) hn)
end
noncomputable def condT (l:Lv) (cond:Option X) (env:Env') (σ:Sto):Option (Bool × Sto):=match cond with | .none=>some (true,σ) | some c=>test l env σ c
inductive CompY (l:Lv) (env env1:Env') (el:X) (tg:Tg) (cond:Option X) (ds:List D) (σ1:Sto) (rs:List D) (σ':Sto):Prop
 | mk (dv:D) (σ5:Sto) (rr:List D):evD l env1 σ1 el=some (dv,σ5)→compL l env el tg cond ds σ5=some (rr,σ')→dv::rr=rs→CompY l env env1 el tg cond ds σ1 rs σ'
inductive CompI (l:Lv) (env:Env') (el:X) (tg:Tg) (cond:Option X) (ds:List D) (d:D) (σ:Sto) (rs:List D) (σ':Sto):Prop
 | mk (env1:Env') (tb:Bool) (σ1:Sto):bindTg tg d env=some env1→condT l cond env1 σ=some (tb,σ1)→(tb=false→compL l env el tg cond ds σ1=some (rs,σ'))→(tb=true→CompY l env env1 el tg cond ds σ1 rs σ')→CompI l env el tg cond ds d σ rs σ'
theorem compL_cons {l:Lv} {el:X} {tg:Tg} {cond:Option X} {ds rs:List D} {d:D} (h:compL l env el tg cond (d::ds) σ=some (rs,σ')):CompI l env el tg cond ds d σ rs σ':=by
 obtain ⟨env1,h1,h⟩:=bd h
 obtain ⟨tb,σ1,h3,h⟩:=bp h
 refine ⟨env1,tb,σ1,h1,h3,fun e=>?_,fun e=>?_⟩
 ·subst e; exact h
 ·subst e
  obtain ⟨dv,σ5,h5,h⟩:=bp h
  obtain ⟨rr,σ6,h7,h⟩:=mpp h
  exact ⟨dv,σ5,rr,h5,(pj h).2 ▸ h7,(pj h).1⟩
theorem drop_at {f:List D→Sto→Option (List D × Sto)} {ds:List D} {i:Nat} {r:List D × Sto} (hlt:i < ds.length) (he:f (ds.drop i) σ=some r):f (ds[i]::ds.drop (i+1)) σ=some r:=List.drop_eq_getElem_cons hlt ▸ he
theorem drop_end {f:List D→Sto→Option (List D × Sto)} {ds:List D} {i:Nat} {r:List D × Sto} (hge:ds.length≤i) (he:f (ds.drop i) σ=some r):f [] σ=some r:=List.drop_of_length_le hge ▸ he
theorem app_end {dn rr rs:List D} (e:[]=rr) (h:dn++rr=rs):dn=rs:=(List.append_nil dn).symm.trans (e ▸ h)
theorem app_one {dn rr rr' rs:List D} {dv:D} (e:dv::rr'=rr) (h:dn++rr=rs):(dn++[dv])++rr'=rs:=by subst e; exact (List.append_assoc ..).trans h
theorem home_c {cs:List Nat} {cl:List (Str × Addr)} {c:Addr} (C:Comp sc scope (cs.map nm)) (hF0:FR prog w b s0.heap ad0 F sc renv env):Home (fun a=>a=c) scope (compEnvC scope cl c renv):=by
 refine ⟨rfl,fun y d hs hk _=>?_,fun a q=>.inl q⟩
 have hfr:=kind_cell hF0 C hk
 unfold storeB at hs
 rw [hfr] at hs
 exact fls hs
theorem CX.mk1 {t:PySem.Expr} {itv:Value} {n:Nat} {W1:Addr→Prop} {P:Nat→Value→Heap→Prop} {St:Nat→Heap→Prop} (X:Src prog w A t itv W1 fp n P St) {c Dd:Addr} (hW:∀ a,W a→s0.heap.get? a=none) (hW1:∀ a,W1 a→W a) (hfp:∀ a,fp a→(W1 a∧a ≠ c∧a ≠ Dd) ∨ (¬ Mt ad0 F a∧(s0.heap.get? a).isSome=true))
  (hcW:W c) (hDW:W Dd) (hcD:c ≠ Dd):CX prog w b F W Non c Dd s0 ad0 St :=
 ⟨.inr hcW,.inr hDW,hcD,fun hV _ _ x y=>x.then y (fun a q=>(hV a q).elim (fun z=>z ▸ hW c hcW) fun z=>z ▸ hW Dd hDW) (fun a q=>q.elim),fun {s s' ad ad' V j σ} T mm m hV z=>X.frame _ _ _ z fun a o q e=>by
  rcases hfp a q with ⟨q,q3,q4⟩ | ⟨q1,q2⟩
  ·exact m.old a o (fun z=>(T.off a z).1 (.inr (hW1 a q))) (fun z=>(hV a z).elim q3 q4) e
  ·exact m.old a o (fun z=>(mm.new a z).elim (fun z=>q1 (.inl z)) fun z=>nl z q2) (fun z=>(hV a z).elim (fun z=>nl (z ▸ hW c hcW) q2) fun z=>nl (z ▸ hW Dd hDW) q2) e⟩
theorem comp_code {l:Lv} {n:Nat} (inj:∀ i j,nm i=nm j→i=j) (ih:Ev prog w b l n) (it:Tst prog w b l n) {tg:Tg} {t x iter:PySem.Expr} {el:X} {cond:Option X} {ifs:List PySem.Expr} {cs:List Nat} {cl:List (Str × Addr)} {pos:Pos}
  (C:Comp sc scope (cs.map nm)) (ht:EncT scope tg t) (hx:Enc scope el x) (hc:EncC scope cond ifs)
  {itv:Value} {ds:List D} {W1:Addr→Prop} {P:Nat→Value→Heap→Prop} {St:Nat→Heap→Prop} (X:Src prog w A t itv W1 fp ds.length P St) {R:Result→Shared→Prop} {rs:List D} {σ':Sto} {c Dd:Addr}
  (hA:Room A n) (hF0:FR prog w b s0.heap ad0 F sc renv env) (hW:∀ a,W a→s0.heap.get? a=none) (hW1:∀ a,W1 a→W a) (hfp:∀ a,fp a→(W1 a∧a ≠ c∧a ≠ Dd) ∨ (¬ Mt ad0 F a∧(s0.heap.get? a).isSome=true)) (hS0:SR prog w b F s0.heap ad0 σ0)
  (hcW:W c) (hDW:W Dd) (hcD:c ≠ Dd) (hc1:¬ W1 c) (hD1:¬ W1 Dd) (hb:b.objs.size≤c) (hcl:(∀ x c,cl.lookup x=some c→renv.cells.lookup x=some c)∧∀ x c,scope.names.lookup x=some .free→renv.cells.lookup x=some c→cl.lookup x=some c)
  (hWall:∀ a,W a→W1 a ∨ a=c ∨ a=Dd)
  {vs:List Value} (hvs:DRs prog w s0.heap (Mt ad0 F) vs ds) (hP:∀ i v h,P i v h→vs[i]?=some v) (hsz:ds.length≤1000)
  (hR:∀ s' ad' ys k m,MvS Non s0 ad0 s' ad'→SR prog w b (fun a=>F a ∨ a=c) s'.heap ad' σ'→s'.heap.get? Dd=some (seqObj "list" ys k)→¬ Mt ad' F Dd→DRs prog w s'.heap (Mt ad' fun a=>F a ∨ a=c) ys.toList rs→s'.heap.Ns c m→R (.ok .next) s')
  {m:Str→Option Value} (m0:MvS Non s0 ad0 s ad) (hS:SR prog w b (fun a=>F a ∨ W a) s.heap ad σ) (st:St 0 s.heap) (hD:s.heap.get? Dd=some (seqObj "list" #[] 0)) (hn:s.heap.Ns c m) (he:compL l (caps cs env) el tg cond ds σ=some (rs,σ')) :
  codeAny (model prog w) A (.compLoop (.ListComp x [⟨t,iter,ifs,0⟩] scope pos) 0 itv (.ref Dd) (compEnvC scope cl c renv)) R s:=by
 have X':CX prog w b F W Non c Dd s0 ad0 St:=.mk1 X hW hW1 hfp hcW hDW hcD
 have hz:rs.length≤1000:=Nat.le_trans (compL_len he) hsz
 obtain ⟨I,hI⟩:∃ I:Nat→Shared→Prop,∀ k s,I k s ↔ CLs prog w b F W Non Dd s0 ad0 St (fun s _=>∃ m,s.heap.Ns c m) (compL l (caps cs env) el tg cond) ds rs σ' k s:=⟨_,fun _ _=>Iff.rfl⟩
 refine comp_loop I ?_ (ds.length+1) ((hI _ _).mpr ⟨0,ad,σ,#[],0,[],rs,rfl,Nat.zero_le _,⟨m0,hS,st,hD,.nil⟩,⟨m,hn⟩,rfl,he⟩)
 have hI':∀ {k s},(∃ m,m < k∧CLs prog w b F W Non Dd s0 ad0 St (fun s _=>∃ m,s.heap.Ns c m) (compL l (caps cs env) el tg cond) ds rs σ' m s)→∃ m,m < k∧I m s:=fun ⟨m,a,z⟩=>⟨m,a,(hI _ _).mpr z⟩
 intro k s1 g1
 refine hide fun no=>?_
 obtain ⟨i,ad1,σ1,ys,kk,dn,rr,e0,hi,J,⟨m1,hn1⟩,hrs,he1⟩:=(hI _ _).mp g1
 clear hI g1 he hD hn st hS m0
 rcases Nat.lt_or_ge i ds.length with hlt | hge
 ·have hd:ds[i]?=some ds[i]:=List.getElem?_eq_getElem hlt
  obtain ⟨env1,tb,σ2,h1,h3,h4,h5⟩:=compL_cons (drop_at hlt he1)
  refine no (X.item i s1 _ _ hlt J.st fun v s1' go=>go _ _ fun h2 tk hPi st2 hk=>?_)
  have hlive:∀ a,W a→(h2.get? a).isSome=true:=fun a q=>(hWall a q).elim (X.live _ _ st2 a) fun q=>q.elim (fun q=>q ▸ isk (ns_some hn1) fun o e=>hk c o hc1 e) fun q=>q ▸ congrArg Option.isSome (hk _ _ hD1 J.hD)
  have J2:=J.turn (t:=tk) hW (fun a q=>q.elim) (fun a o m e=>hk a o (fun q=>m (hW1 a q)) e) hlive st2 (hk _ _ hD1 J.hD)
  have F2:=FR.comp (s:={ s1 with heap:=h2,toks:=tk }) C hF0 hS0 hcl J2.M hW hcW hb (ns_keep (hk _ · hc1) hn1)
  refine tg_assign (home_c C hF0) inj ht h1 hA.1 F2 J2.S ((hvs.aside (O:=Non) (fun a q=>q.elim) J2.M hW).at (hP i v _ hPi) hd) fun s3 m3 S3 F3=>?_
  have J3:=J2.step X' (fun a q=>q) m3 S3
  have tests:∀ {E},wpAny (model prog w) A (forIn ifs true fun c' r=>if r=true then do let ok ← isTrue c' (compEnvC scope cl c renv) (eval c' (compEnvC scope cl c renv)); pure (ForInStep.yield ok) else pure (ForInStep.yield r))
    (BP prog w b (fun a=>F a ∨ W a) c s3 ad1 σ2 tb) E s3:=by
   induction hc using EncC.casesOn with
   | none=>exact wpAny_tests_nil ⟨(so2 h3).1,ad1,Mv.refl,(so2 h3).2 ▸ S3⟩
   | one hz=>exact wpAny_tests_one (it _ _ _ hz _ _ _ _ h3 _ _ _ _ _ _ hA F3 S3)
  refine wpAny_mono tests (fun ok s4 z=>?_) fun _ _ z=>z
  obtain ⟨eok,ad4,m4,S4⟩:=z
  have F4:=F3.mv S3 m4
  have J4:=J3.step X' (fun a q=>q) (m4.one (J3.offc X')) S4
  induction ok using Bool.casesOn with
  | false=>exact hI' (CLs.next e0 hlt J4 (F4.vars.imp fun _ z=>z.1) hrs (h4 eok.symm))
  | true =>
   obtain ⟨dv,σ5,rr',h5,h7,h8⟩:=h5 eok.symm
   refine wpAny_mono (ih.d hx h5 hA F4 S4) (fun rv s5 z=>?_) fun _ _ z=>z
   obtain ⟨ad5,m5,S5,r5⟩:=z
   have J5:=J4.step X' (fun a q=>q) (m5.one (J4.offc X')) S5
   exact J5.push X' r5 hrs hz fun h6 J6 hk6=>hI' (CLs.next e0 hlt J6 ((F4.mv S4 m5).vars.imp fun _ z=>ns_keep (hk6 _ · hcD) z.1) (app_one h8 hrs) h7)
 ·have he1:=so2 (drop_end hge he1)
  refine no (X.done s1 _ _ (Nat.le_antisymm hi hge ▸ J.st) fun h2 tk hk=>?_)
  have hFW:∀ a,F a→¬ W a:=fun a q z=>nl (hW a z) (hS0.live a q)
  exact J.over hFW hW hW1 hWall hcW hDW hcD hc1 hD1 hn1 hk fun a1 a2 a3 a4 a5 a6=>hR _ ad1 ys kk m1 a1 (he1.2 ▸ a2) a3 a4 (app_end he1.1 hrs ▸ a5) a6
end
section
variable {prog:Program} {w:World} {K:Frag} {mg mb:Str→Option Value} {b:Heap}
variable {h h':Heap} {F W fp:Addr→Prop} {ad ad' ad'' ad0:Adr} {σ σ' σ0:Sto} {s s' s'' s0:Shared} {A:Around} {E:Value→Shared→Prop} {sc scope:Scope} {renv:Env} {env:Env'} {L:Addr} {O:Addr→Prop}
theorem base_size (hk:∀ a o,b.get? a=some o→s.heap.get? a=some o) (hL:b.objs.size≤L) (hl:(s.heap.get? L).isSome=true):b.objs.size≤s.heap.objs.size:=by
 cases z:s.heap.get? L with
 | none=>rw [z] at hl; exact fls hl
 | some o=>exact Nat.le_trans hL (Nat.le_of_lt (Heap.lt_size z))
theorem comp_block {l:Lv} {n:Nat} (inj:∀ i j,nm i=nm j→i=j) (ih:Ev prog w b l n) (it:Tst prog w b l n) {tg:Tg} {t x iter:PySem.Expr} {el:X} {cond:Option X} {ifs:List PySem.Expr} {cs:List Nat} {cl:List (Str × Addr)} {pos:Pos}
  (C:Comp sc scope (cs.map nm)) (ht:EncT scope tg t) (hx:Enc scope el x) (hc:EncC scope cond ifs)
  {xv:Value} {d:D} {ds:List D} {RR:Value→Addr→Result→Shared→Prop} {rs:List D} {σ':Sto}
  (hA:Room A n) (hF0:FR prog w b s0.heap ad0 F sc renv env) (hS0:SR prog w b F s0.heap ad0 σ0) (hcl:(∀ x c,cl.lookup x=some c→renv.cells.lookup x=some c)∧∀ x c,scope.names.lookup x=some .free→renv.cells.lookup x=some c→cl.lookup x=some c)
  (hd:itemsOf d=some ds) (hx0:DR prog w s0.heap (Mt ad0 F) xv d) (he:compL l (caps cs env) el tg cond ds σ0=some (rs,σ'))
  (hRR:∀ Dd c s' ad' ys k m,MvS Non s0 ad0 s' ad'→SR prog w b (fun a=>F a ∨ a=c) s'.heap ad' σ'→s'.heap.get? Dd=some (seqObj "list" ys k)→¬ Mt ad' F Dd→DRs prog w s'.heap (Mt ad' fun a=>F a ∨ a=c) ys.toList rs→s'.heap.Ns c m →
   s0.heap.get? c=none→s0.heap.get? Dd=none→c ≠ Dd→RR (.ref Dd) c (.ok .next) s') :
  wpAny (model prog w) A (pyIter xv) (fun it s₂=>wpAny (model prog w) A (newList []) (fun acc s3=>wpAny (model prog w) A (newFunctionEnv scope renv.globals cl [] renv.qual none .none (some renv)) (fun cenv s4 =>
   codeAny (model prog w) A (.compStart (.ListComp x [⟨t,iter,ifs,0⟩] scope pos) 0 it acc { cenv with scope:=relabel scope renv }) (RR acc cenv.locals) s4) E s3) E s₂) E s0:=by
 have hsz:ds.length≤1000:=by
  cases d <;> (first | (exact nos hd; done) | skip)
  ·obtain ⟨a,rfl⟩:=lim_some hd; exact small_le a
  ·obtain ⟨a,rfl⟩:=lim_some hd; exact small_le a
 refine iter_data (t:=t) hA.1 hd hx0 fun itv s1 X=>?_
 obtain ⟨W1,fp,P,St,vs,X,hW1,hfp,hk1,⟨h1,tk1,rfl⟩,st,r,hP⟩:=X
 refine wpAny_newObj_type (wpAny_newFunctionEnv C.nocell (by intro y hy; simp at hy) (fun h2 hns hsb=>?_) C.kind)
 dsimp only at hns hsb ⊢
 generalize hH:h1.push { cls:=.type "list", dict:=none,data:=.seq ([]:List Value).toArray }=H at hns hsb ⊢
 have hzH:H.objs.size=h1.objs.size+1:=by rw [← hH,Heap.size_push]
 have below:∀ a o,h1.get? a=some o→a ≠ H.objs.size∧a ≠ h1.objs.size:=fun a o e=>by
  have:=Heap.lt_size e
  exact ⟨by rw [hzH]; exact Nat.ne_of_lt (Nat.lt_succ_of_lt this),Nat.ne_of_lt this⟩
 have old1:∀ a o,h1.get? a=some o→h2.get? a=some o:=fun a o e=>hsb.extBut a o (below a o e).1 (Heap.get?_push_of_some _ (hH ▸ Heap.get?_push_of_some _ e))
 have old:∀ a o,s0.heap.get? a=some o→h2.get? a=some o:=fun a o e=>old1 a o (hk1 a o e)
 have fresh:∀ a,h1.objs.size≤a→s0.heap.get? a=none:=fun a ha=>by
  cases e:s0.heap.get? a with
  | none=>rfl
  | some o=>exact absurd (Heap.lt_size (hk1 a o e)) (Nat.not_lt.mpr ha)
 have hDW1:∀ a,W1 a→a < h1.objs.size:=fun a q=>by
  have:=X.live _ _ st a q
  cases z:h1.get? a with
  | none=>rw [show ({ s0 with heap:=h1,toks:=tk1 }:Shared).heap.get? a=none from z] at this; exact fls this
  | some o=>exact Heap.lt_size z
 have hacc:h2.get? h1.objs.size=some (seqObj "list" #[] 0):=hsb.extBut _ _ (by rw [hzH]; exact Nat.ne_of_lt (Nat.lt_succ_self _)) (Heap.get?_push_of_some _ (hH ▸ Heap.get?_push_size _ rfl))
 have hW:∀ a,(W1 a ∨ a=H.objs.size ∨ a=h1.objs.size)→s0.heap.get? a=none:=fun a q=>by
  rcases q with q | rfl | rfl
  ·exact hW1 a q
  ·exact fresh _ (by rw [hzH]; exact Nat.le_succ _)
  ·exact fresh _ (Nat.le_refl _)
 have hst2:St 0 h2:=X.frame _ _ _ st fun a o _ e=>old1 a o e
 have hLlt:renv.locals < h1.objs.size:=by
  have:=hS0.live _ hF0.ownL
  cases z:s0.heap.get? renv.locals with
  | none=>rw [z] at this; exact fls this
  | some o=>exact Heap.lt_size (hk1 _ _ z)
 have hlive:∀ a,(W1 a ∨ a=H.objs.size ∨ a=h1.objs.size)→(h2.get? a).isSome=true:=fun a q=>by
  rcases q with q | rfl | rfl
  ·have:=X.live _ _ st a q
   cases z:h1.get? a with
   | none=>rw [show ({ s0 with heap:=h1,toks:=tk1 }:Shared).heap.get? a=none from z] at this; exact fls this
   | some o=>rw [old1 a o z]; rfl
  ·exact ns_some hns
  ·rw [hacc]; rfl
 have S2:SR prog w b (fun a=>F a ∨ (W1 a ∨ a=H.objs.size ∨ a=h1.objs.size)) h2 ad0 σ0:=hS0.aside hW old hlive
 have M2:MvS Non s0 ad0 { s0 with heap:=h2,toks:=tk1+([]:List (Str × Value)).length } ad0:=⟨⟨_,_,_,rfl⟩,fun a o _ _ e=>old a o e,fun _ q=>q.elim,fun _ q=>.inl q,fun _ _ e=>.inl e⟩
 have loop:∀ s3:Shared,s3={ s0 with heap:=h2,toks:=tk1+([]:List (Str × Value)).length }→codeAny (model prog w) A (.compLoop (.ListComp x [⟨t,iter,ifs,0⟩] scope pos) 0 itv (.ref h1.objs.size) (compEnvC scope cl H.objs.size renv)) (RR (.ref h1.objs.size) H.objs.size) s3:=by
  rintro s3 rfl
  refine comp_code inj ih it (W:=fun a=>W1 a ∨ a=H.objs.size ∨ a=h1.objs.size) C ht hx hc X hA hF0 hW (fun a q=>.inl q) (fun a q=>?_) hS0 (.inr (.inl rfl)) (.inr (.inr rfl)) (by rw [hzH]; exact Nat.ne_of_gt (Nat.lt_succ_self _)) (fun q=>?_) (fun q=>Nat.lt_irrefl _ (hDW1 _ q)) ?_ hcl (fun a q=>q) r hP hsz ?_ M2 S2 hst2 hacc hns he
  ·rcases hfp a q with q | q
   ·exact .inl ⟨q,Nat.ne_of_lt (by rw [hzH]; exact Nat.lt_succ_of_lt (hDW1 _ q)),Nat.ne_of_lt (hDW1 _ q)⟩
   ·exact .inr q
  ·have:=hDW1 _ q
   rw [hzH] at this
   exact Nat.lt_irrefl _ (Nat.lt_of_succ_lt this)
  ·rw [hzH]
   exact Nat.le_trans hF0.above (Nat.le_succ_of_le (Nat.le_of_lt hLlt))
  ·intro s' ad' ys k m a1 a2 a3 a4 a5 a6
   exact hRR _ _ s' ad' ys k m a1 a2 a3 a4 a5 a6 (hW _ (.inr (.inl rfl))) (hW _ (.inr (.inr rfl))) (by rw [hzH]; exact Nat.ne_of_gt (Nat.lt_succ_self _))
 exact codeAny_compStart_list (loop _ rfl) (X.self 0 _ _ _ hst2 (loop _ rfl))
theorem ev_comp {l:Lv} {n:Nat} (inj:∀ i j,nm i=nm j→i=j) (ih:Ev prog w b l n) (it:Tst prog w b l n) {tg:Tg} {t x y:PySem.Expr} {el e:X} {cond:Option X} {ifs:List PySem.Expr} {cs:List Nat} {pos:Pos} {v:V}
  (hsc:compSc sc scope (cs.map nm)=true) (ht:EncT scope tg t) (hx:Enc scope el x) (hc:EncC scope cond ifs) (hy:Enc sc e y)
  (he:evE l env σ (.comp cs el tg e cond)=some (v,σ')) (hA:Room A n) (hF:FR prog w b s.heap ad F sc renv env) (hS:SR prog w b F s.heap ad σ) :
  wpAny (model prog w) A (eval (.ListComp x [⟨t,y,ifs,0⟩] scope pos) renv) (EP prog w b F renv.locals s ad σ' v) E s:=by
 obtain ⟨d,σ1,h1,h2⟩:=bp he
 obtain ⟨ds,h3,h4⟩:=bd h2
 obtain ⟨rs,σ2,h5,h6⟩:=mpp h4
 obtain ⟨rfl,rfl⟩:=pj h6
 have C:=comp_of hsc
 obtain ⟨cl,hclos,hcl⟩:=closure_ok C hF
 rw [eval_ListComp]
 refine wpAny_comprehension_free (use:=none) rfl (enc_iter hy) hclos C.kind C.names (wpAny_mono (ih.d hy h1 hA hF hS) (fun xv s1 z=>?_) fun _ _ z=>z)
 obtain ⟨ad1,m1,S1,r1⟩:=z
 have F1:=hF.mv hS m1
 refine comp_block inj ih it (RR:=fun acc C=>compPost (model prog w) A E none (EP prog w b F renv.locals s ad σ2 (.d (.lst rs))) acc C) C ht hx hc hA F1 S1 hcl h3 r1 h5 ?_
 intro Dd c s' ad' ys k m M S hD hDM hr hn hc0 hD0 hcD
 refine ⟨m,hn,fun h'' hs''=>?_⟩
 have hFc:∀ a,F a→¬ (a=c):=fun a q z=>by have:=S1.live a q; rw [z,hc0] at this; exact fls this
 have keep:∀ a o,¬ (a=c)→s'.heap.get? a=some o→h''.get? a=some o:=fun a o n e=>hs''.extBut a o n e
 have M':Mv renv.locals s1 ad1 { s' with heap:=h'' } ad':=(M.turn (W:=fun a=>a=c) (fun a q=>q ▸ hc0) (fun a q=>q.elim) keep).toMv F1 S1
 exact ⟨ad',m1.trans M',S.drop hFc keep,.d (.lst (keep _ _ (Ne.symm hcD) hD) ⟨rfl,rfl⟩ rfl hDM (DRs.dropW (hr.mono fun a o m e=>⟨keep a o (fun q=>m (.inr (.inr q))) e,m⟩)))⟩
theorem sd_asgC1 {l:Lv} {n:Nat} (inj:∀ i j,nm i=nm j→i=j) (ih:Ev prog w b l n) (it:Tst prog w b l n) {i:Nat} {v:Str} {tg:Tg} {t x y:PySem.Expr} {el e:X} {cond:Option X} {ifs:List PySem.Expr} {cs:List Nat} {pos p1 p q:Pos} {fl:Fl} {env':Env'} {σ':Sto}
  (hi:nm i=v) (hl:localB sc v=true) (hline:(q.line == p1.line)=true) (hno:(scope.names.any fun (n,k)=>n == v && (k == .local || k == .cell))=false)
  (hsc:compSc sc scope (cs.map nm)=true) (ht:EncT scope tg t) (hx:Enc scope el x) (hc:EncC scope cond ifs) (hy:Enc sc e y)
  (he:(evE l env σ (.comp cs el tg e cond)).map (fun r=>(Fl.next,(i,r.1)::env,r.2))=some (fl,env',σ')) (hA:Room A n) (hF:FR prog w b s.heap ad F sc renv env) (hS:SR prog w b F s.heap ad σ) :
  wpAny (model prog w) A (exec (.Assign [.Name v q] (.ListComp x [⟨t,y,ifs,0⟩] scope p1) p) renv) (SP prog w b F s ad sc renv fl env' σ') E s:=by
 obtain ⟨vv,σ9,h0,h0'⟩:=mpp he
 cases h0'
 obtain ⟨d,σ1,h1,h2⟩:=bp h0
 obtain ⟨ds,h3,h4⟩:=bd h2
 obtain ⟨rs,σ2,h5,h6⟩:=mpp h4
 obtain ⟨rfl,rfl⟩:=pj h6
 have C:=comp_of hsc
 obtain ⟨cl,hclos,hcl⟩:=closure_ok C hF
 have hsw:swapsWith (.ListComp x [⟨t,y,ifs,0⟩] scope p1) (some (.Name v q)) p.line renv=pure true:=by
  unfold swapsWith
  have hb:renv.blockKind=.function:=by unfold Env.blockKind; rw [hF.kind]; rfl
  have hk:=hF.loc v hl
  simp only [hb,hk]
  show pure (true && true && (q.line == p1.line) && !(scope.names.any fun (n,k)=>n == v && (k == .local || k == .cell)))=_
  rw [hline,hno]
  rfl
 rw [exec_Assign_Name_used _ _ _ _ hsw]
 refine wpAny_bind (wpAny_standAt (wpAny_bind ?_))
 show wpAny _ A (do let _ ← comprehension (.ListComp x [⟨t,y,ifs,0⟩] scope p1) scope renv _ (newList []) false (eval y renv) (some (assign (.Name v q) renv))) _ _ s
 refine wpAny_bind (wpAny_mono (wpAny_comprehension_free (use:=some (assign (.Name v q) renv)) (Q:=fun _ s'=>SP prog w b F s ad sc renv .next ((i,.d (.lst rs))::env) σ2 .next s') rfl (enc_iter hy) hclos C.kind C.names
  (wpAny_mono (ih.d hy h1 hA hF hS) (fun xv s1 z=>?_) fun _ _ z=>z)) (fun _ s' hq=>wpAny_pure (wpAny_pure hq)) fun _ _ e=>e)
 obtain ⟨ad1,m1,S1,r1⟩:=z
 have F1:=hF.mv hS m1
 refine comp_block inj ih it (RR:=fun acc C=>compPost (model prog w) A E (some (assign (.Name v q) renv)) (fun _ s'=>SP prog w b F s ad sc renv .next ((i,.d (.lst rs))::env) σ2 .next s') acc C) C ht hx hc hA F1 S1 hcl h3 r1 h5 ?_
 intro Dd c s' ad' ys k m M S hD hDM hr hn hc0 hD0 hcD
 have hFc:∀ a,F a→¬ (a=c):=fun a q z=>by have:=S1.live a q; rw [z,hc0] at this; exact fls this
 have M':Mv renv.locals s1 ad1 s' ad':=M.toMv F1 S1
 have F2:FR prog w b s'.heap ad' F sc renv env:=F1.mv S1 M'
 have hs:storeB sc v=true:=by unfold storeB; unfold localB at hl; rw [hl]; rfl
 have hLc:renv.locals ≠ c:=fun z=>hFc _ hF.ownL z
 have hoff:∀ x d,renv.cells.lookup x=some d→¬ inAd ad1 d:=fun x d q=>F1.offS S1 d (.inr ⟨x,q⟩)
 have FC:FR prog w b s'.heap ad' (fun a=>F a ∨ a=c) sc renv env:=(F1.aside (W:=fun a=>a=c) (fun a q=>q ▸ hc0) (fun _ _ e=>e)).mvB hoff M'
 have rD:VR prog w s'.heap ad' (fun a=>F a ∨ a=c) (.ref Dd) (.d (.lst rs)):=.d (.lst hD ⟨rfl,rfl⟩ rfl (fun q=>by
  rcases q with q | q | q
  ·exact hDM (.inl q)
  ·exact hDM (.inr q)
  ·exact hcD q.symm) hr)
 show wpAny _ A (assign (.Name v q) renv (.ref Dd)) _ _ _
 refine wpAny_assign_Name (st_one (sc:=sc) Home.own inj hi hs FC S rD fun s2 m2 S2 F2=>?_)
 have hn2:s2.heap.Ns c m:=by
  obtain ⟨o,es,ep,e,r⟩:=hn
  exact ⟨o,es,ep,m2.old _ _ (fun z=>(S.off _ z).1 (.inr rfl)) (fun z=>hFc _ (F1.own c z) rfl) e,r⟩
 refine ⟨m,hn2,fun h3 hs3=>?_⟩
 have keep:∀ a o,¬ (a=c)→s2.heap.get? a=some o→h3.get? a=some o:=fun a o n e=>hs3.extBut a o n e
 have M2:MvS (Own renv) s1 ad1 s2 ad':=(F1.toS S1 M').trans m2
 have M3:MvS (Own renv) s1 ad1 { s2 with heap:=h3 } ad':=M2.turn (W:=fun a=>a=c) (fun a q=>q ▸ hc0) (fun a q=>hFc a (F1.own a q)) keep
 exact ⟨ad',(hF.toS hS m1).trans M3,S2.drop hFc keep,F2.drop F1 hFc keep,.next⟩
end
section
variable {prog:Program} {w:World} {K:Frag} {mg mb:Str→Option Value} {b:Heap}
variable {h h':Heap} {F W fp:Addr→Prop} {ad ad' ad'' ad0:Adr} {σ σ' σ0:Sto} {s s' s'' s0:Shared} {A:Around} {E:Value→Shared→Prop} {sc scope:Scope} {renv cenv:Env} {env env1:Env'} {L:Addr} {O:Addr→Prop}
theorem FR.weaken {env':Env'} (x:FR prog w b h ad F sc renv env) (hw:∀ i v,env'.lookup i=some v→env.lookup i=some v):FR prog w b h ad F sc renv env':=by
 obtain ⟨m,hn,hv⟩:=x.vars
 exact ⟨x.kind,x.glb,x.bi,x.same,⟨m,hn,fun i v e=>hv i v (hw i v e)⟩,x.cel,x.ownL,x.above,x.ownC,x.apart⟩
theorem compTurn_in (elt t t2 y y2:PySem.Expr) (scope:Scope) (pos:Pos) (it acc:Value) (env:Env) :
  compTurn (.ListComp elt [⟨t,y,[],0⟩,⟨t2,y2,[],0⟩] scope pos) 1 it acc env=(do
   standAt y2.pos
   match ← pyNext it with
   | none=>pure (.done .next)
   | some v =>
    letOwnedTupleGo t2 it v
    assign t2 env v
    (do let _ ← call (.builtin "list.append") [acc,← eval elt env])
    again (.compLoop (.ListComp elt [⟨t,y,[],0⟩,⟨t2,y2,[],0⟩] scope pos) 1 it acc env)):=by rfl
theorem compTurn_out (elt t t2 y y2:PySem.Expr) (scope:Scope) (pos:Pos) (it acc:Value) (env:Env) :
  compTurn (.ListComp elt [⟨t,y,[],0⟩,⟨t2,y2,[],0⟩] scope pos) 0 it acc env=(do
   standAt y.pos
   match ← pyNext it with
   | none=>pure (.done .next)
   | some v =>
    letOwnedTupleGo t it v
    assign t env v
    let x ← eval y2 env
    standAt y2.pos
    let x ← foldedSetIterable y2 env x
    let it2 ← holding [x] (pyIter x)
    let _ ← runOwn (.compStart (.ListComp elt [⟨t,y,[],0⟩,⟨t2,y2,[],0⟩] scope pos) 1 it2 acc env) env
    again (.compLoop (.ListComp elt [⟨t,y,[],0⟩,⟨t2,y2,[],0⟩] scope pos) 0 it acc env)):=by
 unfold compTurn
 dsimp only
 simp only [List.getElem?_cons_zero,List.getElem?_cons_succ,Nat.zero_add]
 simp
 rfl
theorem loop_in {elt t t2 y y2:PySem.Expr} {scope:Scope} {pos:Pos} {it acc:Value} {env:Env} {R:Result→Shared→Prop} (I:Nat→Shared→Prop)
  (turn:∀ n s,I n s→wpAny (model prog w) A (pyNext it) (fun r s₁=>match r with
   | none=>R (.ok .next) s₁
   | some v=>wpAny (model prog w) A (letOwnedTupleGo t2 it v) (fun _ s₀=>wpAny (model prog w) A (assign t2 env v) (fun _ s₂ =>
     wpAny (model prog w) A (eval elt env) (fun x s₄ =>
       wpAny (model prog w) A (call (.builtin "list.append") [acc,x]) (fun _ s₅=>∃ m,m < n∧I m s₅) (notedBy (model prog w) A env fun e s'=>R (.error e) s') s₄)
      (notedBy (model prog w) A env fun e s'=>R (.error e) s') s₂) (notedBy (model prog w) A env fun e s'=>R (.error e) s') s₀) (notedBy (model prog w) A env fun e s'=>R (.error e) s') s₁) (notedBy (model prog w) A env fun e s'=>R (.error e) s') s)
  (n:Nat) (h:I n s):codeAny (model prog w) A (.compLoop (.ListComp elt [⟨t,y,[],0⟩,⟨t2,y2,[],0⟩] scope pos) 1 it acc env) R s:=by
 refine codeAny_loop rfl I (fun n s hI=>?_) n h
 show wpAny _ A ((compTurn (.ListComp elt [⟨t,y,[],0⟩,⟨t2,y2,[],0⟩] scope pos) 1 it acc env).onRaise (fun x=>do noteFrame x env; theTreesLotGoes x)) _ _ s
 refine wpAny_noted ?_
 rw [compTurn_in]
 refine wpAny_bind (wpAny_standAt (wpAny_bind (wpAny_mono (turn n s hI) (fun r s₁ h₁=>?_) fun _ _ h'=>h')))
 cases r with
 | none=>exact wpAny_pure h₁
 | some v =>
  refine wpAny_bind (wpAny_mono h₁ (fun _ s₀ h₀'=>?_) fun _ _ h'=>h')
  refine wpAny_bind (wpAny_mono h₀' (fun _ s₂ h₂=>?_) fun _ _ h'=>h')
  exact wpAny_bind (wpAny_bind (wpAny_mono h₂ (fun x s₄ h₄=>wpAny_bind (wpAny_mono h₄ (fun _ s₅ h₅=>wpAny_pure (wpAny_pure ⟨rfl,h₅⟩)) fun _ _ h'=>h')) fun _ _ h'=>h'))
theorem loop_out {elt t t2 y y2:PySem.Expr} {scope:Scope} {pos:Pos} {it acc:Value} {env:Env} {R:Result→Shared→Prop} (hs:∀ x,foldedSetIterable y2 env x=pure x) (I:Nat→Shared→Prop)
  (turn:∀ n s,I n s→wpAny (model prog w) A (pyNext it) (fun r s₁=>match r with
   | none=>R (.ok .next) s₁
   | some v=>wpAny (model prog w) A (letOwnedTupleGo t it v) (fun _ s₀=>wpAny (model prog w) A (assign t env v) (fun _ s₂ =>
     wpAny (model prog w) A (eval y2 env) (fun x s₃=>wpAny (model prog w) A (pyIter x) (fun it2 s₄ =>
       codeAny (model prog w) A (.compStart (.ListComp elt [⟨t,y,[],0⟩,⟨t2,y2,[],0⟩] scope pos) 1 it2 acc env)
        (fun r s₅=>match r with | .ok _=>∃ m,m < n∧I m s₅ | .error e=>cameBackBy (model prog w) A env (notedBy (model prog w) A env fun e s'=>R (.error e) s') e s₅) s₄)
       (notedBy (model prog w) A env fun e s'=>R (.error e) s') s₃)
      (notedBy (model prog w) A env fun e s'=>R (.error e) s') s₂) (notedBy (model prog w) A env fun e s'=>R (.error e) s') s₀) (notedBy (model prog w) A env fun e s'=>R (.error e) s') s₁) (notedBy (model prog w) A env fun e s'=>R (.error e) s') s)
  (n:Nat) (h:I n s):codeAny (model prog w) A (.compLoop (.ListComp elt [⟨t,y,[],0⟩,⟨t2,y2,[],0⟩] scope pos) 0 it acc env) R s:=by
 refine codeAny_loop rfl I (fun n s hI=>?_) n h
 show wpAny _ A ((compTurn (.ListComp elt [⟨t,y,[],0⟩,⟨t2,y2,[],0⟩] scope pos) 0 it acc env).onRaise (fun x=>do noteFrame x env; theTreesLotGoes x)) _ _ s
 refine wpAny_noted ?_
 rw [compTurn_out]
 refine wpAny_bind (wpAny_standAt (wpAny_bind (wpAny_mono (turn n s hI) (fun r s₁ h₁=>?_) fun _ _ h'=>h')))
 cases r with
 | none=>exact wpAny_pure h₁
 | some v =>
  refine wpAny_bind (wpAny_mono h₁ (fun _ s₀ h₀'=>?_) fun _ _ h'=>h')
  refine wpAny_bind (wpAny_mono h₀' (fun _ s₂ h₂=>?_) fun _ _ h'=>h')
  refine wpAny_bind (wpAny_mono h₂ (fun x s₃ h₃=>?_) fun _ _ h'=>h')
  refine wpAny_bind (wpAny_standAt (wpAny_bind (wpAny_of_eq (hs x) ?_)))
  refine wpAny_bind (wpAny_holding (wpAny_mono h₃ (fun it2 s₄ h₄=>?_) fun _ _ h'=>h'))
  refine wpAny_bind (wpAny_runOwn (codeAny_mono h₄ fun r s₅ h₅=>?_))
  cases r with
  | ok f=>exact wpAny_pure ⟨rfl,h₅⟩
  | error e=>exact h₅
theorem start_in {elt t t2 y y2:PySem.Expr} {scope:Scope} {pos:Pos} {it acc:Value} {env:Env} {R:Result→Shared→Prop}
  (h0:codeAny (model prog w) A (.compLoop (.ListComp elt [⟨t,y,[],0⟩,⟨t2,y2,[],0⟩] scope pos) 1 it acc env) R s)
  (h:wpAny (model prog w) A (pyIter it) (fun it' s'=>codeAny (model prog w) A (.compLoop (.ListComp elt [⟨t,y,[],0⟩,⟨t2,y2,[],0⟩] scope pos) 1 it' acc env) R s') (notedBy (model prog w) A env fun x s'=>R (.error x) s') s) :
  codeAny (model prog w) A (.compStart (.ListComp elt [⟨t,y,[],0⟩,⟨t2,y2,[],0⟩] scope pos) 1 it acc env) R s:=by
 refine codeAny_of_tree ?_
 show wpAny _ _ ((compStart (.ListComp elt [⟨t,y,[],0⟩,⟨t2,y2,[],0⟩] scope pos) 1 it acc env).onRaise (fun x=>do noteFrame x env; standAt theWindowsPlace)) _ _ s
 refine wpAny_notedAt ?_
 unfold compStart
 show wpAny _ _ (ask >>= _) _ _ s
 refine wpAny_bind (wpAny_askSetting (wpAny_ite ?_))
 split
 ·first
   | exact wpAny_bind (wpAny_pure (wpAny_pure (And.intro rfl h0)))
   | exact wpAny_pure (And.intro rfl h0)
 ·first
   | exact wpAny_bind (wpAny_rule (wpAny_bind (wpAny_standAt (wpAny_bind (wpAny_mono h (fun it' s' h'=>wpAny_pure (And.intro rfl h')) fun _ _ x=>x)))))
   | (refine wpAny_bind (wpAny_rule ?_); show wpAny _ _ (standAt y2.pos >>= _) _ _ s; exact wpAny_bind (wpAny_standAt (wpAny_bind (wpAny_mono h (fun it' s' h'=>wpAny_pure (And.intro rfl h')) fun _ _ x=>x))))
end
section
variable {prog:Program} {w:World} {K:Frag} {mg mb:Str→Option Value} {b:Heap}
variable {h h':Heap} {F W fp:Addr→Prop} {ad ad' ad'' ad0:Adr} {σ σ' σ0:Sto} {s s' s'' s0:Shared} {A:Around} {E:Value→Shared→Prop} {sc scope:Scope} {renv cenv:Env} {env env1:Env'} {L:Addr} {O:Addr→Prop}
theorem bind_keep {tg:Tg} {d:D} {env1 env2:Env'} (hb:bindTg tg d env1=some env2) {i:Nat} (hi:i ∉ tgNs tg):env2.lookup i=env1.lookup i:=by
 cases tg with
 | one j =>
  obtain rfl:=so1 hb
  rw [List.lookup_cons,beq_false_of_ne (fun q=>hi (by rw [q]; exact .head _))]
 | tup is =>
  cases d <;> (first | (exact nos hb; done) | skip)
  simp only [bindTg] at hb
  split at hb
  ·obtain rfl:=so1 hb
   rename_i ds hl
   have:∀ (is:List Nat) (vs:List V),i ∉ is→((is.zip vs).reverse++env1).lookup i=env1.lookup i:=by
    intro is vs hi
    have:∀ p ∈ (is.zip vs).reverse,p.1 ≠ i:=fun p hp q=>hi (by rw [← q]; exact (List.of_mem_zip (List.mem_reverse.mp hp)).1)
    generalize (is.zip vs).reverse=l at this
    induction l with
    | nil=>rfl
    | cons p r ih =>
     rw [List.cons_append,List.lookup_cons,beq_false_of_ne (fun q=>this p (.head _) q.symm)]
     exact ih fun q hq=>this q (.tail _ hq)
   exact this is _ hi
  ·exact nos hb
theorem MvS.wide {V:Addr→Prop} (m:MvS V s ad s' ad') (hV:∀ a,V a→O a) (off:∀ a,O a→¬ inAd ad a):MvS O s ad s' ad' :=
 ⟨m.rest,fun a o z q e=>m.old a o z (fun q'=>q (hV a q')) e,fun a q z=>by
  by_cases v:V a
  ·exact m.liv a v z
  ·exact isk z fun o e=>m.old a o (off a q) v e,m.new,m.loc⟩
theorem CX.mk2 {t:PySem.Expr} {itv:Value} {n:Nat} {P:Nat→Value→Heap→Prop} {St:Nat→Heap→Prop} (X:Src prog w A t itv W fp n P St) {c Dd:Addr} (hFW:∀ a,F a→¬ W a) (hfp:∀ a,fp a→W a ∨ (¬ Mt ad0 F a∧(s0.heap.get? a).isSome=true))
  (hFc:F c) (hDF:F Dd) (hcD:c ≠ Dd):CX prog w b F W (fun a=>a=c ∨ a=Dd) c Dd s0 ad0 St :=
 ⟨.inl hFc,.inl hDF,hcD,fun hV a d x y=>x.trans (y.wide hV fun e q=>q.elim (fun q=>q ▸ a) fun q=>q ▸ d),fun {s s' ad ad' V j σ} T mm m hV z=>X.frame _ _ _ z fun a o q e=>by
  have hF:∀ a,V a→F a:=fun a q=>(hV a q).elim (fun z=>z ▸ hFc) fun z=>z ▸ hDF
  rcases hfp a q with q | ⟨q1,q2⟩
  ·exact m.old a o (fun z=>(T.off a z).1 (.inr q)) (fun z=>hFW a (hF a z) q) e
  ·exact m.old a o (fun z=>(mm.new a z).elim (fun z=>q1 (.inl z)) fun z=>nl z q2) (fun z=>q1 (.inr (hF a z))) e⟩
theorem FR.put {Dd:Addr} {d:Obj} (x:FR prog w b h ad F sc renv env) (hD:F Dd) (ho:h.get? Dd=some d) (hd:∀ v,d.data ≠ .cell v) (hL:renv.locals ≠ Dd) (hk:∀ a o,a ≠ Dd→h.get? a=some o→h'.get? a=some o):FR prog w b h' ad F sc renv env:=by
 have kC:∀ {d' v},h.IsCell d' v→h'.IsCell d' v:=fun {d' v} ⟨o,e,hv⟩=>⟨o,hk _ _ (fun z=>hd v (so1 (ho.symm.trans (z ▸ e)) ▸ hv)) e,hv⟩
 obtain ⟨m,hn,hv⟩:=x.vars
 refine ⟨x.kind,x.glb,x.bi,x.same,⟨m,ns_keep (hk _ · hL) hn,fun i v e=>?_⟩,fun y hy=>?_,x.ownL,x.above,x.ownC,x.apart⟩
 ·rcases hv i v e with ⟨k,rv,e1,r⟩ | ⟨k,d,rv,e1,e2,r⟩
  ·exact .inl ⟨k,rv,e1,r.kept hD hk⟩
  ·exact .inr ⟨k,d,rv,e1,kC e2,r.kept hD hk⟩
 ·obtain ⟨d,v,e1,e2⟩:=x.cel y hy
  exact ⟨d,v,e1,kC e2⟩
theorem inner_code {l:Lv} {n:Nat} (inj:∀ i j,nm i=nm j→i=j) (ih:Ev prog w b l n) {tg:Tg} {t1 y1 t x y:PySem.Expr} {el:X} {pos:Pos} {c Dd:Addr}
  (H:Home (fun a=>a=c) scope cenv) (hLc:cenv.locals=c) (ht:EncT scope tg t) (hx:Enc scope el x) (htg:∀ i ∈ tgNs tg,env1.lookup i=none)
  {itv:Value} {ds:List D} {P:Nat→Value→Heap→Prop} {St:Nat→Heap→Prop} (X:Src prog w A t itv W fp ds.length P St) {R:Result→Shared→Prop} {rs dn0:List D} {σ':Sto} {ys0:Array Value} {k0:Nat}
  (hA:Room A n) (hF0:FR prog w b s0.heap ad0 F scope cenv env1) (hS0:SR prog w b F s0.heap ad0 σ0) (hW:∀ a,W a→s0.heap.get? a=none) (hfp:∀ a,fp a→W a ∨ (¬ Mt ad0 F a∧(s0.heap.get? a).isSome=true))
  (hDF:F Dd) (hcD:c ≠ Dd) (hD0:s0.heap.get? Dd=some (seqObj "list" ys0 k0)) (hr0:DRs prog w s0.heap (Mt ad0 F) ys0.toList dn0) (hsz:(dn0++rs).length≤1000)
  {vs:List Value} (hvs:DRs prog w s0.heap (Mt ad0 F) vs ds) (hP:∀ i v h,P i v h→vs[i]?=some v)
  (hR:∀ s' ad' ys k,MvS (fun a=>a=c ∨ a=Dd) s0 ad0 s' ad'→SR prog w b F s'.heap ad' σ'→FR prog w b s'.heap ad' F scope cenv env1→s'.heap.get? Dd=some (seqObj "list" ys k)→DRs prog w s'.heap (Mt ad' F) ys.toList (dn0++rs)→R (.ok .next) s')
  (m0:MvS (fun a=>a=c ∨ a=Dd) s0 ad0 s ad) (hS:SR prog w b (fun a=>F a ∨ W a) s.heap ad σ) (hF:FR prog w b s.heap ad (fun a=>F a ∨ W a) scope cenv env1) (st:St 0 s.heap) (hD:s.heap.get? Dd=some (seqObj "list" ys0 k0)) (he:compL l env1 el tg .none ds σ=some (rs,σ')) :
  codeAny (model prog w) A (.compLoop (.ListComp x [⟨t1,y1,[],0⟩,⟨t,y,[],0⟩] scope pos) 1 itv (.ref Dd) cenv) R s:=by
 have hFW:∀ a,F a→¬ W a:=fun a q z=>nl (hW a z) (hS0.live a q)
 have hFc:F c:=hLc ▸ hF0.ownL
 have hOW:∀ a,(a=c ∨ a=Dd)→¬ W a:=fun a q=>q.elim (fun z=>z ▸ hFW c hFc) fun z=>z ▸ hFW Dd hDF
 have hOF:∀ a,(a=c ∨ a=Dd)→F a:=fun a q=>q.elim (fun z=>z ▸ hFc) fun z=>z ▸ hDF
 have X':CX prog w b F W (fun a=>a=c ∨ a=Dd) c Dd s0 ad0 St:=.mk2 X hFW hfp hFc hDF hcD
 obtain ⟨I,hI⟩:∃ I:Nat→Shared→Prop,∀ k s,I k s ↔ CLs prog w b F W (fun a=>a=c ∨ a=Dd) Dd s0 ad0 St (fun s ad=>FR prog w b s.heap ad (fun a=>F a ∨ W a) scope cenv env1) (compL l env1 el tg .none) ds (dn0++rs) σ' k s:=⟨_,fun _ _=>Iff.rfl⟩
 refine loop_in I ?_ (ds.length+1) ((hI _ _).mpr ⟨0,ad,σ,ys0,k0,dn0,rs,rfl,Nat.zero_le _,⟨m0,hS,st,hD,hr0.aside (O:=fun a=>a=c ∨ a=Dd) hOF m0 hW⟩,hF,rfl,he⟩)
 have hI':∀ {k s},(∃ m,m < k∧CLs prog w b F W (fun a=>a=c ∨ a=Dd) Dd s0 ad0 St (fun s ad=>FR prog w b s.heap ad (fun a=>F a ∨ W a) scope cenv env1) (compL l env1 el tg .none) ds (dn0++rs) σ' m s)→∃ m,m < k∧I m s:=fun ⟨m,a,z⟩=>⟨m,a,(hI _ _).mpr z⟩
 intro k s1 g1
 refine hide fun no=>?_
 obtain ⟨i,ad1,σ1,ys,kk,dn,rr,e0,hi,J,F1,hrs,he1⟩:=(hI _ _).mp g1
 clear hI g1 he hD hS st m0 hF hfp
 rcases Nat.lt_or_ge i ds.length with hlt | hge
 ·have hd:ds[i]?=some ds[i]:=List.getElem?_eq_getElem hlt
  obtain ⟨env2,tb,σ2,h1,h3,_,h5⟩:=compL_cons (drop_at hlt he1)
  obtain ⟨dv,σ5,rr',h5,h7,h8⟩:=h5 (so2 h3).1.symm
  refine no (X.item i s1 _ _ hlt J.st fun v s1' go=>go _ _ fun h2 tk hPi st2 hk=>?_)
  have J2:=J.turn (t:=tk) hW hOW hk (X.live _ _ st2) st2 (hk _ _ (hFW _ hDF) J.hD)
  refine tg_assign H inj ht h1 hA.1 (F1.turn (X.data _ _ J.st) hk) J2.S ((hvs.aside (O:=fun a=>a=c ∨ a=Dd) hOF J2.M hW).at (hP i v _ hPi) hd) fun s3 m3 S3 F3=>?_
  have J3:=J2.step X' (fun a q=>q) m3 ((so2 h3).2 ▸ S3)
  refine wpAny_mono (ih.d hx h5 hA F3 J3.S) (fun rv s5 z=>?_) fun _ _ z=>z
  obtain ⟨ad5,m5,S5,r5⟩:=z
  have J5:=J3.step X' (fun a q=>q) ((hLc ▸ m5:Mv c s3 ad1 s5 ad5).one (J3.offc X')) S5
  exact J5.push X' r5 hrs hsz fun h6 J6 hk6=>hI' (CLs.next e0 hlt J6 (((F3.mv J3.S m5).put (.inl hDF) J5.hD (fun v z=>nomatch z) (hLc ▸ hcD) hk6).weaken fun j v e=>(bind_keep h1 (fun q=>nsm (htg j q) e)).trans e) (app_one h8 hrs) h7)
 ·have he1:=so2 (drop_end hge he1)
  refine no (X.done s1 _ _ (Nat.le_antisymm hi hge ▸ J.st) fun h2 tk hk=>?_)
  exact hR _ ad1 ys kk (J.M.turn hW hOW hk) (he1.2 ▸ J.S.drop hFW hk) (F1.drop hF0 hFW hk) (hk _ _ (hFW _ hDF) J.hD) (app_end he1.1 hrs ▸ DRs.dropW (J.dn.mono fun a o m e=>⟨hk a o (fun q=>m (.inr (.inr q))) e,m⟩))
end
section
variable {prog:Program} {w:World} {K:Frag} {mg mb:Str→Option Value} {b:Heap}
variable {h h':Heap} {F W fp:Addr→Prop} {ad ad' ad'' ad0:Adr} {σ σ' σ0:Sto} {s s' s'' s0:Shared} {A:Around} {E:Value→Shared→Prop} {sc scope:Scope} {renv:Env} {env:Env'} {L:Addr} {O:Addr→Prop}
inductive Comp2I (l:Lv) (env:Env') (el:X) (tg tg2:Tg) (it2:X) (ds:List D) (d:D) (σ:Sto) (rs:List D) (σ':Sto):Prop
 | mk (env1:Env') (dv:D) (σ2:Sto) (ds2 rs2:List D) (σ5:Sto) (rr:List D):bindTg tg d env=some env1→evD l env1 σ it2=some (dv,σ2)→itemsOf dv=some ds2→compL l env1 el tg2 .none ds2 σ2=some (rs2,σ5)→compL2 l env el tg tg2 it2 ds σ5=some (rr,σ')→rs2++rr=rs→Comp2I l env el tg tg2 it2 ds d σ rs σ'
theorem compL2_cons {l:Lv} {el it2:X} {tg tg2:Tg} {ds rs:List D} {d:D} (h:compL2 l env el tg tg2 it2 (d::ds) σ=some (rs,σ')):Comp2I l env el tg tg2 it2 ds d σ rs σ':=by
 obtain ⟨env1,h1,h⟩:=bd h
 obtain ⟨dv,σ2,h3,h⟩:=bp h
 obtain ⟨ds2,h5,h⟩:=bd h
 obtain ⟨rs2,σ5,h7,h⟩:=bp h
 obtain ⟨rr,σ6,h9,h⟩:=mpp h
 exact ⟨env1,dv,σ2,ds2,rs2,σ5,rr,h1,h3,h5,h7,(pj h).2 ▸ h9,(pj h).1⟩
theorem names_ok {f:Str→Bool} {is:List Nat} {es:List PySem.Expr} (hN:NamesAre f is es):∀ j ∈ is,f (nm j)=true:=by
 induction hN with
 | nil=>exact fun j hj=>nomatch hj
 | cons hi hs _ ih=>exact fun j hj=>(List.mem_cons.mp hj).elim (fun e=>by rw [e,hi]; exact hs) (ih j)
theorem tg_ok {tg:Tg} {t:PySem.Expr} (ht:EncT scope tg t):∀ j ∈ tgNs tg,storeB scope (nm j)=true:=by
 induction ht using EncT.casesOn with
 | one hi hs=>exact fun j hj=>by rw [List.mem_singleton.mp hj,hi]; exact hs
 | tup _ hN=>exact names_ok hN
theorem tg_apart {cs:List Nat} {tg tg2:Tg} {t2:PySem.Expr} {d:D} {env1:Env'} (C:Comp sc scope (cs.map nm)) (ht2:EncT scope tg2 t2) (hdis:((tgNs tg2).all fun i=>!(tgNs tg).contains i)=true) (h1:bindTg tg d (caps cs env)=some env1):∀ j ∈ tgNs tg2,env1.lookup j=none:=fun j hj=>by
 have hnot:j ∉ tgNs tg:=fun q=>by
  have:=List.all_eq_true.mp hdis j hj
  rw [List.contains_iff_mem.mpr q] at this
  exact fls this
 rw [bind_keep h1 hnot]
 cases z:(caps cs env).lookup j with
 | none=>rfl
 | some u =>
  have hst:=tg_ok ht2 j hj
  unfold storeB at hst
  rw [C.caps (nm j) (List.mem_map_of_mem (caps_look z).1)] at hst
  exact fls hst
theorem start_same {elt t t2 y y2:PySem.Expr} {scope:Scope} {pos:Pos} {it acc:Value} {env:Env} {R:Result→Shared→Prop} (self:∀ Q E,Q it s→wpAny (model prog w) A (pyIter it) Q E s)
  (h0:codeAny (model prog w) A (.compLoop (.ListComp elt [⟨t,y,[],0⟩,⟨t2,y2,[],0⟩] scope pos) 1 it acc env) R s):codeAny (model prog w) A (.compStart (.ListComp elt [⟨t,y,[],0⟩,⟨t2,y2,[],0⟩] scope pos) 1 it acc env) R s :=
 start_in h0 (self _ _ h0)
theorem outer_code {l:Lv} {n:Nat} (inj:∀ i j,nm i=nm j→i=j) (ih:Ev prog w b l n) (it:Tst prog w b l n) {tg tg2:Tg} {t x iter t2 y2:PySem.Expr} {el it2:X} {cs:List Nat} {cl:List (Str × Addr)} {pos:Pos}
  (C:Comp sc scope (cs.map nm)) (ht:EncT scope tg t) (hx:Enc scope el x) (ht2:EncT scope tg2 t2) (hy2:Enc scope it2 y2) (hdis:((tgNs tg2).all fun i=>!(tgNs tg).contains i)=true)
  {itv:Value} {ds:List D} {W1:Addr→Prop} {P:Nat→Value→Heap→Prop} {St:Nat→Heap→Prop} (X:Src prog w A t itv W1 fp ds.length P St) {R:Result→Shared→Prop} {rs:List D} {σ':Sto} {c Dd:Addr}
  (hA:Room A n) (hF0:FR prog w b s0.heap ad0 F sc renv env) (hW:∀ a,W a→s0.heap.get? a=none) (hW1:∀ a,W1 a→W a) (hfp:∀ a,fp a→(W1 a∧a ≠ c∧a ≠ Dd) ∨ (¬ Mt ad0 F a∧(s0.heap.get? a).isSome=true)) (hS0:SR prog w b F s0.heap ad0 σ0)
  (hcW:W c) (hDW:W Dd) (hcD:c ≠ Dd) (hc1:¬ W1 c) (hD1:¬ W1 Dd) (hb:b.objs.size≤c) (hcl:(∀ x c,cl.lookup x=some c→renv.cells.lookup x=some c)∧∀ x c,scope.names.lookup x=some .free→renv.cells.lookup x=some c→cl.lookup x=some c)
  (hWall:∀ a,W a→W1 a ∨ a=c ∨ a=Dd)
  {vs:List Value} (hvs:DRs prog w s0.heap (Mt ad0 F) vs ds) (hP:∀ i v h,P i v h→vs[i]?=some v) (hsz:rs.length≤1000)
  (hR:∀ s' ad' ys k m,MvS Non s0 ad0 s' ad'→SR prog w b (fun a=>F a ∨ a=c) s'.heap ad' σ'→s'.heap.get? Dd=some (seqObj "list" ys k)→¬ Mt ad' F Dd→DRs prog w s'.heap (Mt ad' fun a=>F a ∨ a=c) ys.toList rs→s'.heap.Ns c m→R (.ok .next) s')
  {m:Str→Option Value} (m0:MvS Non s0 ad0 s ad) (hS:SR prog w b (fun a=>F a ∨ W a) s.heap ad σ) (st:St 0 s.heap) (hD:s.heap.get? Dd=some (seqObj "list" #[] 0)) (hn:s.heap.Ns c m) (he:compL2 l (caps cs env) el tg tg2 it2 ds σ=some (rs,σ')) :
  codeAny (model prog w) A (.compLoop (.ListComp x [⟨t,iter,[],0⟩,⟨t2,y2,[],0⟩] scope pos) 0 itv (.ref Dd) (compEnvC scope cl c renv)) R s:=by
 have X':CX prog w b F W Non c Dd s0 ad0 St:=.mk1 X hW hW1 hfp hcW hDW hcD
 obtain ⟨I,hI⟩:∃ I:Nat→Shared→Prop,∀ k s,I k s ↔ CLs prog w b F W Non Dd s0 ad0 St (fun s _=>∃ m,s.heap.Ns c m) (compL2 l (caps cs env) el tg tg2 it2) ds rs σ' k s:=⟨_,fun _ _=>Iff.rfl⟩
 refine loop_out (enc_notSet hy2 _) I ?_ (ds.length+1) ((hI _ _).mpr ⟨0,ad,σ,#[],0,[],rs,rfl,Nat.zero_le _,⟨m0,hS,st,hD,.nil⟩,⟨m,hn⟩,rfl,he⟩)
 have hI':∀ {k s},(∃ m,m < k∧CLs prog w b F W Non Dd s0 ad0 St (fun s _=>∃ m,s.heap.Ns c m) (compL2 l (caps cs env) el tg tg2 it2) ds rs σ' m s)→∃ m,m < k∧I m s:=fun ⟨m,a,z⟩=>⟨m,a,(hI _ _).mpr z⟩
 intro k s1 g1
 refine hide fun no=>?_
 obtain ⟨i,ad1,σ1,ys,kk,dn,rr,e0,hi,J,⟨m1,hn1⟩,hrs,he1⟩:=(hI _ _).mp g1
 clear hI g1 he hD hn st hS m0
 rcases Nat.lt_or_ge i ds.length with hlt | hge
 ·have hd:ds[i]?=some ds[i]:=List.getElem?_eq_getElem hlt
  obtain ⟨env1,dv,σ2,ds2,rs2,σ5,rr',h1,h3,h5,h7,h9,h10⟩:=compL2_cons (drop_at (f:=compL2 l (caps cs env) el tg tg2 it2) hlt he1)
  refine no (X.item i s1 _ _ hlt J.st fun v s1' go=>go _ _ fun h2 tk hPi st2 hk=>?_)
  clear no
  have hlive:∀ a,W a→(h2.get? a).isSome=true:=fun a q=>(hWall a q).elim (X.live _ _ st2 a) fun q=>q.elim (fun q=>q ▸ isk (ns_some hn1) fun o e=>hk c o hc1 e) fun q=>q ▸ congrArg Option.isSome (hk _ _ hD1 J.hD)
  have J2:=J.turn (t:=tk) hW (fun a q=>q.elim) (fun a o m e=>hk a o (fun q=>m (hW1 a q)) e) hlive st2 (hk _ _ hD1 J.hD)
  have F2:=FR.comp (s:={ s1 with heap:=h2,toks:=tk }) C hF0 hS0 hcl J2.M hW hcW hb (ns_keep (hk _ · hc1) hn1)
  have H:Home (fun a=>a=c) scope (compEnvC scope cl c renv):=home_c C hF0
  refine tg_assign H inj ht h1 hA.1 F2 J2.S ((hvs.aside (O:=Non) (fun a q=>q.elim) J2.M hW).at (hP i v _ hPi) hd) fun s3 m3 S3 F3=>?_
  have J3:=J2.step X' (fun a q=>q) m3 S3
  refine wpAny_mono (ih.d hy2 h3 hA F3 S3) (fun xv s4 z=>?_) fun _ _ z=>z
  obtain ⟨ad4,m4,S4,r4⟩:=z
  have F4:=F3.mv S3 m4
  have J4:=J3.step X' (fun a q=>q) (m4.one (J3.offc X')) S4
  refine iter_data (t:=t2) hA.1 h5 r4 fun itv2 s5 X2=>?_
  refine hide fun no=>?_
  obtain ⟨W2,fp2,P2,St2,vs2,X2,hW2,hfp2,hk5,⟨h5',tk5,e5⟩,st5,r5,hP2⟩:=X2
  refine no (start_same (fun Q E q=>X2.self 0 _ _ _ st5 q) ?_)
  have hk5':∀ a o,s4.heap.get? a=some o→s5.heap.get? a=some o:=hk5
  refine inner_code inj ih (W:=W2) (fp:=fp2) H rfl ht2 hx (tg_apart C ht2 hdis h1) X2 (ys0:=ys) (k0:=kk) (dn0:=dn) (rs:=rs2) (σ':=σ5) hA F4 S4 hW2 hfp2 (.inr hDW) hcD J4.hD J4.dn ?_ r5 hP2 ?_
   ⟨⟨_,_,_,e5⟩,fun a o _ _ e=>hk5' a o e,fun a q z=>isk z (hk5' a),fun _ q=>.inl q,fun _ _ e=>.inl e⟩ (S4.aside hW2 hk5' (X2.live _ _ st5)) (F4.aside hW2 hk5') st5 (hk5' _ _ J4.hD) h7
  ·refine Nat.le_trans ?_ hsz
   rw [← hrs,← h10,← List.append_assoc,List.length_append (as:=dn++rs2)]
   exact Nat.le_add_right _ _
  ·intro s6 ad6 ys6 kk6 m6 S6 F6 hD6 hdn6
   exact hI' (CLs.next e0 hlt ⟨X'.step (fun a q=>q) (J4.offc X') (J4.offD X') J4.M m6,S6,X'.fp J4.S J4.M m6 (fun a q=>q) J4.st,hD6,hdn6⟩ (F6.vars.imp fun _ z=>z.1) ((List.append_assoc ..).trans (h10 ▸ hrs)) h9)
 ·have he1:=so2 (drop_end (f:=compL2 l (caps cs env) el tg tg2 it2) hge he1)
  refine no (X.done s1 _ _ (Nat.le_antisymm hi hge ▸ J.st) fun h2 tk hk=>?_)
  have hFW:∀ a,F a→¬ W a:=fun a q z=>nl (hW a z) (hS0.live a q)
  exact J.over hFW hW hW1 hWall hcW hDW hcD hc1 hD1 hn1 hk fun a1 a2 a3 a4 a5 a6=>hR _ ad1 ys kk m1 a1 (he1.2 ▸ a2) a3 a4 (app_end he1.1 hrs ▸ a5) a6
theorem comp_block2 {l:Lv} {n:Nat} (inj:∀ i j,nm i=nm j→i=j) (ih:Ev prog w b l n) (it:Tst prog w b l n) {tg tg2:Tg} {t x iter t2 y2:PySem.Expr} {el it2:X} {cs:List Nat} {cl:List (Str × Addr)} {pos:Pos}
  (C:Comp sc scope (cs.map nm)) (ht:EncT scope tg t) (hx:Enc scope el x) (ht2:EncT scope tg2 t2) (hy2:Enc scope it2 y2) (hdis:((tgNs tg2).all fun i=>!(tgNs tg).contains i)=true)
  {xv:Value} {d:D} {ds:List D} {RR:Value→Addr→Result→Shared→Prop} {rs:List D} {σ':Sto}
  (hA:Room A n) (hF0:FR prog w b s0.heap ad0 F sc renv env) (hS0:SR prog w b F s0.heap ad0 σ0) (hcl:(∀ x c,cl.lookup x=some c→renv.cells.lookup x=some c)∧∀ x c,scope.names.lookup x=some .free→renv.cells.lookup x=some c→cl.lookup x=some c)
  (hrs:rs.length≤1000) (hd:itemsOf d=some ds) (hx0:DR prog w s0.heap (Mt ad0 F) xv d) (he:compL2 l (caps cs env) el tg tg2 it2 ds σ0=some (rs,σ'))
  (hRR:∀ Dd c s' ad' ys k m,MvS Non s0 ad0 s' ad'→SR prog w b (fun a=>F a ∨ a=c) s'.heap ad' σ'→s'.heap.get? Dd=some (seqObj "list" ys k)→¬ Mt ad' F Dd→DRs prog w s'.heap (Mt ad' fun a=>F a ∨ a=c) ys.toList rs→s'.heap.Ns c m →
   s0.heap.get? c=none→s0.heap.get? Dd=none→c ≠ Dd→RR (.ref Dd) c (.ok .next) s') :
  wpAny (model prog w) A (pyIter xv) (fun it s₂=>wpAny (model prog w) A (newList []) (fun acc s3=>wpAny (model prog w) A (newFunctionEnv scope renv.globals cl [] renv.qual none .none (some renv)) (fun cenv s4 =>
   codeAny (model prog w) A (.compStart (.ListComp x [⟨t,iter,[],0⟩,⟨t2,y2,[],0⟩] scope pos) 0 it acc { cenv with scope:=relabel scope renv }) (RR acc cenv.locals) s4) E s3) E s₂) E s0:=by
 have hsz:ds.length≤1000:=by
  cases d <;> (first | (exact nos hd; done) | skip)
  ·obtain ⟨a,rfl⟩:=lim_some hd; exact small_le a
  ·obtain ⟨a,rfl⟩:=lim_some hd; exact small_le a
 refine iter_data (t:=t) hA.1 hd hx0 fun itv s1 X=>?_
 obtain ⟨W1,fp,P,St,vs,X,hW1,hfp,hk1,⟨h1,tk1,rfl⟩,st,r,hP⟩:=X
 refine wpAny_newObj_type (wpAny_newFunctionEnv C.nocell (by intro y hy; simp at hy) (fun h2 hns hsb=>?_) C.kind)
 dsimp only at hns hsb ⊢
 generalize hH:h1.push { cls:=.type "list", dict:=none,data:=.seq ([]:List Value).toArray }=H at hns hsb ⊢
 have hzH:H.objs.size=h1.objs.size+1:=by rw [← hH,Heap.size_push]
 have below:∀ a o,h1.get? a=some o→a ≠ H.objs.size∧a ≠ h1.objs.size:=fun a o e=>by
  have:=Heap.lt_size e
  exact ⟨by rw [hzH]; exact Nat.ne_of_lt (Nat.lt_succ_of_lt this),Nat.ne_of_lt this⟩
 have old1:∀ a o,h1.get? a=some o→h2.get? a=some o:=fun a o e=>hsb.extBut a o (below a o e).1 (Heap.get?_push_of_some _ (hH ▸ Heap.get?_push_of_some _ e))
 have old:∀ a o,s0.heap.get? a=some o→h2.get? a=some o:=fun a o e=>old1 a o (hk1 a o e)
 have fresh:∀ a,h1.objs.size≤a→s0.heap.get? a=none:=fun a ha=>by
  cases e:s0.heap.get? a with
  | none=>rfl
  | some o=>exact absurd (Heap.lt_size (hk1 a o e)) (Nat.not_lt.mpr ha)
 have hDW1:∀ a,W1 a→a < h1.objs.size:=fun a q=>by
  have:=X.live _ _ st a q
  cases z:h1.get? a with
  | none=>rw [show ({ s0 with heap:=h1,toks:=tk1 }:Shared).heap.get? a=none from z] at this; exact fls this
  | some o=>exact Heap.lt_size z
 have hacc:h2.get? h1.objs.size=some (seqObj "list" #[] 0):=hsb.extBut _ _ (by rw [hzH]; exact Nat.ne_of_lt (Nat.lt_succ_self _)) (Heap.get?_push_of_some _ (hH ▸ Heap.get?_push_size _ rfl))
 have hW:∀ a,(W1 a ∨ a=H.objs.size ∨ a=h1.objs.size)→s0.heap.get? a=none:=fun a q=>by
  rcases q with q | rfl | rfl
  ·exact hW1 a q
  ·exact fresh _ (by rw [hzH]; exact Nat.le_succ _)
  ·exact fresh _ (Nat.le_refl _)
 have hst2:St 0 h2:=X.frame _ _ _ st fun a o _ e=>old1 a o e
 have hLlt:renv.locals < h1.objs.size:=by
  have:=hS0.live _ hF0.ownL
  cases z:s0.heap.get? renv.locals with
  | none=>rw [z] at this; exact fls this
  | some o=>exact Heap.lt_size (hk1 _ _ z)
 have hlive:∀ a,(W1 a ∨ a=H.objs.size ∨ a=h1.objs.size)→(h2.get? a).isSome=true:=fun a q=>by
  rcases q with q | rfl | rfl
  ·have:=X.live _ _ st a q
   cases z:h1.get? a with
   | none=>rw [show ({ s0 with heap:=h1,toks:=tk1 }:Shared).heap.get? a=none from z] at this; exact fls this
   | some o=>rw [old1 a o z]; rfl
  ·exact ns_some hns
  ·rw [hacc]; rfl
 have S2:SR prog w b (fun a=>F a ∨ (W1 a ∨ a=H.objs.size ∨ a=h1.objs.size)) h2 ad0 σ0:=hS0.aside hW old hlive
 have M2:MvS Non s0 ad0 { s0 with heap:=h2,toks:=tk1+([]:List (Str × Value)).length } ad0:=⟨⟨_,_,_,rfl⟩,fun a o _ _ e=>old a o e,fun _ q=>q.elim,fun _ q=>.inl q,fun _ _ e=>.inl e⟩
 have loop:∀ s3:Shared,s3={ s0 with heap:=h2,toks:=tk1+([]:List (Str × Value)).length }→codeAny (model prog w) A (.compLoop (.ListComp x [⟨t,iter,[],0⟩,⟨t2,y2,[],0⟩] scope pos) 0 itv (.ref h1.objs.size) (compEnvC scope cl H.objs.size renv)) (RR (.ref h1.objs.size) H.objs.size) s3:=by
  rintro s3 rfl
  refine outer_code inj ih it (W:=fun a=>W1 a ∨ a=H.objs.size ∨ a=h1.objs.size) C ht hx ht2 hy2 hdis X hA hF0 hW (fun a q=>.inl q) (fun a q=>?_) hS0 (.inr (.inl rfl)) (.inr (.inr rfl)) (by rw [hzH]; exact Nat.ne_of_gt (Nat.lt_succ_self _)) (fun q=>?_) (fun q=>Nat.lt_irrefl _ (hDW1 _ q)) ?_ hcl (fun a q=>q) r hP hrs ?_ M2 S2 hst2 hacc hns he
  ·rcases hfp a q with q | q
   ·exact .inl ⟨q,Nat.ne_of_lt (by rw [hzH]; exact Nat.lt_succ_of_lt (hDW1 _ q)),Nat.ne_of_lt (hDW1 _ q)⟩
   ·exact .inr q
  ·have:=hDW1 _ q
   rw [hzH] at this
   exact Nat.lt_irrefl _ (Nat.lt_of_succ_lt this)
  ·rw [hzH]
   exact Nat.le_trans hF0.above (Nat.le_succ_of_le (Nat.le_of_lt hLlt))
  ·intro s' ad' ys k m a1 a2 a3 a4 a5 a6
   exact hRR _ _ s' ad' ys k m a1 a2 a3 a4 a5 a6 (hW _ (.inr (.inl rfl))) (hW _ (.inr (.inr rfl))) (by rw [hzH]; exact Nat.ne_of_gt (Nat.lt_succ_self _))
 exact codeAny_compStart_list (loop _ rfl) (X.self 0 _ _ _ hst2 (loop _ rfl))
theorem ev_comp2 {l:Lv} {n:Nat} (inj:∀ i j,nm i=nm j→i=j) (ih:Ev prog w b l n) (it:Tst prog w b l n) {tg tg2:Tg} {t x y t2 y2:PySem.Expr} {el e it2:X} {cs:List Nat} {pos:Pos} {v:V}
  (hsc:compSc sc scope (cs.map nm)=true) (ht:EncT scope tg t) (hx:Enc scope el x) (ht2:EncT scope tg2 t2) (hy2:Enc scope it2 y2) (hdis:((tgNs tg2).all fun i=>!(tgNs tg).contains i)=true) (hy:Enc sc e y)
  (he:evE l env σ (.comp2 cs el tg e tg2 it2)=some (v,σ')) (hA:Room A n) (hF:FR prog w b s.heap ad F sc renv env) (hS:SR prog w b F s.heap ad σ) :
  wpAny (model prog w) A (eval (.ListComp x [⟨t,y,[],0⟩,⟨t2,y2,[],0⟩] scope pos) renv) (EP prog w b F renv.locals s ad σ' v) E s:=by
 obtain ⟨d,σ1,h1,h2⟩:=bp he
 obtain ⟨ds,h3,h4⟩:=bd h2
 obtain ⟨rs,σ2,h5,h6⟩:=bp h4
 obtain ⟨hrs,h7⟩:=lim_some h6
 cases h7
 have C:=comp_of hsc
 obtain ⟨cl,hclos,hcl⟩:=closure_ok C hF
 rw [eval_ListComp]
 refine wpAny_comprehension_free (use:=none) rfl (enc_iter hy) hclos C.kind C.names (wpAny_mono (ih.d hy h1 hA hF hS) (fun xv s1 z=>?_) fun _ _ z=>z)
 obtain ⟨ad1,m1,S1,r1⟩:=z
 have F1:=hF.mv hS m1
 refine comp_block2 inj ih it (RR:=fun acc C=>compPost (model prog w) A E none (EP prog w b F renv.locals s ad σ2 (.d (.lst rs))) acc C) C ht hx ht2 hy2 hdis hA F1 S1 hcl (small_le hrs) h3 r1 h5 ?_
 intro Dd c s' ad' ys k m M S hD hDM hr hn hc0 hD0 hcD
 refine ⟨m,hn,fun h'' hs''=>?_⟩
 have hFc:∀ a,F a→¬ (a=c):=fun a q z=>by have:=S1.live a q; rw [z,hc0] at this; cases this
 have keep:∀ a o,¬ (a=c)→s'.heap.get? a=some o→h''.get? a=some o:=fun a o n e=>hs''.extBut a o n e
 have M':Mv renv.locals s1 ad1 { s' with heap:=h'' } ad':=(M.turn (W:=fun a=>a=c) (fun a q=>q ▸ hc0) (fun a q=>q.elim) keep).toMv F1 S1
 exact ⟨ad',m1.trans M',S.drop hFc keep,.d (.lst (keep _ _ (Ne.symm hcD) hD) ⟨rfl,rfl⟩ rfl hDM (DRs.dropW (hr.mono fun a o m e=>⟨keep a o (fun q=>m (.inr (.inr q))) e,m⟩)))⟩
theorem sd_asgC2 {l:Lv} {n:Nat} (inj:∀ i j,nm i=nm j→i=j) (ih:Ev prog w b l n) (it:Tst prog w b l n) {i:Nat} {v:Str} {tg tg2:Tg} {t x y t2 y2:PySem.Expr} {el e it2:X} {cs:List Nat} {pos p1 p q:Pos} {fl:Fl} {env':Env'} {σ':Sto}
  (hi:nm i=v) (hl:localB sc v=true) (hline:(q.line == p1.line)=true) (hno:(scope.names.any fun (n,k)=>n == v && (k == .local || k == .cell))=false)
  (hsc:compSc sc scope (cs.map nm)=true) (ht:EncT scope tg t) (hx:Enc scope el x) (ht2:EncT scope tg2 t2) (hy2:Enc scope it2 y2) (hdis:((tgNs tg2).all fun i=>!(tgNs tg).contains i)=true) (hy:Enc sc e y)
  (he:(evE l env σ (.comp2 cs el tg e tg2 it2)).map (fun r=>(Fl.next,(i,r.1)::env,r.2))=some (fl,env',σ')) (hA:Room A n) (hF:FR prog w b s.heap ad F sc renv env) (hS:SR prog w b F s.heap ad σ) :
  wpAny (model prog w) A (exec (.Assign [.Name v q] (.ListComp x [⟨t,y,[],0⟩,⟨t2,y2,[],0⟩] scope p1) p) renv) (SP prog w b F s ad sc renv fl env' σ') E s:=by
 obtain ⟨vv,σ9,h0,h0'⟩:=mpp he
 cases h0'
 obtain ⟨d,σ1,h1,h2⟩:=bp h0
 obtain ⟨ds,h3,h4⟩:=bd h2
 obtain ⟨rs,σ2,h5,h6⟩:=bp h4
 obtain ⟨hrs,h7⟩:=lim_some h6
 cases h7
 have C:=comp_of hsc
 obtain ⟨cl,hclos,hcl⟩:=closure_ok C hF
 have hsw:swapsWith (.ListComp x [⟨t,y,[],0⟩,⟨t2,y2,[],0⟩] scope p1) (some (.Name v q)) p.line renv=pure true:=by
  unfold swapsWith
  have hb:renv.blockKind=.function:=by unfold Env.blockKind; rw [hF.kind]; rfl
  have hk:=hF.loc v hl
  simp only [hb,hk]
  show pure (true && true && (q.line == p1.line) && !(scope.names.any fun (n,k)=>n == v && (k == .local || k == .cell)))=_
  rw [hline,hno]
  rfl
 rw [exec_Assign_Name_used _ _ _ _ hsw]
 refine wpAny_bind (wpAny_standAt (wpAny_bind ?_))
 show wpAny _ A (do let _ ← comprehension (.ListComp x [⟨t,y,[],0⟩,⟨t2,y2,[],0⟩] scope p1) scope renv _ (newList []) false (eval y renv) (some (assign (.Name v q) renv))) _ _ s
 refine wpAny_bind (wpAny_mono (wpAny_comprehension_free (use:=some (assign (.Name v q) renv)) (Q:=fun _ s'=>SP prog w b F s ad sc renv .next ((i,.d (.lst rs))::env) σ2 .next s') rfl (enc_iter hy) hclos C.kind C.names
  (wpAny_mono (ih.d hy h1 hA hF hS) (fun xv s1 z=>?_) fun _ _ z=>z)) (fun _ s' hq=>wpAny_pure (wpAny_pure hq)) fun _ _ e=>e)
 obtain ⟨ad1,m1,S1,r1⟩:=z
 have F1:=hF.mv hS m1
 refine comp_block2 inj ih it (RR:=fun acc C=>compPost (model prog w) A E (some (assign (.Name v q) renv)) (fun _ s'=>SP prog w b F s ad sc renv .next ((i,.d (.lst rs))::env) σ2 .next s') acc C) C ht hx ht2 hy2 hdis hA F1 S1 hcl (small_le hrs) h3 r1 h5 ?_
 intro Dd c s' ad' ys k m M S hD hDM hr hn hc0 hD0 hcD
 have hFc:∀ a,F a→¬ (a=c):=fun a q z=>by have:=S1.live a q; rw [z,hc0] at this; cases this
 have M':Mv renv.locals s1 ad1 s' ad':=M.toMv F1 S1
 have F2:FR prog w b s'.heap ad' F sc renv env:=F1.mv S1 M'
 have hs:storeB sc v=true:=by unfold storeB; unfold localB at hl; rw [hl]; rfl
 have hLc:renv.locals ≠ c:=fun z=>hFc _ hF.ownL z
 have hoff:∀ x d,renv.cells.lookup x=some d→¬ inAd ad1 d:=fun x d q=>F1.offS S1 d (.inr ⟨x,q⟩)
 have FC:FR prog w b s'.heap ad' (fun a=>F a ∨ a=c) sc renv env:=(F1.aside (W:=fun a=>a=c) (fun a q=>q ▸ hc0) (fun _ _ e=>e)).mvB hoff M'
 have rD:VR prog w s'.heap ad' (fun a=>F a ∨ a=c) (.ref Dd) (.d (.lst rs)):=.d (.lst hD ⟨rfl,rfl⟩ rfl (fun q=>by
  rcases q with q | q | q
  ·exact hDM (.inl q)
  ·exact hDM (.inr q)
  ·exact hcD q.symm) hr)
 show wpAny _ A (assign (.Name v q) renv (.ref Dd)) _ _ _
 refine wpAny_assign_Name (st_one (sc:=sc) Home.own inj hi hs FC S rD fun s2 m2 S2 F2=>?_)
 have hn2:s2.heap.Ns c m:=by
  obtain ⟨o,es,ep,e,r⟩:=hn
  exact ⟨o,es,ep,m2.old _ _ (fun z=>(S.off _ z).1 (.inr rfl)) (fun z=>hFc _ (F1.own c z) rfl) e,r⟩
 refine ⟨m,hn2,fun h3 hs3=>?_⟩
 have keep:∀ a o,¬ (a=c)→s2.heap.get? a=some o→h3.get? a=some o:=fun a o n e=>hs3.extBut a o n e
 have M2:MvS (Own renv) s1 ad1 s2 ad':=(F1.toS S1 M').trans m2
 have M3:MvS (Own renv) s1 ad1 { s2 with heap:=h3 } ad':=M2.turn (W:=fun a=>a=c) (fun a q=>q ▸ hc0) (fun a q=>hFc a (F1.own a q)) keep
 exact ⟨ad',(hF.toS hS m1).trans M3,S2.drop hFc keep,F2.drop F1 hFc keep,.next⟩
end
section
variable {prog:Program} {w:World} {K:Frag} {mg mb:Str→Option Value} {b:Heap}
variable {h h':Heap} {F W fp:Addr→Prop} {ad ad' ad'' ad0:Adr} {σ σ' σ0:Sto} {s s' s'' s0:Shared} {A:Around} {E:Value→Shared→Prop} {sc scope:Scope} {renv:Env} {env:Env'} {L:Addr} {O:Addr→Prop}
theorem sto_set2 {n t:Nat} {l:List Addr} {c:Cell} {m:Str→Option Value} (hL:F L) (hS:SR prog w b F s.heap ad σ) (hn:ad[n]?=some l) (hm:s.heap.Ns L m) (hm':h'.Ns L m) (hk:∀ a o,a ∉ l→a ≠ L→s.heap.get? a=some o→h'.get? a=some o) (hc:CR prog w h' ad F l c) :
  Mv L s ad { s with heap:=h',toks:=t } ad∧SR prog w b F h' ad (σ.set n c):=by
 have hin:∀ a,a ∈ l→inAd ad a:=fun a q=>⟨l,List.mem_of_getElem? hn,q⟩
 have hne:∀ a,F a→a ∉ l:=fun a q z=>(hS.off a (hin a z)).1 q
 refine ⟨⟨⟨_,_,_,rfl⟩,fun a o q nL e=>hk a o (fun z=>q (hin a z)) nL e,fun m1 q=>by rw [ns_uniq q hm]; exact hm',fun _=>ns_some hm',fun _ q=>.inl q,fun _ _ e=>.inl e⟩,
  fun a o e=>hk a o (fun z=>?_) (fun z=>?_) (hS.keep a o e),hS.nodup,hS.off,hS.offF,fun a q=>?_,?_⟩
 ·rw [(hS.off a (hin a z)).2] at e; exact nos e
 ·rw [z,hS.offF L hL] at e; exact nos e
 ·by_cases e:a=L
  ·rw [e]; exact ns_some hm'
  ·cases z:s.heap.get? a with
   | none=>have:=hS.live a q; rw [z] at this; exact fls this
   | some o=>rw [hk _ _ (hne _ q) e z]; rfl
 ·have:=hS.cells.upd (ad':=ad) (fun a o q e=>⟨hk a o (fun z=>q (.inl (hin a z))) (fun z=>q (.inr (z ▸ hL))) e,q⟩) (fun _ _ e=>.inl e) hc n (fun i l' hi e a ha o q=>hk a o (nodup_apart hS.nodup e hn hi ha) (fun z=>(hS.off a ⟨l',List.mem_of_getElem? e,ha⟩).1 (z ▸ hL)) q)
  rwa [set_same hn] at this
inductive SetI (σ:Sto) (vo:V) (di dv:D) (env:Env') (r:Fl × Env' × Sto):Prop
 | lst (n:Nat) (k:Int) (ds:List D):vo=.loc n→di=.int k→σ[n]?=some (.lst ds)→(0≤k∧k < 1000∧k.toNat < ds.length)→(Fl.next,env,σ.set n (.lst (ds.set k.toNat dv)))=r→SetI σ vo di dv env r
 | dct (n:Nat) (x:Str) (ks:List Str) (ds:List D):vo=.loc n→di=.str x→σ[n]?=some (.dct ks ds)→ks.length < 900→(Fl.next,env,σ.set n (.dct (put x dv ks ds).1 (put x dv ks ds).2))=r→SetI σ vo di dv env r
inductive SetIv (l:Lv) (env:Env') (σ:Sto) (o i v:X) (r:Fl × Env' × Sto):Prop
 | mk (dv:D) (σ1:Sto) (vo:V) (σ2:Sto) (di:D) (σ3:Sto):evD l env σ v=some (dv,σ1)→l.e env σ1 o=some (vo,σ2)→evD l env σ2 i=some (di,σ3)→SetI σ3 vo di dv env r→SetIv l env σ o i v r
theorem setI_inv {l:Lv} {o i v:X} {r:Fl × Env' × Sto} (he:evS1 l env σ (.setI o i v)=some r):SetIv l env σ o i v r:=by
 obtain ⟨dv,σ1,h1,he⟩:=bp he
 obtain ⟨vo,σ2,h3,he⟩:=bp he
 obtain ⟨di,σ3,h5,he⟩:=bp he
 refine ⟨dv,σ1,vo,σ2,di,σ3,h1,h3,h5,?_⟩
 induction vo using V.casesOn with
 | d=>exact nos he
 | loc n =>
  induction di using D.casesOn with
  | int k =>
   have he:(match σ3[n]? with | some (.lst ds)=>if 0≤k∧k < 1000∧k.toNat < ds.length then some (Fl.next,env,σ3.set n (.lst (ds.set k.toNat dv))) else none | _=>none)=some r:=he
   cases e:σ3[n]? with
   | none=>rw [e] at he; exact nos he
   | some c=>rw [e] at he; induction c using Cell.casesOn with
    | lst ds=>exact .lst n k ds rfl rfl e (if_some he).1 (so1 (if_some he).2)
    | _=>exact nos he
  | str x =>
   have he:(match σ3[n]? with | some (.dct ks ds)=>lim (decide (ks.length < 900)) (Fl.next,env,σ3.set n (.dct (put x dv ks ds).1 (put x dv ks ds).2)) | _=>none)=some r:=he
   cases e:σ3[n]? with
   | none=>rw [e] at he; exact nos he
   | some c=>rw [e] at he; induction c using Cell.casesOn with
    | dct ks ds=>exact .dct n x ks ds rfl rfl e (of_decide_eq_true (lim_some he).1) (lim_some he).2.symm
    | _=>exact nos he
  | _=>exact nos he
theorem set_item {vo:V} {di dv:D} {r:Fl × Env' × Sto} {ro ri rv:Value} {Q:Unit→Shared→Prop} (hI:SetI σ vo di dv env r) (hL:F L) (S:SR prog w b F s.heap ad σ) (r2:VR prog w s.heap ad F ro vo) (r3:DR prog w s.heap (Mt ad F) ri di) (r1:DR prog w s.heap (Mt ad F) rv dv)
  (h:∀ s' σ',Mv L s ad s' ad→SR prog w b F s'.heap ad σ'→(Fl.next,env,σ')=r→Q () s'):wpAny (model prog w) A (setItem ro ri rv) Q E s:=by
 induction hI using SetI.casesOn with
 | lst n k ds e1 e2 hc hk e =>
  obtain ⟨a,l',rfl,hl',cr⟩:=loc_get S (e1 ▸ r2) hc Cell.noConfusion
  obtain ⟨vs,kk,rfl,ho,r⟩:=cr.lstI
  obtain ⟨t,rfl⟩:=(e2 ▸ r3).intI
  have hlen:vs.size=ds.length:=r.length
  refine ki_setAt ho hk.1 (Int.lt_trans hk.2.1 (by decide)) ((Int.toNat_lt hk.1).mp (hlen.symm ▸ hk.2.2)) ?_
  obtain ⟨m4,S4⟩:=lst_put (L:=L) (t:=s.toks) hL S hl' ho upd_keep (PySem.IsL.update ho (·.setIfInBounds k.toNat rv)) (by rw [Array.toList_setIfInBounds]; exact r.set r1 _)
  exact h _ _ m4 S4 e
 | dct n x ks ds e1 e2 hc hk e =>
  obtain ⟨a,l',rfl,hl',cr⟩:=loc_get S (e1 ▸ r2) hc Cell.noConfusion
  obtain ⟨ob,kvs,rfl,ho,hd,hm,rfl,r⟩:=cr.dctI
  obtain ⟨t,rfl⟩:=(e2 ▸ r3).strI
  have hD:s.heap.DictOf (PySem.strKind prog w) a kvs:=Heap.dictOf_iff.mpr ⟨ob,ho,hd⟩
  refine wpAny_setItem_pairs (key_is x t) hD (fun h' hm' hs'=>?_) (le_line (Nat.le_trans (Nat.le_of_lt (List.length_map (as:=kvs) (·.1) ▸ hk)) (by decide)))
  obtain ⟨a1,a2⟩:=stored_put (x:=x) (dict_nodup hd) r r1
  obtain ⟨m4,S4⟩:=dct_put (L:=L) (t:=s.toks+1) hL S hl' hs' hm' hm a1 a2
  exact h _ _ m4 S4 e
theorem sd_setI {l:Lv} {n:Nat} (ih:Ev prog w b l n) {o i v:X} {x y z:PySem.Expr} {p q:Pos} {fl:Fl} {env':Env'} {σ':Sto} (hx:Enc sc o x) (hy:Enc sc i y) (hz:Enc sc v z)
  (he:evS1 l env σ (.setI o i v)=some (fl,env',σ')) (hA:Room A n) (hF:FR prog w b s.heap ad F sc renv env) (hS:SR prog w b F s.heap ad σ) :
  wpAny (model prog w) A (exec (.Assign [.Subscript x y q] z p) renv) (SP prog w b F s ad sc renv fl env' σ') E s:=by
 obtain ⟨dv,σ1,vo,σ2,di,σ3,h1,h3,h5,hI⟩:=setI_inv he
 refine wpAny_Assign_Subscript (wpAny_mono (ih.d hz h1 hA hF hS) (fun rv s1 g=>?_) fun _ _ z=>z) ((enc_okF hz).swI ..)
 obtain ⟨ad1,m1,S1,r1⟩:=g
 have F1:=hF.mv hS m1
 refine wpAny_mono (ih _ _ _ hx _ _ _ _ h3 _ _ _ _ _ _ hA F1 S1) (fun ro s2 g=>?_) fun _ _ z=>z
 obtain ⟨ad2,m2,S2,r2⟩:=g
 have F2:=F1.mv S1 m2
 refine wpAny_mono (ih.d hy h5 hA F2 S2) (fun ri s3 g=>?_) fun _ _ z=>z
 obtain ⟨ad3,m3,S3,r3⟩:=g
 exact set_item hI hF.ownL S3 (r2.mv hF.ownL m3) r3 ((r1.mv hF.ownL m2).mv hF.ownL m3) fun s4 σ4 m4 S4 e =>
  have e':=Prod.mk.inj (Prod.mk.inj e).2
  ⟨ad3,hF.toS hS (((m1.trans m2).trans m3).trans m4),e'.2 ▸ S4,e'.1 ▸ (F2.mv S2 m3).mv S3 m4,(Prod.mk.inj e).1 ▸ .next⟩
theorem upd_mid {d:Addr} {o o':Obj} {pre post:List (Addr × Obj)} (h1:∀ p ∈ pre,p.1 ≠ d) (h2:∀ p ∈ post,p.1 ≠ d):Upd d o o' (pre++(d,o)::post) (pre++(d,o')::post):=by
 induction pre with
 | nil=>exact .head h2
 | cons q r ih=>exact .tail (h1 q (.head _)) (ih fun p hp=>h1 p (.tail _ hp))
theorem mid_mem {d y:Addr} {o o0 o1:Obj} {pre post:List (Addr × Obj)} (h:(y,o) ∈ pre++(d,o0)::post) (n:y ≠ d):(y,o) ∈ pre++(d,o1)::post :=
 (List.mem_append.mp h).elim (List.mem_append_left _) fun h=>(List.mem_cons.mp h).elim (fun e=>absurd (pj e).1 n) fun h=>List.mem_append_right _ (.tail _ h)
inductive SetAv (l:Lv) (env:Env') (σ:Sto) (o v:X) (f:Str) (r:Fl × Env' × Sto):Prop
 | mk (dv:V) (σ1:Sto) (vo:V) (σ2:Sto) (n:Nat) (c:Addr) (ks:List Str) (vs:List V):l.e env σ v=some (dv,σ1)→l.e env σ1 o=some (vo,σ2)→vo=.loc n→σ2[n]?=some (.obj c ks vs)→ks.length < 900→(Fl.next,env,σ2.set n (.obj c (put f dv ks vs).1 (put f dv ks vs).2))=r→SetAv l env σ o v f r
theorem setA_inv {l:Lv} {o v:X} {f:Str} {r:Fl × Env' × Sto} (he:evS1 l env σ (.setA o f v)=some r):SetAv l env σ o v f r:=by
 obtain ⟨dv,σ1,h1,he⟩:=bp he
 obtain ⟨vo,σ2,h3,he⟩:=bp he
 induction vo using V.casesOn with
 | d=>exact nos he
 | loc n =>
  have he:(match σ2[n]? with | some (.obj c ks vs)=>lim (decide (ks.length < 900)) (Fl.next,env,σ2.set n (.obj c (put f dv ks vs).1 (put f dv ks vs).2)) | _=>none)=some r:=he
  cases e:σ2[n]? with
  | none=>rw [e] at he; exact nos he
  | some c=>rw [e] at he; induction c using Cell.casesOn with
   | obj c ks vs=>exact ⟨dv,σ1,.loc n,σ2,n,c,ks,vs,h1,h3,rfl,e,of_decide_eq_true (lim_some he).1,(lim_some he).2.symm⟩
   | _=>exact nos he
theorem set_attr {n:Nat} {a c:Addr} {l':List Addr} {f:Str} {ks:List Str} {vs:List V} {dv:V} {rv:Value} {m:Str→Option Value} {Q:Unit→Shared→Prop} (G:Gd prog w K mg mb b) (hf:f ∈ fldNs) (Fb:Fr b L s.heap m) (hn:s.heap.Ns L m) (hL:F L) (S:SR prog w b F s.heap ad σ)
  (hl':ad[n]?=some (a::l')) (cr:CObj prog w s.heap ad F a l' c ks vs) (r1:VR prog w s.heap ad F rv dv) (hsz:ks.length < 900)
  (h:∀ s',Mv L s ad s' ad→SR prog w b F s'.heap ad (σ.set n (.obj c (put f dv ks vs).1 (put f dv ks vs).2))→Q () s'):wpAny (model prog w) A (setAttr (.ref a) f rv) Q E s:=by
 obtain ⟨d,es,k,rfl,hcl,e1,e2,hk,hr⟩:=cr
 have hin:∀ y,y ∈ [a,d]→inAd ad y:=fun y q=>⟨_,List.mem_of_getElem? hl',q⟩
 have hoff:∀ y,y ∈ [a,d]→y ≠ L:=fun y q z=>(S.off y (hin y q)).1 (z ▸ hL)
 obtain ⟨pre,post,e0,x1,x2⟩:=allN_split (allN_mem.mpr ⟨hoff d (.tail _ (.head _)),(S.off d (hin d (.tail _ (.head _)))).2,e2⟩)
 obtain ⟨p1,p2,p3⟩:=keys_put (x:=f) (hsh:=PyData.keyHash w.params f) (t:=s.toks+1) (v:=rv) (R:=fun v d=>VR prog w s.heap ad F v d) (Rs:=fun v d=>VRs prog w s.heap ad F v d) VRs.inv (fun q=>by cases q; rfl) (fun a b=>.cons a b) .nil r1 hk hr
 refine set_dict Fb G.X (news:=pre++(d,dictOf es k)::post) (e0 ▸ allN_news) (ox:=instObj c d) (dx:=d) ⟨e1,rfl,rfl,e2⟩ rfl (G.atSet _ hcl) (G.atOver _ hcl) (by unfold takerIn; rw [G.atNo _ hcl _ hf]; try rfl) (G.atHas _ hcl) (keys_some hk) rfl (upd_mid x1 x2) (Nat.le_trans p3 (lw hsz)) fun h' F' N'=>?_
 have hda:a ≠ d:=fun z=>by rw [z,e2] at e1; cases e1
 have ha':h'.get? a=some (instObj c d):=N'.get (mid_mem (e0 ▸ allN_mem.mpr ⟨hoff a (.head _),(S.off a (hin a (.head _))).2,e1⟩) hda)
 have hkeep:∀ y o,y ∉ [a,d]→y ≠ L→s.heap.get? y=some o→h'.get? y=some o:=fun y o ny nL e=>by
  cases z:b.get? y with
  | some o'=>exact so1 ((S.keep y o' z).symm.trans e) ▸ F'.keep y o' z
  | none=>exact N'.get (mid_mem (e0 ▸ allN_mem.mpr ⟨nL,z,e⟩) fun q=>ny (q ▸ .tail _ (.head _)))
 have hK:∀ y o,¬ Mt ad F y→s.heap.get? y=some o→h'.get? y=some o∧¬ Mt ad F y:=fun y o q e=>⟨hkeep y o (fun z=>q (.inl (hin y z))) (fun z=>q (.inr (z ▸ hL))) e,q⟩
 obtain ⟨m3,S3⟩:=sto_set2 (L:=L) (t:=s.toks+2) hL S hl' hn F'.ns hkeep (.obj hcl ha' (N'.get (List.mem_append_right _ (.head _))) p1 (p2.step hK fun _ _ e=>.inl e))
 exact h _ m3 S3
theorem sd_setA {l:Lv} {n:Nat} (G:Gd prog w K mg mb b) (ih:Ev prog w b l n) {o v:X} {f:Str} {x z:PySem.Expr} {p q:Pos} {fl:Fl} {env':Env'} {σ':Sto} (hf:f ∈ fldNs) (hx:Enc sc o x) (hz:Enc sc v z)
  (he:evS1 l env σ (.setA o f v)=some (fl,env',σ')) (hA:Room A n) (hF:FR prog w b s.heap ad F sc renv env) (hS:SR prog w b F s.heap ad σ) :
  wpAny (model prog w) A (exec (.Assign [.Attribute x f q] z p) renv) (SP prog w b F s ad sc renv fl env' σ') E s:=by
 obtain ⟨dv,σ1,vo,σ2,n',c,ks,vs,h1,h3,e1,hc,hsz,e⟩:=setA_inv he
 refine plainObj_wpAny_Assign_Attribute (wpAny_mono (ih _ _ _ hz _ _ _ _ h1 _ _ _ _ _ _ hA hF hS) (fun rv s1 g=>?_) fun _ _ z=>z) ((enc_okF hz).swA ..)
 obtain ⟨ad1,m1,S1,r1⟩:=g
 have F1:=hF.mv hS m1
 refine wpAny_mono (ih _ _ _ hx _ _ _ _ h3 _ _ _ _ _ _ hA F1 S1) (fun ro s2 g=>?_) fun _ _ z=>z
 obtain ⟨ad2,m2,S2,r2⟩:=g
 have F2:=F1.mv S1 m2
 obtain ⟨m,hn,Fb⟩:=F2.fr S2
 obtain ⟨a,l',rfl,hl',cr⟩:=loc_get S2 (e1 ▸ r2) hc Cell.noConfusion
 have e':=Prod.mk.inj (Prod.mk.inj e).2
 exact set_attr G hf Fb hn F2.ownL S2 hl' cr.objI (r1.mv hF.ownL m2) hsz fun s3 m3 S3=>⟨ad2,hF.toS hS ((m1.trans m2).trans m3),e'.2 ▸ S3,e'.1 ▸ F2.mv S2 m3,(Prod.mk.inj e).1 ▸ .next⟩
end
section
variable {prog:Program} {w:World} {K:Frag} {mg mb:Str→Option Value} {b:Heap}
variable {h h':Heap} {F W fp:Addr→Prop} {ad ad' ad'' ad0:Adr} {σ σ' σ0:Sto} {s s' s'' s0:Shared} {A:Around} {E:Value→Shared→Prop} {sc scope:Scope} {renv:Env} {env:Env'} {L:Addr} {O:Addr→Prop}
theorem EncT.tupI {is:List Nat} {t:PySem.Expr} (h:EncT sc (.tup is) t):∃ es k p,t=.Tuple es k p∧NamesAre (storeB sc) is es:=by
 cases h with | tup _ hN=>exact ⟨_,_,_,rfl,hN⟩
theorem sd_asg {l:Lv} {n:Nat} (inj:∀ i j,nm i=nm j→i=j) (ih:Ev prog w b l n) {i:Nat} {v:Str} {x:X} {e:PySem.Expr} {p q:Pos} {fl:Fl} {env':Env'} {σ':Sto} (hi:nm i=v) (hs:storeB sc v=true) (hc:notComp e=true) (hx:Enc sc x e)
  (he:evS1 l env σ (.asg i x)=some (fl,env',σ')) (hA:Room A n) (hF:FR prog w b s.heap ad F sc renv env) (hS:SR prog w b F s.heap ad σ) :
  wpAny (model prog w) A (exec (.Assign [.Name v q] e p) renv) (SP prog w b F s ad sc renv fl env' σ') E s:=by
 obtain ⟨va,σ1,h1,h2⟩:=mpp he
 obtain ⟨e1,e4⟩:=pj h2
 obtain ⟨e2,e3⟩:=pj e4
 rw [← e1,← e2,← e3]
 clear he h2 e4 e1 e2 e3
 refine wpAny_Assign_Name (wpAny_mono (ih _ _ _ hx _ _ _ _ h1 _ _ _ _ _ _ hA hF hS) (fun rv s1 g=>?_) fun _ _ z=>z) (by clear hx; cases e <;> first | rfl | exact fls hc)
 obtain ⟨ad1,m1,S1,r1⟩:=g
 exact st_one Home.own inj hi hs (hF.mv hS m1) S1 r1 fun s2 m2 S2 F2=>⟨ad1,(hF.toS hS m1).trans m2,S2,F2,.next⟩
theorem sd_asgT {l:Lv} {n:Nat} (inj:∀ i j,nm i=nm j→i=j) (ih:Ev prog w b l n) {is:List Nat} {t:PySem.Expr} {x:X} {e:PySem.Expr} {p:Pos} {fl:Fl} {env':Env'} {σ':Sto} (ht:EncT sc (.tup is) t) (hc:notTup e=true) (hx:Enc sc x e)
  (he:evS1 l env σ (.asgT is x)=some (fl,env',σ')) (hA:Room A n) (hF:FR prog w b s.heap ad F sc renv env) (hS:SR prog w b F s.heap ad σ) :
  wpAny (model prog w) A (exec (.Assign [t] e p) renv) (SP prog w b F s ad sc renv fl env' σ') E s:=by
 obtain ⟨d,σ1,h1,h2⟩:=bp he
 obtain ⟨env1,h3,h4⟩:=md h2
 obtain ⟨e1,e4⟩:=pj h4
 obtain ⟨e2,e3⟩:=pj e4
 rw [← e1,← e2,← e3]
 clear he h2 h4 e4 e1 e2 e3
 obtain ⟨es,kk,pp,et,-⟩:=ht.tupI
 ·refine et ▸ Assign_Tuple (wpAny_mono (ih.d hx h1 hA hF hS) (fun rv s1 g=>?_) fun _ _ z=>z) (by clear hx; cases e <;> first | rfl | exact fls hc) (by clear hx; cases e <;> first | rfl | exact fls hc)
  obtain ⟨ad1,m1,S1,r1⟩:=g
  exact tg_assign Home.own inj (et ▸ ht) h3 hA.1 (hF.mv hS m1) S1 r1 fun s2 m2 S2 F2=>⟨ad1,(hF.toS hS m1).trans m2,S2,F2,.next⟩
theorem names_lookup {ok:Str→Bool} {is:List Nat} {es:List PySem.Expr} (hN:NamesAre ok is es) {f:PySem.Expr→Option Str} (hf:∀ x p,(Expr.Name x p) ∈ es→ok x=true→f (.Name x p)=some x):es.filterMap f=is.map nm:=by
 induction hN with
 | nil=>rfl
 | cons hi hs _ ih =>
  rw [List.filterMap_cons,hf _ _ (.head _) hs,List.map_cons,hi]
  exact congrArg _ (ih fun x p hm=>hf x p (.tail _ hm))
theorem enc_nostar {xs:List X}:∀ {es:List PySem.Expr},EncL sc xs es→(es.any fun | .Starred ..=>true | _=>false)=false:=by
 induction xs with
 | nil=>intro es hx; cases hx; rfl
 | cons x xs ih =>
  intro es hx
  cases hx with
  | cons h r=>exact (congr (congrArg or (enc_okF h).nostar) (ih r):(isStar _ || _)=_)
theorem zip_rev {α β:Type}:∀ (a:List α) (c:List β),a.length=c.length→a.reverse.zip c.reverse=(a.zip c).reverse:=by
 intro a
 induction a with
 | nil=>intro c h; simp
 | cons x a ih =>
  intro c h
  cases c with
  | nil=>simp at h
  | cons y c =>
   have h':a.length=c.length:=by simpa using h
   rw [List.reverse_cons,List.reverse_cons,List.zip_append (by simpa using h'),ih c h']
   simp
theorem nodup_eraseDups:∀ {l:List Str},l.Nodup→l.eraseDups=l
 | [],_=>rfl
 | a::r,hl=>by
  rw [List.nodup_cons] at hl
  have:r.filter (fun b=>!b == a)=r:=List.filter_eq_self.mpr fun b hb=>by
   rw [beq_false_of_ne (show b ≠ a from fun z=>hl.1 (z ▸ hb))]; rfl
  rw [List.eraseDups_cons,this,nodup_eraseDups hl.2]
theorem swap_yes {xs:List X} {is:List Nat} {ts es:List PySem.Expr} {k k2:Nat} {q q2:Pos} (inj:∀ i j,nm i=nm j→i=j) (hb:renv.blockKind=.function) (hloc:∀ x,localB sc x=true→renv.kindOf x=some .local) (hN:NamesAre (localB sc) is ts)
  (hline:ts.all (fun e=>e.pos.line == (ts.head?.map (·.pos.line)).getD 0)=true) (hnd:is.Nodup) (hlen:is.length=2 ∨ is.length=3) (hx:EncL sc xs es) (hxl:xs.length=is.length) (hf:es.all (foldedForSure 8)=false) (hcn:es.all (constantsAlone 8)=false):swappedStores [.Tuple ts k q] (.Tuple es k2 q2) renv=pure (some (is.map nm)):=by
 have hts:=names_len hN
 have hes:=encL_len hx
 unfold swappedStores
 have e1:(!(ts.length == 2 || ts.length == 3) || es.length != ts.length || renv.blockKind != .function)=false:=by
  rw [hb,hes,hts,hxl]
  rcases hlen with q | q <;> rw [q] <;> decide
 have e2:(ts.filterMap fun | .Name id pos=>(if (renv.kindOf id == some .local && pos.line == (ts.head?.map (·.pos.line)).getD 0)=true then some id else none) | _=>none)=is.map nm :=
  names_lookup hN fun x p hm hok=>if_pos (by rw [hloc x hok,show (p.line == (ts.head?.map (·.pos.line)).getD 0)=true from List.all_eq_true.mp hline _ hm]; rfl)
 have e3:((is.map nm).length != ts.length || (is.map nm).eraseDups.length != (is.map nm).length)=false:=by
  have hnd2:(is.map nm).Nodup:=by
   rw [List.nodup_iff_pairwise_ne,List.pairwise_map]
   exact (List.nodup_iff_pairwise_ne.mp hnd).imp fun hne z=>hne (inj _ _ z)
  rw [nodup_eraseDups hnd2,List.length_map,hts,bne_self_eq_false]; rfl
 dsimp only
 rw [if_neg (by rw [e1]; decide)]
 refine (if_neg (fun z=>Bool.false_ne_true ((enc_nostar hx).symm.trans z))).trans ?_
 refine Eq.trans (b:=(do
  let names:=is.map nm
  if names.length != ts.length || names.eraseDups.length != names.length then return none
  if es.all (foldedForSure 8) then return none
  if es.all (constantsAlone 8) then unsupported "assign.tuple-of-constant-expressions:order-of-the-stores"
  return some names:Sem (Option (List Str)))) (by rw [← e2]; rfl) ?_
 dsimp only
 rw [if_neg (by rw [e3]; decide),if_neg (by rw [hf]; decide),if_neg (by rw [hcn]; decide)]
theorem VRs.consI {vs:List Value} {d:V} {ds:List V} (x:VRs prog w h ad F vs (d::ds)):∃ v vs',vs=v::vs'∧VR prog w h ad F v d∧VRs prog w h ad F vs' ds:=by
 cases x with | cons e r=>exact ⟨_,_,rfl,e,r⟩
theorem asg_order (inj:∀ i j,nm i=nm j→i=j):∀ {is:List Nat} {vs:List V} {rvs:List Value} {env:Env'} {s:Shared} {Q:Unit→Shared→Prop},is.length=vs.length→(∀ i ∈ is,localB sc (nm i)=true)→FR prog w b s.heap ad F sc renv env→SR prog w b F s.heap ad σ→VRs prog w s.heap ad F rvs vs →
  (∀ s',MvS (Own renv) s ad s' ad→SR prog w b F s'.heap ad σ→FR prog w b s'.heap ad F sc renv ((is.zip vs).reverse++env)→Q () s')→wpAny (model prog w) A (assignInOrder ((is.map nm).map fun n=>bindName renv n) rvs) Q E s:=by
 intro is
 induction is with
 | nil =>
  intro vs rvs env s Q hl _ hF hS _ h
  rcases vs with _ | ⟨v,vs⟩
  ·exact assignInOrder_nil (h _ MvS.refl hS hF)
  ·cases hl
 | cons i is ih =>
  intro vs rvs env s Q hl hok hF hS hv h
  rcases vs with _ | ⟨v,vs⟩
  ·cases hl
  obtain ⟨rv,rvs',e,h1,h2⟩:=hv.consI
  rw [e]
  have hst:storeB sc (nm i)=true:=Bool.or_eq_true_iff.mpr (.inl (hok i (.head _)))
  refine assignInOrder_cons (bindName_ (st_one Home.own inj rfl hst hF hS h1 fun s1 m1 S1 F1=>ih (Nat.succ.inj hl) (fun j hj=>hok j (.tail _ hj)) F1 S1 (h2.mvS hF.own m1) fun s2 m2 S2 F2=>h s2 (m1.trans m2) S2 ?_))
  rw [List.zip_cons_cons,List.reverse_cons,List.append_assoc]
  exact F2
theorem VRs.app {a:List Value} {c:List V} {a':List Value} {c':List V} (x:VRs prog w h ad F a c) (y:VRs prog w h ad F a' c'):VRs prog w h ad F (a++a') (c++c') :=
 VRs.rec (motive:=fun a c _=>VRs prog w h ad F (a++a') (c++c')) y (fun e _ i=>.cons e i) x
theorem VRs.rev {a:List Value} {c:List V} (x:VRs prog w h ad F a c):VRs prog w h ad F a.reverse c.reverse :=
 VRs.rec (motive:=fun a c _=>VRs prog w h ad F a.reverse c.reverse) .nil (fun e _ i=>by rw [List.reverse_cons,List.reverse_cons]; exact i.app (.cons e .nil)) x
theorem asgW_inv {l:Lv} {is:List Nat} {xs:List X} {fl:Fl} {env':Env'} (he:evS1 l env σ (.asgW is xs)=some (fl,env',σ')):∃ vs,evs l env σ xs=some (vs,σ')∧is.length=vs.length∧.next=fl∧(is.zip vs)++env=env':=by
 obtain ⟨vs,σ1,h1,h2⟩:=bp he
 by_cases hl:is.length=vs.length
 ·obtain ⟨e1,e2,e3⟩:=so3 ((if_pos hl).symm.trans h2)
  exact ⟨vs,e3 ▸ h1,hl,e1,e2⟩
 ·exact nos ((if_neg hl).symm.trans h2)
theorem sd_asgW {l:Lv} {n:Nat} (inj:∀ i j,nm i=nm j→i=j) (ih:Ev prog w b l n) {is:List Nat} {xs:List X} {ts es:List PySem.Expr} {k k2:Nat} {p q q2:Pos} {fl:Fl} {env':Env'} {σ':Sto} (hN:NamesAre (localB sc) is ts)
  (hline:ts.all (fun e=>e.pos.line == (ts.head?.map (·.pos.line)).getD 0)=true) (hnd:is.Nodup) (hlen:is.length=2 ∨ is.length=3) (hx:EncL sc xs es) (hxl:xs.length=is.length) (hf:es.all (foldedForSure 8)=false) (hcn:es.all (constantsAlone 8)=false)
  (he:evS1 l env σ (.asgW is xs)=some (fl,env',σ')) (hA:Room A n) (hF:FR prog w b s.heap ad F sc renv env) (hS:SR prog w b F s.heap ad σ) :
  wpAny (model prog w) A (exec (.Assign [.Tuple ts k q] (.Tuple es k2 q2) p) renv) (SP prog w b F s ad sc renv fl env' σ') E s:=by
 obtain ⟨vs,h1,hl,e1,e2⟩:=asgW_inv he
 have hb:renv.blockKind=.function:=by unfold Env.blockKind; rw [hF.kind]; rfl
 have hw:=swap_yes (k:=k) (k2:=k2) (q:=q) (q2:=q2) inj hb hF.loc hN hline hnd hlen hx hxl hf hcn
 rw [← e1,← e2]
 clear he e1 e2 hb hline hnd hf hcn
 refine Assign_Tuple_swapped (names:=is.map nm) (wpAny_Tuple (wpAny_mono (ev_args ih hx h1 hA hF hS) (fun rvs s1 g=>?_) fun _ _ z=>z)) rfl hw
 obtain ⟨ad1,m1,S1,r1⟩:=g
 have F1:=hF.mv hS m1
 have hrl:=r1.length
 refine ⟨le_line (by rw [hrl,← hl]; rcases hlen with q | q <;> rw [q] <;> decide),?_⟩
 obtain ⟨m2,S2⟩:=sto_grow (L:=renv.locals) (t:=s1.toks) S1 (push_keep { cls:=.type "tuple", data:=.seq rvs.toArray })
 have m12:=hF.toS hS (m1.trans m2)
 have F2:=F1.mv S1 m2
 have r2:=r1.mv hF.ownL m2
 clear hw h1 hx hxl hlen r1 S1 F1 m1 m2 hS
 have hun:=unpackItems_tuple (prog:=prog) (w:=w) (A:=A) (E:=E) (s:={ s1 with heap:=s1.heap.push { cls:=.type "tuple", data:=.seq rvs.toArray } }) (t:=s1.heap.objs.size) (items:=rvs.toArray) hA.1 ⟨_,Heap.get?_push_size _ rfl,rfl,0,rfl⟩ (Q:=fun items s₂ =>
  wpAny (model prog w) A (assignInOrder ((is.map nm).reverse.map fun n=>bindName renv n) items.reverse) (fun _=>SP prog w b F s ad sc renv .next ((is.zip vs)++env) σ' .next) E s₂) fun h3 he3=>?_
 ·rw [show rvs.toArray.size=(is.map nm).length by rw [List.size_toArray,List.length_map,hl,hrl]] at hun
  exact hun
 ·have hk:∀ a o,(s1.heap.push { cls:=.type "tuple", data:=.seq rvs.toArray }).get? a=some o→h3.get? a=some o:=fun a o e=>he3 a o (Nat.ne_of_lt (Heap.lt_size e)) e
  obtain ⟨m3,S3⟩:=sto_grow (L:=renv.locals) (t:=s1.toks) (s:={ s1 with heap:=s1.heap.push { cls:=.type "tuple", data:=.seq rvs.toArray } }) S2 hk
  show wpAny _ A (assignInOrder ((is.map nm).reverse.map fun n=>bindName renv n) rvs.reverse) _ E _
  rw [← List.map_reverse]
  refine asg_order inj (by rw [List.length_reverse,List.length_reverse]; exact hl) (fun i hi=>names_ok hN i (List.mem_reverse.mp hi)) (F2.mv S2 m3) S3 (r2.mv hF.ownL m3).rev fun s4 m4 S4 F4=>?_
  rw [zip_rev _ _ hl,List.reverse_reverse] at F4
  exact ⟨ad1,(m12.trans (F2.toS S2 m3)).trans m4,S4,F4,.next⟩
end
section
variable {prog:Program} {w:World} {K:Frag} {mg mb:Str→Option Value} {b:Heap}
variable {h h':Heap} {F W fp:Addr→Prop} {ad ad' ad'' ad0:Adr} {σ σ' σ0:Sto} {s s' s'' s0:Shared} {A:Around} {E:Value→Shared→Prop} {sc scope:Scope} {renv:Env} {env:Env'} {L:Addr} {O:Addr→Prop}
theorem fm_le {f:PySem.Expr→Option Str} (x:PySem.Expr) (xs:List PySem.Expr):((x::xs).filterMap f).length≤(xs.filterMap f).length+1:=by
 rw [List.filterMap_cons]
 generalize f x=o
 exact o.casesOn (Nat.le_succ _) fun _=>Nat.le_refl _
theorem fm_lt {f:PySem.Expr→Option Str} {is:List Nat} {ts:List PySem.Expr} (hN:NamesAre (storeB sc) is ts) (hf:∀ x p,storeB sc x=true→localB sc x=false→f (.Name x p)=none):is.any (fun i=>!localB sc (nm i))=true→(ts.filterMap f).length < is.length:=by
 induction hN with
 | nil=>intro z; exact fls z
 | @cons i x p is es hi ho hN ih =>
  intro z
  rw [List.any_cons] at z
  cases e:localB sc (nm i) with
  | true =>
   rw [e] at z
   exact Nat.lt_of_le_of_lt (fm_le _ _) (Nat.succ_lt_succ (ih z))
  | false =>
   rw [List.filterMap_cons,hf x p ho (hi ▸ e)]
   exact Nat.lt_succ_of_le (names_len hN ▸ List.length_filterMap_le _ _)
theorem ite_n {α:Type} {c:Prop} [Decidable c] {a b:α} (h:b=a):(if c then a else b)=a:=by
 rw [h,ite_self]
theorem swap_no {is:List Nat} {ts es:List PySem.Expr} {k k2:Nat} {q q2:Pos} (hF:FR prog w b h ad F sc renv env) (hN:NamesAre (storeB sc) is ts) (z:is.any (fun i=>!localB sc (nm i))=true) :
  swappedStores [.Tuple ts k q] (.Tuple es k2 q2) renv=pure none:=by
 have hs:∀ x,storeB sc x=true→localB sc x=false→renv.kindOf x ≠ some .local:=fun x h1 h2 h3=>by
  unfold storeB at h1
  unfold localB at h2
  rw [h2,Bool.false_or,beq_iff_eq] at h1
  exact nomatch (hF.same x _ h1 (by decide)).symm.trans h3
 unfold swappedStores
 dsimp only
 refine ite_n (ite_n (if_pos ?_))
 rw [Bool.or_eq_true,bne_iff_ne]
 exact .inl (Nat.ne_of_lt (Nat.lt_of_lt_of_eq (fm_lt hN (fun x p h1 h2=>if_neg fun e=>hs x h1 h2 (eq_of_beq (Bool.and_eq_true .. ▸ e).1)) z) (names_len hN).symm))
theorem sd_asgU {l:Lv} {n:Nat} (inj:∀ i j,nm i=nm j→i=j) (ih:Ev prog w b l n) {is:List Nat} {xs:List X} {t:PySem.Expr} {ts es:List PySem.Expr} {k k2:Nat} {p q q2:Pos} {fl:Fl} {env':Env'} {σ':Sto} (hte:t=Expr.Tuple ts k q)
  (ht:EncT sc (.tup is) t) (hnl:is.any (fun i=>!localB sc (nm i))=true) (hx:EncL sc xs es) (hxl:xs.length=is.length) (hlen:xs.length≤100)
  (he:evS1 l env σ (.asgU is xs)=some (fl,env',σ')) (hA:Room A n) (hF:FR prog w b s.heap ad F sc renv env) (hS:SR prog w b F s.heap ad σ) :
  wpAny (model prog w) A (exec (.Assign [t] (.Tuple es k2 q2) p) renv) (SP prog w b F s ad sc renv fl env' σ') E s:=by
 obtain ⟨vs,σ1,h1,h2⟩:=bp he
 split at h2
 ·rename_i hl
  obtain ⟨rfl,rfl,rfl⟩:=so3 h2
  subst hte
  cases ht with
  | tup hl20 hN =>
   have hts:=names_len hN
   have hes:=encL_len hx
   have hw:=swap_no (es:=es) (k2:=k2) (q2:=q2) (k:=k) (q:=q) hF hN hnl
   refine Assign_Tuple (wpAny_Tuple (wpAny_mono (ev_args ih hx h1 hA hF hS) (fun rvs s1 g=>?_) fun _ _ z=>z)) rfl hw
   obtain ⟨ad1,m1,S1,r1⟩:=g
   have F1:=hF.mv hS m1
   have hrl:=r1.length
   refine ⟨le_line (by rw [hrl,← hl]; exact lw hl20),?_⟩
   obtain ⟨m2,S2⟩:=sto_grow (L:=renv.locals) (t:=s1.toks) S1 (push_keep { cls:=.type "tuple", data:=.seq rvs.toArray })
   have F2:=F1.mv S1 m2
   have r2:=r1.mv hF.ownL m2
   refine wpAny_assign_Tuple (items:=rvs.toArray) hA.1 ⟨_,Heap.get?_push_size _ rfl,rfl,0,rfl⟩ ?_ ?_ fun h3 he3=>?_
   ·rw [names_each hN,List.length_map,hts,List.size_toArray,hrl,hl]
   ·rw [names_each hN,List.findIdx?_eq_none_iff]
    intro x hx
    obtain ⟨y,_,rfl⟩:=List.mem_map.mp hx
    rfl
   ·have hk:∀ a o,(s1.heap.push { cls:=.type "tuple", data:=.seq rvs.toArray }).get? a=some o→h3.get? a=some o:=fun a o e=>he3 a o (Nat.ne_of_lt (Heap.lt_size e)) e
    obtain ⟨m3,S3⟩:=sto_grow (L:=renv.locals) (t:=s1.toks) (s:={ s1 with heap:=s1.heap.push { cls:=.type "tuple", data:=.seq rvs.toArray } }) S2 hk
    have F3:=F2.mv S2 m3
    rw [names_each hN,List.map_map]
    exact st_many Home.own inj (fun _ q=>q) hN hl F3 S3 (r2.mv hF.ownL m3) fun s4 m4 S4 F4=>⟨ad1,(hF.toS hS ((m1.trans m2).trans m3)).trans m4,S4,F4,.next⟩
 ·exact nos h2
theorem sd_ife {l:Lv} {n:Nat} (it:Tst prog w b l n) (sd:Sd prog w b l n) {t:X} {a c:List S} {x:PySem.Expr} {y z:List Stmt} {p:Pos} {fl:Fl} {env':Env'} {σ':Sto} (hx:Enc sc t x) (hy:EncSs sc a y) (hz:EncSs sc c z)
  (he:evS1 l env σ (.ife t a c)=some (fl,env',σ')) (hA:Room A n) (hF:FR prog w b s.heap ad F sc renv env) (hS:SR prog w b F s.heap ad σ) :
  wpAny (model prog w) A (exec (.If x y z p) renv) (SP prog w b F s ad sc renv fl env' σ') E s:=by
 obtain ⟨tb,σ1,h1,h2⟩:=bp he
 refine wpAny_If (wpAny_mono (it _ _ _ hx _ _ _ _ h1 _ _ _ _ _ _ hA hF hS) (fun c s1 g=>?_) fun _ _ z=>z)
 obtain ⟨rfl,ad1,m1,S1⟩:=g
 have F1:=hF.mv hS m1
 cases c with
 | true =>
  exact wpAny_mono (sd _ _ _ hy _ _ _ _ _ h2 _ _ _ _ _ _ hA F1 S1) (fun f s2 z=>z.after (hF.toS hS m1)) fun _ _ z=>z
 | false =>
  exact wpAny_mono (sd _ _ _ hz _ _ _ _ _ h2 _ _ _ _ _ _ hA F1 S1) (fun f s2 z=>z.after (hF.toS hS m1)) fun _ _ z=>z
inductive WhB (l:Lv) (t:X) (body:List S) (k:Nat) (env:Env') (σ:Sto) (r:Fl × Env' × Sto):Prop
 | mk (f1:Fl) (env2:Env') (σ3:Sto):l.s env σ body=some (f1,env2,σ3)→(f1=.next→whileL l t body k env2 σ3=some r)→(∀ v,f1=.ret v→(Fl.ret v,env2,σ3)=r)→WhB l t body k env σ r
inductive WhC (l:Lv) (t:X) (body:List S) (k:Nat) (env:Env') (σ:Sto) (r:Fl × Env' × Sto):Prop
 | mk (tb:Bool) (σ2:Sto):test l env σ t=some (tb,σ2)→(tb=false→(Fl.next,env,σ2)=r)→(tb=true→WhB l t body k env σ2 r)→WhC l t body k env σ r
theorem whileL_succ {l:Lv} {t:X} {body:List S} {k:Nat} {r:Fl × Env' × Sto} (h:whileL l t body (k+1) env σ=some r):WhC l t body k env σ r:=by
 obtain ⟨tb,σ2,h1,h⟩:=bp h
 refine ⟨tb,σ2,h1,fun e=>?_,fun e=>?_⟩
 ·subst e; exact so1 h
 ·subst e
  obtain ⟨f1,⟨env2,σ3⟩,h3,h⟩:=bp h
  exact ⟨f1,env2,σ3,h3,fun e=>by subst e; exact h,fun v e=>by subst e; exact so1 h⟩
inductive WhI (prog:Program) (w:World) (b:Heap) (F:Addr→Prop) (sc:Scope) (renv:Env) (s:Shared) (ad:Adr) (l:Lv) (t:X) (body:List S) (r:Fl × Env' × Sto) (k:Nat) (s1:Shared):Prop
 | mk (ad1:Adr) (env1:Env') (σ1:Sto):MvS (Own renv) s ad s1 ad1→SR prog w b F s1.heap ad1 σ1→FR prog w b s1.heap ad1 F sc renv env1→whileL l t body k env1 σ1=some r→WhI prog w b F sc renv s ad l t body r k s1
theorem sd_whl {l:Lv} {n:Nat} (it:Tst prog w b l n) (sd:Sd prog w b l n) {t:X} {body:List S} {x:PySem.Expr} {y:List Stmt} {p:Pos} {fl:Fl} {env':Env'} {σ':Sto} (hx:Enc sc t x) (hy:EncSs sc body y)
  (he:evS1 l env σ (.whl t body)=some (fl,env',σ')) (hA:Room A n) (hF:FR prog w b s.heap ad F sc renv env) (hS:SR prog w b F s.heap ad σ) :
  wpAny (model prog w) A (exec (.While x y [] p) renv) (SP prog w b F s ad sc renv fl env' σ') E s:=by
 obtain ⟨I,hI⟩:∃ I:Nat→Shared→Prop,∀ k s1,I k s1 ↔ WhI prog w b F sc renv s ad l t body (fl,env',σ') k s1:=⟨_,fun _ _=>Iff.rfl⟩
 refine wpAny_While (codeAny_whileLoop I ?_ 100 ((hI _ _).mpr ⟨ad,env,σ,MvS.refl,hS,hF,he⟩))
 intro k s1 g1
 refine hide fun no=>?_
 obtain ⟨ad1,env1,σ1,m1,S1,F1,he1⟩:=(hI _ _).mp g1
 clear g1 he hS
 rcases k with _ | k
 ·exact nos he1
 ·obtain ⟨tb,σ2,h1,h2,h3⟩:=whileL_succ he1
  clear he1
  refine no (wpAny_mono (it _ _ _ hx _ _ _ _ h1 _ _ _ _ _ _ hA F1 S1) (fun c s2 g=>?_) fun _ _ z=>z)
  obtain ⟨ec,ad2,m2,S2⟩:=g
  have F2:=F1.mv S1 m2
  have M2:=m1.trans (F1.toS S1 m2)
  clear m1 m2 S1 no
  induction c using Bool.casesOn with
  | false =>
   have e:=Prod.mk.inj (h2 ec.symm)
   have e':=Prod.mk.inj e.2
   exact wpAny_execs_nil ⟨ad2,M2,e'.2 ▸ S2,e'.1 ▸ F2,e.1 ▸ .next⟩
  | true =>
   obtain ⟨f1,env2,σ3,h3,h4,h5⟩:=h3 ec.symm
   refine wpAny_mono (sd _ _ _ hy _ _ _ _ _ h3 _ _ _ _ _ _ hA F2 S2) (fun f s3 g=>?_) fun _ _ z=>z
   refine hide fun no=>?_
   obtain ⟨ad3,m3,S3,F3,fr⟩:=g
   refine fr.elim (fun e1 e2=>no ?_) fun v d e1 e2 rd=>no ?_
   ·subst e1
    exact ⟨k,Nat.lt_succ_self _,(hI _ _).mpr ⟨ad3,env2,σ3,M2.trans m3,S3,F3,h4 e2⟩⟩
   ·subst e1
    have e:=Prod.mk.inj (h5 d e2)
    have e':=Prod.mk.inj e.2
    exact ⟨ad3,M2.trans m3,e'.2 ▸ S3,e'.1 ▸ F3,e.1 ▸ .ret rd⟩
theorem sd_ret {l:Lv} {n:Nat} (ih:Ev prog w b l n) {x:X} {e:PySem.Expr} {p:Pos} {fl:Fl} {env':Env'} {σ':Sto} (hx:Enc sc x e)
  (he:evS1 l env σ (.ret x)=some (fl,env',σ')) (hA:Room A n) (hF:FR prog w b s.heap ad F sc renv env) (hS:SR prog w b F s.heap ad σ) :
  wpAny (model prog w) A (exec (.Return (some e) p) renv) (SP prog w b F s ad sc renv fl env' σ') E s:=by
 obtain ⟨d,σ1,h1,h2⟩:=mpp he
 cases h2
 refine wpAny_Return_some (wpAny_mono (ih.d hx h1 hA hF hS) (fun rv s1 g=>?_) fun _ _ z=>z)
 obtain ⟨ad1,m1,S1,r1⟩:=g
 exact ⟨ad1,hF.toS hS m1,S1,hF.mv hS m1,.ret r1⟩
theorem none_of {d:D} {u:Unit} (h:(match d with | .none=>some () | _=>none)=some u):d=.none:=by
 induction d using D.casesOn with
 | none=>rfl
 | _=>exact nos h
theorem sd_expr {l:Lv} {n:Nat} (ih:Ev prog w b l n) {x:X} {f:PySem.Expr} {es:List PySem.Expr} {ks:List Keyword} {p q:Pos} {fl:Fl} {env':Env'} {σ':Sto} (hx:Enc sc x (.Call f es ks q))
  (he:evS1 l env σ (.expr x)=some (fl,env',σ')) (hA:Room A n) (hF:FR prog w b s.heap ad F sc renv env) (hS:SR prog w b F s.heap ad σ) :
  wpAny (model prog w) A (exec (.Expr (.Call f es ks q) p) renv) (SP prog w b F s ad sc renv fl env' σ') E s:=by
 obtain ⟨d,σ1,h1,h2⟩:=bp he
 obtain ⟨u,h3,h4⟩:=md h2
 cases h4
 refine wpAny_Expr (wpAny_mono (ih.d hx h1 hA hF hS) (fun rv s1 g=>?_) fun _ _ z=>z) (by unfold interactive; rw [hF.kind]; rfl) rfl
 obtain ⟨ad1,m1,S1,r1⟩:=g
 have e0:d=.none:=none_of h3
 obtain rfl:=(e0 ▸ r1).noneI
 exact ⟨ad1,hF.toS hS m1,S1,hF.mv hS m1,.next⟩
end
inductive FnOk (mg:Str→Option Value) (b:Heap) (g:Fn):Prop
 | mk (o:Obj) (fd:FuncData) (body:List Stmt):b.get? g.addr=some o→o.data=.func fd→b.CodeRec fd.code fd.qualname→fd.body=.stmts body→fd.closure=[]→fd.scope.isCoroutine=false→fd.scope.isGenerator=false →
  fd.scope.kind=.function→fd.globals=mainGlobals→fd.builtins=builtinsNs→EncSs fd.scope g.body body→(∀ vals:List Value,vals.length=g.params.length→bindArgs fd ⟨vals,[]⟩=pure ((g.params.map nm).zip vals)) →
  (∀ i ∈ g.params,storeB fd.scope (nm i)=true)→g.params.Nodup→FnOk mg b g
section
variable {prog:Program} {w:World} {K:Frag} {mg mb:Str→Option Value} {b:Heap}
variable {h h':Heap} {F W fp:Addr→Prop} {ad ad' ad'' ad0:Adr} {σ σ' σ0:Sto} {s s' s'' s0:Shared} {A:Around} {E:Value→Shared→Prop} {sc scope:Scope} {renv:Env} {env:Env'} {L:Addr} {O:Addr→Prop}
noncomputable def Cd (prog:Program) (w:World) (b:Heap) (l:Lv) (n:Nat):Prop:=∀ f g vs σ d σ',fns[f]?=some g→l.c f vs σ=some (d,σ') →
 ∀ (A:Around) (s:Shared) (ad:Adr) (F:Addr→Prop) (L:Addr) (R:Result→Shared→Prop) (vals:List Value),Room A n→F L→b.objs.size≤s.heap.objs.size→SR prog w b F s.heap ad σ→VRs prog w s.heap ad F vals vs →
 (∀ rv s',DP prog w b F L s ad σ' d rv s'→R (.ok (.ret rv)) s')→codeAny (model prog w) A (.call (.ref g.addr) ⟨vals,[]⟩) R s
theorem bindL_out {kindOf:Str→Option NameKind}:∀ (binds:List (Str × Value)) (m:Str→Option Value) {x:Str},(∀ p ∈ binds,p.1 ≠ x)→bindL kindOf binds m x=m x:=by
 intro binds
 induction binds with
 | nil=>intro m x _; rfl
 | cons p r ih =>
  intro m x hx
  unfold bindL
  rw [ih _ fun q hq=>hx q (.tail _ hq)]
  split
  ·show (if x=p.1 then some p.2 else m x)=m x
   rw [if_neg (fun z=>hx p (.head _) z.symm)]
  ·rfl
theorem bindC_out {kindOf:Str→Option NameKind}:∀ (binds:List (Str × Value)) (m:Str→Option Value) {x:Str},(∀ p ∈ binds,p.1 ≠ x)→bindC kindOf binds m x=m x:=by
 intro binds
 induction binds with
 | nil=>intro m x _; rfl
 | cons p r ih =>
  intro m x hx
  unfold bindC
  rw [ih _ fun q hq=>hx q (.tail _ hq)]
  split
  ·rfl
  ·show (if x=p.1 then some p.2 else m x)=m x
   rw [if_neg (fun z=>hx p (.head _) z.symm)]
theorem bindL_in {kindOf:Str→Option NameKind}:∀ (binds:List (Str × Value)) (m:Str→Option Value) {x:Str} {v:Value},(binds.map (·.1)).Nodup→(x,v) ∈ binds→kindOf x=some .local→bindL kindOf binds m x=some v:=by
 intro binds
 induction binds with
 | nil=>intro m x v _ h; cases h
 | cons p r ih =>
  intro m x v hn hm hk
  rw [List.map_cons,List.nodup_cons] at hn
  unfold bindL
  rcases List.mem_cons.mp hm with rfl | hm
  ·rw [bindL_out _ _ fun q hq z=>hn.1 (List.mem_map.mpr ⟨q,hq,z⟩),if_pos hk]
   simp
  ·exact ih _ hn.2 hm hk
theorem bindC_in {kindOf:Str→Option NameKind}:∀ (binds:List (Str × Value)) (m:Str→Option Value) {x:Str} {v:Value},(binds.map (·.1)).Nodup→(x,v) ∈ binds→kindOf x ≠ some .local→bindC kindOf binds m x=some v:=by
 intro binds
 induction binds with
 | nil=>intro m x v _ h; cases h
 | cons p r ih =>
  intro m x v hn hm hk
  rw [List.map_cons,List.nodup_cons] at hn
  unfold bindC
  rcases List.mem_cons.mp hm with rfl | hm
  ·rw [bindC_out _ _ fun q hq z=>hn.1 (List.mem_map.mpr ⟨q,hq,z⟩),if_neg hk]
   simp
  ·exact ih _ hn.2 hm hk
theorem cells_some {x:Str}:∀ (names:List (Str × NameKind)) (n:Nat) (acc:List (Str × Addr)),((x,NameKind.cell) ∈ names ∨ (acc.lookup x).isSome=true)→((cellsFrom n names acc).lookup x).isSome=true:=by
 intro names
 induction names with
 | nil=>intro n acc h; exact h.resolve_left (fun z=>nomatch z)
 | cons p r ih =>
  intro n acc h
  obtain ⟨y,k⟩:=p
  unfold cellsFrom
  by_cases hk:k=.cell
  ·subst hk
   rw [if_pos (by decide)]
   refine ih _ _ ?_
   rcases h with h | h
   ·rcases List.mem_cons.mp h with h | h
    ·cases h; right; rw [List.lookup_cons]; simp
    ·exact .inl h
   ·right
    rw [List.lookup_cons]
    by_cases hx:x=y
    ·subst hx; simp
    ·rw [beq_false_of_ne hx]; exact h
  ·rw [if_neg (by rw [beq_iff_eq]; exact hk)]
   refine ih _ _ ?_
   rcases h with h | h
   ·rcases List.mem_cons.mp h with h | h
    ·obtain ⟨rfl,rfl⟩:=pj h; exact absurd rfl hk
    ·exact .inl h
   ·exact .inr h
theorem VRs.take {ad1:Adr} {k:Nat} (hM:∀ a o,¬ Mt ad F a→h.get? a=some o→h.get? a=some o∧¬ Mt ad1 F a) (hl:∀ n,n < k→ad1[n]?=ad[n]?) {vs:List Value} {ds:List V} (x:VRs prog w h ad F vs ds) :
  ds.all (fun v=>(match v with | .loc m=>decide (m < k) | .d _=>true))=true→VRs prog w h ad1 F vs ds:=by
 induction x with
 | nil=>intro _; exact .nil
 | cons e _ ih =>
  intro hv
  rw [List.all_cons,Bool.and_eq_true] at hv
  refine .cons ?_ (ih hv.2)
  induction e using VR.casesOn with
  | d r=>exact .d (r.mono hM)
  | loc e l=>exact .loc ((hl _ (of_decide_eq_true hv.1)).trans e) l
theorem lookup_memN {α:Type} {i:Nat} {v:α}:∀ {l:List (Nat × α)},l.lookup i=some v→(i,v) ∈ l:=by
 intro l
 induction l with
 | nil=>intro h; exact nos h
 | cons p r ih =>
  intro h
  rw [List.lookup_cons] at h
  by_cases hx:i=p.1
  ·subst hx; simp at h; subst h; exact .head _
  ·rw [beq_false_of_ne hx] at h; exact .tail _ (ih h)
theorem CRs.take {ad1:Adr} {k:Nat} (hM:∀ a o,¬ Mt ad F a→h.get? a=some o→h.get? a=some o∧¬ Mt ad1 F a) (hl:∀ n,n < k→ad1[n]?=ad[n]?):∀ {ls:Adr} {σ:Sto},CRs prog w h ad F ls σ→∀ j,((σ.take j).all (cellLow k))=true→CRs prog w h ad1 F (ls.take j) (σ.take j):=by
 intro ls σ x
 induction x with
 | nil=>intro j _; simp; exact .nil
 | cons q r ih =>
  intro j hc
  cases j with
  | zero=>exact .nil
  | succ j =>
   rw [List.take_succ_cons,List.all_cons,Bool.and_eq_true] at hc
   rw [List.take_succ_cons,List.take_succ_cons]
   refine .cons ?_ (ih j hc.2)
   induction q using CR.casesOn with
   | gone=>exact .gone
   | tab e=>exact .tab e
   | lst e r=>exact .lst e (r.mono hM)
   | dct e d z k r=>exact .dct e d z k (r.mono hM)
   | obj c e d kk r =>
    exact .obj c e d kk (r.take hM hl hc.1)
theorem sub_take {ad:Adr} {k:Nat}:(ad.take k).flatten.Sublist ad.flatten:=by
 induction ad generalizing k with
 | nil=>simp
 | cons x r ih =>
  cases k with
  | zero=>simp
  | succ k=>simpa using List.Sublist.append_left ih x
theorem SR.cut (S:SR prog w b F h ad σ) {k:Nat} (hlow:(σ.take k).all (cellLow k)=true):SR prog w b F h (ad.take k) (σ.take k) :=
 have hsub:∀ a,inAd (ad.take k) a→inAd ad a:=fun a ⟨l,hl,ha⟩=>⟨l,List.mem_of_mem_take hl,ha⟩
 ⟨S.keep,S.nodup.sublist sub_take,fun a q=>S.off a (hsub a q),S.offF,S.live,S.cells.take (fun a o m e=>⟨e,fun q=>m (q.imp (hsub a) id)⟩) (fun n q=>List.getElem?_take_of_lt q) _ hlow⟩
theorem DR.cut {v:Value} {d:D} (r:DR prog w h (Mt ad F) v d) (k:Nat):DR prog w h (Mt (ad.take k) F) v d:=r.mono fun a o m e=>⟨e,fun q=>m (q.imp (fun ⟨l,hl,ha⟩=>⟨l,List.mem_of_mem_take hl,ha⟩) id)⟩
theorem call_mv {hh:Heap} {tk:Nat} {s2:Shared} {ad2:Adr} (hFL:¬ inAd ad L) (hW:∀ a,O a→s.heap.get? a=none) (hk:∀ a o,s.heap.get? a=some o→hh.get? a=some o) (m2:MvS O { s with heap:=hh,toks:=tk } ad s2 ad2):Mv L s ad s2 (ad2.take ad.length):=by
 obtain ⟨h2,t2,u2,e2⟩:=m2.rest
 have old:∀ a o,¬ inAd ad a→s.heap.get? a=some o→s2.heap.get? a=some o:=fun a o m e=>m2.old a o m (fun q=>nsm (hW a q) e) (hk a o e)
 refine ⟨⟨h2,t2,u2,e2⟩,fun a o m _ e=>old a o m e,fun m ⟨o,es,ep,e,r⟩=>⟨o,es,ep,old _ _ hFL e,r⟩,fun q=>isk q fun o z=>old _ _ hFL z,fun a ⟨l,hl,ha⟩=>?_,fun n l e=>?_⟩
 ·refine (m2.new a ⟨l,List.mem_of_mem_take hl,ha⟩).imp id fun q=>?_
  cases z:s.heap.get? a with
  | none=>rfl
  | some o=>exact nsm q (hk a o z)
 ·exact (List.getElem?_take_of_lt (List.getElem?_eq_some_iff.mp e).1:(ad2.take ad.length)[n]?=_) ▸ m2.loc n l e
theorem zip_in {i:Nat} {v:V}:∀ {is:List Nat} {vals:List Value} {vs:List V},VRs prog w h ad F vals vs→(i,v) ∈ is.zip vs→∃ rv,(nm i,rv) ∈ (is.map nm).zip vals∧VR prog w h ad F rv v∧i ∈ is:=by
 intro is
 induction is with
 | nil=>intro vals vs _ h; cases h
 | cons j r ih =>
  intro vals vs hv h
  cases hv with
  | nil=>cases h
  | cons h1 h2 =>
   rcases List.mem_cons.mp h with h | h
   ·obtain ⟨rfl,rfl⟩:=pj h; exact ⟨_,.head _,h1,.head _⟩
   ·obtain ⟨rv,a1,a2,a3⟩:=ih h2 h
    exact ⟨rv,.tail _ a1,a2,.tail _ a3⟩
theorem call_fr {ce:Env} {s1:Shared} {fsc:Scope} {is:List Nat} {vals:List Value} {vs:List V} {N:Nat} (hN:ce.locals=N) (hceK:∀ y,ce.kindOf y=fsc.names.lookup y) (hceC:ce.cells=cellsFrom (N+1) fsc.names []) (hk:ce.scope.kind=.function) (hglb:ce.globals=mainGlobals) (hbi:ce.builtins=builtinsNs)
  (hb:b.objs.size≤N) (hkind:∀ x ∈ (is.map nm).zip vals,fsc.names.lookup x.1=some .local ∨ (fsc.names.lookup x.1=some .cell∧((cellsFrom (N+1) fsc.names []).lookup x.1).isSome=true)) (hnames:(((is.map nm).zip vals).map (·.1)).Nodup)
  (x:InCallC s ce.locals (bindL ce.kindOf ((is.map nm).zip vals) fun _=>none) ce.cells (bindC ce.kindOf ((is.map nm).zip vals) fun _=>none) s1) (hl:s.heap.objs.size=N) (V1:VRs prog w s1.heap ad (fun a=>F a ∨ Own ce a) vals vs) :
  FR prog w b s1.heap ad (fun a=>F a ∨ Own ce a) fsc ce ((is.zip vs).reverse):=by
 refine ⟨hk,hglb,hbi,fun y k q _=>(hceK y).trans q,⟨_,x.toInCall.ns,fun i v e=>?_⟩,fun y hy=>?_,.inr (.inl rfl),hN ▸ hb,
  fun y c q=>⟨.inr (.inr ⟨y,q⟩),fun z=>?_⟩,fun y z c q1 q2=>PySem.name_of_addr x.apart (PySem.mem_of_lookup q1) (PySem.mem_of_lookup q2)⟩
 ·obtain ⟨rv,hm,hr,hi⟩:=zip_in V1 (List.mem_reverse.mp (lookup_memN e))
  rcases hkind _ hm with q | ⟨q,q2⟩
  ·exact .inl ⟨(hceK _).trans q,rv,bindL_in _ _ hnames hm ((hceK _).trans q),hr⟩
  ·obtain ⟨c,hc⟩:=Option.isSome_iff_exists.mp q2
   have hc:=hceC ▸ hc
   exact .inr ⟨(hceK _).trans q,c,rv,hc,bindC_in (kindOf:=ce.kindOf) _ (fun _=>none) hnames hm (by rw [hceK,q]; decide) ▸ x.cell (nm i) c hc,hr⟩
 ·obtain ⟨c,hc⟩:=Option.isSome_iff_exists.mp (cells_some fsc.names (N+1) [] (.inl (lookup_mem ((hceK y).symm.trans hy))))
  have hc:=hceC ▸ hc
  exact ⟨c,_,hc,x.cell y c hc⟩
 ·exact Nat.lt_irrefl _ (z ▸ x.above y c (PySem.mem_of_lookup q))
inductive EvCI (l:Lv) (g:Fn) (vs:List V) (σ:Sto) (d:D) (σ':Sto):Prop
 | mk (fl:Fl) (env1:Env') (σ1:Sto):g.params.length=vs.length→l.s ((g.params.zip vs).reverse) σ g.body=some (fl,env1,σ1)→(σ1.take σ.length).all (cellLow σ.length)=true→flD fl=d→σ1.take σ.length=σ'→EvCI l g vs σ d σ'
theorem evC_inv {l:Lv} {f:Nat} {g:Fn} {vs:List V} {d:D} (hg:fns[f]?=some g) (h:evC fns l f vs σ=some (d,σ')):EvCI l g vs σ d σ':=by
 obtain ⟨g',e1,h⟩:=bd h
 obtain rfl:=so1 (e1.symm.trans hg)
 obtain ⟨hlen,h⟩:=if_some h
 obtain ⟨fl,⟨env1,σ1⟩,h1,h2⟩:=bp h
 obtain ⟨h7,h8⟩:=if_some h2
 exact ⟨fl,env1,σ1,hlen,h1,h7,(so2 h8).1,(so2 h8).2⟩
theorem cd_step {n:Nat} (G:Gd prog w K mg mb b) (hfn:∀ g ∈ fns,FnOk mg b g) (sd:Sd prog w b (lv fns clss n) n):Cd prog w b (lv fns clss (n+1)) (n+1):=by
 intro f g vs σ d σ' hg he A s ad F L R vals hA hFL hbs hS hv hR
 obtain ⟨fl,env1,σ1,hlen,h1,hlow,ed,eσ⟩:=evC_inv hg he
 obtain ⟨o,fd,body,ho,hd,hcr,hbody,hclo,hco,hgen,hk,hglb,hbi,henc,hbind,hpar,hnd⟩:=hfn g (List.mem_of_getElem? hg)
 have hvl:vals.length=g.params.length:=hv.length.trans hlen.symm
 have hnames:(((g.params.map nm).zip vals).map (·.1)).Nodup:=by
  rw [List.map_fst_zip (by rw [List.length_map,hvl]; exact Nat.le_refl _),List.nodup_iff_pairwise_ne,List.pairwise_map]
  exact (List.nodup_iff_pairwise_ne.mp hnd).imp fun hne z=>hne (G.inj _ _ z)
 have hkind:∀ x ∈ (g.params.map nm).zip vals,fd.scope.names.lookup x.1=some .local ∨ (fd.scope.names.lookup x.1=some .cell∧((cellsFrom (s.heap.objs.size+1) fd.scope.names []).lookup x.1).isSome=true):=fun x hx=>by
  obtain ⟨i,hi,hix⟩:=List.mem_map.mp (List.of_mem_zip hx).1
  have:=hpar i hi
  rw [hix] at this
  exact ((Bool.or_eq_true_iff.mp this).imp eq_of_beq fun q=>⟨eq_of_beq q,cells_some _ _ _ (.inl (lookup_mem (eq_of_beq q)))⟩)
 refine codeAny_call_cells (adl hA.2.1) (hS.keep _ _ ho) hd (G.nolimit.keeps hS.keep) (hcr.keeps hS.keep) hbody (hbind vals hvl) hclo hkind (fun s1 x=>?_) hco hgen hk
 generalize hce:callEnvC fd s.heap.objs.size g.addr=ce at x ⊢
 have hceL:ce.locals=s.heap.objs.size:=hce ▸ rfl
 obtain ⟨hh,tk,rfl⟩:=x.toInCall.same
 have hkeep:∀ a o,s.heap.get? a=some o→hh.get? a=some o:=x.toInCall.keep
 have hW:∀ a,Own ce a→s.heap.get? a=none:=fun a q=>by
  rcases q with q | ⟨y,q⟩
  ·exact Heap.get?_none_of_le (Nat.le_of_eq (q.trans hceL).symm)
  ·exact Heap.get?_none_of_le (Nat.le_of_lt (hceL ▸ x.above y a (PySem.mem_of_lookup q)))
 have hlive:∀ a,Own ce a→(hh.get? a).isSome=true:=fun a q=>by
  rcases q with q | ⟨y,q⟩
  ·exact q ▸ ns_some x.toInCall.ns
  ·exact IsCell.some (x.cell y a q)
 have V1:VRs prog w hh ad (fun a=>F a ∨ Own ce a) vals vs:=VRs.grow hkeep (VRs.aside hW hv)
 have FR1:=call_fr (s1:={ s with heap:=hh,toks:=tk }) hceL (hce ▸ fun _=>rfl) (hce ▸ rfl) (hce ▸ hk) (hce ▸ hglb) (hce ▸ hbi) hbs hkind hnames x rfl V1
 have hA':Room (A.deeper ce) n:=⟨hA.1,rmd hA.2.1,rmu hA.2.2⟩
 refine wpAny_mono (sd _ _ _ henc _ _ _ _ _ h1 _ { s with heap:=hh,toks:=tk } ad _ ce _ hA' FR1 (hS.aside hW hkeep hlive)) (fun fo s2 z=>?_) fun _ _ z=>z
 refine hide fun no=>?_
 obtain ⟨ad2,m2,S2,F2,fr⟩:=z
 have hal:ad.length=σ.length:=hS.cells.length
 have S4:=(S2.drop (fun a q z=>nl (hW a z) (hS.live a q)) fun _ _ _ e=>e).cut hlow
 have M4:=call_mv (fun q=>(hS.off _ q).1 hFL) hW hkeep m2
 rw [hal] at M4
 have fin:∀ rv,DR prog w s2.heap (Mt ad2 fun a=>F a ∨ Own ce a) rv (flD fl)→R (.ok (.ret rv)) s2:=fun rv r=>hR _ _ ⟨_,M4,eσ ▸ S4,ed ▸ r.drop.cut _⟩
 refine fr.elim (fun e1 e2=>no ?_) fun v d e1 e2 r=>no ?_
 ·subst e1; exact fin _ (e2 ▸ .none)
 ·subst e1; exact fin _ (e2 ▸ r)
end
structure Fd (K:Frag) (mg:Str→Option Value) (b:Heap):Prop where
 fn:∀ g ∈ fns,FnOk mg b g
 name:∀ g ∈ fns,methName g.name=false→mg g.name=some (.ref g.addr)
 cname:∀ k ∈ clss,mg k.name=some (.ref k.addr)
 cin:∀ k ∈ clss,k.addr ∈ clsA
 keep:∀ k ∈ clss,keepIn K (.ref k.addr)=true
 makes:∀ k ∈ clss,makesIn K k.addr=true
 init:∀ k ∈ clss,∃ g,fns[k.init]?=some g∧findIn K (.ref k.addr) (Str.ofString "__init__")=some (some (.ref g.addr))∧typeIn K (.ref g.addr)=some (.type "function")
 turns:findIn K (.ref 187) (Str.ofString "turns")=some (some (.ref 153))∧isFn K (.ref 153)=true∧∃ o fd,K.lookup 153=some o∧o.data=.func fd
section
variable {prog:Program} {w:World} {K:Frag} {mg mb:Str→Option Value} {b:Heap}
variable {h h':Heap} {F W fp:Addr→Prop} {ad ad' ad'' ad0:Adr} {σ σ' σ0:Sto} {s s' s'' s0:Shared} {A:Around} {E:Value→Shared→Prop} {sc scope:Scope} {renv:Env} {env:Env'} {L:Addr} {O:Addr→Prop}
theorem FnOk.func {g:Fn} (x:FnOk mg b g):∃ o fd,b.get? g.addr=some o∧o.data=.func fd:=by
 obtain ⟨o,fd,body,ho,hd,_⟩:=x
 exact ⟨o,fd,ho,hd⟩
theorem FR.base (hF:FR prog w b s.heap ad F sc renv env) (hS:SR prog w b F s.heap ad σ):b.objs.size≤s.heap.objs.size:=by
 have:=hS.live _ hF.ownL
 cases z:s.heap.get? renv.locals with
 | none=>rw [z] at this; exact fls this
 | some o=>exact Nat.le_trans hF.above (Nat.le_of_lt (Heap.lt_size z))
theorem ev_call {l:Lv} {n:Nat} (G:Gd prog w K mg mb b) (Y:Fd K mg b) (ih:Ev prog w b l n) (cd:Cd prog w b l n) {f:Nat} {g:Fn} {xs:List X} {es:List PySem.Expr} {p q:Pos} {v:V} (hg:fns[f]?=some g) (hm:methName g.name=false) (hb:globB sc g.name=true) (hx:EncL sc xs es)
  (he:evE l env σ (.call f xs)=some (v,σ')) (hA:Room A n) (hF:FR prog w b s.heap ad F sc renv env) (hS:SR prog w b F s.heap ad σ) :
  wpAny (model prog w) A (eval (.Call (.Name g.name q) es [] p) renv) (EP prog w b F renv.locals s ad σ' v) E s:=by
 obtain ⟨vs,σ1,h1,he⟩:=bp he
 obtain ⟨d,σ2,h3,he⟩:=mpp he
 have hgm:=List.mem_of_getElem? hg
 obtain ⟨o,fd,ho,hd⟩:=(Y.fn g hgm).func
 refine Call_Name (trees:=backTo p (starEach es renv)) rfl (Calls.Name_function_global hF.kind (hF.glob _ hb) (Calls.loadGlobal_global (mg:=mg) (hF.glb ▸ G.g.keeps hS.keep) (Y.name g hgm hm) ?_) (by
  have:=hb; unfold globB at this; simp only [Bool.and_eq_true,Bool.not_eq_true'] at this; exact this.2))
 refine cw_func (encL_plain hx renv) hd (wpAny_mono (ev_args ih hx h1 hA hF hS) (fun vals s1 z=>?_) fun _ _ z=>z)
 obtain ⟨ad1,m1,S1,r1⟩:=z
 have F1:=hF.mv hS m1
 refine ⟨S1.keep _ _ ho,wpAny_call (cd f g vs _ _ _ hg h3 A s1 ad1 F renv.locals _ vals hA hF.ownL (F1.base S1) S1 r1 fun rv s2 z=>?_)⟩
 exact (pj he).1 ▸ (pj he).2 ▸ EP.of_data (z.after m1)
theorem keys_none {x:Str}:∀ {es:List DictEntry} {ks:List Str},KeysAre es ks→ks.contains x=false→getL x es=some none:=by
 intro es ks k hc
 have:es.find? (·.key.isStr x)=none:=by
  induction es generalizing ks with
  | nil=>rfl
  | cons e es ih =>
   rcases ks with _ | ⟨k0,ks⟩
   ·exact k.elim
   ·obtain ⟨⟨t,hk⟩,k2⟩:=k
    rw [List.contains_cons,Bool.or_eq_false_iff] at hc
    rw [List.find?_cons,hk,isStr_ne (beq_eq_false_iff_ne.mp hc.1)]
    exact ih k2 hc.2
 have hs:=keys_some (x:=x) k
 unfold getL at hs ⊢
 rw [this] at hs ⊢
 dsimp only at hs ⊢
 split
 ·rename_i hq
  rw [if_pos hq] at hs
  exact fls hs
 ·rfl
inductive MethI (l:Lv) (env:Env') (σ:Sto) (o:X) (f:Nat) (xs:List X) (v:V) (σ':Sto):Prop
 | mk (ks:List Str) (ds:List D) (σ0:Sto) (vs:List V) (σ1:Sto) (d:D):evD l env σ o=some (.obj 187 ks ds,σ0)→ks.contains (Str.ofString "turns")=false→evs l env σ0 xs=some (vs,σ1)→l.c f (.d (.obj 187 ks ds)::vs) σ1=some (d,σ')→V.d d=v→MethI l env σ o f xs v σ'
theorem meth_inv {l:Lv} {o:X} {sn:Str} {f:Nat} {xs:List X} {v:V} (he:evE l env σ (.meth o sn f xs)=some (v,σ')):MethI l env σ o f xs v σ':=by
 obtain ⟨dO,σ0,h0,he⟩:=bp he
 obtain ⟨u,h01,he⟩:=bd he
 obtain ⟨vs,σ1,h1,he⟩:=bp he
 obtain ⟨d,σ2,h3,h9⟩:=mpp he
 clear he
 induction dO using D.casesOn with
 | obj c ks ds =>
  obtain ⟨e1,e2⟩:=Bool.and_eq_true_iff.mp (lim_some h01).1
  obtain rfl:=of_decide_eq_true e1
  exact ⟨ks,ds,σ0,vs,σ1,d,h0,(Bool.not_eq_true' _).mp e2,h1,(pj h9).2 ▸ h3,(pj h9).1⟩
 | _=>exact nos h01
theorem ev_meth {l:Lv} {n:Nat} (G:Gd prog w K mg mb b) (Y:Fd K mg b) (ih:Ev prog w b l n) (cd:Cd prog w b l n) {f:Nat} {g:Fn} {o:X} {x:PySem.Expr} {xs:List X} {es:List PySem.Expr} {p q:Pos} {v:V} (hg:fns[f]?=some g) (hga:g.addr=153) (hc:notCall x=true) (hxo:Enc sc o x) (hx:EncL sc xs es) (hlen:xs.length≤20) (hl:(q.endLine == p.line)=true) {sn:Str}
  (he:evE l env σ (.meth o sn f xs)=some (v,σ')) (hA:Room A n) (hF:FR prog w b s.heap ad F sc renv env) (hS:SR prog w b F s.heap ad σ) :
  wpAny (model prog w) A (eval (.Call (.Attribute x (Str.ofString "turns") q) es [] p) renv) (EP prog w b F renv.locals s ad σ' v) E s:=by
 obtain ⟨ks,ds,σ0,vs,σ1,d,h0,hnk,h1,h3,ev⟩:=meth_inv he
 have hgm:=List.mem_of_getElem? hg
 obtain ⟨of,fd,ho,hd⟩:=(Y.fn g hgm).func
 have hp:=encL_plain hx renv
 rw [arm_eval_Call,base_of hc]
 refine wpAny_bind (wpAny_mono (ih.d hxo h0 hA hF hS) (fun ov s1 z=>?_) fun _ _ z=>z)
 obtain ⟨ad1,m1,S1,r1⟩:=z
 have F1:=hF.mv hS m1
 obtain ⟨m,hn,Fb⟩:=F1.fr S1
 obtain ⟨a,dx,es',nn,rfl,hcl,e1,e2,hm1,hm2,hk,hr⟩:=r1.objI
 refine wpAny_bind (wpAny_standAt ?_)
 have hform:methodCallForm (es.length+([]:List Keyword).length) (backTo p (starEach es renv)) (backToKw p (keywordEach [] renv))=true:=by
  unfold methodCallForm
  rw [hp.all]
  have:=encL_len hx
  rw [show keywordEach [] renv=[] from rfl]
  simp [backToKw]
  exact lwt (Nat.le_trans (Nat.le_of_eq this) hlen)
 have hpos:methodCallPos true x renv q p=pure p:=by unfold methodCallPos; simp [hl]
 unfold methodCall
 rw [hform]
 refine wpAny_bind (wpAny_holding (method_inst Fb G.X (ox:=instObj 187 dx) ⟨e1,rfl,rfl,e2⟩ (G.atGet _ hcl _) Y.turns.1 Y.turns.2.1 (keys_none hk hnk) ?_))
 refine wpAny_bind (wpAny_of_eq hpos ?_)
 have:=cw_func (A:=A) (E:=E) (s:=s1) hp (p:=p) (a:=g.addr) hd (first:=[.ref a]) (M:=model prog w) (Q:=EP prog w b F renv.locals s ad σ' v) (wpAny_mono (ev_args ih hx h1 hA F1 S1) (fun vals s2 z=>?_) fun _ _ z=>z)
 ·rw [hga] at this
  exact this
 ·obtain ⟨ad2,m2,S2,r2⟩:=z
  have F2:=F1.mv S1 m2
  refine ⟨S2.keep _ _ ho,wpAny_call (cd f g _ _ _ _ hg h3 A s2 ad2 F renv.locals _ _ hA hF.ownL (F2.base S2) S2 (.cons (.d (r1.mv hF.ownL m2)) r2) fun rv s3 z=>?_)⟩
  exact ev ▸ EP.of_data (z.after (m1.trans m2))
end
section
variable {prog:Program} {w:World} {K:Frag} {mg mb:Str→Option Value} {b:Heap}
variable {h h':Heap} {F W fp:Addr→Prop} {ad ad' ad'' ad0:Adr} {σ σ' σ0:Sto} {s s' s'' s0:Shared} {A:Around} {E:Value→Shared→Prop} {sc scope:Scope} {renv:Env} {env:Env'} {L:Addr} {O:Addr→Prop}
noncomputable def Nd (prog:Program) (w:World) (b:Heap) (l:Lv) (n:Nat):Prop:=∀ c k vs σ d σ',clss[c]?=some k→l.n c vs σ=some (d,σ') →
 ∀ (A:Around) (s:Shared) (ad:Adr) (F:Addr→Prop) (L:Addr) (m:Str→Option Value) (R:Result→Shared→Prop) (vals:List Value),Room A n→F L→Fr b L s.heap m→SR prog w b F s.heap ad σ→VRs prog w s.heap ad F vals vs →
 (∀ rv s',DP prog w b F L s ad σ' d rv s'→R (.ok (.ret rv)) s')→codeAny (model prog w) A (.call (.ref k.addr) ⟨vals,[]⟩) R s
theorem sto_add {t:Nat} {l:List Addr} {c:Cell} {m:Str→Option Value} (hL:F L) (hS:SR prog w b F s.heap ad σ) (hm:s.heap.Ns L m) (hm':h'.Ns L m) (hk:∀ a o,a ≠ L→s.heap.get? a=some o→h'.get? a=some o)
  (hl:∀ a ∈ l,s.heap.get? a=none) (hnd:l.Nodup) (hc:CR prog w h' (ad++[l]) F l c):Mv L s ad { s with heap:=h',toks:=t } (ad++[l])∧SR prog w b F h' (ad++[l]) (σ++[c]):=by
 have hi:∀ a,inAd (ad++[l]) a ↔ inAd ad a ∨ a ∈ l:=fun a=>by rw [inAd_iff,inAd_iff]; simp
 have hM:∀ a o',¬ Mt ad F a→s.heap.get? a=some o'→h'.get? a=some o'∧¬ Mt (ad++[l]) F a:=fun a o' q e=>⟨hk a o' (fun z=>q (.inr (z ▸ hL))) e,fun z=>by
  rcases z with z | z
  ·rcases (hi a).mp z with z | z
   ·exact q (.inl z)
   ·rw [hl a z] at e; exact nos e
  ·exact q (.inr z)⟩
 refine ⟨⟨⟨_,_,_,rfl⟩,fun a o' _ nL e=>hk a o' nL e,fun m1 q=>by rw [ns_uniq q hm]; exact hm',fun _=>ns_some hm',fun a q=>?_,fun n l' e=>.inl ?_⟩,fun a o' e=>hk a o' (fun z=>?_) (hS.keep a o' e),?_,fun a q=>?_,hS.offF,fun a q=>?_,?_⟩
 ·rcases (hi a).mp q with q | q
  ·exact .inl q
  ·exact .inr (hl a q)
 ·rw [List.getElem?_append_left (List.getElem?_eq_some_iff.mp e).1]; exact e
 ·rw [z,hS.offF L hL] at e; exact nos e
 ·rw [List.flatten_append,List.nodup_append]
  refine ⟨hS.nodup,by simpa using hnd,fun a q c' z=>?_⟩
  simp at z
  rintro rfl
  have:=inAd.lt_of hS.cells (inAd_iff.mpr q)
  rw [hl _ z] at this; exact fls this
 ·rcases (hi a).mp q with q | q
  ·exact hS.off a q
  ·refine ⟨fun z=>?_,?_⟩
   ·have:=hS.live _ z; rw [hl a q] at this; exact fls this
   ·cases z:b.get? a with
    | none=>rfl
    | some o'=>have:=hS.keep _ _ z; rw [hl a q] at this; exact nos this
 ·by_cases e:a=L
  ·rw [e]; exact ns_some hm'
  ·cases z:s.heap.get? a with
   | none=>have:=hS.live a q; rw [z] at this; exact fls this
   | some o'=>rw [hk _ _ e z]; rfl
 ·refine CRs.append ?_ (.cons hc .nil)
  exact hS.cells.step hM (fun n l' e=>.inl (by rw [List.getElem?_append_left (List.getElem?_eq_some_iff.mp e).1]; exact e)) fun l' hl' a ha o' e=>hk a o' (fun z=>(hS.off a ⟨l',hl',ha⟩).1 (z ▸ hL)) e
theorem dataAll_drs:∀ {us:List V} {ds:List D} {vs:List Value},VRs prog w h ad F vs us→dataAll us=some ds→DRs prog w h (Mt ad F) vs ds:=by
 intro us
 induction us with
 | nil=>intro ds vs x e; cases x; obtain rfl:=so1 e; exact .nil
 | cons u us ih =>
  intro ds vs x e
  cases x with
  | cons a r =>
   obtain ⟨d,h1,h2⟩:=bd e
   obtain ⟨ds',h3,h4⟩:=md h2
   subst h4
   induction a using VR.casesOn with
   | d a=>obtain rfl:=so1 h1; exact .cons a (ih r h3)
   | loc=>exact nos h1
theorem under_room {n:Nat} {C:Addr} {vs:List Value} (hA:Room A (n+1)):Room (A.under (Code.builtin "type.__call__" ⟨.ref C::vs,[]⟩)) n:=by
 have e1:(Code.builtin "type.__call__" ⟨.ref C::vs,[]⟩).weight=1:=by kernel_rfl
 have e2:(Code.builtin "type.__call__" ⟨.ref C::vs,[]⟩).cUnits=1:=by kernel_rfl
 refine ⟨hA.1,?_,?_⟩
 ·show A.depth+(Code.builtin "type.__call__" ⟨.ref C::vs,[]⟩).weight+n < _
  rw [e1]; exact rmd hA.2.1
 ·show A.units+(Code.builtin "type.__call__" ⟨.ref C::vs,[]⟩).cUnits+_+_ < _
  rw [e2]; exact rmu hA.2.2
inductive EvNI (l:Lv) (k:Cls) (vs:List V) (σ:Sto) (d:D) (σ':Sto):Prop
 | mk (σ1:Sto) (a:Addr) (ks:List Str) (us:List V) (ds:List D):l.c k.init (.loc σ.length::vs) (σ++[.obj k.addr [] []])=some (.none,σ1)→σ1[σ.length]?=some (.obj a ks us)→dataAll us=some ds→(σ1.take σ.length).all (cellLow σ.length)=true→D.obj a ks ds=d→σ1.take σ.length=σ'→EvNI l k vs σ d σ'
theorem evN_inv {l:Lv} {c:Nat} {k:Cls} {vs:List V} {d:D} (hk:clss[c]?=some k) (h:evN clss l c vs σ=some (d,σ')):EvNI l k vs σ d σ':=by
 obtain ⟨k',e1,h⟩:=bd h
 obtain rfl:=so1 (e1.symm.trans hk)
 obtain ⟨d0,σ1,h1,h⟩:=bp h
 obtain ⟨a,⟨ks,ds⟩,h3,h⟩:=bp h
 induction d0 using D.casesOn with
 | none =>
  cases e:σ1[σ.length]? with
  | none=>rw [show ((D.none,σ1).2:Sto)[σ.length]?=none from e] at h3; exact nos h3
  | some c =>
   rw [show ((D.none,σ1).2:Sto)[σ.length]?=some c from e] at h3
   induction c using Cell.casesOn with
   | obj a' ks' us =>
    obtain ⟨ds',h5,h6⟩:=md h3
    obtain ⟨h7,h8⟩:=if_some h
    cases h6
    exact ⟨σ1,_,_,us,_,h1,e,h5,h7,(so2 h8).1,(so2 h8).2⟩
   | _=>exact nos h3
 | _=>exact nos h3
theorem nd_fin {s1 s2:Shared} {x dx a:Addr} {ad2:Adr} {σ1:Sto} {ks:List Str} {us:List V} {ds:List D} {k:Nat} (hk:ad.length=k) (m1:Mv L s ad s1 (ad++[[x,dx]])) (m2:Mv L s1 (ad++[[x,dx]]) s2 ad2) (S2:SR prog w b F s2.heap ad2 σ1)
  (hcell:σ1[k]?=some (.obj a ks us)) (h5:dataAll us=some ds) (hlow:(σ1.take k).all (cellLow k)=true):DP prog w b F L s ad (σ1.take k) (.obj a ks ds) (.ref x) s2:=by
 have hloc:(ad++[[x,dx]])[k]?=some [x,dx]:=by rw [← hk]; simp
 obtain ⟨l2,hl2,cr⟩:=S2.cells.get hcell
 have hl3:l2=[x,dx]:=by
  rcases m2.loc _ _ hloc with q | q
  ·exact so1 (hl2.symm.trans q)
  ·rw [hl2] at q; obtain rfl:=so1 q; cases cr
 subst hl3
 obtain ⟨d,es,n,e0,hcl,e1,e2,hkk,hr⟩:=cr.objI
 obtain rfl:=(List.cons.inj e0).1
 have hsub:∀ a,inAd (ad2.take k) a→inAd ad2 a:=fun a ⟨l,hl,ha⟩=>⟨l,List.mem_of_mem_take hl,ha⟩
 have hMM:∀ a o,¬ Mt ad2 F a→s2.heap.get? a=some o→s2.heap.get? a=some o∧¬ Mt (ad2.take k) F a:=fun a o m e=>⟨e,fun q=>m (q.imp (hsub a) id)⟩
 have hin2:∀ a,a ∈ [x,dx]→inAd ad2 a:=fun a q=>⟨_,List.mem_of_getElem? hl2,q⟩
 have noM:∀ a,a ∈ [x,dx]→¬ Mt (ad2.take k) F a:=fun a q z=>by
  rcases z with ⟨l,hl,ha⟩ | z
  ·obtain ⟨i,hi⟩:=List.getElem?_of_mem hl
   have hlt:i < k:=Nat.lt_of_lt_of_le (List.getElem?_eq_some_iff.mp hi).1 (List.length_take_le _ _)
   exact nodup_apart S2.nodup ((List.getElem?_take_of_lt hlt).symm.trans hi) hl2 (Nat.ne_of_lt hlt) ha q
  ·exact (S2.off a (hin2 a q)).1 z
 have mm:=m1.trans m2
 exact ⟨_,⟨mm.rest,mm.old,mm.ns,mm.liv,fun a q=>mm.new a (hsub a q),fun n l e=>(List.getElem?_take_of_lt (hk ▸ (List.getElem?_eq_some_iff.mp e).1):(ad2.take k)[n]?=_) ▸ mm.loc n l e⟩,
  ⟨S2.keep,S2.nodup.sublist sub_take,fun a q=>S2.off a (hsub a q),S2.offF,S2.live,S2.cells.take hMM (fun n q=>List.getElem?_take_of_lt q) _ hlow⟩,.obj hcl e1 e2 (noM _ (.head _)) (noM _ (.tail _ (.head _))) hkk ((dataAll_drs hr h5).mono hMM)⟩
theorem nd_step {n:Nat} (G:Gd prog w K mg mb b) (Y:Fd K mg b) (cd:Cd prog w b (lv fns clss n) n):Nd prog w b (lv fns clss (n+1)) (n+1):=by
 intro c k vs σ d σ' hk he A s ad F L m R vals hA hFL Fb hS hv hR
 obtain ⟨σ1,a1,ks,us,ds,h1,hcell,h5,hlow,ed,eσ⟩:=evN_inv hk he
 have hkm:=List.mem_of_getElem? hk
 obtain ⟨g,hg,hinit,hty⟩:=Y.init k hkm
 refine W.make_K Fb (allN_news (b:=b) (h:=s.heap) (L:=L)) (G.X.keeps hS.keep) (Y.makes k hkm) hinit hty fun x dx h2' F' N' hlo hlt=>?_
 have hkeep:∀ a o,a ≠ L→s.heap.get? a=some o→h2'.get? a=some o:=allN_kept hS.keep F' N' fun p q=>.tail _ (.tail _ q)
 have fresh:∀ a o,(a,o) ∈ (x,instObj k.addr dx)::(dx,emptyDict)::allN b s.heap L→(∀ p ∈ allN b s.heap L,p.1 < a)→s.heap.get? a=none:=fun a o hm hlo=>by
  cases z:s.heap.get? a with
  | none=>rfl
  | some o'=>exact absurd (hlo _ (allN_mem.mpr ⟨(N' _ hm).2.1,(N' _ hm).2.2,z⟩)) (Nat.lt_irrefl _)
 have hx0:s.heap.get? x=none:=fresh x _ (.head _) fun p hp=>Nat.lt_trans (hlo p hp) hlt
 have hd0:s.heap.get? dx=none:=fresh dx _ (.tail _ (.head _)) hlo
 obtain ⟨m1,S1⟩:=sto_add (t:=s.toks) (l:=[x,dx]) (c:=.obj k.addr [] []) hFL hS Fb.ns F'.ns hkeep (fun a ha=>(List.mem_cons.mp ha).elim (fun z=>z ▸ hx0) fun z=>List.mem_singleton.mp z ▸ hd0)
  (by simp [Nat.ne_of_gt hlt]) (.obj (es:=[]) (n:=0) (Y.cin k hkm) (N'.get (.head _)) (N'.get (.tail _ (.head _))) trivial .nil)
 have hal:ad.length=σ.length:=hS.cells.length
 have V1:VRs prog w h2' (ad++[[x,dx]]) F (.ref x::vals) (.loc σ.length::vs):=.cons (.loc (l:=[x,dx]) (by rw [← hal]; simp) (.inr rfl)) (hv.mv (s':={ s with heap:=h2',toks:=s.toks }) hFL m1)
 refine cd k.init g _ _ _ _ hg h1 _ { s with heap:=h2' } _ F L _ _ (under_room hA) hFL (base_size (s:={ s with heap:=h2' }) F'.keep F'.above (S1.live _ hFL)) S1 V1 fun rv s2 z=>?_
 obtain ⟨ad2,m2,S2,r2⟩:=z
 obtain rfl:=r2.noneI
 exact ⟨rfl,hR _ _ (ed ▸ eσ ▸ nd_fin hal m1 m2 S2 hcell h5 hlow)⟩
theorem ev_new {l:Lv} {n:Nat} (G:Gd prog w K mg mb b) (Y:Fd K mg b) (ih:Ev prog w b l n) (nd:Nd prog w b l n) {c:Nat} {k:Cls} {xs:List X} {es:List PySem.Expr} {p q:Pos} {v:V} (hk:clss[c]?=some k) (hb:globB sc k.name=true) (hx:EncL sc xs es)
  (he:evE l env σ (.new c xs)=some (v,σ')) (hA:Room A n) (hF:FR prog w b s.heap ad F sc renv env) (hS:SR prog w b F s.heap ad σ) :
  wpAny (model prog w) A (eval (.Call (.Name k.name q) es [] p) renv) (EP prog w b F renv.locals s ad σ' v) E s:=by
 obtain ⟨vs,σ1,h1,he⟩:=bp he
 obtain ⟨d,σ2,h3,he⟩:=mpp he
 have hkm:=List.mem_of_getElem? hk
 refine Call_Name (trees:=backTo p (starEach es renv)) rfl (Calls.Name_function_global hF.kind (hF.glob _ hb) (Calls.loadGlobal_global (mg:=mg) (hF.glb ▸ G.g.keeps hS.keep) (Y.cname k hkm) ?_) (by
  have:=hb; unfold globB at this; simp only [Bool.and_eq_true,Bool.not_eq_true'] at this; exact this.2))
 have hp:=encL_plain hx renv
 refine callWith_of (P:=K.In) (by rw [hp.any]; rfl) (keeps_K (Y.keep k hkm)) (hp.args (wpAny_mono (ev_args ih hx h1 hA hF hS) (fun vals s1 z=>?_) fun _ _ z=>z))
 obtain ⟨ad1,m1,S1,r1⟩:=z
 have F1:=hF.mv hS m1
 obtain ⟨m,hn,Fb⟩:=F1.fr S1
 refine ⟨G.X.keeps S1.keep,wpAny_call (nd c k vs _ _ _ hk h3 A s1 ad1 F renv.locals m _ vals hA hF.ownL Fb S1 r1 fun rv s2 z=>?_)⟩
 exact (pj he).1 ▸ (pj he).2 ▸ EP.of_data (z.after m1)
end
section
variable {prog:Program} {w:World} {K:Frag} {mg mb:Str→Option Value} {b:Heap}
variable {h h':Heap} {F W fp:Addr→Prop} {ad ad' ad'' ad0:Adr} {σ σ' σ0:Sto} {s s' s'' s0:Shared} {A:Around} {E:Value→Shared→Prop} {sc scope:Scope} {renv:Env} {env:Env'} {L:Addr} {O:Addr→Prop}
theorem draw_item {it t:Addr} {i:Nat} {items:Array Value} {x:Value} {Q:Value→Shared→Prop} (hit:s.heap.IsTupleIter it t i) (ht:s.heap.IsTuple t items) (hx:items[i]?=some x)
  (hQ:∀ h',h'.IsTupleIter it t (i+1)→Heap.SameBut it s.heap h'→Q x { s with heap:=h' }):wpAny (model prog w) A (Builtin.SmallTypes.nextOf (.ref it)) Q E s:=by
 obtain ⟨o,ho,hc,hd⟩:=id hit
 obtain ⟨ol,hol,_,nl,hdl⟩:=ht
 unfold Builtin.SmallTypes.nextOf
 refine wpAny_bind (wpAny_callSpecial?_slot (name:=Str.ofString "__next__") hit.typeIs PySem.F.slot_tuple_iterator_next
  (wpAny_call_entry PySem.F.slot_tuple_iterator_next hit.typeIs PySem.F.entry_tuple_iterator_next ?_ (PySem.F.args_tuple_iterator_next_1 _)))
 show wpAny _ _ (field (.ref it) 0 >>= _) _ _ s
 refine wpAny_bind (wpAny_field ho hd (x:=.ref t) rfl ?_)
 show wpAny _ _ (if (Value.ref t == Value.none)=true then _ else _) _ _ s
 rw [if_neg (show ¬ ((Value.ref t == Value.none)=true) from Bool.false_ne_true)]
 show wpAny _ _ (field (.ref it) 1 >>= _) _ _ s
 refine wpAny_bind (wpAny_field ho hd (x:=.int i 0) rfl ?_)
 show wpAny _ _ (seqItems? (.ref t) >>= _) _ _ s
 refine wpAny_bind (wpAny_seqItems hol hdl ?_)
 simp only [Int.toNat_natCast,hx]
 refine wpAny_bind (wpAny_setField ho hd (by simp) (wpAny_pure ⟨x,rfl,wpAny_pure (hQ _ ?_ (Heap.SameBut.update ..))⟩))
 exact ⟨_,Heap.get?_update_self _ ho (Obj.isFreed_of_fields (Obj.data_mapFields hd _)),(Obj.cls_mapFields ..).trans hc,by
  rw [Obj.data_mapFields hd]; simp [rawInt]⟩
theorem draw_end {it t:Addr} {i:Nat} {items:Array Value} {Q:Value→Shared→Prop} (hh:A.handled=none) (hit:s.heap.IsTupleIter it t i) (ht:s.heap.IsTuple t items) (hx:items[i]?=none)
  (hE:∀ h' e,Heap.ExtBut it s.heap h'→(∃ o,h'.get? e=some o∧o.cls=.type "StopIteration")→E (.ref e) { s with heap:=h' }):wpAny (model prog w) A (Builtin.SmallTypes.nextOf (.ref it)) Q E s:=by
 obtain ⟨o,ho,hc,hd⟩:=id hit
 obtain ⟨ol,hol,_,nl,hdl⟩:=ht
 unfold Builtin.SmallTypes.nextOf
 refine wpAny_bind (wpAny_callSpecial?_slot (name:=Str.ofString "__next__") hit.typeIs PySem.F.slot_tuple_iterator_next
  (wpAny_call_entry PySem.F.slot_tuple_iterator_next hit.typeIs PySem.F.entry_tuple_iterator_next ?_ (PySem.F.args_tuple_iterator_next_1 _)))
 show wpAny _ _ (field (.ref it) 0 >>= _) _ _ s
 refine wpAny_bind (wpAny_field ho hd (x:=.ref t) rfl ?_)
 show wpAny _ _ (if (Value.ref t == Value.none)=true then _ else _) _ _ s
 rw [if_neg (show ¬ ((Value.ref t == Value.none)=true) from Bool.false_ne_true)]
 show wpAny _ _ (field (.ref it) 1 >>= _) _ _ s
 refine wpAny_bind (wpAny_field ho hd (x:=.int i 0) rfl ?_)
 show wpAny _ _ (seqItems? (.ref t) >>= _) _ _ s
 refine wpAny_bind (wpAny_seqItems hol hdl ?_)
 simp only [Int.toNat_natCast,hx]
 refine wpAny_bind (wpAny_rule (wpAny_bind (wpAny_setField ho hd (by simp) ?_)))
 show wpAny _ _ (newExc (.type "StopIteration") [] >>= _) _ _ _
 refine wpAny_bind ?_
 simp only [newExc,newTuple]
 refine wpAny_bind (wpAny_newObj_type ?_ (by size_fits))
 refine wpAny_bind (m:=firstArgMember _ _) (wpAny_of_eq (a:=Value.none) (by first | rfl | (simp only [firstArgMember]; rfl)) ?_)
 refine wpAny_newObj_type ?_ (by size_fits)
 simp only [raiseNew]
 refine wpAny_bind (wpAny_handled ?_)
 first | rw [show A.in1.handled=none from hh] | rw [hh]
 refine wpAny_bind (wpAny_pure (wpAny_throw ?_))
 exact hE _ _ (((Heap.SameBut.update ..).extBut.push _).push _) ⟨_,Heap.get?_push_size _ rfl,rfl⟩
theorem en_new (l:Addr) (items:Array Value) :
  Meets (Builtin.«enumerate.__new__» ⟨[.type "enumerate", .ref l],[]⟩) (fun _ R s=>s.heap.IsTuple l items ∧
   R (.ok (.ret (.ref (s.heap.push { cls:=.type "tuple_iterator", data:=.fields #[.ref l,.int 0 0] }).objs.size)))
    { s with heap:=(s.heap.push { cls:=.type "tuple_iterator", data:=.fields #[.ref l,.int 0 0] }).push { cls:=.type "enumerate", data:=.fields #[.none,.bool false,.ref s.heap.objs.size,rawInt 0,.none,.none] } }) :=
 .of_wp fun prog w A R s h=>by
  obtain ⟨hp,g,d,tk,os⟩:=s; obtain ⟨hL,h⟩:=h
  have hsub:=sub_enumerate
  wp_walk
  refine wpAny_stack_any fun st=>wpAny_pure ?_
  split
  ·rename_i c _ _ _ _ _
   cases (c == Value.type "enumerate")
   ·wp_walk using wpAny_pyIter_tuple hL
    exact ⟨_,rfl,h⟩
   ·wp_walk using wpAny_pyIter_tuple hL
    exact ⟨_,rfl,h⟩
  ·wp_walk using wpAny_pyIter_tuple hL
   exact ⟨_,rfl,h⟩
theorem en_call {l:Addr} {items:Array Value} {Q:Value→Shared→Prop} (hL:s.heap.IsTuple l items)
  (h:∀ h',IsEnum h' (s.heap.objs.size+1) s.heap.objs.size 0 .none→h'.IsTupleIter s.heap.objs.size l 0→(∀ b o,s.heap.get? b=some o→h'.get? b=some o)→Q (.ref (s.heap.objs.size+1)) { s with heap:=h' }) :
  wpAny (model prog w) A (call (.type "enumerate") [.ref l]) Q E s:=by
 refine callType_new PySem.F.called_enumerate (by decide) (PySem.F.typeCall_enumerate_1 _) (PySem.F.newCall_enumerate_1 _) (fun obj=>PySem.F.args_object_init_2 obj _) PySem.F.entry_enumerate_new (en_new l items) ⟨hL,?_⟩
 have hz:(s.heap.push { cls:=.type "tuple_iterator", data:=.fields #[.ref l,.int 0 0] }).objs.size=s.heap.objs.size+1:=Heap.size_push ..
 show _∧_
 rw [hz]
 have he:IsEnum ((s.heap.push { cls:=.type "tuple_iterator", data:=.fields #[.ref l,.int 0 0] }).push
   { cls:=.type "enumerate", data:=.fields #[.none,.bool false,.ref s.heap.objs.size,rawInt 0,.none,.none] }) (s.heap.objs.size+1) s.heap.objs.size 0 .none:=by
  have:=Heap.get?_push_size (s.heap.push { cls:=.type "tuple_iterator", data:=.fields #[.ref l,.int 0 0] })
   (o:={ cls:=.type "enumerate", data:=.fields #[.none,.bool false,.ref s.heap.objs.size,rawInt 0,.none,.none] }) rfl
  rw [hz] at this; exact this
 exact ⟨⟨_,he,rfl⟩,h _ he ⟨_,Heap.get?_push_of_some _ (Heap.get?_push_size _ rfl),rfl,rfl⟩ fun b o x=>Heap.get?_push_of_some _ (Heap.get?_push_of_some _ x)⟩
theorem en_next {e it l:Addr} {i:Nat} {items:Array Value} {x old:Value} {Q:Option Value→Shared→Prop}
  (he:IsEnum s.heap e it i old) (hit:s.heap.IsTupleIter it l i) (hl:s.heap.IsTuple l items) (hx:items[i]?=some x) (hne:e ≠ it)
  (hQ:∀ h',IsEnumOut h' e it ((i:Int)+1) x s.heap.objs.size→h'.IsTupleIter it l (i+1) →
   h'.get? s.heap.objs.size=some { cls:=.type "tuple", data:=.seq #[.int i s.toks,x] } →
   (∀ b o,b ≠ e→b ≠ it→s.heap.get? b=some o→h'.get? b=some o)→Q (some (.ref s.heap.objs.size)) { s with heap:=h',toks:=s.toks+1 }) :
  wpAny (model prog w) A (pyNext (.ref e)) Q E s:=by
 have hT:s.TypeIs (.ref e) "enumerate" := ⟨_,he,rfl⟩
 unfold pyNext
 refine wpAny_bind (wpAny_attempt (wpAny_callSpecial?_slot (name:=Str.ofString "__next__") hT PySem.F.slot_enumerate_next
  (wpAny_call_entry PySem.F.slot_enumerate_next hT PySem.F.entry_enumerate_next ?_ (PySem.F.args_enumerate_next_1 _))))
 obtain ⟨hp,g,d,tk,os⟩:=s
 show wpAny _ _ (field (.ref e) 2 >>= _) _ _ _
 refine wpAny_bind (wpAny_field he rfl (x:=.ref it) rfl ?_)
 refine wpAny_bind (draw_item hit hl hx fun h₁ hit₁ hs₁=>?_)
 replace hs₁:Heap.SameBut it hp h₁:=hs₁
 have he₁:IsEnum h₁ e it i old:=(hs₁.2 e hne).trans he
 show wpAny _ _ (field (.ref e) 3 >>= _) _ _ ⟨h₁,g,d,tk,os⟩
 refine wpAny_bind (wpAny_field he₁ rfl (x:=rawInt i) rfl ?_)
 show wpAny _ _ (field (.ref e) 4 >>= _) _ _ ⟨h₁,g,d,tk,os⟩
 refine wpAny_bind (wpAny_field he₁ rfl (x:=.none) rfl ?_)
 show wpAny _ _ (mkInt i >>= _) _ _ ⟨h₁,g,d,tk,os⟩
 refine wpAny_bind (wpAny_mkInt ?_)
 show wpAny _ _ (setField (.ref e) 3 (rawInt ((i:Int)+1)) >>= _) _ _ ⟨h₁,g,d,tk+1,os⟩
 refine wpAny_bind (wpAny_setField_rec he₁ (by simp) fun h₂ he₂ hs₂=>?_)
 replace hs₂:Heap.SameBut e h₁ h₂:=hs₂
 replace he₂:IsEnum h₂ e it ((i:Int)+1) old:=he₂
 show wpAny _ _ (setField (.ref e) 4 .none >>= _) _ _ ⟨h₂,g,d,tk+1,os⟩
 refine wpAny_bind (wpAny_setField_rec he₂ (by simp) fun h₃ he₃ hs₃=>?_)
 replace hs₃:Heap.SameBut e h₂ h₃:=hs₃
 replace he₃:IsEnum h₃ e it ((i:Int)+1) old:=he₃
 show wpAny _ _ (newTuple [.int i tk,x] >>= _) _ _ ⟨h₃,g,d,tk+1,os⟩
 refine wpAny_bind (wpAny_newTuple ?_)
 have he₄:IsEnum (h₃.push { cls:=.type "tuple", data:=.seq #[.int i tk,x] }) e it ((i:Int)+1) old:=Heap.get?_push_of_some _ he₃
 generalize hh₄:h₃.push { cls:=.type "tuple", data:=.seq #[.int i tk,x] }=h₄ at he₄
 have hsz:h₃.objs.size=hp.objs.size:=by rw [hs₃.1,hs₂.1,hs₁.1]
 have hel:e < hp.objs.size:=Heap.lt_size he
 have ht₄:h₄.get? hp.objs.size=some { cls:=.type "tuple", data:=.seq #[.int i tk,x] }:=by rw [← hh₄,← hsz]; exact Heap.get?_push_size _ rfl
 have hk₄:∀ b o,b ≠ e→b ≠ it→hp.get? b=some o→h₄.get? b=some o:=fun b o hbe hbi hb=>by
  rw [← hh₄]; exact Heap.get?_push_of_some _ (hs₃.extBut b o hbe (hs₂.extBut b o hbe (hs₁.extBut b o hbi hb)))
 have hit₄:h₄.IsTupleIter it l (i+1):=by
  rw [← hh₄]; obtain ⟨o,ho,r⟩:=hit₁; exact ⟨o,Heap.get?_push_of_some _ (hs₃.extBut _ _ (Ne.symm hne) (hs₂.extBut _ _ (Ne.symm hne) ho)),r⟩
 show wpAny _ _ (Builtin.SmallTypes.ownedTupleIsFree (.ref e) >>= _) _ _ ⟨h₄,g,d,tk+1,os⟩
 rw [hsz]
 clear hh₄ he₃ hs₃ he₂ hs₂ he₁ hs₁ hit₁ hsz h₃ h₂ h₁
 refine wpAny_bind ?_
 unfold Builtin.SmallTypes.ownedTupleIsFree
 refine wpAny_bind (wpAny_field he₄ rfl (x:=.none) rfl (wpAny_pure ?_))
 simp only [if_true]
 refine wpAny_bind (wpAny_rule ?_)
 refine wpAny_bind (wpAny_field he₄ rfl (x:=old) rfl ?_)
 refine wpAny_bind (wpAny_setField_rec he₄ (by simp) fun h₅ he₅ hs₅=>?_)
 replace hs₅:Heap.SameBut e h₄ h₅:=hs₅
 replace he₅:IsEnum h₅ e it ((i:Int)+1) x:=he₅
 show wpAny _ _ (Builtin.SmallTypes.ownedTupleHandOut (.ref e) (.ref hp.objs.size) >>= _) _ _ ⟨h₅,g,d,tk+1,os⟩
 refine wpAny_bind ?_
 unfold Builtin.SmallTypes.ownedTupleHandOut
 refine wpAny_bind (wpAny_setField_rec he₅ (by simp) fun h₆ he₆ hs₆=>?_)
 replace hs₆:Heap.SameBut e h₅ h₆:=hs₆
 replace he₆:IsEnumOut h₆ e it ((i:Int)+1) x hp.objs.size:=he₆
 refine wpAny_setField_rec he₆ (by simp) fun h₇ he₇ hs₇=>?_
 replace hs₇:Heap.SameBut e h₆ h₇:=hs₇
 replace he₇:IsEnumOut h₇ e it ((i:Int)+1) x hp.objs.size:=he₇
 refine wpAny_bind (wpAny_letGo (wpAny_pure ⟨_,rfl,wpAny_pure (hQ h₇ he₇ ?_ ?_ ?_)⟩))
 ·obtain ⟨o,ho,r⟩:=hit₄
  exact ⟨o,hs₇.extBut _ _ (Ne.symm hne) (hs₆.extBut _ _ (Ne.symm hne) (hs₅.extBut _ _ (Ne.symm hne) ho)),r⟩
 ·exact hs₇.extBut _ _ (Nat.ne_of_gt hel) (hs₆.extBut _ _ (Nat.ne_of_gt hel) (hs₅.extBut _ _ (Nat.ne_of_gt hel) ht₄))
 ·exact fun b o hbe hbi hb=>hs₇.extBut b o hbe (hs₆.extBut b o hbe (hs₅.extBut b o hbe (hk₄ b o hbe hbi hb)))
theorem en_end {e it l:Addr} {i:Nat} {items:Array Value} {old:Value} {Q:Option Value→Shared→Prop} (hh:A.handled=none)
  (he:IsEnum s.heap e it i old) (hit:s.heap.IsTupleIter it l i) (hl:s.heap.IsTuple l items) (hx:items[i]?=none)
  (hQ:∀ h',Heap.ExtBut it s.heap h'→Q none { s with heap:=h' }):wpAny (model prog w) A (pyNext (.ref e)) Q E s:=by
 have hT:s.TypeIs (.ref e) "enumerate" := ⟨_,he,rfl⟩
 unfold pyNext
 refine wpAny_bind (wpAny_attempt (wpAny_callSpecial?_slot (name:=Str.ofString "__next__") hT PySem.F.slot_enumerate_next
  (wpAny_call_entry PySem.F.slot_enumerate_next hT PySem.F.entry_enumerate_next ?_ (PySem.F.args_enumerate_next_1 _))))
 show wpAny _ _ (field (.ref e) 2 >>= _) _ _ _
 refine wpAny_bind (wpAny_field he rfl (x:=.ref it) rfl ?_)
 refine wpAny_bind (draw_end hh hit hl hx fun h' x he' hx'=>?_)
 obtain ⟨o,ho,hc⟩:=hx'
 refine wpAny_bind (wpAny_isInstance (T := "StopIteration") (b:=true) ⟨o,ho,hc⟩ isSubtype_stop ?_)
 exact wpAny_pure (hQ _ he')
end
section
variable {prog:Program} {w:World} {K:Frag} {mg mb:Str→Option Value} {b:Heap}
variable {h h':Heap} {F W fp:Addr→Prop} {ad ad' ad'' ad0:Adr} {σ σ' σ0:Sto} {s s' s'' s0:Shared} {A:Around} {E:Value→Shared→Prop} {sc scope:Scope} {renv:Env} {env:Env'} {L:Addr} {O:Addr→Prop}
theorem en_src (hh:A.handled=none) {elts:List PySem.Expr} {k:Nat} {pos:Pos} {e it l:Addr} {items:Array Value} (hei:e ≠ it) (hle:l ≠ e) (hli:l ≠ it) :
  Src prog w A (.Tuple elts k pos) (.ref e) (fun a=>a=e ∨ a=it) (fun a=>a=e ∨ a=it ∨ a=l) items.size (fun i v h=>∃ T t x,v=.ref T∧items[i]?=some x∧h.IsTuple T #[.int (i:Int) t,x])
   (fun i h=>(∃ old,IsEnum h e it (i:Int) old)∧h.IsTupleIter it l i∧h.IsTuple l items) where
 item:=fun i s Q E hi hst hQ=>by
  obtain ⟨⟨old,he⟩,hit,hl⟩:=hst
  have hx:items[i]?=some items[i]:=Array.getElem?_eq_getElem hi
  have helt:e < s.heap.objs.size:=Heap.lt_size he
  have hilt:it < s.heap.objs.size:=by obtain ⟨_,x,_⟩:=hit; exact Heap.lt_size x
  refine en_next he hit hl hx hei fun h' ho hit' hT hk=>hQ _ _ fun Q2 E2 z=>?_
  refine wpAny_letOwnedTupleGo_enum ho fun h2 he2 hs2=>z h2 (s.toks+1) ⟨_,_,_,rfl,hx,⟨_,hs2.extBut _ _ (Nat.ne_of_gt helt) hT,rfl,0,rfl⟩⟩ ⟨⟨_,by simpa using he2⟩,?_,?_⟩ fun a o m q=>?_
  ·obtain ⟨o,ho,r⟩:=hit'
   exact ⟨o,hs2.extBut _ _ (Ne.symm hei) ho,r⟩
  ·exact hl.at fun o q=>hs2.extBut _ _ hle (hk l o hle hli q)
  ·exact hs2.extBut _ _ (fun z=>m (.inl z)) (hk a o (fun z=>m (.inl z)) (fun z=>m (.inr z)) q)
 done:=fun s Q E hst hQ=>by
  obtain ⟨⟨old,he⟩,hit,hl⟩:=hst
  exact en_end hh he hit hl (Array.getElem?_eq_none (Nat.le_refl _)) fun h' hx=>hQ h' s.toks fun a o m q=>hx a o (fun z=>m (.inr z)) q
 self:=fun i s Q E hst q=>by
  obtain ⟨⟨old,he⟩,_,_⟩:=hst
  exact wpAny_pyIter_enum he q
 frame:=fun i h h' hst hk=>by
  obtain ⟨⟨old,he⟩,hit,hl⟩:=hst
  exact ⟨⟨old,hk e _ (.inl rfl) he⟩,hit.at fun o q=>hk it o (.inr (.inl rfl)) q,hl.at fun o q=>hk l o (.inr (.inr rfl)) q⟩
 live:=fun i h hst a q=>by
  obtain ⟨⟨old,he⟩,⟨o,ho,_⟩,hl⟩:=hst
  rcases q with rfl | rfl
  ·rw [show h.get? a=_ from he]; rfl
  ·rw [ho]; rfl
 data:=fun i h hst a o q e1=>by
  obtain ⟨⟨old,he⟩,⟨o',ho,_,hd⟩,hl⟩:=hst
  rcases q with rfl | rfl
  ·rw [show h.get? a=_ from he] at e1; obtain rfl:=so1 e1
   exact ⟨fun _ _ z=>(by cases z),fun _ z=>(by cases z)⟩
  ·rw [ho] at e1; obtain rfl:=so1 e1
   exact ⟨fun _ _ z=>(by rw [hd] at z; cases z),fun _ z=>(by rw [hd] at z; cases z)⟩
theorem forE_inv {l:Lv} {i j:Nat} {a:X} {body:List S} {r:Fl × Env' × Sto} (he:evS1 l env σ (.forE i j a body)=some r):∃ ds σ1,l.e env σ a=some (.d (.tup ds),σ1)∧forL l (.tup [i,j]) body ((ds.zipIdx).map fun (p:D × Nat)=>D.tup [.int p.2,p.1]) env σ1=some r:=by
 obtain ⟨d,σ1,h1,h2⟩:=bp he
 obtain ⟨ds,h3,h4⟩:=bd h2
 cases d <;> (first | (exact nos h3; done) | skip)
 rw [(lim_some h3).2] at h4
 exact ⟨_,_,evD_e h1,h4⟩
theorem zip_row {ds:List D} {i1:Nat} {d:D} (hd:((ds.zipIdx).map fun (p:D × Nat)=>D.tup [.int p.2,p.1])[i1]?=some d):∃ dx,ds[i1]?=some dx∧d=.tup [.int (i1:Int),dx]:=by
 rw [List.getElem?_map,List.getElem?_zipIdx,Option.map_map] at hd
 obtain ⟨dx,h1,h2⟩:=Option.map_eq_some_iff.mp hd
 exact ⟨dx,h1,by rw [← h2]; simp⟩
theorem en_turn {i j:Nat} {es:List PySem.Expr} {kk:Nat} {pp:Pos} {items:Array Value} {ds:List D} {i1:Nat} {d:D} {v:Value} {env1:Env'} {Q:Unit→Shared→Prop} (G:Gd prog w K mg mb b) (hA1:A.handled=none) (hN:NamesAre (storeB sc) [i,j] es) (rr:DRs prog w s.heap (Mt ad F) items.toList ds) (hd:((ds.zipIdx).map fun (p:D × Nat)=>D.tup [.int p.2,p.1])[i1]?=some d)
  (hP:∃ T t x,v=.ref T∧items[i1]?=some x∧s.heap.IsTuple T #[.int (i1:Int) t,x]) (hbt:bindTg (.tup [i,j]) d env=some env1) (F3:FR prog w b s.heap ad F sc renv env) (S3:SR prog w b F s.heap ad σ)
  (z:∀ s',MvS (Own renv) s ad s' ad→SR prog w b F s'.heap ad σ→FR prog w b s'.heap ad F sc renv env1→Q () s'):wpAny (model prog w) A (assign (.Tuple es kk pp) renv v) Q E s:=by
 obtain ⟨T,tk,xv,e0,hxv,hTT⟩:=hP
 obtain ⟨dx,hz3,e1⟩:=zip_row hd
 rw [e1] at hbt
 have hb:(([i,j].zip ([D.int (i1:Int),dx].map V.d)).reverse++env)=env1:=so1 hbt
 obtain ⟨v',e2,e3⟩:=rr.get hz3
 rw [Array.getElem?_toList,hxv] at e2
 rw [← so1 e2] at e3
 clear hd hbt e1 hz3 rr hxv e2
 rw [e0]
 refine wpAny_assign_Tuple (items:=#[.int (i1:Int) tk,xv]) hA1 hTT ?_ ?_ fun h5 he5=>?_
 ·rw [names_each hN,List.length_map,names_len hN]; rfl
 ·rw [names_each hN,List.findIdx?_eq_none_iff]
  intro x hx
  obtain ⟨y,_,rfl⟩:=List.mem_map.mp hx
  rfl
 ·obtain ⟨m5,S5⟩:=sto_grow (L:=renv.locals) (t:=s.toks) S3 fun a o e=>he5 a o (Nat.ne_of_lt (Heap.lt_size e)) e
  rw [names_each hN,List.map_map]
  exact st_many Home.own G.inj (fun _ q=>q) hN (vs:=[.d (.int (i1:Int)),.d dx]) rfl (F3.mv S3 m5) S5 (.cons (.d (.int _ _)) (.cons (.d (e3.mv F3.ownL m5)) .nil)) fun s6 m6 S6 F6=>z s6 ((F3.toS S3 m5).trans m6) S6 (hb ▸ F6)
theorem sd_forE {l:Lv} {n:Nat} (G:Gd prog w K mg mb b) (ih:Ev prog w b l n) (sd:Sd prog w b l n) {i j:Nat} {a:X} {body:List S} {t x:PySem.Expr} {y:List Stmt} {q1 p1 p:Pos}
  (ht:EncT sc (.tup [i,j]) t) (hg:globB sc (Str.ofString "enumerate")=true) (hx:Enc sc a x) (hb:EncSs sc body y) {fl:Fl} {env':Env'} {σ':Sto}
  (he:evS1 l env σ (.forE i j a body)=some (fl,env',σ')) (hA:Room A n) (hF:FR prog w b s.heap ad F sc renv env) (hS:SR prog w b F s.heap ad σ) :
  wpAny (model prog w) A (exec (.For t (.Call (.Name (Str.ofString "enumerate") q1) [x] [] p1) y [] p) renv) (SP prog w b F s ad sc renv fl env' σ') E s:=by
 obtain ⟨ds,σ1,g1,h4⟩:=forE_inv he
 clear he
 refine wpAny_For (bi_call (fv:=.type "enumerate") G ih hg bil_enumerate hx g1 hA hF hS (.inr ⟨_,rfl⟩) fun rv s1 ad1 m1 S1 r1=>?_) (fun _=>rfl)
 clear g1
 have F1:=hF.mv hS m1
 have back:=fun {f s'} (z:SP prog w b F s1 ad1 sc renv fl env' σ' f s')=>z.after (hF.toS hS m1)
 clear hF hS m1
 obtain ⟨tl,o,vs,n',e0,e,c,dd',mm',r⟩:=r1.dI.tupI
 rw [e0]
 have hlt:tl < s1.heap.objs.size:=Heap.lt_size e
 have hT:s1.heap.IsTuple tl vs:=⟨o,e,c,n',dd'⟩
 refine en_call hT fun h2' hE hI hk=>?_
 refine wpAny_pyIter_enum hE ?_
 have hne:s1.heap.objs.size+1 ≠ s1.heap.objs.size:=Nat.succ_ne_self _
 have hW:∀ a,(a=s1.heap.objs.size+1 ∨ a=s1.heap.objs.size)→s1.heap.get? a=none:=fun a q=>Heap.get?_none_of_le (q.elim (fun q=>q ▸ Nat.le_succ _) fun q=>q ▸ Nat.le_refl _)
 obtain ⟨es',kk,pp,e1,hN⟩:=ht.tupI
 rw [e1]
 have X:=en_src (prog:=prog) (w:=w) (A:=A) hA.1 (elts:=es') (k:=kk) (pos:=pp) (items:=vs) hne (Nat.ne_of_lt (Nat.lt_succ_of_lt hlt)) (Nat.ne_of_lt hlt)
 have hsz:vs.size=((ds.zipIdx).map fun (p:D × Nat)=>D.tup [.int p.2,p.1]).length:=by
  rw [List.length_map,List.length_zipIdx,← r.length,Array.length_toList]
 rw [hsz] at X
 refine for_code sd hb X hA F1 hW (fun a q=>?_) S1 (fun i1 d v s3 ad3 σ3 env1 env2 Q E hd hPi m3 hbt F3 S3 z=>en_turn G hA.1 hN (r.aside (O:=Own renv) F1.own m3 hW) hd hPi hbt F3 S3 z) (fun f s'=>back) (F1.toS S1 (Mv.grow (t:=s1.toks) hk)) (S1.aside hW hk fun a q=>?_) (F1.aside hW hk) ⟨⟨_,hE⟩,hI,hT.at fun o q=>hk _ _ q⟩ h4
 ·rcases q with q | q | q
  ·exact .inl (.inl q)
  ·exact .inl (.inr q)
  ·rw [q]; exact .inr ⟨mm',by rw [e]; rfl⟩
 ·rcases q with q | q
  ·rw [q,show h2'.get? _=_ from hE]; rfl
  ·obtain ⟨o,ho,_⟩:=hI
   rw [q,ho]; rfl
end
noncomputable def askOk {α:Type} (n:Nat):KasT α→Bool
 | .ret _=>true
 | .ask i j k=>decide (i < n) && (decide (j < n) && (decide (i ≠ j) && (askOk n (k true) && askOk n (k false))))
theorem ask_run {α:Type} {n:Nat} {cmp:Nat→Nat→Bool} {ask:Nat→Nat→(Bool→Shared→Prop)→Shared→Prop} {G:α→Shared→Prop} {s:Shared} (hc:∀ i j C,i < n→j < n→i ≠ j→C (cmp i j) s→ask i j C s) :
  ∀ t:KasT α,askOk n t=true→G (kasRun cmp t) s→t.kasWp ask G s:=by
 intro t
 induction t with
 | ret a=>intro _ h; exact h
 | ask i j k ih =>
  intro ho h
  replace ho:(decide (i < n) && (decide (j < n) && (decide (i ≠ j) && (askOk n (k true) && askOk n (k false)))))=true:=ho
  simp only [Bool.and_eq_true,decide_eq_true_eq] at ho
  refine hc i j _ ho.1 ho.2.1 ho.2.2.1 ?_
  cases hb:cmp i j with
  | true=>exact ih true ho.2.2.2.1 (by rw [← hb]; exact h)
  | false=>exact ih false ho.2.2.2.2 (by rw [← hb]; exact h)
noncomputable def inRange {α:Type} (P:α→Bool):KasT α→Bool
 | .ret a=>P a
 | .ask _ _ k=>inRange P (k true) && inRange P (k false)
theorem inRange_run {α:Type} {P:α→Bool} {cmp:Nat→Nat→Bool}:∀ t:KasT α,inRange P t=true→P (kasRun cmp t)=true:=by
 intro t
 induction t with
 | ret a=>intro h; exact h
 | ask i j k ih =>
  intro h
  replace h:=Bool.and_eq_true_iff.mp (show (inRange P (k true) && inRange P (k false))=true from h)
  show P (kasRun cmp (k (cmp i j)))=true
  cases cmp i j with
  | true=>exact ih true h.1
  | false=>exact ih false h.2
theorem sort_ok2:askOk 2 (kas_sort 2)=true∧inRange (fun p=>p.size == 2 && p.all fun i=>decide (i < 2)) (kas_sort 2)=true:=by decide +kernel
theorem sort_ok3:askOk 3 (kas_sort 3)=true∧inRange (fun p=>p.size == 3 && p.all fun i=>decide (i < 3)) (kas_sort 3)=true:=by decide +kernel
theorem sort_ok4:askOk 4 (kas_sort 4)=true∧inRange (fun p=>p.size == 4 && p.all fun i=>decide (i < 4)) (kas_sort 4)=true:=by decide +kernel
theorem sort_ok {n:Nat} (h2:2≤n) (h5:n < 5):askOk n (kas_sort n)=true∧inRange (fun p=>p.size == n && p.all fun i=>decide (i < n)) (kas_sort n)=true:=by
 rcases (by decide:∀ n < 5,2≤n→n=2 ∨ n=3 ∨ n=4) n h5 h2 with rfl | rfl | rfl
 ·exact sort_ok2
 ·exact sort_ok3
 ·exact sort_ok4
noncomputable def sortIx (cmp:Nat→Nat→Bool) (n:Nat):List Nat:=if n < 2 then List.range n else (kasRun cmp (kas_sort n)).toList
theorem sortIx_lt {cmp:Nat→Nat→Bool} {n:Nat} (h5:n < 5):∀ i ∈ sortIx cmp n,i < n:=by
 intro i hi
 unfold sortIx at hi
 split at hi
 ·exact List.mem_range.mp hi
 ·have:=inRange_run (cmp:=cmp) _ (sort_ok (Nat.le_of_not_lt ‹_›) h5).2
  simp only [Bool.and_eq_true] at this
  have h2:=this.2
  rw [Array.all_eq_true] at h2
  obtain ⟨j,hj,e⟩:=List.getElem_of_mem hi
  have:=h2 j (by simpa using hj)
  simp only [decide_eq_true_eq] at this
  rw [← e]
  simpa using this
theorem sortIx_len {cmp:Nat→Nat→Bool} {n:Nat} (h5:n < 5):(sortIx cmp n).length=n:=by
 unfold sortIx
 split
 ·exact List.length_range
 ·have:=inRange_run (cmp:=cmp) _ (sort_ok (Nat.le_of_not_lt ‹_›) h5).2
  simp only [Bool.and_eq_true,beq_iff_eq] at this
  simpa using this.1
theorem sortBy_ix {α:Type} {cmp:Nat→Nat→Bool} {xs:List α} {d:α}:sortBy cmp xs d=(sortIx cmp xs.length).map fun i=>xs.getD i d:=by
 unfold sortBy sortIx
 split
 ·refine List.ext_getElem? fun i=>?_
  by_cases h:i < xs.length
  ·simp [h,List.getElem?_range h]
  ·simp [h,Nat.le_of_not_lt h]
 ·rfl
section
variable {prog:Program} {w:World} {A:Around} {E:Value→Shared→Prop} {s:Shared}
theorem list_sort_at {a:Addr} {n:Nat} {vs:List Value} {cmp:Nat→Nat→Bool} {κ:SortKind} {P:PySem.Fin→Shared→Prop} (ho:s.heap.get? a=some (seqObj "list" vs.toArray n)) (h5:vs.length < 5)
  (hk:2≤vs.length→∀ h':Heap,(∀ b o,b ≠ a→s.heap.get? b=some o→h'.get? b=some o)→∀ Q:SortKind→Shared→Prop,Q κ { s with heap:=h' }→wpAny (model prog w) A (keyKind' vs.toArray) Q E { s with heap:=h' })
  (hc:∀ i j,i < vs.length→j < vs.length→i ≠ j→∀ h':Heap,(∀ b o,b ≠ a→s.heap.get? b=some o→h'.get? b=some o)→∀ C:Bool→Shared→Prop,C (cmp i j) { s with heap:=h' }→wpAny (model prog w) A (keyLt' κ (vs.getD i Value.none) (vs.getD j Value.none)) C (fun _ _=>False) { s with heap:=h' })
  (h:∀ h' c,(∀ b o,b ≠ a→s.heap.get? b=some o→h'.get? b=some o)→h'.get? a=some (seqObj "list" (List.toArray ((sortIx cmp vs.length).map fun i=>vs.getD i Value.none)) c)→P (.done (.ret .none)) { s with heap:=h' }) :
  wpAny (model prog w) A (Builtin.«list.sort» ⟨[.ref a],[]⟩) P E s:=by
 have ha:a < s.heap.objs.size:=Heap.lt_size ho
 have s1:=Heap.SameBut.update s.heap a (Obj.mapSeq fun _=>(#[]:Array Value))
 obtain ⟨e1,ho1⟩:∃ e1,(s.heap.update a (Obj.mapSeq fun _=>(#[]:Array Value))).get? a=some (seqObj "list" #[] e1):=⟨_,get?_update_seq ho fun _=>#[]⟩
 rw [list_sort_plain]
 refine wpAny_bind (listItems_at ho rfl ?_)
 refine wpAny_bind (listUpdate_at ho rfl ?_ (by rw [List.size_toArray,sizeLine_eq]; exact lw (Nat.le_of_lt h5)) (Nat.zero_le _))
 refine wpAny_bind (seqEpoch_at ho1 rfl ?_)
 refine wpAny_bind (wpAny_newTuple ?_ (by show vs.length≤_; rw [sizeLine_eq]; exact lw (Nat.le_of_lt h5)))
 refine wpAny_bind (wpAny_newList ?_ (Nat.zero_le _))
 refine wpAny_holding ?_
 have ho3:(((s.heap.update a (Obj.mapSeq fun _=>(#[]:Array Value))).push (seqObj "tuple" vs.toArray 0)).push (seqObj "list" #[] 0)).get? a=some (seqObj "list" #[] e1):=Heap.get?_push_of_some _ (Heap.get?_push_of_some _ ho1)
 have kp:∀ b o,b ≠ a→s.heap.get? b=some o→(((s.heap.update a (Obj.mapSeq fun _=>(#[]:Array Value))).push (seqObj "tuple" vs.toArray 0)).push (seqObj "list" #[] 0)).get? b=some o:=fun b o hb e=>Heap.get?_push_of_some _ (Heap.get?_push_of_some _ (s1.extBut b o hb e))
 show wpAny (model prog w) A _ P E { s with heap:=((s.heap.update a (Obj.mapSeq fun _=>(#[]:Array Value))).push (seqObj "tuple" vs.toArray 0)).push (seqObj "list" #[] 0) }
 generalize (((s.heap.update a (Obj.mapSeq fun _=>(#[]:Array Value))).push (seqObj "tuple" vs.toArray 0)).push (seqObj "list" #[] 0))=h3 at ho3 kp ⊢
 dsimp only
 have fin:∀ (κ':SortKind) (st':SortSt) (ix:List Nat),(arrOf st').map (·.2)=List.toArray (ix.map fun i=>vs.getD i Value.none)→ix=sortIx cmp vs.length→failedOf st'=none →
   wpAny (model prog w) A (do
    let sorted:=(arrOf st').map (·.2)
    let touched:=(← seqEpoch a) != e1
    Builtin.List.listUpdate (.ref a) fun _=>sorted
    if let some e:=failedOf st' then rule "list.sort.comparison-raised"; throw e
    if touched then rule "list.sort.modified"; raiseError "ValueError" "list modified during sort"
    ret .none) P E { s with heap:=h3 }:=by
  intro κ' st' ix hout hix hf
  subst hix
  have hsz:(List.toArray ((sortIx cmp vs.length).map fun i=>vs.getD i Value.none)).size=vs.length:=by rw [List.size_toArray,List.length_map,sortIx_len h5]
  dsimp only
  rw [hout]
  have s2:=Heap.SameBut.update h3 a (Obj.mapSeq fun _=>List.toArray ((sortIx cmp vs.length).map fun i=>vs.getD i Value.none))
  obtain ⟨c2,hc2⟩:∃ c2,(h3.update a (Obj.mapSeq fun _=>List.toArray ((sortIx cmp vs.length).map fun i=>vs.getD i Value.none))).get? a=some (seqObj "list" (List.toArray ((sortIx cmp vs.length).map fun i=>vs.getD i Value.none)) c2):=⟨_,get?_update_seq ho3 fun _=>List.toArray ((sortIx cmp vs.length).map fun i=>vs.getD i Value.none)⟩
  refine wpAny_bind (seqEpoch_at ho3 rfl ?_)
  refine wpAny_bind (listUpdate_at ho3 rfl ?_ (Nat.zero_le _) (Nat.le_trans (Nat.le_of_eq hsz) (by rw [sizeLine_eq]; exact lw (Nat.le_of_lt h5))))
  rw [hf]
  simp only [bne_self_eq_false,Bool.false_eq_true,if_false]
  exact wpAny_pure (h _ c2 (fun b o hb e=>s2.extBut b o hb (kp b o hb e)) hc2)
 by_cases h2:2≤vs.length
 ·have hn2:¬ vs.toArray.size < 2:=by rw [List.size_toArray]; exact Nat.not_lt_of_le h2
  rw [if_neg hn2,if_neg hn2]
  refine wpAny_bind (hk h2 h3 kp _ ?_)
  have ask:(kas_sort vs.length).kasWp (kas_ask prog w A κ vs) (fun p s'=>p.toList=sortIx cmp vs.length∧s'={ s with heap:=h3 }) { s with heap:=h3 }:=by
   refine ask_run (n:=vs.length) (cmp:=cmp) (fun i j C hi hj hij hC=>?_) _ (sort_ok h2 h5).1 ⟨?_,rfl⟩
   ·exact hc i j hi hj hij h3 kp _ hC
   ·unfold sortIx; rw [if_neg (Nat.not_lt_of_le h2)]
  refine wpAny_bind (wpAny_mono (kat_run (Q:=fun st' s'=>∃ p:Array Nat,p.size=vs.length∧arrOf st'=p.map (kas_item (vs.toArray.zip vs.toArray))∧failedOf st'=none∧p.toList=sortIx cmp vs.length∧s'={ s with heap:=h3 })
   rfl h2 (ltw h5) (fun p' st' s' a1 a2 a3 a4=>⟨p',a1,a2,a3,a4⟩) ask) ?_ fun _ _ e=>e)
  rintro ⟨⟨⟩,st'⟩ s' ⟨p,hp,har,hf,hpl,rfl⟩
  exact fin κ st' p.toList (kat_snds rfl har) hpl hf
 ·have hn2:vs.toArray.size < 2:=by rw [List.size_toArray]; exact Nat.lt_of_not_le h2
  rw [if_pos hn2,if_pos hn2]
  refine wpAny_bind (wpAny_pure ?_)
  refine wpAny_bind (wpAny_pure ?_)
  refine fin general' _ (List.range vs.length) ?_ (by unfold sortIx; rw [if_pos (Nat.lt_of_not_le h2)]) rfl
  show ((vs.toArray.zip vs.toArray)).map (·.2)=_
  apply Array.toList_inj.mp
  rw [Array.toList_map,ksk_zip]
  refine List.ext_getElem? fun i=>?_
  by_cases hi:i < vs.length
  ·simp [hi,List.getElem?_range hi]
  ·simp [hi,Nat.le_of_not_lt hi]
theorem sorted_any {v:Value} {Q:Value→Shared→Prop} (h:wpAny (model prog w) A.in1 (collect v) (fun vs s1=>vs.length < 5∧wpAny (model prog w) A.in1.in1 (Builtin.«list.sort» ⟨[.ref s1.heap.objs.size],[]⟩) (fun f s'=>f=.done (.ret .none)∧Q (.ref s1.heap.objs.size) s') E { s1 with heap:=s1.heap.push (seqObj "list" vs.toArray 0) }) E s) :
  wpAny (model prog w) A (call (.builtin "sorted") [v]) Q E s:=by
 refine Calls.call_function_entry kind_sorted plain_sorted entry_sorted (args_sorted1 _) ?_
 unfold Builtin.«sorted»
 refine wpAny_bind (m:=checkCount "sorted" 1 1 _) (wpAny_pure ?_)
 refine wpAny_bind (wpAny_mono h (fun vs s1 z=>?_) fun _ _ e=>e)
 obtain ⟨h5,z⟩:=z
 refine wpAny_bind (wpAny_newList ?_ (by rw [sizeLine_eq]; exact lw (Nat.le_of_lt h5)))
 refine wpAny_bind (wpAny_holding (wpAny_call_entry slot_list_sort ⟨_,Heap.get?_push_size _ rfl,rfl⟩ entry_list_sort (wpAny_mono z (fun f s' y=>?_) fun _ _ e=>e) (args_list_sort _)))
 obtain ⟨rfl,y⟩:=y
 exact ⟨_,rfl,wpAny_pure ⟨_,rfl,y⟩⟩
end
section
variable {prog:Program} {w:World} {K:Frag} {mg mb:Str→Option Value} {b:Heap}
variable {h h':Heap} {F W fp:Addr→Prop} {ad ad' ad'' ad0:Adr} {σ σ' σ0:Sto} {s s' s'' s0:Shared} {A:Around} {E:Value→Shared→Prop} {sc scope:Scope} {renv:Env} {env:Env'} {L:Addr} {O:Addr→Prop}
theorem grown_lst2 {h2:Heap} {vs:Array Value} {ds:List D} {a:Addr} {t:Nat} {o:Obj} (hS:SR prog w b F s.heap ad σ) (hk:∀ c o,s.heap.get? c=some o→h2.get? c=some o) (ha:s.heap.get? a=none) (h1:h2.get? a=some o) (hc:o.cls=.type "list" ∧ o.dict=Option.none) (hd:∃ n,o.data=.seq vs n) (r:DRs prog w h2 (Mt ad F) vs.toList ds) :
  DP prog w b F L s ad σ (.lst ds) (.ref a) { s with heap:=h2,toks:=t }:=by
 obtain ⟨m,S⟩:=sto_grow (L:=L) (t:=t) hS hk
 obtain ⟨n,hd⟩:=hd
 exact ⟨ad,m,S,.lst h1 hc hd (hS.fresh ha) r⟩
theorem DRs.pick {M:Addr→Prop} {vs:List Value} {ds:List D} {d0:D} (x:DRs prog w h M vs ds):∀ ix:List Nat,(∀ i ∈ ix,i < vs.length)→DRs prog w h M (ix.map fun i=>vs.getD i Value.none) (ix.map fun i=>ds.getD i d0):=by
 intro ix
 induction ix with
 | nil=>intro _; exact .nil
 | cons i ix ih =>
  intro hi
  refine .cons ?_ (ih fun j hj=>hi j (.tail _ hj))
  have hlt:=hi i (.head _)
  obtain ⟨d,e1,e2⟩:=x.getV (List.getElem?_eq_getElem hlt)
  have q1:vs.getD i Value.none=vs[i]:=by simp [hlt]
  have q2:ds.getD i d0=d:=by simp [e1]
  show DR prog w h M (vs.getD i Value.none) (ds.getD i d0)
  rw [q1,q2]
  exact e2
theorem bi_callG (G:Gd prog w K mg mb b) {e:PySem.Expr} {nb:Str} {fv:Value} {p q:Pos} {Q:Value→Shared→Prop} (hg:globB sc nb=true) (hm:(nb,fv) ∈ biltins) (hp:Plain [e] renv)
  (he1:∀ rest,starEach (e::rest) renv=(false,eval e renv)::starEach rest renv)
  (hF:FR prog w b s.heap ad F sc renv env) (hS:SR prog w b F s.heap ad σ) (hfv:(∃ id,fv=.builtin id) ∨ ∃ T,fv=.type T)
  (h:wpAny (model prog w) A (eval e renv) (fun rv s1=>wpAny (model prog w) A (call fv [rv]) Q E s1) E s) :
  wpAny (model prog w) A (eval (.Call (.Name nb q) [e] [] p) renv) Q E s:=by
 refine Call_Name (trees:=backTo p (starEach [e] renv)) rfl (bi_name G hg hm hF hS ?_)
 have sp:wpAny (model prog w) A (spliced (backTo p (starEach [e] renv))) (fun vs s'=>wpAny (model prog w) A (call fv ([]++vs)) Q E s') E s:=by
  refine wpAny_items_cons (wpAny_mono h (fun u s1 z=>?_) fun _ _ z=>z) (he1 _)
  exact wpAny_items_nil z
 rcases hfv with ⟨id,rfl⟩ | ⟨T,rfl⟩
 ·exact cw_builtin hp sp
 ·exact cw_type hp sp
theorem sort_strs {a:Addr} {n:Nat} {vs:List Value} {xs:List Str} {P:PySem.Fin→Shared→Prop} (ho:s.heap.get? a=some (seqObj "list" vs.toArray n)) (h5:vs.length < 5) (hl:vs.length=xs.length)
  (hx:∀ i,i < vs.length→∃ t,vs.getD i Value.none=.str (xs.getD i default) t)
  (h:∀ h' c,(∀ b o,b ≠ a→s.heap.get? b=some o→h'.get? b=some o)→h'.get? a=some (seqObj "list" (List.toArray ((sortIx (fun i j=>strLt (xs.getD i default) (xs.getD j default)) vs.length).map fun i=>vs.getD i Value.none)) c)→P (.done (.ret .none)) { s with heap:=h' }) :
  wpAny (model prog w) A (Builtin.«list.sort» ⟨[.ref a],[]⟩) P E s:=by
 refine list_sort_at (κ:=oneType') ho h5 (fun h2 h' _ Q q=>?_) (fun i j hi hj _ h' _ C q=>?_) h
 ·refine kas_kind (T:=.type "str") h2 (fun v hv=>?_) (by decide) (by decide) q
  obtain ⟨i,hi,rfl⟩:=List.getElem_of_mem hv
  obtain ⟨t,e⟩:=hx i hi
  have:vs.getD i Value.none=vs[i]:=by simp [hi]
  rw [← this,e]
  exact Looks.of_pure rfl
 ·obtain ⟨t,e⟩:=hx i hi
  obtain ⟨u,e2⟩:=hx j hj
  rw [e,e2]
  exact kas_lt_str q
theorem strs_get {M:Addr→Prop} {vs:List Value} {xs:List Str} (hl:vs.length=xs.length) (hx:∀ i,i < vs.length→∃ t,vs.getD i Value.none=.str (xs.getD i default) t):DRs prog w h M vs (xs.map D.str):=by
 refine DRs.of_get (by simpa using hl) fun k v hv=>?_
 have hk:=(List.getElem?_eq_some_iff.mp hv).1
 obtain ⟨t,e⟩:=hx k hk
 refine ⟨.str xs[k],?_,?_⟩
 ·rw [List.getElem?_map,List.getElem?_eq_getElem (hl ▸ hk)]; rfl
 ·have:vs.getD k Value.none=v:=by simp [List.getD,hv]
  rw [this] at e
  rw [e]
  have e3:xs.getD k default=xs[k]'(hl ▸ hk):=by simp [show k < xs.length from hl ▸ hk]
  rw [e3]
  exact .str _ _
theorem sortKeys_inv {da d:D} (h:biD .sortKeys da=some d):∃ ks ds,da=.dct ks ds∧ks.length < 5∧.lst ((sortStrs ks).map .str)=d:=by
 induction da using D.casesOn with
 | dct ks ds=>exact ⟨ks,ds,rfl,of_decide_eq_true (lim_some h).1,(lim_some h).2.symm⟩
 | _=>exact nos h
theorem none_grown {h0 h1:Heap} (hk:∀ c o,h0.get? c=some o→h1.get? c=some o):h0.get? h1.objs.size=none:=by
 cases z:h0.get? h1.objs.size with
 | none=>rfl
 | some o=>exact absurd (Heap.lt_size (hk _ _ z)) (Nat.lt_irrefl _)
theorem p_sortKeys {rv:Value} {da d:D} (hA:A.handled=none) (r1:DR prog w s.heap (Mt ad F) rv da) (hS:SR prog w b F s.heap ad σ) (h3:biD .sortKeys da=some d):wpAny (model prog w) A (call (.builtin "sorted") [rv]) (DP prog w b F L s ad σ d) E s:=by
 obtain ⟨ks,ds,e1,hc,e2⟩:=sortKeys_inv h3
 obtain ⟨a',o,kvs,rfl,e,dd,mm',lo,rfl,r⟩:=(e1 ▸ r1).dctI
 obtain ⟨ep,hat⟩:=KdkAt.of dd
 have hn:kvs.length < 5:=List.length_map (as:=kvs) (·.1) ▸ hc
 refine sorted_any (kdu_collect (kdl_dict (knd:=PySem.strKind prog w) (kvs:=kvs) (ep:=ep) lo) hA (hat.dictAt e) (le_line (lw (Nat.le_of_lt hn))) fun h' tk acc hk hacc=>?_)
 have hsz:acc.toList.length=kvs.length:=by rw [Array.length_toList]; exact hacc.1
 have hx:∀ i,i < acc.toList.length→∃ t,acc.toList.getD i Value.none=.str ((kvs.map (·.1)).getD i default) t:=fun i hi=>by
  have e1:acc[i]?=some (acc.toList[i]):=by rw [← Array.getElem?_toList]; exact List.getElem?_eq_getElem hi
  obtain ⟨k,x,e2,e3⟩:=hacc.2 i _ e1
  obtain ⟨t,e4⟩:=Value.isStrOf_shape e3
  refine ⟨t,?_⟩
  have q1:acc.toList.getD i Value.none=acc.toList[i]:=by simp only [List.getD_eq_getElem?_getD,List.getElem?_eq_getElem hi,Option.getD_some]
  have q2:(kvs.map (·.1)).getD i default=k:=by simp only [List.getD_eq_getElem?_getD,List.getElem?_map,e2]; rfl
  rw [q1,e4,q2]
 refine ⟨Nat.lt_of_le_of_lt (Nat.le_of_eq hsz) hn,sort_strs (xs:=kvs.map (·.1)) (Heap.get?_push_size _ rfl) (Nat.lt_of_le_of_lt (Nat.le_of_eq hsz) hn) (by rw [hsz,List.length_map]) hx fun h2 c hk2 hD=>⟨rfl,?_⟩⟩
 have hkk:∀ c o,s.heap.get? c=some o→h2.get? c=some o:=fun c o q=>hk2 c o (Nat.ne_of_lt (Heap.lt_size (hk c o q))) (Heap.get?_push_of_some _ (hk c o q))
 have hnone:s.heap.get? h'.objs.size=none:=none_grown hk
 refine e2 ▸ grown_lst2 (t:=tk) hS hkk hnone hD ⟨rfl,rfl⟩ ⟨_,rfl⟩ ?_
 unfold sortStrs
 rw [sortBy_ix,List.map_map]
 have base:DRs prog w h2 (Mt ad F) acc.toList ((kvs.map (·.1)).map D.str):=strs_get (by rw [hsz,List.length_map]) hx
 have pk:=base.pick (d0:=D.str default) (sortIx (fun i j=>strLt ((kvs.map (·.1)).getD i default) ((kvs.map (·.1)).getD j default)) acc.toList.length) (sortIx_lt (Nat.lt_of_le_of_lt (Nat.le_of_eq hsz) hn))
 rw [hsz] at pk
 rw [List.length_map]
 rw [hsz]
 have:(fun i=>((kvs.map (·.1)).map D.str).getD i (D.str default))=(D.str ∘ fun i=>(kvs.map (·.1)).getD i default):=by
  funext i
  simp only [Function.comp,List.getD_eq_getElem?_getD,List.getElem?_map]
  cases kvs[i]? <;> rfl
 rw [this] at pk
 exact pk
theorem ev_sortKeys {l:Lv} {n:Nat} (G:Gd prog w K mg mb b) (ih:Ev prog w b l n) {a:X} {x:PySem.Expr} {p q:Pos} {v:V} (hg:globB sc (Str.ofString "sorted")=true) (hx:Enc sc a x)
  (he:evE l env σ (.bi .sortKeys a)=some (v,σ')) (hA:Room A n) (hF:FR prog w b s.heap ad F sc renv env) (hS:SR prog w b F s.heap ad σ) :
  wpAny (model prog w) A (eval (.Call (.Name (Str.ofString "sorted") q) [x] [] p) renv) (EP prog w b F renv.locals s ad σ' v) E s:=by
 exact ev_biD G ih bil_sorted (.inl ⟨_,rfl⟩) hg hx he hA hF hS fun _ _ _ _ _ r S _ h=>p_sortKeys hA.1 r S h
end
theorem zipD_len:∀ {ks:List Str} {ds:List D},ks.length=ds.length→(zipD ks ds).length=ks.length
 | [],_,_=>by cases ‹List D› <;> rfl
 | k::ks,[],h=>by simp at h
 | k::ks,d::ds,h=>by
  show (zipD ks ds).length+1=_
  rw [zipD_len (by simpa using h)]; rfl
theorem zipD_get:∀ {ks:List Str} {ds:List D} {i:Nat} {k:Str} {d:D},ks[i]?=some k→ds[i]?=some d→(zipD ks ds)[i]?=some (.tup [.str k,d])
 | [],_,_,_,_,h,_=>by simp at h
 | k::ks,[],_,_,_,_,h=>by simp at h
 | k::ks,d::ds,0,_,_,h,h'=>by
  simp at h h'; subst h; subst h'; rfl
 | k::ks,d::ds,i+1,_,_,h,h'=>by
  show (zipD ks ds)[i]?=_
  exact zipD_get (by simpa using h) (by simpa using h')
section
variable {prog:Program} {w:World} {K:Frag} {mg mb:Str→Option Value} {b:Heap}
variable {h h':Heap} {F W fp:Addr→Prop} {ad ad' ad'' ad0:Adr} {σ σ' σ0:Sto} {s s' s'' s0:Shared} {A:Around} {E:Value→Shared→Prop} {sc scope:Scope} {renv:Env} {env:Env'} {L:Addr} {O:Addr→Prop}
theorem fresh_at {c:Addr} (h:s.heap.objs.size≤c):s.heap.get? c=none:=Heap.get?_none_of_le h
theorem zip_pairs {kvs:List (Str × Value)} {ds:List D} {lo:Addr} {as:List Addr} {M:Addr→Prop} (hG:KdxG (PySem.strKind prog w) kvs lo h' as) (hl:as.length=kvs.length) (r:DRs prog w h' M (kvs.map (·.2)) ds) (hM:∀ c,lo < c→¬ M c) :
  DRs prog w h' M (as.map Value.ref) (zipD (kvs.map (·.1)) ds):=by
 have hlen:(kvs.map (·.1)).length=ds.length:=by rw [← r.length,List.length_map,List.length_map]
 refine DRs.of_get (by rw [zipD_len hlen,List.length_map,List.length_map,hl]) fun k v hv=>?_
 rw [List.getElem?_map] at hv
 obtain ⟨a,ha,rfl⟩:=md hv
 obtain ⟨key,kk,x,e1,e2,e3⟩:=hG.pairs k a ha
 obtain ⟨t,rfl⟩:=Value.isStrOf_shape e2
 obtain ⟨d,e4,e5⟩:=r.getV (k:=k) (v:=x) (by rw [List.getElem?_map,e1]; rfl)
 exact ⟨_,zipD_get (by rw [List.getElem?_map,e1]; rfl) e4,.tup e3 rfl rfl (hM a (hG.above a (List.mem_of_getElem? ha))) (.cons (.str _ _) (.cons e5 .nil))⟩
theorem tups_of:∀ (vs:List Value),(∀ v ∈ vs,∃ (a:Addr) (t:Tok) (k:Str) (xs:List Value),v=.ref a∧h.get? a=some { cls:=.type "tuple", data:=.seq (Value.str k t::xs).toArray })→∃ fs,KatTups h vs fs∧fs.length=vs.length∧∀ f ∈ fs,∃ k t,f=.str k t
 | [],_=>⟨[],trivial,rfl,fun _ hf=>nomatch hf⟩
 | v::vs,hv=>by
  obtain ⟨fs,h1,h2,h3⟩:=tups_of vs fun u hu=>hv u (.tail _ hu)
  obtain ⟨a,t,k,xs,rfl,e⟩:=hv v (.head _)
  refine ⟨.str k t::fs,⟨⟨a,_,_,_,rfl,e,rfl,rfl,rfl⟩,h1⟩,by simp [h2],fun f hf=>?_⟩
  rcases List.mem_cons.mp hf with rfl | hf
  ·exact ⟨k,t,rfl⟩
  ·exact h3 f hf
theorem items_view {l:Lv} {n:Nat} (ih:Ev prog w b l n) {a:X} {x:PySem.Expr} {q2 p1:Pos} {d:D} {Q:Value→Shared→Prop} (hc:notCall x=true) (hx:Enc sc a x) (hl:(q2.endLine == p1.line)=true)
  (he:evD l env σ a=some (d,σ')) (hd:∃ ks ds,d=.dct ks ds) (hA:Room A n) (hF:FR prog w b s.heap ad F sc renv env) (hS:SR prog w b F s.heap ad σ)
  (h:∀ s1 ad1 a' o kvs ep ds h2,Mv renv.locals s ad s1 ad1→SR prog w b F s1.heap ad1 σ'→d=.dct (kvs.map (·.1)) ds→DRs prog w s1.heap (Mt ad1 F) (kvs.map (·.2)) ds→s1.heap.get? a'=some o→KdkAt (PySem.strKind prog w) o kvs ep →
   h2.IsItemsView s1.heap.objs.size a'→(∀ c o,s1.heap.get? c=some o→h2.get? c=some o)→s1.heap.objs.size < h2.objs.size→Q (.ref s1.heap.objs.size) { s1 with heap:=h2 }) :
  wpAny (model prog w) A (eval (.Call (.Attribute x (Str.ofString "items") q2) [] [] p1) renv) Q E s:=by
 obtain ⟨ks,ds,rfl⟩:=hd
 refine meth_call (es:=[]) hc rfl (by simp) hl PySem.F.plainAttrs_dict PySem.F.slot_dict_items PySem.F.type_dict_items (wpAny_mono (ih.d hx he hA hF hS) (fun u s1 z=>?_) fun _ _ z=>z)
 obtain ⟨ad1,m1,S1,r1⟩:=z
 obtain ⟨a',o,kvs,rfl,e,dd,mm',lo,rfl,r⟩:=r1.dctI
 obtain ⟨ep,hat⟩:=KdkAt.of dd
 have hD:s1.heap.DictOf (PySem.strKind prog w) a' kvs:=Heap.dictOf_iff.mpr ⟨o,e,dd⟩
 refine ⟨hD.typeIs,fun a'' e'=>by cases e'; obtain ⟨_,_,hx,_⟩:=dd; exact ⟨_,e,hx.2.1⟩,wpAny_items_nil ?_⟩
 refine call_meetsIn PySem.F.slot_dict_items hD.typeIs PySem.F.entry_dict_items (PySem.F.args_dict_items_1 _) (meets_dict_items (PySem.strKind prog w) a' lo) ⟨⟨kvs,hD⟩,?_⟩
 exact h s1 ad1 a' o kvs ep ds _ m1 S1 rfl r e hat ⟨_,Heap.get?_push_size _ rfl,rfl,rfl⟩ (fun c o q=>Heap.get?_push_of_some _ q) (by rw [Heap.size_push]; exact Nat.lt_succ_self _)
theorem ev_itemsD {l:Lv} {n:Nat} (G:Gd prog w K mg mb b) (ih:Ev prog w b l n) {a:X} {x:PySem.Expr} {p q1 q2 p1:Pos} {v:V} (hg:globB sc (Str.ofString "list")=true) (hc:notCall x=true) (hx:Enc sc a x) (hl:(q2.endLine == p1.line)=true)
  (he:evE l env σ (.bi .items a)=some (v,σ')) (hA:Room A n) (hF:FR prog w b s.heap ad F sc renv env) (hS:SR prog w b F s.heap ad σ) :
  wpAny (model prog w) A (eval (.Call (.Name (Str.ofString "list") q1) [.Call (.Attribute x (Str.ofString "items") q2) [] [] p1] [] p) renv) (EP prog w b F renv.locals s ad σ' v) E s:=by
 have he':((evD l env σ a).bind fun r=>(biD .items r.1).map fun d=>(V.d d,r.2))=some (v,σ'):=he
 obtain ⟨da,σ1,h1,h2⟩:=bp he'
 obtain ⟨d,h3,h4⟩:=md h2
 obtain ⟨rfl,rfl⟩:=pj h4
 cases da <;> (first | (exact nos h3; done) | skip)
 obtain ⟨hcc,rfl⟩:=lim_some h3
 have hcc:=of_decide_eq_true hcc
 refine bi_callG (fv:=.type "list") G hg bil_list rfl (fun r=>rfl) hF hS (.inr ⟨_,rfl⟩) (items_view ih hc hx hl h1 ⟨_,_,rfl⟩ hA hF hS fun s1 ad1 a' o kvs ep ds h2 m1 S1 hd r e hat hv hk hlt=>?_)
 cases hd
 refine kdx_call (kvs:=kvs) (ep:=ep) hA.1 hv (hat.dictAt (hk _ _ e)) (le_line (by simp at hcc; exact lw (Nat.le_of_lt hcc))) fun h3 tk acc c as hk3 hD hl3 hG hacc=>?_
 have hkk:∀ c o,s1.heap.get? c=some o→h3.get? c=some o:=fun c o q=>hk3 _ _ (hk _ _ q)
 refine EP.of_data ((grown_lst2 (t:=tk) S1 hkk (fresh_at (Nat.le_of_lt hlt)) hD ⟨rfl,rfl⟩ ⟨_,rfl⟩ ?_).after m1)
 rw [hacc]
 exact zip_pairs hG hl3 (r.mono fun a o m e=>⟨hkk _ _ e,m⟩) fun c hc=>S1.fresh (fresh_at (Nat.le_of_lt (Nat.lt_trans hlt hc)))
theorem ev_sortItems {l:Lv} {n:Nat} (G:Gd prog w K mg mb b) (ih:Ev prog w b l n) {a:X} {x:PySem.Expr} {p q1 q2 p1:Pos} {v:V} (hg:globB sc (Str.ofString "sorted")=true) (hc:notCall x=true) (hx:Enc sc a x) (hl:(q2.endLine == p1.line)=true)
  (he:evE l env σ (.bi .sortItems a)=some (v,σ')) (hA:Room A n) (hF:FR prog w b s.heap ad F sc renv env) (hS:SR prog w b F s.heap ad σ) :
  wpAny (model prog w) A (eval (.Call (.Name (Str.ofString "sorted") q1) [.Call (.Attribute x (Str.ofString "items") q2) [] [] p1] [] p) renv) (EP prog w b F renv.locals s ad σ' v) E s:=by
 have he':((evD l env σ a).bind fun r=>(biD .sortItems r.1).map fun d=>(V.d d,r.2))=some (v,σ'):=he
 obtain ⟨da,σ1,h1,h2⟩:=bp he'
 obtain ⟨d,h3,h4⟩:=md h2
 obtain ⟨rfl,rfl⟩:=pj h4
 cases da <;> (first | (exact nos h3; done) | skip)
 obtain ⟨hcc,rfl⟩:=lim_some h3
 rw [Bool.and_eq_true,decide_eq_true_eq,decide_eq_true_eq] at hcc
 refine bi_callG (fv:=.builtin "sorted") G hg bil_sorted rfl (fun r=>rfl) hF hS (.inl ⟨_,rfl⟩) (items_view ih hc hx hl h1 ⟨_,_,rfl⟩ hA hF hS fun s1 ad1 a' o kvs ep ds h2 m1 S1 hd r e hat hv hk hlt=>?_)
 cases hd
 obtain ⟨hn,hnd⟩:=hcc
 rw [List.length_map] at hn
 refine sorted_any (kdx_collect (A:=A.in1) (knd:=PySem.strKind prog w) (kvs:=kvs) (ep:=ep) hA.1 hv (hat.dictAt (hk _ _ e)) (le_line (lw (Nat.le_of_lt hn))) fun h3 tk as hk3 hl3 hG=>?_)
 have hkk:∀ c o,s1.heap.get? c=some o→h3.get? c=some o:=fun c o q=>hk3 _ _ (hk _ _ q)
 have hsz:(as.map Value.ref).length=kvs.length:=by rw [List.length_map,hl3]
 have hpair:∀ i,i < kvs.length→∃ a t k x,(as.map Value.ref).getD i Value.none=.ref a∧h3.get? a=some { cls:=.type "tuple", data:=.seq #[.str k t,x] }∧kvs[i]?=some (k,x):=fun i hi=>by
  have ha:as[i]?=some as[i]:=List.getElem?_eq_getElem (Nat.lt_of_lt_of_eq hi hl3.symm)
  obtain ⟨key,k,x,e1,e2,e3⟩:=hG.pairs i _ ha
  obtain ⟨t,rfl⟩:=Value.isStrOf_shape e2
  exact ⟨_,t,k,x,by simp [List.getD_eq_getElem?_getD,ha],e3,e1⟩
 have hs5:=Nat.lt_of_le_of_lt (Nat.le_of_eq hsz) hn
 refine ⟨hs5,list_sort_at (κ:=tuples' true) (cmp:=fun i j=>strLt ((kvs.map (·.1)).getD i default) ((kvs.map (·.1)).getD j default)) (Heap.get?_push_size _ rfl) hs5 (fun h2' h4 hk4 Q q=>?_) (fun i j hi hj hij h4 hk4 C q=>?_) fun h4 c hk4 hD=>⟨rfl,?_⟩⟩
 ·obtain ⟨fs,hT,hfl,hfs⟩:=tups_of (h:=h4) (as.map Value.ref) fun v hv=>by
   obtain ⟨i,hi,rfl⟩:=List.getElem_of_mem hv
   obtain ⟨a,t,k,x,e1,e2,e3⟩:=hpair i (Nat.lt_of_lt_of_eq hi hsz)
   have q1:(as.map Value.ref).getD i Value.none=(as.map Value.ref)[i]:=by simp only [List.getD_eq_getElem?_getD,List.getElem?_eq_getElem hi,Option.getD_some]
   exact ⟨a,t,k,[x],by rw [← q1]; exact e1,hk4 _ _ (Nat.ne_of_lt (Heap.lt_size e2)) (Heap.get?_push_of_some _ e2)⟩
  refine kat_kind (T:=.type "str") hT (Nat.lt_of_lt_of_eq (Nat.lt_of_lt_of_le (by decide) h2') hfl.symm) (fun v hv=>?_) (by decide) q
  obtain ⟨k,t,rfl⟩:=hfs v hv
  exact Looks.of_pure rfl
 ·obtain ⟨a1,t1,k1,x1,e1,e2,e3⟩:=hpair i (Nat.lt_of_lt_of_eq hi hsz)
  obtain ⟨a2,t2,k2,x2,g1,g2,g3⟩:=hpair j (Nat.lt_of_lt_of_eq hj hsz)
  rw [e1,g1]
  refine kat_lt (hk4 _ _ (Nat.ne_of_lt (Heap.lt_size e2)) (Heap.get?_push_of_some _ e2)) rfl (hk4 _ _ (Nat.ne_of_lt (Heap.lt_size g2)) (Heap.get?_push_of_some _ g2)) rfl ?_
  refine kat_cons (wpAny_eqBool_str ?_)
  have q1:(kvs.map (·.1)).getD i default=k1:=by simp only [List.getD_eq_getElem?_getD,List.getElem?_map,e3]; rfl
  have q2:(kvs.map (·.1)).getD j default=k2:=by simp only [List.getD_eq_getElem?_getD,List.getElem?_map,g3]; rfl
  have hne:k1 ≠ k2:=fun z=>hij ((List.getElem?_inj (l:=kvs.map (·.1)) (by rw [List.length_map,← hsz]; exact hi) hnd).mp (by rw [List.getElem?_map,List.getElem?_map,e3,g3]; exact congrArg some z))
  rw [decide_eq_false hne]
  refine kat_no (oneLt_str ?_)
  rw [q1,q2] at q
  exact q
 ·have hkk4:∀ c o,s1.heap.get? c=some o→h4.get? c=some o:=fun c o q=>hk4 c o (Nat.ne_of_lt (Heap.lt_size (hkk c o q))) (Heap.get?_push_of_some _ (hkk c o q))
  have hnone:s1.heap.get? h3.objs.size=none:=by
   cases z:s1.heap.get? h3.objs.size with
   | none=>rfl
   | some o=>exact absurd (Heap.lt_size (hkk _ _ z)) (Nat.lt_irrefl _)
  refine EP.of_data ((grown_lst2 (t:=tk) S1 hkk4 hnone hD ⟨rfl,rfl⟩ ⟨_,rfl⟩ ?_).after m1)
  have rr:=r.mono (h':=h3) (M':=Mt ad1 F) fun a o m e=>⟨hkk _ _ e,m⟩
  have base:=zip_pairs hG hl3 rr fun c hc=>S1.fresh (fresh_at (Nat.le_of_lt (Nat.lt_trans hlt hc)))
  have base4:=base.mono (h':=h4) (M':=Mt ad1 F) fun c o m e=>⟨hk4 c o (Nat.ne_of_lt (Heap.lt_size e)) (Heap.get?_push_of_some _ e),m⟩
  have pk:=base4.pick (d0:=D.none) (sortIx (fun i j=>strLt ((kvs.map (·.1)).getD i default) ((kvs.map (·.1)).getD j default)) (as.map Value.ref).length) (sortIx_lt hs5)
  have hlen:=(List.length_map (·.1) (as:=kvs)).trans ((List.length_map (·.2) (as:=kvs)).symm.trans r.length)
  rw [hsz] at pk
  rw [sortBy_ix,zipD_len hlen,hsz,List.length_map]
  exact pk
end
theorem dl_entry:entryFor table "dict.update.loop" = some Builtin.«dict.update.loop»:=entryFor_of_tree (by kernel_rfl)
theorem dl_plain:plainId "dict.update.loop" = true:=by decide +kernel
theorem miss_keys:typeLookup (.type "list") "keys" = pure none:=am_miss_of_fast (by kernel_rfl)
section
variable {prog:Program} {w:World} {K:Frag} {mg mb:Str→Option Value} {b:Heap}
variable {h h':Heap} {F W fp:Addr→Prop} {ad ad' ad'' ad0:Adr} {σ σ' σ0:Sto} {s s' s'' s0:Shared} {A:Around} {E:Value→Shared→Prop} {sc scope:Scope} {renv:Env} {env:Env'} {L:Addr} {O:Addr→Prop}
theorem keys_miss {a:Addr} {o:Obj} {xs:Array Value} {k:Nat} {Q:Option Value→Shared→Prop}
  (hx:s.heap.get? a=some o) (hc:o.cls=.type "list") (hdat:o.data=.seq xs k) (hd:o.dict=none) (hA:A.handled=none)
  (h:∀ h' tk,(∀ b o,s.heap.get? b=some o→h'.get? b=some o)→Q none { s with heap:=h',toks:=tk }) :
  wpAny (model prog w) A (getAttr? (.ref a) (Str.ofString "keys")) Q E s:=by
 obtain ⟨c,dct,dat,sl⟩:=o
 simp only at hc hdat hd
 subst hc hdat hd
 obtain ⟨hp,g,d,tk,os⟩:=s
 have hT:∀ tk',(⟨hp,g,d,tk',os⟩:Shared).TypeIs (.ref a) "list" := fun _=>⟨_,hx,rfl⟩
 have f1:=sub_AttributeError
 have f3:=PySem.F.slot_list_getattribute.lookup
 have f4:=PySem.F.slot_list_getattribute.bind (.ref a)
 have f5:=am_list_getattr_none
 have hmiss:=miss_keys
 have hname:(["__module__", "__name__", "__qualname__", "__doc__", "__annotations__"]:List Str).contains (Str.ofString "keys")=false:=by decide
 unfold getAttr? getAttrBy? getAttrBy
 repeat (any_goals (first | assumption | exact hT _ | ((with_reducible show wpAny _ _ (call (Value.builtin "list.__getattribute__") _ _) _ _ _); refine call_meets PySem.F.slot_list_getattribute (hT _) am_entry_list_getattribute (PySem.F.args_list_getattribute_2 _ _) (meets_getattribute_miss_list a xs k sl _ _ hmiss hname (by size_fits)) ⟨hx,hA,fun h' tk' e hx'=>?_⟩) | wp_step))
 obtain ⟨t',u',he⟩:=hx'.there
 show wpAny _ _ (getattributeRaised _ _ _ _ _ _ _) _ _ _
 unfold getattributeRaised
 repeat (any_goals (first | assumption | wp_step))
 exact h _ _ hx'.keeps
end
section
variable {prog:Program} {w:World} {K:Frag} {mg mb:Str→Option Value} {b:Heap}
variable {h h':Heap} {F W fp:Addr→Prop} {ad ad' ad'' ad0:Adr} {σ σ' σ0:Sto} {s s' s'' s0:Shared} {A:Around} {E:Value→Shared→Prop} {sc scope:Scope} {renv:Env} {env:Env'} {L:Addr} {O:Addr→Prop}
noncomputable def PairAt (h:Heap) (v:Value) (p:Str × Value):Prop:=∃ (a:Addr) (o:Obj) (n:Nat) (t:Tok),v=.ref a∧h.get? a=some o∧o.cls=.type "tuple" ∧ o.data=.seq #[.str p.1 t,p.2] n
theorem dict_loop {R:Result→Shared→Prop} {Dd I a:Addr} (hh:A.handled=none) (hDI:Dd ≠ I) {vs:Array Value} {ps:List (Str × Value)} {h₁:Heap} (hn:(ps.map (·.1)).Nodup) (hl:vs.size=ps.length) (hsz:ps.length≤1000)
  (hDa:h₁.get? Dd=none) (hIa:h₁.get? I=none) (hla:h₁.IsList a vs) (hp:∀ (i:Nat) v p,vs[i]?=some v→ps[i]?=some p→PairAt h₁ v p)
  (hR:∀ h' tk,(∀ c o,h₁.get? c=some o→h'.get? c=some o)→h'.DictOf (PySem.strKind prog w) Dd ps→R (.ok (.ret .none)) { s with heap:=h',toks:=tk }) :
  ∀ (k i:Nat) (h:Heap) (tk:Nat),ps.length - i=k→i≤ps.length→(∀ c o,h₁.get? c=some o→h.get? c=some o)→h.IsListIter I a i→h.DictOf (PySem.strKind prog w) Dd (ps.take i) →
   codeAny (model prog w) A (.builtin "dict.update.loop" ⟨[.ref Dd,.ref I,rawInt (i:Int),.none],[]⟩) R { s with heap:=h,toks:=tk }:=by
 intro k
 induction k with
 | zero =>
  intro i h tk hk hi hkp hit hD
  refine codeAny_builtin dl_entry ?_
  rw [Around.under_plainId dl_plain _]
  show wpAny _ A.in1 (pyNext (.ref I) >>= _) _ _ _
  refine wpAny_bind (wpAny_pyNext_list_end (s:={ s with heap:=h,toks:=tk }) (A:=A.in1) hh hit (hla.at fun o q=>hkp _ _ q) (Array.getElem?_eq_none (Nat.le_trans (Nat.le_of_eq hl) (Nat.le_of_sub_eq_zero hk))) fun h' he=>?_)
  show wpAny _ _ (Builtin.Dict.addKeywords Dd [] >>= _) _ _ _
  refine wpAny_bind (wpAny_pure (wpAny_pure (hR h' tk (fun c o q=>he c o (fun z=>by rw [z,hIa] at q; exact nos q) (hkp _ _ q)) ?_)))
  have:ps.take i=ps:=List.take_of_length_le (Nat.le_of_sub_eq_zero hk)
  rw [this] at hD
  exact hD.extBut he hDI
 | succ k ih =>
  intro i h tk hk hi hkp hit hD
  have hlt:i < ps.length:=Nat.lt_of_sub_eq_succ hk
  have hv:vs[i]?=some vs[i]:=Array.getElem?_eq_getElem (Nat.lt_of_lt_of_eq hlt hl.symm)
  have hpp:ps[i]?=some ps[i]:=List.getElem?_eq_getElem hlt
  obtain ⟨ta,o,n,t,hva,ho,hc,hd⟩:=hp i _ _ hv hpp
  refine codeAny_builtin dl_entry ?_
  rw [Around.under_plainId dl_plain _]
  show wpAny _ A.in1 (pyNext (.ref I) >>= _) _ _ _
  refine wpAny_bind (wpAny_pyNext_list_item (s:={ s with heap:=h,toks:=tk }) (A:=A.in1) hit (hla.at fun o q=>hkp _ _ q) hv fun h' hit' hs'=>?_)
  have hk':∀ c o,h₁.get? c=some o→h'.get? c=some o:=fun c o q=>hs'.extBut c o (fun z=>by rw [z,hIa] at q; exact nos q) (hkp _ _ q)
  rw [hva]
  dsimp only
  have hto:=hk' _ _ ho
  have hTy:Shared.TypeIs { s with heap:=h',toks:=tk } (.ref ta) "tuple" := ⟨o,hto,hc⟩
  refine wpAny_bind (wpAny_holding ?_)
  refine wpAny_bind (wpAny_tryCatch ?_)
  unfold Builtin.Dict.pairItems
  refine wpAny_bind (wpAny_typeOf hTy ?_)
  have e1:(Value.type "tuple" == Value.type "list" || Value.type "tuple" == Value.type "tuple")=true:=by decide
  rw [if_pos e1]
  refine wpAny_bind (wpAny_seqItems hto hd (wpAny_pure ?_))
  dsimp only [Option.getD]
  show wpAny _ _ (holding [_,_] (dictSet Dd _ _)) _ _ _
  refine wpAny_holding ?_
  have hD':h'.DictOf (PySem.strKind prog w) Dd (ps.take i):=hD.extBut hs'.extBut hDI
  refine wpAny_dictSet_pairs (s:={ s with heap:=h',toks:=tk }) (knd:=PySem.strKind prog w) (strKind_is prog w _ t) hD' (fun h2 hD2 hs2=>?_) (le_line (by rw [List.length_take]; exact Nat.le_trans (Nat.min_le_right ..) hsz))
  have hst:stored (ps.take i) ps[i].1 ps[i].2=ps.take (i+1):=by
   have hnot:valueAt (ps.take i) ps[i].1=none:=by
    unfold valueAt
    rw [Option.map_eq_none_iff,List.find?_eq_none]
    intro p hpm hz
    obtain ⟨j,hj,e⟩:=List.getElem_of_mem hpm
    rw [List.length_take] at hj
    have hz':p.1=ps[i].1:=by simpa using hz
    rw [List.getElem_take] at e
    have:j=i:=(List.getElem?_inj (l:=ps.map (·.1)) (by rw [List.length_map]; exact Nat.lt_of_lt_of_le hj (Nat.min_le_right ..)) hn).mp (by rw [List.getElem?_map,List.getElem?_map,hpp,List.getElem?_eq_getElem (Nat.lt_of_lt_of_le hj (Nat.min_le_right ..)),e]; exact congrArg some hz')
    exact Nat.ne_of_lt (Nat.lt_of_lt_of_le hj (Nat.min_le_left ..)) this
   rw [stored_absent hnot,List.take_add_one,hpp]
   rfl
  rw [hst] at hD2
  have hk2:∀ c o,h₁.get? c=some o→h2.get? c=some o:=fun c o q=>hs2.extBut c o (fun z=>by rw [z,hDa] at q; exact nos q) (hk' _ _ q)
  refine wpAny_pure ⟨plainId_quiet dl_plain _,?_⟩
  have:=ih (i+1) h2 (tk+1) (sub1 hk) hlt hk2 (by obtain ⟨o,ho,r⟩:=hit'; exact ⟨o,hs2.extBut _ _ (Ne.symm hDI) ho,r⟩) hD2
  have ei:((i+1:Nat):Int)=(i:Int)+1:=rfl
  rw [ei] at this
  exact this
theorem call_dict_pairs {a:Addr} {o:Obj} {vs:Array Value} {n:Nat} {ps:List (Str × Value)} {Q:Value→Shared→Prop} (hh:A.handled=none) (hn:(ps.map (·.1)).Nodup) (hl:vs.size=ps.length) (hsz:ps.length≤1000)
  (ho:s.heap.get? a=some o) (hc:o.cls=.type "list") (hod:o.dict=none) (hd:o.data=.seq vs n) (hp:∀ (i:Nat) v p,vs[i]?=some v→ps[i]?=some p→PairAt s.heap v p)
  (h:∀ h' tk,(∀ c o,s.heap.get? c=some o→h'.get? c=some o)→h'.DictOf (PySem.strKind prog w) s.heap.objs.size ps→Q (.ref s.heap.objs.size) { s with heap:=h',toks:=tk }) :
  wpAny (model prog w) A (call (.type "dict") [.ref a]) Q E s:=by
 refine callType_codes (Q₁:=fun obj s₁=>obj=.ref s.heap.objs.size∧s₁={ s with heap:=s.heap.push { cls:=.type "dict", data:=.dict #[] } }) PySem.F.kt_called_dict (PySem.F.kt_typeCall_dict_1 _) PySem.F.entry_dict_init (kt_code_dict_new _ ⟨rfl,rfl⟩) ?_
 rintro obj s₁ ⟨rfl,rfl⟩
 have hnew:(s.heap.push { cls:=.type "dict", data:=.dict #[] }).DictOf (PySem.strKind prog w) s.heap.objs.size []:=Heap.DictOf.new s.heap
 have hpu:∀ c o,s.heap.get? c=some o→(s.heap.push { cls:=.type "dict", data:=.dict #[] }).get? c=some o:=fun c o q=>Heap.get?_push_of_some _ q
 refine ⟨hnew.typeIs,PySem.F.args_dict_init_2 _ _,?_⟩
 unfold Builtin.«dict.__init__»
 refine wpAny_bind ?_
 unfold Builtin.Dict.selfAndRest
 refine wpAny_bind (wpAny_notOrdered_dict hnew.typeIs ?_)
 show wpAny _ _ (pure (s.heap.objs.size,[Value.ref a])) _ _ _
 refine wpAny_pure ?_
 show wpAny _ _ (Builtin.Dict.updateFrom "dict.__init__" s.heap.objs.size (.ref a) [] .none) _ _ _
 unfold Builtin.Dict.updateFrom
 refine wpAny_bind (wpAny_typeOf (T := "list") ⟨o,hpu _ _ ho,hc⟩ ?_)
 rw [if_pos (by decide)]
 refine wpAny_bind (keys_miss (hpu _ _ ho) hc hd hod hh fun h2 tk hk2=>?_)
 rw [if_pos (by rfl)]
 refine wpAny_bind (wpAny_rule ?_)
 have hk3:∀ c o,s.heap.get? c=some o→h2.get? c=some o:=fun c o q=>hk2 _ _ (hpu _ _ q)
 have hla:h2.IsList a vs:=⟨o,hk3 _ _ ho,hc,n,hd⟩
 have hlt:s.heap.objs.size < h2.objs.size:=by
  obtain ⟨_,_,_,q,_⟩:=hnew
  exact Heap.lt_size (hk2 _ _ q)
 refine wpAny_bind (wpAny_pyIter_list hla ?_)
 refine wpAny_pure ⟨plainId_quiet dl_plain _,?_⟩
 refine dict_loop (A:=A.in1) (s:=s) (h₁:=s.heap) (ps:=ps) (vs:=vs) (a:=a) hh (Nat.ne_of_lt hlt) hn hl hsz (fresh_at (Nat.le_refl _)) (fresh_at (Nat.le_of_lt hlt)) ⟨o,ho,hc,n,hd⟩ hp (fun h' tk hk hD=>⟨rfl,h h' tk hk hD⟩) ps.length 0 _ tk rfl (Nat.zero_le _) (fun c o q=>Heap.get?_push_of_some _ (hk3 _ _ q)) ⟨_,Heap.get?_push_size _ rfl,rfl,rfl⟩ ?_
 exact (Heap.DictOf.keep hnew hk2).push _
inductive PairsI (prog:Program) (w:World) (h:Heap) (M:Addr→Prop) (us:List Value) (ks:List Str) (vd:List D):Prop
 | mk (ps:List (Str × Value)):ps.map (·.1)=ks→DRs prog w h M (ps.map (·.2)) vd→us.length=ps.length→(∀ (i:Nat) v p,us[i]?=some v→ps[i]?=some p→PairAt h v p)→PairsI prog w h M us ks vd
inductive Pairs1 (d:D) (ds:List D) (ks:List Str) (vd:List D):Prop
 | mk (x:Str) (v:D) (ks':List Str) (vd':List D):d=.tup [.str x,v]→pairsOf' ds=some (ks',vd')→x::ks'=ks→v::vd'=vd→Pairs1 d ds ks vd
theorem pairs_cons {d:D} {ds vd:List D} {ks:List Str} (h:pairsOf' (d::ds)=some (ks,vd)):Pairs1 d ds ks vd:=by
 induction d using D.casesOn with
 | tup ds2 =>
  rcases ds2 with _ | ⟨d1,_ | ⟨v,_ | ⟨_,_⟩⟩⟩
  ·exact nos h
  ·induction d1 using D.casesOn <;> exact nos h
  ·induction d1 using D.casesOn with
   | str x =>
    obtain ⟨ks',vd',h1,h2⟩:=mpp (show (pairsOf' ds).map (fun p=>(x::p.1,v::p.2))=some (ks,vd) from h)
    exact ⟨x,v,ks',vd',rfl,h1,(pj h2).1,(pj h2).2⟩
   | _=>exact nos h
  ·induction d1 using D.casesOn <;> exact nos h
 | _=>exact nos h
theorem pair_vals {M:Addr→Prop} {vs:List Value} {x:Str} {v:D} (r:DRs prog w h M vs [.str x,v]):∃ t v2,vs=[.str x t,v2]∧DR prog w h M v2 v:=by
 obtain ⟨v1,r1,rfl,a1,a2⟩:=r.consI
 obtain ⟨v2,r2,rfl,a3,a4⟩:=a2.consI
 obtain rfl:=a4.nilI
 obtain ⟨t,rfl⟩:=a1.strI
 exact ⟨t,v2,rfl,a3⟩
theorem pairs_vals {M:Addr→Prop}:∀ {us:List Value} {ds:List D} {ks:List Str} {vd:List D},pairsOf' ds=some (ks,vd)→DRs prog w h M us ds→PairsI prog w h M us ks vd:=by
 intro us
 induction us with
 | nil =>
  intro ds ks vd hp r
  rcases ds with _ | ⟨d,ds⟩
  ·exact ⟨[],(so2 hp).1,(so2 hp).2 ▸ .nil,rfl,fun i v p q=>nomatch q⟩
  ·exact nomatch r.length
 | cons u us ih =>
  intro ds ks vd hp r
  rcases ds with _ | ⟨d,ds⟩
  ·exact nomatch r.length
  ·obtain ⟨u',us',e0,hu,hr⟩:=r.consI
   have e0:=List.cons.inj e0
   obtain ⟨x,v,ks',vd',e1,h1,e2,e3⟩:=pairs_cons hp
   obtain ⟨ps,p1,p2,p4,p3⟩:=ih h1 (e0.2 ▸ hr)
   obtain ⟨ta,o,tv,n,e4,g1,g2,g3,g4,g5⟩:=(e1 ▸ hu).tupI
   obtain ⟨t,v2,q1,q3⟩:=pair_vals g5
   refine ⟨(x,v2)::ps,by rw [← e2,← p1]; rfl,e3 ▸ .cons q3 p2,congrArg (·+1) p4,fun i w' p' z1 z2=>?_⟩
   rcases i with _ | i
   ·obtain rfl:=so1 z1
    obtain rfl:=so1 z2
    exact ⟨ta,o,n,t,e0.1.trans e4,g1,g2,by rw [g3]; congr 1; exact Array.toList_inj.mp q1⟩
   ·exact p3 i w' p' z1 z2
theorem dict_inv {da d:D} (h:biD .dict da=some d):∃ ds ks vd,da=.lst ds∧pairsOf' ds=some (ks,vd)∧ks.Nodup∧small ds=true∧.dct ks vd=d:=by
 induction da using D.casesOn with
 | lst ds =>
  obtain ⟨ks,vd,h5,h6⟩:=bp h
  obtain ⟨hc,e⟩:=lim_some h6
  obtain ⟨a1,a2⟩:=Bool.and_eq_true_iff.mp hc
  exact ⟨ds,ks,vd,rfl,h5,of_decide_eq_true a1,a2,e.symm⟩
 | _=>exact nos h
theorem p_dict {rv:Value} {da d:D} (G:Gd prog w K mg mb b) (hA:A.handled=none) (r1:DR prog w s.heap (Mt ad F) rv da) (hS:SR prog w b F s.heap ad σ) (h3:biD .dict da=some d):wpAny (model prog w) A (call (.type "dict") [rv]) (DP prog w b F L s ad σ d) E s:=by
 obtain ⟨ds,ks,vd,e1,h5,hnd,hsm,e2⟩:=dict_inv h3
 obtain ⟨a',o,vs,n',rfl,e,c,dd,mm',r⟩:=(e1 ▸ r1).lstN
 obtain ⟨ps,p1,p2,p4,p3⟩:=pairs_vals h5 r
 refine call_dict_pairs hA (ps:=ps) (vs:=vs) (p1 ▸ hnd) p4 (Nat.le_trans (Nat.le_of_eq p4.symm) (size_le r hsm)) e c.1 c.2 dd (fun i v p q1 q2=>p3 i v p ((Array.getElem?_toList ..).trans q1) q2) fun h' tk hk hD=>?_
 obtain ⟨m2,S2⟩:=sto_grow (L:=L) (t:=tk) hS hk
 obtain ⟨o',ho',hdo⟩:=Heap.dictOf_iff.mp hD
 exact e2 ▸ ⟨ad,m2,S2,.dct ho' hdo (hS.fresh (fresh_at (Nat.le_refl _))) (G.notMod hS) p1 (p2.mono fun a o m e=>⟨hk _ _ e,m⟩)⟩
theorem ev_dict {l:Lv} {n:Nat} (G:Gd prog w K mg mb b) (ih:Ev prog w b l n) {a:X} {x:PySem.Expr} {p q:Pos} {v:V} (hg:globB sc (Str.ofString "dict")=true) (hx:Enc sc a x)
  (he:evE l env σ (.bi .dict a)=some (v,σ')) (hA:Room A n) (hF:FR prog w b s.heap ad F sc renv env) (hS:SR prog w b F s.heap ad σ) :
  wpAny (model prog w) A (eval (.Call (.Name (Str.ofString "dict") q) [x] [] p) renv) (EP prog w b F renv.locals s ad σ' v) E s:=by
 exact ev_biD G ih bil_dict (.inr ⟨_,rfl⟩) hg hx he hA hF hS fun _ _ _ _ _ r S _ h=>p_dict G hA.1 r S h
end
theorem zip_no_len:typeLookup (.type "zip") "__len__" = pure none:=by rw [typeLookup_type,builtinLookup_eq_fast]; kernel_rfl
theorem zip_no_hint:typeLookup (.type "zip") "__length_hint__" = pure none:=by rw [typeLookup_type,builtinLookup_eq_fast]; kernel_rfl
section
variable {prog:Program} {w:World} {A:Around} {E:Value→Shared→Prop} {s:Shared}
theorem zt_item {z TI TO i1 i2 l1 l2:Addr} {k1 k2:Nat} {xs ys:Array Value} {x y a b:Value} {Q:Value→Shared→Prop} (D:ZipApart z TI TO i1 i2 l1 l2)
  (hz:IsZip s.heap z TI TO .none) (hTI:IsPair s.heap TI (.ref i1) (.ref i2)) (hTO:IsPair s.heap TO a b)
  (h1:s.heap.IsTupleIter i1 l1 k1) (h2:s.heap.IsTupleIter i2 l2 k2) (hl1:s.heap.IsTuple l1 xs) (hl2:s.heap.IsTuple l2 ys) (hx:xs[k1]?=some x) (hy:ys[k2]?=some y)
  (hQ:∀ h',IsZip h' z TI TO (rawInt s.heap.objs.size)→IsPair h' TO x y→h'.IsTupleIter i1 l1 (k1+1)→h'.IsTupleIter i2 l2 (k2+1)→IsPair h' s.heap.objs.size x y→h'.objs.size=s.heap.objs.size+1 →
   (∀ c o,c ≠ z→c ≠ TO→c ≠ i1→c ≠ i2→s.heap.get? c=some o→h'.get? c=some o)→Q (.ref s.heap.objs.size) { s with heap:=h' }) :
  wpAny (model prog w) A (Builtin.«zip.__next__» ⟨[.ref z],[]⟩) (fun fin s'=>∃ v,fin=.done (.ret v)∧Q v s') E s:=by
 show wpAny _ _ (field (.ref z) 2 >>= _) _ _ _
 refine wpAny_bind (wpAny_field hz rfl (x:=.bool false) rfl ?_)
 show wpAny _ _ (field (.ref z) 3 >>= _) _ _ _
 refine wpAny_bind (wpAny_field hz rfl (x:=.ref TI) rfl ?_)
 refine wpAny_bind (wpAny_seqItems hTI rfl ?_)
 show wpAny _ _ (Builtin.SmallTypes.ownedTupleIsFree (.ref z) >>= _) _ _ _
 refine wpAny_bind ?_
 unfold Builtin.SmallTypes.ownedTupleIsFree
 refine wpAny_bind (wpAny_field hz rfl (x:=.none) rfl (wpAny_pure ?_))
 simp only [if_true]
 refine wpAny_bind (wpAny_rule ?_)
 refine wpAny_bind (wpAny_field hz rfl (x:=.ref TO) rfl ?_)
 refine wpAny_bind (wpAny_setField_rec hz (by simp) fun h₁ hz₁ hs₁=>?_)
 replace hz₁:IsZip h₁ z TI TO .ellipsis:=hz₁
 refine wpAny_bind ?_
 simp only [List.zipIdx_cons,List.zipIdx_nil,List.forIn_cons,List.forIn_nil]
 refine wpAny_bind (wpAny_bind (wpAny_onRaise ?_))
 show wpAny _ _ (Builtin.SmallTypes.nextOf (.ref i1) >>= _) _ _ _
 refine wpAny_bind (draw_item (h1.extBut hs₁.extBut D.i1z) (hl1.extBut hs₁.extBut D.l1z) hx fun h₂ h1₂ hs₂=>wpAny_pure ?_)
 have hTO₂:IsPair h₂ TO a b:=hs₂.extBut _ _ D.TOi1 (hs₁.extBut _ _ D.TOz hTO)
 refine wpAny_bind (wpAny_seqItems hTO₂ rfl ?_)
 refine wpAny_bind (wpAny_updateSeq_pair hTO₂ fun h₃ hTO₃ hs₃=>?_)
 replace hTO₃:IsPair h₃ TO x b:=hTO₃
 refine wpAny_bind (wpAny_letGo (wpAny_pure ?_))
 refine wpAny_bind (wpAny_bind (wpAny_onRaise ?_))
 show wpAny _ _ (Builtin.SmallTypes.nextOf (.ref i2) >>= _) _ _ _
 refine wpAny_bind (draw_item (((h2.extBut hs₁.extBut D.i2z).extBut hs₂.extBut D.i12.symm).extBut hs₃.extBut D.TOi2.symm)
  (((hl2.extBut hs₁.extBut D.l2z).extBut hs₂.extBut D.l2i1).extBut hs₃.extBut D.l2TO) hy fun h₄ h2₄ hs₄=>wpAny_pure ?_)
 have hTO₄:IsPair h₄ TO x b:=hs₄.extBut _ _ D.TOi2 hTO₃
 refine wpAny_bind (wpAny_seqItems hTO₄ rfl ?_)
 refine wpAny_bind (wpAny_updateSeq_pair hTO₄ fun h₅ hTO₅ hs₅=>?_)
 replace hTO₅:IsPair h₅ TO x y:=hTO₅
 refine wpAny_bind (wpAny_letGo (wpAny_pure (wpAny_pure ?_)))
 refine wpAny_bind (wpAny_seqItems hTO₅ rfl ?_)
 refine wpAny_bind (wpAny_newTuple ?_)
 have hsz:h₅.objs.size=s.heap.objs.size:=by rw [hs₅.1,hs₄.1,hs₃.1,hs₂.1,hs₁.1]
 have hz₅:IsZip h₅ z TI TO .ellipsis:=hs₅.extBut _ _ D.TOz.symm (hs₄.extBut _ _ D.i2z.symm (hs₃.extBut _ _ D.TOz.symm (hs₂.extBut _ _ D.i1z.symm hz₁)))
 have hk₅:∀ c o,c ≠ z→c ≠ TO→c ≠ i1→c ≠ i2→s.heap.get? c=some o→h₅.get? c=some o:=fun c o c1 c2 c3 c4 e =>
  hs₅.extBut _ _ c2 (hs₄.extBut _ _ c4 (hs₃.extBut _ _ c2 (hs₂.extBut _ _ c3 (hs₁.extBut _ _ c1 e))))
 have h1₅:h₅.IsTupleIter i1 l1 (k1+1):=((h1₂.extBut hs₃.extBut D.TOi1.symm).extBut hs₄.extBut D.i12).extBut hs₅.extBut D.TOi1.symm
 have h2₅:h₅.IsTupleIter i2 l2 (k2+1):=h2₄.extBut hs₅.extBut D.TOi2.symm
 have hzlt:z < h₅.objs.size:=Heap.lt_size hz₅
 have hTOlt:TO < h₅.objs.size:=Heap.lt_size hTO₅
 have hi1lt:i1 < h₅.objs.size:=by obtain ⟨_,e,_⟩:=h1₅; exact Heap.lt_size e
 have hi2lt:i2 < h₅.objs.size:=by obtain ⟨_,e,_⟩:=h2₅; exact Heap.lt_size e
 show wpAny _ _ (Builtin.SmallTypes.ownedTupleHandOut (.ref z) (.ref h₅.objs.size) >>= _) _ _ _
 refine wpAny_bind ?_
 unfold Builtin.SmallTypes.ownedTupleHandOut
 have hz₆:IsZip (h₅.push { cls:=.type "tuple", data:=.seq #[x,y] }) z TI TO .ellipsis:=Heap.get?_push_of_some _ hz₅
 refine wpAny_bind (wpAny_setField_rec hz₆ (by simp) fun h₇ hz₇ hs₇=>?_)
 replace hz₇:IsZip h₇ z TI TO (rawInt h₅.objs.size):=hz₇
 refine wpAny_setField_rec hz₇ (by simp) fun h₈ hz₈ hs₈=>?_
 replace hz₈:IsZip h₈ z TI TO (rawInt h₅.objs.size):=hz₈
 have up:∀ c o,c ≠ z→h₅.get? c=some o→h₈.get? c=some o:=fun c o c1 e=>hs₈.extBut _ _ c1 (hs₇.extBut _ _ c1 (Heap.get?_push_of_some _ e))
 have hT₈:IsPair h₈ h₅.objs.size x y:=hs₈.extBut _ _ (Nat.ne_of_gt hzlt) (hs₇.extBut _ _ (Nat.ne_of_gt hzlt) (Heap.get?_push_size _ rfl))
 have hz8:h₈.objs.size=h₅.objs.size+1:=by rw [hs₈.1,hs₇.1,Heap.size_push]
 rw [hsz] at hz₈ hT₈ hz8
 refine wpAny_pure ⟨_,rfl,?_⟩
 show Q (.ref h₅.objs.size) _
 rw [hsz]
 exact hQ h₈ hz₈ (up _ _ D.TOz hTO₅) (h1₅.at fun o e=>up _ o D.i1z e) (h2₅.at fun o e=>up _ o D.i2z e) hT₈ hz8 fun c o c1 c2 c3 c4 e=>up c o c1 (hk₅ c o c1 c2 c3 c4 e)
theorem zt_end {z TI TO i1 i2 l1 l2:Addr} {k1 k2:Nat} {xs ys:Array Value} {a b:Value} {Q:Fin→Shared→Prop} (hh:A.handled=none) (D:ZipApart z TI TO i1 i2 l1 l2)
  (hz:IsZip s.heap z TI TO .none) (hTI:IsPair s.heap TI (.ref i1) (.ref i2)) (hTO:IsPair s.heap TO a b)
  (h1:s.heap.IsTupleIter i1 l1 k1) (h2:s.heap.IsTupleIter i2 l2 k2) (hl1:s.heap.IsTuple l1 xs) (hl2:s.heap.IsTuple l2 ys) (hend:xs[k1]?=none ∨ ys[k2]?=none)
  (hE:∀ h' e,(∀ c o,c ≠ z→c ≠ TO→c ≠ i1→c ≠ i2→s.heap.get? c=some o→h'.get? c=some o)→(∃ o,h'.get? e=some o∧o.cls=.type "StopIteration")→E (.ref e) { s with heap:=h' }) :
  wpAny (model prog w) A (Builtin.«zip.__next__» ⟨[.ref z],[]⟩) Q E s:=by
 show wpAny _ _ (field (.ref z) 2 >>= _) _ _ _
 refine wpAny_bind (wpAny_field hz rfl (x:=.bool false) rfl ?_)
 show wpAny _ _ (field (.ref z) 3 >>= _) _ _ _
 refine wpAny_bind (wpAny_field hz rfl (x:=.ref TI) rfl ?_)
 refine wpAny_bind (wpAny_seqItems hTI rfl ?_)
 show wpAny _ _ (Builtin.SmallTypes.ownedTupleIsFree (.ref z) >>= _) _ _ _
 refine wpAny_bind ?_
 unfold Builtin.SmallTypes.ownedTupleIsFree
 refine wpAny_bind (wpAny_field hz rfl (x:=.none) rfl (wpAny_pure ?_))
 simp only [if_true]
 refine wpAny_bind (wpAny_rule ?_)
 refine wpAny_bind (wpAny_field hz rfl (x:=.ref TO) rfl ?_)
 refine wpAny_bind (wpAny_setField_rec hz (by simp) fun h₁ hz₁ hs₁=>?_)
 replace hz₁:IsZip h₁ z TI TO .ellipsis:=hz₁
 refine wpAny_bind ?_
 simp only [List.zipIdx_cons,List.zipIdx_nil,List.forIn_cons,List.forIn_nil]
 refine wpAny_bind (wpAny_bind (wpAny_onRaise ?_))
 show wpAny _ _ (Builtin.SmallTypes.nextOf (.ref i1) >>= _) _ _ _
 cases hx:xs[k1]? with
 | none =>
  refine wpAny_bind (draw_end hh (h1.extBut hs₁.extBut D.i1z) (hl1.extBut hs₁.extBut D.l1z) hx fun h₂ e hs₂ he=>?_)
  obtain ⟨oe,hoe,hce⟩:=he
  have hz₂:IsZip h₂ z TI TO .ellipsis:=hs₂ _ _ D.i1z.symm hz₁
  have hez:e ≠ z:=fun x=>by subst x; rw [hz₂] at hoe; obtain rfl:=so1 hoe; simp at hce
  refine wpAny_setField_rec hz₂ (by simp) fun h₃ _ hs₃=>hE h₃ e (fun c o c1 _ c3 _ x=>hs₃.extBut _ _ c1 (hs₂ _ _ c3 (hs₁.extBut _ _ c1 x))) ⟨oe,hs₃.extBut _ _ hez hoe,hce⟩
 | some x =>
  have hy:ys[k2]?=none:=by rcases hend with h | h; rw [hx] at h; cases h; exact h
  refine wpAny_bind (draw_item (h1.extBut hs₁.extBut D.i1z) (hl1.extBut hs₁.extBut D.l1z) hx fun h₂ h1₂ hs₂=>wpAny_pure ?_)
  have hTO₂:IsPair h₂ TO a b:=hs₂.extBut _ _ D.TOi1 (hs₁.extBut _ _ D.TOz hTO)
  refine wpAny_bind (wpAny_seqItems hTO₂ rfl ?_)
  refine wpAny_bind (wpAny_updateSeq_pair hTO₂ fun h₃ hTO₃ hs₃=>?_)
  refine wpAny_bind (wpAny_letGo (wpAny_pure ?_))
  refine wpAny_bind (wpAny_bind (wpAny_onRaise ?_))
  show wpAny _ _ (Builtin.SmallTypes.nextOf (.ref i2) >>= _) _ _ _
  refine wpAny_bind (draw_end hh (((h2.extBut hs₁.extBut D.i2z).extBut hs₂.extBut D.i12.symm).extBut hs₃.extBut D.TOi2.symm)
   (((hl2.extBut hs₁.extBut D.l2z).extBut hs₂.extBut D.l2i1).extBut hs₃.extBut D.l2TO) hy fun h₄ e hs₄ he=>?_)
  obtain ⟨oe,hoe,hce⟩:=he
  have hz₄:IsZip h₄ z TI TO .ellipsis:=hs₄ _ _ D.i2z.symm (hs₃.extBut _ _ D.TOz.symm (hs₂.extBut _ _ D.i1z.symm hz₁))
  have hez:e ≠ z:=fun x=>by subst x; rw [hz₄] at hoe; obtain rfl:=so1 hoe; simp at hce
  refine wpAny_setField_rec hz₄ (by simp) fun h₅ _ hs₅=>hE h₅ e (fun c o c1 c2 c3 c4 x=>hs₅.extBut _ _ c1 (hs₄ _ _ c4 (hs₃.extBut _ _ c2 (hs₂.extBut _ _ c3 (hs₁.extBut _ _ c1 x))))) ⟨oe,hs₅.extBut _ _ hez hoe,hce⟩
noncomputable abbrev ZipB (h:Heap) (z TI TO:Addr) (T:Addr) (f:Bool):Prop :=
 h.get? z=some { cls:=.type "zip", dict:=none,data:=.fields #[rawInt T,.bool f,.bool false,.ref TI,.ref TO],slots:=#[] }
theorem zt_kept {z TI TO T:Addr} {f:Bool} {oT:Obj} {Q:Bool→Shared→Prop} (hz:ZipB s.heap z TI TO T f) (hT:s.heap.get? T=some oT) (h:∀ h',ZipB h' z TI TO T true→Heap.SameBut z s.heap h'→Q false { s with heap:=h' }) :
  wpAny (model prog w) A (Builtin.SmallTypes.ownedTupleIsFree (.ref z)) Q E s:=by
 unfold Builtin.SmallTypes.ownedTupleIsFree
 refine wpAny_bind (wpAny_field hz rfl (x:=rawInt T) rfl ?_)
 show wpAny _ _ (loadIfAlive ((T:Int).toNat) >>= _) _ _ _
 rw [Int.toNat_natCast]
 refine wpAny_bind (kdx_alive hT ?_)
 simp only [Option.isNone_some,Bool.false_eq_true,if_false]
 refine wpAny_bind (wpAny_field hz rfl (x:=.bool f) rfl ?_)
 cases f with
 | true =>
  rw [if_neg (show ¬ ((Value.bool true != Value.bool true)=true) from Bool.false_ne_true)]
  exact wpAny_pure (h _ hz (Heap.SameBut.refl _ _))
 | false =>
  rw [if_pos (show (Value.bool false != Value.bool true)=true from rfl)]
  exact wpAny_bind (wpAny_setField_rec hz (by simp) fun h' hz' hs'=>wpAny_pure (h h' hz' hs'))
theorem zt_item2 {z TI TO T i1 i2 l1 l2:Addr} {f:Bool} {oT:Obj} {k1 k2:Nat} {xs ys:Array Value} {x y:Value} {Q:Value→Shared→Prop} (D:ZipApart z TI TO i1 i2 l1 l2)
  (hz:ZipB s.heap z TI TO T f) (hTI:IsPair s.heap TI (.ref i1) (.ref i2)) (hT:s.heap.get? T=some oT)
  (h1:s.heap.IsTupleIter i1 l1 k1) (h2:s.heap.IsTupleIter i2 l2 k2) (hl1:s.heap.IsTuple l1 xs) (hl2:s.heap.IsTuple l2 ys) (hx:xs[k1]?=some x) (hy:ys[k2]?=some y)
  (hQ:∀ h',ZipB h' z TI TO T true→h'.IsTupleIter i1 l1 (k1+1)→h'.IsTupleIter i2 l2 (k2+1)→IsPair h' s.heap.objs.size x y→h'.objs.size=s.heap.objs.size+1 →
   (∀ c o,c ≠ z→c ≠ i1→c ≠ i2→s.heap.get? c=some o→h'.get? c=some o)→Q (.ref s.heap.objs.size) { s with heap:=h' }) :
  wpAny (model prog w) A (Builtin.«zip.__next__» ⟨[.ref z],[]⟩) (fun fin s'=>∃ v,fin=.done (.ret v)∧Q v s') E s:=by
 show wpAny _ _ (field (.ref z) 2 >>= _) _ _ _
 refine wpAny_bind (wpAny_field hz rfl (x:=.bool false) rfl ?_)
 show wpAny _ _ (field (.ref z) 3 >>= _) _ _ _
 refine wpAny_bind (wpAny_field hz rfl (x:=.ref TI) rfl ?_)
 refine wpAny_bind (wpAny_seqItems hTI rfl ?_)
 show wpAny _ _ (Builtin.SmallTypes.ownedTupleIsFree (.ref z) >>= _) _ _ _
 refine wpAny_bind (zt_kept hz hT fun h₁ hz₁ hs₁=>?_)
 simp only [Bool.false_eq_true,if_false]
 refine wpAny_bind ?_
 simp only [← Array.forIn_toList,List.forIn_cons,List.forIn_nil]
 refine wpAny_bind (wpAny_bind (wpAny_holding ?_))
 show wpAny _ _ (Builtin.SmallTypes.nextOf (.ref i1) >>= _) _ _ _
 refine wpAny_bind (draw_item (h1.extBut hs₁.extBut D.i1z) (hl1.extBut hs₁.extBut D.l1z) hx fun h₂ h1₂ hs₂=>wpAny_pure (wpAny_pure ?_))
 refine wpAny_bind (wpAny_bind (wpAny_holding ?_))
 show wpAny _ _ (Builtin.SmallTypes.nextOf (.ref i2) >>= _) _ _ _
 refine wpAny_bind (draw_item ((h2.extBut hs₁.extBut D.i2z).extBut hs₂.extBut D.i12.symm) ((hl2.extBut hs₁.extBut D.l2z).extBut hs₂.extBut D.l2i1) hy fun h₃ h2₃ hs₃=>wpAny_pure (wpAny_pure (wpAny_pure ?_)))
 have hsz:h₃.objs.size=s.heap.objs.size:=by rw [hs₃.1,hs₂.1,hs₁.1]
 refine wpAny_bind (wpAny_newTuple (wpAny_pure ⟨_,rfl,?_⟩) (by show 2≤sizeLine; rw [sizeLine_eq]; decide))
 show Q (.ref h₃.objs.size) _
 have hp:=Heap.get?_push_size h₃ (o:={ cls:=.type "tuple", data:=.seq #[x,y] }) rfl
 rw [hsz] at hp ⊢
 have h1₃:=h1₂.extBut hs₃.extBut D.i12
 refine hQ _ (Heap.get?_push_of_some _ (hs₃.extBut _ _ D.i2z.symm (hs₂.extBut _ _ D.i1z.symm hz₁))) (h1₃.at fun o e=>Heap.get?_push_of_some _ e) (h2₃.at fun o e=>Heap.get?_push_of_some _ e) hp (by rw [Heap.size_push,hsz]) fun c o c1 c3 c4 e=>?_
 exact Heap.get?_push_of_some _ (hs₃.extBut _ _ c4 (hs₂.extBut _ _ c3 (hs₁.extBut _ _ c1 e)))
theorem zt_end2 {z TI TO T i1 i2 l1 l2:Addr} {f:Bool} {oT:Obj} {k1 k2:Nat} {xs ys:Array Value} {Q:Fin→Shared→Prop} (hh:A.handled=none) (D:ZipApart z TI TO i1 i2 l1 l2)
  (hz:ZipB s.heap z TI TO T f) (hTI:IsPair s.heap TI (.ref i1) (.ref i2)) (hT:s.heap.get? T=some oT)
  (h1:s.heap.IsTupleIter i1 l1 k1) (hl1:s.heap.IsTuple l1 xs) (hx:xs[k1]?=none)
  (hE:∀ h' e,(∀ c o,c ≠ z→c ≠ i1→s.heap.get? c=some o→h'.get? c=some o)→(∃ o,h'.get? e=some o∧o.cls=.type "StopIteration")→E (.ref e) { s with heap:=h' }) :
  wpAny (model prog w) A (Builtin.«zip.__next__» ⟨[.ref z],[]⟩) Q E s:=by
 show wpAny _ _ (field (.ref z) 2 >>= _) _ _ _
 refine wpAny_bind (wpAny_field hz rfl (x:=.bool false) rfl ?_)
 show wpAny _ _ (field (.ref z) 3 >>= _) _ _ _
 refine wpAny_bind (wpAny_field hz rfl (x:=.ref TI) rfl ?_)
 refine wpAny_bind (wpAny_seqItems hTI rfl ?_)
 show wpAny _ _ (Builtin.SmallTypes.ownedTupleIsFree (.ref z) >>= _) _ _ _
 refine wpAny_bind (zt_kept hz hT fun h₁ hz₁ hs₁=>?_)
 simp only [Bool.false_eq_true,if_false]
 refine wpAny_bind ?_
 simp only [← Array.forIn_toList,List.forIn_cons,List.forIn_nil]
 refine wpAny_bind (wpAny_bind (wpAny_holding ?_))
 show wpAny _ _ (Builtin.SmallTypes.nextOf (.ref i1) >>= _) _ _ _
 refine wpAny_bind (draw_end hh (h1.extBut hs₁.extBut D.i1z) (hl1.extBut hs₁.extBut D.l1z) hx fun h₂ e hs₂ he=>?_)
 exact hE h₂ e (fun c o c1 c3 x=>hs₂ _ _ c3 (hs₁.extBut _ _ c1 x)) he
end
section
variable {prog:Program} {w:World} {A:Around} {E:Value→Shared→Prop} {s:Shared}
noncomputable abbrev ztH1 (h:Heap) (l1:Addr):Heap:=h.push { cls:=.type "tuple_iterator", data:=.fields #[.ref l1,.int 0 0] }
noncomputable abbrev ztH2 (h:Heap) (l1 l2:Addr):Heap:=(ztH1 h l1).push { cls:=.type "tuple_iterator", data:=.fields #[.ref l2,.int 0 0] }
noncomputable abbrev ztH3 (h:Heap) (l1 l2:Addr):Heap:=(ztH2 h l1 l2).push { cls:=.type "tuple", data:=.seq #[.ref h.objs.size,.ref (ztH1 h l1).objs.size] }
noncomputable abbrev ztH4 (h:Heap) (l1 l2:Addr):Heap:=(ztH3 h l1 l2).push { cls:=.type "tuple", data:=.seq #[.none,.none] }
noncomputable abbrev ztH5 (h:Heap) (l1 l2:Addr):Heap:=(ztH4 h l1 l2).push { cls:=.type "zip", data:=.fields #[.none,.bool false,.bool false,.ref (ztH2 h l1 l2).objs.size,.ref (ztH3 h l1 l2).objs.size] }
theorem meets_zt_new (l1 l2:Addr) (xs ys:Array Value) :
  Meets (Builtin.«zip.__new__» ⟨[.type "zip", .ref l1,.ref l2],[]⟩) (fun _ R s=>s.heap.IsTuple l1 xs∧s.heap.IsTuple l2 ys ∧
   R (.ok (.ret (.ref (ztH4 s.heap l1 l2).objs.size))) { s with heap:=ztH5 s.heap l1 l2 }) :=
 .of_wp fun prog w A R s h=>by
  obtain ⟨hp,g,d,tk,os⟩:=s; obtain ⟨hl1,hl2,h⟩:=h
  have hsub:=sub_zip
  have hL1:Heap.IsTuple (Shared.heap ⟨hp,g,d,tk,os⟩) l1 xs:=hl1
  have hL2:Heap.IsTuple (Shared.heap ⟨hp.push { cls:=.type "tuple_iterator", data:=.fields #[.ref l1,.int 0 0] },g,d,tk,os⟩) l2 ys:=Heap.IsTuple.push hl2 _
  wp_walk using wpAny_pyIter_tuple hL1,wpAny_pyIter_tuple hL2
  exact ⟨_,rfl,h⟩
theorem call_zt {l1 l2:Addr} {xs ys:Array Value} {Q:Value→Shared→Prop} (hl1:s.heap.IsTuple l1 xs) (hl2:s.heap.IsTuple l2 ys)
  (h:∀ h',IsZip h' (s.heap.objs.size+4) (s.heap.objs.size+2) (s.heap.objs.size+3) .none→IsPair h' (s.heap.objs.size+2) (.ref s.heap.objs.size) (.ref (s.heap.objs.size+1)) →
   IsPair h' (s.heap.objs.size+3) .none .none→h'.IsTupleIter s.heap.objs.size l1 0→h'.IsTupleIter (s.heap.objs.size+1) l2 0→h'.objs.size=s.heap.objs.size+5 →
   (∀ c o,s.heap.get? c=some o→h'.get? c=some o)→Q (.ref (s.heap.objs.size+4)) { s with heap:=h' }) :
  wpAny (model prog w) A (call (.type "zip") [.ref l1,.ref l2]) Q E s:=by
 refine callType_new PySem.F.called_zip (by decide) (PySem.F.typeCall_zip_2 _ _) (PySem.F.newCall_zip_2 _ _) (fun obj=>PySem.F.args_object_init_3 obj _ _) PySem.F.entry_zip_new
  (meets_zt_new l1 l2 xs ys) ⟨hl1,hl2,?_⟩
 have z1:(ztH1 s.heap l1).objs.size=s.heap.objs.size+1:=Heap.size_push ..
 have z2:(ztH2 s.heap l1 l2).objs.size=s.heap.objs.size+2:=by rw [Heap.size_push,z1]
 have z3:(ztH3 s.heap l1 l2).objs.size=s.heap.objs.size+3:=by rw [Heap.size_push,z2]
 have z4:(ztH4 s.heap l1 l2).objs.size=s.heap.objs.size+4:=by rw [Heap.size_push,z3]
 have z5:(ztH5 s.heap l1 l2).objs.size=s.heap.objs.size+5:=by rw [Heap.size_push,z4]
 have g5:(ztH5 s.heap l1 l2).get? (ztH4 s.heap l1 l2).objs.size=some _:=Heap.get?_push_size _ rfl
 have g4:(ztH5 s.heap l1 l2).get? (ztH3 s.heap l1 l2).objs.size=some _:=Heap.get?_push_of_some _ (Heap.get?_push_size _ rfl)
 have g3:(ztH5 s.heap l1 l2).get? (ztH2 s.heap l1 l2).objs.size=some _:=Heap.get?_push_of_some _ (Heap.get?_push_of_some _ (Heap.get?_push_size _ rfl))
 have g2:(ztH5 s.heap l1 l2).get? (ztH1 s.heap l1).objs.size=some _:=Heap.get?_push_of_some _ (Heap.get?_push_of_some _ (Heap.get?_push_of_some _ (Heap.get?_push_size _ rfl)))
 have g1:(ztH5 s.heap l1 l2).get? s.heap.objs.size=some _:=Heap.get?_push_of_some _ (Heap.get?_push_of_some _ (Heap.get?_push_of_some _ (Heap.get?_push_of_some _ (Heap.get?_push_size _ rfl))))
 show _∧_
 rw [z2,z3,z4] at g5
 rw [z1,z2] at g3
 rw [z3] at g4
 rw [z1] at g2
 rw [z4]
 exact ⟨⟨_,g5,rfl⟩,h _ g5 g3 g4 ⟨_,g1,rfl,rfl⟩ ⟨_,g2,rfl,rfl⟩ z5 fun c o x =>
  Heap.get?_push_of_some _ (Heap.get?_push_of_some _ (Heap.get?_push_of_some _ (Heap.get?_push_of_some _ (Heap.get?_push_of_some _ x))))⟩
structure ZS (lo l1 l2:Nat) (xs ys:Array Value) (h:Heap) (i:Nat):Prop where
 pair:IsPair h (lo+2) (.ref lo) (.ref (lo+1))
 it1:h.IsTupleIter lo l1 i
 it2:h.IsTupleIter (lo+1) l2 i
 t1:h.IsTuple l1 xs
 t2:h.IsTuple l2 ys
 own:(IsZip h (lo+4) (lo+2) (lo+3) .none∧∃ a b,IsPair h (lo+3) a b) ∨ (∃ (T:Nat) (f:Bool) (oT:Obj),ZipB h (lo+4) (lo+2) (lo+3) T f∧h.get? T=some oT∧lo+5≤T)
theorem ZS.type {lo l1 l2:Nat} {xs ys:Array Value} {i:Nat} (st:ZS lo l1 l2 xs ys s.heap i):s.TypeIs (.ref (lo+4)) "zip" := by
 rcases st.own with ⟨z,_⟩ | ⟨_,_,_,z,_⟩
 ·exact ⟨_,z,rfl⟩
 ·exact ⟨_,z,rfl⟩
theorem ZS.big {lo l1 l2:Nat} {xs ys:Array Value} {h:Heap} {i:Nat} (st:ZS lo l1 l2 xs ys h i):lo+5≤h.objs.size:=by
 rcases st.own with ⟨z,_⟩ | ⟨_,_,_,z,_⟩
 ·exact Heap.lt_size z
 ·exact Heap.lt_size z
theorem zs_apart {lo l1 l2:Nat} (h1:l1 < lo) (h2:l2 < lo):ZipApart (lo+4) (lo+2) (lo+3) lo (lo+1) l1 l2:=by
 refine ⟨?_,?_,?_,?_,?_,?_,?_,?_,?_,?_,?_,?_,?_,?_,?_,?_,?_,?_⟩ <;> first | exact nn | exact nel (k:=0) h1 | exact nel (k:=0) h2 | exact nel h1 | exact nel h2 | exact nn (i:=0) | exact nn (j:=0)
theorem ZS.keep {lo l1 l2:Nat} {xs ys:Array Value} {h h':Heap} {i:Nat} {S:Nat} (st:ZS lo l1 l2 xs ys h i) (h1:l1 ≠ S) (h2:l2 ≠ S) (hS:S < lo) (hk:∀ (c:Nat) o,c ≠ S→h.get? c=some o→h'.get? c=some o):ZS lo l1 l2 xs ys h' i:=by
 refine ⟨hk _ _ (nel hS).symm st.pair,st.it1.at fun o=>hk _ _ (Nat.ne_of_gt hS),st.it2.at fun o=>hk _ _ (nel hS).symm,st.t1.at fun o=>hk _ _ h1,st.t2.at fun o=>hk _ _ h2,?_⟩
 rcases st.own with ⟨z,a,b,q⟩ | ⟨T,f,oT,z,q,r⟩
 ·exact .inl ⟨hk _ _ (nel hS).symm z,a,b,hk _ _ (nel hS).symm q⟩
 ·exact .inr ⟨T,f,oT,hk _ _ (nel hS).symm z,hk _ _ (Nat.ne_of_gt (Nat.lt_of_lt_of_le hS (adL r))) q,r⟩
theorem zs_item {lo l1 l2:Nat} {xs ys:Array Value} {i:Nat} {x y:Value} {Q:Option Value→Shared→Prop} (h1:l1 < lo) (h2:l2 < lo) (st:ZS lo l1 l2 xs ys s.heap i) (hx:xs[i]?=some x) (hy:ys[i]?=some y)
  (hQ:∀ h',ZS lo l1 l2 xs ys h' (i+1)→IsPair h' s.heap.objs.size x y→h'.objs.size=s.heap.objs.size+1→(∀ (c:Nat) o,(c < lo ∨ lo+5≤c)→s.heap.get? c=some o→h'.get? c=some o)→Q (some (.ref s.heap.objs.size)) { s with heap:=h' }) :
  wpAny (model prog w) A (pyNext (.ref (lo+4))) Q E s:=by
 have hT:=st.type
 have D:=zs_apart h1 h2
 have hb:=st.big
 unfold pyNext
 refine wpAny_bind (wpAny_attempt (wpAny_callSpecial?_slot (name:=Str.ofString "__next__") hT PySem.F.slot_zip_next
  (wpAny_call_entry PySem.F.slot_zip_next hT PySem.F.entry_zip_next ?_ (PySem.F.args_zip_next_1 _))))
 rcases st.own with ⟨z,a,b,q⟩ | ⟨T,f,oT,z,q,r⟩
 ·refine zt_item D z st.pair q st.it1 st.it2 st.t1 st.t2 hx hy fun h' a1 a2 a3 a4 a5 a6 a7=>wpAny_pure (hQ h' ⟨a7 _ _ nn nn (nn (j:=0)) nn st.pair,a3,a4,st.t1.at fun o=>a7 _ _ (nel h1) (nel h1) (Nat.ne_of_lt h1) (nel h1),st.t2.at fun o=>a7 _ _ (nel h2) (nel h2) (Nat.ne_of_lt h2) (nel h2),.inr ⟨_,_,_,a1,a5,hb⟩⟩ a5 a6 fun c o hc=>a7 c o (no5 hc) (no5 hc) (no5 (k:=0) hc) (no5 hc))
 ·refine zt_item2 D z st.pair q st.it1 st.it2 st.t1 st.t2 hx hy fun h' a1 a3 a4 a5 a6 a7=>wpAny_pure (hQ h' ⟨a7 _ _ nn (nn (j:=0)) nn st.pair,a3,a4,st.t1.at fun o=>a7 _ _ (nel h1) (Nat.ne_of_lt h1) (nel h1),st.t2.at fun o=>a7 _ _ (nel h2) (Nat.ne_of_lt h2) (nel h2),.inr ⟨_,_,_,a1,a7 _ _ (no5 (.inr r)) (no5 (k:=0) (.inr r)) (no5 (.inr r)) q,r⟩⟩ a5 a6 fun c o hc=>a7 c o (no5 hc) (no5 (k:=0) hc) (no5 hc))
theorem zs_end {lo l1 l2:Nat} {xs ys:Array Value} {i:Nat} {Q:Option Value→Shared→Prop} (hh:A.handled=none) (h1:l1 < lo) (h2:l2 < lo) (st:ZS lo l1 l2 xs ys s.heap i) (hx:xs[i]?=none)
  (hQ:∀ h',(∀ (c:Nat) o,(c < lo ∨ lo+5≤c)→s.heap.get? c=some o→h'.get? c=some o)→Q none { s with heap:=h' }) :
  wpAny (model prog w) A (pyNext (.ref (lo+4))) Q E s:=by
 have hT:=st.type
 have D:=zs_apart h1 h2
 have hb:=st.big
 unfold pyNext
 refine wpAny_bind (wpAny_attempt (wpAny_callSpecial?_slot (name:=Str.ofString "__next__") hT PySem.F.slot_zip_next
  (wpAny_call_entry PySem.F.slot_zip_next hT PySem.F.entry_zip_next ?_ (PySem.F.args_zip_next_1 _))))
 rcases st.own with ⟨z,a,b,q⟩ | ⟨T,f,oT,z,q,r⟩
 ·refine zt_end hh D z st.pair q st.it1 st.it2 st.t1 st.t2 (.inl hx) fun h' e hk he=>?_
  obtain ⟨o,ho,hc⟩:=he
  refine wpAny_bind (wpAny_isInstance (T := "StopIteration") (b:=true) ⟨o,ho,hc⟩ isSubtype_stop ?_)
  exact wpAny_pure (hQ _ fun c o hc=>hk c o (no5 hc) (no5 hc) (no5 (k:=0) hc) (no5 hc))
 ·refine zt_end2 (k2:=0) (ys:=#[]) hh D z st.pair q st.it1 st.t1 hx fun h' e hk he=>?_
  obtain ⟨o,ho,hc⟩:=he
  refine wpAny_bind (wpAny_isInstance (T := "StopIteration") (b:=true) ⟨o,ho,hc⟩ isSubtype_stop ?_)
  exact wpAny_pure (hQ _ fun c o hc=>hk c o (no5 hc) (no5 (k:=0) hc))
noncomputable def Zips (lo:Nat) (xs ys:Array Value) (h:Heap) (as:List Nat):Prop:=∀ (j a:Nat),as[j]?=some a→lo+5≤a∧∃ x y,xs[j]?=some x∧ys[j]?=some y∧IsPair h a x y
theorem zip_loop {R:Result→Shared→Prop} {lo l1 l2 S:Nat} {xs ys vs0:Array Value} (hh:A.handled=none) (h1:l1 < lo) (h2:l2 < lo) (hS:S < lo) (e1:l1 ≠ S) (e2:l2 ≠ S) (hxy:xs.size=ys.size) (hsz:vs0.size+xs.size≤1000) {h₁:Heap} (hlo:h₁.objs.size=lo)
  (hR:∀ h' acc c (as:List Nat),(∀ (c:Nat) o,c ≠ S→h₁.get? c=some o→h'.get? c=some o)→h'.get? S=some (seqObj "list" acc c)→acc.toList=vs0.toList++as.map Value.ref→as.length=xs.size→Zips lo xs ys h' as→R (.ok (.ret .none)) { s with heap:=h' }) :
  ∀ (k i:Nat) (h:Heap) (c:Nat) (acc:Array Value) (as:List Nat),xs.size - i=k→i≤xs.size→ZS lo l1 l2 xs ys h i→(∀ (c:Nat) o,c ≠ S→h₁.get? c=some o→h.get? c=some o)→h.get? S=some (seqObj "list" acc c)→acc.toList=vs0.toList++as.map Value.ref→as.length=i→Zips lo xs ys h as →
   codeAny (model prog w) A (.builtin "list.extend.loop" ⟨[.ref S,.ref (lo+4),.none],[]⟩) R { s with heap:=h }:=by
 intro k
 induction k with
 | zero =>
  intro i h c acc as hk hi st hkp hSS hacc hal hZ
  refine codeAny_builtin PySem.F.entry_extend_loop ?_
  rw [Around.under_plainId PySem.F.plain_extend_loop _]
  show wpAny _ A.in1 (pyNext (.ref (lo+4)) >>= _) _ _ _
  refine wpAny_bind (zs_end (s:={ s with heap:=h }) (A:=A.in1) hh h1 h2 st (Array.getElem?_eq_none (Nat.le_of_sub_eq_zero hk)) fun h' hk'=>?_)
  refine wpAny_pure (hR h' acc c as (fun c o hc q=>hk' c o (.inl (by rw [← hlo]; exact Heap.lt_size q)) (hkp c o hc q)) (hk' _ _ (.inl hS) hSS) hacc (hal.trans (Nat.le_antisymm hi (Nat.le_of_sub_eq_zero hk))) fun j a hj=>?_)
  obtain ⟨a1,x,y,a2,a3,a4⟩:=hZ j a hj
  exact ⟨a1,x,y,a2,a3,hk' _ _ (.inr a1) a4⟩
 | succ k ih =>
  intro i h c acc as hk hi st hkp hSS hacc hal hZ
  have hlt:i < xs.size:=Nat.lt_of_sub_eq_succ hk
  have hb:=st.big
  have hvi:vs0.size+(i+1)≤1000:=Nat.le_trans (Nat.add_le_add_left hlt _) hsz
  have hasz:acc.size=vs0.size+i:=by rw [← Array.length_toList,hacc,List.length_append,List.length_map,hal,Array.length_toList]
  refine codeAny_builtin PySem.F.entry_extend_loop ?_
  rw [Around.under_plainId PySem.F.plain_extend_loop _]
  show wpAny _ A.in1 (pyNext (.ref (lo+4)) >>= _) _ _ _
  refine wpAny_bind (zs_item (s:={ s with heap:=h }) (A:=A.in1) h1 h2 st (Array.getElem?_eq_getElem hlt) (Array.getElem?_eq_getElem (show i < ys.size from hxy ▸ hlt)) fun h' st' hp hz hk'=>?_)
  dsimp only at hp hz hk' ⊢
  have hSS':=hk' _ _ (.inl hS) hSS
  have up:∀ (b:Nat) o,b ≠ S→h'.get? b=some o→(h'.update S (Obj.mapSeq (·.push (Value.ref h.objs.size)))).get? b=some o:=fun b o hb e=>(Heap.get?_update_other _ _ (Ne.symm hb)).trans e
  show wpAny _ A.in1 (updateSeq S (·.push (Value.ref h.objs.size)) >>= _) _ _ _
  refine wpAny_bind ?_
  refine wpAny_updateSeq hSS' rfl (wpAny_pure ⟨plainId_quiet PySem.F.plain_extend_loop _,ih (i+1) _ _ (acc.push (Value.ref h.objs.size)) (as++[h.objs.size]) (sub1 hk) hlt (st'.keep e1 e2 hS up)
   (fun b o hb e=>up b o hb (hk' b o (.inl (by rw [← hlo]; exact Heap.lt_size e)) (hkp b o hb e))) (Heap.get?_update_self _ hSS' rfl) (by rw [Array.toList_push,hacc,List.map_append,List.append_assoc]; rfl) (by rw [List.length_append,hal]; rfl) fun j a hj=>?_⟩) (by rw [hasz,sizeLine_eq]; exact lw (lw0 hvi)) (by show (acc.push (Value.ref h.objs.size)).size≤sizeLine+1; rw [Array.size_push,hasz,sizeLine_eq]; exact lw hvi)
  rcases Nat.lt_trichotomy j as.length with q | q | q
  ·rw [List.getElem?_append_left q] at hj
   obtain ⟨a1,x,y,a2,a3,a4⟩:=hZ j a hj
   exact ⟨a1,x,y,a2,a3,up _ _ (Nat.ne_of_gt (Nat.lt_of_lt_of_le hS (adL a1))) (hk' _ _ (.inr a1) a4)⟩
  ·subst q
   have ha:h.objs.size=a:=by simpa using hj
   subst ha
   exact ⟨hb,_,_,by rw [hal]; exact Array.getElem?_eq_getElem hlt,by rw [hal]; exact Array.getElem?_eq_getElem (show i < ys.size from hxy ▸ hlt),up _ _ (Nat.ne_of_gt (Nat.lt_of_lt_of_le hS (adL hb))) hp⟩
  ·have hnone:(as++[h.objs.size])[j]?=none:=List.getElem?_eq_none (by rw [List.length_append,List.length_singleton]; exact q)
   rw [hnone] at hj; exact nos hj
theorem zip_extend {R:Result→Shared→Prop} {lo l1 l2 S:Nat} {xs ys vs0:Array Value} {c0:Nat} (hh:A.handled=none) (h1:l1 < lo) (h2:l2 < lo) (hS:S < lo) (e1:l1 ≠ S) (e2:l2 ≠ S) (hxy:xs.size=ys.size) (hsz:vs0.size+xs.size≤1000) {h₁:Heap} (hlo:h₁.objs.size=lo)
  (st:ZS lo l1 l2 xs ys s.heap 0) (hkp:∀ c o,h₁.get? c=some o→s.heap.get? c=some o) (hSS:s.heap.get? S=some (seqObj "list" vs0 c0))
  (hR:∀ h' acc c (as:List Nat),(∀ (c:Nat) o,c ≠ S→h₁.get? c=some o→h'.get? c=some o)→h'.get? S=some (seqObj "list" acc c)→acc.toList=vs0.toList++as.map Value.ref→as.length=xs.size→Zips lo xs ys h' as→R (.ok (.ret .none)) { s with heap:=h' }) :
  wpAny (model prog w) A.in1 (Builtin.List.listExtendWith (.ref S) (.ref (lo+4)) .none)
   (fun fin s'=>match fin with | .done f=>R (.ok f) s' | .again c'=>c'.quiet=true∧codeAny (model prog w) A c' R s') (fun e s'=>R (.error e) s') s:=by
 have hT:=st.type
 unfold Builtin.List.listExtendWith
 refine wpAny_bind (wpAny_typeOf hT ?_)
 have h1':Builtin.List.listSameRef (.ref S) (.ref (lo+4))=false:=by
  have:S ≠ lo+4:=nel hS
  simp [Builtin.List.listSameRef,this]
 have h2':(Value.type "zip" == Value.type "list")=false:=by decide
 have h3':(Value.type "zip" == Value.type "tuple")=false:=by decide
 simp only [h1',h2',h3',Bool.or_false,Bool.false_eq_true,if_false]
 refine wpAny_bind ?_
 have hI:wpAny (model prog w) A.in1 (pyIter (.ref (lo+4))) (fun v s'=>v=.ref (lo+4)∧s'=s) (fun e s'=>R (.error e) s') s:=by
  refine wpAny_pyIter_slot hT PySem.F.slot_zip_iter (wpAny_call_entry PySem.F.slot_zip_iter hT PySem.F.entry_zip_iter ?_ (PySem.F.args_zip_iter_1 _))
  show wpAny _ _ (ret (.ref (lo+4))) _ _ s
  exact wpAny_pure ⟨_,rfl, "zip", _,hT,PySem.F.slot_zip_next.lookup,rfl,rfl⟩
 refine wpAny_mono hI ?_ fun _ _ z=>z
 rintro v s' ⟨rfl,rfl⟩
 refine wpAny_bind (wpAny_holding ?_)
 unfold Builtin.List.listLengthHint
 refine wpAny_bind (wpAny_specialOf hT zip_no_len ?_)
 show wpAny _ A.in1 (specialOf (Value.ref (lo+4)) (Str.ofString "__length_hint__") >>= _) _ _ _
 refine wpAny_bind (wpAny_specialOf hT zip_no_hint ?_)
 refine wpAny_pure ?_
 show wpAny _ A.in1 (rule "list.extend.makes-room" >>= fun _=>Builtin.List.listTouch (.ref S) >>= fun _ =>
  again (.builtin "list.extend.loop" ⟨[.ref S,.ref (lo+4),.none],[]⟩)) _ _ _
 refine wpAny_bind (wpAny_rule ?_)
 refine wpAny_bind ?_
 show wpAny _ A.in1 (updateSeq S (·.push .none) >>= fun _=>updateSeq S (·.pop)) _ _ _
 refine wpAny_bind (wpAny_updateSeq hSS rfl ?_ (by rw [sizeLine_eq]; exact lw (adL hsz)) (by show (vs0.push Value.none).size≤sizeLine+1; rw [Array.size_push,sizeLine_eq]; exact lw (Nat.succ_le_succ (adL hsz))))
 have hS₂:=Heap.get?_update_self (Obj.mapSeq (·.push Value.none)) hSS rfl
 refine wpAny_updateSeq hS₂ rfl ?_ (by show (vs0.push Value.none).size≤sizeLine; rw [Array.size_push,sizeLine_eq]; exact lw (Nat.succ_le_succ (adL hsz))) (by show ((vs0.push Value.none).pop).size≤sizeLine+1; rw [Array.size_pop,Array.size_push,sizeLine_eq]; exact lw (adL hsz))
 have hS₃:=Heap.get?_update_self (Obj.mapSeq (·.pop)) hS₂ rfl
 have oth:∀ (b:Nat) o,b ≠ S→s'.heap.get? b=some o→((s'.heap.update S (Obj.mapSeq (·.push Value.none))).update S (Obj.mapSeq (·.pop))).get? b=some o :=
  fun b o hb e=>(Heap.get?_update_other _ _ (Ne.symm hb)).trans ((Heap.get?_update_other _ _ (Ne.symm hb)).trans e)
 have hpp:(vs0.push Value.none).pop=vs0:=Array.pop_push
 obtain ⟨c3,hS4⟩:∃ c,((s'.heap.update S (Obj.mapSeq (·.push Value.none))).update S (Obj.mapSeq (·.pop))).get? S=some (seqObj "list" vs0 c):=⟨_,by
  have:=hS₃
  simp only [Obj.mapSeq,seqObj,hpp] at this
  exact this⟩
 exact wpAny_pure ⟨plainId_quiet PySem.F.plain_extend_loop _,zip_loop (s:=s') (h₁:=h₁) hh h1 h2 hS e1 e2 hxy hsz hlo hR xs.size 0 _ c3 vs0 [] rfl (Nat.zero_le _) (st.keep e1 e2 hS oth) (fun c o hc q=>oth c o hc (hkp c o q)) hS4 (by simp) rfl (fun j a hj=>by simp at hj)⟩
end
section
variable {prog:Program} {w:World} {K:Frag} {mg mb:Str→Option Value} {b:Heap}
variable {h h':Heap} {F W fp:Addr→Prop} {ad ad' ad'' ad0:Adr} {σ σ' σ0:Sto} {s s' s'' s0:Shared} {A:Around} {E:Value→Shared→Prop} {sc scope:Scope} {renv:Env} {env:Env'} {L:Addr} {O:Addr→Prop}
theorem call_extend_zip {lo l1 l2 S:Nat} {xs ys vs0:Array Value} {c0:Nat} {Q:Value→Shared→Prop} (hh:A.handled=none) (h1:l1 < lo) (h2:l2 < lo) (hS:S < lo) (e1:l1 ≠ S) (e2:l2 ≠ S) (hxy:xs.size=ys.size) (hsz:vs0.size+xs.size≤1000) {h₁:Heap} (hlo:h₁.objs.size=lo)
  (st:ZS lo l1 l2 xs ys s.heap 0) (hkp:∀ c o,h₁.get? c=some o→s.heap.get? c=some o) (hSS:s.heap.get? S=some (seqObj "list" vs0 c0))
  (hQ:∀ h' acc c (as:List Nat),(∀ (c:Nat) o,c ≠ S→h₁.get? c=some o→h'.get? c=some o)→h'.get? S=some (seqObj "list" acc c)→acc.toList=vs0.toList++as.map Value.ref→as.length=xs.size→Zips lo xs ys h' as→Q .none { s with heap:=h' }) :
  wpAny (model prog w) A (call (.builtin "list.extend") [.ref S,.ref (lo+4)]) Q E s:=by
 refine wpAny_call (codeAny_call_builtin PySem.F.slot_list_extend.plain PySem.F.entry_list_extend (PySem.F.slot_list_extend.check _ _ _ _ _ _ _ _ ⟨_,hSS,rfl⟩ (PySem.F.args_list_extend_2 _ _) ?_))
 exact zip_extend (R:=wants Q E) hh h1 h2 hS e1 e2 hxy hsz hlo st hkp hSS hQ
theorem tup2_of {da db:D} {dx dy:List D} (h:(match da,db with | .tup xs,.tup ys=>some (xs,ys) | _,_=>none)=some (dx,dy)):da=.tup dx∧db=.tup dy:=by
 induction da using D.casesOn with
 | tup xs =>
  induction db using D.casesOn with
  | tup ys=>exact ⟨congrArg D.tup (so2 h).1,congrArg D.tup (so2 h).2⟩
  | _=>exact nos h
 | _=>exact nos h
theorem zip_drs {M M':Addr→Prop} {h2:Heap} {lo:Nat} {vs3 vs4:Array Value} {dx dy:List D} {as:List Nat} (r3:DRs prog w h M vs3.toList dx) (r4:DRs prog w h M vs4.toList dy) (hl:vs3.size=vs4.size) (has:as.length=vs3.size) (hZ:Zips lo vs3 vs4 h2 as)
  (hMt:∀ c o,¬ M c→h.get? c=some o→h2.get? c=some o∧¬ M' c) (hf:∀ a,lo≤a→¬ M' a):DRs prog w h2 M' (as.map Value.ref) ((dx.zip dy).map fun (p:D × D)=>D.tup [p.1,p.2]):=by
 have l3:vs3.size=dx.length:=r3.length
 have l4:vs4.size=dy.length:=r4.length
 refine DRs.of_get (by rw [List.length_map,List.length_map,List.length_zip,← l3,← l4,← hl,Nat.min_self]; exact has) fun k v hv=>?_
 rw [List.getElem?_map] at hv
 obtain ⟨ta,hta,rfl⟩:=md hv
 obtain ⟨q1,x,y,q2,q3,q4⟩:=hZ k ta hta
 obtain ⟨d1,u1,u2⟩:=r3.getV (k:=k) (v:=x) (by simpa using q2)
 obtain ⟨d2,u3,u4⟩:=r4.getV (k:=k) (v:=y) (by simpa using q3)
 exact ⟨.tup [d1,d2],by rw [List.getElem?_map,show (dx.zip dy)[k]?=some (d1,d2) from List.getElem?_zip_eq_some.mpr ⟨u1,u3⟩]; rfl,.tup q4 rfl rfl (hf _ (adL q1)) (.cons (u2.mono hMt) (.cons (u4.mono hMt) .nil))⟩
theorem ev_extZip {l:Lv} {n:Nat} (G:Gd prog w K mg mb b) (ih:Ev prog w b l n) {o a' b':X} {x y z:PySem.Expr} {p q q1 p1:Pos} {v:V} (hg:globB sc (Str.ofString "zip")=true) (hc:notCall x=true) (hx:Enc sc o x) (hy:Enc sc a' y) (hz:Enc sc b' z) (hl:(q.endLine == p.line)=true)
  (he:evE l env σ (.extZip o a' b')=some (v,σ')) (hA:Room A n) (hF:FR prog w b s.heap ad F sc renv env) (hS:SR prog w b F s.heap ad σ) :
  wpAny (model prog w) A (eval (.Call (.Attribute x (Str.ofString "extend") q) [.Call (.Name (Str.ofString "zip") q1) [y,z] [] p1] [] p) renv) (EP prog w b F renv.locals s ad σ' v) E s:=by
 obtain ⟨vo,σ1,h1,he⟩:=bp he
 obtain ⟨n0,ds0,h3,he⟩:=bp he
 obtain ⟨da,σ2,h5,he⟩:=bp he
 obtain ⟨db,σ3,h7,he⟩:=bp he
 obtain ⟨n1,ds,h9,he⟩:=bp he
 obtain ⟨dx,dy,h11,he⟩:=bp he
 obtain ⟨hzz,h13⟩:=lim_some he
 have exy:da=.tup dx∧db=.tup dy:=tup2_of h11
 have hsm:small (ds++dx)=true∧dx.length=dy.length:=and_dec hzz
 refine meth_call hc rfl (by simp) hl PySem.F.plainAttrs_list PySem.F.slot_list_extend PySem.F.type_list_extend (wpAny_mono (ih _ _ _ hx _ _ _ _ h1 _ _ _ _ _ _ hA hF hS) (fun u s1 z=>?_) fun _ _ z=>z)
 obtain ⟨ad1,m1,S1,r1⟩:=z
 obtain ⟨a,rfl⟩:=r1.refI (lstAt_inv h3).1
 obtain ⟨vs,k,_,ho,_⟩:=lst_at S1 r1 h3
 have F1:=hF.mv hS m1
 refine ⟨⟨_,ho,rfl⟩,fun a' e=>⟨_,Value.ref.inj e ▸ ho,rfl⟩,wpAny_items_cons ?_ rfl⟩
 refine Call_Name (trees:=backTo p1 (starEach [y,z] renv)) rfl (bi_name (v:=.type "zip") G hg bil_zip F1 S1 ?_)
 refine cw_type (encL_plain (.cons hy (.cons hz .nil)) renv) (args_two ih hy hz h5 h7 hA F1 S1 fun uk uv s2 ad2 m2 S2 r2 r3=>?_)
 obtain ⟨vs2,k2,hl2,ho2,hr2⟩:=lst_at S2 (r1.mv hF.ownL m2) h9
 obtain ⟨a3,o3,vs3,n3,rfl,e3,c3,d3,mm3,r3'⟩:=(exy.1 ▸ r2).tupI
 obtain ⟨a4,o4,vs4,n4,rfl,e4,c4,d4,mm4,r4'⟩:=(exy.2 ▸ r3).tupI
 have l3:vs3.size=dx.length:=r3'.length
 have l4:vs4.size=dy.length:=r4'.length
 have hxy:vs3.size=vs4.size:=l3.trans (hsm.2.trans l4.symm)
 have hsz:vs2.size+vs3.size≤1000:=l3 ▸ size_app hr2 hsm.1
 have hSa:inAd ad2 a:=⟨_,List.mem_of_getElem? hl2,.head _⟩
 refine call_zt ⟨o3,e3,c3,n3,d3⟩ ⟨o4,e4,c4,n4,d4⟩ fun h' b1 b2 b3 b4 b5 b6 b7=>?_
 refine wpAny_items_nil ?_
 refine call_extend_zip (lo:=s2.heap.objs.size) (l1:=a3) (l2:=a4) (S:=a) (xs:=vs3) (ys:=vs4) (vs0:=vs2) (h₁:=s2.heap) hA.1 (Heap.lt_size e3) (Heap.lt_size e4) (Heap.lt_size ho2) (fun z=>mm3 (.inl (z ▸ hSa))) (fun z=>mm4 (.inl (z ▸ hSa))) hxy hsz rfl
  ⟨b2,b4,b5,⟨o3,b7 _ _ e3,c3,n3,d3⟩,⟨o4,b7 _ _ e4,c4,n4,d4⟩,.inl ⟨b1,_,_,b3⟩⟩ b7 (b7 _ _ ho2) fun h2 acc c as hk hD hacc has hZ=>?_
 have hMt:∀ c o,¬ Mt ad2 F c→s2.heap.get? c=some o→h2.get? c=some o∧¬ Mt ad2 F c:=fun c o m e=>⟨hk c o (fun z=>m (.inl (z ▸ hSa))) e,m⟩
 have hpairs:=zip_drs r3' r4' hxy has hZ hMt fun a ha=>S2.fresh (Heap.get?_none_of_le ha)
 obtain ⟨m3,S3⟩:=sto_set (L:=renv.locals) (t:=s2.toks) (s:=s2) (h':=h2) hF.ownL S2 hl2 (fun c o hc e=>hk c o (fun z=>hc (by rw [z]; exact .head _)) e) (.lst (ds:=ds++(dx.zip dy).map fun (p:D × D)=>D.tup [p.1,p.2]) hD (by rw [hacc]; exact (hr2.mono hMt).append hpairs))
 exact (pj h13).1 ▸ (pj h13).2 ▸ ⟨ad2,(m1.trans m2).trans m3,S3,.d .none⟩
end
theorem standIn_led (t:SetTable) (n:Nat):(t.orStandIn n).led=t.led:=by
 unfold SetTable.orStandIn
 split <;> rfl
theorem layNew_led (t:SetTable) (es:Array (Int × Value)) (h:Int) (x:Value):(layNew t es h x).2.1.led=t.led:=by
 unfold layNew
 split
 ·exact (standIn_led _ _).trans rfl
 ·rfl
theorem relayAll_led (t:SetTable) (es:Array (Int × Value)) (n:Nat):(relayAll t es n).2.1.led=t.led∧(t.plain=false→(relayAll t es n).2.1.plain=false):=by
 unfold relayAll
 split
 ·rename_i t' order hr
  have hq:t'.led=t.led∧t'.plain=t.plain:=by
   unfold SetTable.relaid SetTable.laid at hr
   obtain ⟨ow,_,h2⟩:=bd hr
   obtain ⟨rfl,rfl⟩:=so2 h2
   exact ⟨rfl,rfl⟩
  dsimp only
  split
  ·exact ⟨hq.1,fun h=>hq.2.trans h⟩
  ·exact ⟨rfl,fun _=>rfl⟩
 ·exact ⟨rfl,fun _=>rfl⟩
section
variable {prog:Program} {w:World} {A:Around} {E:Value→Shared→Prop} {s:Shared}
noncomputable def SetT (prog:Program) (w:World) (h:Heap) (a:Addr) (S:Str→Bool) (n:Nat) (byT:Bool):Prop :=
 ∃ o es ep t,h.get? a=some o∧o.ExactSet∧o.data=.set es ep t∧ElemsOf (strKind prog w) es.toList∧(∀ k,S k=true ↔ ∃ e ∈ es.toList,(strKind prog w).is k e.2=true)
  ∧ es.size < scanBound∧t.fits es.size=true∧es.size=n∧t.led=!byT∧(es.size=0 ∨ t.plain=false)
theorem SetT.keep {h h':Heap} {a:Addr} {S:Str→Bool} {n:Nat} {byT:Bool} (x:SetT prog w h a S n byT) (hk:∀ o,h.get? a=some o→h'.get? a=some o):SetT prog w h' a S n byT:=by
 obtain ⟨o,es,ep,t,ho,r⟩:=x
 exact ⟨o,es,ep,t,hk _ ho,r⟩
theorem putT {h:Heap} {a:Addr} {o:Obj} {es:Array (Int × Value)} {ep:Nat} {t:SetTable} {byT:Bool} (ho:h.get? a=some o) (hex:o.ExactSet) (hd:o.data=.set es ep t)
  {es':Array (Int × Value)} {t':SetTable} {S':Str→Bool} (hel:ElemsOf (strKind prog w) es'.toList) (hmem:∀ k,S' k=true ↔ ∃ e ∈ es'.toList,(strKind prog w).is k e.2=true) (hb:es'.size < scanBound) (hf:t'.fits es'.size=true) (h1:t'.led=!byT) (h2:t'.plain=false) :
  (h.update a (Obj.putSet es' t')).get? a=some { o with data:=.set es' (ep+1) t' }∧SetT prog w (h.update a (Obj.putSet es' t')) a S' es'.size byT:=by
 have hg:(h.update a (Obj.putSet es' t')).get? a=some { o with data:=.set es' (ep+1) t' }:=by
  have:=Heap.get?_update_self (Obj.putSet es' t') ho (by rw [putSet_of es' t' hd]; rfl)
  rw [putSet_of es' t' hd] at this; exact this
 exact ⟨hg,_,es',ep+1,t',hg,hex,rfl,hel,hmem,hb,hf,rfl,h1,.inr h2⟩
theorem addT {a:Addr} {S:Str→Bool} {n:Nat} {k:Str} {tk:Tok} {byT:Bool} {Q:Bool→Shared→Prop} (hS:SetT prog w s.heap a S n byT) (hroom:n+1 < scanBound)
  (h:∀ h',Heap.SameBut a s.heap h'→SetT prog w h' a (fun k'=>S k' || decide (k'=k)) (if S k then n else n+1) byT→Q (!S k) { s with heap:=h' }) :
  wpAny (model prog w) A (setAddHashed a (.str k tk) ((strKind prog w).hash k)) Q E s:=by
 obtain ⟨o,es,ep,t,ho,hex,hd,hel,hmem,hb,hf,hn,hled,hpl⟩:=hS
 have hb1:es.size+1 < scanBound:=by rw [hn]; exact hroom
 have hkey:(strKind prog w).is k (.str k tk)=true:=strKind_is prog w k tk
 have hsc:(Value.str k tk).scannable=true:=rfl
 unfold setAddHashed setAddHashedIn
 refine wpAny_holding (wpAny_bind (wpAny_setState_of ho hd hf ?_))
 dsimp only
 rw [byScan_of hsc hb hel]
 simp only [↓reduceIte]
 unfold setAddByScan
 refine wpAny_bind ?_
 refine wpAny_bind (wpAny_rule ?_)
 refine wpAny_bind (wpAny_setScan_of hkey ho hd hf hel ?_)
 cases hr:List.findIdx? (fun e=>(strKind prog w).is k e.2) es.toList with
 | some j =>
  dsimp only
  obtain ⟨hj,hpj,_⟩:=List.findIdx?_eq_some_iff_getElem.mp hr
  have hSk:S k=true:=(hmem k).mpr ⟨es.toList[j],List.getElem_mem hj,hpj⟩
  refine wpAny_pure (wpAny_pure ?_)
  have e:s={ s with heap:=s.heap }:=by cases s; rfl
  have:=h s.heap (Heap.SameBut.refl a s.heap) ⟨o,es,ep,t,ho,hex,hd,hel,fun k'=>by
   rw [Bool.or_eq_true,decide_eq_true_eq,← hmem k']
   exact ⟨fun hk=>hk.elim id (fun e=>e ▸ hSk),.inl⟩,hb,hf,by rw [hSk]; exact hn,hled,hpl⟩
  rw [hSk] at this; rw [e]; exact this
 | none =>
  dsimp only
  have hSk:S k=false:=by
   cases hk:S k with
   | false=>rfl
   | true=>obtain ⟨e,he,hp⟩:=(hmem k).mp hk; have:=List.findIdx?_eq_none_iff.mp hr e he; rw [hp] at this; exact Bool.noConfusion this
  have hgw:∀ (b:Bool) {s₁:Shared} {Q':Unit→Shared→Prop},Q' () s₁→wpAny (model prog w) A (match b with | true=>rule "set.scan.the-table-gave-way" | false=>pure ()) Q' E s₁ :=
   fun b s₁ Q' hq=>by cases b <;> first | exact wpAny_pure hq | exact wpAny_rule hq
  have hperm:=layNew_perm t es ((strKind prog w).hash k) (.str k tk)
  have hfits:=layNew_fits t es ((strKind prog w).hash k) (.str k tk)
  have hled1:=layNew_led t es ((strKind prog w).hash k) (.str k tk)
  generalize hL:layNew t es ((strKind prog w).hash k) (.str k tk)=L at hperm hfits hled1 ⊢
  obtain ⟨es1,t1,wasDummy,gave⟩:=L
  dsimp only at hperm hfits hled1 ⊢
  rw [Array.toList_push] at hperm
  have hel1:ElemsOf (strKind prog w) es1.toList:=(hel.push hkey hsc).perm hperm
  have hmem1:∀ k',(S k' || decide (k'=k))=true ↔ ∃ e ∈ es1.toList,(strKind prog w).is k' e.2=true:=mem_push_iff hkey hmem hperm
  have hb1':es1.size < scanBound:=by rw [← Array.length_toList,hperm.length_eq,List.length_append,Array.length_toList]; simpa using hb1
  refine wpAny_bind (hgw _ ?_)
  have hsz1:es1.size=n+1:=by rw [← Array.length_toList,hperm.length_eq,List.length_append,Array.length_toList,hn]; rfl
  have hend:∀ h',Heap.SameBut a s.heap h'→SetT prog w h' a (fun k'=>S k' || decide (k'=k)) es1.size byT→Q true { s with heap:=h' }:=by
   intro h' hsb hS'; have:=h h' hsb; rw [hSk] at this; rw [hsz1] at hS'; exact this hS'
  have tail:∀ t2:SetTable,t2.fits es1.size=true→t2.led=(!byT)→t2.plain=false →
    wpAny (model prog w) A (do
     storeSet a es1 t2
     if (!wasDummy && t2.tooFull)=true then do
       (match (relayAll t2 es1 (SetTable.grown es1.size)).2.2 with | true=>rule "set.scan.the-table-gave-way" | false=>pure ())
       storeSet a (relayAll t2 es1 (SetTable.grown es1.size)).1 (relayAll t2 es1 (SetTable.grown es1.size)).2.1
       pure (some true)
      else pure (some true)) (fun r s'=>r=some true∧Q true s') E s:=by
   intro t2 hf2 hl2 hp2
   refine wpAny_bind (wpAny_storeSet_of ho hd ?_ (fits_of_scanBound hb1'))
   obtain ⟨ho1,hS1⟩:=putT (prog:=prog) (w:=w) (byT:=byT) ho hex hd hel1 hmem1 hb1' hf2 hl2 hp2
   have hsb1:=Heap.SameBut.update s.heap a (Obj.putSet es1 t2)
   split
   ·have hp:=relayAll_perm t2 es1 (SetTable.grown es1.size)
    have hfr:=relayAll_fits t2 es1 (SetTable.grown es1.size)
    have hlr:=relayAll_led t2 es1 (SetTable.grown es1.size)
    generalize hRl:relayAll t2 es1 (SetTable.grown es1.size)=Rl at hp hfr hlr ⊢
    obtain ⟨es2,t3,gave2⟩:=Rl
    dsimp only at hp hfr hlr ⊢
    have hel2:ElemsOf (strKind prog w) es2.toList:=hel1.perm hp
    have hmem2:∀ k',(S k' || decide (k'=k))=true ↔ ∃ e ∈ es2.toList,(strKind prog w).is k' e.2=true:=fun k'=>(hmem1 k').trans ⟨fun ⟨e,he,q⟩=>⟨e,hp.mem_iff.mpr he,q⟩,fun ⟨e,he,q⟩=>⟨e,hp.mem_iff.mp he,q⟩⟩
    have hsz:es2.size=es1.size:=by rw [← Array.length_toList,hp.length_eq,Array.length_toList]
    have hb2:es2.size < scanBound:=by rw [hsz]; exact hb1'
    refine wpAny_bind (hgw _ ?_)
    refine wpAny_bind (wpAny_storeSet_of ho1 rfl ?_ (fits_of_scanBound hb2))
    obtain ⟨_,hS2⟩:=putT (prog:=prog) (w:=w) (byT:=byT) ho1 hex rfl hel2 hmem2 hb2 hfr (hlr.1.trans hl2) (hlr.2 hp2)
    rw [hsz] at hS2
    exact wpAny_pure ⟨rfl,hend _ (hsb1.trans (Heap.SameBut.update _ a _)) hS2⟩
   ·exact wpAny_pure ⟨rfl,hend _ hsb1 hS1⟩
  split
  ·refine wpAny_bind ?_
   rw [hashByValue_scannable 8 hsc]
   refine wpAny_pure ?_
   simp only [plainKind,Bool.false_eq_true,if_false]
   exact wpAny_mono (tail { t1 with plain:=false } (SetTable.fits_plain_off hfits) (hled1.trans hled) rfl) (fun r s' ⟨e,q⟩=>by subst e; exact wpAny_pure q) fun _ _ e=>e
  ·rename_i hpf
   refine wpAny_bind (wpAny_pure ?_)
   simp only [↓reduceIte]
   exact wpAny_mono (tail t1 hfits (hled1.trans hled) (by simpa using hpf)) (fun r s' ⟨e,q⟩=>by subst e; exact wpAny_pure q) fun _ _ e=>e
end
theorem slot_si_next:Slot "set_iterator" "__next__" "set_iterator.__next__" :=
 .of (owner := "set_iterator") (n := "__next__") (by rw [typeLookup_type,builtinLookup_eq_fast]; kernel_rfl) (by decide +kernel) (by decide +kernel) (by decide +kernel)
  (by first | exact .inl (by decide +kernel) | exact .inr (by decide +kernel)) (by rw [isSubtype_type]; kernel_rfl)
theorem entry_si_next:entryFor table "set_iterator.__next__" = some Builtin.«set_iterator.__next__»:=entryFor_of_tree (by kernel_rfl)
theorem args_si_next (a:Value):argsOk "set_iterator.__next__" ⟨[a],[]⟩:=by unfold argsOk; kernel_rfl
theorem entry_s_iter:entryFor table "set.__iter__" = some Builtin.«frozenset.__iter__» :=
 entryFor_alias (id' := "frozenset.__iter__") (by kernel_rfl) (by first | rfl | decide +kernel) (by decide +kernel) (by kernel_rfl)
theorem perm_erase {α:Type}:∀ (xs:List α) (i:Nat) (h:i < xs.length),(xs[i]::xs.eraseIdx i).Perm xs
 | [],i,h=>by simp at h
 | x::xs,0,h=>List.Perm.refl _
 | x::xs,i+1,h=>by
  show (xs[i]'(by simpa using h)::x::xs.eraseIdx i).Perm (x::xs)
  exact (List.Perm.swap _ _ _).trans ((perm_erase xs i (by simpa using h)).cons x)
section
variable {prog:Program} {w:World} {A:Around} {E:Value→Shared→Prop} {s:Shared}
theorem wpAny_choose {src:Source} {n:Nat} {Q:Nat→Shared→Prop} (hn:n ≠ 0) (h:∀ i dr,i < n→Q i { s with drawn:=dr }):wpAny (model prog w) A (choose src n) Q E s:=by
 intro Γ p _
 unfold choose
 rw [Sem.wp_choose]
 exact ⟨hn,h _ _ (Nat.mod_lt _ (Nat.pos_of_ne_zero hn))⟩
theorem draw_order {α:Type} (n:Nat):∀ (xs:List α) {s:Shared} {Q:List α→Shared→Prop},xs.length=n→(∀ ys dr,ys.Perm xs→Q ys { s with drawn:=dr })→wpAny (model prog w) A (drawOrder n xs) Q E s:=by
 induction n with
 | zero =>
  intro xs s Q hl h
  obtain rfl:=List.length_eq_zero_iff.mp hl
  exact wpAny_pure (h [] s.drawn (List.Perm.refl _))
 | succ n ih =>
  intro xs s Q hl h
  obtain ⟨x,xs,rfl⟩:=List.exists_cons_of_length_eq_add_one hl
  show wpAny _ _ (choose .order (x::xs).length >>= _) _ _ _
  refine wpAny_bind (wpAny_choose (Nat.succ_ne_zero _) fun i dr hi=>?_)
  rw [List.getElem?_eq_getElem hi]
  have hel:((x::xs).eraseIdx i).length=n:=by rw [List.length_eraseIdx_of_lt hi]; exact Nat.succ.inj hl
  refine wpAny_bind (ih _ hel fun ys dr' hp=>wpAny_pure (h _ dr' ?_))
  exact (hp.cons _).trans (perm_erase _ i hi)
end
noncomputable abbrev IsSI (h:Heap) (I:Addr) (first:Value) (i:Nat) (Sa:Addr) (n ep:Nat):Prop :=
 h.get? I=some { cls:=.type "set_iterator", dict:=none,data:=.fields #[first,.int i 0,.ref Sa,.int n 0,.int ep 0],slots:=#[] }
section
variable {prog:Program} {w:World} {A:Around} {E:Value→Shared→Prop} {s:Shared} {I Sa tp:Addr} {i n ep p:Nat} {es:Array (Int × Value)} {t:SetTable} {o:Obj} {places:Array Value}
theorem si_tuple {x:Value} {hv:Int} {Q:Option Value→Shared→Prop} (hI:IsSI s.heap I (.ref tp) i Sa n ep) (ht:s.heap.get? tp=some { cls:=.type "tuple", data:=.seq places }) (hSa:s.heap.get? Sa=some o) (hd:o.data=.set es ep t) (hf:t.fits es.size=true) (hn:es.size=n)
  (hp:places[i]?=some (rawInt p)) (hx:es[p]?=some (hv,x)) (hQ:∀ h',IsSI h' I (.ref tp) (i+1) Sa n ep→Heap.SameBut I s.heap h'→Q (some x) { s with heap:=h' }):wpAny (model prog w) A (pyNext (.ref I)) Q E s:=by
 have hT:s.TypeIs (.ref I) "set_iterator" := ⟨_,hI,rfl⟩
 unfold pyNext
 refine wpAny_bind (wpAny_attempt (wpAny_callSpecial?_slot (name:=Str.ofString "__next__") hT slot_si_next
  (wpAny_call_entry slot_si_next hT entry_si_next ?_ (args_si_next _))))
 show wpAny _ _ (fieldsOf (.ref I) >>= _) _ _ s
 refine wpAny_bind (wpAny_fieldsOf hI rfl ?_)
 dsimp only
 refine wpAny_bind (wpAny_setEntries_of hSa hd hf ?_)
 rw [if_neg (by rw [hn]; simp)]
 refine wpAny_bind (wpAny_seqItems ht rfl ?_)
 simp only [Int.toNat_natCast,hp,rawInt]
 refine wpAny_bind ?_
 unfold setNextDrawn
 refine wpAny_bind (wpAny_setState_of hSa hd hf ?_)
 dsimp only
 rw [if_neg (by simp)]
 refine wpAny_bind (wpAny_pure ?_)
 simp only [Int.toNat_natCast,hx]
 refine wpAny_pure ?_
 refine wpAny_bind (wpAny_setField_rec hI (by simp) fun h' hI' hs'=>?_)
 exact wpAny_pure ⟨_,rfl,wpAny_pure (hQ h' (by have e:((i+1:Nat):Int)=(i:Int)+1:=rfl; unfold IsSI; rw [e]; simpa [rawInt] using hI') hs')⟩
theorem si_tuple_end {Q:Option Value→Shared→Prop} (hh:A.handled=none) (hI:IsSI s.heap I (.ref tp) i Sa n ep) (ht:s.heap.get? tp=some { cls:=.type "tuple", data:=.seq places }) (hSa:s.heap.get? Sa=some o) (hd:o.data=.set es ep t) (hf:t.fits es.size=true) (hn:es.size=n)
  (hp:places[i]?=none) (hQ:∀ h',Heap.ExtBut I s.heap h'→Q none { s with heap:=h' }):wpAny (model prog w) A (pyNext (.ref I)) Q E s:=by
 have hT:s.TypeIs (.ref I) "set_iterator" := ⟨_,hI,rfl⟩
 unfold pyNext
 refine wpAny_bind (wpAny_attempt (wpAny_callSpecial?_slot (name:=Str.ofString "__next__") hT slot_si_next
  (wpAny_call_entry slot_si_next hT entry_si_next ?_ (args_si_next _))))
 show wpAny _ _ (fieldsOf (.ref I) >>= _) _ _ s
 refine wpAny_bind (wpAny_fieldsOf hI rfl ?_)
 dsimp only
 refine wpAny_bind (wpAny_setEntries_of hSa hd hf ?_)
 rw [if_neg (by rw [hn]; simp)]
 refine wpAny_bind (wpAny_seqItems ht rfl ?_)
 simp only [Int.toNat_natCast,hp]
 refine wpAny_bind (wpAny_setField_rec hI (by simp) fun h₁ hI₁ hs₁=>?_)
 refine wpAny_bind (wpAny_setField_rec hI₁ (by simp) fun h₂ hI₂ hs₂=>?_)
 refine wpAny_bind (m:=newExc (.type "StopIteration") []) ?_
 simp only [newExc,newTuple]
 refine wpAny_bind (wpAny_newObj_type ?_ (by size_fits))
 refine wpAny_bind (m:=firstArgMember _ _) (wpAny_of_eq (a:=Value.none) (by first | rfl | (simp only [firstArgMember]; rfl)) ?_)
 refine wpAny_newObj_type ?_ (by size_fits)
 simp only [raiseNew]
 refine wpAny_bind (wpAny_handled ?_)
 rw [show A.in1.handled=none from hh]
 refine wpAny_bind (wpAny_pure (wpAny_throw ?_))
 refine wpAny_bind (wpAny_isInstance (T := "StopIteration") (b:=true) ⟨_,Heap.get?_push_size _ rfl,rfl⟩ isSubtype_stop ?_)
 exact wpAny_pure (hQ _ fun c o hc e=>Heap.get?_push_of_some _ (Heap.get?_push_of_some _ (hs₂.extBut _ _ hc (hs₁.extBut _ _ hc e))))
theorem pick_perm {α:Type} (f:Nat→Nat):∀ (left:List α) (k:Nat) (out:Array α),(pickOrder.go f left.length k left out).toList.Perm (out.toList++left):=by
 intro left
 generalize hn:left.length=n
 induction n generalizing left with
 | zero =>
  intro k out
  have:left=[]:=List.length_eq_zero_iff.mp hn
  subst this
  exact List.append_nil _ ▸ List.Perm.refl _
 | succ n ih =>
  intro k out
  show (match left[f k % left.length]? with | some x=>pickOrder.go f n (k+1) (left.eraseIdx (f k % left.length)) (out.push x) | none=>out).toList.Perm _
  have hi:f k % left.length < left.length:=Nat.mod_lt _ (by rw [hn]; exact Nat.succ_pos n)
  rw [List.getElem?_eq_getElem hi]
  dsimp only
  have hel:(left.eraseIdx (f k % left.length)).length=n:=by rw [List.length_eraseIdx_of_lt hi,hn]; rfl
  refine (ih _ hel _ _).trans ?_
  rw [Array.toList_push,List.append_assoc]
  exact (perm_erase left _ hi).append_left _
theorem pickOrder_perm {α:Type} (f:Nat→Nat) (xs:Array α):(pickOrder f xs).toList.Perm xs.toList:=by
 have:=pick_perm f xs.toList 0 #[]
 simpa [pickOrder] using this
theorem si_text {hv:Int} {x:Value} {Q:Option Value→Shared→Prop} (hby:w.params.followText "set-order" = true) (hI:IsSI s.heap I (.int 0 0) i Sa n ep) (hSa:s.heap.get? Sa=some o) (hd:o.data=.set es ep t) (hf:t.fits es.size=true) (hn:es.size=n)
  (hx:(pickOrder (w.params.setOrder Sa ep) es)[i]?=some (hv,x)) (hQ:∀ h',IsSI h' I (.int 0 0) (i+1) Sa n ep→Heap.SameBut I s.heap h'→Q (some x) { s with heap:=h' }):wpAny (model prog w) A (pyNext (.ref I)) Q E s:=by
 have hT:s.TypeIs (.ref I) "set_iterator" := ⟨_,hI,rfl⟩
 unfold pyNext
 refine wpAny_bind (wpAny_attempt (wpAny_callSpecial?_slot (name:=Str.ofString "__next__") hT slot_si_next
  (wpAny_call_entry slot_si_next hT entry_si_next ?_ (args_si_next _))))
 show wpAny _ _ (fieldsOf (.ref I) >>= _) _ _ s
 refine wpAny_bind (wpAny_fieldsOf hI rfl ?_)
 dsimp only
 refine wpAny_bind (wpAny_setEntries_of hSa hd hf ?_)
 rw [if_neg (by rw [hn]; simp)]
 refine wpAny_bind ?_
 unfold setNext
 refine wpAny_bind (wpAny_setState_of hSa hd hf ?_)
 dsimp only
 unfold setsByText
 refine wpAny_bind (wpAny_bind (wpAny_askSetting (wpAny_pure ?_)))
 refine wpAny_ite_split (fun _=>?_) (fun q=>absurd hby q)
 rw [if_neg (by simp)]
 refine wpAny_bind ?_
 unfold setWalk
 refine wpAny_bind (wpAny_setState_of hSa hd hf ?_)
 dsimp only
 unfold setsByText
 refine wpAny_bind (wpAny_bind (wpAny_askSetting (wpAny_pure ?_)))
 refine wpAny_ite_split (fun _=>?_) (fun q=>absurd hby q)
 refine wpAny_bind (wpAny_askSetting (wpAny_pure ?_))
 show wpAny _ _ (pure _) _ _ _
 refine wpAny_pure ?_
 have hx':(pickOrder ((model prog w).w.params.setOrder Sa ep) es)[i]?=some (hv,x):=hx
 simp only [Int.toNat_natCast,hx',Option.map_some]
 refine wpAny_bind (wpAny_setField_rec hI (by simp) fun h₁ hI₁ hs₁=>?_)
 refine wpAny_bind (wpAny_setField_rec hI₁ (by simp) fun h₂ hI₂ hs₂=>?_)
 exact wpAny_pure ⟨_,rfl,wpAny_pure (hQ h₂ (by have e:((i+1:Nat):Int)=(i:Int)+1:=rfl; unfold IsSI; rw [e]; simpa [rawInt] using hI₂) (hs₁.trans hs₂))⟩
end
section
variable {prog:Program} {w:World} {A:Around} {E:Value→Shared→Prop} {s:Shared} {I Sa tp:Addr} {i n ep p:Nat} {es:Array (Int × Value)} {t:SetTable} {o:Obj} {places:Array Value}
theorem si_fin {Q:Option Value→Shared→Prop} {first:Value} (hh:A.handled=none) {h₀:Heap} {s:Shared} (hI:IsSI s.heap I first i Sa n ep)
  (hQ:∀ h',Heap.ExtBut I s.heap h'→Q none { s with heap:=h' }) :
  wpAny (model prog w) A.in1 (do setField (.ref I) 2 .none; raiseNew (← newExc (.type "StopIteration") []):Sem Fin) (fun fin s'=>∃ v,fin=.done (.ret v)∧False)
   (fun e s'=>wpAny (model prog w) A (do if ← isInstance e (.type "StopIteration") then pure none else throw e) Q E s') s:=by
 refine wpAny_bind (wpAny_setField_rec hI (by simp) fun h₁ hI₁ hs₁=>?_)
 refine wpAny_bind (m:=newExc (.type "StopIteration") []) ?_
 simp only [newExc,newTuple]
 refine wpAny_bind (wpAny_newObj_type ?_ (by size_fits))
 refine wpAny_bind (m:=firstArgMember _ _) (wpAny_of_eq (a:=Value.none) (by first | rfl | (simp only [firstArgMember]; rfl)) ?_)
 refine wpAny_newObj_type ?_ (by size_fits)
 simp only [raiseNew]
 refine wpAny_bind (wpAny_handled ?_)
 rw [show A.in1.handled=none from hh]
 refine wpAny_bind (wpAny_pure (wpAny_throw ?_))
 refine wpAny_bind (wpAny_isInstance (T := "StopIteration") (b:=true) ⟨_,Heap.get?_push_size _ rfl,rfl⟩ isSubtype_stop ?_)
 exact wpAny_pure (hQ _ fun c o hc e=>Heap.get?_push_of_some _ (Heap.get?_push_of_some _ (hs₁.extBut _ _ hc e)))
theorem si_text_end {Q:Option Value→Shared→Prop} (hh:A.handled=none) (hby:w.params.followText "set-order" = true) (hI:IsSI s.heap I (.int 0 0) i Sa n ep) (hSa:s.heap.get? Sa=some o) (hd:o.data=.set es ep t) (hf:t.fits es.size=true) (hn:es.size=n)
  (hx:(pickOrder (w.params.setOrder Sa ep) es)[i]?=none) (hQ:∀ h',Heap.ExtBut I s.heap h'→Q none { s with heap:=h' }):wpAny (model prog w) A (pyNext (.ref I)) Q E s:=by
 have hT:s.TypeIs (.ref I) "set_iterator" := ⟨_,hI,rfl⟩
 unfold pyNext
 refine wpAny_bind (wpAny_attempt (wpAny_callSpecial?_slot (name:=Str.ofString "__next__") hT slot_si_next
  (wpAny_call_entry slot_si_next hT entry_si_next ?_ (args_si_next _))))
 show wpAny _ _ (fieldsOf (.ref I) >>= _) _ _ s
 refine wpAny_bind (wpAny_fieldsOf hI rfl ?_)
 dsimp only
 refine wpAny_bind (wpAny_setEntries_of hSa hd hf ?_)
 rw [if_neg (by rw [hn]; simp)]
 refine wpAny_bind ?_
 unfold setNext
 refine wpAny_bind (wpAny_setState_of hSa hd hf ?_)
 dsimp only
 unfold setsByText
 refine wpAny_bind (wpAny_bind (wpAny_askSetting (wpAny_pure ?_)))
 refine wpAny_ite_split (fun _=>?_) (fun q=>absurd hby q)
 rw [if_neg (by simp)]
 refine wpAny_bind ?_
 unfold setWalk
 refine wpAny_bind (wpAny_setState_of hSa hd hf ?_)
 dsimp only
 unfold setsByText
 refine wpAny_bind (wpAny_bind (wpAny_askSetting (wpAny_pure ?_)))
 refine wpAny_ite_split (fun _=>?_) (fun q=>absurd hby q)
 refine wpAny_bind (wpAny_askSetting (wpAny_pure ?_))
 show wpAny _ _ (pure _) _ _ _
 refine wpAny_pure ?_
 have hx':(pickOrder ((model prog w).w.params.setOrder Sa ep) es)[i]?=none:=hx
 simp only [Int.toNat_natCast,hx',Option.map_none]
 exact wpAny_mono (si_fin (E:=E) (h₀:=s.heap) hh hI hQ) (fun _ _ z=>by obtain ⟨_,_,z⟩:=z; exact z.elim) fun _ _ z=>z
theorem below_one (q j:Nat):SetTable.below #[q] j=if q < j then 1 else 0:=by
 refine Eq.trans (b:=if (0:Nat) < 1 then (if (#[q]:Array Nat).getD ((0+1) / 2) j < j then SetTable.below.go #[q] j 0 ((0+1) / 2+1) 1 else SetTable.below.go #[q] j 0 0 ((0+1) / 2)) else 0) rfl ?_
 rw [if_pos Nat.one_pos]
 show (if (#[q]:Array Nat).getD 0 j < j then SetTable.below.go #[q] j 0 1 1 else SetTable.below.go #[q] j 0 0 0)=_
 have:(#[q]:Array Nat).getD 0 j=q:=rfl
 rw [this]
 split <;> rfl
theorem si_one {hv:Int} {x:Value} {q:Nat} {Q:Option Value→Shared→Prop} (hby:w.params.followText "set-order" = false) (hI:IsSI s.heap I (.int 0 0) 0 Sa 1 ep) (hSa:s.heap.get? Sa=some o) (hd:o.data=.set #[(hv,x)] ep t) (hf:t.fits 1=true) (hpl:t.place=#[q]) (hled:t.led=true)
  (hQ:∀ h',IsSI h' I (.int ((q+1:Nat):Int) 0) 1 Sa 1 ep→Heap.SameBut I s.heap h'→Q (some x) { s with heap:=h' }):wpAny (model prog w) A (pyNext (.ref I)) Q E s:=by
 have hT:s.TypeIs (.ref I) "set_iterator" := ⟨_,hI,rfl⟩
 unfold pyNext
 refine wpAny_bind (wpAny_attempt (wpAny_callSpecial?_slot (name:=Str.ofString "__next__") hT slot_si_next
  (wpAny_call_entry slot_si_next hT entry_si_next ?_ (args_si_next _))))
 show wpAny _ _ (fieldsOf (.ref I) >>= _) _ _ s
 refine wpAny_bind (wpAny_fieldsOf hI rfl ?_)
 dsimp only
 refine wpAny_bind (wpAny_setEntries_of hSa hd hf ?_)
 rw [if_neg (by simp)]
 refine wpAny_bind ?_
 unfold setNext
 refine wpAny_bind (wpAny_setState_of hSa hd hf ?_)
 dsimp only
 unfold setsByText
 refine wpAny_bind (wpAny_bind (wpAny_askSetting (wpAny_pure ?_)))
 refine wpAny_ite_split (fun z=>absurd (show w.params.followText "set-order" = true from z) (by rw [hby]; simp)) (fun _=>?_)
 refine wpAny_ite_split (fun z=>absurd (show (!t.plain && decide ((#[(hv,x)]:Array (Int × Value)).size > 1))=true from z) (by simp)) (fun _=>?_)
 refine wpAny_bind ?_
 show wpAny _ _ (if (!t.led && !(#[(hv,x)]:Array (Int × Value)).isEmpty)=true then _ else _) _ _ _
 rw [if_neg (by rw [hled]; simp)]
 refine wpAny_pure ?_
 have e0:SetTable.below t.place (Int.toNat 0)=0:=by rw [hpl,below_one]; rfl
 rw [e0,hpl]
 refine wpAny_pure ?_
 show wpAny _ _ (setField (.ref I) 0 (rawInt ((q+1:Nat):Int)) >>= _) _ _ _
 refine wpAny_bind (wpAny_setField_rec hI (by simp) fun h₁ hI₁ hs₁=>?_)
 refine wpAny_bind (wpAny_setField_rec hI₁ (by simp) fun h₂ hI₂ hs₂=>?_)
 exact wpAny_pure ⟨_,rfl,wpAny_pure (hQ h₂ (by unfold IsSI; simpa [rawInt] using hI₂) (hs₁.trans hs₂))⟩
end
section
variable {prog:Program} {w:World} {A:Around} {E:Value→Shared→Prop} {s:Shared} {I Sa tp:Addr} {i n ep p:Nat} {es:Array (Int × Value)} {t:SetTable} {o:Obj} {places:Array Value}
theorem si_slot_end {slot:Nat} {Q:Option Value→Shared→Prop} (hh:A.handled=none) (hby:w.params.followText "set-order" = false) (hI:IsSI s.heap I (.int (slot:Int) 0) i Sa n ep) (hSa:s.heap.get? Sa=some o) (hd:o.data=.set es ep t) (hf:t.fits es.size=true) (hn:es.size=n) (h1:es.size≤1) (hled:t.led=true)
  (hx:es[SetTable.below t.place slot]?=none) (hQ:∀ h',Heap.ExtBut I s.heap h'→Q none { s with heap:=h' }):wpAny (model prog w) A (pyNext (.ref I)) Q E s:=by
 have hT:s.TypeIs (.ref I) "set_iterator" := ⟨_,hI,rfl⟩
 unfold pyNext
 refine wpAny_bind (wpAny_attempt (wpAny_callSpecial?_slot (name:=Str.ofString "__next__") hT slot_si_next
  (wpAny_call_entry slot_si_next hT entry_si_next ?_ (args_si_next _))))
 show wpAny _ _ (fieldsOf (.ref I) >>= _) _ _ s
 refine wpAny_bind (wpAny_fieldsOf hI rfl ?_)
 dsimp only
 refine wpAny_bind (wpAny_setEntries_of hSa hd hf ?_)
 rw [if_neg (by rw [hn]; simp)]
 refine wpAny_bind ?_
 unfold setNext
 refine wpAny_bind (wpAny_setState_of hSa hd hf ?_)
 dsimp only
 unfold setsByText
 refine wpAny_bind (wpAny_bind (wpAny_askSetting (wpAny_pure ?_)))
 refine wpAny_ite_split (fun z=>absurd (show w.params.followText "set-order" = true from z) (by rw [hby]; simp)) (fun _=>?_)
 refine wpAny_ite_split (fun z=>absurd (show (!t.plain && decide (es.size > 1))=true from z) (by simp; exact fun _=>h1)) (fun _=>?_)
 refine wpAny_bind ?_
 show wpAny _ _ (if (!t.led && !es.isEmpty)=true then _ else _) _ _ _
 rw [if_neg (by rw [hled]; simp)]
 refine wpAny_pure ?_
 have e0:(slot:Int).toNat=slot:=Int.toNat_natCast _
 rw [e0,hx]
 refine wpAny_pure ?_
 exact wpAny_mono (si_fin (E:=E) (h₀:=s.heap) hh hI hQ) (fun _ _ z=>by obtain ⟨_,_,z⟩:=z; exact z.elim) fun _ _ z=>z
end
theorem slot_si_iter:Slot "set_iterator" "__iter__" "set_iterator.__iter__" :=
 .of (owner := "set_iterator") (n := "__iter__") (by rw [typeLookup_type,builtinLookup_eq_fast]; kernel_rfl) (by decide +kernel) (by decide +kernel) (by decide +kernel)
  (by first | exact .inl (by decide +kernel) | exact .inr (by decide +kernel)) (by rw [isSubtype_type]; kernel_rfl)
theorem entry_si_iter:entryFor table "set_iterator.__iter__" = some Builtin.«dict_keyiterator.__iter__» :=
 entryFor_alias (id' := "dict_keyiterator.__iter__") (by kernel_rfl) (by first | rfl | decide +kernel) (by decide +kernel) (by kernel_rfl)
theorem args_si_iter (a:Value):argsOk "set_iterator.__iter__" ⟨[a],[]⟩:=by unfold argsOk; kernel_rfl
section
variable {prog:Program} {w:World} {A:Around} {E:Value→Shared→Prop} {s:Shared} {I Sa tp:Addr} {i n ep p:Nat} {es:Array (Int × Value)} {t:SetTable} {o:Obj} {places:Array Value}
theorem si_self {first:Value} {Q:Value→Shared→Prop} (hI:IsSI s.heap I first i Sa n ep) (h:Q (.ref I) s):wpAny (model prog w) A (pyIter (.ref I)) Q E s:=by
 have hT:s.TypeIs (.ref I) "set_iterator" := ⟨_,hI,rfl⟩
 refine wpAny_pyIter_slot hT slot_si_iter (wpAny_call_entry slot_si_iter hT entry_si_iter ?_ (args_si_iter _))
 show wpAny _ _ (ret (.ref I)) _ _ s
 exact wpAny_pure ⟨_,rfl, "set_iterator", _,hT,slot_si_next.lookup,h⟩
noncomputable abbrev ValAt (vs:List Value) (i:Nat) (v:Value):Prop:=vs[i]?=some v
theorem walk_text (hh:A.handled=none) (hby:w.params.followText "set-order" = true) (hne:I ≠ Sa) (hd:o.data=.set es ep t) (hf:t.fits es.size=true) :
  Walks prog w A I [I,Sa] [I] es.size (ValAt ((pickOrder (w.params.setOrder Sa ep) es).toList.map (·.2))) (fun i h=>IsSI h I (.int 0 0) i Sa es.size ep∧h.get? Sa=some o) where
 sub:=fun b hb=>by simp at hb ⊢; exact .inl hb
 frame:=fun i h h' st hk=>⟨hk I (by simp) _ st.1,hk Sa (by simp) _ st.2⟩
 item:=fun i s Q E hi st hQ=>by
  have hsz:(pickOrder (w.params.setOrder Sa ep) es).size=es.size:=by
   have:=(pickOrder_perm (w.params.setOrder Sa ep) es).length_eq
   simpa using this
  have hx:(pickOrder (w.params.setOrder Sa ep) es)[i]?=some (((pickOrder (w.params.setOrder Sa ep) es)[i]'(Nat.lt_of_lt_of_eq hi hsz.symm)).1,((pickOrder (w.params.setOrder Sa ep) es)[i]'(Nat.lt_of_lt_of_eq hi hsz.symm)).2):=Array.getElem?_eq_getElem (Nat.lt_of_lt_of_eq hi hsz.symm)
  refine si_text hby st.1 st.2 hd hf rfl hx fun h' hI' hs'=>hQ _ h' s.toks ?_ ⟨hI',hs'.extBut _ _ (Ne.symm hne) st.2⟩ fun b o hb e=>hs'.extBut _ _ (by simpa using hb) e
  show _[i]?=_
  rw [List.getElem?_map,Array.getElem?_toList,hx]
  rfl
 done:=fun s Q E st hQ=>by
  have hsz:(pickOrder (w.params.setOrder Sa ep) es).size=es.size:=by
   have:=(pickOrder_perm (w.params.setOrder Sa ep) es).length_eq
   simpa using this
  exact si_text_end hh hby st.1 st.2 hd hf rfl (Array.getElem?_eq_none (Nat.le_of_eq hsz)) fun h' hx=>hQ h' s.toks fun b o hb e=>hx _ _ (by simpa using hb) e
 self:=fun i s Q E st q=>si_self st.1 q
theorem walk_drawn (hh:A.handled=none) (h1:I ≠ Sa) (h2:I ≠ tp) (hd:o.data=.set es ep t) (hf:t.fits es.size=true) {ys:List Nat} (hys:∀ y ∈ ys,y < es.size) :
  Walks prog w A I [I,Sa,tp] [I] ys.length (ValAt (ys.map fun y=>((es[y]?).map (·.2)).getD .none)) (fun i h=>IsSI h I (.ref tp) i Sa es.size ep∧h.get? Sa=some o∧h.get? tp=some { cls:=.type "tuple", data:=.seq (ys.map fun (y:Nat)=>rawInt (y:Int)).toArray }) where
 sub:=fun b hb=>by simp at hb ⊢; exact .inl hb
 frame:=fun i h h' st hk=>⟨hk I (by simp) _ st.1,hk Sa (by simp) _ st.2.1,hk tp (by simp) _ st.2.2⟩
 item:=fun i s Q E hi st hQ=>by
  have hlt:ys[i] < es.size:=hys _ (List.getElem_mem hi)
  have hx:es[ys[i]]?=some ((es[ys[i]]'hlt).1,(es[ys[i]]'hlt).2):=Array.getElem?_eq_getElem hlt
  have hp:(ys.map fun (y:Nat)=>rawInt (y:Int)).toArray[i]?=some (rawInt (ys[i]:Int)):=by simp [hi]
  refine si_tuple st.1 st.2.2 st.2.1 hd hf rfl hp hx fun h' hI' hs'=>hQ _ h' s.toks ?_ ⟨hI',hs'.extBut _ _ (Ne.symm h1) st.2.1,hs'.extBut _ _ (Ne.symm h2) st.2.2⟩ fun b o hb e=>hs'.extBut _ _ (by simpa using hb) e
  show _[i]?=_
  rw [List.getElem?_map,List.getElem?_eq_getElem hi]
  show some (((es[ys[i]]?).map (·.2)).getD .none)=_
  rw [hx]
  rfl
 done:=fun s Q E st hQ=>by
  exact si_tuple_end hh st.1 st.2.2 st.2.1 hd hf rfl (by simp) fun h' hx=>hQ h' s.toks fun b o hb e=>hx _ _ (by simpa using hb) e
 self:=fun i s Q E st q=>si_self st.1 q
end
section
variable {prog:Program} {w:World} {A:Around} {E:Value→Shared→Prop} {s:Shared} {I Sa tp:Addr} {i n ep p:Nat} {es:Array (Int × Value)} {t:SetTable} {o:Obj} {places:Array Value}
theorem size_one {α:Type} {xs:Array α} (h:xs.size=1):∃ x,xs=#[x]:=by
 obtain ⟨l⟩:=xs
 match l,h with
 | [x],_=>exact ⟨x,rfl⟩
theorem walk_few (hh:A.handled=none) (hby:w.params.followText "set-order" = false) (hne:I ≠ Sa) (hd:o.data=.set es ep t) (hf:t.fits es.size=true) (h1:es.size≤1) (hled:t.led=true) :
  Walks prog w A I [I,Sa] [I] es.size (ValAt (es.toList.map (·.2))) (fun i h=>(∃ slot:Nat,IsSI h I (.int (slot:Int) 0) i Sa es.size ep∧(i=0→slot=0)∧(0 < i→es[SetTable.below t.place slot]?=none))∧h.get? Sa=some o) where
 sub:=fun b hb=>by simp at hb ⊢; exact .inl hb
 frame:=fun i h h' st hk=>by
  obtain ⟨⟨slot,a,b,c⟩,d⟩:=st
  exact ⟨⟨slot,hk I (by simp) _ a,b,c⟩,hk Sa (by simp) _ d⟩
 item:=fun i s Q E hi st hQ=>by
  obtain ⟨⟨slot,a,b,c⟩,d⟩:=st
  have hi0:i=0:=Nat.lt_one_iff.mp (Nat.lt_of_lt_of_le hi h1)
  have hsz:es.size=1:=Nat.le_antisymm h1 (Nat.lt_of_le_of_lt (Nat.zero_le _) hi)
  subst hi0
  cases b rfl
  obtain ⟨⟨hv,x⟩,rfl⟩:=size_one hsz
  have hps:t.place.size=1:=by
   simp only [SetTable.fits,Bool.and_eq_true,beq_iff_eq] at hf
   exact hf.1
  obtain ⟨q,hq⟩:=size_one hps
  refine si_one hby a d hd hf hq hled fun h' hI' hs'=>hQ x h' s.toks rfl ⟨⟨q+1,hI',fun z=>(by cases z),fun _=>?_⟩,hs'.extBut _ _ (Ne.symm hne) d⟩ fun b o hb e=>hs'.extBut _ _ (by simpa using hb) e
  rw [hq,below_one]
  rw [if_pos (Nat.lt_succ_self q)]
  rfl
 done:=fun s Q E st hQ=>by
  obtain ⟨⟨slot,a,b,c⟩,d⟩:=st
  refine si_slot_end hh hby a d hd hf rfl h1 hled ?_ fun h' hx=>hQ h' s.toks fun b o hb e=>hx _ _ (by simpa using hb) e
  by_cases hz:es.size=0
  ·exact Array.getElem?_eq_none (by rw [hz]; exact Nat.zero_le _)
  ·exact c (Nat.pos_of_ne_zero hz)
 self:=fun i s Q E st q=>by
  obtain ⟨⟨slot,a,b,c⟩,d⟩:=st
  exact si_self a q
end
section
variable {prog:Program} {w:World} {A:Around} {E:Value→Shared→Prop} {s:Shared} {I Sa tp:Addr} {i n ep p:Nat} {es:Array (Int × Value)} {t:SetTable} {o:Obj} {places:Array Value}
theorem perm_picks {α β:Type} (f:α→β) (d:β) {es:Array α} {ys:List Nat} (hp:ys.Perm (List.range es.size)):(ys.map fun y=>((es[y]?).map f).getD d).Perm (es.toList.map f):=by
 have h1:=hp.map fun y=>((es[y]?).map f).getD d
 have h2:(List.range es.size).map (fun y=>((es[y]?).map f).getD d)=es.toList.map f:=by
  refine List.ext_getElem? fun i=>?_
  by_cases h:i < es.size
  ·simp [h,List.getElem?_range h]
  ·simp [h,Nat.le_of_not_lt h]
 rw [h2] at h1
 exact h1
theorem set_iter {Q:Value→Shared→Prop} (ho:s.heap.get? Sa=some o) (hex:o.ExactSet) (hd:o.data=.set es ep t) (hf:t.fits es.size=true) (hled:t.led=!(w.params.followText "set-order")) (hpl:es.size=0 ∨ t.plain=false) (hbig:es.size≤sizeLine)
  (hQ:∀ (h':Heap) dr (I:Addr) (fp:List Addr) (St:Nat→Heap→Prop) (vals:List Value),(∀ b o,s.heap.get? b=some o→h'.get? b=some o)→s.heap.objs.size≤I→I < h'.objs.size→(∀ b ∈ fp,b=Sa ∨ s.heap.objs.size≤b) →
   (∀ A':Around,A'.handled=none→Walks prog w A' I fp [I] vals.length (ValAt vals) St)→St 0 h'→vals.Perm (es.toList.map (·.2))→Q (.ref I) { s with heap:=h',drawn:=dr }) :
  wpAny (model prog w) A (pyIter (.ref Sa)) Q E s:=by
 have hT:s.TypeIs (.ref Sa) "set" := ⟨o,ho,hex.1⟩
 have hlt:Sa < s.heap.objs.size:=Heap.lt_size ho
 refine wpAny_pyIter_slot hT PySem.F.slot_set_iter (wpAny_call_entry PySem.F.slot_set_iter hT entry_s_iter ?_ (PySem.F.args_set_iter_1 _))
 show wpAny _ _ (Builtin.Frozenset.sizeOf Sa >>= _) _ _ s
 unfold Builtin.Frozenset.sizeOf
 refine wpAny_bind (wpAny_bind (wpAny_setEntries_of ho hd hf (wpAny_pure ?_)))
 refine wpAny_bind ?_
 refine wpAny_bind ?_
 refine wpAny_setState_of ho hd hf ?_
 dsimp only
 unfold setsByText
 refine wpAny_bind (wpAny_bind (wpAny_askSetting (wpAny_pure ?_)))
 refine wpAny_pure ?_
 have fin:∀ {first:Value} {s1:Shared} {R:Value→Shared→Prop} {EE:Value→Shared→Prop},s1.heap.get? Sa=some o→(∀ h',IsSI h' s1.heap.objs.size first 0 Sa es.size ep→(∀ b o,s1.heap.get? b=some o→h'.get? b=some o)→s1.heap.objs.size < h'.objs.size→R (.ref s1.heap.objs.size) { s1 with heap:=h' }) →
   wpAny (model prog w) A.in1 (do ret (← newFields "set_iterator" [first,rawInt 0,.ref Sa,rawInt es.size,rawInt (← setEpoch Sa)]):Sem Fin) (fun f s'=>∃ v,f=.done (.ret v)∧∃ T r,s'.TypeIs v T∧typeLookup (.type T) "__next__" = pure (some r)∧R v s') EE s1:=by
  intro first s1 R EE h1 hR
  refine wpAny_bind (wpAny_setEpoch_of h1 hd hf ?_)
  refine wpAny_bind (wpAny_newObj_type (wpAny_pure ⟨_,rfl, "set_iterator", _,⟨_,Heap.get?_push_size _ rfl,rfl⟩,slot_si_next.lookup,?_⟩))
  exact hR _ (Heap.get?_push_size _ rfl) (fun b o e=>Heap.get?_push_of_some _ e) (by rw [Heap.size_push]; exact Nat.lt_succ_self _)
 cases hby:w.params.followText "set-order" with
 | true =>
  have e1:∀ x:Bool,(!(model prog w).w.params.followText "set-order" && x)=false:=fun x=>by
   show (!w.params.followText "set-order" && x)=false
   rw [hby]; rfl
  refine wpAny_ite_split (fun z=>absurd (z.symm.trans (e1 _)) (by simp)) (fun _=>wpAny_bind (wpAny_pure ?_))
  refine fin ho fun h' hI hk hl=>?_
  have hsz:((pickOrder (w.params.setOrder Sa ep) es).toList.map (·.2)).length=es.size:=by
   rw [List.length_map,(pickOrder_perm _ es).length_eq,Array.length_toList]
  have hW:∀ A':Around,A'.handled=none→Walks prog w A' s.heap.objs.size [s.heap.objs.size,Sa] [s.heap.objs.size] ((pickOrder (w.params.setOrder Sa ep) es).toList.map (·.2)).length (ValAt ((pickOrder (w.params.setOrder Sa ep) es).toList.map (·.2))) _:=fun A' hA'=>by
   rw [hsz]
   exact walk_text hA' hby (Nat.ne_of_gt hlt) hd hf
  exact hQ h' s.drawn _ [s.heap.objs.size,Sa] _ _ hk (Nat.le_refl _) hl (fun b hb=>by simp at hb; exact hb.symm.imp id fun z=>Nat.le_of_eq z.symm) hW ⟨hI,hk _ _ ho⟩ ((pickOrder_perm _ es).map _)
 | false =>
  rw [hby] at hled
  by_cases h2:es.size≤1
  ·refine wpAny_ite_split (fun z=>?_) (fun _=>wpAny_bind (wpAny_pure ?_))
   ·have z':(!w.params.followText "set-order" && (!t.plain && decide (es.size > 1)))=true:=z
    simp at z'
    exact absurd z'.2.2 (Nat.not_lt_of_le h2)
   ·refine fin ho fun h' hI hk hl=>?_
    have hW:∀ A':Around,A'.handled=none→Walks prog w A' s.heap.objs.size [s.heap.objs.size,Sa] [s.heap.objs.size] (es.toList.map (·.2)).length (ValAt (es.toList.map (·.2))) _:=fun A' hA'=>by
     rw [List.length_map,Array.length_toList]
     exact walk_few (prog:=prog) (I:=s.heap.objs.size) hA' hby (Nat.ne_of_gt hlt) hd hf h2 hled
    exact hQ h' s.drawn _ [s.heap.objs.size,Sa] _ _ hk (Nat.le_refl _) hl (fun b hb=>by simp at hb; exact hb.symm.imp id fun z=>Nat.le_of_eq z.symm) hW ⟨⟨0,hI,fun _=>rfl,fun z=>absurd z (Nat.lt_irrefl _)⟩,hk _ _ ho⟩ (List.Perm.refl _)
  ·have hp:t.plain=false:=hpl.resolve_left (fun z=>h2 (Nat.le_trans (Nat.le_of_eq z) (Nat.zero_le 1)))
   refine wpAny_ite_split (fun _=>?_) (fun z=>absurd (show (!w.params.followText "set-order" && (!t.plain && decide (es.size > 1)))=true by rw [hby,hp]; simp; exact Nat.lt_of_not_le h2) z)
   refine wpAny_bind (draw_order _ _ (by simp) fun ys dr hys=>?_)
   have hl:ys.length=es.size:=by rw [hys.length_eq,List.length_range]
   refine wpAny_bind (wpAny_newTuple ?_ (by rw [List.length_map,hl]; exact hbig))
   refine fin (s1:={ s with drawn:=dr,heap:=s.heap.push { cls:=.type "tuple", data:=.seq (ys.map fun (i:Nat)=>rawInt (i:Int)).toArray } }) (Heap.get?_push_of_some _ ho) fun h' hI hk hlI=>?_
   have hsz:(s.heap.push { cls:=.type "tuple", data:=.seq (ys.map fun (i:Nat)=>rawInt (i:Int)).toArray }).objs.size=s.heap.objs.size+1:=Heap.size_push ..
   have htp:=hk _ _ (Heap.get?_push_size s.heap (o:={ cls:=.type "tuple", data:=.seq (ys.map fun (i:Nat)=>rawInt (i:Int)).toArray }) rfl)
   have hSa':=hk _ _ (Heap.get?_push_of_some { cls:=.type "tuple", data:=.seq (ys.map fun (i:Nat)=>rawInt (i:Int)).toArray } ho)
   dsimp only at hI hlI hk ⊢
   rw [hsz] at hI hlI ⊢
   have hW:∀ A':Around,A'.handled=none→Walks prog w A' (s.heap.objs.size+1) [s.heap.objs.size+1,Sa,s.heap.objs.size] [s.heap.objs.size+1] (ys.map fun y=>((es[y]?).map (·.2)).getD Value.none).length (ValAt (ys.map fun y=>((es[y]?).map (·.2)).getD .none)) _:=fun A' hA'=>by
    rw [List.length_map]
    exact walk_drawn (prog:=prog) (w:=w) (I:=s.heap.objs.size+1) (tp:=s.heap.objs.size) (ys:=ys) hA' (Nat.ne_of_gt (Nat.lt_succ_of_lt hlt)) (Nat.succ_ne_self _) hd hf fun y hy=>List.mem_range.mp (hys.mem_iff.mp hy)
   exact hQ h' dr _ [s.heap.objs.size+1,Sa,s.heap.objs.size] _ _ (fun b o e=>hk _ _ (Heap.get?_push_of_some _ e)) (Nat.le_succ _) hlI (fun b hb=>by
    simp at hb
    rcases hb with rfl | rfl | rfl
    ·exact .inr (Nat.le_succ _)
    ·exact .inl rfl
    ·exact .inr (Nat.le_refl _)) hW ⟨hI,hSa',htp⟩ (perm_picks (·.2) Value.none hys)
end
theorem set_len_lookup:typeLookup (.type "set") "__len__" = pure (some (.builtin "set.__len__")):=by rw [typeLookup_type,builtinLookup_eq_fast]; kernel_rfl
section
variable {prog:Program} {w:World} {A:Around} {E:Value→Shared→Prop} {s:Shared} {I Sa tp:Addr} {i n ep p:Nat} {es:Array (Int × Value)} {t:SetTable} {o:Obj} {places:Array Value}
theorem set_hint (hT:s.TypeIs (.ref Sa) "set") {Q:Bool→Shared→Prop} (h:Q false s):wpAny (model prog w) A (Builtin.List.listLengthHint (.ref Sa)) Q E s:=by
 unfold Builtin.List.listLengthHint
 refine wpAny_bind (wpAny_specialOf hT set_len_lookup ?_)
 generalize hid:("set.__len__" : String)=id0
 wp_delta
 rw [show splitId id0=some ("set", "__len__") from by subst hid; decide +kernel]
 subst hid
 refine wpAny_bind (wpAny_isInstance (T := "set") (b:=true) hT (by rw [isSubtype_type]; kernel_rfl) ?_)
 refine wpAny_ite_split (fun hab=>absurd hab (by decide)) (fun _=>?_)
 refine wpAny_ite_split (fun _=>?_) (fun hab=>absurd (by decide +kernel) hab)
 refine wpAny_bind (wpAny_typeOf hT ?_)
 exact wpAny_pure h
theorem set_collect {R:List Value→Shared→Prop} (hh:A.handled=none) (ho:s.heap.get? Sa=some o) (hex:o.ExactSet) (hd:o.data=.set es ep t) (hf:t.fits es.size=true) (hled:t.led=!(w.params.followText "set-order")) (hpl:es.size=0 ∨ t.plain=false) (hbig:es.size≤sizeLine)
  (h:∀ (h':Heap) tk dr (vals:List Value),(∀ b o,s.heap.get? b=some o→h'.get? b=some o)→vals.Perm (es.toList.map (·.2))→R vals { s with heap:=h',toks:=tk,drawn:=dr }) :
  wpAny (model prog w) A (collect (.ref Sa)) R E s:=by
 have hlt:Sa < s.heap.objs.size:=Heap.lt_size ho
 unfold collect
 refine wpAny_bind (wpAny_runValue (codeAny_builtin entry_proto_collect' ?_))
 rw [Around.under_plainId PySem.F.plain_proto_collect _]
 show wpAny _ A.in1 (newList [] >>= fun l=>again (.builtin "list.__iadd__" ⟨[l,.ref Sa],[]⟩)) _ _ s
 refine wpAny_bind (wpAny_newObj_type ?_)
 refine wpAny_pure ⟨plainId_quiet PySem.F.plain_list_iadd _,codeAny_builtin entry_list_iadd' ?_⟩
 rw [Around.under_plainId PySem.F.plain_list_iadd _]
 have hS₁:(s.heap.push { cls:=.type "list", data:=.seq ([]:List Value).toArray }).get? s.heap.objs.size=some { cls:=.type "list", data:=.seq #[] }:=Heap.get?_push_size _ rfl
 have ho₁:(s.heap.push { cls:=.type "list", data:=.seq ([]:List Value).toArray }).get? Sa=some o:=Heap.get?_push_of_some _ ho
 show wpAny _ A.in1 (Builtin.List.listExtendWith (.ref s.heap.objs.size) (.ref Sa) (.ref s.heap.objs.size)) _ _ _
 unfold Builtin.List.listExtendWith
 refine wpAny_bind (wpAny_typeOf (T := "set") ⟨o,ho₁,hex.1⟩ ?_)
 have h1:Builtin.List.listSameRef (.ref s.heap.objs.size) (.ref Sa)=false:=by
  have:s.heap.objs.size ≠ Sa:=Nat.ne_of_gt hlt
  simp [Builtin.List.listSameRef,this]
 have h2:(Value.type "set" == Value.type "list")=false:=by decide
 have h3:(Value.type "set" == Value.type "tuple")=false:=by decide
 simp only [h1,h2,h3,Bool.or_false,Bool.false_eq_true,if_false]
 refine wpAny_bind (set_iter ho₁ hex hd hf hled hpl hbig fun h' dr I fp St vals hk hI hIl hfp hW st hp=>?_)
 dsimp only at hk hI hIl
 have hzz:(s.heap.push { cls:=.type "list", data:=.seq ([]:List Value).toArray }).objs.size=s.heap.objs.size+1:=Heap.size_push ..
 rw [hzz] at hI hfp
 have hSf:s.heap.objs.size ∉ fp:=fun q=>by
  rcases hfp _ q with z | z
  ·rw [z] at hlt; exact Nat.lt_irrefl _ hlt
  ·exact Nat.lt_irrefl _ z
 have hSI:s.heap.objs.size ≠ I:=Nat.ne_of_lt hI
 have hvl:vals.length=es.size:=by rw [hp.length_eq,List.length_map,Array.length_toList]
 have hS':=hk _ _ hS₁
 refine wpAny_bind (wpAny_holding (set_hint (s:={ s with heap:=h',drawn:=dr }) ⟨o,hk _ _ ho₁,hex.1⟩ ?_))
 have key:∀ (h2:Heap) (c₁ tk:Nat) (RR:Result→Shared→Prop),St 0 h2→(∀ b o,b ≠ s.heap.objs.size→h'.get? b=some o→h2.get? b=some o)→h2.get? s.heap.objs.size=some { cls:=.type "list", data:=.seq #[] c₁ } →
   (∀ h3 tk3 c3,(∀ b o,s.heap.get? b=some o→h3.get? b=some o)→h3.get? s.heap.objs.size=some { cls:=.type "list", dict:=none,data:=.seq vals.toArray c3,slots:=#[] }→RR (.ok (.ret (.ref s.heap.objs.size))) { s with heap:=h3,toks:=tk3,drawn:=dr }) →
   codeAny (model prog w) A (.builtin "list.extend.loop" ⟨[.ref s.heap.objs.size,.ref I,.ref s.heap.objs.size],[]⟩) RR { s with heap:=h2,toks:=tk,drawn:=dr }:=by
  intro h2 c₁ tk RR hst hk2 hS2 hR
  refine codeAny_extend_loopS (hW A.in1 hh).toS (Nat.le_trans (Nat.le_of_eq hvl) hbig) s.heap.objs.size hSf (.ref s.heap.objs.size) vals.length 0 _ #[] c₁ rfl (Nat.zero_le _) hst hS2 (ItemsOf.nil _) fun s' acc' c' hm hS'' hacc=>?_
  rw [Moved.eq_with hm]
  have hav:acc'=vals.toArray:=by
   refine Array.ext_getElem? fun j=>?_
   by_cases hj:j < acc'.size
   ·have:=hacc.2 j _ (Array.getElem?_eq_getElem hj)
    rw [Array.getElem?_eq_getElem hj]
    simpa using this.symm
   ·rw [Array.getElem?_eq_none (Nat.le_of_not_lt hj),Array.getElem?_eq_none (by have:=hacc.1; simp; exact Nat.le_trans (Nat.le_of_eq this.symm) (Nat.le_of_not_lt hj))]
  subst hav
  refine hR s'.heap s'.toks c' (fun b o e=>?_) hS''
  have hb:=Heap.lt_size e
  exact hm.heap b o (fun hmem=>by
   simp at hmem
   rcases hmem with z | z
   ·rw [z] at hb; exact Nat.lt_irrefl _ hb
   ·rw [z] at hb; exact Nat.lt_irrefl _ (Nat.lt_trans (Nat.lt_of_succ_le hI) hb)) (hk2 b o (Nat.ne_of_lt hb) (hk b o (Heap.get?_push_of_some _ e)))
 have last:∀ (h3:Heap) (tk3 c3:Nat),(∀ b o,s.heap.get? b=some o→h3.get? b=some o)→h3.get? s.heap.objs.size=some { cls:=.type "list", dict:=none,data:=.seq vals.toArray c3,slots:=#[] } →
   wpAny (model prog w) A (load s.heap.objs.size >>= fun o=>match o.data with | .seq xs _=>pure xs.toList | _=>unsupported "internal:collect") R E { s with heap:=h3,toks:=tk3,drawn:=dr }:=fun h3 tk3 c3 hk3 hl3=>by
  refine wpAny_bind (wpAny_load hl3 ?_)
  refine wpAny_pure ?_
  have:=h h3 tk3 dr vals hk3 hp
  simpa using this
 refine wpAny_ite_split (fun _=>?_) (fun _=>wpAny_pure ⟨plainId_quiet PySem.F.plain_extend_loop _,key h' 0 s.toks _ st (fun b o _ e=>e) hS' fun h3 tk3 c3 hk3 hl3=>last h3 tk3 c3 hk3 hl3⟩)
 refine wpAny_bind (wpAny_rule ?_)
 refine wpAny_bind ?_
 show wpAny _ _ (updateSeq s.heap.objs.size (·.push .none) >>= fun _=>updateSeq s.heap.objs.size (·.pop)) _ _ _
 refine wpAny_bind (wpAny_updateSeq hS' rfl ?_)
 have hS₂:=Heap.get?_update_self (Obj.mapSeq (·.push Value.none)) hS' rfl
 refine wpAny_updateSeq (hz:=by seq_fits) hS₂ rfl ?_
 have hS₃:=Heap.get?_update_self (Obj.mapSeq (·.pop)) hS₂ rfl
 refine wpAny_pure ⟨plainId_quiet PySem.F.plain_extend_loop _,key _ _ s.toks _ ?_ (fun b o hb e=>?_) hS₃ fun h3 tk3 c3 hk3 hl3=>last h3 tk3 c3 hk3 hl3⟩
 ·refine (hW A.in1 hh).frame 0 _ _ st fun b hb o e=>?_
  have hbS:b ≠ s.heap.objs.size:=fun h=>hSf (h ▸ hb)
  exact (Heap.get?_update_other _ _ (Ne.symm hbS)).trans ((Heap.get?_update_other _ _ (Ne.symm hbS)).trans e)
 ·exact (Heap.get?_update_other _ _ (Ne.symm hb)).trans ((Heap.get?_update_other _ _ (Ne.symm hb)).trans e)
end
section
variable {prog:Program} {w:World} {A:Around} {E:Value→Shared→Prop} {s:Shared}
theorem code_set_newT (a:Value) {Q₁:Value→Shared→Prop}
  (h:Q₁ (.ref s.heap.objs.size) { s with heap:=s.heap.push { cls:=.type "set", dict:=none,data:=.set #[] 0 (.fresh 0 0 (!(w.params.followText "set-order"))) } }) :
  codeAny (model prog w) A (.call (.builtin "set.__new__") ⟨[.type "set", a],[]⟩) (wants Q₁ E) s:=by
 refine codeAny_of_tree ?_
 show wpAny _ A.in1 (do checkBuiltinCall "set.__new__" ⟨[.type "set", a],[]⟩; again (.builtin "set.__new__" ⟨[.type "set", a],[]⟩)) _ _ s
 refine wpAny_bind (wpAny_of_eq (PySem.F.newCall_set_1 a) (wpAny_pure ⟨plainId_quiet PySem.F.plain_set_new _,codeAny_builtin PySem.F.entry_set_new ?_⟩))
 rw [Around.under_plainId PySem.F.plain_set_new _]
 unfold Builtin.«set.__new__» Builtin.Frozenset.newClass
 have hsub:=sub_set_self
 obtain ⟨hp,g,d,tk,os⟩:=s
 dsimp only
 wp_walk
 refine wpAny_askSetting (wpAny_pure ?_)
 dsimp only
 simp only [newObj]
 refine wpAny_bind (wpAny_alloc (wpAny_pure ?_))
 exact wpAny_pure h
noncomputable def metT (xs:List Str) (i:Nat):List Str:=(xs.take i).foldl stepT []
theorem metT_succ {xs:List Str} {i:Nat} {x:Str} (h:xs[i]?=some x):metT xs (i+1)=stepT (metT xs i) x:=by
 unfold metT
 rw [List.take_add_one,h,List.foldl_append]
 rfl
theorem stepT_mem (σ:List Str) (v k:Str):decide (k ∈ stepT σ v)=(decide (k ∈ σ) || decide (k=v)):=by
 unfold stepT
 split
 ·by_cases e:k=v
  ·subst e; simp [*]
  ·simp [e]
 ·by_cases e:k=v <;> simp [e]
theorem stepT_len (σ:List Str) (v:Str):(stepT σ v).length=if decide (v ∈ σ)=true then σ.length else σ.length+1:=by
 unfold stepT
 by_cases h:v ∈ σ <;> simp [h]
theorem metT_le (xs:List Str):∀ i,(metT xs i).length≤i
 | 0=>by unfold metT; simp
 | i+1=>by
  have ih:=metT_le xs i
  cases h:xs[i]? with
  | none =>
   have:metT xs (i+1)=metT xs i:=by unfold metT; rw [List.take_add_one,h]; simp
   rw [this]; exact Nat.le_succ_of_le ih
  | some x =>
   rw [metT_succ h,stepT_len]
   split <;> first | exact Nat.le_succ_of_le ih | exact Nat.succ_le_succ ih
theorem SetT_congr {h:Heap} {a:Addr} {S S':Str→Bool} {n n':Nat} {byT:Bool} (x:SetT prog w h a S n byT) (e:∀ k,S k=S' k) (en:n=n'):SetT prog w h a S' n' byT:=by
 have:S=S':=funext e
 subst this; subst en; exact x
end
section
variable {prog:Program} {w:World} {A:Around} {E:Value→Shared→Prop} {s:Shared} {R:Result→Shared→Prop}
theorem set_loop {l I S:Addr} {items:Array Value} {xs:List Str} {byT:Bool} (hh:A.handled=none) (hlI:l ≠ I) (hSl:S ≠ l) (hSI:S ≠ I) (hlen:items.size=xs.length) (hb:xs.length+1 < scanBound) {h₁:Heap}
  (hv:∀ (i:Nat) v,items[i]?=some v→∃ x t,xs[i]?=some x∧v=.str x t) (hS0:h₁.get? S=none) (hI0:h₁.get? I=none) (hl:h₁.IsList l items)
  (hR:∀ h' tk,(∀ b o,h₁.get? b=some o→h'.get? b=some o)→SetT prog w h' S (fun k=>decide (k ∈ metT xs xs.length)) (metT xs xs.length).length byT→R (.ok (.ret .none)) { s with heap:=h',toks:=tk }) :
  ∀ (k i:Nat) (h:Heap) (tk:Nat),xs.length - i=k→i≤xs.length→(∀ b o,h₁.get? b=some o→h.get? b=some o)→h.IsListIter I l i→SetT prog w h S (fun k=>decide (k ∈ metT xs i)) (metT xs i).length byT →
   codeAny (model prog w) A (.builtin "set.update.loop" ⟨[.ref S,.ref I],[]⟩) R { s with heap:=h,toks:=tk }:=by
 intro k
 induction k with
 | zero =>
  intro i h tk hk hi hkp hit hS
  have hin:i=xs.length:=Nat.le_antisymm hi (Nat.le_of_sub_eq_zero hk)
  subst hin
  refine codeAny_builtin PyProof.Rows.F.entry_set_update_loop ?_
  rw [Around.under_plainId PyProof.Rows.F.plain_set_update_loop _]
  show wpAny _ A.in1 (pyNext (.ref I) >>= _) _ _ _
  refine wpAny_bind (wpAny_pyNext_list_end (s:={ s with heap:=h,toks:=tk }) (A:=A.in1) hh hit (hl.at fun o q=>hkp _ _ q) (Array.getElem?_eq_none (Nat.le_of_eq hlen)) fun h' he=>?_)
  show wpAny _ A.in1 (ret Value.none) _ _ _
  exact wpAny_pure (hR h' tk (fun b o e=>he b o (fun z=>by rw [z,hI0] at e; exact nos e) (hkp b o e)) (hS.keep fun o e=>he _ _ hSI e))
 | succ k ih =>
  intro i h tk hk hi hkp hit hS
  have hlt:i < xs.length:=Nat.lt_of_sub_eq_succ hk
  have hvi:items[i]?=some items[i]:=Array.getElem?_eq_getElem (Nat.lt_of_lt_of_eq hlt hlen.symm)
  obtain ⟨x,t,hx,hvx⟩:=hv i _ hvi
  refine codeAny_builtin PyProof.Rows.F.entry_set_update_loop ?_
  rw [Around.under_plainId PyProof.Rows.F.plain_set_update_loop _]
  show wpAny _ A.in1 (pyNext (.ref I) >>= _) _ _ _
  refine wpAny_bind (wpAny_pyNext_list_item (s:={ s with heap:=h,toks:=tk }) (A:=A.in1) hit (hl.at fun o q=>hkp _ _ q) hvi fun h' hit' hs'=>?_)
  have hS':=hS.keep (h':=h') fun o e=>hs'.extBut _ _ hSI e
  rw [hvx]
  show wpAny _ A.in1 (holding [Value.str x t] (setAdd S (.str x t)) >>= _) _ _ _
  refine wpAny_bind (wpAny_holding ?_)
  unfold setAdd
  refine wpAny_holding ?_
  refine wpAny_bind ((strKind prog w).pyHash (k:=x) (strKind_is _ _ _ _) ?_)
  have hroom:(metT xs i).length+1 < scanBound:=Nat.lt_of_le_of_lt (Nat.succ_le_succ (Nat.le_trans (metT_le xs i) (Nat.le_of_lt hlt))) hb
  refine addT (s:={ s with heap:=h',toks:=tk+1 }) hS' hroom fun h2 hsb hS2=>?_
  have hSi:SetT prog w h2 S (fun k=>decide (k ∈ metT xs (i+1))) (metT xs (i+1)).length byT :=
   SetT_congr hS2 (fun k=>by rw [metT_succ hx,stepT_mem]) (by rw [metT_succ hx,stepT_len])
  refine wpAny_pure ⟨plainId_quiet PyProof.Rows.F.plain_set_update_loop _,ih (i+1) h2 _ (sub1 hk) hlt (fun b o e=>?_) ?_ hSi⟩
  ·exact hsb.extBut b o (fun z=>by rw [z,hS0] at e; exact nos e) (hs'.extBut b o (fun z=>by rw [z,hI0] at e; exact nos e) (hkp b o e))
  ·obtain ⟨oi,hoi,r⟩:=hit'
   exact ⟨oi,hsb.extBut _ _ (Ne.symm hSI) hoi,r⟩
end
section
variable {prog:Program} {w:World} {A:Around} {E:Value→Shared→Prop} {s:Shared}
theorem call_setT {l:Addr} {items:Array Value} {xs:List Str} {Q:Value→Shared→Prop}
  (hh:A.handled=none) (hl:s.heap.IsList l items) (hi:∀ (i:Nat) v,items[i]?=some v→∃ x t,xs[i]?=some x∧v=.str x t) (hlen:items.size=xs.length) (hb:xs.length+1 < scanBound)
  (h:∀ (h':Heap) (tk:Nat),SetT prog w h' s.heap.objs.size (fun k=>decide (k ∈ metT xs xs.length)) (metT xs xs.length).length (w.params.followText "set-order") →
   (∀ b o,b < s.heap.objs.size→s.heap.get? b=some o→h'.get? b=some o)→Q (.ref s.heap.objs.size) { s with heap:=h',toks:=tk }) :
  wpAny (model prog w) A (call (.type "set") [.ref l]) Q E s:=by
 obtain ⟨c,tl,hmro⟩:=PySem.F.called_set.mro
 have hmade:=PySem.F.called_set.made
 have hsub:=PySem.F.called_set.sub
 refine wpAny_call (codeAny_of_tree ?_)
 show wpAny _ _ (callAny (.type "set") _) _ _ _
 refine wpAny_pure ⟨Code.quiet_builtin _ (by decide +kernel),codeAny_builtin PySem.F.entry_type_call ?_⟩
 rw [Around.under_plain (weight_type_call_type "set" [.ref l] []) rfl]
 have h1:=PySem.F.called_set.notType
 have h2:=PySem.F.called_set.canCreate
 have hct:=PySem.F.typeCall_set_1 (.ref l)
 repeat (any_goals (first | assumption | wp_step))
 refine codeAny_mono (code_set_newT (.ref l) (E:=E) (Q₁:=fun obj s₁=>obj=.ref s.heap.objs.size∧s₁={ s with heap:=s.heap.push { cls:=.type "set", dict:=none,data:=.set #[] 0 (.fresh 0 0 (!(w.params.followText "set-order"))) } }) ⟨rfl,rfl⟩) fun r s₁ hr=>?_
 cases r with
 | error e=>exact hr
 | ok fl =>
  cases fl with
  | ret obj =>
   obtain ⟨rfl,rfl⟩:=hr
   have hS:(s.heap.push { cls:=.type "set", dict:=none,data:=.set #[] 0 (.fresh 0 0 (!(w.params.followText "set-order"))) }).get? s.heap.objs.size=some { cls:=.type "set", dict:=none,data:=.set #[] 0 (.fresh 0 0 (!(w.params.followText "set-order"))) }:=Heap.get?_push_size _ rfl
   have hT:Shared.TypeIs { s with heap:=s.heap.push { cls:=.type "set", dict:=none,data:=.set #[] 0 (.fresh 0 0 (!(w.params.followText "set-order"))) } } (.ref s.heap.objs.size) "set" := ⟨_,hS,rfl⟩
   have hli:=PySem.F.called_set.init.lookup
   have hbi:=PySem.F.called_set.init.bind (.ref s.heap.objs.size)
   repeat (any_goals (first | assumption | wp_step))
   refine codeAny_mono (codeAny_call_builtin (R:=wants (fun r s₂=>r=.none∧∃ h' tk,s₂={ s with heap:=h',toks:=tk } ∧
     SetT prog w h' s.heap.objs.size (fun k=>decide (k ∈ metT xs xs.length)) (metT xs xs.length).length (w.params.followText "set-order") ∧
     (∀ b o,b < s.heap.objs.size→s.heap.get? b=some o→h'.get? b=some o)) E) PySem.F.called_set.init.plain PySem.F.entry_set_init (check_set_init_1 hT ?_)) fun r₂ s₂ hr₂=>?_
   ·obtain ⟨ol,hol,hcl,nl,hdl⟩:=hl
    obtain ⟨ocls,odict,odata,oslots⟩:=ol
    simp only at hcl hdl
    subst hcl; subst hdl
    have hol':(s.heap.push { cls:=.type "set", dict:=none,data:=.set #[] 0 (.fresh 0 0 (!(w.params.followText "set-order"))) }).get? l=some { cls:=.type "list", dict:=odict,data:=.seq items nl,slots:=oslots }:=Heap.get?_push_of_some _ hol
    have hsls:=PySem.F.sub_list_set
    have hslf:=PySem.F.sub_list_frozenset
    have hne:(Value.type "list" == Value.type "dict")=false:=by decide
    have hl1:(s.heap.push { cls:=.type "set", dict:=none,data:=.set #[] 0 (.fresh 0 0 (!(w.params.followText "set-order"))) }).IsList l items:=⟨_,hol',rfl,nl,rfl⟩
    unfold Builtin.«set.__init__» noKeywords Builtin.Frozenset.updateFrom
    generalize hPI:pyIter=PI
    wp_walk
    subst hPI
    refine wpAny_pyIter_list hl1 ?_
    refine wpAny_bind (wpAny_runValue ?_)
    have hlS:l < s.heap.objs.size:=Heap.lt_size hol
    have hz1:(s.heap.push { cls:=.type "set", dict:=none,data:=.set #[] 0 (.fresh 0 0 (!(w.params.followText "set-order"))) }).objs.size=s.heap.objs.size+1:=Heap.size_push ..
    refine set_loop (s:=s) (h₁:=s.heap) (items:=items) (xs:=xs) (byT:=w.params.followText "set-order") (l:=l) (by simp [hh]) (by rw [hz1]; exact Nat.ne_of_lt (Nat.lt_succ_of_lt hlS)) (Nat.ne_of_gt hlS) (by rw [hz1]; exact Nat.ne_of_lt (Nat.lt_succ_self _)) hlen hb hi
     (Heap.get?_none_of_le (Nat.le_refl _)) (Heap.get?_none_of_le (by rw [hz1]; exact Nat.le_succ _)) ⟨_,hol,rfl,nl,rfl⟩ (fun h' tk hk hS'=>?_) xs.length 0 _ _ rfl (Nat.zero_le _) (fun b o e=>Heap.get?_push_of_some _ (Heap.get?_push_of_some _ e)) ⟨{ cls:=.type "list_iterator", data:=.fields #[.ref l,.int 0 0] },Heap.get?_push_size _ rfl,rfl,rfl⟩ ?_
    ·show wpAny _ _ _ _ _ _
     refine wpAny_pure ?_
     show wpAny _ _ (ret Value.none) _ _ _
     exact wpAny_pure ⟨rfl,h',tk,rfl,hS',fun b o hb e=>hk b o e⟩
    ·exact ⟨_,_,_,_,Heap.get?_push_of_some _ hS,⟨rfl,rfl,rfl⟩,rfl,(fun e he=>by simp at he),(fun k=>by simp [metT]),by unfold scanBound; simp,by simp [SetTable.fits,SetTable.fresh,SetTable.fill],by simp [metT],rfl,.inl rfl⟩
   ·cases r₂ with
    | error e=>exact hr₂
    | ok fl₂ =>
     cases fl₂ with
     | ret r =>
      obtain ⟨rfl,h',tk,rfl,hS',hk'⟩:=hr₂
      repeat (any_goals (first | assumption | wp_step))
      exact h _ _ hS' hk'
     | _=>exact hr₂.elim
  | _=>exact hr.elim
end
theorem kas2 (cmp:Nat→Nat→Bool):kasRun cmp (kas_sort 2)=bif cmp 1 0 then #[1,0] else #[0,1]:=by
 obtain ⟨k,hk,h2⟩:∃ k,kas_sort 2=.ask 1 0 k∧∀ b,k b=.ret (bif b then #[1,0] else #[0,1]):=⟨_,rfl,fun b=>by cases b <;> rfl⟩
 rw [hk]
 show kasRun cmp (k (cmp 1 0))=_
 rw [h2]
 rfl
theorem sort2 (x y:Str):sortStrs [x,y]=bif strLt y x then [y,x] else [x,y]:=by
 show sortBy _ [x,y] default=_
 unfold sortBy
 rw [if_neg (by simp)]
 show List.map _ (kasRun _ (kas_sort 2)).toList=_
 rw [kas2]
 show List.map _ (bif strLt y x then #[1,0] else #[0,1]:Array Nat).toList=_
 cases strLt y x <;> rfl
theorem strLt_swap {x y:Str} (h:x ≠ y):strLt y x=!strLt x y:=by
 have h':x.cps.toList ≠ y.cps.toList:=fun e=>h (by cases x; cases y; exact congrArg _ (Array.toList_inj.mp e))
 unfold strLt
 rcases Std.lt_trichotomy x.cps.toList y.cps.toList with z | z | z
 ·rw [decide_eq_true z,decide_eq_false (fun q=>absurd (Std.lt_trans z q) (Std.lt_irrefl))]; rfl
 ·exact absurd z h'
 ·rw [decide_eq_true z,decide_eq_false (fun q=>absurd (Std.lt_trans z q) (Std.lt_irrefl))]; rfl
theorem sort_swap {x y:Str} (h:x ≠ y):sortStrs [x,y]=sortStrs [y,x]:=by
 rw [sort2,sort2,strLt_swap h]
 cases strLt x y <;> rfl
theorem stepT_nodup {σ:List Str} {v:Str} (h:σ.Nodup):(stepT σ v).Nodup:=by
 unfold stepT
 split
 ·exact h
 ·rename_i hv
  exact List.nodup_append.mpr ⟨h,by simp,fun a ha b hb e=>by
   rw [List.mem_singleton] at hb
   subst hb; subst e; exact hv ha⟩
theorem dedup_nodup (xs:List Str):(dedup xs).Nodup:=by
 unfold dedup
 have:∀ (xs σ:List Str),σ.Nodup→(xs.foldl stepT σ).Nodup:=by
  intro xs
  induction xs with
  | nil=>intro σ h; exact h
  | cons x xs ih=>intro σ h; exact ih _ (stepT_nodup h)
 exact this xs [] List.nodup_nil
theorem metT_all (xs:List Str):metT xs xs.length=dedup xs:=by
 unfold metT dedup
 rw [List.take_length]
theorem sort_same {xs ys:List Str} (hn:ys.Nodup) (hl:xs.length=ys.length) (h3:ys.length < 3) (hm:∀ k,k ∈ ys→k ∈ xs):sortStrs xs=sortStrs ys:=by
 match ys,xs,hl,h3,hn,hm with
 | [],[],_,_,_,_=>rfl
 | [y],[x],_,_,_,hm =>
  have:=hm y (by simp)
  rw [List.mem_singleton] at this
  rw [this]
 | [y1,y2],[x1,x2],_,_,hn,hm =>
  have hne:y1 ≠ y2:=by simpa using hn
  have h1:=hm y1 (by simp)
  have h2:=hm y2 (by simp)
  simp only [List.mem_cons,List.not_mem_nil,or_false] at h1 h2
  rcases h1 with rfl | rfl
  ·rcases h2 with rfl | rfl
   ·exact absurd rfl hne
   ·rfl
  ·rcases h2 with rfl | rfl
   ·exact sort_swap (fun e=>hne e.symm)
   ·exact absurd rfl hne
 | _::_::_::_,_,_,h3,_,_=>simp at h3; exact (Nat.not_lt_of_le (Nat.le_add_left 3 _) h3).elim
theorem strsOf_map:∀ {ds:List D} {xs:List Str},strsOf ds=some xs→ds=xs.map D.str
 | [],xs,h=>by obtain rfl:=so1 h; rfl
 | d::r,xs,h=>by
  cases d <;> try (exact nos h; done)
  obtain ⟨ys,h1,rfl⟩:=md h
  rw [strsOf_map h1]; rfl
section
variable {prog:Program} {w:World} {K:Frag} {mg mb:Str→Option Value} {b:Heap}
variable {h h':Heap} {F W fp:Addr→Prop} {ad ad' ad'' ad0:Adr} {σ σ' σ0:Sto} {s s' s'' s0:Shared} {A:Around} {E:Value→Shared→Prop} {sc scope:Scope} {renv:Env} {env:Env'} {L:Addr} {O:Addr→Prop}
theorem strs_items {M:Addr→Prop} {vs:List Value} {xs:List Str} (x:DRs prog w h M vs (xs.map D.str)):∀ (i:Nat) v,vs[i]?=some v→∃ x t,xs[i]?=some x∧v=.str x t:=by
 intro i v hv
 obtain ⟨d,e1,e2⟩:=x.getV hv
 rw [List.getElem?_map] at e1
 obtain ⟨y,h1,rfl⟩:=md e1
 cases e2
 exact ⟨y,_,h1,rfl⟩
theorem ev_sortSet {l:Lv} {n:Nat} (G:Gd prog w K mg mb b) (ih:Ev prog w b l n) {a:X} {x:PySem.Expr} {p q1 q2 p1:Pos} {v:V} (hg:globB sc (Str.ofString "sorted")=true) (hg2:globB sc (Str.ofString "set")=true) (hx:Enc sc a x)
  (he:evE l env σ (.bi .sortSet a)=some (v,σ')) (hA:Room A n) (hF:FR prog w b s.heap ad F sc renv env) (hS:SR prog w b F s.heap ad σ) :
  wpAny (model prog w) A (eval (.Call (.Name (Str.ofString "sorted") q1) [.Call (.Name (Str.ofString "set") q2) [x] [] p1] [] p) renv) (EP prog w b F renv.locals s ad σ' v) E s:=by
 have he':((evD l env σ a).bind fun r=>(biD .sortSet r.1).map fun d=>(V.d d,r.2))=some (v,σ'):=he
 obtain ⟨da,σ1,h1,h2⟩:=bp he'
 obtain ⟨d,h3,h4⟩:=md h2
 obtain ⟨rfl,rfl⟩:=pj h4
 cases da <;> (first | (exact nos h3; done) | skip)
 rename_i ds
 obtain ⟨xs,h5,h6⟩:=bd h3
 obtain ⟨hcc,rfl⟩:=lim_some h6
 rw [Bool.and_eq_true,decide_eq_true_eq,decide_eq_true_eq] at hcc
 have hds:=strsOf_map h5
 subst hds
 refine bi_callG (fv:=.builtin "sorted") G hg bil_sorted rfl (fun r=>rfl) hF hS (.inl ⟨_,rfl⟩) ?_
 refine bi_callG (fv:=.type "set") G hg2 bil_set (encL_plain (encL_one hx) renv) (fun r=>enc_star hx r _) hF hS (.inr ⟨_,rfl⟩) (wpAny_mono (ih.d hx h1 hA hF hS) (fun rv s1 z=>?_) fun _ _ z=>z)
 obtain ⟨ad1,m1,S1,r1⟩:=z
 obtain ⟨a',o,vs,n',rfl,e,c,dd,mm',r⟩:=r1.lstI
 have hl:=r.length
 rw [List.length_map,Array.length_toList] at hl
 refine call_setT (xs:=xs) hA.1 (isList_of e c dd) (fun i v hv=>strs_items r i v (by rw [Array.getElem?_toList]; exact hv)) hl (ltw (Nat.succ_lt_succ hcc.1)) fun h2 tk hT hk=>?_
 rw [metT_all] at hT
 obtain ⟨so,es,ep,t,ho,hex,hd,hel,hmem,hb,hf,hn,hled,hpl⟩:=hT
 refine sorted_any (set_collect (s:={ s1 with heap:=h2,toks:=tk }) hA.1 ho hex hd hf hled hpl (by rw [sizeLine_eq]; exact Nat.le_trans (Nat.le_of_eq hn) (lw (Nat.le_of_lt hcc.2))) fun h3 tk3 dr vals hk3 hp=>?_)
 dsimp only at hk3
 have hvl:vals.length=(dedup xs).length:=by rw [hp.length_eq,List.length_map,Array.length_toList,hn]
 have hstr:∀ v ∈ vals,∃ x t,v=.str x t:=fun v hv=>by
  obtain ⟨e1,e2,rfl⟩:=List.mem_map.mp (hp.mem_iff.mp hv)
  obtain ⟨⟨k,q1,q2⟩,q3⟩:=hel e1 e2
  obtain ⟨t,e4⟩:=Value.isStrOf_shape q1
  exact ⟨k,t,e4⟩
 let f:Value→Str:=fun v=>match v with | .str x _=>x | _=>default
 let ys:=vals.map f
 have hyl:ys.length=(dedup xs).length:=by rw [List.length_map,hvl]
 have hym:∀ k,k ∈ dedup xs→k ∈ ys:=fun k hk=>by
  obtain ⟨e1,q1,q2⟩:=(hmem k).mp (decide_eq_true hk)
  obtain ⟨t,q4⟩:=Value.isStrOf_shape q2
  exact List.mem_map.mpr ⟨_,hp.mem_iff.mpr (List.mem_map.mpr ⟨e1,q1,q4⟩),rfl⟩
 have hx:∀ i,i < vals.length→∃ t,vals.getD i Value.none=.str (ys.getD i default) t:=fun i hi=>by
  have q1:vals.getD i Value.none=vals[i]:=by simp only [List.getD_eq_getElem?_getD,List.getElem?_eq_getElem hi,Option.getD_some]
  have q2:ys.getD i default=f vals[i]:=by simp only [List.getD_eq_getElem?_getD,ys,List.getElem?_map,List.getElem?_eq_getElem hi]; rfl
  obtain ⟨x,t,q3⟩:=hstr _ (List.getElem_mem hi)
  refine ⟨t,?_⟩
  rw [q1,q2,q3]
 refine ⟨le5 hvl hcc.2,sort_strs (xs:=ys) (Heap.get?_push_size _ rfl) (le5 hvl hcc.2) (by rw [hyl,hvl]) hx fun h4 c hk4 hD=>⟨rfl,?_⟩⟩
 have hkk:∀ c o,s1.heap.get? c=some o→h3.get? c=some o:=fun c o q=>hk3 c o (hk c o (Heap.lt_size q) q)
 have hkk4:∀ c o,s1.heap.get? c=some o→h4.get? c=some o:=fun c o q=>hk4 c o (Nat.ne_of_lt (Heap.lt_size (hkk c o q))) (Heap.get?_push_of_some _ (hkk c o q))
 have hnone:s1.heap.get? h3.objs.size=none:=by
  cases z:s1.heap.get? h3.objs.size with
  | none=>rfl
  | some o=>exact absurd (Heap.lt_size (hkk _ _ z)) (Nat.lt_irrefl _)
 have hpk:DRs prog w h4 (Mt ad1 F) ((sortIx (fun i j=>strLt (ys.getD i default) (ys.getD j default)) vals.length).map fun i=>vals.getD i Value.none) ((sortStrs (dedup xs)).map D.str):=by
  rw [← sort_same (dedup_nodup xs) hyl hcc.2 hym]
  unfold sortStrs
  rw [sortBy_ix,List.map_map]
  have base:DRs prog w h4 (Mt ad1 F) vals (ys.map D.str):=strs_get (by rw [hyl,hvl]) hx
  have pk:=base.pick (d0:=D.str default) (sortIx (fun i j=>strLt (ys.getD i default) (ys.getD j default)) vals.length) (sortIx_lt (le5 hvl hcc.2))
  have hlen:ys.length=vals.length:=by rw [hyl,hvl]
  rw [hlen]
  have:(fun i=>(ys.map D.str).getD i (D.str default))=(D.str ∘ fun i=>ys.getD i default):=by
   funext i
   simp only [Function.comp,List.getD_eq_getElem?_getD,List.getElem?_map]
   cases ys[i]? <;> rfl
  rw [this] at pk
  exact pk
 obtain ⟨ad2,m2,S2,r2⟩:=grown_lst2 (L:=renv.locals) (t:=tk3) (s:=s1) S1 hkk4 hnone hD ⟨rfl,rfl⟩ ⟨_,rfl⟩ hpk
 have m3:Mv renv.locals s1 ad1 { s1 with heap:=h4,toks:=tk3,drawn:=dr } ad2:=⟨⟨_,_,_,rfl⟩,m2.old,m2.ns,m2.liv,m2.new,m2.loc⟩
 have z:DP prog w b F renv.locals s1 ad1 σ1 (.lst ((sortStrs (dedup xs)).map D.str)) (.ref h3.objs.size) { s1 with heap:=h4,toks:=tk3,drawn:=dr }:=⟨ad2,m3,S2,r2⟩
 exact EP.of_data (z.after m1)
end
section
variable {prog:Program} {w:World} {A:Around} {E:Value→Shared→Prop} {s:Shared}
noncomputable def KeyAt (h:Heap) (v:Value) (k:Str × Str):Prop:=∃ (t:Addr) (o:Obj) (n:Nat) (ta tb:Tok),v=.ref t∧h.get? t=some o∧o.cls=.type "tuple" ∧ o.data=.seq #[.str k.1 ta,.str k.2 tb] n
theorem KeyAt.keep {h h':Heap} {v:Value} {k:Str × Str} (x:KeyAt h v k) (hk:∀ b o,h.get? b=some o→o.cls=.type "tuple" → h'.get? b=some o):KeyAt h' v k:=by
 obtain ⟨t,o,n,ta,tb,e,ho,hc,hd⟩:=x
 exact ⟨t,o,n,ta,tb,e,hk _ _ ho hc,hc,hd⟩
theorem key_lt {v u:Value} {k k':Str × Str} {C:Bool→Shared→Prop} (hv:KeyAt s.heap v k) (hu:KeyAt s.heap u k') (h:C (lexLt [k.1,k.2] [k'.1,k'.2]) s):wpAny (model prog w) A (keyLt' (tuples' true) v u) C (fun _ _=>False) s:=by
 obtain ⟨t,o,n,ta,tb,rfl,ho,hc,hd⟩:=hv
 obtain ⟨t',o',n',ta',tb',rfl,ho',hc',hd'⟩:=hu
 refine kat_lt ho hd ho' hd' ?_
 refine kat_cons (wpAny_eqBool_str ?_)
 by_cases e:k.1=k'.1
 ·rw [decide_eq_true e]
  refine kat_yes (kat_cons (wpAny_eqBool_str ?_))
  by_cases e2:k.2=k'.2
  ·rw [decide_eq_true e2]
   refine kat_yes (kat_nil ?_)
   rw [lexLt2,if_pos e,if_pos e2] at h
   exact h
  ·rw [decide_eq_false e2]
   refine kat_no (kat_one _ _ (lt_str ?_))
   rw [lexLt2,if_pos e,if_neg e2] at h
   exact h
 ·rw [decide_eq_false e]
  refine kat_no (oneLt_str ?_)
  rw [lexLt2,if_neg e] at h
  exact h
theorem keys_tups:∀ (kvs:List Value),(∀ v ∈ kvs,∃ k,KeyAt s.heap v k)→∃ fs,KatTups s.heap kvs fs∧fs.length=kvs.length∧∀ f ∈ fs,∃ k t,f=.str k t
 | [],_=>⟨[],trivial,rfl,fun _ hf=>nomatch hf⟩
 | v::vs,hv=>by
  obtain ⟨fs,h1,h2,h3⟩:=keys_tups vs fun u hu=>hv u (.tail _ hu)
  obtain ⟨k,t,o,n,ta,tb,rfl,e,c,d⟩:=hv v (.head _)
  refine ⟨.str k.1 ta::fs,⟨⟨t,o,_,n,rfl,e,c,d,rfl⟩,h1⟩,by simp [h2],fun f hf=>?_⟩
  rcases List.mem_cons.mp hf with rfl | hf
  ·exact ⟨_,_,rfl⟩
  ·exact h3 f hf
noncomputable def keyCmp (ks:List (Str × Str)) (i j:Nat):Bool:=lexLt [(ks.getD i default).1,(ks.getD i default).2] [(ks.getD j default).1,(ks.getD j default).2]
inductive KI (h0:Heap) (a kS:Addr) (e1:Nat) (ks:List (Str × Str)) (kvs:List Value) (h4:Heap):Prop
 | mk (c:Nat) (hk:∀ b o,b ≠ a→h0.get? b=some o→h4.get? b=some o) (ha:h4.get? a=some (seqObj "list" #[] e1)) (hS:h4.get? kS=some (seqObj "list" kvs.toArray c)) (hK:∀ (i:Nat) kv,kvs[i]?=some kv→∃ k,ks[i]?=some k∧KeyAt h4 kv k)
inductive KT (s:Shared) (k:Str × Str) (kv:Value) (s':Shared):Prop
 | mk (h':Heap) (tk:Nat) (dr:Drawn) (e:s'={ s with heap:=h',toks:=tk,drawn:=dr }) (hk:∀ b o,s.heap.get? b=some o→h'.get? b=some o) (key:KeyAt h' kv k)
noncomputable def KTurn (prog:Program) (w:World) (A:Around) (s:Shared) (a:Addr) (f:Value) (vs:List Value) (ks:List (Str × Str)):Prop:=∀ (i:Nat) (v:Value) (k:Str × Str),vs[i]?=some v→ks[i]?=some k→∀ (h:Heap) tk dr,(∀ b o,b ≠ a→s.heap.get? b=some o→h.get? b=some o) →
 wpAny (model prog w) A (call f [v]) (KT { s with heap:=h,toks:=tk,drawn:=dr } k) (fun _ _=>False) { s with heap:=h,toks:=tk,drawn:=dr }
noncomputable def kskB (a kS:Addr) (f:Value) (vs:List Value) (x:Value):Sem (ForInStep PUnit):=do
 match ← (call f [x]).attempt with
 | .ok k=>Builtin.List.listUpdate (.ref kS) (·.push k)
 | .error e =>
  rule "list.sort.key-raised"
  let made ← Builtin.List.listItems (.ref kS)
  Builtin.List.listUpdate (.ref kS) fun _=>#[]
  letGo made.toList.reverse [e]
  Builtin.List.listUpdate (.ref a) fun _=>vs.toArray; throw e
 pure (ForInStep.yield PUnit.unit)
theorem tup_ne {h:Heap} {kS b:Addr} {o:Obj} {vs:Array Value} {n:Nat} (hS:h.get? kS=some (seqObj "list" vs n)) (e:h.get? b=some o) (ec:o.cls=.type "tuple"):b ≠ kS:=fun z=>by
 rw [z,hS] at e
 rw [← so1 e] at ec
 exact absurd (Value.type.inj ec) (by decide)
theorem last_get {α:Type} {xs:List α} {y z:α} {i:Nat} (e:(xs++[y])[i]?=some z):xs[i]?=some z ∨ (i=xs.length∧y=z):=by
 rcases Nat.lt_or_ge i xs.length with hi | hi
 ·rw [List.getElem?_append_left hi] at e; exact .inl e
 ·rw [List.getElem?_append_right hi] at e
  have:i - xs.length=0:=Nat.lt_one_iff.mp (List.getElem?_eq_some_iff.mp e).1
  rw [this] at e
  exact .inr ⟨Nat.le_antisymm (Nat.le_of_sub_eq_zero this) hi,so1 e⟩
section
variable {h0:Heap} {a kS:Addr} {e1:Nat} {ks:List (Str × Str)} {kvs vs ws:List Value} {f:Value} {P:PySem.Fin→Shared→Prop}
theorem KI.step {h4 h5:Heap} {kv:Value} {k:Str × Str} (x:KI h0 a kS e1 ks kvs h4) (haS:a ≠ kS) (hfr:∀ o,h0.get? kS=some o→False) (k5:∀ b o,h4.get? b=some o→h5.get? b=some o) (hk:ks[kvs.length]?=some k) (hkey:KeyAt h5 kv k):KI h0 a kS e1 ks (kvs++[kv]) (h5.update kS (Obj.mapSeq (·.push kv))):=by
 obtain ⟨c,hk4,ha,hS,hK⟩:=x
 have hS5:=k5 _ _ hS
 have q1:=Heap.SameBut.update h5 kS (Obj.mapSeq (·.push kv))
 have ktup:∀ b o,h5.get? b=some o→o.cls=.type "tuple" → (h5.update kS (Obj.mapSeq (·.push kv))).get? b=some o:=fun b o e ec=>q1.extBut b o (tup_ne hS5 e ec) e
 have hc2:=get?_update_seq hS5 (·.push kv)
 rw [show (List.toArray kvs).push kv=List.toArray (kvs++[kv]) by simp] at hc2
 refine ⟨_,fun b o hb e=>q1.extBut b o (fun z=>hfr o (z ▸ e)) (k5 _ _ (hk4 b o hb e)),q1.extBut a _ haS (k5 _ _ ha),hc2,fun i kv' e=>?_⟩
 rcases last_get e with e | ⟨e,e2⟩
 ·obtain ⟨k,e1,e2⟩:=hK i kv' e
  exact ⟨k,e1,(e2.keep fun b o e _=>k5 _ _ e).keep ktup⟩
 ·rw [e,← e2]
  exact ⟨k,hk,hkey.keep ktup⟩
theorem ksk_turn {x:Value} {Q:ForInStep PUnit→Shared→Prop} {h4:Heap} {tk:Nat} {dr:Drawn} (haS:a ≠ kS) (hfr:∀ o,s.heap.get? kS=some o→False) (hle:kvs.length < 5) {k:Str × Str} (hx:vs[kvs.length]?=some x) (hk:ks[kvs.length]?=some k) (turn:KTurn prog w A s a f vs ks) (X:KI s.heap a kS e1 ks kvs h4)
  (h:∀ h5 tk5 dr5 kv,KI s.heap a kS e1 ks (kvs++[kv]) h5→Q (.yield PUnit.unit) { s with heap:=h5,toks:=tk5,drawn:=dr5 }):wpAny (model prog w) A (kskB a kS f vs x) Q E { s with heap:=h4,toks:=tk,drawn:=dr }:=by
 unfold kskB
 have X':=X
 obtain ⟨c,hk4,-,hS,-⟩:=X'
 refine wpAny_bind (wpAny_attempt (wpAny_mono (turn kvs.length x k hx hk h4 tk dr hk4) (fun kv s' z=>?_) fun _ _ z=>z.elim))
 obtain ⟨h5,tk5,dr5,rfl,k5,hkey⟩:=z
 refine wpAny_bind (listUpdate_at (k5 _ _ hS) rfl ?_ (by rw [List.size_toArray,sizeLine_eq]; exact lw (Nat.le_of_lt hle)) (Nat.le_trans (Nat.le_of_eq (Array.size_push ..)) (by rw [List.size_toArray,sizeLine_eq]; exact lw hle)))
 exact wpAny_pure (h _ tk5 dr5 kv (X.step haS hfr k5 hk hkey))
theorem ksk_loop {Q:Shared→Prop} (haS:a ≠ kS) (hfr:∀ o,s.heap.get? kS=some o→False) (h5:vs.length < 5) (hkl:ks.length=vs.length) (turn:KTurn prog w A s a f vs ks) (h:∀ h5 tk5 dr5 kvs,kvs.length=vs.length→KI s.heap a kS e1 ks kvs h5→Q { s with heap:=h5,toks:=tk5,drawn:=dr5 }):∀ (rest kvs:List Value) (h4:Heap) (tk:Nat) (dr:Drawn),kvs.length+rest.length=vs.length→(∀ i,rest[i]?=vs[kvs.length+i]?)→KI s.heap a kS e1 ks kvs h4 →
  wpAny (model prog w) A (forIn rest PUnit.unit fun x _=>kskB a kS f vs x) (fun _ s'=>Q s') E { s with heap:=h4,toks:=tk,drawn:=dr }
 | [],kvs,h4,tk,dr,hl,_,X=>by rw [List.forIn_nil]; exact wpAny_pure (h _ _ _ kvs hl X)
 | x::rest,kvs,h4,tk,dr,hl,hr,X=>by
  rw [List.forIn_cons]
  have hlt:kvs.length < ks.length:=by rw [hkl,← hl,List.length_cons]; exact Nat.lt_add_of_pos_right (Nat.succ_pos _)
  exact wpAny_bind (ksk_turn haS hfr (Nat.lt_trans hlt (le5 hkl h5)) ((hr 0).symm.trans rfl) (List.getElem?_eq_getElem hlt) turn X fun h5' tk5 dr5 kv X'=>ksk_loop haS hfr h5 hkl turn h rest (kvs++[kv]) _ _ _ (by rw [List.length_append,← hl]; show kvs.length+1+rest.length=kvs.length+(rest.length+1); exact Nat.add_right_comm _ 1 _) (fun i=>by rw [List.length_append,List.length_singleton,Nat.add_assoc,Nat.add_comm 1 i]; exact hr (i+1)) X')
theorem ksk_fin {st':SortSt} (X:KI h0 a kS e1 ks kvs s.heap) (haS:a ≠ kS) (hfr:∀ o,h0.get? kS=some o→False) (hkl:kvs.length < 5) (hw:ws.length < 5) (hout:(arrOf st').map (·.2)=ws.toArray) (hf:failedOf st'=none)
  (h:∀ h' c,(∀ b o,b ≠ a→h0.get? b=some o→h'.get? b=some o)→h'.get? a=some (seqObj "list" ws.toArray c)→P (.done (.ret .none)) { s with heap:=h' }):wpAny (model prog w) A (ksk_tail a false e1 (.ref kS) st') P E s:=by
 obtain ⟨c,hk4,ho4,hS4,-⟩:=X
 unfold ksk_tail
 dsimp only
 rw [hout]
 have q1:=Heap.SameBut.update s.heap kS (Obj.mapSeq fun _=>(#[]:Array Value))
 refine wpAny_bind (listUpdate_at hS4 rfl ?_ (by rw [List.size_toArray,sizeLine_eq]; exact lw (Nat.le_of_lt hkl)) (Nat.zero_le _))
 have ho5:=q1.extBut a _ haS ho4
 have hk5:∀ b o,b ≠ a→h0.get? b=some o→(s.heap.update kS (Obj.mapSeq fun _=>(#[]:Array Value))).get? b=some o:=fun b o hb e=>q1.extBut b o (fun z=>hfr o (z ▸ e)) (hk4 b o hb e)
 generalize s.heap.update kS (Obj.mapSeq fun _=>(#[]:Array Value))=h5 at ho5 hk5 ⊢
 clear q1 hS4 hk4 ho4
 refine wpAny_bind (wpAny_letGo ?_)
 refine wpAny_bind (seqEpoch_at ho5 rfl ?_)
 have q2:=Heap.SameBut.update h5 a (Obj.mapSeq fun _=>ws.toArray)
 simp only [Bool.false_eq_true,if_false]
 refine wpAny_bind (listUpdate_at ho5 rfl ?_ (Nat.zero_le _) (by rw [List.size_toArray,sizeLine_eq]; exact lw (Nat.le_of_lt hw)))
 rw [hf]
 simp only [bne_self_eq_false,Bool.false_eq_true,if_false]
 exact wpAny_pure (h _ _ (fun b o hb e=>q2.extBut b o hb (hk5 b o hb e)) (get?_update_seq ho5 fun _=>ws.toArray))
theorem ksk_few {xs ys:List Value} (hl:xs.length=ys.length):(xs.toArray.zip ys.toArray).map (·.2)=List.toArray ((List.range ys.length).map fun i=>ys.getD i Value.none):=by
 apply Array.toList_inj.mp
 rw [Array.toList_map,ksk_zip]
 refine List.ext_getElem? fun i=>?_
 by_cases hi:i < ys.length
 ·simp [hi,hl]
 ·simp [hi,hl]
theorem getD_some {α:Type} {l:List α} {i:Nat} {d x:α} (h:l[i]?=some x):l.getD i d=x:=by
 rw [List.getD_eq_getElem?_getD,h]; rfl
theorem KI.keyAt {h4:Heap} (X:KI h0 a kS e1 ks kvs h4) {i:Nat} (hi:i < kvs.length):KeyAt h4 (kvs.getD i Value.none) (ks.getD i default):=by
 obtain ⟨-,-,-,-,hK⟩:=X
 have e:=List.getElem?_eq_getElem hi
 obtain ⟨k,e1,e2⟩:=hK i _ e
 rw [getD_some e,getD_some e1]; exact e2
theorem KI.tups (X:KI h0 a kS e1 ks kvs s.heap):∃ fs,KatTups s.heap kvs fs∧fs.length=kvs.length∧∀ f ∈ fs,∃ k t,f=.str k t:=by
 obtain ⟨-,-,-,-,hK⟩:=X
 refine keys_tups kvs fun v hv=>?_
 obtain ⟨i,hi,e⟩:=List.getElem_of_mem hv
 obtain ⟨k,_,e2⟩:=hK i v (e ▸ List.getElem?_eq_getElem hi)
 exact ⟨k,e2⟩
inductive KR (vs kvs:List Value) (cmp:Nat→Nat→Bool) (s:Shared) (st':SortSt) (s':Shared):Prop
 | mk (p:Array Nat) (har:arrOf st'=p.map (kas_item (kvs.toArray.zip vs.toArray))) (hf:failedOf st'=none) (hp:p.toList=sortIx cmp vs.length) (e:s'=s)
theorem ksk_ends (X:KI h0 a kS e1 ks kvs s.heap) (haS:a ≠ kS) (hfr:∀ o,h0.get? kS=some o→False) (h5:vs.length < 5) (hl:kvs.length=vs.length)
  (h:∀ h' c,(∀ b o,b ≠ a→h0.get? b=some o→h'.get? b=some o)→h'.get? a=some (seqObj "list" (List.toArray ((sortIx (keyCmp ks) vs.length).map fun i=>vs.getD i Value.none)) c)→P (.done (.ret .none)) { s with heap:=h' }):wpAny (model prog w) A (ksk_end a false vs.toArray e1 (.ref kS) kvs.toArray) P E s:=by
 have hwl:((sortIx (keyCmp ks) vs.length).map fun i=>vs.getD i Value.none).length < 5:=by rw [List.length_map,sortIx_len h5]; exact h5
 have fin:∀ {st':SortSt},_→_→wpAny (model prog w) A (ksk_tail a false e1 (.ref kS) st') P E s:=fun {st'} q1 q2=>ksk_fin (st':=st') X haS hfr (hl ▸ h5) hwl q1 q2 h
 clear haS hfr h hwl
 unfold ksk_end
 simp only [Bool.false_eq_true,if_false]
 by_cases h2:2≤vs.length
 ·have hn2:¬ vs.toArray.size < 2:=by rw [List.size_toArray]; exact Nat.not_lt.mpr h2
  rw [if_neg hn2,if_neg hn2]
  obtain ⟨fs,hT,hfl,hfs⟩:=X.tups
  refine wpAny_bind (kat_kind (T:=.type "str") hT (by rw [hfl,hl]; exact Nat.lt_of_lt_of_le (by decide) h2) (fun v hv=>?_) (by decide) ?_)
  ·obtain ⟨k,t,e⟩:=hfs v hv
   rw [e]; exact Looks.of_pure rfl
  clear hT hfl hfs hn2
  have ask:(kas_sort vs.length).kasWp (kas_ask prog w A (tuples' true) kvs) (fun p s'=>p.toList=sortIx (keyCmp ks) vs.length∧s'=s) s :=
   ask_run (n:=vs.length) (cmp:=keyCmp ks) (fun i j C hi hj hij hC=>key_lt (X.keyAt (hl ▸ hi)) (X.keyAt (hl ▸ hj)) hC) _ (sort_ok h2 h5).1 ⟨by unfold sortIx; rw [if_neg (Nat.not_lt_of_le h2)],rfl⟩
  refine wpAny_bind (wpAny_mono (kat_run (Q:=KR vs kvs (keyCmp ks) s) hl h2 (ltw h5) (fun p' st' s' a1 a2 a3 a4=>⟨p',a2,a3,a4.1,a4.2⟩) ask) (fun r s' z=>?_) fun _ _ e=>e)
  obtain ⟨p,har,hf,hpl,rfl⟩:=z
  exact fin ((kat_snds hl har).trans (by rw [hpl])) hf
 ·have hn2:vs.toArray.size < 2:=by rw [List.size_toArray]; exact Nat.lt_of_not_le h2
  rw [if_pos hn2,if_pos hn2]
  refine wpAny_bind (wpAny_pure (wpAny_bind (wpAny_pure (fin ?_ rfl))))
  unfold sortIx
  rw [if_pos (Nat.lt_of_not_le h2)]
  exact ksk_few hl
theorem ksk_rests {h3:Heap} (X:KI s.heap a kS e1 ks [] h3) (haS:a ≠ kS) (hfr:∀ o,s.heap.get? kS=some o→False) (h5:vs.length < 5) (hkl:ks.length=vs.length) (turn:KTurn prog w A s a f vs ks)
  (h:∀ h' c tk dr,(∀ b o,b ≠ a→s.heap.get? b=some o→h'.get? b=some o)→h'.get? a=some (seqObj "list" (List.toArray ((sortIx (keyCmp ks) vs.length).map fun i=>vs.getD i Value.none)) c)→P (.done (.ret .none)) { s with heap:=h',toks:=tk,drawn:=dr }):wpAny (model prog w) A (ksk_rest a f false vs.toArray e1 (.ref kS)) P E { s with heap:=h3 }:=by
 unfold ksk_rest
 refine wpAny_bind (wpAny_rule ?_)
 first
  | rw [List.forIn_toArray]
  | (rw [← Array.forIn_toList]; simp only [List.toList_toArray])
  | rw [← Array.forIn_toList]
 refine wpAny_bind (ksk_loop haS hfr h5 hkl turn (fun h4 tk dr kvs hl X4=>?_) vs [] h3 _ _ (by rw [List.length_nil,Nat.zero_add]) (fun i=>by rw [List.length_nil,Nat.zero_add]) X)
 have X':=X4
 obtain ⟨c,-,-,hS4,-⟩:=X'
 exact wpAny_bind (listItems_at hS4 rfl (ksk_ends (s:={ s with heap:=h4,toks:=tk,drawn:=dr }) X4 haS hfr h5 hl fun h' c=>h h' c tk dr))
theorem list_sortK {n:Nat} (ho:s.heap.get? a=some (seqObj "list" vs.toArray n)) (h5:vs.length < 5) (hkl:ks.length=vs.length) (turn:KTurn prog w A s a f vs ks)
  (h:∀ h' c tk dr,(∀ b o,b ≠ a→s.heap.get? b=some o→h'.get? b=some o)→h'.get? a=some (seqObj "list" (List.toArray ((sortIx (keyCmp ks) vs.length).map fun i=>vs.getD i Value.none)) c)→P (.done (.ret .none)) { s with heap:=h',toks:=tk,drawn:=dr }) :
  wpAny (model prog w) A (ksk_tree a f false) P E s:=by
 have ha:a < s.heap.objs.size:=Heap.lt_size ho
 have s1:=Heap.SameBut.update s.heap a (Obj.mapSeq fun _=>(#[]:Array Value))
 have ho1:=get?_update_seq ho fun _=>(#[]:Array Value)
 unfold ksk_tree
 refine wpAny_bind (listItems_at ho rfl ?_)
 refine wpAny_bind (listUpdate_at ho rfl ?_ (by rw [List.size_toArray,sizeLine_eq]; exact lw (Nat.le_of_lt h5)) (Nat.zero_le _))
 have hk1:=s1.extBut
 have hsz:(s.heap.update a (Obj.mapSeq fun _=>(#[]:Array Value))).objs.size=s.heap.objs.size:=Heap.size_update ..
 generalize s.heap.update a (Obj.mapSeq fun _=>(#[]:Array Value))=h1 at ho1 hk1 hsz ⊢
 clear s1
 refine wpAny_bind (seqEpoch_at ho1 rfl ?_)
 refine wpAny_bind (wpAny_newTuple ?_ (by show vs.length≤_; rw [sizeLine_eq]; exact lw (Nat.le_of_lt h5)))
 refine wpAny_bind (wpAny_newList ?_ (Nat.zero_le _))
 have hkS:(h1.push (seqObj "tuple" vs.toArray 0)).objs.size=s.heap.objs.size+1:=by rw [size_push',hsz]
 have hS3:((h1.push (seqObj "tuple" vs.toArray 0)).push (seqObj "list" #[] 0)).get? (s.heap.objs.size+1)=some (seqObj "list" #[] 0):=by rw [← hkS]; exact Heap.get?_push_size _ rfl
 refine wpAny_holding ?_
 show wpAny (model prog w) A (ksk_rest a f false vs.toArray _ (.ref (h1.push (seqObj "tuple" vs.toArray 0)).objs.size)) P E { s with heap:=(h1.push (seqObj "tuple" vs.toArray 0)).push (seqObj "list" #[] 0) }
 rw [hkS]
 exact ksk_rests ⟨0,fun b o hb e=>Heap.get?_push_of_some _ (Heap.get?_push_of_some _ (hk1 b o hb e)),Heap.get?_push_of_some _ (Heap.get?_push_of_some _ ho1),hS3,fun i kv e=>by simp at e⟩ (Nat.ne_of_lt (Nat.lt_succ_of_lt ha)) (fun o q=>Nat.lt_irrefl _ (Nat.lt_of_succ_lt (Heap.lt_size q))) h5 hkl turn h
end
end
section
variable {prog:Program} {w:World} {K:Frag} {mg mb:Str→Option Value} {b:Heap}
variable {h h':Heap} {F W fp:Addr→Prop} {ad ad' ad'' ad0:Adr} {σ σ' σ0:Sto} {s s' s'' s0:Shared} {A:Around} {E:Value→Shared→Prop} {sc scope:Scope} {renv:Env} {env:Env'} {L:Addr} {O:Addr→Prop}
theorem lam_cut {n i:Nat} {x:List D} (h:small x=true) (h2:2≤x.length):(lv fns clss (n+3)).e [(i,.d (.tup x))] [] (.cut (.var i) none (some 2))=some (.d (.tup (x.take 2)),[]):=by
 have e1:evD (lv fns clss (n+2)) [(i,.d (.tup x))] [] (.var i)=some (.tup x,[]):=by
  show ((List.lookup i [(i,V.d (.tup x))]).map fun v=>(v,([]:Sto))).bind _=_
  rw [List.lookup_cons,beq_self_eq_true]; rfl
 show (evD _ _ _ _).bind _=_
 rw [e1]
 show (lim (small x && decide (2≤x.length)) (D.tup (x.take 2))).map _=_
 rw [h,decide_eq_true h2]; rfl
theorem two_strs {M:Addr→Prop} {us:List Value} {a c:Str} (r:DRs prog w h M us [.str a,.str c]):∃ ta tb,us=[.str a ta,.str c tb]:=by
 obtain ⟨v,vs,e,r1,r⟩:=r.consI
 obtain ⟨v2,vs2,e2,r2,r⟩:=r.consI
 obtain ⟨ta,e3⟩:=r1.strI
 obtain ⟨tb,e4⟩:=r2.strI
 exact ⟨ta,tb,by rw [e,e2,e3,e4,r.nilI]⟩
theorem lam_look {sc:Scope} {i:Nat} {y:Str} {kk:NameKind} (hnm:sc.names=[(nm i,.local)]) (e:sc.names.lookup y=some kk):y=nm i∧kk=.local:=by
 rw [hnm,List.lookup_cons] at e
 cases hy:(y == nm i) with
 | true=>rw [hy] at e; exact ⟨eq_of_beq hy,(so1 e).symm⟩
 | false=>rw [hy] at e; exact nos e
theorem lam_fr {qual:Str} {fa:Addr} {cv:Value} {i:Nat} {v:Value} {d:D} {h₁:Heap} (hk:scope.kind=.function) (hnm:scope.names=[(nm i,.local)]) {m:Str→Option Value} (hns:h₁.Ns L m) (hm:m (nm i)=some v) (hbs:b.objs.size≤L) (r:DR prog w h₁ (Mt [] (fun a=>a=L)) v d):FR prog w b h₁ [] (fun a=>a=L) scope (envX qual scope L fa cv []) [(i,.d d)]:=by
 refine ⟨hk,rfl,rfl,fun y kk q _=>q,⟨_,hns,fun j u e=>?_⟩,fun y hy=>?_,rfl,hbs,fun y c q=>nos q,fun y z c q=>nos q⟩
 ·left
  rw [List.lookup_cons] at e
  by_cases hj:j=i
  ·rw [hj,beq_self_eq_true] at e
   rw [hj]
   refine ⟨?_,v,hm,so1 e ▸ .d r⟩
   show scope.names.lookup (nm i)=some .local
   rw [hnm,List.lookup_cons,beq_self_eq_true]
  ·rw [beq_false_of_ne hj] at e; exact nos e
 ·cases (lam_look hnm (show scope.names.lookup y=some .cell from hy)).2
theorem lam_sr {h₁:Heap} (hk:∀ a o,b.get? a=some o→h₁.get? a=some o) (hn:∀ o,b.get? L=some o→False) (hl:(h₁.get? L).isSome=true):SR prog w b (fun a=>a=L) h₁ [] [] :=
 ⟨hk,List.nodup_nil,fun a ⟨l,q,_⟩=>(by cases q),fun a q=>by
  rw [q]
  rcases z:b.get? L with _ | o
  ·rfl
  ·exact (hn o z).elim,fun a q=>by rw [q]; exact hl,.nil⟩
theorem key_of {M:Addr→Prop} {rv:Value} {k:Str × Str} (r:DR prog w h M rv (.tup [.str k.1,.str k.2])):KeyAt h rv k:=by
 obtain ⟨t,o,vs,nn,e0,e,c,dd,mm,rr⟩:=r.tupI
 obtain ⟨ta,tb,hvs⟩:=two_strs rr
 exact ⟨t,o,nn,ta,tb,e0,e,c,by rw [dd]; exact congrArg (Data.seq · nn) (Array.toList_inj.mp hvs)⟩
theorem lam_turn (G:Gd prog w K mg mb b) {n:Nat} (ev:Ev prog w b (lv fns clss (n+3)) (n+3)) {i:Nat} {qual:Str} {params:Arguments} {body:PySem.Expr} {pm ctv:Value} {c' fa:Addr} {v:Value} {ds:List D} {k:Str × Str} {M:Addr→Prop}
  (hx:Enc scope (.cut (.var i) none (some 2)) body) (hk:scope.kind=.function) (hnm:scope.names=[(nm i,.local)]) (hco:scope.isCoroutine=false) (hgen:scope.isGenerator=false)
  (hbind:bindArgs (kla_fn "<lambda>" qual params body scope [] pm (.ref c') ctv) ⟨[v],[]⟩=pure [(nm i,v)])
  (hA:Room A (n+4)) (hb:∀ a o,b.get? a=some o→s.heap.get? a=some o) (hbs:b.objs.size≤s.heap.objs.size)
  (ho:s.heap.get? fa=some (kla_obj "<lambda>" qual params body scope [] pm c' ctv)) (hcd:s.heap.CodeRec (.ref c') qual)
  (r:DR prog w s.heap M v (.tup (.str k.1::.str k.2::ds))) (hl:ds.length≤500) :
  wpAny (model prog w) A (call (.ref fa) [v]) (KT s k) (fun _ _=>False) s:=by
 refine wpAny_call (kla_callFunE (adl hA.2.1) ho rfl hco hgen rfl hcd ?_)
 rw [hbind]
 have hcell:∀ x ∈ scope.names,x.2 ≠ .cell:=fun x hx=>by
  rw [hnm,List.mem_singleton] at hx
  rw [hx]
  exact fun z=>nomatch z
 have hloc:∀ x ∈ [(nm i,v)],scope.names.lookup x.1=some .local:=fun x hx=>by
  rw [List.mem_singleton] at hx
  rw [hx,hnm,List.lookup_cons,beq_self_eq_true]
 refine wpAny_pure (wpAny_newFunctionEnv hcell hloc (fun h₁ hns hsb=>?_) hk)
 clear hcell hloc hbind hcd ho hgen hco
 have hk₁:∀ b o,s.heap.get? b=some o→h₁.get? b=some o:=fun b o e=>hsb.extBut b o (Nat.ne_of_lt (Heap.lt_size e)) (Heap.get?_push_of_some _ e)
 refine ⟨(G.nolimit.keeps hb).fresh _ hsb,?_⟩
 clear hsb
 have hLnone:∀ o,s.heap.get? s.heap.objs.size=some o→False:=fun o e=>Nat.lt_irrefl _ (Heap.lt_size e)
 generalize s.heap.objs.size=L at hns hLnone hbs ⊢
 show codeAny _ _ (.expr body (envX qual scope L fa (.ref c') [])) _ _
 have r1:DR prog w h₁ (Mt [] (fun a=>a=L)) v (.tup (.str k.1::.str k.2::ds)):=r.mono fun a o m e=>⟨hk₁ _ _ e,fun z=>by
  rcases z with ⟨l,q,_⟩ | z
  ·cases q
  ·rw [z] at e; exact hLnone _ e⟩
 have FR1:=lam_fr (qual:=qual) (fa:=fa) (cv:=.ref c') hk hnm hns (by show List.lookup (nm i) [(nm i,v)].reverse=some v; rw [List.reverse_singleton,List.lookup_cons,beq_self_eq_true]) hbs r1
 have S1:SR prog w b (fun a=>a=L) h₁ [] []:=lam_sr (fun a o e=>hk₁ _ _ (hb a o e)) (fun o z=>hLnone o (hb _ o z)) (ns_some hns)
 have hA':Room (A.deeper (envX qual scope L fa (.ref c') [])) (n+3):=⟨hA.1,rmd hA.2.1,rmu hA.2.2⟩
 have he:=lam_cut (n:=n) (i:=i) (x:=.str k.1::.str k.2::ds) (decide_eq_true (lw (Nat.add_le_add_right hl 2))) (Nat.le_add_left 2 _)
 clear r r1 hns hbs hb hA hnm hk
 refine kla_codeExpr (wpAny_mono (ev _ _ _ hx _ _ _ _ he _ { s with heap:=h₁,toks:=s.toks+[(nm i,v)].length } [] _ _ _ hA' FR1 S1) (fun rv s2 z=>?_) fun _ _ z=>z)
 clear FR1 S1 he hA' hx
 obtain ⟨ad2,m2,S2,r2⟩:=z
 obtain ⟨h2,t2,d2,e2⟩:=m2.rest
 refine ⟨h2,t2,d2,e2,fun a o e=>?_,?_⟩
 ·have:=m2.old a o (fun ⟨l,q,_⟩=>by cases q) (fun z=>by rw [show a=L from z] at e; exact hLnone o e) (hk₁ _ _ e)
  rw [e2] at this
  exact this
 ·have r3:DR prog w s2.heap (Mt ad2 fun a=>a=L) rv (.tup [.str k.1,.str k.2]):=r2.dI
  rw [e2] at r3
  exact key_of r3
end
section
variable {prog:Program} {w:World} {K:Frag} {mg mb:Str→Option Value} {b:Heap}
variable {h h':Heap} {F W fp:Addr→Prop} {ad ad' ad'' ad0:Adr} {σ σ' σ0:Sto} {s s' s'' s0:Shared} {A:Around} {E:Value→Shared→Prop} {sc scope:Scope} {renv:Env} {env:Env'} {L:Addr} {O:Addr→Prop}
theorem sorted_key {l:Addr} {vs:List Value} {ks:List (Str × Str)} {q:Addr} {Q:Value→Shared→Prop} (hl:s.heap.IsList l vs.toArray) (h5:vs.length < 5) (hkl:ks.length=vs.length)
  (turn:∀ (i:Nat) (v:Value) (k:Str × Str),vs[i]?=some v→ks[i]?=some k→∀ (h:Heap) tk dr,(∀ b o,s.heap.get? b=some o→h.get? b=some o) →
   wpAny (model prog w) A.in1.in1 (call (.ref q) [v]) (KT { s with heap:=h,toks:=tk,drawn:=dr } k) (fun _ _=>False) { s with heap:=h,toks:=tk,drawn:=dr })
  (h:∀ D h' c tk dr,(∀ b o,s.heap.get? b=some o→h'.get? b=some o)→s.heap.get? D=none→h'.get? D=some (seqObj "list" (List.toArray ((sortIx (keyCmp ks) vs.length).map fun i=>vs.getD i Value.none)) c)→Q (.ref D) { s with heap:=h',toks:=tk,drawn:=dr }) :
  wpAny (model prog w) A (call (.builtin "sorted") [.ref l] [(Str.ofString "key", .ref q)]) Q E s:=by
 refine call_function_entry_kw kind_sorted plain_sorted entry_sorted (ksk_s1 _ _) ?_
 unfold Builtin.«sorted»
 refine wpAny_bind (m:=checkCount "sorted" 1 1 _) (wpAny_pure ?_)
 refine wpAny_bind (collect_list hl ?_ (by rw [sizeLine_eq]; exact lw (Nat.le_of_lt h5)))
 refine wpAny_bind (wpAny_newList ?_ (by rw [sizeLine_eq]; exact lw (Nat.le_of_lt h5)))
 have hsz:((s.heap.push (seqObj "list" #[] 0)).update s.heap.objs.size (Obj.mapSeq (·++vs.toArray))).objs.size=s.heap.objs.size+1:=by
  rw [Heap.size_update,size_push']
 have hoL:(((s.heap.push (seqObj "list" #[] 0)).update s.heap.objs.size (Obj.mapSeq (·++vs.toArray))).push (seqObj "list" vs.toArray 0)).get? (s.heap.objs.size+1)=some (seqObj "list" vs.toArray 0):=by
  rw [← hsz]; exact Heap.get?_push_size _ rfl
 have keep:∀ b o,s.heap.get? b=some o→(((s.heap.push (seqObj "list" #[] 0)).update s.heap.objs.size (Obj.mapSeq (·++vs.toArray))).push (seqObj "list" vs.toArray 0)).get? b=some o:=fun b o q=>by
  have hlt:b < s.heap.objs.size:=Heap.lt_size q
  rw [Heap.get?_push_ne _ _ _ (by rw [hsz]; exact Nat.ne_of_lt (Nat.lt_succ_of_lt hlt)),Heap.get?_update_ne _ _ _ _ (Nat.ne_of_lt hlt),Heap.get?_push_ne _ _ _ (Nat.ne_of_lt hlt)]
  exact q
 have hne:∀ b o,s.heap.get? b=some o→b ≠ s.heap.objs.size+1:=fun b o e=>Nat.ne_of_lt (Nat.lt_succ_of_lt (Heap.lt_size e))
 show wpAny _ _ _ _ _ { s with heap:=((s.heap.push (seqObj "list" #[] 0)).update s.heap.objs.size (Obj.mapSeq (·++vs.toArray))).push (seqObj "list" vs.toArray 0) }
 rw [hsz]
 refine wpAny_bind (wpAny_holding (wpAny_call_entry_kw slot_list_sort ⟨_,hoL,rfl⟩ entry_list_sort ?body (ksk_l1 _ _)))
 case body =>
  rw [ksk_t1]
  refine list_sortK (s:={ s with heap:=((s.heap.push (seqObj "list" #[] 0)).update s.heap.objs.size (Obj.mapSeq (·++vs.toArray))).push (seqObj "list" vs.toArray 0) }) (ks:=ks) hoL h5 hkl (fun i v k hv hk hh tk dr hkeep=>?_) fun h' c tk dr hk2 hD=>?_
  ·exact turn i v k hv hk hh tk dr fun b o e=>hkeep b o (hne b o e) (keep b o e)
  ·refine ⟨_,rfl,wpAny_pure ⟨_,rfl,h _ _ c tk dr (fun b o e=>hk2 b o (hne b o e) (keep b o e)) ?_ hD⟩⟩
   exact Heap.get?_none_of_le (Nat.le_succ _)
end
section
variable {prog:Program} {w:World} {K:Frag} {mg mb:Str→Option Value} {b:Heap}
variable {h h':Heap} {F W fp:Addr→Prop} {ad ad' ad'' ad0:Adr} {σ σ' σ0:Sto} {s s' s'' s0:Shared} {A:Around} {E:Value→Shared→Prop} {sc scope:Scope} {renv:Env} {env:Env'} {L:Addr} {O:Addr→Prop}
theorem sto_drop {P:Addr} {k:Nat} (hL:F L) (hS:SR prog w b F s.heap ad σ) (hP:ad[k]?=some [P]) (hk:∀ a o,a ≠ P→s.heap.get? a=some o→h'.get? a=some o) :
  (∀ tk dr,Mv L s ad { s with heap:=h',toks:=tk,drawn:=dr } (ad.set k []))∧SR prog w b F h' (ad.set k []) (σ.set k .gone):=by
 obtain ⟨m1,S1⟩:=sto_gone (L:=L) (n:=k) hS
 have hin:inAd ad P:=⟨[P],List.mem_of_getElem? hP,.head _⟩
 have hFP:¬ F P:=(hS.off P hin).1
 have hbP:b.get? P=none:=(hS.off P hin).2
 have hne:∀ a,F a→a ≠ P:=fun a q z=>hFP (z ▸ q)
 have hM:∀ a o',¬ Mt ad F a→s.heap.get? a=some o'→h'.get? a=some o'∧¬ Mt (ad.set k []) F a:=fun a o' m e=>⟨hk a o' (fun z=>m (.inl (z ▸ hin))) e,fun q=>m (q.imp ad_set_in id)⟩
 refine ⟨fun tk dr=>⟨⟨_,_,_,rfl⟩,fun a o' m _ e=>hk a o' (fun z=>m (z ▸ hin)) e,fun m ⟨o,es,ep,e,r⟩=>⟨o,es,ep,hk _ _ (hne _ hL) e,r⟩,fun q=>?_,fun a q=>.inl (ad_set_in q),m1.loc⟩,
  fun a o e=>hk a o (fun z=>by rw [z,hbP] at e; exact nos e) (hS.keep a o e),S1.nodup,S1.off,hS.offF,fun a q=>?_,hS.cells.upd hM m1.loc .gone k fun i l hi e a ha o q=>hk a o (fun z=>nodup_apart hS.nodup e hP hi ha (by rw [z]; exact .head _)) q⟩
 ·cases z:s.heap.get? L with
  | none=>rw [z] at q; exact fls q
  | some o=>show (h'.get? L).isSome=true; rw [hk _ _ (hne _ hL) z]; rfl
 ·have:=hS.live a q
  cases z:s.heap.get? a with
  | none=>rw [z] at this; exact fls this
  | some o=>rw [hk _ _ (hne _ q) z]; rfl
structure LamOk (mg:Str→Option Value) (b:Heap) (renv:Env) (P:Addr) (i:Nat) (params:Arguments) (body:PySem.Expr) (scope:Scope):Prop where
 code:∃ c,renv.code=.ref c∧CodeHd b c P
 bt:∃ bm o,mg "__builtins__" = some (.ref bm)∧bm ≠ builtinsNs∧bm ≠ mainGlobals∧b.get? bm=some o∧o.cls=.type "module" ∧ o.dict=some builtinsNs∧o.data=.plain
 kind:scope.kind=.function
 names:scope.names=[(nm i,.local)]
 co:scope.isCoroutine=false
 gen:scope.isGenerator=false
 clo:closureFor scope renv=pure []
 dflt:defaultsOf params renv=([],[])
 bind:∀ qual pm cd ct v,bindArgs (kla_fn "<lambda>" qual params body scope [] pm cd ct) ⟨[v],[]⟩=pure [(nm i,v)]
noncomputable def rowKey:D→Str × Str
 | .tup (.str a::.str c::_)=>(a,c)
 | _=>default
noncomputable def rowOk:D→Prop
 | .tup (.str _::.str _::ds)=>ds.length≤500
 | _=>False
theorem row_inv {d:D} (h:rowOk d):∃ u1 u2 us,d=.tup (.str u1::.str u2::us)∧us.length≤500:=by
 rcases d with _ | _ | _ | _ | ds | _ | _ | _ | _ <;> try exact h.elim
 rcases ds with _ | ⟨a,_ | ⟨c,ds⟩⟩ <;> try exact h.elim
 ·rcases a with _ | _ | _ | _ | _ | _ | _ | _ | _ <;> exact h.elim
 ·rcases a with _ | _ | _ | _ | _ | _ | _ | _ | _ <;> try exact h.elim
  rcases c with _ | _ | _ | _ | _ | _ | _ | _ | _ <;> try exact h.elim
  exact ⟨_,_,_,rfl,h⟩
theorem tab_at {P:Addr} {ad1:Adr} {σ1:Sto} {s1:Shared} (hP:ad[0]?=some [P]) (h01:σ1[0]?=some .tab) (m1:Mv L s ad s1 ad1) (S1:SR prog w b F s1.heap ad1 σ1):ad1[0]?=some [P]∧s1.heap.get? P=some (tabObj #[]):=by
 obtain ⟨l,e1,cr⟩:=S1.cells.get h01
 obtain ⟨a,hl,e⟩:=cr.inv
 rcases m1.loc 0 _ hP with e2 | e2
 ·rw [e2,hl] at e1
  rw [← List.head_eq_of_cons_eq (so1 e1)] at e
  exact ⟨e2,e⟩
 ·rw [e2,hl] at e1; cases so1 e1
theorem row_turn (G:Gd prog w K mg mb b) {n:Nat} (ev:Ev prog w b (lv fns clss (n+3)) (n+3)) {i t:Nat} {P:Addr} {qual:Str} {params:Arguments} {body:PySem.Expr} {pm ctv v:Value} {c' fa:Addr} {vs:List Value} {ds:List D} {kk:Str × Str} {M:Addr→Prop} (hx:Enc scope (.cut (.var i) none (some 2)) body) (H:LamOk mg b renv P i params body scope)
  (hA:Room A (n+4)) (hb:∀ a o,b.get? a=some o→s.heap.get? a=some o) (hbs:b.objs.size≤s.heap.objs.size) (ho:s.heap.get? fa=some (kla_obj "<lambda>" qual params body scope [] pm c' ctv)) (hcd:s.heap.CodeRec (.ref c') qual) (r:DRs prog w s.heap M vs ds) (hrow:∀ d ∈ ds,rowOk d) (hv:vs[t]?=some v) (hk:(ds.map rowKey)[t]?=some kk):wpAny (model prog w) A (call (.ref fa) [v]) (KT s kk) (fun _ _=>False) s:=by
 obtain ⟨d,e1,e2⟩:=r.getV hv
 obtain ⟨u1,u2,us,hd,hl⟩:=row_inv (hrow d (List.mem_of_getElem? e1))
 rw [List.getElem?_map,e1,hd] at hk
 rw [hd] at e2
 rw [← so1 hk]
 exact lam_turn G ev (k:=(u1,u2)) hx H.kind H.names H.co H.gen (H.bind _ _ _ _ _) hA hb hbs ho hcd e2 hl
theorem frz_ev {l:Lv} {j k:Nat} {ds:List D} (hjv:env.lookup j=some (.loc k)) (hcell:σ[k]?=some (.lst ds)):evE l env σ (.frz j)=some (.d (.lst ds),σ.set k .gone):=by
 show (env.lookup j).bind _=_
 rw [hjv]
 show (freeze σ k).map _=_
 rw [show freeze σ k=some (.lst ds) by unfold freeze; rw [hcell]]; rfl
theorem ev_sortL (G:Gd prog w K mg mb b) {n:Nat} (ev:Ev prog w b (lv fns clss (n+3)) (n+3)) {i j k P:Nat} {params:Arguments} {body:PySem.Expr} {x:Str} {q q1 q2 q3 p:Pos} {ds:List D}
  (hx:Enc scope (.cut (.var i) none (some 2)) body) (H:LamOk mg b renv P i params body scope) (hg:globB sc (Str.ofString "sorted")=true) (hj:nm j=x) (hd:(x == ("__debug__" : Str))=false)
  (hP:ad[0]?=some [P]) (h0:σ[0]?=some .tab) (hjv:env.lookup j=some (.loc k)) (hk0:k ≠ 0) (hcell:σ[k]?=some (.lst ds)) (h5:ds.length < 5) (hrow:∀ d ∈ ds,rowOk d)
  (hA:Room A (n+6)) (hF:FR prog w b s.heap ad F sc renv env) (hS:SR prog w b F s.heap ad σ) :
  wpAny (model prog w) A (eval (.Call (.Name (Str.ofString "sorted") q) [.Name x q1] [⟨some (Str.ofString "key"),.Lambda params body scope q2,q3⟩] p) renv)
   (fun rv s'=>∃ ad',Mv renv.locals s ad s' ad'∧SR prog w b F s'.heap ad' ((σ.set k .gone).set 0 .gone)∧VR prog w s'.heap ad' F rv (.d (.lst (sortBy (keyCmp (ds.map rowKey)) ds .none)))∧¬ inAd ad' P∧∃ ps,s'.heap.get? P=some (tabObj ps)) E s:=by
 refine wpAny_Call_Name_kw (bi_name (v:=.builtin "sorted") G hg bil_sorted hF hS ?_)
 refine callWith_kw (rest:=[]) ?_ rfl rfl rfl rfl
 refine wpAny_items_cons (wpAny_mono (ev_frz (l:=lv fns clss (n+3)) hj hd (frz_ev hjv hcell) hF hS) (fun rv s1 z=>?_) fun _ _ z=>z) rfl
 obtain ⟨ad1,m1,S1,r1⟩:=z
 refine wpAny_items_nil ?_
 have hF1:=hF.mv hS m1
 obtain ⟨hP1,htab⟩:=tab_at hP (by rw [List.getElem?_set_ne hk0]; exact h0) m1 S1
 clear hS h0 hcell hjv hP hj hd
 have hinP:inAd ad1 P:=⟨[P],List.mem_of_getElem? hP1,.head _⟩
 have hbP:b.get? P=none:=(S1.off P hinP).2
 obtain ⟨c,hcode,C⟩:=H.code
 obtain ⟨bm,ob,b1,b2,b3,b4,b5,b6,b7⟩:=H.bt
 have hgP:mainGlobals ≠ P:=fun z=>by
  obtain ⟨o,es,ep,e,_⟩:=G.g
  rw [z,hbP] at e; exact nos e
 have hbmP:bm ≠ P:=fun z=>by rw [z,hbP] at b4; exact nos b4
 refine kws_cons (kla_eval H.dflt (kla_makeFunction (mg:=mg) H.clo hF.glb (G.g.keeps S1.keep) hcode (C.keeps S1.keep) htab trivial rfl hgP ⟨bm,ob,b1,b2,b3,hbmP,S1.keep _ _ b4,b5,b6,b7⟩ fun c' ctv h2 tk2 hx2 hge hlt hrec htb=>?_))
 refine evalAll_nil ?_
 replace r1:=r1.dI
 obtain ⟨a,o,vs,n',rfl,e,cc,dd,mm,rr⟩:=r1.lstI
 have hkeep:∀ a o,a ≠ P→s1.heap.get? a=some o→(h2.push (kla_obj "<lambda>" (renv.qual ++ "<lambda>") params body scope [] ((mg "__name__").getD .none) c' ctv)).get? a=some o:=fun a o ha e=>Heap.get?_push_of_some _ (hx2 a o ha e)
 have hMP:∀ a,¬ Mt ad1 F a→a ≠ P:=fun a m z=>m (.inl (z ▸ hinP))
 have hf:(h2.push (kla_obj "<lambda>" (renv.qual ++ "<lambda>") params body scope [] ((mg "__name__").getD .none) c' ctv)).get? h2.objs.size=some (kla_obj "<lambda>" (renv.qual ++ "<lambda>") params body scope [] ((mg "__name__").getD .none) c' ctv):=Heap.get?_push_size _ rfl
 have hrec':(h2.push (kla_obj "<lambda>" (renv.qual ++ "<lambda>") params body scope [] ((mg "__name__").getD .none) c' ctv)).CodeRec (.ref c') (renv.qual ++ "<lambda>"):=hrec.keeps fun _ _ e=>Heap.get?_push_of_some _ e
 have hsz2:s1.heap.objs.size≤(h2.push (kla_obj "<lambda>" (renv.qual ++ "<lambda>") params body scope [] ((mg "__name__").getD .none) c' ctv)).objs.size:=by
  rw [Heap.size_push]; exact Nat.le_succ_of_le (Nat.le_of_lt (Nat.lt_of_le_of_lt hge hlt))
 have hHP:(h2.push (kla_obj "<lambda>" (renv.qual ++ "<lambda>") params body scope [] ((mg "__name__").getD .none) c' ctv)).get? P=some (tabObj (#[]++#[rawInt q2.line,rawInt q2.col,.ref c'])):=Heap.get?_push_of_some _ htb
 generalize hH:(h2.push (kla_obj "<lambda>" (renv.qual ++ "<lambda>") params body scope [] ((mg "__name__").getD .none) c' ctv))=H2 at hkeep hf hrec' hsz2 hHP ⊢
 have hl:=rr.length
 rw [Array.length_toList] at hl
 have hrow2:DRs prog w H2 (Mt ad1 F) vs.toList ds:=rr.mono fun a o m e=>⟨hkeep a o (hMP a m) e,m⟩
 have hbs:b.objs.size≤s1.heap.objs.size:=FR.base hF1 S1
 have hA2:Room A.in1.in1 (n+4):=⟨hA.1,Nat.lt_of_le_of_lt (Nat.add_le_add_left (Nat.le_add_right (n+4) 2) _) hA.2.1,rmu (k:=1) (rmu (k:=1) hA.2.2)⟩
 refine sorted_key (s:={ s1 with heap:=H2,toks:=tk2 }) (vs:=vs.toList) (ks:=ds.map rowKey) (isList_of (hkeep a o (hMP a mm) e) cc (by rw [dd])) (by rw [Array.length_toList]; exact le5 hl h5) (List.length_map .. |>.trans (hl.symm.trans (Array.length_toList ..).symm)) (fun t v kk hv hkk h3 tk3 dr3 hk3=>?_) fun Dd h3 c3 tk3 dr3 hk3 hDn hD=>?_
 ·refine row_turn G ev hx H hA2 (fun a o q=>hk3 a o (hkeep a o (fun z=>by rw [z,hbP] at q; exact nos q) (S1.keep a o q))) ?_ (hk3 _ _ hf) (hrec'.keeps hk3) (hrow2.mono fun a o m q=>⟨hk3 _ _ q,m⟩) hrow hv hkk
  have hlv:=S1.live _ hF1.ownL
  rcases z:s1.heap.get? renv.locals with _ | ol
  ·rw [z] at hlv; exact fls hlv
  ·exact Nat.le_trans hF1.above (Nat.le_of_lt (Heap.lt_size (hk3 _ _ (hkeep _ ol (fun q=>(S1.off _ hinP).1 (q ▸ hF1.ownL)) z))))
 ·have hkAll:∀ a o,a ≠ P→s1.heap.get? a=some o→h3.get? a=some o:=fun a o ha e=>hk3 _ _ (hkeep a o ha e)
  obtain ⟨mm3,S3⟩:=sto_drop (h':=h3) (L:=renv.locals) hF.ownL S1 hP1 hkAll
  have hDP:Dd ≠ P:=fun z=>by
   rw [z] at hDn
   rw [hHP] at hDn
   cases hDn
  have hDf:¬ Mt ad1 F Dd:=fun q=>by
   have:(s1.heap.get? Dd).isSome=true:=q.elim (fun q=>inAd.lt_of S1.cells q) (fun q=>S1.live _ q)
   rcases z:s1.heap.get? Dd with _ | o
   ·rw [z] at this; exact fls this
   ·rw [show ({ s1 with heap:=H2,toks:=tk2 }:Shared).heap.get? Dd=some o from hkeep _ o hDP z] at hDn; cases hDn
  have hsub:∀ a,¬ Mt ad1 F a→¬ Mt (ad1.set 0 []) F a:=fun a m q=>m (q.imp ad_set_in id)
  have base:=rr.mono (h':=h3) (M':=Mt (ad1.set 0 []) F) fun a o m e=>⟨hkAll a o (hMP a m) e,hsub a m⟩
  have pk:=base.pick (d0:=D.none) (sortIx (keyCmp (ds.map rowKey)) vs.toList.length) (sortIx_lt (by rw [Array.length_toList]; exact le5 hl h5))
  refine ⟨_,m1.trans (mm3 tk3 dr3),S3,.d (.lst hD ⟨rfl,rfl⟩ rfl (hsub _ hDf) ?_),ad_set_off S1.nodup hP1 (.head _),_,hk3 _ _ hHP⟩
  rw [sortBy_ix]
  rw [Array.length_toList] at pk ⊢
  rw [hl] at pk ⊢
  exact pk
end
section
variable (prog:Program) (w:World) (b:Heap)
noncomputable def EvA (n:Nat) (f:Env'→Sto→Option (V × Sto)) (sc:Scope) (e:PySem.Expr):Prop:=∀ env σ v σ',f env σ=some (v,σ')→∀ (A:Around) (s:Shared) (ad:Adr) (F:Addr→Prop) (renv:Env) (E:Value→Shared→Prop),Room A n→FR prog w b s.heap ad F sc renv env→SR prog w b F s.heap ad σ →
 wpAny (model prog w) A (eval e renv) (EP prog w b F renv.locals s ad σ' v) E s
noncomputable def StA (n:Nat) (f:Env'→Sto→Option (Fl × Env' × Sto)) (sc:Scope) (e:Stmt):Prop:=∀ env σ fl env' σ',f env σ=some (fl,env',σ')→∀ (A:Around) (s:Shared) (ad:Adr) (F:Addr→Prop) (renv:Env) (E:Value→Shared→Prop),Room A n→FR prog w b s.heap ad F sc renv env→SR prog w b F s.heap ad σ →
 wpAny (model prog w) A (exec e renv) (SP prog w b F s ad sc renv fl env' σ') E s
end
section
variable {prog:Program} {w:World} {K:Frag} {mg mb:Str→Option Value} {b:Heap}
theorem ev_bi {l:Lv} {n:Nat} (G:Gd prog w K mg mb b) (ih:Ev prog w b l n) {bb:Bi} {sc:Scope} {nn:Str} {vv:Value} {a:X} {x:PySem.Expr} {q p:Pos} (h1:biName bb=some (nn,vv)) (h2:globB sc nn=true) (h3:Enc sc a x) :
  EvA prog w b n (fun env σ=>evE l env σ (.bi bb a)) sc (.Call (.Name nn q) [x] [] p):=by
 cases bb with
 | tuple=>obtain ⟨rfl,rfl⟩:=so2 h1; exact fun _ _ _ _ he _ _ _ _ _ _ hA hF hS=>ev_biD G ih bil_tuple (.inr ⟨_,rfl⟩) h2 h3 he hA hF hS fun _ _ _ _ _ r S F1 h=>p_tuple r F1.ownL S h
 | list=>obtain ⟨rfl,rfl⟩:=so2 h1; exact fun _ _ _ _ he _ _ _ _ _ _ hA hF hS=>ev_biD G ih bil_list (.inr ⟨_,rfl⟩) h2 h3 he hA hF hS fun _ _ _ _ _ r S _ h=>p_list r S h
 | str=>obtain ⟨rfl,rfl⟩:=so2 h1; exact fun _ _ _ _ he _ _ _ _ _ _ hA hF hS=>ev_biD G ih bil_str (.inr ⟨_,rfl⟩) h2 h3 he hA hF hS fun _ _ _ _ _ r S _ h=>p_str r S h
 | len=>obtain ⟨rfl,rfl⟩:=so2 h1; exact fun _ _ _ _ he _ _ _ _ _ _ hA hF hS=>ev_len G ih h2 h3 he hA hF hS
 | dict=>obtain ⟨rfl,rfl⟩:=so2 h1; exact fun _ _ _ _ he _ _ _ _ _ _ hA hF hS=>ev_dict G ih h2 h3 he hA hF hS
 | sortKeys=>obtain ⟨rfl,rfl⟩:=so2 h1; exact fun _ _ _ _ he _ _ _ _ _ _ hA hF hS=>ev_sortKeys G ih h2 h3 he hA hF hS
 | _=>exact nos h1
theorem ev_step {l:Lv} {n:Nat} (G:Gd prog w K mg mb b) (Y:Fd K mg b) (ih:Ev prog w b l n) (it:Tst prog w b l n) (cd:Cd prog w b l n) (nd:Nd prog w b l n) {sc:Scope} {x:X} {e:PySem.Expr} (hx:Enc sc x e) :
  EvA prog w b n (fun env σ=>evE l env σ x) sc e:=by
 induction hx using Enc.casesOn with
 | none=>exact fun _ _ _ _ he _ _ _ _ _ _ _ _ hS=>(so2 he).1 ▸ (so2 he).2 ▸ wpAny_Constant_none (EP.here hS (.d .none))
 | bool=>exact fun _ _ _ _ he _ _ _ _ _ _ _ _ hS=>(so2 he).1 ▸ (so2 he).2 ▸ wpAny_Constant_bool (EP.here hS (.d (.bool _)))
 | int=>exact fun _ _ _ _ he _ _ _ _ _ _ _ _ hS=>(so2 he).1 ▸ (so2 he).2 ▸ wpAny_Constant_int (EP.val hS (.int _ _))
 | str=>exact fun _ _ _ _ he _ _ _ _ _ _ _ _ hS=>(so2 he).1 ▸ (so2 he).2 ▸ wpAny_Constant_str (EP.val hS (.str _ _))
 | var hi hd =>
  intro env σ v σ' he A s ad F renv E hA hF hS
  obtain ⟨v1,h1,h2⟩:=md he
  exact (pj h2).1 ▸ (pj h2).2 ▸ ev_var hi hd h1 hF hS
 | glo hg hm=>exact fun _ _ _ _ he _ _ _ _ _ _ _ hF hS=>(so2 he).1 ▸ (so2 he).2 ▸ ev_glo G hg hm hF hS
 | andE h1 h2=>exact fun _ _ _ _ he _ _ _ _ _ _ hA hF hS=>ev_andE ih h1 h2 he hA hF hS
 | orE h1 h2=>exact fun _ _ _ _ he _ _ _ _ _ _ hA hF hS=>ev_orE ih h1 h2 he hA hF hS
 | notE h1=>exact fun _ _ _ _ he _ _ _ _ _ _ hA hF hS=>ev_notE ih h1 he hA hF hS
 | ife h1 h2 h3=>exact fun _ _ _ _ he _ _ _ _ _ _ hA hF hS=>ev_ife ih it h1 h2 h3 he hA hF hS
 | bin h1 h2=>exact fun _ _ _ _ he _ _ _ _ _ _ hA hF hS=>ev_bin ih h1 h2 he hA hF hS
 | cmp h1 h2=>exact fun _ _ _ _ he _ _ _ _ _ _ hA hF hS=>ev_cmp ih h1 h2 he hA hF hS
 | cmp2 h1 h2 h3=>exact fun _ _ _ _ he _ _ _ _ _ _ hA hF hS=>ev_cmp2 ih h1 h2 h3 he hA hF hS
 | tup h1 h2=>exact fun _ _ _ _ he _ _ _ _ _ _ hA hF hS=>ev_tup ih h1 h2 he hA hF hS
 | lst h1 h2=>exact fun _ _ _ _ he _ _ _ _ _ _ hA hF hS=>ev_lst ih h1 h2 he hA hF hS
 | newL h1 h2=>exact fun _ _ _ _ he _ _ _ _ _ _ hA hF hS=>ev_newL ih h1 h2 he hA hF hS
 | dct0=>exact fun _ _ _ _ he _ _ _ _ _ _ hA hF hS=>ev_dct0 G he hF hS
 | newD=>exact fun _ _ _ _ he _ _ _ _ _ _ hA hF hS=>ev_newD G he hF hS
 | idx h1 h2=>exact fun _ _ _ _ he _ _ _ _ _ _ hA hF hS=>ev_idx ih h1 h2 he hA hF hS
 | cut h1 h2 h3 h4=>exact fun _ _ _ _ he _ _ _ _ _ _ hA hF hS=>ev_cut ih h1 h2 h3 he hA hF hS
 | call h1 h2 h3 h4 h5=>exact fun _ _ _ _ he _ _ _ _ _ _ hA hF hS=>ev_call G Y ih cd h1 h2 h3 h4 he hA hF hS
 | meth h1 h2 h3 h4 h5 h6 h7 h8=>subst h3; exact fun _ _ _ _ he _ _ _ _ _ _ hA hF hS=>ev_meth G Y ih cd h1 h2 h4 h5 h6 h7 h8 he hA hF hS
 | new h1 h2 h3 h4=>exact fun _ _ _ _ he _ _ _ _ _ _ hA hF hS=>ev_new G Y ih nd h1 h2 h3 he hA hF hS
 | bi h1 h2 h3=>exact ev_bi G ih h1 h2 h3
 | sortSet h1 h2 h3=>exact fun _ _ _ _ he _ _ _ _ _ _ hA hF hS=>ev_sortSet G ih h1 h2 h3 he hA hF hS
 | items h1 h2 h3 h4=>exact fun _ _ _ _ he _ _ _ _ _ _ hA hF hS=>ev_itemsD G ih h1 h2 h3 h4 he hA hF hS
 | sortItems h1 h2 h3 h4=>exact fun _ _ _ _ he _ _ _ _ _ _ hA hF hS=>ev_sortItems G ih h1 h2 h3 h4 he hA hF hS
 | attr h1 h2 h3=>exact fun _ _ _ _ he _ _ _ _ _ _ hA hF hS=>ev_attr G ih h1 h2 h3 he hA hF hS
 | app h1 h2 h3 h4=>exact fun _ _ _ _ he _ _ _ _ _ _ hA hF hS=>ev_app ih h1 h2 h3 h4 he hA hF hS
 | ext h1 h2 h3 h4=>exact fun _ _ _ _ he _ _ _ _ _ _ hA hF hS=>ev_ext ih h1 h2 h3 h4 he hA hF hS
 | extZip h1 h2 h3 h4 h5 h6=>exact fun _ _ _ _ he _ _ _ _ _ _ hA hF hS=>ev_extZip G ih h1 h2 h3 h4 h5 h6 he hA hF hS
 | pop h1 h2 h3=>exact fun _ _ _ _ he _ _ _ _ _ _ hA hF hS=>ev_pop ih h1 h2 h3 he hA hF hS
 | setdef h1 h2 h3 h4 h5=>exact fun _ _ _ _ he _ _ _ _ _ _ hA hF hS=>ev_setdef ih h1 h2 h3 h4 h5 he hA hF hS
 | comp h1 h2 h3 h4=>exact fun _ _ _ _ he _ _ _ _ _ _ hA hF hS=>ev_comp G.inj ih it h1 h3 h2 .none h4 he hA hF hS
 | compC h1 h2 h3 h4 h5=>exact fun _ _ _ _ he _ _ _ _ _ _ hA hF hS=>ev_comp G.inj ih it h1 h3 h2 (.one h5) h4 he hA hF hS
 | comp2 h0 h1 h2 h3 h4 h5 h6=>exact fun _ _ _ _ he _ _ _ _ _ _ hA hF hS=>ev_comp2 G.inj ih it h1 h3 h2 h5 h6 h0 h4 he hA hF hS
 | frz h1 h2=>exact fun _ _ _ _ he _ _ _ _ _ _ hA hF hS=>ev_frz h1 h2 he hF hS
 | frzA h0 h1 h2=>exact fun _ _ _ _ he _ _ _ _ _ _ hA hF hS=>ev_frzA G h0 h1 h2 he hF hS
theorem lc_step {l:Lv} {n i:Nat} (G:Gd prog w K mg mb b) (ih:Ev prog w b l n) (it:Tst prog w b l n) {sc scope:Scope} {v:Str} {q p1 p:Pos} (a1:nm i=v) (a2:localB sc v=true) (a4:(q.line == p1.line)=true)
  {e:PySem.Expr} {gs:List Comprehension} {x:X} (hx:EncLC sc x e gs scope) (a5:(scope.names.any fun (n,k)=>n == v && (k == .local || k == .cell))=false) :
  StA prog w b (n+1) (fun env σ=>(evE l env σ x).map fun r=>(Fl.next,(i,r.1)::env,r.2)) sc (.Assign [.Name v q] (.ListComp e gs scope p1) p):=by
 induction hx using EncLC.casesOn with
 | comp b1 b2 b3 b4=>exact fun _ _ _ _ _ he _ _ _ _ _ _ hA hF hS=>sd_asgC1 (pos:=p) G.inj ih it a1 a2 a4 a5 b1 b3 b2 .none b4 he hA.down hF hS
 | compC b1 b2 b3 b4 b5=>exact fun _ _ _ _ _ he _ _ _ _ _ _ hA hF hS=>sd_asgC1 (pos:=p) G.inj ih it a1 a2 a4 a5 b1 b3 b2 (.one b5) b4 he hA.down hF hS
 | comp2 b0 b1 b2 b3 b4 b5 b6=>exact fun _ _ _ _ _ he _ _ _ _ _ _ hA hF hS=>sd_asgC2 (pos:=p) G.inj ih it a1 a2 a4 a5 b1 b3 b2 b5 b6 b0 b4 he hA.down hF hS
theorem st_step {n:Nat} (G:Gd prog w K mg mb b) (ih:Ev prog w b (lv fns clss n) n) (it:Tst prog w b (lv fns clss n) n) (sd:Sd prog w b (lv fns clss n) n)
  (ih':∀ k,n=k+1→Ev prog w b (lv fns clss k) k∧Tst prog w b (lv fns clss k) k) {sc:Scope} {x:S} {e:Stmt} (hx:EncS sc x e):StA prog w b n (fun env σ=>evS1 (lv fns clss n) env σ x) sc e:=by
 induction hx using EncS.casesOn with
 | asg a1 a2 a3 a4=>exact fun _ _ _ _ _ h1 _ _ _ _ _ _ hA hF hS=>sd_asg G.inj ih a1 a2 a3 a4 h1 hA hF hS
 | asgC a1 a2 a3 a4 a5 =>
  cases n with
  | zero=>exact fun _ _ _ _ _ h1=>nos h1
  | succ k=>exact lc_step G (ih' k rfl).1 (ih' k rfl).2 a1 a2 a4 a3 a5
 | asgT a1 a2 a3=>exact fun _ _ _ _ _ h1 _ _ _ _ _ _ hA hF hS=>sd_asgT G.inj ih a1 a2 a3 h1 hA hF hS
 | asgW a1 a2 a3 a4 a5 a6 a7 a8=>exact fun _ _ _ _ _ h1 _ _ _ _ _ _ hA hF hS=>sd_asgW G.inj ih a1 a2 a3 a4 a5 a6 a7 a8 h1 hA hF hS
 | asgU a1 a2 a3 a4 a5 a6=>exact fun _ _ _ _ _ h1 _ _ _ _ _ _ hA hF hS=>sd_asgU G.inj ih a1 a2 a3 a4 a5 a6 h1 hA hF hS
 | setI a1 a2 a3=>exact fun _ _ _ _ _ h1 _ _ _ _ _ _ hA hF hS=>sd_setI ih a1 a2 a3 h1 hA hF hS
 | setA a0 a1 a2=>exact fun _ _ _ _ _ h1 _ _ _ _ _ _ hA hF hS=>sd_setA G ih a0 a1 a2 h1 hA hF hS
 | expr a1=>exact fun _ _ _ _ _ h1 _ _ _ _ _ _ hA hF hS=>sd_expr ih a1 h1 hA hF hS
 | ife a1 a2 a3=>exact fun _ _ _ _ _ h1 _ _ _ _ _ _ hA hF hS=>sd_ife it sd a1 a2 a3 h1 hA hF hS
 | forD a1 a2 a3=>exact fun _ _ _ _ _ h1 _ _ _ _ _ _ hA hF hS=>sd_forD G.inj ih sd a1 a2 a3 h1 hA hF hS
 | forR a1 a2 a3 a4 a5=>exact fun _ _ _ _ _ h1 _ _ _ _ _ _ hA hF hS=>sd_forR G ih sd a1 a2 a3 a4 a5 h1 hA hF hS
 | forE a1 a2 a3 a4=>exact fun _ _ _ _ _ h1 _ _ _ _ _ _ hA hF hS=>sd_forE G ih sd a1 a2 a3 a4 h1 hA hF hS
 | whl a1 a2=>exact fun _ _ _ _ _ h1 _ _ _ _ _ _ hA hF hS=>sd_whl it sd a1 a2 h1 hA hF hS
 | ret a1=>exact fun _ _ _ _ _ h1 _ _ _ _ _ _ hA hF hS=>sd_ret ih a1 h1 hA hF hS
 | bad=>exact fun _ _ _ _ _ h1=>nos h1
inductive EncSsI (sc:Scope) (x:S) (xs:List S) (es:List Stmt):Prop
 | mk (e:Stmt) (r:List Stmt):es=e::r→EncS sc x e→EncSs sc xs r→EncSsI sc x xs es
theorem EncSs.inv {sc:Scope} {x:S} {xs:List S} {es:List Stmt} (h:EncSs sc (x::xs) es):EncSsI sc x xs es:=by
 cases h with | cons a b=>exact ⟨_,_,rfl,a,b⟩
theorem EncSs.nilI {sc:Scope} {es:List Stmt} (h:EncSs sc [] es):es=[]:=by cases h; rfl
inductive EvSsI (l:Lv) (env:Env') (σ:Sto) (x:S) (xs:List S) (r:Fl × Env' × Sto):Prop
 | mk (f1:Fl) (env1:Env') (σ1:Sto):evS1 l env σ x=some (f1,env1,σ1)→(f1=.next→l.s env1 σ1 xs=some r)→(∀ v,f1=.ret v→(Fl.ret v,env1,σ1)=r)→EvSsI l env σ x xs r
theorem evSs_inv {l:Lv} {env:Env'} {σ:Sto} {x:S} {xs:List S} {r:Fl × Env' × Sto} (h:evSs l env σ (x::xs)=some r):EvSsI l env σ x xs r:=by
 obtain ⟨f1,⟨env1,σ1⟩,h1,h⟩:=bp h
 exact ⟨f1,env1,σ1,h1,fun e=>by subst e; exact h,fun v e=>by subst e; exact so1 h⟩
theorem sd_step {n:Nat} (G:Gd prog w K mg mb b) (ih:Ev prog w b (lv fns clss n) n) (it:Tst prog w b (lv fns clss n) n) (sd:Sd prog w b (lv fns clss n) n)
  (ih':∀ k,n=k+1→Ev prog w b (lv fns clss k) k∧Tst prog w b (lv fns clss k) k):Sd prog w b (lv fns clss (n+1)) (n+1):=by
 intro sc ss es hss env σ fl env' σ' he A s ad F renv E hA1 hF hS
 have hA:=hA1.down
 have he:evSs (lv fns clss n) env σ ss=some (fl,env',σ'):=he
 rcases ss with _ | ⟨x,xs⟩
 ·obtain rfl:=hss.nilI
  obtain ⟨e1,e2,e3⟩:=so3 he
  exact wpAny_execs_nil ⟨ad,MvS.refl,e3 ▸ hS,e2 ▸ hF,e1 ▸ .next⟩
 ·obtain ⟨e,es,rfl,hx,hr⟩:=hss.inv
  obtain ⟨f1,env1,σ1,h1,h2,h3⟩:=evSs_inv he
  refine wpAny_execs_cons (wpAny_mono (st_step G ih it sd ih' hx _ _ _ _ _ h1 _ _ _ _ _ _ hA hF hS) (fun f s1 z=>?_) fun _ _ z=>z)
  refine hide fun no=>?_
  obtain ⟨ad1,m1,S1,F1,fr⟩:=z
  refine fr.elim (fun e1 e2=>no ?_) fun v d e1 e2 rd=>no ?_
  ·subst e1
   exact wpAny_mono (sd _ _ _ hr _ _ _ _ _ (h2 e2) _ _ _ _ _ _ hA F1 S1) (fun f s2 z=>z.after m1) fun _ _ z=>z
  ·subst e1
   obtain ⟨e3,e4⟩:=Prod.mk.inj (h3 d e2)
   exact ⟨ad1,m1,(Prod.mk.inj e4).2 ▸ S1,(Prod.mk.inj e4).1 ▸ F1,e3 ▸ .ret rd⟩
theorem all_levels (G:Gd prog w K mg mb b) (Y:Fd K mg b):∀ n,
  Ev prog w b (lv fns clss n) n∧Tst prog w b (lv fns clss n) n∧Sd prog w b (lv fns clss n) n∧Cd prog w b (lv fns clss n) n∧Nd prog w b (lv fns clss n) n ∧
   ∀ k,n=k+1→Ev prog w b (lv fns clss k) k∧Tst prog w b (lv fns clss k) k:=by
 intro n
 induction n with
 | zero =>
  refine ⟨fun _ _ _ _ _ _ _ _ he=>(by exact nos he),fun sc x e _ env σ t σ' he=>?_,fun _ _ _ _ _ _ _ _ _ he=>(by exact nos he),fun _ _ _ _ _ _ _ he=>(by exact nos he),fun _ _ _ _ _ _ _ he=>(by exact nos he),fun k h=>(by cases h)⟩
  obtain ⟨_,h,_⟩:=bd he
  exact nos h
 | succ n ih =>
  obtain ⟨ev,it,sd,cd,nd,pre⟩:=ih
  have ev':Ev prog w b (lv fns clss (n+1)) (n+1):=fun sc x e hx env σ v σ' he A s ad F renv E hA hF hS=>ev_step G Y ev it cd nd hx env σ v σ' he A s ad F renv E hA.down hF hS
  refine ⟨ev',tst_step ev ev' it,sd_step G ev it sd pre,cd_step G Y.fn sd,nd_step G Y cd,fun k h=>?_⟩
  cases h
  exact ⟨ev,it⟩
theorem sd_app (G:Gd prog w K mg mb b) (Y:Fd K mg b) {sc:Scope} {A:Around} {F:Addr→Prop} {renv:Env} {E:Value→Shared→Prop} {Q:Flow→Shared→Prop} {rest:List Stmt}:∀ {ss:List S} {es:List Stmt},EncSs sc ss es→∀ {n:Nat} {env:Env'} {σ:Sto} {env':Env'} {σ':Sto},(lv fns clss n).s env σ ss=some (.next,env',σ') →
  ∀ {s s0:Shared} {ad ad0:Adr},Room A n→MvS (Own renv) s0 ad0 s ad→FR prog w b s.heap ad F sc renv env→SR prog w b F s.heap ad σ →
  (∀ s' ad',MvS (Own renv) s0 ad0 s' ad'→FR prog w b s'.heap ad' F sc renv env'→SR prog w b F s'.heap ad' σ'→wpAny (model prog w) A (execs rest renv) Q E s')→wpAny (model prog w) A (execs (es++rest) renv) Q E s:=by
 intro ss
 induction ss with
 | nil =>
  intro es hes n env σ env' σ' he s s0 ad ad0 hA m hF hS h
  obtain rfl:=hes.nilI
  rcases n with _ | n
  ·exact nos he
  ·obtain ⟨_,e1,e2⟩:=so3 he
   exact h _ _ m (e1 ▸ hF) (e2 ▸ hS)
 | cons x xs ih =>
  intro es hes n env σ env' σ' he s s0 ad ad0 hA m hF hS h
  obtain ⟨e,es,rfl,hx,hr⟩:=hes.inv
  rcases n with _ | n
  ·exact nos he
  ·obtain ⟨ev,it,sd,cd,nd,pre⟩:=all_levels G Y n
   obtain ⟨f1,env1,σ1,h1,h2,h3⟩:=evSs_inv he
   refine wpAny_execs_cons (wpAny_mono (st_step G ev it sd pre hx _ _ _ _ _ h1 _ _ _ _ _ _ hA.down hF hS) (fun f s1 z=>?_) fun _ _ z=>z)
   refine hide fun no=>?_
   obtain ⟨ad1,m1,S1,F1,fr⟩:=z
   refine fr.elim (fun e1 e2=>no ?_) fun v d e1 e2 rd=>nomatch h3 d e2
   subst e1
   exact ih hr (h2 e2) hA.down (m.trans m1) F1 S1 h
end
section
variable {prog:Program} {w:World} {K:Frag} {mg mb:Str→Option Value} {b:Heap}
variable {h h':Heap} {F W fp:Addr→Prop} {ad ad' ad'' ad0:Adr} {σ σ' σ0:Sto} {s s' s'' s0:Shared} {A:Around} {E:Value→Shared→Prop} {sc scope:Scope} {renv:Env} {env:Env'} {L:Addr} {O:Addr→Prop}
theorem law_exec (G:Gd prog w K mg mb b) (Y:Fd K mg b) {N i j k:Nat} {P:Addr} {pre tail:List S} {preEs tailEs:List Stmt} {params:Arguments} {body:PySem.Expr} {x:Str} {q q1 q2 q3 p q0 p0:Pos} {ds:List D} {env1 env2:Env'} {σ1 σ2:Sto}
  (he1:EncSs sc pre preEs) (he2:EncSs sc tail tailEs) (hx:Enc scope (.cut (.var i) none (some 2)) body) (H:LamOk mg b renv P i params body scope) (hg:globB sc (Str.ofString "sorted")=true) (hj:nm j=x) (hd:(x == ("__debug__" : Str))=false) (hst:storeB sc x=true)
  (hpre:(lv fns clss N).s env [.tab] pre=some (.next,env1,σ1)) (h0:σ1[0]?=some .tab) (hjv:env1.lookup j=some (.loc k)) (hk0:k ≠ 0) (hcell:σ1[k]?=some (.lst ds)) (h5:ds.length < 5) (hrow:∀ d ∈ ds,rowOk d)
  (htail:(lv fns clss N).s ((j,.d (.lst (sortBy (keyCmp (ds.map rowKey)) ds .none)))::env1) ((σ1.set k .gone).set 0 .gone) tail=some (.ret (.bool true),env2,σ2))
  (hA:Room A N) (hA2:Room A 6) (hF:FR prog w b s.heap [[P]] F sc renv env) (hS:SR prog w b F s.heap [[P]] [.tab]) :
  wpAny (model prog w) A (execs (preEs++(.Assign [.Name x q0] (.Call (.Name (Str.ofString "sorted") q) [.Name x q1] [⟨some (Str.ofString "key"),.Lambda params body scope q2,q3⟩] p) p0::tailEs)) renv)
   (fun f s'=>f=.ret (.bool true)∧(∃ h tk dr,s'={ s with heap:=h,toks:=tk,drawn:=dr })∧(∀ a o,b.get? a=some o→s'.heap.get? a=some o)∧∃ ps,s'.heap.get? P=some (tabObj ps)) E s:=by
 have hFP:∀ a,Own renv a→F a:=fun a z=>by
  rcases z with rfl | ⟨y,z⟩
  ·exact hF.ownL
  ·exact (hF.ownC y a z).1
 have hPF:¬ F P:=(hS.off P ⟨[P],.head _,.head _⟩).1
 refine sd_app G Y he1 hpre hA MvS.refl hF hS fun s1 ad1 m1 F1 S1=>?_
 have hP1:ad1[0]?=some [P]:=by
  rcases m1.loc 0 [P] rfl with e | e
  ·exact e
  ·obtain ⟨l,e1,cr⟩:=S1.cells.get h0
   rw [e] at e1; obtain rfl:=so1 e1
   cases cr
 refine wpAny_execs_cons ?_
 have ev:=(all_levels G Y 3).1
 refine wpAny_Assign_Name (wpAny_mono (ev_sortL (n:=0) G ev hx H hg hj hd hP1 h0 hjv hk0 hcell h5 hrow hA2 F1 S1) (fun rv s2 z=>?_) fun _ _ z=>z) rfl
 obtain ⟨ad2,m2,S2,r2,hoff,ps,htab⟩:=z
 refine st_one Home.own G.inj hj hst (F1.mv S1 m2) S2 r2 fun s3 m3 S3 F3=>?_
 have htab3:s3.heap.get? P=some (tabObj ps):=m3.old P _ hoff (fun z=>hPF (hFP P z)) htab
 refine wpAny_mono ((all_levels G Y N).2.2.1 _ _ _ he2 _ _ _ _ _ htail _ _ _ _ _ _ hA F3 S3) (fun f s4 z=>?_) fun _ _ z=>z
 obtain ⟨ad4,m4,S4,F4,fr⟩:=z
 cases fr with
 | ret r =>
  cases r
  obtain ⟨a1,a2,a3,e1⟩:=m1.rest
  obtain ⟨b1,b2,b3,e2⟩:=m2.rest
  obtain ⟨c1,c2,c3,e3⟩:=m3.rest
  obtain ⟨d1,d2,d3,e4⟩:=m4.rest
  refine ⟨rfl,⟨d1,d2,d3,?_⟩,S4.keep,ps,m4.old P _ hoff (fun z=>hPF (hFP P z)) htab3⟩
  rw [e4,e3,e2,e1]
end
inductive H where
 | a | b | k | f | g | s | x | y
 deriving DecidableEq
noncomputable def H.str:H→Str
 | .a=>sx "a" | .b=>sx "b" | .k=>sx "k" | .f=>sx "f" | .g=>sx "g" | .s=>sx "s" | .x=>sx "?x" | .y=>sx "?y"
noncomputable def H.isV:H→Bool
 | .x=>true | .y=>true | _=>false
inductive T where
 | l (h:H) | u (h:H) (t:T) | b (h:H) (t v:T)
 deriving DecidableEq
noncomputable def T.hd:T→H
 | .l h=>h | .u h _=>h | .b h _ _=>h
noncomputable def T.kids:T→List T
 | .l _=>[] | .u _ t=>[t] | .b _ t v=>[t,v]
noncomputable def T.enc:T→D
 | .l h=>.tup [.str h.str] | .u h t=>.tup [.str h.str,t.enc] | .b h t v=>.tup [.str h.str,t.enc,v.enc]
noncomputable def T.dep:T→Nat
 | .l _=>0 | .u _ t=>t.dep+1 | .b _ t v=>max t.dep v.dep+1
noncomputable def T.isV:T→Bool
 | .l h=>h.isV | _=>false
theorem H.str_inj:∀ {h h':H},h.str=h'.str→h=h':=by
 have:∀ h h':H,(h.str == h'.str)=true→h=h':=by
  intro h h'
  cases h <;> cases h' <;> first | (intro _; rfl) | (intro z; exact absurd z (by decide +kernel))
 intro h h' e
 exact this _ _ (beq_iff_eq.mpr e)
theorem H.str_eq {h h':H}:(h.str=h'.str)=(h=h'):=propext ⟨H.str_inj,fun e=>e ▸ rfl⟩
theorem enc_eq (t:T):t.enc=.tup (.str t.hd.str::t.kids.map T.enc):=by cases t <;> rfl
theorem enc_inj:∀ {t v:T},t.enc=v.enc→t=v:=by
 intro t
 induction t with
 | l h=>intro v e; cases v <;> simp [T.enc,H.str_eq] at e; rw [e]
 | u h t ih =>
  intro v e
  cases v <;> simp [T.enc,H.str_eq] at e
  rw [e.1,ih e.2]
 | b h t v ih1 ih2 =>
  intro v e
  cases v <;> simp [T.enc,H.str_eq] at e
  rw [e.1,ih1 e.2.1,ih2 e.2.2]
mutual
noncomputable def D.pl:D→Nat→Bool
 | .none,_=>true | .bool _,_=>true | .str x,_=>PyData.strOk x
 | .tup ds,n+1=>D.pls ds n | .lst ds,n+1=>D.pls ds n
 | _,_=>false
noncomputable def D.pls:List D→Nat→Bool
 | [],_=>true
 | d::ds,n=>d.pl n && D.pls ds n
end
section
variable {n:Nat}
theorem pl_none:D.pl .none n=true:=rfl
theorem pl_bool {c:Bool}:D.pl (.bool c) n=true:=rfl
theorem pl_str {x:Str}:D.pl (.str x) n=PyData.strOk x:=rfl
theorem pl_int {i:Int}:D.pl (.int i) n=false:=rfl
theorem pl_raw {ds:List D}:D.pl (.raw ds) n=false:=rfl
theorem pl_dct {ks:List Str} {ds:List D}:D.pl (.dct ks ds) n=false:=rfl
theorem pl_obj {c:Addr} {ks:List Str} {ds:List D}:D.pl (.obj c ks ds) n=false:=rfl
theorem pl_tup0 {ds:List D}:D.pl (.tup ds) 0=false:=rfl
theorem pl_tup {ds:List D}:D.pl (.tup ds) (n+1)=D.pls ds n:=rfl
theorem pl_lst0 {ds:List D}:D.pl (.lst ds) 0=false:=rfl
theorem pl_lst {ds:List D}:D.pl (.lst ds) (n+1)=D.pls ds n:=rfl
end
theorem pls_iff {n:Nat}:∀ {ds:List D},D.pls ds n=true ↔ ∀ d ∈ ds,d.pl n=true
 | []=>by simp [D.pls]
 | d::ds=>by simp [D.pls,pls_iff (ds:=ds)]
mutual
theorem pl_mono:∀ (d:D) (n m:Nat),n≤m→d.pl n=true→d.pl m=true
 | .none,_,_,_,_=>by simp [pl_none,pl_bool,pl_str,pl_int,pl_raw,pl_dct,pl_obj,pl_tup0,pl_tup,pl_lst0,pl_lst]
 | .bool _,_,_,_,_=>by simp [pl_none,pl_bool,pl_str,pl_int,pl_raw,pl_dct,pl_obj,pl_tup0,pl_tup,pl_lst0,pl_lst]
 | .str x,_,_,_,h=>by simpa [pl_none,pl_bool,pl_str,pl_int,pl_raw,pl_dct,pl_obj,pl_tup0,pl_tup,pl_lst0,pl_lst] using h
 | .int _,n,_,_,h=>by simp [pl_none,pl_bool,pl_str,pl_int,pl_raw,pl_dct,pl_obj,pl_tup0,pl_tup,pl_lst0,pl_lst] at h
 | .raw _,n,_,_,h=>by simp [pl_none,pl_bool,pl_str,pl_int,pl_raw,pl_dct,pl_obj,pl_tup0,pl_tup,pl_lst0,pl_lst] at h
 | .dct _ _,n,_,_,h=>by simp [pl_none,pl_bool,pl_str,pl_int,pl_raw,pl_dct,pl_obj,pl_tup0,pl_tup,pl_lst0,pl_lst] at h
 | .obj _ _ _,n,_,_,h=>by simp [pl_none,pl_bool,pl_str,pl_int,pl_raw,pl_dct,pl_obj,pl_tup0,pl_tup,pl_lst0,pl_lst] at h
 | .tup ds,n,m,hn,h=>by
  cases n with
  | zero=>simp [pl_none,pl_bool,pl_str,pl_int,pl_raw,pl_dct,pl_obj,pl_tup0,pl_tup,pl_lst0,pl_lst] at h
  | succ n =>
   cases m with
   | zero=>exact (Nat.not_succ_le_zero _ hn).elim
   | succ m=>simp only [pl_none,pl_bool,pl_str,pl_int,pl_raw,pl_dct,pl_obj,pl_tup0,pl_tup,pl_lst0,pl_lst] at h ⊢; exact pls_mono ds n m (Nat.le_of_succ_le_succ hn) h
 | .lst ds,n,m,hn,h=>by
  cases n with
  | zero=>simp [pl_none,pl_bool,pl_str,pl_int,pl_raw,pl_dct,pl_obj,pl_tup0,pl_tup,pl_lst0,pl_lst] at h
  | succ n =>
   cases m with
   | zero=>exact (Nat.not_succ_le_zero _ hn).elim
   | succ m=>simp only [pl_none,pl_bool,pl_str,pl_int,pl_raw,pl_dct,pl_obj,pl_tup0,pl_tup,pl_lst0,pl_lst] at h ⊢; exact pls_mono ds n m (Nat.le_of_succ_le_succ hn) h
theorem pls_mono:∀ (ds:List D) (n m:Nat),n≤m→D.pls ds n=true→D.pls ds m=true
 | [],_,_,_,_=>by simp [D.pls]
 | d::ds,n,m,hn,h=>by
  simp only [D.pls,Bool.and_eq_true] at h ⊢
  exact ⟨pl_mono d n m hn h.1,pls_mono ds n m hn h.2⟩
end
mutual
theorem pl_lay:∀ (d:D) (n:Nat),d.pl n=true→d.toP.canLay0=true∧d.toP.depth≤n
 | .none,_,_=>by simp [toP_none,toP_bool,toP_int,toP_str,toP_tup,toP_lst,toP_dct,toP_obj,toP_raw,PyData.canLay0,PyData.depth]
 | .bool _,_,_=>by simp [toP_none,toP_bool,toP_int,toP_str,toP_tup,toP_lst,toP_dct,toP_obj,toP_raw,PyData.canLay0,PyData.depth]
 | .str x,_,h=>by simp only [pl_none,pl_bool,pl_str,pl_int,pl_raw,pl_dct,pl_obj,pl_tup0,pl_tup,pl_lst0,pl_lst] at h; simp [toP_none,toP_bool,toP_int,toP_str,toP_tup,toP_lst,toP_dct,toP_obj,toP_raw,PyData.canLay0,PyData.depth,h]
 | .int _,n,h=>by simp [pl_none,pl_bool,pl_str,pl_int,pl_raw,pl_dct,pl_obj,pl_tup0,pl_tup,pl_lst0,pl_lst] at h
 | .raw _,n,h=>by simp [pl_none,pl_bool,pl_str,pl_int,pl_raw,pl_dct,pl_obj,pl_tup0,pl_tup,pl_lst0,pl_lst] at h
 | .dct _ _,n,h=>by simp [pl_none,pl_bool,pl_str,pl_int,pl_raw,pl_dct,pl_obj,pl_tup0,pl_tup,pl_lst0,pl_lst] at h
 | .obj _ _ _,n,h=>by simp [pl_none,pl_bool,pl_str,pl_int,pl_raw,pl_dct,pl_obj,pl_tup0,pl_tup,pl_lst0,pl_lst] at h
 | .tup ds,n,h=>by
  cases n with
  | zero=>simp [pl_none,pl_bool,pl_str,pl_int,pl_raw,pl_dct,pl_obj,pl_tup0,pl_tup,pl_lst0,pl_lst] at h
  | succ n =>
   simp only [pl_none,pl_bool,pl_str,pl_int,pl_raw,pl_dct,pl_obj,pl_tup0,pl_tup,pl_lst0,pl_lst] at h
   have:=pls_lay ds n h
   simp only [toP_none,toP_bool,toP_int,toP_str,toP_tup,toP_lst,toP_dct,toP_obj,toP_raw,PyData.canLay0,PyData.depth]
   exact ⟨this.1,Nat.succ_le_succ this.2⟩
 | .lst ds,n,h=>by
  cases n with
  | zero=>simp [pl_none,pl_bool,pl_str,pl_int,pl_raw,pl_dct,pl_obj,pl_tup0,pl_tup,pl_lst0,pl_lst] at h
  | succ n =>
   simp only [pl_none,pl_bool,pl_str,pl_int,pl_raw,pl_dct,pl_obj,pl_tup0,pl_tup,pl_lst0,pl_lst] at h
   have:=pls_lay ds n h
   simp only [toP_none,toP_bool,toP_int,toP_str,toP_tup,toP_lst,toP_dct,toP_obj,toP_raw,PyData.canLay0,PyData.depth]
   exact ⟨this.1,Nat.succ_le_succ this.2⟩
theorem pls_lay:∀ (ds:List D) (n:Nat),D.pls ds n=true→PyData.canLayAll0 (D.toPs ds)=true∧PyData.depthAll (D.toPs ds)≤n
 | [],_,_=>by simp [D.toPs,PyData.canLayAll0,PyData.depthAll]
 | d::ds,n,h=>by
  simp only [D.pls,Bool.and_eq_true] at h
  have h1:=pl_lay d n h.1
  have h2:=pls_lay ds n h.2
  simp only [D.toPs,PyData.canLayAll0,PyData.depthAll,Bool.and_eq_true]
  exact ⟨⟨h1.1,h2.1⟩,Nat.max_le.mpr ⟨h1.2,h2.2⟩⟩
end
mutual
theorem eqv_pl:∀ (x y:D) (n m:Nat),x.pl n=true→y.pl m=true→(PyData.eqv x.toP y.toP=true ↔ x=y)
 | .none,y,n,m,hx,hy=>by cases y <;> simp_all [toP_none,toP_bool,toP_int,toP_str,toP_tup,toP_lst,toP_dct,toP_obj,toP_raw,PyData.eqv,pl_none,pl_bool,pl_str,pl_int,pl_raw,pl_dct,pl_obj,pl_tup0,pl_tup,pl_lst0,pl_lst]
 | .bool b,y,n,m,hx,hy=>by cases y <;> simp_all [toP_none,toP_bool,toP_int,toP_str,toP_tup,toP_lst,toP_dct,toP_obj,toP_raw,PyData.eqv,pl_none,pl_bool,pl_str,pl_int,pl_raw,pl_dct,pl_obj,pl_tup0,pl_tup,pl_lst0,pl_lst]
 | .str b,y,n,m,hx,hy=>by cases y <;> simp_all [toP_none,toP_bool,toP_int,toP_str,toP_tup,toP_lst,toP_dct,toP_obj,toP_raw,PyData.eqv,pl_none,pl_bool,pl_str,pl_int,pl_raw,pl_dct,pl_obj,pl_tup0,pl_tup,pl_lst0,pl_lst]
 | .int _,y,n,m,hx,hy=>by simp [pl_none,pl_bool,pl_str,pl_int,pl_raw,pl_dct,pl_obj,pl_tup0,pl_tup,pl_lst0,pl_lst] at hx
 | .raw _,y,n,m,hx,hy=>by simp [pl_none,pl_bool,pl_str,pl_int,pl_raw,pl_dct,pl_obj,pl_tup0,pl_tup,pl_lst0,pl_lst] at hx
 | .dct _ _,y,n,m,hx,hy=>by simp [pl_none,pl_bool,pl_str,pl_int,pl_raw,pl_dct,pl_obj,pl_tup0,pl_tup,pl_lst0,pl_lst] at hx
 | .obj _ _ _,y,n,m,hx,hy=>by simp [pl_none,pl_bool,pl_str,pl_int,pl_raw,pl_dct,pl_obj,pl_tup0,pl_tup,pl_lst0,pl_lst] at hx
 | .tup xs,y,n,m,hx,hy=>by
  cases n with
  | zero=>simp [pl_none,pl_bool,pl_str,pl_int,pl_raw,pl_dct,pl_obj,pl_tup0,pl_tup,pl_lst0,pl_lst] at hx
  | succ n =>
  cases y with
  | tup ys =>
   cases m with
   | zero=>simp [pl_none,pl_bool,pl_str,pl_int,pl_raw,pl_dct,pl_obj,pl_tup0,pl_tup,pl_lst0,pl_lst] at hy
   | succ m =>
    simp only [pl_none,pl_bool,pl_str,pl_int,pl_raw,pl_dct,pl_obj,pl_tup0,pl_tup,pl_lst0,pl_lst] at hx hy
    simp only [toP_none,toP_bool,toP_int,toP_str,toP_tup,toP_lst,toP_dct,toP_obj,toP_raw,PyData.eqv,D.tup.injEq]
    exact eqv_pls xs ys n m hx hy
  | _=>simp_all [toP_none,toP_bool,toP_int,toP_str,toP_tup,toP_lst,toP_dct,toP_obj,toP_raw,PyData.eqv,pl_none,pl_bool,pl_str,pl_int,pl_raw,pl_dct,pl_obj,pl_tup0,pl_tup,pl_lst0,pl_lst]
 | .lst xs,y,n,m,hx,hy=>by
  cases n with
  | zero=>simp [pl_none,pl_bool,pl_str,pl_int,pl_raw,pl_dct,pl_obj,pl_tup0,pl_tup,pl_lst0,pl_lst] at hx
  | succ n =>
  cases y with
  | lst ys =>
   cases m with
   | zero=>simp [pl_none,pl_bool,pl_str,pl_int,pl_raw,pl_dct,pl_obj,pl_tup0,pl_tup,pl_lst0,pl_lst] at hy
   | succ m =>
    simp only [pl_none,pl_bool,pl_str,pl_int,pl_raw,pl_dct,pl_obj,pl_tup0,pl_tup,pl_lst0,pl_lst] at hx hy
    simp only [toP_none,toP_bool,toP_int,toP_str,toP_tup,toP_lst,toP_dct,toP_obj,toP_raw,PyData.eqv,D.lst.injEq]
    exact eqv_pls xs ys n m hx hy
  | _=>simp_all [toP_none,toP_bool,toP_int,toP_str,toP_tup,toP_lst,toP_dct,toP_obj,toP_raw,PyData.eqv,pl_none,pl_bool,pl_str,pl_int,pl_raw,pl_dct,pl_obj,pl_tup0,pl_tup,pl_lst0,pl_lst]
theorem eqv_pls:∀ (xs ys:List D) (n m:Nat),D.pls xs n=true→D.pls ys m=true→(PyData.eqvAll (D.toPs xs) (D.toPs ys)=true ↔ xs=ys)
 | [],ys,n,m,hx,hy=>by cases ys <;> simp [D.toPs,PyData.eqvAll]
 | x::xs,ys,n,m,hx,hy=>by
  cases ys with
  | nil=>simp [D.toPs,PyData.eqvAll]
  | cons y ys =>
   simp only [D.pls,Bool.and_eq_true] at hx hy
   simp only [D.toPs,PyData.eqvAll,Bool.and_eq_true,List.cons.injEq]
   rw [eqv_pl x y n m hx.1 hy.1,eqv_pls xs ys n m hx.2 hy.2]
end
theorem shaped_pl {d:D} {n:Nat} (h:d.pl n=true) (hn:n≤64):SeqAt.shaped d.toP=true:=by
 obtain ⟨h1,h2⟩:=pl_lay d n h
 unfold SeqAt.shaped
 rw [h1,decide_eq_true (Nat.le_trans h2 hn)]; rfl
open Classical in
theorem eqS_pl {x y:D} (hx:x.pl 60=true) (hy:y.pl 60=true):eqS x y=some (decide (x=y)):=by
 unfold eqS
 rw [shaped_pl hx (by decide),shaped_pl hy (by decide)]
 simp only [Bool.and_self,↓reduceIte,Option.some.injEq]
 have:=eqv_pl x y _ _ hx hy
 cases h:PyData.eqv x.toP y.toP with
 | true=>rw [decide_eq_true (this.mp h)]
 | false=>rw [decide_eq_false (fun e=>by rw [this.mpr e] at h; cases h)]
open Classical in
theorem eqD_pl {x y:D} (hx:x.pl 60=true) (hy:y.pl 60=true):eqD x y=some (decide (x=y)):=by
 rcases eqD_c x y with ⟨d,ds,rfl,rfl,e⟩ | e
 ·exact e.trans (congrArg some (decide_eq_false fun z=>nomatch z).symm)
 ·exact e.trans (eqS_pl hx hy)
open Classical in
theorem anyEq_pl {x:D} {ds:List D} (hx:x.pl 60=true) (hy:(D.lst ds).pl 60=true):anyEq x ds=some (decide (x ∈ ds)):=by
 unfold anyEq
 rw [shaped_pl hx (by decide),shaped_pl hy (by decide)]
 simp only [Bool.and_self,↓reduceIte,Option.some.injEq]
 have h0:=pls_iff.mp (show D.pls ds 59=true by simpa [pl_none,pl_bool,pl_str,pl_int,pl_raw,pl_dct,pl_obj,pl_tup0,pl_tup,pl_lst0,pl_lst] using hy)
 cases h:(ds.any fun y=>PyData.eqv y.toP x.toP) with
 | true =>
  obtain ⟨y,h1,h2⟩:=List.any_eq_true.mp h
  have:=(eqv_pl y x _ _ (h0 y h1) hx).mp h2
  rw [decide_eq_true (this ▸ h1)]
 | false =>
  refine (decide_eq_false fun hm=>?_).symm
  have:=(List.any_eq_false.mp h) x hm
  exact this ((eqv_pl x x _ _ (h0 x hm) hx).mpr rfl)
theorem str_ok (h:H):PyData.strOk h.str=true:=by cases h <;> decide +kernel
theorem enc_pl:∀ (t:T),t.enc.pl (t.dep+1)=true
 | .l h=>by simp [T.enc,pl_none,pl_bool,pl_str,pl_int,pl_raw,pl_dct,pl_obj,pl_tup0,pl_tup,pl_lst0,pl_lst,D.pls,str_ok,T.dep]
 | .u h t=>by simp [T.enc,pl_none,pl_bool,pl_str,pl_int,pl_raw,pl_dct,pl_obj,pl_tup0,pl_tup,pl_lst0,pl_lst,D.pls,str_ok,T.dep,enc_pl t]
 | .b h t v=>by
  simp only [T.enc,pl_none,pl_bool,pl_str,pl_int,pl_raw,pl_dct,pl_obj,pl_tup0,pl_tup,pl_lst0,pl_lst,D.pls,str_ok,T.dep,Bool.true_and,Bool.and_true,Bool.and_eq_true]
  exact ⟨pl_mono _ _ _ (Nat.succ_le_succ (Nat.le_max_left ..)) (enc_pl t),pl_mono _ _ _ (Nat.succ_le_succ (Nat.le_max_right ..)) (enc_pl v)⟩
theorem enc_pl60 {t:T} (h:t.dep < 50) {n:Nat} (hn:51≤n):t.enc.pl n=true:=pl_mono _ _ _ (Nat.le_trans h (lw0 hn)) (enc_pl t)
theorem eqD_enc {t v:T} (ht:t.dep < 50) (hv:v.dep < 50):eqD t.enc v.enc=some (decide (t=v)):=by
 rw [eqD_pl (enc_pl60 ht (by decide)) (enc_pl60 hv (by decide))]
 refine congrArg some ?_
 by_cases e:t=v
 ·subst e; simp
 ·rw [decide_eq_false e]
  exact @decide_eq_false _ (Classical.propDecidable _) (fun z=>e (enc_inj z))
noncomputable def okS (σ:Sto):Prop:=∀ c ∈ σ,∀ n,cellLow n c=true
theorem okS.all {σ:Sto} (h:okS σ) (n:Nat):σ.all (cellLow n)=true:=List.all_eq_true.mpr fun c hc=>h c hc n
theorem okS.app {σ τ:Sto} (h:okS σ) (h':okS τ):okS (σ++τ):=fun c hc n=>(List.mem_append.mp hc).elim (fun q=>h c q n) (fun q=>h' c q n)
theorem okS.nil:okS []:=fun c hc=>by cases hc
theorem okS.lst {σ:Sto} {ds:List D} (h:okS σ):okS (.lst ds::σ):=fun c hc n=>by
 rcases List.mem_cons.mp hc with rfl | hc
 ·rfl
 ·exact h c hc n
theorem okS.dct {σ:Sto} {ks:List Str} {ds:List D} (h:okS σ):okS (.dct ks ds::σ):=fun c hc n=>by
 rcases List.mem_cons.mp hc with rfl | hc
 ·rfl
 ·exact h c hc n
theorem okS.gone {σ:Sto} (h:okS σ):okS (.gone::σ):=fun c hc n=>by
 rcases List.mem_cons.mp hc with rfl | hc
 ·rfl
 ·exact h c hc n
theorem gA (σ τ:Sto) (k:Nat):(σ++τ)[σ.length+k]?=τ[k]?:=by rw [List.getElem?_append_right (Nat.le_add_right ..),Nat.add_sub_cancel_left]
theorem gA0 (σ τ:Sto):(σ++τ)[σ.length]?=τ[0]?:=gA σ τ 0
theorem sA (σ τ:Sto) (k:Nat) (c:Cell):(σ++τ).set (σ.length+k) c=σ++τ.set k c:=by rw [List.set_append_right _ _ (Nat.le_add_right ..),Nat.add_sub_cancel_left]
theorem sA0 (σ τ:Sto) (c:Cell):(σ++τ).set σ.length c=σ++τ.set 0 c:=sA σ τ 0 c
theorem tA (σ τ:Sto):(σ++τ).take σ.length=σ:=List.take_left' rfl
theorem lvSt (n:Nat):(lv fns clss (n+1)).s=evSs (lv fns clss n):=rfl
theorem lvC (n:Nat):(lv fns clss (n+1)).c=evC fns (lv fns clss n):=rfl
theorem lvN (n:Nat):(lv fns clss (n+1)).n=evN clss (lv fns clss n):=rfl
theorem evC_mk {f:Nat} {g:Fn} {vs:List V} {σ τ:Sto} {l:Lv} {fl:Fl} {env':Env'} (hg:fns[f]?=some g) (hl:g.params.length=vs.length) (hs:l.s ((g.params.zip vs).reverse) σ g.body=some (fl,env',σ++τ)) (ho:okS σ):evC fns l f vs σ=some (flD fl,σ):=by
 unfold evC
 rw [hg]
 simp only [Option.bind_some,hl,↓reduceIte,hs,tA,ho.all]
section
variable {n:Nat} {env env1:Env'} {σ σ1 σ2 σ3 σ4:Sto}
theorem bindE {α β:Type} {x:Option α} {a:α} {f:α→Option β} {r:Option β} (h:x=some a) (k:f a=r):x.bind f=r:=by rw [h]; exact k
theorem mapE {α β:Type} {x:Option α} {a:α} {f:α→β} (h:x=some a):x.map f=some (f a):=by rw [h]; rfl
theorem r_none:(lv fns clss (n+1)).e env σ .none=some (.d .none,σ):=rfl
theorem r_bool {b:Bool}:(lv fns clss (n+1)).e env σ (.bool b)=some (.d (.bool b),σ):=rfl
theorem r_int {i:Int}:(lv fns clss (n+1)).e env σ (.int i)=some (.d (.int i),σ):=rfl
theorem r_str {x:Str}:(lv fns clss (n+1)).e env σ (.str x)=some (.d (.str x),σ):=rfl
theorem r_glo {x:Str} {d:D}:(lv fns clss (n+1)).e env σ (.glo x d)=some (.d d,σ):=rfl
theorem r_dct0:(lv fns clss (n+1)).e env σ .dct0=some (.d (.dct [] []),σ):=rfl
theorem r_newD:(lv fns clss (n+1)).e env σ .newD=some (.loc σ.length,σ++[.dct [] []]):=rfl
theorem r_var {i:Nat} {v:V} (h:env.lookup i=some v):(lv fns clss (n+1)).e env σ (.var i)=some (v,σ):=mapE h
theorem r_D {x:X} {d:D} {l:Lv} (h:l.e env σ x=some (.d d,σ1)):evD l env σ x=some (d,σ1):=bindE h rfl
theorem r_nil {l:Lv}:evs l env σ []=some ([],σ):=rfl
theorem r_cons {l:Lv} {x:X} {xs:List X} {v:V} {vs:List V} (h:l.e env σ x=some (v,σ1)) (h2:evs l env σ1 xs=some (vs,σ2)):evs l env σ (x::xs)=some (v::vs,σ2):=bindE h (mapE h2)
theorem r_dnil {l:Lv}:evDs l env σ []=some ([],σ):=rfl
theorem r_dcons {l:Lv} {x:X} {xs:List X} {d:D} {ds:List D} (h:evD l env σ x=some (d,σ1)) (h2:evDs l env σ1 xs=some (ds,σ2)):evDs l env σ (x::xs)=some (d::ds,σ2):=bindE h (mapE h2)
theorem r_test {l:Lv} {x:X} {b:Bool} (h:l.e env σ x=some (.d (.bool b),σ1)):test l env σ x=some (b,σ1):=bindE h rfl
theorem r_andT {a c:X} {v:V} (h:(lv fns clss n).e env σ a=some (.d (.bool true),σ1)) (h2:(lv fns clss n).e env σ1 c=some (v,σ2)):(lv fns clss (n+1)).e env σ (.andE a c)=some (v,σ2):=bindE h h2
theorem r_andF {a c:X} (h:(lv fns clss n).e env σ a=some (.d (.bool false),σ1)):(lv fns clss (n+1)).e env σ (.andE a c)=some (.d (.bool false),σ1):=bindE h rfl
theorem r_and {a c:X} {b b2:Bool} (h:(lv fns clss n).e env σ a=some (.d (.bool b),σ1)) (h2:(lv fns clss n).e env σ1 c=some (.d (.bool b2),σ1)):(lv fns clss (n+1)).e env σ (.andE a c)=some (.d (.bool (b && b2)),σ1):=bindE h (by cases b; rfl; exact h2)
theorem r_or {a c:X} {b b2:Bool} (h:(lv fns clss n).e env σ a=some (.d (.bool b),σ1)) (h2:(lv fns clss n).e env σ1 c=some (.d (.bool b2),σ1)):(lv fns clss (n+1)).e env σ (.orE a c)=some (.d (.bool (b || b2)),σ1):=bindE h (by cases b; exact h2; rfl)
theorem r_not {a:X} {b:Bool} (h:(lv fns clss n).e env σ a=some (.d (.bool b),σ1)):(lv fns clss (n+1)).e env σ (.notE a)=some (.d (.bool (!b)),σ1):=bindE h rfl
theorem r_ifeT {t a c:X} {v:V} (h:test (lv fns clss n) env σ t=some (true,σ1)) (h2:(lv fns clss n).e env σ1 a=some (v,σ2)):(lv fns clss (n+1)).e env σ (.ife t a c)=some (v,σ2):=bindE h h2
theorem r_ifeF {t a c:X} {v:V} (h:test (lv fns clss n) env σ t=some (false,σ1)) (h2:(lv fns clss n).e env σ1 c=some (v,σ2)):(lv fns clss (n+1)).e env σ (.ife t a c)=some (v,σ2):=bindE h h2
theorem r_bin {op:Operator} {a c:X} {x y d:D} (h:evD (lv fns clss n) env σ a=some (x,σ1)) (h2:evD (lv fns clss n) env σ1 c=some (y,σ2)) (h3:binD op x y=some d):(lv fns clss (n+1)).e env σ (.bin op a c)=some (.d d,σ2):=bindE h (bindE h2 (mapE h3))
theorem r_cmp {op:CmpOp} {a c:X} {x y:D} {b:Bool} (h:evD (lv fns clss n) env σ a=some (x,σ1)) (h2:evD (lv fns clss n) env σ1 c=some (y,σ2)) (h3:cmpD op x y=some b):(lv fns clss (n+1)).e env σ (.cmp op a c)=some (.d (.bool b),σ2):=bindE h (bindE h2 (mapE h3))
theorem r_tup {xs:List X} {ds:List D} (h:evDs (lv fns clss n) env σ xs=some (ds,σ1)):(lv fns clss (n+1)).e env σ (.tup xs)=some (.d (.tup ds),σ1):=mapE h
theorem r_lst {xs:List X} {ds:List D} (h:evDs (lv fns clss n) env σ xs=some (ds,σ1)):(lv fns clss (n+1)).e env σ (.lst xs)=some (.d (.lst ds),σ1):=mapE h
theorem r_newL {xs:List X} {ds:List D} (h:evDs (lv fns clss n) env σ xs=some (ds,σ1)):(lv fns clss (n+1)).e env σ (.newL xs)=some (.loc σ1.length,σ1++[.lst ds]):=mapE h
theorem r_idx {a i:X} {v:V} {k d:D} (h:(lv fns clss n).e env σ a=some (v,σ1)) (h2:evD (lv fns clss n) env σ1 i=some (k,σ2)) (h3:idxV σ2 v k=some d):(lv fns clss (n+1)).e env σ (.idx a i)=some (.d d,σ2):=bindE h (bindE h2 (mapE h3))
theorem r_cut {a:X} {lo hi:Option Nat} {x d:D} (h:evD (lv fns clss n) env σ a=some (x,σ1)) (h2:cutD x lo hi=some d):(lv fns clss (n+1)).e env σ (.cut a lo hi)=some (.d d,σ1):=bindE h (mapE h2)
theorem r_call {f:Nat} {xs:List X} {vs:List V} {d:D} (h:evs (lv fns clss n) env σ xs=some (vs,σ1)) (h2:(lv fns clss n).c f vs σ1=some (d,σ2)):(lv fns clss (n+1)).e env σ (.call f xs)=some (.d d,σ2):=bindE h (mapE h2)
theorem r_new {c:Nat} {xs:List X} {vs:List V} {d:D} (h:evs (lv fns clss n) env σ xs=some (vs,σ1)) (h2:(lv fns clss n).n c vs σ1=some (d,σ2)):(lv fns clss (n+1)).e env σ (.new c xs)=some (.d d,σ2):=bindE h (mapE h2)
theorem r_len {a:X} {v:V} {i:Int} (h:(lv fns clss n).e env σ a=some (v,σ1)) (h2:lenV v σ1=some i):(lv fns clss (n+1)).e env σ (.bi .len a)=some (.d (.int i),σ1):=bindE h (mapE h2)
theorem r_bi {b:Bi} {a:X} {x d:D} (hb:b ≠ .len) (h:evD (lv fns clss n) env σ a=some (x,σ1)) (h2:biD b x=some d):(lv fns clss (n+1)).e env σ (.bi b a)=some (.d d,σ1):=by
 have e:(lv fns clss (n+1)).e env σ (.bi b a)=(evD (lv fns clss n) env σ a).bind fun r=>(biD b r.1).map fun d=>(.d d,r.2):=by cases b <;> first | rfl | exact absurd rfl hb
 exact e.trans (bindE h (mapE h2))
theorem r_attrD {a:X} {f:Str} {c:Addr} {ks:List Str} {ds:List D} {d:D} (h:(lv fns clss n).e env σ a=some (.d (.obj c ks ds),σ1)) (h2:look f ks ds=some d):(lv fns clss (n+1)).e env σ (.attr a f)=some (.d d,σ1):=bindE h (mapE (mapE h2))
theorem r_attrL {a:X} {f:Str} {c:Addr} {k:Nat} {ks:List Str} {vs:List V} {v:V} (h:(lv fns clss n).e env σ a=some (.loc k,σ1)) (hc:σ1[k]?=some (.obj c ks vs)) (h2:look f ks vs=some v):(lv fns clss (n+1)).e env σ (.attr a f)=some (v,σ1) :=
 bindE h (mapE (by show (match σ1[k]? with | some (.obj _ ks vs)=>look f ks vs | _=>none)=_; rw [hc]; exact h2))
theorem lstAt_of {k:Nat} {ds:List D} (h:σ[k]?=some (.lst ds)):lstAt (.loc k) σ=some (k,ds):=by
 show (match σ[k]? with | some (.lst ds)=>some (k,ds) | _=>none)=_; rw [h]
theorem dctAt_of {k:Nat} {ks:List Str} {ds:List D} (h:σ[k]?=some (.dct ks ds)):dctAt (.loc k) σ=some (k,ks,ds):=by
 show (match σ[k]? with | some (.dct ks ds)=>some (k,ks,ds) | _=>none)=_; rw [h]
theorem lim_of {α:Type} {b:Bool} {x:α} (h:b=true):lim b x=some x:=by rw [h]; rfl
theorem r_app {o v:X} {k:Nat} {ds0 ds:List D} {d:D} (h:(lv fns clss n).e env σ o=some (.loc k,σ1)) (h1:σ1[k]?=some (.lst ds0)) (h2:evD (lv fns clss n) env σ1 v=some (d,σ2)) (h3:σ2[k]?=some (.lst ds)) (h4:small (ds++[d])=true) (h5:σ2.set k (.lst (ds++[d]))=σ3) :
  (lv fns clss (n+1)).e env σ (.app o v)=some (.d .none,σ3):=bindE h (bindE (lstAt_of h1) (bindE h2 (bindE (lstAt_of h3) ((lim_of h4).trans (by rw [h5])))))
theorem r_ext {o v:X} {k:Nat} {ds0 ds es:List D} (h:(lv fns clss n).e env σ o=some (.loc k,σ1)) (h1:σ1[k]?=some (.lst ds0)) (h2:evD (lv fns clss n) env σ1 v=some (.lst es,σ2)) (h3:σ2[k]?=some (.lst ds)) (h4:small (ds++es)=true) (h5:σ2.set k (.lst (ds++es))=σ3) :
  (lv fns clss (n+1)).e env σ (.ext o v)=some (.d .none,σ3):=bindE h (bindE (lstAt_of h1) (bindE h2 (bindE (lstAt_of h3) (bindE (a:=es) rfl ((lim_of h4).trans (by rw [h5]))))))
theorem r_comp {cs:List Nat} {el it:X} {tg:Tg} {cond:Option X} {x:D} {ds rs:List D} (h:evD (lv fns clss n) env σ it=some (x,σ1)) (h2:itemsOf x=some ds) (h3:compL (lv fns clss n) (caps cs env) el tg cond ds σ1=some (rs,σ2)) :
  (lv fns clss (n+1)).e env σ (.comp cs el tg it cond)=some (.d (.lst rs),σ2):=bindE h (bindE h2 (mapE h3))
theorem r_comp2 {cs:List Nat} {el it it2:X} {tg tg2:Tg} {x:D} {ds rs:List D} (h:evD (lv fns clss n) env σ it=some (x,σ1)) (h2:itemsOf x=some ds) (h3:compL2 (lv fns clss n) (caps cs env) el tg tg2 it2 ds σ1=some (rs,σ2)) (h4:small rs=true) :
  (lv fns clss (n+1)).e env σ (.comp2 cs el tg it tg2 it2)=some (.d (.lst rs),σ2):=bindE h (bindE h2 (bindE h3 (lim_of h4)))
theorem r_frz {i k:Nat} {d:D} (h:env.lookup i=some (.loc k)) (h2:freeze σ k=some d) (h3:σ.set k .gone=σ1):(lv fns clss (n+1)).e env σ (.frz i)=some (.d d,σ1):=bindE h ((mapE h2).trans (by rw [h3]))
theorem s_asg {l:Lv} {i:Nat} {x:X} {v:V} (h:l.e env σ x=some (v,σ1)):evS1 l env σ (.asg i x)=some (.next,(i,v)::env,σ1):=mapE h
theorem s_asgC {l:Lv} {i:Nat} {x:X} {v:V} (h:l.e env σ x=some (v,σ1)):evS1 l env σ (.asgC i x)=some (.next,(i,v)::env,σ1):=mapE h
theorem s_ret {l:Lv} {x:X} {d:D} (h:evD l env σ x=some (d,σ1)):evS1 l env σ (.ret x)=some (.ret d,env,σ1):=mapE h
theorem s_expr {l:Lv} {x:X} (h:evD l env σ x=some (.none,σ1)):evS1 l env σ (.expr x)=some (.next,env,σ1):=bindE h rfl
theorem s_asgT {l:Lv} {is:List Nat} {x:X} {d:D} (h:evD l env σ x=some (d,σ1)) (h2:bindTg (.tup is) d env=some env1):evS1 l env σ (.asgT is x)=some (.next,env1,σ1):=bindE h (mapE h2)
theorem s_asgW {l:Lv} {is:List Nat} {xs:List X} {vs:List V} (h:evs l env σ xs=some (vs,σ1)) (h2:is.length=vs.length):evS1 l env σ (.asgW is xs)=some (.next,(is.zip vs)++env,σ1):=bindE h (if_pos h2)
theorem s_asgU {l:Lv} {is:List Nat} {xs:List X} {vs:List V} (h:evs l env σ xs=some (vs,σ1)) (h2:is.length=vs.length):evS1 l env σ (.asgU is xs)=some (.next,(is.zip vs).reverse++env,σ1):=bindE h (if_pos h2)
theorem s_setL {l:Lv} {o i v:X} {d:D} {m:Nat} {k:Int} {ds:List D} (h:evD l env σ v=some (d,σ1)) (h2:l.e env σ1 o=some (.loc m,σ2)) (h3:evD l env σ2 i=some (.int k,σ3)) (hc:σ3[m]?=some (.lst ds)) (hk:0≤k∧k < 1000∧k.toNat < ds.length) (h4:σ3.set m (.lst (ds.set k.toNat d))=σ4) :
  evS1 l env σ (.setI o i v)=some (.next,env,σ4):=bindE h (bindE h2 (bindE h3 (by show (match σ3[m]? with | some (.lst ds)=>if 0≤k∧k < 1000∧k.toNat < ds.length then some (Fl.next,env,σ3.set m (.lst (ds.set k.toNat d))) else none | _=>none)=_; rw [hc]; exact (if_pos hk).trans (by rw [h4]))))
theorem s_setD {l:Lv} {o i v:X} {d:D} {m:Nat} {x:Str} {ks:List Str} {ds:List D} (h:evD l env σ v=some (d,σ1)) (h2:l.e env σ1 o=some (.loc m,σ2)) (h3:evD l env σ2 i=some (.str x,σ3)) (hc:σ3[m]?=some (.dct ks ds)) (hk:ks.length < 900) (h4:σ3.set m (.dct (put x d ks ds).1 (put x d ks ds).2)=σ4) :
  evS1 l env σ (.setI o i v)=some (.next,env,σ4):=bindE h (bindE h2 (bindE h3 (by show (match σ3[m]? with | some (.dct ks ds)=>lim (decide (ks.length < 900)) (Fl.next,env,σ3.set m (.dct (put x d ks ds).1 (put x d ks ds).2)) | _=>none)=_; rw [hc]; exact (lim_of (decide_eq_true hk)).trans (by rw [h4]))))
theorem s_setA {l:Lv} {o v:X} {f:Str} {u:V} {m:Nat} {c:Addr} {ks:List Str} {vs:List V} (h:l.e env σ v=some (u,σ1)) (h2:l.e env σ1 o=some (.loc m,σ2)) (hc:σ2[m]?=some (.obj c ks vs)) (hk:ks.length < 900) (h4:σ2.set m (.obj c (put f u ks vs).1 (put f u ks vs).2)=σ4) :
  evS1 l env σ (.setA o f v)=some (.next,env,σ4):=bindE h (bindE h2 (by show (match σ2[m]? with | some (.obj c ks vs)=>lim (decide (ks.length < 900)) (Fl.next,env,σ2.set m (.obj c (put f u ks vs).1 (put f u ks vs).2)) | _=>none)=_; rw [hc]; exact (lim_of (decide_eq_true hk)).trans (by rw [h4])))
theorem s_forD {l:Lv} {tg:Tg} {it:X} {body:List S} {x:D} {ds:List D} {r:Option (Fl × Env' × Sto)} (h:evD l env σ it=some (x,σ1)) (h2:itemsOf x=some ds) (h3:forL l tg body ds env σ1=r):evS1 l env σ (.forD tg it body)=r:=bindE h (bindE h2 h3)
theorem ss_nil:(lv fns clss (n+1)).s env σ []=some (.next,env,σ):=rfl
theorem ss_next {s:S} {ss:List S} {r:Option (Fl × Env' × Sto)} (h:evS1 (lv fns clss n) env σ s=some (.next,env1,σ1)) (h2:(lv fns clss n).s env1 σ1 ss=r):(lv fns clss (n+1)).s env σ (s::ss)=r:=bindE h h2
theorem ss_ret {s:S} {ss:List S} {d:D} (h:evS1 (lv fns clss n) env σ s=some (.ret d,env1,σ1)):(lv fns clss (n+1)).s env σ (s::ss)=some (.ret d,env1,σ1):=bindE h rfl
theorem s_ifT {l:Lv} {t:X} {a c:List S} {r:Option (Fl × Env' × Sto)} (h:test l env σ t=some (true,σ1)) (h2:l.s env σ1 a=r):evS1 l env σ (.ife t a c)=r:=bindE h h2
theorem s_ifF {l:Lv} {t:X} {a c:List S} {r:Option (Fl × Env' × Sto)} (h:test l env σ t=some (false,σ1)) (h2:l.s env σ1 c=r):evS1 l env σ (.ife t a c)=r:=bindE h h2
theorem evC_mk0 {f:Nat} {g:Fn} {vs:List V} {l:Lv} {fl:Fl} (hg:fns[f]?=some g) (hl:g.params.length=vs.length) (hs:l.s ((g.params.zip vs).reverse) σ g.body=some (fl,env,σ)) (ho:okS σ):evC fns l f vs σ=some (flD fl,σ):=evC_mk (τ:=[]) hg hl (by rw [List.append_nil]; exact hs) ho
theorem lt_int {i j:Int}:cmpD .Lt (.int i) (.int j)=some (decide (i < j)):=rfl
theorem mul_int {i j:Int} (h1:i.natAbs < 1000000) (h2:j.natAbs < 1000000):binD .Mult (.int i) (.int j)=some (.int (i * j)):=lim_of (Bool.and_eq_true_iff.mpr ⟨decide_eq_true h1,decide_eq_true h2⟩)
theorem mod_int {i j:Int} (h:j ≠ 0):binD .Mod (.int i) (.int j)=some (.int (Int.fmod i j)):=lim_of (decide_eq_true h)
theorem idx_at {ds:List D} {k:Int} {d:D} (hk:0≤k∧k < 1000) (h:ds[k.toNat]?=some d):idxD (.lst ds) (.int k)=some d:=(if_pos hk).trans h
theorem idx_cell {k:Nat} {ds:List D} {i d:D} (h:σ[k]?=some (.lst ds)) (h2:idxD (.lst ds) i=some d):idxV σ (.loc k) i=some d:=by
 show (match σ[k]? with | some (.lst ds)=>idxD (.lst ds) i | _=>none)=_; rw [h]; exact h2
theorem r_pop {o:X} {k:Nat} {ds:List D} {d:D} (h:(lv fns clss n).e env σ o=some (.loc k,σ1)) (h1:σ1[k]?=some (.lst ds)) (h2:ds.getLast?=some d) (h3:small ds=true) (h4:σ1.set k (.lst ds.dropLast)=σ2):(lv fns clss (n+1)).e env σ (.pop o)=some (.d d,σ2):=bindE h (bindE (lstAt_of h1) (bindE h2 ((lim_of h3).trans (by rw [h4]))))
theorem r_setdefS {o k v:X} {m:Nat} {x:Str} {d d2:D} {ks0 ks:List Str} {ds0 ds:List D} (h:(lv fns clss n).e env σ o=some (.loc m,σ1)) (h1:σ1[m]?=some (.dct ks0 ds0)) (h2:evD (lv fns clss n) env σ1 k=some (.str x,σ2)) (h3:evD (lv fns clss n) env σ2 v=some (d,σ3)) (h4:σ3[m]?=some (.dct ks ds)) (h5:look x ks ds=some d2) (h6:ks.length < 900):(lv fns clss (n+1)).e env σ (.setdef o k v)=some (.d d2,σ3) :=
 bindE h (bindE (dctAt_of h1) (bindE h2 (bindE h3 (bindE (dctAt_of h4) (bindE (a:=x) rfl (by rw [h5]; exact lim_of (decide_eq_true h6)))))))
theorem r_setdefN {o k v:X} {m:Nat} {x:Str} {d:D} {ks0 ks:List Str} {ds0 ds:List D} (h:(lv fns clss n).e env σ o=some (.loc m,σ1)) (h1:σ1[m]?=some (.dct ks0 ds0)) (h2:evD (lv fns clss n) env σ1 k=some (.str x,σ2)) (h3:evD (lv fns clss n) env σ2 v=some (d,σ3)) (h4:σ3[m]?=some (.dct ks ds)) (h5:look x ks ds=none) (h6:ks.length < 900) (h7:σ3.set m (.dct (put x d ks ds).1 (put x d ks ds).2)=σ4):(lv fns clss (n+1)).e env σ (.setdef o k v)=some (.d d,σ4) :=
 bindE h (bindE (dctAt_of h1) (bindE h2 (bindE h3 (bindE (dctAt_of h4) (bindE (a:=x) rfl (by rw [h5]; exact (lim_of (decide_eq_true h6)).trans (by rw [h7])))))))
theorem r_extZip {o a c:X} {k:Nat} {ds0 ds xs ys:List D} (h:(lv fns clss n).e env σ o=some (.loc k,σ1)) (h1:σ1[k]?=some (.lst ds0)) (h2:evD (lv fns clss n) env σ1 a=some (.tup xs,σ2)) (h3:evD (lv fns clss n) env σ2 c=some (.tup ys,σ3)) (h4:σ3[k]?=some (.lst ds)) (h5:(small (ds++xs) && decide (xs.length=ys.length))=true) (h6:σ3.set k (.lst (ds++(xs.zip ys).map fun (p:D × D)=>D.tup [p.1,p.2]))=σ4):(lv fns clss (n+1)).e env σ (.extZip o a c)=some (.d .none,σ4) :=
 bindE h (bindE (lstAt_of h1) (bindE h2 (bindE h3 (bindE (lstAt_of h4) (bindE (a:=(xs,ys)) rfl ((lim_of h5).trans (by rw [h6])))))))
theorem r_cmp2 {o1 o2:CmpOp} {a c e:X} {x y z:D} {b1 b2:Bool} (h:evD (lv fns clss n) env σ a=some (x,σ1)) (h2:evD (lv fns clss n) env σ1 c=some (y,σ2)) (h3:cmpD o1 x y=some b1) (h4:evD (lv fns clss n) env σ2 e=some (z,σ2)) (h5:cmpD o2 y z=some b2):(lv fns clss (n+1)).e env σ (.cmp2 o1 o2 a c e)=some (.d (.bool (b1 && b2)),σ2) :=
 bindE h (bindE h2 (bindE h3 (by cases b1; rfl; exact bindE h4 (mapE h5))))
theorem r_frzA {i k m:Nat} {nm:Str} {c:Addr} {ks:List Str} {vs:List V} {d:D} (h:env.lookup i=some (.loc k)) (h1:σ[k]?=some (.obj c ks vs)) (h2:look nm ks vs=some (.loc m)) (h3:freeze σ m=some d) (h4:(σ.set m .gone).set k (.obj c ks (put nm (.d d) ks vs).2)=σ1):(lv fns clss (n+1)).e env σ (.frzA i nm)=some (.d d,σ1) :=
 bindE h (by simp only [h1]; exact bindE h2 ((mapE h3).trans (by rw [h4])))
theorem r_meth {o:X} {s:Str} {f:Nat} {xs:List X} {ks:List Str} {ds:List D} {vs:List V} {d:D} (h:evD (lv fns clss n) env σ o=some (.obj 187 ks ds,σ1)) (hk:ks.contains (Str.ofString "turns")=false) (h1:evs (lv fns clss n) env σ1 xs=some (vs,σ2)) (h2:(lv fns clss n).c f (.d (.obj 187 ks ds)::vs) σ2=some (d,σ3)):(lv fns clss (n+1)).e env σ (.meth o s f xs)=some (.d d,σ3) :=
 bindE h (bindE (a:=()) (lim_of (by rw [hk]; rfl)) (bindE h1 (mapE h2)))
theorem wh_done {l:Lv} {t:X} {body:List S} {k:Nat} (h:test l env σ t=some (false,σ1)):whileL l t body (k+1) env σ=some (.next,env,σ1):=bindE h rfl
theorem wh_next {l:Lv} {t:X} {body:List S} {k:Nat} {r:Option (Fl × Env' × Sto)} (h:test l env σ t=some (true,σ1)) (h2:l.s env σ1 body=some (.next,env1,σ2)) (h3:whileL l t body k env1 σ2=r):whileL l t body (k+1) env σ=r:=bindE h (bindE h2 h3)
theorem wh_ret {l:Lv} {t:X} {body:List S} {k:Nat} {d:D} (h:test l env σ t=some (true,σ1)) (h2:l.s env σ1 body=some (.ret d,env1,σ2)):whileL l t body (k+1) env σ=some (.ret d,env1,σ2):=bindE h (bindE h2 rfl)
theorem fl_nil {l:Lv} {tg:Tg} {body:List S}:forL l tg body [] env σ=some (.next,env,σ):=rfl
theorem fl_next {l:Lv} {tg:Tg} {body:List S} {d:D} {ds:List D} {env2:Env'} {r:Option (Fl × Env' × Sto)} (h:bindTg tg d env=some env1) (h2:l.s env1 σ body=some (.next,env2,σ1)) (h3:forL l tg body ds env2 σ1=r):forL l tg body (d::ds) env σ=r:=bindE h (bindE h2 h3)
theorem s_forR {l:Lv} {i m:Nat} {e:X} {body:List S} {r:Option (Fl × Env' × Sto)} (h:evD l env σ e=some (.int (m:Int),σ1)) (hm:m≤1000) (h3:forL l (.one i) body ((List.range m).map fun (k:Nat)=>D.int k) env σ1=r):evS1 l env σ (.forR i e body)=r :=
 bindE h (bindE (lim_of (Bool.and_eq_true_iff.mpr ⟨decide_eq_true (Int.natCast_nonneg m),decide_eq_true (Int.ofNat_le.mpr hm)⟩)) h3)
theorem ss_one {s:S} {fl:Fl} (h:evS1 (lv fns clss (n+1)) env σ s=some (fl,env1,σ1)):(lv fns clss (n+2)).s env σ [s]=some (fl,env1,σ1):=by
 cases fl with
 | next=>exact ss_next h ss_nil
 | ret v=>exact ss_ret h
end
theorem idx_enc (t:T):idxD t.enc (.int 0)=some (.str t.hd.str):=by cases t <;> rfl
theorem cut_enc (t:T):cutD t.enc (some 1) .none=some (.tup (t.kids.map T.enc)):=by cases t <;> rfl
theorem cut0_enc (t:T):cutD t.enc .none (some 1)=some (.tup [.str t.hd.str]):=by cases t <;> rfl
theorem len_enc (t:T) (σ:Sto):lenV (.d t.enc) σ=some ((t.kids.length:Int)+1):=by cases t <;> rfl
theorem cut1 (h:H):cutD (.str h.str) .none (some 1)=some (.str (if h.isV then sx "?" else ⟨(h.str.cps.toList.take 1).toArray⟩)):=by
 cases h <;> rfl
theorem cut1q (h:H):eqD (.str (if h.isV then sx "?" else ⟨(h.str.cps.toList.take 1).toArray⟩)) (.str (sx "?"))=some h.isV:=by
 cases h <;> decide +kernel
theorem eqD_int (i j:Int):eqD (.int i) (.int j)=some (decide (i=j)):=by
 show eqS _ _=_
 unfold eqS SeqAt.shaped
 simp [toP_none,toP_bool,toP_int,toP_str,toP_tup,toP_lst,toP_dct,toP_obj,toP_raw,PyData.canLay0,PyData.depth,PyData.eqv]
 rfl
theorem eqD_str {x y:Str} (hx:PyData.strOk x=true) (hy:PyData.strOk y=true):eqD (.str x) (.str y)=some (decide (x=y)):=by
 show eqS _ _=_
 unfold eqS SeqAt.shaped
 simp [toP_none,toP_bool,toP_int,toP_str,toP_tup,toP_lst,toP_dct,toP_obj,toP_raw,PyData.canLay0,PyData.depth,PyData.eqv,hx,hy]
 rfl
theorem eqD_hd (h h':H):eqD (.str h.str) (.str h'.str)=some (decide (h=h')):=by
 rw [eqD_str (str_ok h) (str_ok h')]
 simp only [H.str_eq]
theorem kids_le (t:T):t.kids.length≤2:=by cases t <;> simp [T.kids]
theorem isV_eq (t:T):t.isV=(decide (t.kids.length=0) && t.hd.isV):=by cases t <;> simp [T.isV,T.kids,T.hd]
theorem c0 (n:Nat) (t:T) (σ:Sto) (ho:okS σ):(lv fns clss (n+8)).c 0 [.d t.enc] σ=some (.bool t.isV,σ):=by
 rw [lvC]
 refine evC_mk0 (g:=f_is_variable) (fl:=.ret (.bool t.isV)) (env:=[(0,.d t.enc)]) rfl rfl ?_ ho
 have e:((decide ((t.kids.length:Int)+1=1)) && t.hd.isV)=t.isV:=by rw [isV_eq]; congr 1; exact decide_eq_decide.mpr ⟨fun h=>Int.ofNat.inj ((Int.add_left_inj (j:=0) 1).mp h),fun h=>by rw [h]; rfl⟩
 exact ss_ret (s_ret (r_D (e ▸ r_and (r_cmp (r_D (r_len (r_var rfl) (len_enc t σ))) (r_D r_int) (eqD_int _ _)) (r_cmp (r_D (r_cut (r_D (r_idx (r_var rfl) (r_D r_int) (idx_enc t))) (cut1 _))) (r_D r_str) (cut1q _)))))
section
variable {α β:Type} {l:Lv}
theorem compL_map {env:Env'} {el:X} {tg:Tg} {xs:List α} {e f:α→D} {σ:Sto} (h:∀ x ∈ xs,∃ env1,bindTg tg (e x) env=some env1∧evD l env1 σ el=some (f x,σ)) :
  compL l env el tg .none (xs.map e) σ=some (xs.map f,σ):=by
 induction xs with
 | nil=>rfl
 | cons x xs ih =>
  obtain ⟨env1,h1,h2⟩:=h x (.head _)
  have:=ih fun y hy=>h y (.tail _ hy)
  exact bindE h1 (bindE rfl (bindE h2 (mapE this)))
theorem compL_filter {env:Env'} {el c:X} {tg:Tg} {xs:List α} {e f:α→D} {p:α→Bool} {σ:Sto} (h:∀ x ∈ xs,∃ env1,bindTg tg (e x) env=some env1∧test l env1 σ c=some (p x,σ)∧(p x=true→evD l env1 σ el=some (f x,σ))) :
  compL l env el tg (some c) (xs.map e) σ=some ((xs.filter p).map f,σ):=by
 induction xs with
 | nil=>rfl
 | cons x xs ih =>
  obtain ⟨env1,h1,h2,h3⟩:=h x (.head _)
  have:=ih fun y hy=>h y (.tail _ hy)
  cases hp:p x with
  | true=>rw [List.filter_cons,if_pos hp]; rw [hp] at h2; exact bindE h1 (bindE h2 (bindE (x:=evD l env1 σ el) (h3 hp) (mapE this)))
  | false=>rw [List.filter_cons,if_neg (by rw [hp]; exact Bool.false_ne_true)]; rw [hp] at h2; exact bindE h1 (bindE h2 this)
theorem compL2_map {env:Env'} {el it2:X} {tg tg2:Tg} {xs:List α} {e:α→D} {f:α→List D} {σ:Sto} (h:∀ x ∈ xs,∃ env1 i is,bindTg tg (e x) env=some env1∧evD l env1 σ it2=some (i,σ)∧itemsOf i=some is∧compL l env1 el tg2 .none is σ=some (f x,σ)) :
  compL2 l env el tg tg2 it2 (xs.map e) σ=some (xs.flatMap f,σ):=by
 induction xs with
 | nil=>rfl
 | cons x xs ih =>
  obtain ⟨env1,i,is,h1,h2,h3,h4⟩:=h x (.head _)
  have:=ih fun y hy=>h y (.tail _ hy)
  exact bindE h1 (bindE h2 (bindE h3 (bindE h4 (mapE this))))
end
theorem okS_app (σ τ:Sto):okS (σ++τ) ↔ okS σ∧okS τ:=⟨fun h=>⟨fun c hc=>h c (List.mem_append_left _ hc),fun c hc=>h c (List.mem_append_right _ hc)⟩,fun h=>h.1.app h.2⟩
theorem okS_lst (σ:Sto) (ds:List D):okS (.lst ds::σ) ↔ okS σ:=⟨fun h c hc=>h c (.tail _ hc),okS.lst⟩
theorem okS_dct (σ:Sto) (ks:List Str) (ds:List D):okS (.dct ks ds::σ) ↔ okS σ:=⟨fun h c hc=>h c (.tail _ hc),okS.dct⟩
theorem okS_gone (σ:Sto):okS (.gone::σ) ↔ okS σ:=⟨fun h c hc=>h c (.tail _ hc),okS.gone⟩
theorem okS_nil:okS [] ↔ True:=⟨fun _=>trivial,fun _=>okS.nil⟩
noncomputable def partsT:T→List (List Int × T)
 | .l h=>[([],.l h)]
 | .u h t=>([],.u h t)::(partsT t).map fun p=>(0::p.1,p.2)
 | .b h t v=>([],.b h t v)::((partsT t).map (fun p=>(0::p.1,p.2))++(partsT v).map fun p=>(1::p.1,p.2))
noncomputable def encP (p:List Int × T):D:=.tup [.tup (p.1.map .int),p.2.enc]
noncomputable def T.sz:T→Nat
 | .l _=>1 | .u _ t=>t.sz+1 | .b _ t v=>t.sz+v.sz+1
theorem kids_dep {t v:T} (h:v ∈ t.kids):v.dep < t.dep∧v.sz < t.sz:=by
 induction t using T.casesOn with
 | l z=>exact (List.not_mem_nil h).elim
 | u z t =>
  obtain rfl:=List.mem_singleton.mp h
  exact ⟨Nat.lt_succ_self _,Nat.lt_succ_self _⟩
 | b z t u =>
  rcases List.mem_cons.mp h with rfl | h
  ·exact ⟨Nat.lt_succ_of_le (Nat.le_max_left ..),Nat.lt_succ_of_le (Nat.le_add_right ..)⟩
  ·obtain rfl:=List.mem_singleton.mp h
   exact ⟨Nat.lt_succ_of_le (Nat.le_max_right ..),Nat.lt_succ_of_le (Nat.le_add_left ..)⟩
theorem T.rec' {P:T→Prop} (h:∀ t,(∀ v ∈ t.kids,P v)→P t) (t:T):P t:=by
 induction t with
 | l z=>exact h _ fun v hv=>by cases hv
 | u z t ih=>exact h _ fun v hv=>by simp [T.kids] at hv; rw [hv]; exact ih
 | b z t w ih1 ih2 =>
  refine h _ fun v hv=>?_
  simp [T.kids] at hv
  rcases hv with e | e
  ·rw [e]; exact ih1
  ·rw [e]; exact ih2
theorem partsT_len:∀ t:T,(partsT t).length=t.sz
 | .l _=>rfl
 | .u _ t=>by simp [partsT,T.sz,partsT_len t]
 | .b _ t v=>by simp [partsT,T.sz,partsT_len t,partsT_len v]
theorem partsT_path:∀ (t:T),∀ p ∈ partsT t,p.1.length≤t.dep
 | .l _,p,hp=>by simp [partsT] at hp; subst hp; simp
 | .u _ t,p,hp=>by
  simp only [partsT,List.mem_cons,List.mem_map] at hp
  rcases hp with rfl | ⟨q,hq,rfl⟩
  ·simp
  ·exact Nat.succ_le_succ (partsT_path t q hq)
 | .b _ t v,p,hp=>by
  simp only [partsT,List.mem_cons,List.mem_append,List.mem_map] at hp
  rcases hp with rfl | ⟨q,hq,rfl⟩ | ⟨q,hq,rfl⟩
  ·simp
  ·exact Nat.succ_le_succ (Nat.le_trans (partsT_path t q hq) (Nat.le_max_left ..))
  ·exact Nat.succ_le_succ (Nat.le_trans (partsT_path v q hq) (Nat.le_max_right ..))
theorem small_of {α:Type} {l:List α} (h:l.length≤1000):small l=true:=decide_eq_true h
theorem small_kids (t:T):small (t.kids.map T.enc)=true:=small_of (by rw [List.length_map]; exact lw (kids_le t))
theorem c3_comp (n:Nat) (i:Int) (v:T) (hd:v.dep≤100) (σ:Sto):compL (lv fns clss (n+4)) [(7,.d (.int i))] (.tup [(.bin .Add (.tup [(.var 7)]) (.var 2)),(.var 1)]) (.tup [2,1]) none ((partsT v).map encP) σ=some ((partsT v).map (fun p=>encP (i::p.1,p.2)),σ):=by
 refine compL_map fun p hp=>⟨[(1,.d p.2.enc),(2,.d (.tup (p.1.map .int))),(7,.d (.int i))],rfl,?_⟩
 have hl:=partsT_path v p hp
 exact r_D (r_tup (r_dcons (r_D (r_bin (r_D (r_tup (r_dcons (r_D (r_var rfl)) r_dnil))) (r_D (r_var rfl)) (lim_of (small_of (by rw [List.length_append,List.length_map]; exact s1 (Nat.succ_le_succ (Nat.le_trans hl hd))))))) (r_dcons (r_D (r_var rfl)) r_dnil)))
theorem c3_turn {n:Nat} {σ:Sto} {ds:List D} {v:T} {i:Int} {env:Env'} (he:env.lookup 6=some (.loc σ.length)) (hd:v.dep≤100) (hz:v.sz≤200) (hs:ds.length+v.sz≤1000) (e1:(lv fns clss (n+5)).c 3 [.d v.enc] (σ++[.lst ds])=some (.lst ((partsT v).map encP),σ++[.lst ds])) :
  (lv fns clss (n+9)).s ((5,.d v.enc)::(7,.d (.int i))::env) (σ++[.lst ds]) [(.expr (.ext (.var 6) (.comp [7] (.tup [(.bin .Add (.tup [(.var 7)]) (.var 2)),(.var 1)]) (.tup [2,1]) (.call 3 [(.var 5)]) none)))] =
   some (.next,(5,.d v.enc)::(7,.d (.int i))::env,σ++[.lst (ds++(partsT v).map fun p=>encP (i::p.1,p.2))]) :=
 ss_next (s_expr (r_D (r_ext (r_var he) (gA0 σ _) (r_D (r_comp (r_D (r_call (r_cons (r_var rfl) r_nil) e1)) (lim_of (small_of (by rw [List.length_map,partsT_len]; exact Nat.le_trans hz (by decide)))) (c3_comp _ _ _ hd _))) (gA0 σ _) (small_of (by rw [List.length_append,List.length_map,partsT_len]; exact hs)) (sA0 σ _ _)))) ss_nil
theorem c3:∀ (t:T) (N:Nat) (σ:Sto),12 * t.dep+12≤N→t.sz≤100→t.dep≤100→okS σ→(lv fns clss N).c 3 [.d t.enc] σ=some (.lst ((partsT t).map encP),σ):=by
 have key:∀ (t:T) (n:Nat) (σ:Sto),t.sz≤100→t.dep≤100→okS σ→(∀ v ∈ t.kids,∀ k σ',okS σ'→(lv fns clss (n+k)).c 3 [.d v.enc] σ'=some (.lst ((partsT v).map encP),σ')) →
   (lv fns clss (n+12)).c 3 [.d t.enc] σ=some (.lst ((partsT t).map encP),σ):=by
  intro t n σ hz hd ho hk
  have hk':∀ v ∈ t.kids,∀ k ds,(lv fns clss (n+k)).c 3 [.d v.enc] (σ++[.lst ds])=some (.lst ((partsT v).map encP),σ++[.lst ds]):=fun v hv k ds=>hk v hv k _ (ho.app (okS.lst okS.nil))
  clear hk
  have loop:∃ env' , forL (lv fns clss (n+9)) (.tup [7,5]) [(.expr (.ext (.var 6) (.comp [7] (.tup [(.bin .Add (.tup [(.var 7)]) (.var 2)),(.var 1)]) (.tup [2,1]) (.call 3 [(.var 5)]) none)))] (((t.kids.map T.enc).zipIdx).map fun (p:D × Nat)=>D.tup [.int p.2,p.1]) [(6,.loc σ.length),(0,.d t.enc)] (σ++[.lst [.tup [.tup [],t.enc]]])=some (.next,env',σ++[.lst ((partsT t).map encP)])∧env'.lookup 6=some (.loc σ.length):=by
   induction t using T.casesOn with
   | l h=>exact ⟨_,rfl,rfl⟩
   | u h t =>
    have hz:t.sz+1≤100:=hz
    have hd:t.dep+1≤100:=hd
    refine ⟨[(5,.d t.enc),(7,.d (.int 0)),(6,.loc σ.length),(0,.d (T.u h t).enc)],(bindE rfl (bindE (c3_turn (i:=0) (env:=[(6,.loc σ.length),(0,.d (T.u h t).enc)]) rfl (lw0 hd) (lw (lw0 hz)) (s1 hz) (hk' t (.head _) _ _)) rfl)).trans ?_,rfl⟩
    show some (Fl.next,_,σ++[Cell.lst _])=some (Fl.next,_,σ++[Cell.lst _])
    simp [partsT,encP]
   | b h t v =>
    have hz:t.sz+v.sz+1≤100:=hz
    have hd:max t.dep v.dep+1≤100:=hd
    refine ⟨[(5,.d v.enc),(7,.d (.int 1)),(5,.d t.enc),(7,.d (.int 0)),(6,.loc σ.length),(0,.d (T.b h t v).enc)],(bindE rfl (bindE (c3_turn (i:=0) (env:=[(6,.loc σ.length),(0,.d (T.b h t v).enc)]) rfl (Nat.le_trans (Nat.le_max_left ..) (lw0 hd)) (lw (adL (lw0 hz))) (s1 (Nat.le_trans (Nat.succ_le_succ (Nat.le_add_right ..)) hz)) (hk' t (.head _) _ _)) (bindE rfl (bindE (c3_turn (i:=1) (env:=[(5,.d t.enc),(7,.d (.int 0)),(6,.loc σ.length),(0,.d (T.b h t v).enc)]) rfl (Nat.le_trans (Nat.le_max_right ..) (lw0 hd)) (lw (adR (lw0 hz))) (by rw [List.length_append,List.length_map,partsT_len,Nat.add_assoc]; exact s1 hz) (hk' v (.tail _ (.head _)) _ _)) rfl)))).trans ?_,rfl⟩
    show some (Fl.next,_,σ++[Cell.lst _])=some (Fl.next,_,σ++[Cell.lst _])
    simp [partsT,encP]
    rfl
  obtain ⟨env',h1,h2⟩:=loop
  rw [lvC]
  refine evC_mk (g:=f_parts) (τ:=[.gone]) (fl:=.ret (.lst ((partsT t).map encP))) (env':=env') rfl rfl ?_ ho
  exact ss_next (s_asg (r_newL (r_dcons (r_D (r_tup (r_dcons (r_D (r_tup r_dnil)) (r_dcons (r_D (r_var rfl)) r_dnil)))) r_dnil))) (ss_next (bindE (r_D (r_cut (r_D (r_var rfl)) (cut_enc t))) (bindE (lim_of (small_kids t)) h1)) (ss_ret (s_ret (r_D (r_frz h2 (by unfold freeze; rw [gA0]; rfl) (sA0 σ _ _))))))
 intro t
 induction t using T.rec' with
 | h t ih =>
  intro N σ hN hz hd ho
  obtain ⟨n,rfl⟩:=ex_add hN
  exact key t _ _ hz hd ho fun v hv k σ' ho'=>ih v hv _ _ (dk hN (kids_dep hv).1 (Nat.le_add_right n k)) (Nat.le_trans (Nat.le_of_lt (kids_dep hv).2) hz) (Nat.le_trans (Nat.le_of_lt (kids_dep hv).1) hd) ho'
noncomputable def T.occ (v:H):T→Bool
 | .l h=>h == v | .u _ t=>t.occ v | .b _ t w=>t.occ v || w.occ v
noncomputable def varH (t:T):List H:=[H.x,H.y].filter (t.occ ·)
noncomputable def varS (t:T):List Str:=((partsT t).filter (·.2.isV)).map (·.2.hd.str)
noncomputable def pats:List T:=[.l .a,.u .f (.l .b),.u .f (.l .x),.b .g (.l .x) (.l .x),.b .g (.l .x) (.l .y),.b .g (.l .y) (.l .x),.u .f (.u .f (.l .x)),.l .x,.b .g (.l .a) (.l .x),.b .g (.u .f (.l .x)) (.l .y),.u .f (.b .g (.l .x) (.l .y)),.u .f (.l .a),.b .g (.l .a) (.l .b),.l .b]
theorem pats_vars:∀ p ∈ pats,(sortStrs (dedup (varS p))=(varH p).map H.str∧(varS p).length < 60∧(dedup (varS p)).length < 3)∧p.sz≤100∧p.dep≤3:=by decide +kernel
theorem strsOf_strs:∀ (xs:List Str),strsOf (xs.map D.str)=some xs
 | []=>rfl
 | x::xs=>mapE (strsOf_strs xs)
theorem sortSet_strs {ds:List D} {xs ys:List Str} (h:ds=xs.map D.str) (e:sortStrs (dedup xs)=ys) (h1:xs.length < 60) (h2:(dedup xs).length < 3):biD .sortSet (.lst ds)=some (.lst (ys.map .str)):=by
 subst h; subst e
 exact bindE (strsOf_strs xs) (lim_of (Bool.and_eq_true_iff.mpr ⟨decide_eq_true h1,decide_eq_true h2⟩))
theorem c1 {p:T} (hp:p ∈ pats) (n:Nat) (σ:Sto) (ho:okS σ):(lv fns clss (n+70)).c 1 [.d p.enc] σ=some (.lst ((varH p).map fun h=>D.str h.str),σ):=by
 obtain ⟨⟨h1,h2,h3⟩,hz,hd⟩:=pats_vars p hp
 rw [lvC]
 refine evC_mk0 (f:=1) (σ:=σ) (vs:=[.d p.enc]) (g:=f_variables) (fl:=.ret (.lst ((varH p).map fun h=>D.str h.str))) (env:=[(0,.d p.enc)]) rfl rfl ?_ ho
 have e:((varH p).map H.str).map D.str=(varH p).map fun h=>D.str h.str:=by rw [List.map_map]; rfl
 exact ss_ret (s_ret (r_D (r_bi (b:=.sortSet) (by decide) (r_D (r_comp (r_D (r_call (r_cons (r_var rfl) r_nil) (c3 p _ σ (dpw hd) hz (lw hd) ho))) (lim_of (small_of (by rw [List.length_map,partsT_len]; exact lw hz)))
  (compL_filter (p:=fun q=>q.2.isV) (f:=fun q=>D.str q.2.hd.str) fun q hq=>⟨[(1,.d q.2.enc),(2,.d (.tup (q.1.map .int)))],rfl,r_test (r_call (r_cons (r_var rfl) r_nil) (c0 (n+57) q.2 σ ho)),fun _=>r_D (r_idx (r_var rfl) (r_D r_int) (idx_enc _))⟩)))
  (e ▸ sortSet_strs (by simp [varS]) h1 h2 h3))))
noncomputable def lpartsT:T→List T
 | .l h=>[.l h] | .u h t=>.u h t::lpartsT t | .b h t v=>.b h t v::(lpartsT t++lpartsT v)
theorem lpartsT_len:∀ t:T,(lpartsT t).length=t.sz
 | .l _=>rfl
 | .u _ t=>by simp [lpartsT,T.sz,lpartsT_len t]
 | .b _ t v=>by simp [lpartsT,T.sz,lpartsT_len t,lpartsT_len v]
theorem lpartsT_eq (t:T):lpartsT t=t::t.kids.flatMap lpartsT:=by cases t <;> simp [lpartsT,T.kids]
theorem c11:∀ (t:T) (N:Nat) (σ:Sto),12 * t.dep+12≤N→t.sz≤100→okS σ→(lv fns clss N).c 11 [.d t.enc] σ=some (.lst ((lpartsT t).map T.enc),σ):=by
 intro t
 induction t using T.rec' with
 | h t ih =>
  intro N σ hN hz ho
  obtain ⟨n,rfl⟩:=ex_add hN
  rw [lvC]
  refine evC_mk0 (g:=f_law_parts) (fl:=.ret (.lst ((lpartsT t).map T.enc))) (env:=[(0,.d t.enc)]) rfl rfl ?_ ho
  have hl:=lpartsT_len t
  rw [lpartsT_eq,List.length_cons,List.length_flatMap] at hl
  have hs:(t.kids.flatMap fun v=>(lpartsT v).map T.enc).length+1≤1000:=by rw [List.length_flatMap]; simp only [List.length_map]; exact Nat.le_trans (Nat.le_of_eq hl) (lw hz)
  have e:[t.enc]++(t.kids.flatMap fun v=>(lpartsT v).map T.enc)=(lpartsT t).map T.enc:=by rw [lpartsT_eq t,List.map_cons,List.map_flatMap]; rfl
  exact ss_ret (s_ret (r_D (r_bin (r_D (r_lst (r_dcons (r_D (r_var rfl)) r_dnil))) (r_D (r_comp2 (r_D (r_cut (r_D (r_var rfl)) (cut_enc t))) (lim_of (small_kids t))
   (compL2_map (f:=fun v=>(lpartsT v).map T.enc) fun v hv=>⟨[(5,.d v.enc)],.lst ((lpartsT v).map T.enc),(lpartsT v).map T.enc,rfl,r_D (r_call (r_cons (r_var rfl) r_nil) (ih v hv _ _ (dk hN (kids_dep hv).1 (Nat.le_add_right n 7)) (Nat.le_trans (Nat.le_of_lt (kids_dep hv).2) hz) ho)),
    lim_of (small_of (by rw [List.length_map,lpartsT_len]; exact lw (Nat.le_trans (Nat.le_of_lt (kids_dep hv).2) hz))),compL_map (f:=T.enc) fun q hq=>⟨[(1,.d q.enc),(5,.d v.enc)],rfl,r_D (r_var rfl)⟩⟩) (small_of (lw0 hs)))) ((lim_of (small_of (by rw [List.length_append]; exact s1 hs))).trans (by rw [e])))))
noncomputable def lvarS (t:T):List Str:=((lpartsT t).filter (·.hd.isV)).map (·.hd.str)
theorem pats_lvars:∀ p ∈ pats,(sortStrs (dedup (lvarS p))=(varH p).map H.str∧(lvarS p).length < 60∧(dedup (lvarS p)).length < 3):=by decide +kernel
theorem idx_q1 (h:H):∃ c,idxD (.str h.str) (.int 0)=some (.str c)∧eqD (.str c) (.str (sx "?"))=some h.isV:=by
 cases h <;> exact ⟨_,rfl,by decide +kernel⟩
theorem c12 {p:T} (hp:p ∈ pats) (n:Nat) (σ:Sto) (ho:okS σ):(lv fns clss (n+70)).c 12 [.d p.enc] σ=some (.lst ((varH p).map fun h=>D.str h.str),σ):=by
 obtain ⟨_,hz,hd⟩:=pats_vars p hp
 obtain ⟨h1,h2,h3⟩:=pats_lvars p hp
 rw [lvC]
 refine evC_mk0 (f:=12) (σ:=σ) (vs:=[.d p.enc]) (g:=f_law_names) (fl:=.ret (.lst ((varH p).map fun h=>D.str h.str))) (env:=[(16,.d p.enc)]) rfl rfl ?_ ho
 have e:((varH p).map H.str).map D.str=(varH p).map fun h=>D.str h.str:=by rw [List.map_map]; rfl
 exact ss_ret (s_ret (r_D (r_bi (b:=.sortSet) (by decide) (r_D (r_comp (r_D (r_call (r_cons (r_var rfl) r_nil) (c11 p _ σ (dpw hd) hz ho))) (lim_of (small_of (by rw [List.length_map,lpartsT_len]; exact lw hz)))
  (compL_filter (p:=fun (q:T)=>q.hd.isV) (f:=fun (q:T)=>D.str q.hd.str) fun q hq=>⟨[(1,.d q.enc)],rfl,by obtain ⟨c,z1,z2⟩:=idx_q1 q.hd; exact r_test (r_cmp (r_D (r_idx (r_idx (r_var rfl) (r_D r_int) (idx_enc _)) (r_D r_int) z1)) (r_D r_str) z2),fun _=>r_D (r_idx (r_var rfl) (r_D r_int) (idx_enc _))⟩)))
  (e ▸ sortSet_strs (by simp [lvarS]) h1 h2 h3))))
noncomputable abbrev Tab:=List (H × T)
noncomputable def tk (τ:Tab):List Str:=τ.map fun q=>q.1.str
noncomputable def td (τ:Tab):List D:=τ.map fun q=>q.2.enc
noncomputable def encTab (τ:Tab):D:=.dct (tk τ) (td τ)
theorem look_tab (h:H):∀ τ:Tab,look h.str (tk τ) (td τ)=(τ.lookup h).map T.enc
 | []=>rfl
 | q::τ=>by
  have ih:=look_tab h τ
  show (if h.str=q.1.str then some q.2.enc else look h.str (tk τ) (td τ))=_
  rw [ih,List.lookup_cons]
  simp only [H.str_eq]
  by_cases e:h=q.1
  ·rw [if_pos e,e]; simp
  ·rw [if_neg e,beq_false_of_ne e]
theorem has_tab (h:H):∀ τ:Tab,(tk τ).contains h.str=(τ.lookup h).isSome
 | []=>rfl
 | q::τ=>by
  have ih:=has_tab h τ
  show (q.1.str::tk τ).contains h.str=_
  rw [List.contains_cons,ih,List.lookup_cons]
  by_cases e:h=q.1
  ·subst e; simp
  ·rw [beq_false_of_ne e,beq_false_of_ne (fun z=>e (H.str_inj z))]; rfl
theorem put_tab (h:H) (v:T):∀ τ:Tab,τ.lookup h=none→put h.str v.enc (tk τ) (td τ)=(tk (τ++[(h,v)]),td (τ++[(h,v)]))
 | [],_=>rfl
 | q::τ,hn=>by
  rw [List.lookup_cons] at hn
  by_cases e:h=q.1
  ·subst e; simp at hn
  ·rw [beq_false_of_ne e] at hn
   have ih:=put_tab h v τ hn
   show (if h.str=q.1.str then _ else _)=_
   rw [if_neg (fun z=>e (H.str_inj z))]
   show (_::(put h.str v.enc (tk τ) (td τ)).1,_::(put h.str v.enc (tk τ) (td τ)).2)=_
   rw [ih]; rfl
theorem idx_tab (h:H) (τ:Tab):idxD (.dct (tk τ) (td τ)) (.str h.str)=(τ.lookup h).map T.enc:=look_tab h τ
noncomputable def plT (τ:Tab):T→T
 | .l h=>if h.isV then (τ.lookup h).getD (.l h) else .l h
 | .u h t=>.u h (plT τ t)
 | .b h t v=>.b h (plT τ t) (plT τ v)
theorem plT_enc (τ:Tab) (t:T) (h:t.isV=false):(plT τ t).enc=.tup (.str t.hd.str::t.kids.map fun v=>(plT τ v).enc):=by
 cases t with
 | l h'=>simp [T.isV] at h; simp [plT,h,T.enc,T.hd,T.kids]
 | u h' t=>simp [plT,T.enc,T.hd,T.kids]
 | b h' t v=>simp [plT,T.enc,T.hd,T.kids]
theorem occ_kids {t v:T} (h:v ∈ t.kids) {z:H} (o:v.occ z=true):t.occ z=true:=by
 cases t <;> simp [T.kids] at h
 ·subst h; exact o
 ·rcases h with rfl | rfl <;> simp [T.occ,o]
theorem isV_l {t:T} (h:t.isV=true):t=.l t.hd∧t.hd.isV=true:=by
 cases t <;> simp [T.isV] at h
 exact ⟨rfl,h⟩
theorem caps1 {env:Env'} {j:Nat} {u:V} (h:env.lookup j=some u):caps [j] env=[(j,u)]:=by
 unfold caps; rw [List.filterMap_cons,h]; rfl
theorem add_tup1 {x:D} {l:List D} (h:l.length≤900):binD .Add (.tup [x]) (.tup l)=some (.tup (x::l)):=lim_of (small_of (lw (Nat.succ_le_succ h)))
theorem kids9 (t:T) (g:T→D):(t.kids.map g).length≤900:=by rw [List.length_map]; exact Nat.le_trans (kids_le t) (by decide)
theorem fill_comp {q f i j:Nat} {env:Env'} {σ:Sto} {t:T} {u:V} {g:T→D} (h1:env.lookup i=some (.d t.enc)) (h2:env.lookup j=some u) (hj5:j ≠ 5) (hc:∀ v ∈ t.kids,(lv fns clss (q+1)).c f [.d v.enc,u] σ=some (g v,σ)) :
  (lv fns clss (q+4)).e env σ (.bi .tuple (.comp [j] (.call f [(.var 5),(.var j)]) (.one 5) (.cut (.var i) (some 1) none) none))=some (.d (.tup (t.kids.map g)),σ):=by
 have hl:∀ v:T,((5,V.d v.enc)::[(j,u)]:Env').lookup j=some u:=fun v=>by rw [List.lookup_cons,beq_false_of_ne hj5,List.lookup_cons]; simp
 exact r_bi (b:=.tuple) (by decide) (r_D (r_comp (r_D (r_cut (r_D (r_var h1)) (cut_enc t))) (lim_of (small_kids t))
  (compL_map (f:=g) fun v hv=>⟨(5,.d v.enc)::[(j,u)],by rw [caps1 h2]; rfl,r_D (r_call (r_cons (r_var rfl) (r_cons (r_var (hl v)) r_nil)) (hc v hv))⟩))) (lim_of (small_of (Nat.le_trans (kids9 t g) (by decide))))
theorem c2 {τ:Tab}:∀ (t:T) (N:Nat) (σ:Sto),16 * t.dep+16≤N→(∀ z,t.occ z=true→z.isV=true→(τ.lookup z).isSome=true)→okS σ→(lv fns clss N).c 2 [.d t.enc,.d (encTab τ)] σ=some ((plT τ t).enc,σ):=by
 intro t
 induction t using T.rec' with
 | h t ih =>
  intro N σ hN ht ho
  obtain ⟨n,rfl⟩:=ex_add hN
  rw [lvC]
  refine evC_mk0 (f:=2) (σ:=σ) (vs:=[.d t.enc,.d (encTab τ)]) (g:=f_placed) (fl:=.ret (plT τ t).enc) (env:=[(4,.d (encTab τ)),(3,.d t.enc)]) rfl rfl ?_ ho
  have hq:∀ {m},(lv fns clss (m+12)).e [(4,.d (encTab τ)),(3,.d t.enc)] σ (.call 0 [(.var 3)])=some (.d (.bool t.isV),σ):=fun {m}=>r_call (r_cons (r_var rfl) r_nil) (c0 (m+3) t σ ho)
  have hx:∀ {m},(lv fns clss (m+3)).e [(4,.d (encTab τ)),(3,.d t.enc)] σ (.idx (.var 3) (.int 0))=some (.d (.str t.hd.str),σ):=r_idx (r_var rfl) (r_D r_int) (idx_enc t)
  cases hv:t.isV with
  | true =>
   rw [hv] at hq
   obtain ⟨e,hv'⟩:=isV_l hv
   have hs:=ht t.hd (by rw [e]; simp [T.occ,T.hd]) hv'
   obtain ⟨u,hu⟩:=Option.isSome_iff_exists.mp hs
   have hpl:plT τ t=u:=by rw [e]; simp only [plT,hv',if_true,hu,Option.getD_some]
   exact ss_next (s_ifF (r_test (r_not hq)) ss_nil) (ss_next (s_ifF (r_test (r_cmp (r_D hx) (r_D (r_var rfl)) (show some (!(tk τ).contains t.hd.str)=_ by rw [has_tab,hs]; rfl))) ss_nil)
    (ss_ret (s_ret (r_D (r_idx (r_var rfl) (r_D hx) ((idx_tab t.hd τ).trans (by rw [hu,hpl]; rfl)))))))
  | false =>
   rw [hv] at hq
   exact ss_ret (s_ifT (r_test (r_not hq)) (ss_ret (s_ret (r_D (r_bin (r_D (r_tup (r_dcons (r_D hx) r_dnil))) (r_D (fill_comp (q:=n+8) (i:=3) (j:=4) (g:=fun v=>(plT τ v).enc) rfl rfl (by decide) fun v hv=>ih v hv _ _ (dk hN (kids_dep hv).1 (Nat.le_add_right n 9)) (fun z q1 q2=>ht z (occ_kids hv q1) q2) ho))
    ((add_tup1 (kids9 t _)).trans (by rw [plT_enc τ t hv])))))))
noncomputable def T.good:T→Bool
 | .l _=>true | .u h t=>!h.isV && t.good | .b h t v=>!h.isV && t.good && v.good
theorem good_kids {t v:T} (g:t.good=true) (h:v ∈ t.kids):v.good=true:=by
 cases t <;> simp [T.kids] at h <;> simp [T.good] at g
 ·subst h; exact g.2
 ·rcases h with rfl | rfl
  ·exact g.1.2
  ·exact g.2
theorem c13 {τ:Tab} (hτ:∀ z,(τ.lookup z).isSome=true→z.isV=true):∀ (t:T) (N:Nat) (σ:Sto),16 * t.dep+16≤N→t.good=true→okS σ→(lv fns clss N).c 13 [.d t.enc,.d (encTab τ)] σ=some ((plT τ t).enc,σ):=by
 intro t
 induction t using T.rec' with
 | h t ih =>
  intro N σ hN ht ho
  obtain ⟨n,rfl⟩:=ex_add hN
  rw [lvC]
  refine evC_mk0 (f:=13) (σ:=σ) (vs:=[.d t.enc,.d (encTab τ)]) (g:=f_law_filled) (fl:=.ret (plT τ t).enc) (env:=[(4,.d (encTab τ)),(16,.d t.enc)]) rfl rfl ?_ ho
  have hx:∀ {m},(lv fns clss (m+3)).e [(4,.d (encTab τ)),(16,.d t.enc)] σ (.idx (.var 16) (.int 0))=some (.d (.str t.hd.str),σ):=r_idx (r_var rfl) (r_D r_int) (idx_enc t)
  have hin:∀ {m},test (lv fns clss (m+5)) [(4,.d (encTab τ)),(16,.d t.enc)] σ (.cmp .In (.idx (.var 16) (.int 0)) (.var 4))=some ((τ.lookup t.hd).isSome,σ):=fun {m}=>r_test (r_cmp (r_D hx) (r_D (r_var rfl)) (show some ((tk τ).contains t.hd.str)=_ by rw [has_tab]))
  cases hs:τ.lookup t.hd with
  | some u =>
   rw [hs] at hin
   have hv:=hτ t.hd (by rw [hs]; rfl)
   have e:t=.l t.hd:=by cases t <;> simp [T.good,T.hd] at ht hv ⊢ <;> simp_all
   have hpl:plT τ t=u:=by rw [e]; simp only [plT,hv,if_true,hs,Option.getD_some]
   exact ss_ret (s_ret (r_D (r_ifeT hin (r_idx (r_var rfl) (r_D hx) ((idx_tab t.hd τ).trans (by rw [hs,hpl]; rfl))))))
  | none =>
   rw [hs] at hin
   have hen:(plT τ t).enc=.tup (.str t.hd.str::t.kids.map fun v=>(plT τ v).enc):=by
    cases hv:t.isV with
    | false=>exact plT_enc τ t hv
    | true =>
     obtain ⟨e,hv'⟩:=isV_l hv
     rw [e]
     simp only [plT,hv',if_true,hs,Option.getD_none]
     simp [T.enc,T.hd,T.kids]
   exact ss_ret (s_ret (r_D (r_ifeF hin (r_bin (r_D (r_cut (r_D (r_var rfl)) (cut0_enc t))) (r_D (fill_comp (q:=n+8) (i:=16) (j:=4) (g:=fun v=>(plT τ v).enc) rfl rfl (by decide) fun v hv=>ih v hv _ _ (dk hN (kids_dep hv).1 (Nat.le_add_right n 9)) (good_kids ht hv) ho))
    ((add_tup1 (kids9 t _)).trans (by rw [hen]))))))
section
variable {l:Lv}
theorem st_next {env env1:Env'} {σ σ1:Sto} {s:S} {ss:List S} {r:Option (Fl × Env' × Sto)} (h:evS1 l env σ s=some (.next,env1,σ1)) (h2:l.s env1 σ1 ss=r):evSs l env σ (s::ss)=r:=by
 simp only [evSs,h,Option.bind_some,h2]
theorem st_ret {env env1:Env'} {σ σ1:Sto} {s:S} {ss:List S} {d:D} (h:evS1 l env σ s=some (.ret d,env1,σ1)):evSs l env σ (s::ss)=some (.ret d,env1,σ1):=by
 simp only [evSs,h,Option.bind_some]
theorem st_ite {env:Env'} {σ σ1:Sto} {t:X} {a b:List S} {c:Bool} {r:Option (Fl × Env' × Sto)} (h:test l env σ t=some (c,σ1)) (h2:l.s env σ1 (if c then a else b)=r):evS1 l env σ (.ife t a b)=r:=by
 simp only [evS1,h,Option.bind_some]
 cases c <;> exact h2
end
noncomputable def mloop:Nat→Tab→List (T × T)→Option (Option Tab)
 | 0,_,_=>none
 | _+1,τ,[]=>some (some τ)
 | k+1,τ,q::W=>if q.1.isV then (match τ.lookup q.1.hd with
   | none=>mloop k (τ++[(q.1.hd,q.2)]) W
   | some u=>if u=q.2 then mloop k τ W else some none)
  else if q.1.hd ≠ q.2.hd ∨ q.1.kids.length ≠ q.2.kids.length then some none else mloop k τ ((q.1.kids.zip q.2.kids).reverse++W)
noncomputable def encQ (q:T × T):D:=.tup [q.1.enc,q.2.enc]
noncomputable def mBody:List S:=[(.asgT [9,10] (.pop (.var 8))),
  (.ife (.call 0 [(.var 9)]) [(.ife (.cmp .NotEq (.setdef (.var 4) (.idx (.var 9) (.int 0)) (.var 10)) (.var 10)) [(.ret .none)] [])] [(.ife (.orE (.cmp .NotEq (.idx (.var 9) (.int 0)) (.idx (.var 10) (.int 0))) (.cmp .NotEq (.bi .len (.var 9)) (.bi .len (.var 10)))) [(.ret .none)] [(.expr (.extZip (.var 8) (.cut (.var 9) (some 1) none) (.cut (.var 10) (some 1) none)))])])]
noncomputable def mFl:Option Tab→Fl
 | some _=>.next | none=>.ret .none
theorem lookup_mem' {τ:Tab} {h:H} {u:T} (e:τ.lookup h=some u):∃ q ∈ τ,q.2=u:=by
 induction τ with
 | nil=>cases e
 | cons q τ ih =>
  rw [List.lookup_cons] at e
  by_cases z:h=q.1
  ·subst z; simp at e; exact ⟨q,.head _,e⟩
  ·rw [beq_false_of_ne z] at e
   obtain ⟨q',h1,h2⟩:=ih e
   exact ⟨q',.tail _ h1,h2⟩
theorem tk_len (τ:Tab):(tk τ).length=τ.length:=List.length_map ..
theorem zip_enc {p t:T}:(p.kids.map T.enc).zip (t.kids.map T.enc)=(p.kids.zip t.kids).map fun q=>(q.1.enc,q.2.enc):=by
 rw [List.zip_map]; rfl
theorem hd0 {n i:Nat} {env:Env'} {σ:Sto} {t:T} (h:env.lookup i=some (.d t.enc)):(lv fns clss (n+2)).e env σ (.idx (.var i) (.int 0))=some (.d (.str t.hd.str),σ):=r_idx (r_var h) (r_D r_int) (idx_enc t)
theorem lenT0 {n i:Nat} {env:Env'} {σ:Sto} {t:T} (h:env.lookup i=some (.d t.enc)):(lv fns clss (n+2)).e env σ (.bi .len (.var i))=some (.d (.int ((t.kids.length:Int)+1)),σ):=r_len (r_var h) (len_enc t _)
theorem cut1r {n i:Nat} {env:Env'} {σ:Sto} {t:T} (h:env.lookup i=some (.d t.enc)):(lv fns clss (n+2)).e env σ (.cut (.var i) (some 1) none)=some (.d (.tup (t.kids.map T.enc)),σ):=r_cut (r_D (r_var h)) (cut_enc t)
theorem ne_of {x y:D} {b:Bool} (h:eqD x y=some b):cmpD .NotEq x y=some (!b):=mapE h
theorem len_cell {σ:Sto} {k:Nat} {L:List D} (h:σ[k]?=some (.lst L)) (hL:L.length≤1000):lenV (.loc k) σ=some (L.length:Int):=by
 show (match σ[k]? with | some (.lst ds)=>lim (small ds) (ds.length:Int) | _=>none)=_
 rw [h]; exact lim_of (small_of hL)
theorem mt_test (n:Nat) (σ τ':Sto) (ks:List Str) (ds L:List D) (env:Env') (h8:env.lookup 8=some (.loc (σ.length+1))) (hL:L.length≤1000):test (lv fns clss (n+20)) env (σ++[.dct ks ds,.lst L]) (.cmp .Gt (.bi .len (.var 8)) (.int 0))=some (decide ((L.length:Int) > 0),σ++[.dct ks ds,.lst L]) :=
 r_test (r_cmp (r_D (r_len (r_var h8) (len_cell (gA σ _ 1) hL))) (r_D r_int) rfl)
theorem mt_pop (n:Nat) (σ:Sto) (ks:List Str) (ds L L':List D) (x y:D) (env:Env') (h8:env.lookup 8=some (.loc (σ.length+1))) (hL:L.length≤1000) (h1:L.getLast?=some (.tup [x,y])) (h2:L.dropLast=L') :
  evS1 (lv fns clss (n+19)) env (σ++[.dct ks ds,.lst L]) (.asgT [9,10] (.pop (.var 8)))=some (.next,(10,.d y)::(9,.d x)::env,σ++[.dct ks ds,.lst L']) :=
 s_asgT (r_D (r_pop (r_var h8) (gA σ _ 1) h1 (small_of hL) (by rw [h2]; exact sA σ _ 1 _))) rfl
theorem mt_isv (n:Nat) (σ:Sto) (ks:List Str) (ds L:List D) (p:T) (y:D) (env:Env') (ho:okS σ):test (lv fns clss (n+18)) ((10,.d y)::(9,.d p.enc)::env) (σ++[.dct ks ds,.lst L]) (.call 0 [(.var 9)])=some (p.isV,σ++[.dct ks ds,.lst L]) :=
 r_test (r_call (r_cons (r_var rfl) r_nil) (c0 (n+9) p _ (by simp only [okS_app,okS_dct,okS_lst,okS_nil,ho,and_self])))
section
variable {n:Nat} {σ:Sto} {τ:Tab} {L:List D} {p t u:T} {env:Env'}
theorem mt_varN (hs:τ.lookup p.hd=none) (h4:env.lookup 4=some (.loc σ.length)) (hl:τ.length < 900) (ht:t.dep < 50) :
  test (lv fns clss (n+10)) ((10,.d t.enc)::(9,.d p.enc)::env) (σ++[.dct (tk τ) (td τ),.lst L]) (.cmp .NotEq (.setdef (.var 4) (.idx (.var 9) (.int 0)) (.var 10)) (.var 10))=some (false,σ++[.dct (tk (τ++[(p.hd,t)])) (td (τ++[(p.hd,t)])),.lst L]) :=
 r_test (r_cmp (r_D (r_setdefN (r_var h4) (gA0 σ _) (r_D (hd0 rfl)) (r_D (r_var rfl)) (gA0 σ _) ((look_tab _ _).trans (by rw [hs]; rfl)) (by rw [tk_len]; exact hl) (by rw [put_tab _ _ _ hs]; exact sA0 σ _ _))) (r_D (r_var rfl)) ((ne_of (eqD_enc ht ht)).trans (by rw [decide_eq_true rfl]; rfl)))
theorem mt_varS (hs:τ.lookup p.hd=some u) (h4:env.lookup 4=some (.loc σ.length)) (hl:τ.length < 900) (hu:u.dep < 50) (ht:t.dep < 50) :
  test (lv fns clss (n+10)) ((10,.d t.enc)::(9,.d p.enc)::env) (σ++[.dct (tk τ) (td τ),.lst L]) (.cmp .NotEq (.setdef (.var 4) (.idx (.var 9) (.int 0)) (.var 10)) (.var 10))=some (!decide (u=t),σ++[.dct (tk τ) (td τ),.lst L]) :=
 r_test (r_cmp (r_D (r_setdefS (r_var h4) (gA0 σ _) (r_D (hd0 rfl)) (r_D (r_var rfl)) (gA0 σ _) ((look_tab _ _).trans (by rw [hs]; rfl)) (by rw [tk_len]; exact hl))) (r_D (r_var rfl)) (ne_of (eqD_enc hu ht)))
end
theorem kid_eq {a b:Nat}:decide ((a:Int)+1=(b:Int)+1)=decide (a=b):=by
 rw [decide_eq_decide]; exact ⟨fun h=>Int.ofNat.inj ((Int.add_left_inj 1).mp h),fun h=>by rw [h]⟩
theorem mt_ne (n:Nat) (σ:Sto) (p t:T) (env:Env'):test (lv fns clss (n+10)) ((10,.d t.enc)::(9,.d p.enc)::env) σ (.orE (.cmp .NotEq (.idx (.var 9) (.int 0)) (.idx (.var 10) (.int 0))) (.cmp .NotEq (.bi .len (.var 9)) (.bi .len (.var 10))))=some (!decide (p.hd=t.hd) || !decide (p.kids.length=t.kids.length),σ) :=
 r_test (r_or (r_cmp (r_D (hd0 rfl)) (r_D (hd0 rfl)) (ne_of (eqD_hd _ _))) (r_cmp (r_D (lenT0 rfl)) (r_D (lenT0 rfl)) (ne_of ((eqD_int _ _).trans (by rw [kid_eq])))))
theorem mt_ext (n:Nat) (σ:Sto) (ks:List Str) (ds L:List D) (p t:T) (env:Env') (h8:env.lookup 8=some (.loc (σ.length+1))) (hL:L.length≤900) (he:p.kids.length=t.kids.length) :
  evS1 (lv fns clss (n+10)) ((10,.d t.enc)::(9,.d p.enc)::env) (σ++[.dct ks ds,.lst L]) (.expr (.extZip (.var 8) (.cut (.var 9) (some 1) none) (.cut (.var 10) (some 1) none)))=some (.next,(10,.d t.enc)::(9,.d p.enc)::env,σ++[.dct ks ds,.lst (L++(p.kids.zip t.kids).map encQ)]) :=
 s_expr (r_D (r_extZip (r_var h8) (gA σ _ 1) (r_D (cut1r rfl)) (r_D (cut1r rfl)) (gA σ _ 1) (Bool.and_eq_true_iff.mpr ⟨small_of (by rw [List.length_append,List.length_map]; exact lw (Nat.add_le_add hL (kids_le p))),decide_eq_true (by rw [List.length_map,List.length_map,he])⟩) (by rw [zip_enc,List.map_map]; exact sA σ _ 1 _)))
noncomputable def mIf:S:=(.ife (.call 0 [(.var 9)]) [(.ife (.cmp .NotEq (.setdef (.var 4) (.idx (.var 9) (.int 0)) (.var 10)) (.var 10)) [(.ret .none)] [])] [(.ife (.orE (.cmp .NotEq (.idx (.var 9) (.int 0)) (.idx (.var 10) (.int 0))) (.cmp .NotEq (.bi .len (.var 9)) (.bi .len (.var 10)))) [(.ret .none)] [(.expr (.extZip (.var 8) (.cut (.var 9) (some 1) none) (.cut (.var 10) (some 1) none)))])])
theorem st_nil (n:Nat) (env:Env') (σ:Sto):(lv fns clss (n+1)).s env σ []=some (.next,env,σ):=rfl
theorem ps_one {n:Nat} {env env1:Env'} {σ σ1:Sto} {s:S} {fl:Fl} (h:evS1 (lv fns clss (n+1)) env σ s=some (fl,env1,σ1)):(lv fns clss (n+2)).s env σ [s]=some (fl,env1,σ1):=by
 rw [lvSt]
 cases fl with
 | next=>exact st_next h (st_nil _ _ _)
 | ret v=>exact st_ret h
theorem st_iteT {l:Lv} {env:Env'} {σ σ1:Sto} {t:X} {a b:List S} {r:Option (Fl × Env' × Sto)} (h:test l env σ t=some (true,σ1)) (h2:l.s env σ1 a=r):evS1 l env σ (.ife t a b)=r:=st_ite h h2
theorem st_iteF {l:Lv} {env:Env'} {σ σ1:Sto} {t:X} {a b:List S} {r:Option (Fl × Env' × Sto)} (h:test l env σ t=some (false,σ1)) (h2:l.s env σ1 b=r):evS1 l env σ (.ife t a b)=r:=st_ite h h2
noncomputable def ML (n:Nat) (σ:Sto) (r:Option Tab) (k:Nat) (τ:Tab) (W:List (T × T)) (env:Env'):Prop :=
 ∃ env' σ2,whileL (lv fns clss (n+20)) (.cmp .Gt (.bi .len (.var 8)) (.int 0)) mBody k env (σ++[.dct (tk τ) (td τ),.lst (W.reverse.map encQ)])=some (mFl r,env',σ++σ2)∧(∀ τ',r=some τ'→env'.lookup 4=some (.loc σ.length)∧σ2=[.dct (tk τ') (td τ'),.lst []])
noncomputable def MI (k:Nat) (τ:Tab) (W:List (T × T)):Prop:=(∀ q ∈ W,q.2.dep < 50)∧(∀ q ∈ τ,q.2.dep < 50)∧W.length+2 * k≤900∧τ.length+k≤800
theorem MI.w2 {a m k:Nat} (h:a+1+2 * (k+1)≤900) (hm:m≤2):m+a+2 * k≤900:=by
 rw [Nat.mul_succ,Nat.add_right_comm,← Nat.add_assoc] at h
 rw [Nat.add_assoc,Nat.add_comm]
 exact Nat.le_trans (Nat.add_le_add_left hm _) (lw0 h)
theorem MI.w {a k:Nat} (h:a+1+2 * (k+1)≤900):a+2 * k≤900:=adR (Nat.add_assoc .. ▸ MI.w2 h (Nat.le_refl 2))
theorem MI.tail {k:Nat} {τ:Tab} {q:T × T} {W:List (T × T)}:MI (k+1) τ (q::W)→MI k τ W:=fun ⟨a,b,c,d⟩=>⟨fun q h=>a q (.tail _ h),b,MI.w c,lw0 d⟩
theorem MI.add {k:Nat} {τ:Tab} {q:T × T} {W:List (T × T)} {z:H}:MI (k+1) τ (q::W)→MI k (τ++[(z,q.2)]) W:=fun ⟨a,b,c,d⟩=>⟨fun q h=>a q (.tail _ h),fun q' h=>(List.mem_append.mp h).elim (b q') fun h=>by rw [List.mem_singleton] at h; rw [h]; exact a q (.head _),MI.w c,by rw [List.length_append]; exact Nat.le_trans (Nat.le_of_eq (Nat.add_right_comm _ 1 _)) d⟩
theorem MI.kids {k:Nat} {τ:Tab} {q:T × T} {W:List (T × T)}:MI (k+1) τ (q::W)→MI k τ ((q.1.kids.zip q.2.kids).reverse++W):=fun ⟨a,b,c,d⟩=>⟨fun q' h=>(List.mem_append.mp h).elim (fun h=>Nat.lt_trans (kids_dep (List.of_mem_zip (List.mem_reverse.mp h)).2).1 (a q (.head _))) fun h=>a q' (.tail _ h),b,by rw [List.length_append,List.length_reverse,List.length_zip]; exact MI.w2 c (Nat.le_trans (Nat.min_le_left ..) (kids_le q.1)),lw0 d⟩
theorem MI.len {k:Nat} {τ:Tab} {W:List (T × T)} (h:MI (k+1) τ W):(W.reverse.map encQ).length≤898:=by
 rw [List.length_map,List.length_reverse]; exact Nat.le_of_add_le_add_right (b:=2) (adL (Nat.le_trans (Nat.le_of_eq (Nat.add_right_comm ..)) h.2.2.1))
theorem MI.len2 {k:Nat} {τ:Tab} {W:List (T × T)} (h:MI (k+1) τ W):τ.length < 900:=by
 exact lwt (adL h.2.2.2)
theorem encQ_last (q:T × T) (W:List (T × T)):((q::W).reverse.map encQ).getLast?=some (encQ q)∧((q::W).reverse.map encQ).dropLast=W.reverse.map encQ:=by
 rw [List.reverse_cons,List.map_append]; exact ⟨List.getLast?_concat,List.dropLast_concat⟩
theorem enc_pos (q:T × T) (W:List (T × T)):decide ((((q::W).reverse.map encQ).length:Int) > 0)=true:=decide_eq_true (by rw [List.length_map,List.length_reverse]; exact Int.natCast_pos.mpr (Nat.succ_pos _))
section
variable {n:Nat} {σ σ2:Sto} {r:Option Tab} {k:Nat} {τ:Tab} {W:List (T × T)} {q:T × T} {env env2:Env'} {fl:Fl}
theorem m_test (h8:env.lookup 8=some (.loc (σ.length+1))) (hm:MI (k+1) τ (q::W)):test (lv fns clss (n+20)) env (σ++[.dct (tk τ) (td τ),.lst ((q::W).reverse.map encQ)]) (.cmp .Gt (.bi .len (.var 8)) (.int 0))=some (true,σ++[.dct (tk τ) (td τ),.lst ((q::W).reverse.map encQ)]):=by
 rw [mt_test n σ [] _ _ _ env h8 (Nat.le_trans hm.len (by decide)),enc_pos]
theorem m_fin (h8:env.lookup 8=some (.loc (σ.length+1))) (hm:MI (k+1) τ (q::W)) (e:evS1 (lv fns clss (n+18)) ((10,.d q.2.enc)::(9,.d q.1.enc)::env) (σ++[.dct (tk τ) (td τ),.lst (W.reverse.map encQ)]) mIf=some (fl,env2,σ2)) :
  (lv fns clss (n+20)).s env (σ++[.dct (tk τ) (td τ),.lst ((q::W).reverse.map encQ)]) mBody=some (fl,env2,σ2) :=
 ss_next (mt_pop n σ (tk τ) (td τ) _ _ q.1.enc q.2.enc env h8 (Nat.le_trans hm.len (by decide)) (encQ_last q W).1 (encQ_last q W).2) (ss_one e)
theorem ml_ret (h8:env.lookup 8=some (.loc (σ.length+1))) (hm:MI (k+1) τ (q::W)) {σ3:Sto} (e:evS1 (lv fns clss (n+18)) ((10,.d q.2.enc)::(9,.d q.1.enc)::env) (σ++[.dct (tk τ) (td τ),.lst (W.reverse.map encQ)]) mIf=some (.ret .none,env2,σ++σ3)):ML n σ none (k+1) τ (q::W) env :=
 ⟨_,_,wh_ret (m_test h8 hm) (m_fin h8 hm e),fun _ e=>nomatch e⟩
theorem ml_next {τ2:Tab} {W2:List (T × T)} (h8:env.lookup 8=some (.loc (σ.length+1))) (hm:MI (k+1) τ (q::W)) (e:evS1 (lv fns clss (n+18)) ((10,.d q.2.enc)::(9,.d q.1.enc)::env) (σ++[.dct (tk τ) (td τ),.lst (W.reverse.map encQ)]) mIf=some (.next,env2,σ++[.dct (tk τ2) (td τ2),.lst (W2.reverse.map encQ)])):ML n σ r k τ2 W2 env2→ML n σ r (k+1) τ (q::W) env :=
 fun ⟨a,b,c,d⟩=>⟨a,b,wh_next (m_test h8 hm) (m_fin h8 hm e) c,d⟩
end
theorem mloop_v {k:Nat} {τ:Tab} {q:T × T} {W:List (T × T)} (h:q.1.isV=true):mloop (k+1) τ (q::W)=(match τ.lookup q.1.hd with
   | none=>mloop k (τ++[(q.1.hd,q.2)]) W
   | some u=>if u=q.2 then mloop k τ W else some none):=if_pos h
theorem mloop_n {k:Nat} {τ:Tab} {q:T × T} {W:List (T × T)} (h:q.1.isV=false):mloop (k+1) τ (q::W)=if q.1.hd ≠ q.2.hd ∨ q.1.kids.length ≠ q.2.kids.length then some none else mloop k τ ((q.1.kids.zip q.2.kids).reverse++W):=if_neg (by rw [h]; decide)
theorem ne_b {a b:H} {c d:Nat} (h:a ≠ b ∨ c ≠ d):(!decide (a=b) || !decide (c=d))=true:=by
 rcases h with z | z
 ·rw [decide_eq_false z]; rfl
 ·rw [decide_eq_false z,Bool.not_false,Bool.or_true]
theorem rev_enc {a W:List (T × T)}:W.reverse.map encQ++a.map encQ=(a.reverse++W).reverse.map encQ:=by
 rw [List.reverse_append,List.reverse_reverse,List.map_append]
theorem match_step {n:Nat} {σ:Sto} (ho:okS σ) {r:Option Tab} {k:Nat} {τ:Tab} {q:T × T} {W:List (T × T)} {env:Env'} (ih:∀ (τ:Tab) (W:List (T × T)) (env:Env'),mloop k τ W=some r→env.lookup 4=some (.loc σ.length)→env.lookup 8=some (.loc (σ.length+1))→MI k τ W→ML n σ r k τ W env) (h:mloop (k+1) τ (q::W)=some r) (h4:env.lookup 4=some (.loc σ.length)) (h8:env.lookup 8=some (.loc (σ.length+1))) (hm:MI (k+1) τ (q::W)):ML n σ r (k+1) τ (q::W) env:=by
 have hv:=mt_isv n σ (tk τ) (td τ) (W.reverse.map encQ) q.1 q.2.enc env ho
 cases hvq:q.1.isV with
 | true =>
  rw [mloop_v hvq] at h
  rw [hvq] at hv
  have hq:=hm.1 q (.head _)
  cases hlk:τ.lookup q.1.hd with
  | none =>
   rw [hlk] at h
   exact ml_next h8 hm (s_ifT hv (ss_one (s_ifF (mt_varN (n:=n+7) hlk h4 hm.len2 hq) ss_nil))) (ih _ _ _ h h4 h8 hm.add)
  | some u =>
   rw [hlk] at h
   have hvar:=mt_varS (n:=n+7) (L:=W.reverse.map encQ) hlk h4 hm.len2 (by obtain ⟨q,hq,rfl⟩:=lookup_mem' hlk; exact hm.2.1 _ hq) hq
   by_cases hu:u=q.2
   ·rw [decide_eq_true hu] at hvar
    exact ml_next h8 hm (s_ifT hv (ss_one (s_ifF hvar ss_nil))) (ih _ _ _ ((if_pos hu).symm.trans h) h4 h8 hm.tail)
   ·rw [decide_eq_false hu] at hvar
    cases (if_neg hu).symm.trans h
    exact ml_ret h8 hm (s_ifT hv (ss_one (s_ifT hvar (ss_one (s_ret (r_D r_none))))))
 | false =>
  rw [mloop_n hvq] at h
  rw [hvq] at hv
  have hne:=mt_ne (n+7) (σ++[.dct (tk τ) (td τ),.lst (W.reverse.map encQ)]) q.1 q.2 env
  by_cases hc:q.1.hd ≠ q.2.hd ∨ q.1.kids.length ≠ q.2.kids.length
  ·rw [ne_b hc] at hne
   cases (if_pos hc).symm.trans h
   exact ml_ret h8 hm (s_ifF hv (ss_one (s_ifT hne (ss_one (s_ret (r_D r_none))))))
  ·have hc':=not_or.mp hc
   rw [decide_eq_true (Classical.not_not.mp hc'.1),decide_eq_true (Classical.not_not.mp hc'.2)] at hne
   have hx:=mt_ext (n+6) σ (tk τ) (td τ) (W.reverse.map encQ) q.1 q.2 env h8 (by rw [List.length_map,List.length_reverse]; exact adL hm.tail.2.2.1) (Classical.not_not.mp hc'.2)
   rw [rev_enc] at hx
   exact ml_next h8 hm (s_ifF hv (ss_one (s_ifF hne (ss_one hx)))) (ih _ _ _ ((if_neg hc).symm.trans h) h4 h8 hm.kids)
theorem match_loop (n:Nat) (σ:Sto) (ho:okS σ) {r:Option Tab}:∀ (k:Nat) (τ:Tab) (W:List (T × T)) (env:Env'),mloop k τ W=some r→env.lookup 4=some (.loc σ.length)→env.lookup 8=some (.loc (σ.length+1))→MI k τ W→ML n σ r k τ W env
 | 0,_,_,_,h,_,_,_=>nomatch h
 | k+1,τ,[],env,h,h4,h8,hm=>by
  cases h
  exact ⟨_,_,wh_done (mt_test n σ [] _ _ _ env h8 (Nat.zero_le _)),fun τ' e=>by cases e; exact ⟨h4,rfl⟩⟩
 | k+1,τ,q::W,env,h,h4,h8,hm=>match_step ho (match_loop n σ ho k) h h4 h8 hm
noncomputable def encR:Option Tab→D
 | some τ=>encTab τ | none=>.none
theorem c4 {p t:T} {r:Option Tab} (h:mloop 100 [] [(p,t)]=some r) (ht:t.dep < 50) (n:Nat) (σ:Sto) (ho:okS σ):(lv fns clss (n+30)).c 4 [.d p.enc,.d t.enc] σ=some (encR r,σ):=by
 have h1:evS1 (lv fns clss (n+28)) [(0,.d t.enc),(3,.d p.enc)] σ (.asgW [4,8] [.newD,(.newL [(.tup [(.var 3),(.var 0)])])])=some (.next,[(4,.loc σ.length),(8,.loc (σ.length+1)),(0,.d t.enc),(3,.d p.enc)],σ++[.dct [] [],.lst [encQ (p,t)]]) :=
  s_asgW (r_cons r_newD (r_cons ((r_newL (r_dcons (r_D (r_tup (r_dcons (r_D (r_var rfl)) (r_dcons (r_D (r_var rfl)) r_dnil)))) r_dnil)).trans (by rw [List.length_append,List.append_assoc]; rfl)) r_nil)) rfl
 obtain ⟨env',σ2,h2,h3⟩:=match_loop (n+7) σ ho 100 [] [(p,t)] [(4,.loc σ.length),(8,.loc (σ.length+1)),(0,.d t.enc),(3,.d p.enc)] h rfl rfl ⟨fun q hq=>by rw [List.mem_singleton] at hq; rw [hq]; exact ht,(by intro q hq; cases hq),by show 1+2 * 100≤900; decide,by decide⟩
 have h2':evS1 (lv fns clss (n+27)) [(4,.loc σ.length),(8,.loc (σ.length+1)),(0,.d t.enc),(3,.d p.enc)] (σ++[.dct [] [],.lst [encQ (p,t)]]) (.whl (.cmp .Gt (.bi .len (.var 8)) (.int 0)) mBody)=some (mFl r,env',σ++σ2):=h2
 rw [lvC]
 clear h2
 cases r with
 | none=>exact evC_mk (f:=4) (σ:=σ) (vs:=[.d p.enc,.d t.enc]) (g:=f_matched) (τ:=σ2) (fl:=.ret .none) (env':=env') rfl rfl (ss_next h1 (ss_ret h2')) ho
 | some τ =>
  obtain ⟨h4,e⟩:=h3 τ rfl
  rw [e] at h2'
  exact evC_mk (f:=4) (σ:=σ) (vs:=[.d p.enc,.d t.enc]) (g:=f_matched) (τ:=[.gone,.lst []]) (fl:=.ret (encTab τ)) (env':=env') rfl rfl (ss_next h1 (ss_next h2' (ss_ret (s_ret (r_D (r_frz h4 (by unfold freeze; rw [gA0]; rfl) (sA0 σ _ _))))))) ho
noncomputable def caT (late:T):T→T
 | .l h=>if h=.k then late else .l h
 | .u h t=>.u h (caT late t)
 | .b h t v=>.b h (caT late t) (caT late v)
theorem caT_enc (late t:T) (h:t ≠ .l .k):(caT late t).enc=.tup (.str t.hd.str::t.kids.map fun v=>(caT late v).enc):=by
 cases t with
 | l h'=>simp at h; simp [caT,h,T.enc,T.hd,T.kids]
 | u h' t=>simp [caT,T.enc,T.hd,T.kids]
 | b h' t v=>simp [caT,T.enc,T.hd,T.kids]
theorem caT_dep {late:T}:∀ t:T,(caT late t).dep≤t.dep+late.dep
 | .l h=>by unfold caT; split <;> simp [T.dep]
 | .u h t=>ux (caT_dep t)
 | .b h t v=>mx (caT_dep t) (caT_dep v)
theorem c16 (late:T):∀ (t:T) (N:Nat) (σ:Sto),16 * t.dep+16≤N→t.dep < 50→okS σ→(lv fns clss N).c 16 [.d t.enc,.d late.enc] σ=some ((caT late t).enc,σ):=by
 intro t
 induction t using T.rec' with
 | h t ih =>
  intro N σ hN hd ho
  obtain ⟨n,rfl⟩:=ex_add hN
  rw [lvC]
  refine evC_mk0 (f:=16) (σ:=σ) (vs:=[.d t.enc,.d late.enc]) (g:=f_law_called) (fl:=.ret (caT late t).enc) (env:=[(29,.d late.enc),(0,.d t.enc)]) rfl rfl ?_ ho
  have hk:eqD t.enc (.tup [.str (sx "k")])=some (decide (t=.l .k)):=eqD_enc (v:=.l .k) hd (by decide)
  by_cases e:t=.l .k
  ·have hl:caT late t=late:=by rw [e]; rfl
   rw [decide_eq_true e] at hk
   rw [hl]
   exact ss_ret (s_ret (r_D (r_ifeT (r_test (r_cmp (op:=.Eq) (r_D (r_var rfl)) (r_D (r_tup (r_dcons (r_D r_str) r_dnil))) hk)) (r_var rfl))))
  ·rw [decide_eq_false e] at hk
   exact ss_ret (s_ret (r_D (r_ifeF (r_test (r_cmp (op:=.Eq) (r_D (r_var rfl)) (r_D (r_tup (r_dcons (r_D r_str) r_dnil))) hk)) (r_bin (r_D (r_cut (r_D (r_var rfl)) (cut0_enc t))) (r_D (fill_comp (q:=n+8) (i:=0) (j:=29) (g:=fun v=>(caT late v).enc) rfl rfl (by decide) fun v hv=>ih v hv _ _ (dk hN (kids_dep hv).1 (Nat.le_add_right n 9)) (Nat.lt_trans (kids_dep hv).1 hd) ho))
    ((add_tup1 (kids9 t _)).trans (by rw [caT_enc late t e]))))))
noncomputable def near (t:T):List T:=t::t.kids++t.kids.flatMap T.kids
noncomputable def addN (ns:List T) (tabs:List Tab) (z:H):List Tab:=tabs.flatMap fun τ=>ns.map fun v=>τ++[(z,v)]
noncomputable def tab0 (p t:T):List Tab:=if p.hd.isV || (decide (p.hd=t.hd) && decide (p.kids.length=t.kids.length)) then [[]] else []
noncomputable def candT (p t:T):List Tab:=(varH p).foldl (addN (near t)) (tab0 p t)
noncomputable def fitsT (p t:T):List Tab:=(candT p t).filter fun τ=>decide (plT τ p=t)
noncomputable def fT (p t:T):Option Tab:=(fitsT p t).head?
theorem near_len (t:T):(near t).length≤7:=by
 rcases t with h | ⟨h,t⟩ | ⟨h,t,v⟩
 ·exact Nat.le_of_ble_eq_true rfl
 ·rcases t with _ | _ | _ <;> exact Nat.le_of_ble_eq_true rfl
 ·rcases t with _ | _ | _ <;> rcases v with _ | _ | _ <;> exact Nat.le_of_ble_eq_true rfl
theorem near_dep {t v:T} (h:v ∈ near t):v.dep≤t.dep:=by
 simp only [near,List.cons_append,List.mem_cons,List.mem_append,List.mem_flatMap] at h
 rcases h with rfl | h | ⟨z,h1,h2⟩
 ·exact Nat.le_refl _
 ·exact Nat.le_of_lt (kids_dep h).1
 ·exact Nat.le_of_lt (Nat.lt_trans (kids_dep h2).1 (kids_dep h1).1)
theorem zipD_tab:∀ τ:Tab,zipD (tk τ) (td τ)=τ.map fun q=>.tup [.str q.1.str,q.2.enc]
 | []=>rfl
 | q::τ=>by
  have ih:=zipD_tab τ
  show _::zipD (tk τ) (td τ)=_
  rw [ih]; rfl
theorem pairs_tab:∀ τ:Tab,pairsOf' (τ.map fun q=>.tup [.str q.1.str,q.2.enc])=some (tk τ,td τ)
 | []=>rfl
 | q::τ=>mapE (pairs_tab τ)
theorem tk_nodup {τ:Tab}:(tk τ).Nodup ↔ (τ.map (·.1)).Nodup:=by
 have:tk τ=(τ.map (·.1)).map H.str:=by simp [tk]
 rw [this]
 rw [List.nodup_iff_pairwise_ne,List.nodup_iff_pairwise_ne,List.pairwise_map]
 exact ⟨fun h=>h.imp fun a b=>a (congrArg _ b),fun h=>h.imp fun a b=>a (H.str_inj b)⟩
theorem addN_len (ns:List T) (tabs:List Tab) (z:H):(addN ns tabs z).length=tabs.length * ns.length:=by
 unfold addN
 induction tabs with
 | nil=>simp
 | cons τ r ih=>rw [List.flatMap_cons,List.length_append,ih,List.length_map,List.length_cons,Nat.add_mul,Nat.one_mul,Nat.add_comm]
noncomputable def tabsOk (m:Nat) (done:List H) (tabs:List Tab):Prop:=∀ τ ∈ tabs,τ.map (·.1)=done∧∀ q ∈ τ,q.2.dep≤m
theorem addN_ok {m:Nat} {done:List H} {tabs:List Tab} {ns:List T} {z:H} (h:tabsOk m done tabs) (hn:∀ v ∈ ns,v.dep≤m):tabsOk m (done++[z]) (addN ns tabs z):=by
 intro τ hτ
 obtain ⟨τ0,h1,h2⟩:=List.mem_flatMap.mp hτ
 obtain ⟨v,h3,rfl⟩:=List.mem_map.mp h2
 obtain ⟨a,b⟩:=h _ h1
 refine ⟨by rw [List.map_append,a]; rfl,fun q hq=>?_⟩
 rcases List.mem_append.mp hq with hq | hq
 ·exact b q hq
 ·rw [List.mem_singleton] at hq; subst hq; exact hn v h3
theorem plT_dep {m:Nat} {τ:Tab} (h:∀ q ∈ τ,q.2.dep≤m):∀ p:T,(plT τ p).dep≤p.dep+m
 | .l z=>by
  unfold plT
  split
  ·cases e:τ.lookup z with
   | none=>simp [T.dep]
   | some u =>
    obtain ⟨q,hq,rfl⟩:=lookup_mem' e
    simpa [T.dep] using h q hq
  ·simp [T.dep]
 | .u z t=>ux (plT_dep h t)
 | .b z t v=>mx (plT_dep h t) (plT_dep h v)
theorem eqD_hdlen (h h':H) (i j:Int):eqD (.tup [.str h.str,.int i]) (.tup [.str h'.str,.int j])=some (decide (h=h') && decide (i=j)):=by
 show eqS _ _=_
 unfold eqS SeqAt.shaped
 simp [toP_none,toP_bool,toP_int,toP_str,toP_tup,toP_lst,toP_dct,toP_obj,toP_raw,toPs_nil,toPs_cons,PyData.canLay0,PyData.canLayAll0,PyData.depth,PyData.depthAll,PyData.eqv,PyData.eqvAll,str_ok]
 by_cases e:h=h'
 ·subst e
  by_cases e2:i=j
  ·subst e2; simp
  ·simp [e2]
 ·by_cases e2:i=j
  ·simp [e,H.str_eq]
  ·simp [e,e2,H.str_eq]
theorem add_lst {a b:List D} (h:a.length+b.length≤1000):binD .Add (.lst a) (.lst b)=some (.lst (a++b)):=lim_of (small_of (by rw [List.length_append]; exact h))
theorem f_near (n:Nat) (env:Env') (t:T) (σ:Sto) (h0:env.lookup 0=some (.d t.enc)):evS1 (lv fns clss (n+28)) env σ (.asg 35 (.bin .Add (.bin .Add (.lst [(.var 0)]) (.comp [] (.var 5) (.one 5) (.cut (.var 0) (some 1) none) none)) (.comp2 [] (.var 29) (.one 5) (.cut (.var 0) (some 1) none) (.one 29) (.cut (.var 5) (some 1) none))))=some (.next,(35,.d (.lst ((near t).map T.enc)))::env,σ):=by
 have hn:=near_len t
 rw [near,List.length_append,List.length_cons] at hn
 have e:(t.kids.flatMap fun v=>v.kids.map T.enc)=(t.kids.flatMap T.kids).map T.enc:=by rw [List.map_flatMap]
 have e2:(near t).map T.enc=(t.enc::t.kids.map T.enc)++(t.kids.flatMap fun v=>v.kids.map T.enc):=by rw [e,near,List.map_append]; rfl
 rw [e2]
 exact s_asg (r_bin (r_D (r_bin (r_D (r_lst (r_dcons (r_D (r_var h0)) r_dnil))) (r_D (r_comp (r_D (r_cut (r_D (r_var h0)) (cut_enc t))) (lim_of (small_kids t)) (compL_map (f:=T.enc) fun v hv=>⟨[(5,.d v.enc)],rfl,r_D (r_var rfl)⟩)))
  (add_lst (a:=[t.enc]) (by rw [List.length_map]; exact s1 (adL hn)))))
  (r_D (r_comp2 (r_D (r_cut (r_D (r_var h0)) (cut_enc t))) (lim_of (small_kids t)) (compL2_map (f:=fun v=>v.kids.map T.enc) fun v hv=>⟨[(5,.d v.enc)],.tup (v.kids.map T.enc),v.kids.map T.enc,rfl,r_D (r_cut (r_D (r_var rfl)) (cut_enc v)),lim_of (small_kids v),compL_map (xs:=v.kids) (e:=T.enc) (f:=T.enc) fun w hw=>⟨[(29,.d w.enc),(5,.d v.enc)],rfl,r_D (r_var rfl)⟩⟩) (by rw [e]; exact small_of (by rw [List.length_map]; exact lw (adR hn)))))
  (add_lst (a:=[t.enc]++t.kids.map T.enc) (b:=t.kids.flatMap fun v=>v.kids.map T.enc) (by rw [e,List.length_map,List.length_append,List.length_map]; exact Nat.le_trans (Nat.add_le_add_right (Nat.le_of_eq (Nat.add_comm 1 _)) _) (lw hn))))
theorem f_tab0 (n:Nat) (env:Env') (p t:T) (σ:Sto) (h0:env.lookup 0=some (.d t.enc)) (h16:env.lookup 16=some (.d p.enc)):evS1 (lv fns clss (n+27)) env σ (.asg 36 (.ife (.orE (.cmp .Eq (.idx (.idx (.var 16) (.int 0)) (.int 0)) (.str (sx "?"))) (.cmp .Eq (.tup [(.idx (.var 16) (.int 0)),(.bi .len (.var 16))]) (.tup [(.idx (.var 0) (.int 0)),(.bi .len (.var 0))]))) (.lst [.dct0]) (.lst [])))=some (.next,(36,.d (.lst ((tab0 p t).map encTab)))::env,σ):=by
 obtain ⟨c,q1,q2⟩:=idx_q1 p.hd
 have hx:test (lv fns clss (n+26)) env σ (.orE (.cmp .Eq (.idx (.idx (.var 16) (.int 0)) (.int 0)) (.str (sx "?"))) (.cmp .Eq (.tup [(.idx (.var 16) (.int 0)),(.bi .len (.var 16))]) (.tup [(.idx (.var 0) (.int 0)),(.bi .len (.var 0))])))=some (p.hd.isV || (decide (p.hd=t.hd) && decide (p.kids.length=t.kids.length)),σ):=r_test (r_or (r_cmp (r_D (r_idx (hd0 h16) (r_D r_int) q1)) (r_D r_str) q2) (r_cmp (r_D (r_tup (r_dcons (r_D (hd0 h16)) (r_dcons (r_D (lenT0 h16)) r_dnil)))) (r_D (r_tup (r_dcons (r_D (hd0 h0)) (r_dcons (r_D (lenT0 h0)) r_dnil)))) ((eqD_hdlen _ _ _ _).trans (by rw [kid_eq]))))
 unfold tab0
 cases hb:(p.hd.isV || (decide (p.hd=t.hd) && decide (p.kids.length=t.kids.length))) with
 | true=>rw [hb] at hx; exact s_asg (r_ifeT hx (r_lst (r_dcons (r_D r_dct0) r_dnil)))
 | false=>rw [hb] at hx; exact s_asg (r_ifeF hx (r_lst r_dnil))
theorem caps2 {env:Env'} {i j:Nat} {u v:V} (h:env.lookup i=some u) (h2:env.lookup j=some v):caps [i,j] env=[(i,u),(j,v)]:=by
 unfold caps; rw [List.filterMap_cons,h,List.filterMap_cons,h2]; rfl
noncomputable def fStep:List S:=[(.asgC 36 (.comp2 [18,35] (.bi .dict (.bin .Add (.bi .items (.var 4)) (.lst [(.tup [(.var 18),(.var 5)])]))) (.one 4) (.var 36) (.one 5) (.var 35)))]
theorem f_step (n:Nat) (env:Env') (ns:List T) (tabs:List Tab) (z:H) (σ:Sto) (done:List H) (m:Nat) (h18:env.lookup 18=some (.d (.str z.str))) (h35:env.lookup 35=some (.d (.lst (ns.map T.enc)))) (h36:env.lookup 36=some (.d (.lst (tabs.map encTab))))
  (hok:tabsOk m done tabs) (hnd:(done++[z]).Nodup) (hd:done.length < 50) (h1:ns.length≤7) (h2:tabs.length≤50) :
  (lv fns clss (n+26)).s env σ fStep=some (.next,(36,.d (.lst ((addN ns tabs z).map encTab)))::env,σ):=by
 have hl:=addN_len ns tabs z
 have hm:tabs.length * ns.length≤50 * 7:=Nat.mul_le_mul h2 h1
 have e:(tabs.flatMap fun τ=>ns.map fun v=>encTab (τ++[(z,v)]))=(addN ns tabs z).map encTab:=by
  unfold addN
  rw [List.map_flatMap]
  simp only [List.map_map]
  rfl
 rw [← e]
 refine ss_one (s_asgC (r_comp2 (r_D (r_var h36)) (lim_of (small_of (by rw [List.length_map]; exact lw h2))) (compL2_map (f:=fun τ=>ns.map fun v=>encTab (τ++[(z,v)])) fun τ hτ=>⟨[(4,.d (encTab τ)),(18,.d (.str z.str)),(35,.d (.lst (ns.map T.enc)))],.lst (ns.map T.enc),ns.map T.enc,by rw [caps2 h18 h35]; rfl,r_D (r_var rfl),lim_of (small_of (by rw [List.length_map]; exact lw h1)),compL_map fun v hv=>⟨[(5,.d v.enc),(4,.d (encTab τ)),(18,.d (.str z.str)),(35,.d (.lst (ns.map T.enc)))],rfl,?_⟩⟩) (by rw [e]; exact small_of (by rw [List.length_map]; exact Nat.le_trans (Nat.le_of_eq hl) (lw hm)))))
 obtain ⟨a,b⟩:=hok τ hτ
 have hlen:τ.length < 50:=by rw [← List.length_map (·.1),a]; exact hd
 have hn2:((τ++[(z,v)]).map (·.1)).Nodup:=by rw [List.map_append,a]; exact hnd
 have e3:(τ.map fun q=>D.tup [.str q.1.str,q.2.enc])++[.tup [.str z.str,v.enc]]=(τ++[(z,v)]).map fun q=>D.tup [.str q.1.str,q.2.enc]:=by rw [List.map_append]; rfl
 have hs:τ.length+1≤1000:=lw hlen
 exact r_D (r_bi (b:=.dict) (by decide) (r_D (r_bin (r_D (r_bi (b:=.items) (d:=.lst (τ.map fun q=>.tup [.str q.1.str,q.2.enc])) (by decide) (r_D (r_var rfl)) ((lim_of (decide_eq_true (by rw [tk_len]; exact ltw hlen))).trans (by rw [zipD_tab])))) (r_D (r_lst (r_dcons (r_D (r_tup (r_dcons (r_D (r_var rfl)) (r_dcons (r_D (r_var rfl)) r_dnil)))) r_dnil))) (add_lst (by rw [List.length_map]; exact hs))))
  (by rw [e3]; exact bindE (pairs_tab _) (lim_of (Bool.and_eq_true_iff.mpr ⟨decide_eq_true (tk_nodup.mpr hn2),small_of (by rw [List.length_map,List.length_append]; exact hs)⟩))))
theorem pow_le1 {d k:Nat} (h:d+(k+1)≤2):7 ^ d≤7:=Nat.pow_le_pow_right (n:=7) (i:=d) (j:=1) (by decide) (Nat.le_of_succ_le_succ (Nat.le_trans (Nat.succ_le_succ (Nat.le_add_right d k)) h))
theorem f_names (n:Nat) (t:T) (σ:Sto) (m:Nat) (hm:t.dep≤m):∀ (zs:List H) (env:Env') (tabs:List Tab) (done:List H),env.lookup 35=some (.d (.lst ((near t).map T.enc)))→env.lookup 36=some (.d (.lst (tabs.map encTab)))→tabsOk m done tabs→(done++zs).Nodup→done.length+zs.length≤2→tabs.length≤7 ^ done.length →
  ∃ env',forL (lv fns clss (n+26)) (.one 18) fStep (zs.map fun z=>D.str z.str) env σ=some (.next,env',σ)∧env'.lookup 36=some (.d (.lst ((zs.foldl (addN (near t)) tabs).map encTab)))∧(∀ i,i ≠ 18→i ≠ 36→env'.lookup i=env.lookup i)∧tabsOk m (done++zs) (zs.foldl (addN (near t)) tabs)∧(zs.foldl (addN (near t)) tabs).length≤7 ^ (done.length+zs.length)
 | [],env,tabs,done,h35,h36,hok,hnd,hl,ht=>⟨env,rfl,h36,fun _ _ _=>rfl,by rw [List.append_nil]; exact hok,ht⟩
 | z::zs,env,tabs,done,h35,h36,hok,hnd,hl,ht=>by
  have hnl:=near_len t
  have hal2:(addN (near t) tabs z).length≤7 ^ (done++[z]).length:=by
   rw [addN_len,List.length_append,List.length_singleton,Nat.pow_succ]
   exact Nat.mul_le_mul ht hnl
  have ec:done++z::zs=(done++[z])++zs:=by rw [List.append_assoc]; rfl
  have en:done.length+(z::zs).length=(done++[z]).length+zs.length:=by rw [List.length_append,List.length_cons,List.length_singleton,Nat.add_assoc,Nat.add_comm zs.length]
  have hp:=Nat.le_trans ht (pow_le1 hl)
  rw [ec] at hnd
  rw [ec,en]
  rw [en] at hl
  have h1:=f_step n ((18,.d (.str z.str))::env) (near t) tabs z σ done m rfl h35 h36 hok (List.nodup_append.mp hnd).1 (lwt (by rw [List.length_append] at hl; exact adL (adL hl))) hnl (Nat.le_trans hp (by decide))
  obtain ⟨env',a1,a2,a3,a4,a5⟩:=f_names n t σ m hm zs ((36,.d (.lst ((addN (near t) tabs z).map encTab)))::(18,.d (.str z.str))::env) (addN (near t) tabs z) (done++[z]) h35 rfl (addN_ok hok fun v hv=>Nat.le_trans (near_dep hv) hm) hnd hl hal2
  exact ⟨env',fl_next rfl h1 a1,a2,fun i i1 i2=>by rw [a3 i i1 i2,List.lookup_cons,beq_false_of_ne i2,List.lookup_cons,beq_false_of_ne i1],a4,a5⟩
theorem varH_nodup (p:T):(varH p).Nodup:=by unfold varH; exact List.Nodup.sublist List.filter_sublist (by decide)
theorem varH_len (p:T):(varH p).length≤2:=by unfold varH; exact Nat.le_trans (List.length_filter_le ..) (by decide)
theorem varH_v {p:T} {z:H} (h:z ∈ varH p):z.isV=true:=by
 unfold varH at h
 have:=(List.mem_filter.mp h).1
 simp at this
 rcases this with rfl | rfl <;> rfl
theorem lookup_key {τ:Tab} {z:H} (h:(τ.lookup z).isSome=true):z ∈ τ.map (·.1):=by
 obtain ⟨u,hu⟩:=Option.isSome_iff_exists.mp h
 clear h
 induction τ with
 | nil=>cases hu
 | cons q τ ih =>
  rw [List.lookup_cons] at hu
  by_cases e:z=q.1
  ·simp [e]
  ·rw [beq_false_of_ne e] at hu
   exact List.mem_cons_of_mem _ (ih hu)
noncomputable def fTail:List S:=[(.asgC 37 (.comp [0,16] (.var 4) (.one 4) (.var 36) (some (.cmp .Eq (.call 13 [(.var 16),(.var 4)]) (.var 0))))),
 (.ret (.ife (.cmp .NotEq (.var 37) (.lst [])) (.idx (.var 37) (.int 0)) .none))]
theorem f_fits (n:Nat) (env:Env') (p t:T) (tabs:List Tab) (σ:Sto) (ho:okS σ) (h0:env.lookup 0=some (.d t.enc)) (h16:env.lookup 16=some (.d p.enc)) (h36:env.lookup 36=some (.d (.lst (tabs.map encTab)))) (hl:tabs.length≤49) (hg:p.good=true) (hp:p.dep≤3)
  {m:Nat} {done:List H} (hok:tabsOk m done tabs) (hdn:∀ z ∈ done,z.isV=true) (hm:m < 40) (ht:t.dep < 50) :
  evS1 (lv fns clss (n+80)) env σ (.asgC 37 (.comp [0,16] (.var 4) (.one 4) (.var 36) (some (.cmp .Eq (.call 13 [(.var 16),(.var 4)]) (.var 0)))))=some (.next,(37,.d (.lst ((tabs.filter fun τ=>decide (plT τ p=t)).map encTab)))::env,σ) :=
 s_asgC (r_comp (r_D (r_var h36)) (lim_of (small_of (by rw [List.length_map]; exact lw hl))) (compL_filter (p:=fun τ=>decide (plT τ p=t)) (f:=encTab) fun τ hτ=>⟨[(4,.d (encTab τ)),(0,.d t.enc),(16,.d p.enc)],by rw [caps2 h0 h16]; rfl,
  r_test (r_cmp (op:=.Eq) (r_D (r_call (r_cons (r_var rfl) (r_cons (r_var rfl) r_nil)) (c13 (fun z hz=>hdn z ((hok τ hτ).1 ▸ lookup_key hz)) p _ σ (dpw hp) hg ho))) (r_D (r_var rfl)) (eqD_enc (lwt (Nat.le_trans (plT_dep (hok τ hτ).2 p) (Nat.add_le_add hp (Nat.le_of_lt hm)))) ht)),fun _=>r_D (r_var rfl)⟩))
theorem f_end (n:Nat) (env:Env') (fits:List Tab) (σ:Sto) (h37:env.lookup 37=some (.d (.lst (fits.map encTab)))):evS1 (lv fns clss (n+20)) env σ (.ret (.ife (.cmp .NotEq (.var 37) (.lst [])) (.idx (.var 37) (.int 0)) .none))=some (.ret (encR fits.head?),env,σ):=by
 cases fits with
 | nil=>exact s_ret (r_D (r_ifeF (r_test (r_cmp (r_D (r_var h37)) (r_D (r_lst r_dnil)) (ne_of (b:=true) (by decide +kernel)))) r_none))
 | cons τ r=>exact s_ret (r_D (r_ifeT (r_test (r_cmp (r_D (r_var h37)) (r_D (r_lst r_dnil)) (ne_of (b:=false) rfl))) (r_idx (r_var h37) (r_D r_int) rfl)))
theorem pats_good:∀ p ∈ pats,p.good=true:=by decide
theorem c14 {p:T} (hp:p ∈ pats) {t:T} (ht:t.dep < 40) (n:Nat) (σ:Sto) (ho:okS σ):(lv fns clss (n+100)).c 14 [.d p.enc,.d t.enc] σ=some (encR (fT p t),σ):=by
 obtain ⟨_,hz,hd⟩:=pats_vars p hp
 rw [lvC]
 have h1:=f_near (n+70) [(0,.d t.enc),(16,.d p.enc)] t σ rfl
 have h2:=f_tab0 (n+70) [(35,.d (.lst ((near t).map T.enc))),(0,.d t.enc),(16,.d p.enc)] p t σ rfl rfl
 have hok0:tabsOk t.dep [] (tab0 p t):=by
  intro τ hτ
  have e:τ=[]:=by unfold tab0 at hτ; split at hτ; exact List.mem_singleton.mp hτ; cases hτ
  rw [e]; exact ⟨rfl,fun q hq=>nomatch hq⟩
 have hl0:(tab0 p t).length≤7 ^ ([]:List H).length:=by unfold tab0; split; exact Nat.le_refl 1; exact Nat.zero_le 1
 obtain ⟨env',a1,a2,a3,a4,a5⟩:=f_names (n+70) t σ t.dep (Nat.le_refl _) (varH p) [(36,.d (.lst ((tab0 p t).map encTab))),(35,.d (.lst ((near t).map T.enc))),(0,.d t.enc),(16,.d p.enc)] (tab0 p t) [] rfl rfl hok0 (varH_nodup p) (by rw [List.length_nil,Nat.zero_add]; exact varH_len p) hl0
 have h3:evS1 (lv fns clss (n+96)) [(36,.d (.lst ((tab0 p t).map encTab))),(35,.d (.lst ((near t).map T.enc))),(0,.d t.enc),(16,.d p.enc)] σ (.forD (.one 18) (.call 12 [(.var 16)]) fStep)=some (.next,env',σ) :=
  s_forD (r_D (r_call (r_cons (r_var rfl) r_nil) (c12 hp (n+25) σ ho))) (lim_of (small_of (by rw [List.length_map]; exact Nat.le_trans (varH_len p) (by decide)))) a1
 have a5':(candT p t).length≤49:=Nat.le_trans a5 (Nat.le_trans (Nat.pow_le_pow_right (by decide) (by rw [List.length_nil,Nat.zero_add]; exact varH_len p)) (by decide))
 have h4:=f_fits (n+15) env' p t (candT p t) σ ho (a3 0 (by decide) (by decide)) (a3 16 (by decide) (by decide)) a2 a5' (pats_good p hp) hd a4 (fun z hz=>varH_v hz) ht (Nat.lt_trans ht (by decide))
 exact evC_mk0 (f:=14) (σ:=σ) (vs:=[.d p.enc,.d t.enc]) (g:=f_law_found) (fl:=.ret (encR (fT p t))) (env:=(37,.d (.lst ((fitsT p t).map encTab)))::env') rfl rfl
  (ss_next h1 (ss_next h2 (ss_next h3 (ss_next h4 (ss_ret (f_end (n+74) ((37,.d (.lst ((fitsT p t).map encTab)))::env') (fitsT p t) σ rfl)))))) ho
noncomputable def ext (τ σ:Tab):Prop:=∀ z v,τ.lookup z=some v→σ.lookup z=some v
theorem ext.refl (τ:Tab):ext τ τ:=fun _ _ h=>h
theorem ext.trans {a b c:Tab} (h:ext a b) (h':ext b c):ext a c:=fun z v q=>h' _ _ (h _ _ q)
theorem lookup_app {τ:Tab} {h z:H} {v:T}:(τ++[(h,v)]).lookup z=(match τ.lookup z with | some u=>some u | none=>if z=h then some v else none):=by
 induction τ with
 | nil =>
  show (match z == h with | true=>some v | false=>none)=if z=h then some v else none
  by_cases e:z=h
  ·simp [e]
  ·rw [beq_false_of_ne e,if_neg e]
 | cons q τ ih =>
  rw [List.cons_append,List.lookup_cons,List.lookup_cons,ih]
  cases z == q.1 <;> rfl
theorem ext_app {τ:Tab} {h:H} {v:T}:ext τ (τ++[(h,v)]):=fun z u q=>by rw [lookup_app,q]
theorem lookup_none {τ:Tab} {z:H}:τ.lookup z=none ↔ z ∉ τ.map (·.1):=by
 induction τ with
 | nil=>simp
 | cons q τ ih =>
  rw [List.lookup_cons]
  by_cases e:z=q.1
  ·subst e; simp
  ·rw [beq_false_of_ne e]; simp [ih,e]
theorem plT_v {τ:Tab} {p t:T} (h:p.isV=true) (e:τ.lookup p.hd=some t):plT τ p=t:=by
 obtain ⟨e1,e2⟩:=isV_l h
 rw [e1]
 simp only [plT,e2,if_true,e,Option.getD_some]
theorem plT_kids {τ:Tab} {p t:T} (h:p.isV=false) (h1:p.hd=t.hd) (h2:p.kids.length=t.kids.length):(∀ q ∈ p.kids.zip t.kids,plT τ q.1=q.2) ↔ plT τ p=t:=by
 cases p with
 | l z =>
  cases t <;> simp [T.kids] at h2
  simp [T.hd] at h1
  simp [T.isV] at h
  subst h1
  simp [T.kids,plT,h]
 | u z a =>
  cases t <;> simp [T.kids] at h2
  simp [T.hd] at h1
  subst h1
  simp [T.kids,plT]
 | b z a c =>
  cases t <;> simp [T.kids] at h2
  simp [T.hd] at h1
  subst h1
  simp [T.kids,plT]
theorem plT_hd {τ:Tab} {p t:T} (h:p.isV=false) (e:plT τ p=t):p.hd=t.hd∧p.kids.length=t.kids.length:=by
 subst e
 cases p with
 | l z=>simp [T.isV] at h; simp [plT,h]
 | u z a=>simp [plT,T.hd,T.kids]
 | b z a c=>simp [plT,T.hd,T.kids]
theorem occ_zip {p t:T} (hp:p.isV=false) (hg:p.good=true) (h2:p.kids.length=t.kids.length) {z:H} (hz:z.isV=true):p.occ z=true ↔ ∃ q ∈ p.kids.zip t.kids,q.1.occ z=true:=by
 cases p with
 | l y =>
  simp [T.isV] at hp
  simp [T.kids,T.occ]
  intro e; subst e; rw [hp] at hz; cases hz
 | u y a=>cases t <;> simp [T.kids] at h2; simp [T.kids,T.occ]
 | b y a c=>cases t <;> simp [T.kids] at h2; simp [T.kids,T.occ]
theorem mstep {P:Prop} {k:Nat} {τ:Tab} {q:T × T} {W:List (T × T)} {r:Option (Option Tab)} (h:mloop (k+1) τ (q::W)=r) (new:q.1.isV=true→τ.lookup q.1.hd=none→mloop k (τ++[(q.1.hd,q.2)]) W=r→P) (old:q.1.isV=true→τ.lookup q.1.hd=some q.2→mloop k τ W=r→P)
  (bad:q.1.isV=true→∀ u,τ.lookup q.1.hd=some u→u ≠ q.2→some none=r→P) (ne:q.1.isV=false→(q.1.hd ≠ q.2.hd ∨ q.1.kids.length ≠ q.2.kids.length)→some none=r→P) (kids:q.1.isV=false→q.1.hd=q.2.hd→q.1.kids.length=q.2.kids.length→mloop k τ ((q.1.kids.zip q.2.kids).reverse++W)=r→P):P:=by
 cases hv:q.1.isV with
 | true =>
  rw [mloop_v hv] at h
  cases hl:τ.lookup q.1.hd with
  | none=>rw [hl] at h; exact new hv hl h
  | some u =>
   rw [hl] at h
   by_cases e:u=q.2
   ·exact old hv (e ▸ hl) ((if_pos e).symm.trans h)
   ·exact bad hv u hl e ((if_neg e).symm.trans h)
 | false =>
  rw [mloop_n hv] at h
  by_cases hc:q.1.hd ≠ q.2.hd ∨ q.1.kids.length ≠ q.2.kids.length
  ·exact ne hv hc ((if_pos hc).symm.trans h)
  ·exact kids hv (Classical.not_not.mp (not_or.mp hc).1) (Classical.not_not.mp (not_or.mp hc).2) ((if_neg hc).symm.trans h)
inductive MS (τ:Tab) (W:List (T × T)) (τ':Tab):Prop
 | mk (a1:ext τ τ') (a2:∀ q ∈ W,plT τ' q.1=q.2) (a3:(τ.map (·.1)).Nodup→(τ'.map (·.1)).Nodup) (a4:∀ z,z ∈ τ'.map (·.1)→z ∈ τ.map (·.1) ∨ (z.isV=true∧∃ q ∈ W,q.1.occ z=true)) (a5:∀ q ∈ W,∀ z,z.isV=true→q.1.occ z=true→z ∈ τ'.map (·.1))
   (a6:∀ m,(∀ q ∈ τ,q.2.dep≤m)→(∀ q ∈ W,q.2.dep≤m)→∀ q ∈ τ',q.2.dep≤m)
section
variable {τ τ':Tab} {q:T × T} {W:List (T × T)}
theorem occ_v (hv:q.1.isV=true) {z:H} (h:q.1.occ z=true):z=q.1.hd:=by
 rw [(isV_l hv).1] at h ⊢
 exact (of_decide_eq_true h).symm
theorem occ_hd (hv:q.1.isV=true):q.1.occ q.1.hd=true:=by
 rw [(isV_l hv).1]; exact decide_eq_true rfl
theorem mem_tail {P:T × T→Prop} (h1:P q) (h2:∀ q' ∈ W,P q'):∀ q' ∈ q::W,P q':=fun q' h=>(List.mem_cons.mp h).elim (fun e=>e ▸ h1) (h2 q')
theorem key_mem {z:H} {u:T} (h:τ.lookup z=some u):z ∈ τ.map (·.1):=Classical.byContradiction fun y=>by rw [lookup_none.mpr y] at h; cases h
theorem MS.var (hv:q.1.isV=true) (hq:τ'.lookup q.1.hd=some q.2) (a2:∀ q ∈ W,plT τ' q.1=q.2) (a5:∀ q ∈ W,∀ z,z.isV=true→q.1.occ z=true→z ∈ τ'.map (·.1)):(∀ q' ∈ q::W,plT τ' q'.1=q'.2)∧(∀ q' ∈ q::W,∀ z,z.isV=true→q'.1.occ z=true→z ∈ τ'.map (·.1)) :=
 ⟨mem_tail (plT_v hv hq) a2,mem_tail (fun z _ ho=>by rw [occ_v hv ho]; exact key_mem hq) a5⟩
theorem MS.new (hv:q.1.isV=true) (hn:τ.lookup q.1.hd=none):MS (τ++[(q.1.hd,q.2)]) W τ'→MS τ (q::W) τ'
 | ⟨a1,a2,a3,a4,a5,a6⟩=>by
  have hx:=MS.var hv (a1 q.1.hd q.2 (by rw [lookup_app,hn]; exact if_pos rfl)) a2 a5
  refine ⟨ext_app.trans a1,hx.1,fun hnd=>a3 ?_,fun z hz=>?_,hx.2,fun m h1 h2=>a6 m (fun q' hq'=>?_) fun q' hq'=>h2 q' (.tail _ hq')⟩
  ·rw [List.map_append]
   exact List.nodup_append.mpr ⟨hnd,List.nodup_cons.mpr ⟨nofun,List.nodup_nil⟩,fun a ha b hb e=>lookup_none.mp hn (by rw [e,List.mem_singleton.mp hb] at ha; exact ha)⟩
  ·rcases a4 z hz with y | ⟨y1,q',y2,y3⟩
   ·rw [List.map_append] at y
    rcases List.mem_append.mp y with y | y
    ·exact .inl y
    ·rw [List.mem_singleton.mp y]; exact .inr ⟨(isV_l hv).2,q,.head _,occ_hd hv⟩
   ·exact .inr ⟨y1,q',.tail _ y2,y3⟩
  ·rcases List.mem_append.mp hq' with y | y
   ·exact h1 q' y
   ·rw [List.mem_singleton.mp y]; exact h2 q (.head _)
theorem MS.old (hv:q.1.isV=true) (hn:τ.lookup q.1.hd=some q.2):MS τ W τ'→MS τ (q::W) τ'
 | ⟨a1,a2,a3,a4,a5,a6⟩ =>
  have hx:=MS.var hv (a1 _ _ hn) a2 a5
  ⟨a1,hx.1,a3,fun z hz=>(a4 z hz).imp id fun ⟨y1,q',y2,y3⟩=>⟨y1,q',.tail _ y2,y3⟩,hx.2,fun m h1 h2=>a6 m h1 fun q' hq'=>h2 q' (.tail _ hq')⟩
theorem MS.kids (hv:q.1.isV=false) (hqg:q.1.good=true) (h1:q.1.hd=q.2.hd) (h2:q.1.kids.length=q.2.kids.length):MS τ ((q.1.kids.zip q.2.kids).reverse++W) τ'→MS τ (q::W) τ'
 | ⟨a1,a2,a3,a4,a5,a6⟩=>by
  refine ⟨a1,mem_tail ((plT_kids hv h1 h2).mp fun q' hq'=>a2 q' (List.mem_append_left _ (List.mem_reverse.mpr hq'))) fun q' hq'=>a2 q' (List.mem_append_right _ hq'),a3,fun z hz=>?_,mem_tail (fun z hz ho=>?_) fun q' hq'=>a5 q' (List.mem_append_right _ hq'),fun m g1 g2=>a6 m g1 fun q' hq'=>?_⟩
  ·rcases a4 z hz with y | ⟨y1,q',y2,y3⟩
   ·exact .inl y
   ·rcases List.mem_append.mp y2 with y2 | y2
    ·exact .inr ⟨y1,q,.head _,(occ_zip hv hqg h2 y1).mpr ⟨q',List.mem_reverse.mp y2,y3⟩⟩
    ·exact .inr ⟨y1,q',.tail _ y2,y3⟩
  ·obtain ⟨q'',y1,y2⟩:=(occ_zip hv hqg h2 hz).mp ho
   exact a5 q'' (List.mem_append_left _ (List.mem_reverse.mpr y1)) z hz y2
  ·rcases List.mem_append.mp hq' with y | y
   ·exact Nat.le_trans (Nat.le_of_lt (kids_dep (List.of_mem_zip (List.mem_reverse.mp y)).2).1) (g2 q (.head _))
   ·exact g2 q' (.tail _ y)
end
theorem good_zip {q:T × T} {W:List (T × T)} (hg:∀ q' ∈ q::W,q'.1.good=true):∀ q' ∈ (q.1.kids.zip q.2.kids).reverse++W,q'.1.good=true:=fun q' hq'=>(List.mem_append.mp hq').elim (fun y=>good_kids (hg q (.head _)) (List.of_mem_zip (List.mem_reverse.mp y)).1) fun y=>hg q' (.tail _ y)
theorem mloop_sound:∀ (k:Nat) (τ:Tab) (W:List (T × T)) (τ':Tab),mloop k τ W=some (some τ')→(∀ q ∈ W,q.1.good=true)→MS τ W τ':=by
 intro k
 induction k with
 | zero=>intro τ W τ' h; cases h
 | succ k ih =>
  intro τ W τ' h hg
  rcases W with _ | ⟨q,W⟩
  ·cases h
   exact ⟨ext.refl _,nofun,id,fun z hz=>.inl hz,nofun,fun m h _=>h⟩
  ·have hgW:∀ q ∈ W,q.1.good=true:=fun q hq=>hg q (.tail _ hq)
   exact mstep h (fun hv hn h=>.new hv hn (ih _ _ _ h hgW)) (fun hv hn h=>.old hv hn (ih _ _ _ h hgW)) (fun _ _ _ _ e=>nomatch e) (fun _ _ e=>nomatch e) (fun hv h1 h2 h=>.kids hv (hg q (.head _)) h1 h2 (ih _ _ _ h (good_zip hg)))
theorem mloop_complete:∀ (k:Nat) (τ:Tab) (W:List (T × T)),mloop k τ W=some none→∀ ρ:Tab,ext τ ρ→(∀ q ∈ W,plT ρ q.1=q.2)→(∀ q ∈ W,∀ z,z.isV=true→q.1.occ z=true→(ρ.lookup z).isSome=true)→(∀ q ∈ W,q.1.good=true)→False:=by
 intro k
 induction k with
 | zero=>intro τ W h; cases h
 | succ k ih =>
  intro τ W h ρ he hW hvs hg
  rcases W with _ | ⟨q,W⟩
  ·cases h
  have hgW:∀ q ∈ W,q.1.good=true:=fun q hq=>hg q (.tail _ hq)
  have hvW:∀ q ∈ W,∀ z,z.isV=true→q.1.occ z=true→(ρ.lookup z).isSome=true:=fun q hq=>hvs q (.tail _ hq)
  have hWW:∀ q ∈ W,plT ρ q.1=q.2:=fun q hq=>hW q (.tail _ hq)
  have hq:=hW q (.head _)
  have hu:q.1.isV=true→ρ.lookup q.1.hd=some q.2:=fun hv=>by
   obtain ⟨u,hu⟩:=Option.isSome_iff_exists.mp (hvs q (.head _) q.1.hd (isV_l hv).2 (occ_hd hv))
   rw [hu,← hq,plT_v hv hu]
  refine mstep h (fun hv hn h=>ih _ _ h ρ (fun z v q'=>?_) hWW hvW hgW) (fun hv hn h=>ih _ _ h ρ he hWW hvW hgW) (fun hv u hl e _=>?_) (fun hv hc _=>?_) (fun hv h1 h2 h=>ih _ _ h ρ he (fun q' hq'=>?_) (fun q' hq' z hz ho=>?_) (good_zip hg))
  ·rw [lookup_app] at q'
   cases hz:τ.lookup z with
   | some u=>rw [hz] at q'; exact he _ _ (hz.trans q')
   | none =>
    rw [hz] at q'
    by_cases e:z=q.1.hd
    ·rw [e,hu hv]; exact (if_pos e).symm.trans q'
    ·cases (if_neg e).symm.trans q'
  ·have:=he _ _ hl
   rw [hu hv] at this
   exact e (Option.some.inj this).symm
  ·have hh:=plT_hd hv hq
   exact hc.elim (fun z=>z hh.1) fun z=>z hh.2
  ·exact (List.mem_append.mp hq').elim (fun y=>(plT_kids hv h1 h2).mpr hq q' (List.mem_reverse.mp y)) (hWW q')
  ·exact (List.mem_append.mp hq').elim (fun y=>hvs q (.head _) z hz ((occ_zip hv (hg q (.head _)) h2 hz).mpr ⟨q',List.mem_reverse.mp y,ho⟩)) fun y=>hvW q' y z hz ho
theorem zip_sz {p t:T} (h2:p.kids.length=t.kids.length):((p.kids.zip t.kids).map fun q=>q.1.sz).sum+1=p.sz:=by
 rcases p with a | ⟨a,p⟩ | ⟨a,p,p'⟩ <;> rcases t with c | ⟨c,t⟩ | ⟨c,t,t'⟩ <;> first | (cases h2; done) | rfl | simp [T.kids,T.sz]
theorem mloop_ends:∀ (k:Nat) (τ:Tab) (W:List (T × T)),(W.map fun q=>q.1.sz).sum < k→∃ r,mloop k τ W=some r:=by
 intro k
 induction k with
 | zero=>intro τ W h; exact absurd h (Nat.not_lt_zero _)
 | succ k ih =>
  intro τ W h
  rcases W with _ | ⟨q,W⟩
  ·exact ⟨_,rfl⟩
  rw [List.map_cons,List.sum_cons] at h
  have hz:1≤q.1.sz:=by rcases q.1 with a | ⟨a,p⟩ | ⟨a,p,p'⟩ <;> simp [T.sz]
  have hW:(W.map fun q=>q.1.sz).sum < k:=Nat.lt_of_lt_of_le (Nat.lt_add_of_pos_left hz) (Nat.le_of_lt_succ h)
  refine mstep (r:=mloop (k+1) τ (q::W)) rfl (fun _ _ e=>e ▸ ih _ _ hW) (fun _ _ e=>e ▸ ih _ _ hW) (fun _ _ _ _ e=>⟨_,e.symm⟩) (fun _ _ e=>⟨_,e.symm⟩) fun _ _ h2 e=>e ▸ ih _ _ ?_
  have e2:=zip_sz h2
  rw [List.map_append,List.map_reverse,List.sum_append,List.sum_reverse]
  exact Nat.lt_of_succ_lt_succ (Nat.lt_of_le_of_lt (Nat.le_of_eq (by rw [← e2]; exact Nat.add_right_comm _ _ 1)) h)
theorem kasP2 (cmp:Nat→Nat→Bool):kasRun cmp (kas_sort 2)=bif cmp 1 0 then #[1,0] else #[0,1]:=by
 obtain ⟨k,hk,h2⟩:∃ k,kas_sort 2=.ask 1 0 k∧∀ b,k b=.ret (bif b then #[1,0] else #[0,1]):=⟨_,rfl,fun b=>by cases b <;> rfl⟩
 rw [hk]
 show kasRun cmp (k (cmp 1 0))=_
 rw [h2]
 rfl
theorem sortBy2 {α:Type} (cmp:Nat→Nat→Bool) (a b d:α):sortBy cmp [a,b] d=bif cmp 1 0 then [b,a] else [a,b]:=by
 unfold sortBy
 rw [if_neg (by simp),show [a,b].length=2 from rfl,kasP2]
 cases cmp 1 0 <;> rfl
noncomputable def srt (τ:Tab):Tab:=match τ with
 | [p,q]=>bif strLt q.1.str p.1.str then [q,p] else [p,q]
 | τ=>τ
theorem srt_c (τ:Tab):(∃ p q,τ=[p,q]∧srt τ=bif strLt q.1.str p.1.str then [q,p] else [p,q]) ∨ srt τ=τ:=by
 rcases τ with _ | ⟨p,_ | ⟨q,_ | ⟨r,τ⟩⟩⟩
 ·exact .inr rfl
 ·exact .inr rfl
 ·exact .inl ⟨p,q,rfl,rfl⟩
 ·exact .inr rfl
theorem srt_keys {τ:Tab} (h:τ.length≤2):sortStrs (tk τ)=(srt τ).map fun q=>q.1.str:=by
 match τ,h with
 | [],_=>rfl
 | [q],_=>rfl
 | [p,q],_ =>
  show sortBy _ [p.1.str,q.1.str] default=_
  rw [sortBy2]
  show (bif strLt q.1.str p.1.str then _ else _)=List.map _ (bif strLt q.1.str p.1.str then [q,p] else [p,q])
  cases strLt q.1.str p.1.str <;> rfl
 | _::_::_::_,h=>simp at h
theorem srt_items {τ:Tab} (h:τ.length≤2):sortBy (fun i j=>strLt ((tk τ).getD i default) ((tk τ).getD j default)) (zipD (tk τ) (td τ)) .none=(srt τ).map fun q=>D.tup [.str q.1.str,q.2.enc]:=by
 match τ,h with
 | [],_=>rfl
 | [q],_=>rfl
 | [p,q],_ =>
  show sortBy _ [D.tup [.str p.1.str,p.2.enc],D.tup [.str q.1.str,q.2.enc]] .none=_
  rw [sortBy2]
  show (bif strLt q.1.str p.1.str then _ else _)=List.map _ (bif strLt q.1.str p.1.str then [q,p] else [p,q])
  cases strLt q.1.str p.1.str <;> rfl
 | _::_::_::_,h=>simp at h
theorem srt_lookup {τ:Tab} (hn:(τ.map (·.1)).Nodup) (z:H):(srt τ).lookup z=τ.lookup z:=by
 rcases srt_c τ with ⟨p,q,rfl,e⟩ | e <;> rw [e] <;> clear e
 ·cases strLt q.1.str p.1.str with
  | false=>rfl
  | true =>
   simp only [cond_true]
   have hne:p.1 ≠ q.1:=by simpa using hn
   obtain ⟨ph,pt⟩:=p
   obtain ⟨qh,qt⟩:=q
   simp only [List.lookup_cons,List.lookup_nil]
   by_cases e:z=ph
   ·subst e
    rw [beq_false_of_ne hne]
   ·rw [beq_false_of_ne e]
theorem srt_len (τ:Tab):(srt τ).length=τ.length:=by
 rcases srt_c τ with ⟨p,q,rfl,e⟩ | e <;> rw [e]
 cases strLt _ _ <;> rfl
theorem srt_mem (τ:Tab) {q:H × T}:q ∈ srt τ ↔ q ∈ τ:=by
 rcases srt_c τ with ⟨a,b,rfl,e⟩ | e <;> rw [e]
 ·cases strLt b.1.str a.1.str
  ·rfl
  ·simp only [cond_true,List.mem_cons,List.not_mem_nil,or_false]
   exact or_comm
theorem plT_congr {τ ρ:Tab}:∀ p:T,(∀ z,p.occ z=true→τ.lookup z=ρ.lookup z)→plT τ p=plT ρ p
 | .l h,e=>by simp only [plT,e h (by simp [T.occ])]
 | .u h t,e=>by simp only [plT,plT_congr t fun z hz=>e z (by simp [T.occ,hz])]
 | .b h t v,e=>by simp only [plT,plT_congr t fun z hz=>e z (by simp [T.occ,hz]),plT_congr v fun z hz=>e z (by simp [T.occ,hz])]
noncomputable def mT (p t:T):Option Tab:=(mloop 100 [] [(p,t)]).getD none
theorem one1 {a:H} (h:a.isV=true):a=.x ∨ a=.y:=by cases a <;> first | exact .inl rfl | exact .inr rfl | cases h
theorem two2 {a c:H} (h:a.isV=true) (h2:c.isV=true) (hne:a ≠ c):(a=.x∧c=.y) ∨ (a=.y∧c=.x) :=
 (one1 h).elim (fun e=>(one1 h2).elim (fun e2=>absurd (e.trans e2.symm) hne) fun e2=>.inl ⟨e,e2⟩) fun e=>(one1 h2).elim (fun e2=>.inr ⟨e,e2⟩) fun e2=>absurd (e.trans e2.symm) hne
theorem no3 {a c d:H} (h:a.isV=true) (h2:c.isV=true) (h3:d.isV=true) (hne:a ≠ c) (hne2:a ≠ d):c=d:=by
 rcases two2 h h2 hne with ⟨e1,e2⟩ | ⟨e1,e2⟩ <;> rcases two2 h h3 hne2 with ⟨e3,e4⟩ | ⟨e3,e4⟩
 ·exact e2.trans e4.symm
 ·exact absurd (e1.symm.trans e3) (by decide)
 ·exact absurd (e1.symm.trans e3) (by decide)
 ·exact e2.trans e4.symm
theorem srt_xy {τ:Tab} (hn:(τ.map (·.1)).Nodup) (hv:∀ z ∈ τ.map (·.1),z.isV=true):τ.length≤2∧(srt τ).map (·.1)=[H.x,H.y].filter fun z=>decide (z ∈ τ.map (·.1)):=by
 rcases τ with _ | ⟨⟨a,v⟩,_ | ⟨⟨c,u⟩,_ | ⟨⟨d,t⟩,r⟩⟩⟩
 ·exact ⟨Nat.zero_le _,rfl⟩
 ·refine ⟨Nat.le_of_ble_eq_true rfl,?_⟩
  rcases one1 (hv a (.head _)) with e | e <;> rw [e] <;> rfl
 ·refine ⟨Nat.le_refl _,?_⟩
  have h:=List.nodup_cons.mp hn
  rcases two2 (hv a (.head _)) (hv c (.tail _ (.head _))) (fun e=>h.1 (e ▸ .head _)) with ⟨e1,e2⟩ | ⟨e1,e2⟩ <;> rw [e1,e2]
  ·show ((bif strLt H.y.str H.x.str then [(H.y,u),(H.x,v)] else [(H.x,v),(H.y,u)]:Tab)).map _=_
   rw [show strLt H.y.str H.x.str=false by decide +kernel]; rfl
  ·show ((bif strLt H.x.str H.y.str then [(H.x,u),(H.y,v)] else [(H.y,v),(H.x,u)]:Tab)).map _=_
   rw [show strLt H.x.str H.y.str=true by decide +kernel]; rfl
 ·have h:=List.nodup_cons.mp hn
  have h2:=List.nodup_cons.mp h.2
  exact absurd (no3 (hv a (.head _)) (hv c (.tail _ (.head _))) (hv d (.tail _ (.tail _ (.head _)))) (fun e=>h.1 (e ▸ .head _)) (fun e=>h.1 (e ▸ .tail _ (.head _)))) fun e=>h2.1 (e ▸ .head _)
theorem m_some {p t:T} {τ:Tab} (hg:p.good=true) (h:mloop 100 [] [(p,t)]=some (some τ)):(τ.map (·.1)).Nodup∧τ.length≤2∧(srt τ).map (·.1)=varH p∧plT τ p=t∧∀ q ∈ τ,q.2.dep≤t.dep:=by
 obtain ⟨a1,a2,a3,a4,a5,a6⟩:=mloop_sound 100 [] [(p,t)] τ h (fun q hq=>by rw [List.mem_singleton.mp hq]; exact hg)
 clear h a1
 have hn:=a3 List.nodup_nil
 have hv:∀ z,z ∈ τ.map (·.1)→z.isV=true∧p.occ z=true:=fun z hz=>by
  rcases a4 z hz with y | ⟨y,q,y1,y2⟩
  ·cases y
  ·rw [List.mem_singleton.mp y1] at y2; exact ⟨y,y2⟩
 have hs:=srt_xy hn fun z hz=>(hv z hz).1
 refine ⟨hn,hs.1,hs.2.trans (List.filter_congr fun z hz=>?_),a2 (p,t) (.head _),a6 t.dep nofun fun q hq=>by rw [List.mem_singleton.mp hq]; exact Nat.le_refl _⟩
 have hz:z.isV=true:=(List.mem_cons.mp hz).elim (fun e=>e ▸ rfl) fun e=>List.mem_singleton.mp e ▸ rfl
 exact Bool.eq_iff_iff.mpr ⟨fun h=>(hv z (of_decide_eq_true h)).2,fun h=>decide_eq_true (a5 (p,t) (.head _) z hz h)⟩
theorem m_ends {p:T} (hz:p.sz < 100) (t:T):mloop 100 [] [(p,t)]=some (mT p t):=by
 obtain ⟨r,hr⟩:=mloop_ends 100 [] [(p,t)] (by simpa using hz)
 unfold mT
 rw [hr]; rfl
theorem plT_inj {τ ρ:Tab}:∀ p:T,plT τ p=plT ρ p→∀ z,z.isV=true→p.occ z=true→∀ a b,τ.lookup z=some a→ρ.lookup z=some b→a=b
 | .l h,e,z,hz,ho,a,b,ha,hb=>by
  have:h=z:=by simpa [T.occ] using ho
  subst this
  simpa [plT,hz,ha,hb] using e
 | .u h t,e,z,hz,ho,a,b,ha,hb=>by
  simp only [plT,T.u.injEq,true_and] at e
  exact plT_inj t e z hz (by simpa [T.occ] using ho) a b ha hb
 | .b h t v,e,z,hz,ho,a,b,ha,hb=>by
  simp only [plT,T.b.injEq,true_and] at e
  simp only [T.occ,Bool.or_eq_true] at ho
  rcases ho with ho | ho
  ·exact plT_inj t e.1 z hz ho a b ha hb
  ·exact plT_inj v e.2 z hz ho a b ha hb
noncomputable def sub:Nat→T→List T
 | 0,t=>[t]
 | k+1,t=>t::t.kids.flatMap (sub k)
theorem sub_val {τ:Tab} {z:H} {a:T} (hz:z.isV=true) (ha:τ.lookup z=some a):∀ (p:T) (k:Nat),p.dep≤k→p.good=true→p.occ z=true→a ∈ sub k (plT τ p)
 | .l h,k,hk,hg,ho=>by
  have:h=z:=by simpa [T.occ] using ho
  subst this
  simp only [plT,hz,if_true,ha,Option.getD_some]
  cases k <;> simp [sub]
 | .u h t,k,hk,hg,ho=>by
  cases k with
  | zero=>simp [T.dep] at hk
  | succ k =>
   simp only [T.good,Bool.and_eq_true] at hg
   have:=sub_val hz ha t k (by simpa [T.dep] using hk) hg.2 (by simpa [T.occ] using ho)
   simp only [plT,sub,T.kids]
   simp [this]
 | .b h t v,k,hk,hg,ho=>by
  cases k with
  | zero=>simp [T.dep] at hk
  | succ k =>
   simp only [T.good,Bool.and_eq_true] at hg
   simp only [T.dep] at hk
   simp only [T.occ,Bool.or_eq_true] at ho
   simp only [plT,sub,T.kids]
   rcases ho with ho | ho
   ·have:=sub_val hz ha t k (Nat.le_trans (Nat.le_max_left ..) (Nat.le_of_succ_le_succ hk)) hg.1.2 ho
    simp [this]
   ·have:=sub_val hz ha v k (Nat.le_trans (Nat.le_max_right ..) (Nat.le_of_succ_le_succ hk)) hg.2 ho
    simp [this]
theorem sub_near (t v:T) (h:v ∈ sub 2 t):v ∈ near t:=by
 simp only [sub,List.mem_cons,List.mem_flatMap,List.mem_singleton] at h
 simp only [near,List.cons_append,List.mem_cons,List.mem_append,List.mem_flatMap]
 rcases h with h | ⟨z,h1,h2⟩
 ·exact .inl h
 ·rcases h2 with h2 | ⟨y,h3,h4⟩
  ·subst h2; exact .inr (.inl h1)
  ·simp only [List.flatMap_cons,List.flatMap_nil,List.append_nil,List.not_mem_nil,or_false] at h4
   subst h4
   exact .inr (.inr ⟨z,h1,h3⟩)
theorem mem_fold {ns:List T}:∀ (zs:List H) (tabs:List Tab) (τ1 τ2:Tab),τ1 ∈ tabs→τ2.map (·.1)=zs→(∀ q ∈ τ2,q.2 ∈ ns)→τ1++τ2 ∈ zs.foldl (addN ns) tabs
 | [],tabs,τ1,τ2,h1,h2,h3=>by
  have:τ2=[]:=List.map_eq_nil_iff.mp h2
  subst this
  simpa using h1
 | z::zs,tabs,τ1,τ2,h1,h2,h3=>by
  match τ2,h2 with
  | q::τ2,h2 =>
   simp only [List.map_cons,List.cons.injEq] at h2
   rw [List.foldl_cons]
   have:=mem_fold zs (addN ns tabs z) (τ1++[q]) τ2 (List.mem_flatMap.mpr ⟨τ1,h1,List.mem_map.mpr ⟨q.2,h3 q (.head _),by rw [← h2.1]⟩⟩) h2.2 fun q' hq'=>h3 q' (.tail _ hq')
   simpa using this
theorem fold_keys {ns:List T}:∀ (zs:List H) (tabs:List Tab) (done:List H),(∀ τ ∈ tabs,τ.map (·.1)=done)→∀ τ ∈ zs.foldl (addN ns) tabs,τ.map (·.1)=done++zs
 | [],tabs,done,h,τ,hτ=>by simpa using h τ hτ
 | z::zs,tabs,done,h,τ,hτ=>by
  have:=fold_keys zs (addN ns tabs z) (done++[z]) (fun τ hτ=>by
   obtain ⟨τ0,h1,h2⟩:=List.mem_flatMap.mp hτ
   obtain ⟨v,h3,rfl⟩:=List.mem_map.mp h2
   rw [List.map_append,h _ h1]; rfl) τ hτ
  simpa using this
theorem lookup_of_key {τ:Tab} {z:H} (h:z ∈ τ.map (·.1)):∃ v,τ.lookup z=some v:=by
 cases e:τ.lookup z with
 | some v=>exact ⟨v,rfl⟩
 | none=>exact absurd h (lookup_none.mp e)
theorem tab_ext:∀ {τ ρ:Tab},(τ.map (·.1)).Nodup→τ.map (·.1)=ρ.map (·.1)→(∀ z a b,τ.lookup z=some a→ρ.lookup z=some b→a=b)→τ=ρ
 | [],ρ,_,h,_=>(List.map_eq_nil_iff.mp h.symm).symm
 | q::τ,[],_,h,_=>by cases h
 | q::τ,r::ρ,hn,h,hl=>by
  simp only [List.map_cons,List.cons.injEq] at h
  rw [List.map_cons,List.nodup_cons] at hn
  have e1:q.2=r.2:=hl q.1 q.2 r.2 (by rw [List.lookup_cons]; simp) (by rw [List.lookup_cons,h.1]; simp)
  have e2:q=r:=Prod.ext h.1 e1
  subst e2
  congr 1
  refine tab_ext hn.2 h.2 fun z a b ha hb=>?_
  have hz:z ≠ q.1:=fun e=>hn.1 (by rw [← e]; exact lookup_key (by rw [ha]; rfl))
  exact hl z a b (by rw [List.lookup_cons,beq_false_of_ne hz]; exact ha) (by rw [List.lookup_cons,beq_false_of_ne hz]; exact hb)
theorem varH_mem {p:T} {z:H}:z ∈ varH p ↔ z.isV=true∧p.occ z=true:=by
 unfold varH
 simp only [List.mem_filter,List.mem_cons,List.not_mem_nil,or_false]
 constructor
 ·rintro ⟨rfl | rfl,h⟩ <;> exact ⟨rfl,h⟩
 ·rintro ⟨h,h2⟩
  cases z <;> simp [H.isV] at h <;> simp [h2]
theorem found_eq {p:T} (hg:p.good=true) (hd:p.dep≤2) (hz:p.sz < 100) (t:T):fT p t=(mT p t).map srt:=by
 have hm:=m_ends hz t
 have hkeys:∀ τ ∈ candT p t,τ.map (·.1)=varH p:=fun τ hτ=>by
  have:=fold_keys (varH p) (tab0 p t) [] (fun τ hτ=>by
   unfold tab0 at hτ
   split at hτ
   ·simp at hτ; subst hτ; rfl
   ·cases hτ) τ hτ
  simpa using this
 unfold fT
 cases hr:mT p t with
 | none =>
  rw [hr] at hm
  have:fitsT p t=[]:=by
   unfold fitsT
   rw [List.filter_eq_nil_iff]
   intro τ hτ hpl
   simp only [decide_eq_true_eq] at hpl
   refine mloop_complete 100 [] [(p,t)] hm τ (fun z v h=>by cases h) (fun q hq=>by simp at hq; subst hq; exact hpl) (fun q hq z z1 z2=>?_) fun q hq=>by simp at hq; subst hq; exact hg
   simp at hq; subst hq
   obtain ⟨v,hv⟩:=lookup_of_key (τ:=τ) (z:=z) (by rw [hkeys τ hτ]; exact varH_mem.mpr ⟨z1,z2⟩)
   rw [hv]; rfl
  rw [this]; rfl
 | some τ =>
  rw [hr] at hm
  obtain ⟨a1,a2,a3,a4,a5⟩:=m_some hg hm
  have hs:plT (srt τ) p=t:=by rw [← a4]; exact plT_congr p fun z _=>srt_lookup a1 z
  have h0:tab0 p t=[[]]:=by
   unfold tab0
   cases hv:p.isV with
   | true=>rw [(isV_l hv).2]; rfl
   | false =>
    obtain ⟨b1,b2⟩:=plT_hd hv a4
    rw [decide_eq_true b1,decide_eq_true b2]; simp
  have hmem:srt τ ∈ candT p t:=by
   have:=mem_fold (ns:=near t) (varH p) (tab0 p t) [] (srt τ) (by rw [h0]; simp) a3 fun q hq=>by
    have hk:q.1 ∈ varH p:=by rw [← a3]; exact List.mem_map_of_mem hq
    obtain ⟨k1,k2⟩:=varH_mem.mp hk
    have hnd:((srt τ).map (·.1)).Nodup:=by rw [a3]; exact varH_nodup p
    have hl:(srt τ).lookup q.1=some q.2:=by
     clear hs a3 hk
     generalize srt τ=ρ at hq hnd
     induction ρ with
     | nil=>cases hq
     | cons r ρ ih =>
      rw [List.map_cons,List.nodup_cons] at hnd
      rcases List.mem_cons.mp hq with rfl | hq
      ·rw [List.lookup_cons]; simp
      ·have:q.1 ≠ r.1:=fun e=>hnd.1 (by rw [← e]; exact List.mem_map_of_mem hq)
       rw [List.lookup_cons,beq_false_of_ne this]
       exact ih hq hnd.2
    have:=sub_val k1 hl p 2 hd hg k2
    rw [hs] at this
    exact sub_near _ _ this
   simpa [candT] using this
  have hfit:srt τ ∈ fitsT p t:=List.mem_filter.mpr ⟨hmem,decide_eq_true hs⟩
  have hall:∀ ρ ∈ fitsT p t,ρ=srt τ:=fun ρ hρ=>by
   obtain ⟨b1,b2⟩:=List.mem_filter.mp hρ
   have b2:=of_decide_eq_true b2
   have k1:=hkeys ρ b1
   refine tab_ext (by rw [k1]; exact varH_nodup p) (by rw [k1,a3]) fun z a b ha hb=>?_
   have hz:z ∈ varH p:=by rw [← k1]; exact lookup_key (by rw [ha]; rfl)
   obtain ⟨z1,z2⟩:=varH_mem.mp hz
   exact plT_inj p (by rw [b2,hs]) z z1 z2 a b ha hb
  cases hf:fitsT p t with
  | nil=>rw [hf] at hfit; cases hfit
  | cons ρ r=>rw [hf] at hall; rw [hall ρ (.head _)]; rfl
structure Side where
 kind:Str
 name:Str
 L:T
 R:T
noncomputable def Side.enc (x:Side):D:=.tup [.str x.kind,.str x.name,x.L.enc,x.R.enc]
structure Row where
 kind:Str
 name:Str
 pl:Tab
 back:Bool
 t:T
noncomputable def Row.enc (r:Row):D:=.tup [.str r.kind,.str r.name,.tup (r.pl.map fun q=>.tup [.str q.1.str,q.2.enc]),.bool r.back,r.t.enc]
noncomputable def rowOf (x:Side) (back:Bool) (other:T) (m:Option Tab):List Row:=match m with
 | none=>[]
 | some τ=>if (srt τ).map (·.1)=varH x.L then [⟨x.kind,x.name,srt τ,back,plT τ other⟩] else []
noncomputable def rows1 (x:Side) (t:T):List Row:=rowOf x false x.R (mT x.L t)++rowOf x true x.L (mT x.R t)
noncomputable def rowsT (xs:List Side) (t:T):List Row:=xs.flatMap fun x=>rows1 x t
noncomputable def okSide (x:Side):Prop:=x.L ∈ pats∧x.R ∈ pats∧∀ z,z ∈ varH x.R→z ∈ varH x.L
theorem pats_dep:∀ p ∈ pats,p.dep≤2∧p.sz < 100:=by decide
theorem eqD_hs (as bs:List H):eqD (.lst (as.map fun z=>.str z.str)) (.lst (bs.map fun z=>.str z.str))=some (decide (as=bs)):=by
 have hp:∀ as:List H,(D.lst (as.map fun z=>.str z.str)).pl 60=true:=fun as=>by
  simp only [pl_none,pl_bool,pl_str,pl_int,pl_raw,pl_dct,pl_obj,pl_tup0,pl_tup,pl_lst0,pl_lst]
  refine pls_iff.mpr fun d hd=>?_
  obtain ⟨z,_,rfl⟩:=List.mem_map.mp hd
  simp only [pl_none,pl_bool,pl_str,pl_int,pl_raw,pl_dct,pl_obj,pl_tup0,pl_tup,pl_lst0,pl_lst,str_ok]
 rw [eqD_pl (hp as) (hp bs)]
 refine congrArg some ?_
 by_cases e:as=bs
 ·subst e; simp
 ·rw [decide_eq_false e]
  refine @decide_eq_false _ (Classical.propDecidable _) (fun z=>e ?_)
  simp only [D.lst.injEq] at z
  refine (List.map_inj_right fun x y h=>?_).mp z
  simp only [D.str.injEq] at h
  exact H.str_inj h
theorem bi_keys {τ:Tab} (h:τ.length≤2):biD .sortKeys (encTab τ)=some (.lst ((srt τ).map (·.1) |>.map fun z=>.str z.str)) :=
 (lim_of (decide_eq_true (by rw [tk_len]; exact lwt h))).trans (by rw [srt_keys h,List.map_map,List.map_map]; rfl)
theorem bi_items {τ:Tab} (h:τ.length≤2) (hn:(τ.map (·.1)).Nodup):biD .sortItems (encTab τ)=some (.lst ((srt τ).map fun q=>.tup [.str q.1.str,q.2.enc])) :=
 (lim_of (Bool.and_eq_true_iff.mpr ⟨decide_eq_true (by rw [tk_len]; exact lwt h),decide_eq_true (tk_nodup.mpr hn)⟩)).trans (by rw [srt_items h])
theorem okTab {x:Side} (hx:okSide x) {τ:Tab} (h:(srt τ).map (·.1)=varH x.L) (hn:(τ.map (·.1)).Nodup) {p:T} (hp:p=x.L ∨ p=x.R):∀ z,p.occ z=true→z.isV=true→(τ.lookup z).isSome=true:=by
 intro z h1 h2
 have hz:z ∈ varH x.L:=by
  rcases hp with rfl | rfl
  ·exact varH_mem.mpr ⟨h2,h1⟩
  ·exact hx.2.2 z (varH_mem.mpr ⟨h2,h1⟩)
 rw [← h] at hz
 rw [← srt_lookup hn]
 obtain ⟨v,hv⟩:=lookup_of_key hz
 rw [hv]; rfl
noncomputable def tIn:List S:=[(.asg 4 (.call 4 [(.var 21),(.var 1)])),
  (.ife (.andE (.cmp .IsNot (.var 4) .none) (.cmp .Eq (.bi .sortKeys (.var 4)) (.call 1 [(.var 19)]))) [(.asg 24 (.bi .tuple (.bi .sortItems (.var 4)))),
  (.expr (.app (.var 6) (.tup [(.var 17),(.var 18),(.var 24),(.var 23),(.call 2 [(.var 22),(.var 4)])])))] [])]
structure tEnv (x:Side) (one other t:T) (back:Bool) (k:Nat) (env:Env'):Prop where
 e21:env.lookup 21=some (.d one.enc)
 e22:env.lookup 22=some (.d other.enc)
 e23:env.lookup 23=some (.d (.bool back))
 e17:env.lookup 17=some (.d (.str x.kind))
 e18:env.lookup 18=some (.d (.str x.name))
 e19:env.lookup 19=some (.d x.L.enc)
 e6:env.lookup 6=some (.loc k)
theorem t_step (n:Nat) (σ:Sto) (ho:okS σ) {x:Side} (hx:okSide x) {one other t:T} {back:Bool} (ho1:one=x.L ∨ one=x.R) (ho2:other=x.L ∨ other=x.R) (ht:t.dep < 40) {env:Env'} (he:tEnv x one other t back σ.length env) (e1:env.lookup 1=some (.d t.enc)) (rs:List Row) (hl:rs.length≤100) :
  ∃ env',(lv fns clss (n+120)).s env (σ++[.lst (rs.map Row.enc)]) tIn=some (.next,env',σ++[.lst ((rs++rowOf x back other (mT one t)).map Row.enc)])∧∀ i,i ≠ 4→i ≠ 24→env'.lookup i=env.lookup i:=by
 have hone:one ∈ pats:=ho1.elim (fun e=>e ▸ hx.1) fun e=>e ▸ hx.2.1
 have hoth:other ∈ pats:=ho2.elim (fun e=>e ▸ hx.1) fun e=>e ▸ hx.2.1
 have hok:okS (σ++[.lst (rs.map Row.enc)]):=by simp only [okS_app,okS_lst,okS_nil,ho,and_self]
 have hm:=m_ends (pats_dep one hone).2 t
 have h1:evS1 (lv fns clss (n+119)) env (σ++[.lst (rs.map Row.enc)]) (.asg 4 (.call 4 [(.var 21),(.var 1)]))=some (.next,(4,.d (encR (mT one t)))::env,σ++[.lst (rs.map Row.enc)]) :=
  s_asg (r_call (r_cons (r_var he.e21) (r_cons (r_var e1) r_nil)) (c4 hm (Nat.lt_trans ht (by decide)) (n+88) _ hok))
 cases hr:mT one t with
 | none =>
  rw [hr] at h1
  rw [show rowOf x back other none=[] from rfl,List.append_nil]
  exact ⟨(4,.d .none)::env,ss_next h1 (ss_one (s_ifF (r_test (r_andF (r_cmp (r_D (r_var rfl)) (r_D r_none) rfl))) ss_nil)),fun i i1 i2=>by rw [List.lookup_cons,beq_false_of_ne i1]⟩
 | some τ =>
  rw [hr] at hm h1
  obtain ⟨a1,a2,-,-,-⟩:=m_some (pats_good one hone) hm
  clear hr hm hone ho1
  have htest:test (lv fns clss (n+118)) ((4,.d (encTab τ))::env) (σ++[.lst (rs.map Row.enc)]) (.andE (.cmp .IsNot (.var 4) .none) (.cmp .Eq (.bi .sortKeys (.var 4)) (.call 1 [(.var 19)])))=some (decide ((srt τ).map (·.1)=varH x.L),σ++[.lst (rs.map Row.enc)]) :=
   r_test (r_and (b:=true) (r_cmp (r_D (r_var rfl)) (r_D r_none) rfl) (r_cmp (r_D (r_bi (b:=.sortKeys) (by decide) (r_D (r_var rfl)) (bi_keys a2))) (r_D (r_call (r_cons (r_var he.e19) r_nil) (c1 hx.1 (n+45) _ hok))) (eqD_hs _ _)))
  by_cases hc:(srt τ).map (·.1)=varH x.L
  ·rw [decide_eq_true hc] at htest
   rw [show rowOf x back other (some τ)=[(⟨x.kind,x.name,srt τ,back,plT τ other⟩:Row)] from if_pos hc,List.map_append]
   exact ⟨_,ss_next h1 (ss_one (s_ifT htest (ss_next (s_asg (r_bi (b:=.tuple) (by decide) (r_D (r_bi (b:=.sortItems) (by decide) (r_D (r_var rfl)) (bi_items a2 a1))) (lim_of (small_of (by rw [List.length_map,srt_len]; exact Nat.le_trans a2 (by decide))))))
    (ss_one (s_expr (r_D (r_app (r_var he.e6) (gA0 σ _) (r_D (r_tup (r_dcons (r_D (r_var he.e17)) (r_dcons (r_D (r_var he.e18)) (r_dcons (r_D (r_var rfl)) (r_dcons (r_D (r_var he.e23)) (r_dcons (r_D (r_call (r_cons (r_var he.e22) (r_cons (r_var rfl) r_nil)) (c2 other (n+113) _ (dpw (pats_dep other hoth).1) (okTab hx hc a1 ho2) hok))) r_dnil)))))))
     (gA0 σ _) (small_of (by rw [List.length_append,List.length_map]; exact Nat.le_trans (Nat.add_le_add_right hl 1) (by decide))) (sA0 σ _ _)))))))),
    fun i i1 i2=>by rw [List.lookup_cons,beq_false_of_ne i2,List.lookup_cons,beq_false_of_ne i1]⟩
  ·rw [decide_eq_false hc] at htest
   rw [show rowOf x back other (some τ)=[] from if_neg hc,List.append_nil]
   exact ⟨_,ss_next h1 (ss_one (s_ifF htest ss_nil)),fun i i1 i2=>by rw [List.lookup_cons,beq_false_of_ne i1]⟩
noncomputable def tBody:List S:=[(.forD (.tup [21,22,23]) (.tup [(.tup [(.var 19),(.var 20),(.bool false)]),(.tup [(.var 20),(.var 19),(.bool true)])]) tIn)]
theorem rowOf_len {x:Side} {b:Bool} {o:T} {m:Option Tab}:(rowOf x b o m).length≤1:=by
 unfold rowOf
 split
 ·exact Nat.zero_le 1
 ·split
  ·exact Nat.le_refl 1
  ·exact Nat.zero_le 1
theorem t_side (n:Nat) (σ:Sto) (ho:okS σ) {x:Side} (hx:okSide x) {t:T} (ht:t.dep < 40) {env:Env'} (e17:env.lookup 17=some (.d (.str x.kind))) (e18:env.lookup 18=some (.d (.str x.name))) (e19:env.lookup 19=some (.d x.L.enc)) (e20:env.lookup 20=some (.d x.R.enc)) (e6:env.lookup 6=some (.loc σ.length)) (e1:env.lookup 1=some (.d t.enc)) (rs:List Row) (hl:rs.length≤90) :
  ∃ env',(lv fns clss (n+122)).s env (σ++[.lst (rs.map Row.enc)]) tBody=some (.next,env',σ++[.lst ((rs++rows1 x t).map Row.enc)])∧∀ i,i=1 ∨ i=6→env'.lookup i=env.lookup i:=by
 obtain ⟨env1,a1,a2⟩:=t_step (n+1) σ ho hx (one:=x.L) (other:=x.R) (back:=false) (.inl rfl) (.inr rfl) ht (env:=[(23,.d (.bool false)),(22,.d x.R.enc),(21,.d x.L.enc)]++env) ⟨rfl,rfl,rfl,e17,e18,e19,e6⟩ e1 rs (Nat.le_trans hl (by decide))
 obtain ⟨env2,b1,b2⟩:=t_step (n+1) σ ho hx (one:=x.R) (other:=x.L) (back:=true) (.inr rfl) (.inl rfl) ht (env:=[(23,.d (.bool true)),(22,.d x.L.enc),(21,.d x.R.enc)]++env1) ⟨rfl,rfl,rfl,(a2 17 (by decide) (by decide)).trans e17,(a2 18 (by decide) (by decide)).trans e18,(a2 19 (by decide) (by decide)).trans e19,(a2 6 (by decide) (by decide)).trans e6⟩
  ((a2 1 (by decide) (by decide)).trans e1) (rs++rowOf x false x.R (mT x.L t)) (by rw [List.length_append]; exact Nat.add_le_add hl (Nat.le_trans rowOf_len (by decide:1≤10)))
 rw [rows1,← List.append_assoc]
 exact ⟨env2,ss_one (s_forD (r_D (r_tup (r_dcons (r_D (r_tup (r_dcons (r_D (r_var e19)) (r_dcons (r_D (r_var e20)) (r_dcons (r_D r_bool) r_dnil))))) (r_dcons (r_D (r_tup (r_dcons (r_D (r_var e20)) (r_dcons (r_D (r_var e19)) (r_dcons (r_D r_bool) r_dnil))))) r_dnil)))) (lim_of rfl) (fl_next rfl a1 (fl_next rfl b1 fl_nil))),
  fun i hi=>by rcases hi with rfl | rfl <;> exact (b2 _ (by decide) (by decide)).trans (a2 _ (by decide) (by decide))⟩
theorem rows1_len (x:Side) (t:T):(rows1 x t).length≤2:=by
 rw [rows1,List.length_append]; exact Nat.add_le_add rowOf_len rowOf_len
theorem tw {a b m:Nat} (hl:a+2 * (b+1)≤90) (hr:m≤2):a+m+2 * b≤90:=by
 rw [Nat.add_assoc,Nat.add_comm m]
 exact Nat.le_trans (Nat.add_le_add_left (Nat.add_le_add_left hr _) a) hl
theorem rowsT_len (xs:List Side) (t:T):(rowsT xs t).length≤2 * xs.length:=by
 unfold rowsT
 induction xs with
 | nil=>simp
 | cons x xs ih=>rw [List.flatMap_cons,List.length_append,List.length_cons]; exact Nat.le_trans (Nat.add_le_add (rows1_len x t) ih) (Nat.le_of_eq (Nat.add_comm 2 (2 * xs.length)))
theorem t_sides (n:Nat) (σ:Sto) (ho:okS σ) {t:T} (ht:t.dep < 40):∀ (xs:List Side) (rs:List Row) (env:Env'),(∀ x ∈ xs,okSide x)→rs.length+2 * xs.length≤90→env.lookup 6=some (.loc σ.length)→env.lookup 1=some (.d t.enc) →
  ∃ env',forL (lv fns clss (n+122)) (.tup [17,18,19,20]) tBody (xs.map Side.enc) env (σ++[.lst (rs.map Row.enc)])=some (.next,env',σ++[.lst ((rs++rowsT xs t).map Row.enc)])∧env'.lookup 6=some (.loc σ.length)
 | [],rs,env,hx,hl,e6,e1=>⟨env,by rw [show rs++rowsT [] t=rs from List.append_nil _]; rfl,e6⟩
 | x::xs,rs,env,hx,hl,e6,e1=>by
  rw [List.length_cons] at hl
  have hr:=rows1_len x t
  obtain ⟨env1,a1,a2⟩:=t_side n σ ho (hx x (.head _)) ht (env:=[(20,.d x.R.enc),(19,.d x.L.enc),(18,.d (.str x.name)),(17,.d (.str x.kind))]++env) rfl rfl rfl rfl e6 e1 rs (adL hl)
  obtain ⟨env2,b1,b2⟩:=t_sides n σ ho ht xs (rs++rows1 x t) env1 (fun y hy=>hx y (.tail _ hy)) (by rw [List.length_append]; exact tw hl hr) (by rw [a2 6 (.inr rfl)]; exact e6) (by rw [a2 1 (.inl rfl)]; exact e1)
  rw [show rs++rowsT (x::xs) t=rs++rows1 x t++rowsT xs t by rw [List.append_assoc]; rfl]
  exact ⟨env2,fl_next rfl a1 b1,b2⟩
theorem c6 {xs:List Side} (hxs:∀ x ∈ xs,okSide x) (hl:xs.length≤10) {ks:List Str} {ds:List D} (hs:look (sx "sides") ks ds=some (.lst (xs.map Side.enc))) {t:T} (ht:t.dep < 40) (n:Nat) (σ:Sto) (ho:okS σ) :
  (lv fns clss (n+130)).c 6 [.d (.obj 187 ks ds),.d t.enc] σ=some (.lst ((rowsT xs t).map Row.enc),σ):=by
 rw [lvC]
 have h1:evS1 (lv fns clss (n+128)) [(1,.d t.enc),(11,.d (.obj 187 ks ds))] σ (.asg 6 (.newL []))=some (.next,[(6,.loc σ.length),(1,.d t.enc),(11,.d (.obj 187 ks ds))],σ++[.lst []]) :=
  s_asg (r_newL r_dnil)
 obtain ⟨env',a1,a2⟩:=t_sides (n+5) σ ho ht xs [] [(6,.loc σ.length),(1,.d t.enc),(11,.d (.obj 187 ks ds))] hxs (by rw [List.length_nil,Nat.zero_add]; exact lw (Nat.mul_le_mul_left 2 hl)) rfl rfl
 exact evC_mk (f:=6) (σ:=σ) (vs:=[.d (.obj 187 ks ds),.d t.enc]) (g:=f_Seeker_turns) (τ:=[.gone]) (fl:=.ret (.lst ((rowsT xs t).map Row.enc))) (env':=env') rfl rfl
  (ss_next h1 (ss_next (s_forD (r_D (r_attrD (r_var rfl) hs)) (lim_of (small_of (by rw [List.length_map]; exact Nat.le_trans hl (by decide)))) a1) (ss_ret (s_ret (r_D (r_frz a2 (by unfold freeze; rw [gA0]; rfl) (sA0 σ _ _))))))) ho
theorem srt_srt:∀ τ:Tab,srt (srt τ)=srt τ
 | []=>rfl
 | [_]=>rfl
 | _::_::_::_=>rfl
 | [a,b]=>by
  show srt (bif strLt b.1.str a.1.str then [b,a] else [a,b])=(bif strLt b.1.str a.1.str then [b,a] else [a,b])
  cases h:strLt b.1.str a.1.str with
  | false =>
   show (bif strLt b.1.str a.1.str then [b,a] else [a,b])=[a,b]
   rw [h]; rfl
  | true =>
   have:strLt a.1.str b.1.str=false:=by
    have h':=of_decide_eq_true h
    exact decide_eq_false fun q=>absurd (Std.lt_trans h' q) Std.lt_irrefl
   show (bif strLt a.1.str b.1.str then [a,b] else [b,a])=[b,a]
   rw [this]; rfl
noncomputable def dIn:List S:=[(.asg 4 (.call 14 [(.var 21),(.var 0)])),
  (.ife (.andE (.cmp .IsNot (.var 4) .none) (.cmp .Eq (.bi .sortKeys (.var 4)) (.call 12 [(.var 19)]))) [(.expr (.app (.var 6) (.tup [(.var 17),(.var 18),(.bi .tuple (.bi .sortItems (.var 4))),(.var 23),(.call 13 [(.var 22),(.var 4)])])))] [])]
theorem d_step (n:Nat) (σ:Sto) (ho:okS σ) {x:Side} (hx:okSide x) {one other t:T} {back:Bool} (ho1:one=x.L ∨ one=x.R) (ho2:other=x.L ∨ other=x.R) (ht:t.dep < 40) {env:Env'} (he:tEnv x one other t back σ.length env) (e1:env.lookup 0=some (.d t.enc)) (rs:List Row) (hl:rs.length≤100) :
  ∃ env',(lv fns clss (n+120)).s env (σ++[.lst (rs.map Row.enc)]) dIn=some (.next,env',σ++[.lst ((rs++rowOf x back other (mT one t)).map Row.enc)])∧∀ i,i ≠ 4→env'.lookup i=env.lookup i:=by
 have hone:one ∈ pats:=ho1.elim (fun e=>e ▸ hx.1) fun e=>e ▸ hx.2.1
 have hoth:other ∈ pats:=ho2.elim (fun e=>e ▸ hx.1) fun e=>e ▸ hx.2.1
 have hok:okS (σ++[.lst (rs.map Row.enc)]):=by simp only [okS_app,okS_lst,okS_nil,ho,and_self]
 have hm:=m_ends (pats_dep one hone).2 t
 have h1:evS1 (lv fns clss (n+119)) env (σ++[.lst (rs.map Row.enc)]) (.asg 4 (.call 14 [(.var 21),(.var 0)]))=some (.next,(4,.d (encR ((mT one t).map srt)))::env,σ++[.lst (rs.map Row.enc)]):=by
  rw [← found_eq (pats_good one hone) (pats_dep one hone).1 (pats_dep one hone).2 t]
  exact s_asg (r_call (r_cons (r_var he.e21) (r_cons (r_var e1) r_nil)) (c14 hone ht (n+18) _ hok))
 cases hr:mT one t with
 | none =>
  rw [hr] at h1
  rw [show rowOf x back other none=[] from rfl,List.append_nil]
  exact ⟨(4,.d .none)::env,ss_next h1 (ss_one (s_ifF (r_test (r_andF (r_cmp (r_D (r_var rfl)) (r_D r_none) rfl))) ss_nil)),fun i i1=>by rw [List.lookup_cons,beq_false_of_ne i1]⟩
 | some τ0 =>
  rw [hr] at hm h1
  obtain ⟨a1,a2,a3,-,-⟩:=m_some (pats_good one hone) hm
  clear hr hm hone ho1
  have hrow:rowOf x back other (some τ0)=rowOf x back other (some (srt τ0)):=by
   simp only [rowOf,srt_srt]
   rw [plT_congr (τ:=srt τ0) (ρ:=τ0) other fun z _=>srt_lookup a1 z]
  rw [hrow]
  have a1':((srt τ0).map (·.1)).Nodup:=by rw [a3]; exact varH_nodup _
  have a2':(srt τ0).length≤2:=by rw [srt_len]; exact a2
  have hvv:∀ z,((srt τ0).lookup z).isSome=true→z.isV=true:=fun z hz=>by
   have:=lookup_key hz
   rw [a3] at this
   exact varH_v this
  replace h1:evS1 (lv fns clss (n+119)) env (σ++[.lst (rs.map Row.enc)]) (.asg 4 (.call 14 [(.var 21),(.var 0)]))=some (.next,(4,.d (encTab (srt τ0)))::env,σ++[.lst (rs.map Row.enc)]):=h1
  clear hrow a1 a2 a3
  generalize srt τ0=τ at h1 a1' a2' hvv ⊢
  have htest:test (lv fns clss (n+118)) ((4,.d (encTab τ))::env) (σ++[.lst (rs.map Row.enc)]) (.andE (.cmp .IsNot (.var 4) .none) (.cmp .Eq (.bi .sortKeys (.var 4)) (.call 12 [(.var 19)])))=some (decide ((srt τ).map (·.1)=varH x.L),σ++[.lst (rs.map Row.enc)]) :=
   r_test (r_and (b:=true) (r_cmp (r_D (r_var rfl)) (r_D r_none) rfl) (r_cmp (r_D (r_bi (b:=.sortKeys) (by decide) (r_D (r_var rfl)) (bi_keys a2'))) (r_D (r_call (r_cons (r_var he.e19) r_nil) (c12 hx.1 (n+45) _ hok))) (eqD_hs _ _)))
  by_cases hc:(srt τ).map (·.1)=varH x.L
  ·rw [decide_eq_true hc] at htest
   rw [show rowOf x back other (some τ)=[(⟨x.kind,x.name,srt τ,back,plT τ other⟩:Row)] from if_pos hc,List.map_append]
   exact ⟨_,ss_next h1 (ss_one (s_ifT htest (ss_one (s_expr (r_D (r_app (r_var he.e6) (gA0 σ _) (r_D (r_tup (r_dcons (r_D (r_var he.e17)) (r_dcons (r_D (r_var he.e18)) (r_dcons (r_D (r_bi (b:=.tuple) (by decide) (r_D (r_bi (b:=.sortItems) (by decide) (r_D (r_var rfl)) (bi_items a2' a1'))) (lim_of (small_of (by rw [List.length_map,srt_len]; exact Nat.le_trans a2' (by decide)))))) (r_dcons (r_D (r_var he.e23)) (r_dcons (r_D (r_call (r_cons (r_var he.e22) (r_cons (r_var rfl) r_nil)) (c13 hvv other (n+114) _ (dpw (pats_dep other hoth).1) (pats_good other hoth) hok))) r_dnil)))))))
     (gA0 σ _) (small_of (by rw [List.length_append,List.length_map]; exact Nat.le_trans (Nat.add_le_add_right hl 1) (by decide))) (sA0 σ _ _))))))),
    fun i i1=>by rw [List.lookup_cons,beq_false_of_ne i1]⟩
  ·rw [decide_eq_false hc] at htest
   rw [show rowOf x back other (some τ)=[] from if_neg hc,List.append_nil]
   exact ⟨_,ss_next h1 (ss_one (s_ifF htest ss_nil)),fun i i1=>by rw [List.lookup_cons,beq_false_of_ne i1]⟩
noncomputable def dBody:List S:=[(.forD (.tup [21,22,23]) (.tup [(.tup [(.var 19),(.var 20),(.bool false)]),(.tup [(.var 20),(.var 19),(.bool true)])]) dIn)]
theorem d_side (n:Nat) (σ:Sto) (ho:okS σ) {x:Side} (hx:okSide x) {t:T} (ht:t.dep < 40) {env:Env'} (e17:env.lookup 17=some (.d (.str x.kind))) (e18:env.lookup 18=some (.d (.str x.name))) (e19:env.lookup 19=some (.d x.L.enc)) (e20:env.lookup 20=some (.d x.R.enc)) (e6:env.lookup 6=some (.loc σ.length)) (e1:env.lookup 0=some (.d t.enc)) (rs:List Row) (hl:rs.length≤90) :
  ∃ env',(lv fns clss (n+122)).s env (σ++[.lst (rs.map Row.enc)]) dBody=some (.next,env',σ++[.lst ((rs++rows1 x t).map Row.enc)])∧∀ i,i=0 ∨ i=6→env'.lookup i=env.lookup i:=by
 obtain ⟨env1,a1,a2⟩:=d_step (n+1) σ ho hx (one:=x.L) (other:=x.R) (back:=false) (.inl rfl) (.inr rfl) ht (env:=[(23,.d (.bool false)),(22,.d x.R.enc),(21,.d x.L.enc)]++env) ⟨rfl,rfl,rfl,e17,e18,e19,e6⟩ e1 rs (Nat.le_trans hl (by decide))
 obtain ⟨env2,b1,b2⟩:=d_step (n+1) σ ho hx (one:=x.R) (other:=x.L) (back:=true) (.inr rfl) (.inl rfl) ht (env:=[(23,.d (.bool true)),(22,.d x.L.enc),(21,.d x.R.enc)]++env1) ⟨rfl,rfl,rfl,(a2 17 (by decide)).trans e17,(a2 18 (by decide)).trans e18,(a2 19 (by decide)).trans e19,(a2 6 (by decide)).trans e6⟩
  ((a2 0 (by decide)).trans e1) (rs++rowOf x false x.R (mT x.L t)) (by rw [List.length_append]; exact Nat.add_le_add hl (Nat.le_trans rowOf_len (by decide:1≤10)))
 rw [rows1,← List.append_assoc]
 exact ⟨env2,ss_one (s_forD (r_D (r_tup (r_dcons (r_D (r_tup (r_dcons (r_D (r_var e19)) (r_dcons (r_D (r_var e20)) (r_dcons (r_D r_bool) r_dnil))))) (r_dcons (r_D (r_tup (r_dcons (r_D (r_var e20)) (r_dcons (r_D (r_var e19)) (r_dcons (r_D r_bool) r_dnil))))) r_dnil)))) (lim_of rfl) (fl_next rfl a1 (fl_next rfl b1 fl_nil))),
  fun i hi=>by rcases hi with rfl | rfl <;> exact (b2 _ (by decide)).trans (a2 _ (by decide))⟩
theorem d_sides (n:Nat) (σ:Sto) (ho:okS σ) {t:T} (ht:t.dep < 40):∀ (xs:List Side) (rs:List Row) (env:Env'),(∀ x ∈ xs,okSide x)→rs.length+2 * xs.length≤90→env.lookup 6=some (.loc σ.length)→env.lookup 0=some (.d t.enc) →
  ∃ env',forL (lv fns clss (n+122)) (.tup [17,18,19,20]) dBody (xs.map Side.enc) env (σ++[.lst (rs.map Row.enc)])=some (.next,env',σ++[.lst ((rs++rowsT xs t).map Row.enc)])∧env'.lookup 6=some (.loc σ.length)
 | [],rs,env,hx,hl,e6,e1=>⟨env,by rw [show rs++rowsT [] t=rs from List.append_nil _]; rfl,e6⟩
 | x::xs,rs,env,hx,hl,e6,e1=>by
  rw [List.length_cons] at hl
  have hr:=rows1_len x t
  obtain ⟨env1,a1,a2⟩:=d_side n σ ho (hx x (.head _)) ht (env:=[(20,.d x.R.enc),(19,.d x.L.enc),(18,.d (.str x.name)),(17,.d (.str x.kind))]++env) rfl rfl rfl rfl e6 e1 rs (adL hl)
  obtain ⟨env2,b1,b2⟩:=d_sides n σ ho ht xs (rs++rows1 x t) env1 (fun y hy=>hx y (.tail _ hy)) (by rw [List.length_append]; exact tw hl hr) (by rw [a2 6 (.inr rfl)]; exact e6) (by rw [a2 0 (.inl rfl)]; exact e1)
  rw [show rs++rowsT (x::xs) t=rs++rows1 x t++rowsT xs t by rw [List.append_assoc]; rfl]
  exact ⟨env2,fl_next rfl a1 b1,b2⟩
theorem c15 {xs:List Side} (hxs:∀ x ∈ xs,okSide x) (hl:xs.length≤10) {t:T} (ht:t.dep < 40) (n:Nat) (σ:Sto) (ho:okS σ) :
  (lv fns clss (n+130)).c 15 [.d (.lst (xs.map Side.enc)),.d t.enc] σ=some (.lst ((rowsT xs t).map Row.enc),σ):=by
 rw [lvC]
 obtain ⟨env',a1,a2⟩:=d_sides (n+5) σ ho ht xs [] [(6,.loc σ.length),(0,.d t.enc),(38,.d (.lst (xs.map Side.enc)))] hxs (by rw [List.length_nil,Nat.zero_add]; exact lw (Nat.mul_le_mul_left 2 hl)) rfl rfl
 exact evC_mk (f:=15) (σ:=σ) (vs:=[.d (.lst (xs.map Side.enc)),.d t.enc]) (g:=f_law_due) (τ:=[.gone]) (fl:=.ret (.lst ((rowsT xs t).map Row.enc))) (env':=env') rfl rfl
  (ss_next (s_asg (r_newL r_dnil)) (ss_next (s_forD (r_D (r_var rfl)) (lim_of (small_of (by rw [List.length_map]; exact Nat.le_trans hl (by decide)))) a1) (ss_ret (s_ret (r_D (r_frz a2 (by unfold freeze; rw [gA0]; rfl) (sA0 σ _ _))))))) ho
theorem evC_mk2 {f:Nat} {g:Fn} {vs:List V} {σ σ2 τ:Sto} {l:Lv} {fl:Fl} {env':Env'} (hg:fns[f]?=some g) (hl:g.params.length=vs.length) (hs:l.s ((g.params.zip vs).reverse) σ g.body=some (fl,env',σ2++τ)) (h2:σ2.length=σ.length) (ho:okS σ2):evC fns l f vs σ=some (flD fl,σ2):=by
 unfold evC
 rw [hg]
 simp only [Option.bind_some,hl,↓reduceIte,hs,← h2,tA,ho.all]
noncomputable def coatC (xs:List Int) (k:Nat):Cell:=.lst [.lst (xs.map .int),.int k]
theorem okS_set {σ:Sto} {j:Nat} {c:Cell} (h:okS σ) (hc:∀ n,cellLow n c=true):okS (σ.set j c):=fun c' hc' n=>by
 rcases List.mem_or_eq_of_mem_set hc' with h1 | rfl
 ·exact h _ h1 n
 ·exact hc n
theorem okS_coat {σ:Sto} {j:Nat} {xs:List Int} {k:Nat} (h:okS σ):okS (σ.set j (coatC xs k)):=okS_set h fun _=>rfl
theorem get_lt {σ:Sto} {j:Nat} {c:Cell} (h:σ[j]?=some c):j < σ.length:=(List.getElem?_eq_some_iff.mp h).1
theorem c9 {xs:List Int} {j k:Nat} (hx:xs.length≤40) (hk:k < 500) (m:Nat) (hm:0 < m) (n:Nat) (σ:Sto) (ho:okS σ) (hj:σ[j]?=some (coatC xs k)) :
  ∃ r:Nat,r < m∧(lv fns clss (n+20)).c 9 [.loc j,.d (.int m)] σ=some (.int r,σ.set j (coatC xs (k+1))):=by
 have hlt:=get_lt hj
 have hj2:(σ.set j (coatC xs (k+1)))[j]?=some (coatC xs (k+1)):=List.getElem?_set_self hlt
 have h1:evS1 (lv fns clss (n+18)) [(31,.d (.int m)),(30,.loc j)] σ (.asg 32 (.idx (.var 30) (.int 1)))=some (.next,[(32,.d (.int k)),(31,.d (.int m)),(30,.loc j)],σ):=s_asg (r_idx (r_var rfl) (r_D r_int) (idx_cell hj rfl))
 have h2:evS1 (lv fns clss (n+17)) [(32,.d (.int k)),(31,.d (.int m)),(30,.loc j)] σ (.setI (.var 30) (.int 1) (.bin .Add (.var 32) (.int 1)))=some (.next,[(32,.d (.int k)),(31,.d (.int m)),(30,.loc j)],σ.set j (coatC xs (k+1))) :=
  s_setL (r_D (r_bin (r_D (r_var rfl)) (r_D r_int) rfl)) (r_var rfl) (r_D r_int) hj ⟨by decide,by decide,Nat.lt_succ_self 1⟩ rfl
 have hv:∀ σ1:Sto,σ1[j]?=some (.lst [.lst (xs.map .int),.int ((k+1:Nat):Int)])→∃ v:Int,evD (lv fns clss (n+15)) [(32,.d (.int k)),(31,.d (.int m)),(30,.loc j)] σ1 (.ife (.cmp .Lt (.var 32) (.bi .len (.idx (.var 30) (.int 0)))) (.idx (.idx (.var 30) (.int 0)) (.var 32)) (.bin .Mod (.bin .Add (.bin .Add (.bin .Mult (.bin .Mult (.int 2) (.var 32)) (.var 32)) (.bin .Mult (.int 9) (.var 32))) (.int 4)) (.int 61)))=some (.int v,σ1):=fun σ1 hj2=>by
  have T:test (lv fns clss (n+14)) [(32,.d (.int k)),(31,.d (.int m)),(30,.loc j)] σ1 (.cmp .Lt (.var 32) (.bi .len (.idx (.var 30) (.int 0))))=some (decide ((k:Int) < (xs.map D.int).length),σ1) :=
   r_test (r_cmp (r_D (r_var rfl)) (r_D (r_len (r_idx (r_var rfl) (r_D r_int) (idx_cell hj2 rfl)) (lim_of (decide_eq_true (by rw [List.length_map]; exact Nat.le_trans hx (by decide)))))) lt_int)
  by_cases hlt':(k:Int) < (xs.map D.int).length
  ·rw [decide_eq_true hlt'] at T
   have hk2:k < (xs.map D.int).length:=Int.ofNat_lt.mp hlt'
   exact ⟨_,r_D (r_ifeT T (r_idx (r_idx (r_var rfl) (r_D r_int) (idx_cell hj2 rfl)) (r_D (r_var rfl)) (idx_at ⟨Int.natCast_nonneg _,Int.ofNat_lt.mpr (Nat.lt_trans hk (by decide))⟩ ((List.getElem?_eq_getElem hk2).trans (congrArg some (List.getElem_map _))))))⟩
  ·rw [decide_eq_false hlt'] at T
   have b2:(k:Int).natAbs < 1000000:=Nat.lt_trans hk (by decide)
   have b3:(2 * (k:Int)).natAbs < 1000000:=Nat.lt_trans (Nat.mul_lt_mul_of_pos_left hk (by decide:0 < 2)) (by decide)
   have kk:∀ {q},evD (lv fns clss (q+1)) [(32,.d (.int k)),(31,.d (.int m)),(30,.loc j)] σ1 (.var 32)=some (.int k,σ1):=r_D (r_var rfl)
   exact ⟨_,r_D (r_ifeF T (r_bin (r_D (r_bin (r_D (r_bin (r_D (r_bin (r_D (r_bin (r_D r_int) kk (mul_int (by decide) b2))) kk (mul_int b3 b2))) (r_D (r_bin (r_D r_int) kk (mul_int (by decide) b2))) rfl)) (r_D r_int) rfl)) (r_D r_int) (mod_int (by decide))))⟩
 obtain ⟨v,hv⟩:=hv _ hj2
 have hpos:(0:Int) < m:=Int.natCast_pos.mpr hm
 have hfm:=Int.fmod_lt_of_pos v hpos
 have hf0:=Int.fmod_nonneg_of_pos v hpos
 refine ⟨(Int.fmod v m).toNat,(Int.toNat_lt hf0).mpr hfm,?_⟩
 have h3:evS1 (lv fns clss (n+16)) [(32,.d (.int k)),(31,.d (.int m)),(30,.loc j)] (σ.set j (coatC xs (k+1))) (.ret (.bin .Mod (.ife (.cmp .Lt (.var 32) (.bi .len (.idx (.var 30) (.int 0)))) (.idx (.idx (.var 30) (.int 0)) (.var 32)) (.bin .Mod (.bin .Add (.bin .Add (.bin .Mult (.bin .Mult (.int 2) (.var 32)) (.var 32)) (.bin .Mult (.int 9) (.var 32))) (.int 4)) (.int 61))) (.var 31))) =
   some (.ret (.int ((Int.fmod v m).toNat:Nat)),[(32,.d (.int k)),(31,.d (.int m)),(30,.loc j)],σ.set j (coatC xs (k+1))):=by
  rw [Int.toNat_of_nonneg hf0]
  exact s_ret (r_D (r_bin hv (r_D (r_var rfl)) (mod_int (Int.ne_of_gt hpos))))
 rw [lvC]
 exact evC_mk2 (f:=9) (σ:=σ) (σ2:=σ.set j (coatC xs (k+1))) (vs:=[.loc j,.d (.int m)]) (g:=f_law_reach) (τ:=[]) (fl:=.ret (.int ((Int.fmod v m).toNat:Nat))) (env':=[(32,.d (.int k)),(31,.d (.int m)),(30,.loc j)]) rfl rfl
  (by rw [List.append_nil]; exact ss_next h1 (ss_next h2 (ss_ret h3))) (List.length_set ..) (okS_coat ho)
theorem set_set {σ:Sto} {j:Nat} {a b:Cell}:(σ.set j a).set j b=σ.set j b:=List.set_set ..
theorem evD_of {l:Lv} {env:Env'} {σ σ1:Sto} {x:X} {d:D} (h:l.e env σ x=some (.d d,σ1)):evD l env σ x=some (d,σ1):=bindE h rfl
theorem ret_of {l:Lv} {env:Env'} {σ σ1:Sto} {x:X} {d:D} (h:evD l env σ x=some (d,σ1)):evS1 l env σ (.ret x)=some (.ret d,env,σ1):=mapE h
theorem tup_of {m:Nat} {env:Env'} {σ σ1:Sto} {xs:List X} {ds:List D} (h:evDs (lv fns clss m) env σ xs=some (ds,σ1)):evD (lv fns clss (m+1)) env σ (.tup xs)=some (.tup ds,σ1):=r_D (r_tup h)
theorem evDs_cons {l:Lv} {env:Env'} {σ σ1 σ2:Sto} {x:X} {xs:List X} {d:D} {ds:List D} (h:evD l env σ x=some (d,σ1)) (h2:evDs l env σ1 xs=some (ds,σ2)):evDs l env σ (x::xs)=some (d::ds,σ2):=bindE h (mapE h2)
theorem evDs_nil {l:Lv} {env:Env'} {σ:Sto}:evDs l env σ []=some ([],σ):=rfl
theorem evD_str (m:Nat) (env:Env') (σ:Sto) (x:Str):evD (lv fns clss (m+1)) env σ (.str x)=some (.str x,σ):=rfl
theorem evD_var {m:Nat} {env:Env'} {σ:Sto} {i:Nat} {d:D} (h:env.lookup i=some (.d d)):evD (lv fns clss (m+1)) env σ (.var i)=some (d,σ):=r_D (r_var h)
theorem abk (r:Nat) (h:r < 3):∃ z:H,idxD (.str (sx "abk")) (.int (r:Int))=some (.str z.str):=by
 match r,h with
 | 0,_=>exact ⟨.a,rfl⟩
 | 1,_=>exact ⟨.b,rfl⟩
 | 2,_=>exact ⟨.k,rfl⟩
theorem ga1 {k P:Nat} (h:2≤P):k+1+P≤k+(P+P):=Nat.le_trans (Nat.le_of_eq (Nat.add_assoc ..)) (Nat.add_le_add_left (Nat.add_le_add_right (Nat.le_of_succ_le h) P) k)
theorem ga2 {k k1 P:Nat} (h:k1 < k+1+P):k1+P≤k+(P+P):=Nat.add_assoc .. ▸ Nat.add_le_add_right (Nat.le_of_lt_succ (Nat.lt_of_lt_of_eq h (Nat.add_right_comm ..))) P
theorem c10 {xs:List Int} {j:Nat} (hx:xs.length≤40):∀ (fl:Nat) (N:Nat) (σ:Sto) (k:Nat),20 * fl+40≤N→okS σ→σ[j]?=some (coatC xs k)→k+2 * 2 ^ fl≤400 →
  ∃ (t:T) (k':Nat),t.dep≤fl∧k' < k+2 * 2 ^ fl∧(lv fns clss N).c 10 [.loc j,.d (.int fl)] σ=some (t.enc,σ.set j (coatC xs k')):=by
 have leaf:∀ (n:Nat) (σ:Sto) (k:Nat) (env:Env'),okS σ→σ[j]?=some (coatC xs k)→k < 500→env.lookup 30=some (.loc j)→∃ z:H,evS1 (lv fns clss (n+30)) env σ (.ret (.tup [(.idx (.str (sx "abk")) (.call 9 [(.var 30),(.int 3)]))]))=some (.ret (T.l z).enc,env,σ.set j (coatC xs (k+1))):=by
  intro n σ k env ho hj hk h30
  obtain ⟨r,hr,e⟩:=c9 hx hk 3 (by decide) (n+7) σ ho hj
  have e:(lv fns clss (n+27)).c 9 [.loc j,.d (.int (3:Int))] σ=_:=e
  obtain ⟨z,hz⟩:=abk r hr
  refine ⟨z,?_⟩
  exact s_ret (r_D (r_tup (r_dcons (r_D (r_idx r_str (r_D (r_call (r_cons (r_var h30) (r_cons r_int r_nil)) e)) hz)) r_dnil)))
 intro fl
 induction fl with
 | zero =>
  intro N σ k hN ho hj hk
  obtain ⟨n,rfl⟩:=ex_add hN
  have h1:evS1 (lv fns clss (n+38)) [(33,.d (.int 0)),(30,.loc j)] σ (.asg 34 (.ife (.cmp .Gt (.var 33) (.int 0)) (.call 9 [(.var 30),(.int 6)]) (.int 0)))=some (.next,[(34,.d (.int 0)),(33,.d (.int 0)),(30,.loc j)],σ):=rfl
  have h2:test (lv fns clss (n+37)) [(34,.d (.int 0)),(33,.d (.int 0)),(30,.loc j)] σ (.cmp .Lt (.var 34) (.int 2))=some (true,σ):=rfl
  obtain ⟨z,h3⟩:=leaf (n+6) σ k [(34,.d (.int 0)),(33,.d (.int 0)),(30,.loc j)] ho hj (Nat.lt_of_le_of_lt (Nat.le_trans (Nat.le_add_right ..) hk) (by decide)) rfl
  refine ⟨.l z,k+1,Nat.le_refl 0,Nat.lt_succ_self (k+1),?_⟩
  rw [lvC]
  exact evC_mk2 (f:=10) (σ:=σ) (σ2:=σ.set j (coatC xs (k+1))) (vs:=[.loc j,.d (.int 0)]) (g:=f_law_drawn) (τ:=[]) (fl:=.ret (T.l z).enc) (env':=[(34,.d (.int 0)),(33,.d (.int 0)),(30,.loc j)]) rfl rfl
   (by
    rw [List.append_nil,lvSt]; refine st_next h1 ?_
    rw [lvSt]; exact st_ret (st_iteT h2 (ps_one h3))) (List.length_set ..) (okS_coat ho)
 | succ fl ih =>
  intro N σ k hN ho hj hk
  obtain ⟨n,rfl⟩:=ex_add hN
  have hp:2 * 2 ^ (fl+1)=2 * 2 ^ fl+2 * 2 ^ fl:=by rw [Nat.pow_succ,Nat.mul_two,Nat.mul_add]
  have hP:2≤2 * 2 ^ fl:=Nat.mul_le_mul_left 2 Nat.one_le_two_pow
  rw [hp] at hk ⊢
  clear hp
  generalize 2 * 2 ^ fl=P at ih hk hP ⊢
  have hn:20 * fl+40≤n+20:=Nat.add_le_add_right (Nat.le_of_add_le_add_right hN:20 * fl+20≤n) 20
  have hlt:=get_lt hj
  obtain ⟨r,hr,e⟩:=c9 hx (Nat.lt_of_le_of_lt (Nat.le_trans (Nat.le_add_right ..) hk) (by decide)) 6 (by decide) (n+16) σ ho hj
  have e:(lv fns clss (n+36)).c 9 [.loc j,.d (.int (6:Int))] σ=_:=e
  have ho1:okS (σ.set j (coatC xs (k+1))):=okS_coat ho
  have hj1:(σ.set j (coatC xs (k+1)))[j]?=some (coatC xs (k+1)):=List.getElem?_set_self hlt
  have hgt:decide ((((fl+1:Nat)):Int) > 0)=true:=decide_eq_true (Int.natCast_pos.mpr (Nat.succ_pos _))
  have hsub:(((fl+1:Nat)):Int) - 1=(fl:Int):=Int.add_sub_cancel (fl:Int) 1
  have h1:evS1 (lv fns clss (n+38)) [(33,.d (.int ((fl+1:Nat):Int))),(30,.loc j)] σ (.asg 34 (.ife (.cmp .Gt (.var 33) (.int 0)) (.call 9 [(.var 30),(.int 6)]) (.int 0)))=some (.next,[(34,.d (.int r)),(33,.d (.int ((fl+1:Nat):Int))),(30,.loc j)],σ.set j (coatC xs (k+1))):=by
   exact s_asg (r_ifeT (hgt ▸ r_test (r_cmp (r_D (r_var rfl)) (r_D r_int) rfl)) (r_call (r_cons (r_var rfl) (r_cons r_int r_nil)) e))
  have h2:test (lv fns clss (n+37)) [(34,.d (.int r)),(33,.d (.int ((fl+1:Nat):Int))),(30,.loc j)] (σ.set j (coatC xs (k+1))) (.cmp .Lt (.var 34) (.int 2))=some (decide ((r:Int) < 2),σ.set j (coatC xs (k+1))):=r_test (r_cmp (r_D (r_var rfl)) (r_D r_int) lt_int)
  have h3:test (lv fns clss (n+36)) [(34,.d (.int r)),(33,.d (.int ((fl+1:Nat):Int))),(30,.loc j)] (σ.set j (coatC xs (k+1))) (.cmp .Lt (.var 34) (.int 4))=some (decide ((r:Int) < 4),σ.set j (coatC xs (k+1))):=r_test (r_cmp (r_D (r_var rfl)) (r_D r_int) lt_int)
  by_cases c2:(r:Int) < 2
  ·rw [decide_eq_true c2] at h2
   obtain ⟨z,h4⟩:=leaf (n+6) _ (k+1) [(34,.d (.int r)),(33,.d (.int ((fl+1:Nat):Int))),(30,.loc j)] ho1 hj1 (Nat.lt_of_le_of_lt (Nat.le_trans (Nat.le_add_right ..) (Nat.le_trans (ga1 hP) hk)) (by decide)) rfl
   rw [set_set] at h4
   refine ⟨.l z,k+2,Nat.zero_le _,Nat.add_lt_add_left (Nat.add_le_add hP (Nat.le_of_succ_le hP)) k,?_⟩
   rw [lvC]
   exact evC_mk2 (f:=10) (σ:=σ) (σ2:=σ.set j (coatC xs (k+2))) (vs:=[.loc j,.d (.int ((fl+1:Nat):Int))]) (g:=f_law_drawn) (τ:=[]) (fl:=.ret (T.l z).enc) (env':=[(34,.d (.int r)),(33,.d (.int ((fl+1:Nat):Int))),(30,.loc j)]) rfl rfl
    (by
     rw [List.append_nil,lvSt]; refine st_next h1 ?_
     rw [lvSt]; exact st_ret (st_iteT h2 (ps_one h4))) (List.length_set ..) (okS_coat ho)
  ·rw [decide_eq_false c2] at h2
   have kid:∀ (m:Nat) (σ':Sto) (k1:Nat) (env:Env'),20 * fl+40≤m→okS σ'→σ'[j]?=some (coatC xs k1)→k1+P≤400→env.lookup 30=some (.loc j)→env.lookup 33=some (.d (.int ((fl+1:Nat):Int))) →
     ∃ (t:T) (k':Nat),t.dep≤fl∧k' < k1+P∧(lv fns clss (m+1)).e env σ' (.call 10 [(.var 30),(.bin .Sub (.var 33) (.int 1))])=some (.d t.enc,σ'.set j (coatC xs k')):=by
    intro m σ' k1 env hm ho' hj' hk' h30 h33
    obtain ⟨t,k',a1,a2,a3⟩:=ih m σ' k1 hm ho' hj' hk'
    obtain ⟨m',rfl⟩:=ex_add (c:=10) hm
    refine ⟨t,k',a1,a2,?_⟩
    exact r_call (r_cons (r_var h30) (r_cons (r_bin (r_D (r_var h33)) (r_D r_int) (show some (D.int _)=_ by rw [hsub])) r_nil)) a3
   by_cases c4:(r:Int) < 4
   ·rw [decide_eq_true c4] at h3
    obtain ⟨t,k',a1,a2,a3⟩:=kid (n+33) (σ.set j (coatC xs (k+1))) (k+1) [(34,.d (.int r)),(33,.d (.int ((fl+1:Nat):Int))),(30,.loc j)] (Nat.le_trans hn (Nat.add_le_add_left (by decide) n)) ho1 hj1 (Nat.le_trans (ga1 hP) hk) rfl rfl
    rw [set_set] at a3
    have h4:evS1 (lv fns clss (n+35)) [(34,.d (.int r)),(33,.d (.int ((fl+1:Nat):Int))),(30,.loc j)] (σ.set j (coatC xs (k+1))) (.ret (.tup [(.str (sx "f")),(.call 10 [(.var 30),(.bin .Sub (.var 33) (.int 1))])]))=some (.ret (T.u .f t).enc,[(34,.d (.int r)),(33,.d (.int ((fl+1:Nat):Int))),(30,.loc j)],σ.set j (coatC xs k')) :=
     ret_of (tup_of (evDs_cons (evD_str _ _ _ _) (evDs_cons (evD_of a3) evDs_nil)))
    refine ⟨.u .f t,k',Nat.succ_le_succ a1,Nat.lt_of_lt_of_le a2 (ga1 hP),?_⟩
    rw [lvC]
    exact evC_mk2 (f:=10) (σ:=σ) (σ2:=σ.set j (coatC xs k')) (vs:=[.loc j,.d (.int ((fl+1:Nat):Int))]) (g:=f_law_drawn) (τ:=[]) (fl:=.ret (T.u .f t).enc) (env':=[(34,.d (.int r)),(33,.d (.int ((fl+1:Nat):Int))),(30,.loc j)]) rfl rfl
     (by
      rw [List.append_nil,lvSt]; refine st_next h1 ?_
      rw [lvSt]; refine st_next (st_iteF h2 (st_nil _ _ _)) ?_
      rw [lvSt]; exact st_ret (st_iteT h3 (ps_one h4))) (List.length_set ..) (okS_coat ho)
   ·rw [decide_eq_false c4] at h3
    obtain ⟨t,k1,a1,a2,a3⟩:=kid (n+34) (σ.set j (coatC xs (k+1))) (k+1) [(34,.d (.int r)),(33,.d (.int ((fl+1:Nat):Int))),(30,.loc j)] (Nat.le_trans hn (Nat.add_le_add_left (by decide) n)) ho1 hj1 (Nat.le_trans (ga1 hP) hk) rfl rfl
    rw [set_set] at a3
    have h4:evS1 (lv fns clss (n+35)) [(34,.d (.int r)),(33,.d (.int ((fl+1:Nat):Int))),(30,.loc j)] (σ.set j (coatC xs (k+1))) (.asg 19 (.call 10 [(.var 30),(.bin .Sub (.var 33) (.int 1))]))=some (.next,[(19,.d t.enc),(34,.d (.int r)),(33,.d (.int ((fl+1:Nat):Int))),(30,.loc j)],σ.set j (coatC xs k1)):=by
     exact s_asg a3
    obtain ⟨v,k2,b1,b2,b3⟩:=kid (n+32) (σ.set j (coatC xs k1)) k1 [(19,.d t.enc),(34,.d (.int r)),(33,.d (.int ((fl+1:Nat):Int))),(30,.loc j)] (Nat.le_trans hn (Nat.add_le_add_left (by decide) n)) (okS_coat ho) (List.getElem?_set_self hlt) (Nat.le_trans (ga2 a2) hk) rfl rfl
    rw [set_set] at b3
    have h5:evS1 (lv fns clss (n+34)) [(19,.d t.enc),(34,.d (.int r)),(33,.d (.int ((fl+1:Nat):Int))),(30,.loc j)] (σ.set j (coatC xs k1)) (.ret (.tup [(.str (sx "g")),(.var 19),(.call 10 [(.var 30),(.bin .Sub (.var 33) (.int 1))])]))=some (.ret (T.b .g t v).enc,[(19,.d t.enc),(34,.d (.int r)),(33,.d (.int ((fl+1:Nat):Int))),(30,.loc j)],σ.set j (coatC xs k2)) :=
     ret_of (tup_of (evDs_cons (evD_str _ _ _ _) (evDs_cons (evD_var rfl) (evDs_cons (evD_of b3) evDs_nil))))
    refine ⟨.b .g t v,k2,Nat.succ_le_succ (Nat.max_le.mpr ⟨a1,b1⟩),Nat.lt_of_lt_of_le b2 (ga2 a2),?_⟩
    rw [lvC]
    exact evC_mk2 (f:=10) (σ:=σ) (σ2:=σ.set j (coatC xs k2)) (vs:=[.loc j,.d (.int ((fl+1:Nat):Int))]) (g:=f_law_drawn) (τ:=[]) (fl:=.ret (T.b .g t v).enc) (env':=[(19,.d t.enc),(34,.d (.int r)),(33,.d (.int ((fl+1:Nat):Int))),(30,.loc j)]) rfl rfl
     (by
      rw [List.append_nil,lvSt]; refine st_next h1 ?_
      rw [lvSt]; refine st_next (st_iteF h2 (st_nil _ _ _)) ?_
      rw [lvSt]; refine st_next (st_iteF h3 (st_nil _ _ _)) ?_
      rw [lvSt]; refine st_next h4 ?_
      rw [lvSt]; exact st_ret h5) (List.length_set ..) (okS_coat ho)
noncomputable def needsD (b:Bool):D:=if b then .tup [.tup [.str (sx "unlike"),(T.l .x).enc,(T.l .b).enc]] else .tup []
noncomputable def ruleD (name:Str) (L R:T) (need:Bool):D:=.obj 213 [sx "name", sx "left", sx "right", sx "needs"] [.str name,L.enc,R.enc,needsD need]
open Classical in
theorem anyEq_t {x:D} {ds:List D} (hx:x.pl 60=true) (hy:(D.lst ds).pl 60=true) (h:x ∈ ds):anyEq x ds=some true:=by
 rw [anyEq_pl hx hy]; exact congrArg some (decide_eq_true h)
open Classical in
theorem anyEq_f {x:D} {ds:List D} (hx:x.pl 60=true) (hy:(D.lst ds).pl 60=true) (h:¬ x ∈ ds):anyEq x ds=some false:=by
 rw [anyEq_pl hx hy]; exact congrArg some (decide_eq_false h)
open Classical in
theorem eqD_t {x:D} (hx:x.pl 60=true):eqD x x=some true:=by
 rw [eqD_pl hx hx]; exact congrArg some (decide_eq_true rfl)
theorem anyEq_hs (z:H) (as:List H):anyEq (.str z.str) (as.map fun z=>.str z.str)=some (decide (z ∈ as)):=by
 have hp:(D.lst (as.map fun z=>.str z.str)).pl 60=true:=by
  simp only [pl_none,pl_bool,pl_str,pl_int,pl_raw,pl_dct,pl_obj,pl_tup0,pl_tup,pl_lst0,pl_lst]
  refine pls_iff.mpr fun d hd=>?_
  obtain ⟨z,_,rfl⟩:=List.mem_map.mp hd
  simp only [pl_none,pl_bool,pl_str,pl_int,pl_raw,pl_dct,pl_obj,pl_tup0,pl_tup,pl_lst0,pl_lst,str_ok]
 by_cases e:z ∈ as
 ·rw [decide_eq_true e]
  exact anyEq_t (by simp only [pl_none,pl_bool,pl_str,pl_int,pl_raw,pl_dct,pl_obj,pl_tup0,pl_tup,pl_lst0,pl_lst,str_ok]) hp (List.mem_map.mpr ⟨z,e,rfl⟩)
 ·rw [decide_eq_false e]
  refine anyEq_f (by simp only [pl_none,pl_bool,pl_str,pl_int,pl_raw,pl_dct,pl_obj,pl_tup0,pl_tup,pl_lst0,pl_lst,str_ok]) hp fun q=>e ?_
  obtain ⟨y,h1,h2⟩:=List.mem_map.mp q
  simp only [D.str.injEq] at h2
  rw [← H.str_inj h2]; exact h1
theorem inD_hs (z:H) (as:List H):inD (.str z.str) (.lst (as.map fun z=>.str z.str))=some (decide (z ∈ as)):=anyEq_hs z as
noncomputable def rBody:List S:=[(.ife (.cmp .NotIn (.var 17) (.tup [(.str (sx "alike")),(.str (sx "unlike"))])) [.bad] []),
  (.asgC 28 (.comp [26] (.var 29) (.one 29) (.bin .Add (.call 1 [(.var 21)]) (.call 1 [(.var 22)])) (some (.cmp .NotIn (.var 29) (.var 26))))),
  (.ife (.cmp .NotEq (.var 28) (.lst [])) [.bad] [])]
noncomputable def askD (q:Bool × T × T):D:=.tup [.str (if q.1 then sx "unlike" else sx "alike"),q.2.1.enc,q.2.2.enc]
theorem kd_in (b:Bool):anyEq (.str (if b then sx "unlike" else sx "alike")) [.str (sx "alike"),.str (sx "unlike")]=some true:=by cases b <;> decide +kernel
theorem r_step (n:Nat) (σ:Sto) (ho:okS σ) (L:T) (q:Bool × T × T) (h1:q.2.1 ∈ pats) (h2:q.2.2 ∈ pats) (hv:∀ z,z ∈ varH q.2.1 ∨ z ∈ varH q.2.2→z ∈ varH L) (env:Env') (h26:env.lookup 26=some (.d (.lst ((varH L).map fun z=>D.str z.str)))) :
  ∃ env',(lv fns clss (n+80)).s ([(22,.d q.2.2.enc),(21,.d q.2.1.enc),(17,.d (.str (if q.1 then sx "unlike" else sx "alike")))]++env) σ rBody=some (.next,env',σ)∧∀ i,i=11 ∨ i=18 ∨ i=19 ∨ i=20 ∨ i=25 ∨ i=26→env'.lookup i=env.lookup i:=by
 have g1:test (lv fns clss (n+79)) ([(22,.d q.2.2.enc),(21,.d q.2.1.enc),(17,.d (.str (if q.1 then sx "unlike" else sx "alike")))]++env) σ (.cmp .NotIn (.var 17) (.tup [(.str (sx "alike")),(.str (sx "unlike"))]))=some (false,σ) :=
  r_test (r_cmp (r_D (r_var rfl)) (r_D (r_tup (r_dcons (r_D r_str) (r_dcons (r_D r_str) r_dnil)))) (mapE (kd_in q.1)))
 have g2:evS1 (lv fns clss (n+78)) ([(22,.d q.2.2.enc),(21,.d q.2.1.enc),(17,.d (.str (if q.1 then sx "unlike" else sx "alike")))]++env) σ (.asgC 28 (.comp [26] (.var 29) (.one 29) (.bin .Add (.call 1 [(.var 21)]) (.call 1 [(.var 22)])) (some (.cmp .NotIn (.var 29) (.var 26)))))=some (.next,(28,.d (.lst []))::([(22,.d q.2.2.enc),(21,.d q.2.1.enc),(17,.d (.str (if q.1 then sx "unlike" else sx "alike")))]++env),σ):=by
  have hl:((varH q.2.1).map fun z=>D.str z.str).length+((varH q.2.2).map fun z=>D.str z.str).length≤4:=by rw [List.length_map,List.length_map]; exact Nat.add_le_add (varH_len _) (varH_len _)
  have e:([]:List D)=(List.filter (fun z=>!decide (z ∈ varH L)) (varH q.2.1++varH q.2.2)).map fun z=>D.str z.str:=by
   rw [List.filter_eq_nil_iff.mpr]
   ·rfl
   ·intro z hz hh
    rw [decide_eq_true (hv z (List.mem_append.mp hz))] at hh
    cases hh
  have hcp:caps [26] ([(22,.d q.2.2.enc),(21,.d q.2.1.enc),(17,.d (.str (if q.1 then sx "unlike" else sx "alike")))]++env)=[(26,.d (.lst ((varH L).map fun z=>D.str z.str)))]:=caps1 h26
  have hc:=r_comp (cs:=[26]) (it:=.bin .Add (.call 1 [(.var 21)]) (.call 1 [(.var 22)])) (env:=[(22,.d q.2.2.enc),(21,.d q.2.1.enc),(17,.d (.str (if q.1 then sx "unlike" else sx "alike")))]++env) (r_D (r_bin (r_D (r_call (r_cons (r_var rfl) r_nil) (c1 h1 (n+5) σ ho))) (r_D (r_call (r_cons (r_var rfl) r_nil) (c1 h2 (n+5) σ ho))) (add_lst (Nat.le_trans hl (by decide))))) (lim_of (small_of (by rw [List.length_append]; exact Nat.le_trans hl (by decide))))
   (by rw [← List.map_append,hcp]; exact compL_filter (tg:=.one 29) (p:=fun z=>!decide (z ∈ varH L)) (f:=fun z=>D.str z.str) fun z hz=>⟨[(29,.d (.str z.str)),(26,.d (.lst ((varH L).map fun z=>D.str z.str)))],rfl,r_test (r_cmp (op:=.NotIn) (a:=.var 29) (c:=.var 26) (r_D (r_var rfl)) (r_D (r_var rfl)) (mapE (inD_hs _ _))),fun _=>r_D (r_var (i:=29) rfl)⟩)
  rw [← e] at hc
  exact s_asgC hc
 refine ⟨(28,.d (.lst []))::([(22,.d q.2.2.enc),(21,.d q.2.1.enc),(17,.d (.str (if q.1 then sx "unlike" else sx "alike")))]++env),?_,?_⟩
 ·exact ss_next (s_ifF g1 ss_nil) (ss_next g2 (ss_one (s_ifF (r_test (r_cmp (r_D (r_var rfl)) (r_D (r_lst r_dnil)) (ne_of (b:=true) (by decide +kernel)))) ss_nil)))
 ·intro i hi
  rcases hi with rfl | rfl | rfl | rfl | rfl | rfl <;> rfl
theorem r_loop (n:Nat) (σ:Sto) (ho:okS σ) (L:T):∀ (qs:List (Bool × T × T)) (env:Env'),(∀ q ∈ qs,q.2.1 ∈ pats∧q.2.2 ∈ pats∧∀ z,z ∈ varH q.2.1 ∨ z ∈ varH q.2.2→z ∈ varH L)→env.lookup 26=some (.d (.lst ((varH L).map fun z=>D.str z.str))) →
  ∃ env',forL (lv fns clss (n+80)) (.tup [17,21,22]) rBody (qs.map askD) env σ=some (.next,env',σ)∧∀ i,i=11 ∨ i=18 ∨ i=19 ∨ i=20 ∨ i=25 ∨ i=26→env'.lookup i=env.lookup i
 | [],env,_,_=>⟨env,rfl,fun _ _=>rfl⟩
 | q::qs,env,hq,h26=>by
  obtain ⟨a,b,c⟩:=hq q (.head _)
  obtain ⟨env1,h1,h2⟩:=r_step n σ ho L q a b c env h26
  obtain ⟨env2,h3,h4⟩:=r_loop n σ ho L qs env1 (fun q' hq'=>hq q' (.tail _ hq')) ((h2 26 (by simp)).trans h26)
  exact ⟨env2,fl_next rfl h1 h3,fun i hi=>(h4 i hi).trans (h2 i hi)⟩
theorem okS_obj {σ:Sto} {a:Addr} {ks:List Str} {ds:List D} (h:okS σ):okS (σ++[.obj a ks (ds.map V.d)]):=h.app fun c hc n=>by
 rw [List.mem_singleton] at hc
 subst hc
 simp [cellLow,List.all_map]
noncomputable def askL (R:T) (b:Bool):List (Bool × T × T):=(false,R,R)::(if b then [(true,.l .x,.l .b)] else [])
theorem ask_b {b:Bool} {L:T} (hb:b=true→H.x ∈ varH L) {q:Bool × T × T} (h:q ∈ (if b then [(true,T.l .x,T.l .b)] else [])):q.2.1 ∈ pats∧q.2.2 ∈ pats∧∀ z,z ∈ varH q.2.1 ∨ z ∈ varH q.2.2→z ∈ varH L:=by
 cases b with
 | false=>cases h
 | true =>
  rw [List.mem_singleton.mp h]
  refine ⟨by decide,by decide,fun z hz=>?_⟩
  have:z=.x:=by
   rcases hz with hz | hz
   ·exact List.mem_singleton.mp hz
   ·cases hz
  rw [this]; exact hb rfl
theorem ask_ok {L R:T} (hR:R ∈ pats) (hs:∀ z,z ∈ varH R→z ∈ varH L) {b:Bool} (hb:b=true→H.x ∈ varH L):∀ q ∈ askL R b,q.2.1 ∈ pats∧q.2.2 ∈ pats∧∀ z,z ∈ varH q.2.1 ∨ z ∈ varH q.2.2→z ∈ varH L:=fun q hq=>by
 rcases List.mem_cons.mp hq with e | hq
 ·rw [e]; exact ⟨hR,hR,fun z hz=>hs z (hz.elim id id)⟩
 ·exact ask_b hb hq
theorem askL_len (R:T) (b:Bool):(askL R b).length≤2:=by cases b <;> exact Nat.le_of_ble_eq_true rfl
theorem needs_list (b:Bool):∃ ds,needsD b=.tup ds∧biD .list (needsD b)=some (.lst ds)∧binD .Add (.lst [.tup [.str (sx "alike"),R,R']]) (.lst ds)=some (.lst (.tup [.str (sx "alike"),R,R']::ds))∧∀ R:T,(askL R b).map askD=.tup [.str (sx "alike"),R.enc,R.enc]::ds:=by
 cases b <;> exact ⟨_,rfl,rfl,rfl,fun _=>rfl⟩
theorem asks {R:T} {b:Bool} {n:Nat} {env:Env'} {σ:Sto} (h20:env.lookup 20=some (.d R.enc)) (h25:env.lookup 25=some (.d (needsD b))):(lv fns clss (n+5)).e env σ (.bin .Add (.lst [(.tup [(.str (sx "alike")),(.var 20),(.var 20)])]) (.bi .list (.var 25)))=some (.d (.lst ((askL R b).map askD)),σ):=by
 obtain ⟨ds,-,e2,e3,e4⟩:=needs_list (R:=R.enc) (R':=R.enc) b
 rw [e4]
 exact r_bin (r_D (r_lst (r_dcons (r_D (r_tup (r_dcons (r_D r_str) (r_dcons (r_D (r_var h20)) (r_dcons (r_D (r_var h20)) r_dnil))))) r_dnil))) (r_D (r_bi (b:=.list) (by decide) (r_D (r_var h25)) e2)) e3
theorem setA0 {n i:Nat} {env:Env'} {σ:Sto} {f:Str} {v:X} {u:V} {c:Addr} {ks:List Str} {vs:List V} {ks2:List Str} {vs2:List V} (hi:env.lookup i=some (.loc σ.length)) (hv:(lv fns clss (n+1)).e env (σ++[.obj c ks vs]) v=some (u,σ++[.obj c ks vs])) (hk:ks.length < 900) (hp:put f u ks vs=(ks2,vs2)):evS1 (lv fns clss (n+1)) env (σ++[.obj c ks vs]) (.setA (.var i) f v)=some (.next,env,σ++[.obj c ks2 vs2]) :=
 s_setA hv (r_var hi) (gA0 σ _) hk (by rw [hp]; exact sA0 σ _ _)
theorem c7 {L R:T} (hL:L ∈ pats) (hR:R ∈ pats) (hv:L.isV=false) (hs:∀ z,z ∈ varH R→z ∈ varH L) (b:Bool) (hb:b=true→H.x ∈ varH L) (name:Str) (n:Nat) (σ:Sto) (ho:okS σ) :
  (lv fns clss (n+100)).c 7 [.loc σ.length,.d (.str name),.d L.enc,.d R.enc,.d (needsD b)] (σ++[.obj 213 [] []])=some (.none,σ++[.obj 213 [sx "name", sx "left", sx "right", sx "needs"] ([.str name,L.enc,R.enc,needsD b].map V.d)]):=by
 have ho0:okS (σ++[.obj 213 [] []]):=okS_obj (ds:=[]) ho
 obtain ⟨env',h4,h5⟩:=r_loop (n+15) (σ++[.obj 213 [] []]) ho0 L (askL R b) [(27,.d (.lst ((askL R b).map askD))),(26,.d (.lst ((varH L).map fun z=>D.str z.str))),(25,.d (needsD b)),(20,.d R.enc),(19,.d L.enc),(18,.d (.str name)),(11,.loc σ.length)] (ask_ok hR hs hb) rfl
 have e11:env'.lookup 11=some (.loc σ.length):=h5 11 (by simp)
 have e18:env'.lookup 18=some (.d (.str name)):=h5 18 (by simp)
 have e19:env'.lookup 19=some (.d L.enc):=h5 19 (by simp)
 have e20:env'.lookup 20=some (.d R.enc):=h5 20 (by simp)
 have e25:env'.lookup 25=some (.d (needsD b)):=h5 25 (by simp)
 have eN:biD .tuple (needsD b)=some (needsD b):=by cases b <;> rfl
 clear h5
 have g0:test (lv fns clss (n+98)) [(25,.d (needsD b)),(20,.d R.enc),(19,.d L.enc),(18,.d (.str name)),(11,.loc σ.length)] (σ++[.obj 213 [] []]) (.call 0 [(.var 19)])=some (false,σ++[.obj 213 [] []]):=r_test (r_call (r_cons (r_var rfl) r_nil) (hv ▸ c0 (n+89) L _ ho0))
 rw [lvC]
 exact evC_mk2 (f:=7) (σ:=σ++[.obj 213 [] []]) (σ2:=σ++[.obj 213 [sx "name", sx "left", sx "right", sx "needs"] ([.str name,L.enc,R.enc,needsD b].map V.d)]) (vs:=[.loc σ.length,.d (.str name),.d L.enc,.d R.enc,.d (needsD b)]) (g:=f_Rule__init) (τ:=[]) (fl:=.next) (env':=env') rfl rfl
  (by
   rw [List.append_nil]
   exact ss_next (s_ifF g0 ss_nil) (ss_next (s_asg (r_call (r_cons (r_var rfl) r_nil) (c1 hL (n+26) _ ho0))) (ss_next (s_asg (asks rfl rfl)) (ss_next (s_forD (r_D (r_var rfl)) (lim_of (small_of (by rw [List.length_map]; exact Nat.le_trans (askL_len R b) (by decide)))) h4)
    (ss_next (setA0 (ks2:=[sx "name"]) (vs2:=[.d (.str name)]) e11 (r_var e18) (by decide) rfl) (ss_next (setA0 (ks2:=[sx "name", sx "left"]) (vs2:=[.d (.str name),.d L.enc]) e11 (r_var e19) (by decide) rfl) (ss_next (setA0 (ks2:=[sx "name", sx "left", sx "right"]) (vs2:=[.d (.str name),.d L.enc,.d R.enc]) e11 (r_var e20) (by decide) rfl) (ss_next (setA0 (ks2:=[sx "name", sx "left", sx "right", sx "needs"]) (vs2:=[.d (.str name),.d L.enc,.d R.enc,.d (needsD b)]) e11 (r_bi (b:=.tuple) (by decide) (r_D (r_var e25)) eN) (by decide) rfl) ss_nil)))))))) (by rw [List.length_append,List.length_append]; rfl) (okS_obj ho)
theorem dataAll_map:∀ ds:List D,dataAll (ds.map V.d)=some ds
 | []=>rfl
 | d::ds=>bindE (a:=d) rfl (mapE (dataAll_map ds))
theorem n_rule {L R:T} (hL:L ∈ pats) (hR:R ∈ pats) (hv:L.isV=false) (hs:∀ z,z ∈ varH R→z ∈ varH L) (b:Bool) (hb:b=true→H.x ∈ varH L) (name:Str) (n:Nat) (σ:Sto) (ho:okS σ) :
  (lv fns clss (n+101)).n 1 [.d (.str name),.d L.enc,.d R.enc,.d (needsD b)] σ=some (ruleD name L R b,σ):=by
 rw [lvN]
 have e:=c7 hL hR hv hs b hb name n σ ho
 have hc:clss[1]?=some ⟨213,sx "Rule", 7⟩:=rfl
 unfold evN
 rw [hc]
 refine bindE rfl (bindE e (bindE (a:=(213,[sx "name", sx "left", sx "right", sx "needs"],[.str name,L.enc,R.enc,needsD b])) ?_ ?_))
 ·rw [gA0]; exact mapE (dataAll_map _)
 ·show (if (List.take σ.length _).all _=true then _ else _)=_
  rw [tA]; exact if_pos (ho.all _)
structure Rl where
 name:Str
 L:T
 R:T
 need:Bool
noncomputable def Rl.enc (r:Rl):D:=ruleD r.name r.L r.R r.need
noncomputable def Rl.side (r:Rl):Side:=⟨sx "rule", r.name,r.L,r.R⟩
noncomputable def skC (k:Nat) (xs:List Side):Sto:=[.obj 187 [sx "sides"] [.loc (k+1)],.lst (xs.map Side.enc)]
theorem needs_eq (b:Bool):eqD (needsD b) (.tup [])=some (!b):=by cases b <;> decide +kernel
noncomputable def sBody1:List S:=[(.ife (.cmp .Eq (.attr (.var 14) (sx "needs")) (.tup [])) [(.expr (.app (.attr (.var 11) (sx "sides")) (.tup [(.str (sx "rule")),(.attr (.var 14) (sx "name")),(.attr (.var 14) (sx "left")),(.attr (.var 14) (sx "right"))])))] [])]
theorem look_rule (r:Rl):look (sx "needs") [sx "name", sx "left", sx "right", sx "needs"] [.str r.name,r.L.enc,r.R.enc,needsD r.need]=some (needsD r.need)∧look (sx "name") [sx "name", sx "left", sx "right", sx "needs"] [.str r.name,r.L.enc,r.R.enc,needsD r.need]=some (.str r.name) ∧
  look (sx "left") [sx "name", sx "left", sx "right", sx "needs"] [.str r.name,r.L.enc,r.R.enc,needsD r.need]=some r.L.enc∧look (sx "right") [sx "name", sx "left", sx "right", sx "needs"] [.str r.name,r.L.enc,r.R.enc,needsD r.need]=some r.R.enc:=⟨rfl,rfl,rfl,rfl⟩
theorem skC_set {σ:Sto} {xs:List Side} {y:Side}:(σ++skC σ.length xs).set (σ.length+1) (.lst (xs.map Side.enc++[y.enc]))=σ++skC σ.length (xs++[y]):=by
 rw [sA,skC,skC,List.map_append]; rfl
theorem skC_small {xs:List Side} {k:Nat} {d:D} (h:xs.length+(k+1)≤100):small (xs.map Side.enc++[d])=true:=small_of (by rw [List.length_append,List.length_map,List.length_singleton]; exact lw (Nat.le_trans (Nat.add_le_add_left (Nat.le_add_left 1 k) _) h))
theorem skC_len {xs:List Side} {k:Nat} {y:Side} (h:xs.length+(k+1)≤100):(xs++[y]).length+k≤100:=by rw [List.length_append,List.length_singleton]; exact Nat.le_trans (Nat.le_of_eq (Nat.add_right_comm _ 1 k)) h
theorem s_app {n i:Nat} {env:Env'} {σ:Sto} {xs:List Side} {y:Side} {k:Nat} {ex:List X} (h11:env.lookup i=some (.loc σ.length)) (hl:xs.length+(k+1)≤100) (hd:evDs (lv fns clss (n+1)) env (σ++skC σ.length xs) ex=some ([.str y.kind,.str y.name,y.L.enc,y.R.enc],σ++skC σ.length xs)):evS1 (lv fns clss (n+3)) env (σ++skC σ.length xs) (.expr (.app (.attr (.var i) (sx "sides")) (.tup ex)))=some (.next,env,σ++skC σ.length (xs++[y])) :=
 s_expr (r_D (r_app (r_attrL (r_var h11) (gA0 σ _) rfl) (gA σ _ 1) (r_D (r_tup hd)) (gA σ _ 1) (skC_small hl) skC_set))
theorem s_loop1 (n:Nat) (σ:Sto):∀ (rs:List Rl) (xs:List Side) (env:Env'),env.lookup 11=some (.loc σ.length)→xs.length+rs.length≤100 →
  ∃ env',forL (lv fns clss (n+20)) (.one 14) sBody1 (rs.map Rl.enc) env (σ++skC σ.length xs)=some (.next,env',σ++skC σ.length (xs++(rs.filter fun r=>!r.need).map Rl.side))∧∀ i,i=11 ∨ i=13→env'.lookup i=env.lookup i
 | [],xs,env,h11,hl=>⟨env,by rw [show xs++(([]:List Rl).filter fun r=>!r.need).map Rl.side=xs from List.append_nil _]; rfl,fun _ _=>rfl⟩
 | r::rs,xs,env,h11,hl=>by
  obtain ⟨l1,l2,l3,l4⟩:=look_rule r
  have g1:test (lv fns clss (n+19)) ((14,.d r.enc)::env) (σ++skC σ.length xs) (.cmp .Eq (.attr (.var 14) (sx "needs")) (.tup []))=some (!r.need,σ++skC σ.length xs):=r_test (r_cmp (r_D (r_attrD (r_var rfl) l1)) (r_D (r_tup r_dnil)) (needs_eq _))
  have hi:∀ {i},i=11 ∨ i=13→((14,V.d r.enc)::env:Env').lookup i=env.lookup i:=fun h=>by rcases h with rfl | rfl <;> rfl
  cases hn:r.need with
  | true =>
   rw [hn] at g1
   rw [List.filter_cons,hn]
   obtain ⟨env',h1,h2⟩:=s_loop1 n σ rs xs ((14,.d r.enc)::env) h11 (Nat.le_trans (Nat.add_le_add_left (Nat.le_succ _) _) hl)
   exact ⟨env',fl_next rfl (ss_one (s_ifF g1 ss_nil)) h1,fun i h=>(h2 i h).trans (hi h)⟩
  | false =>
   rw [hn] at g1
   rw [List.filter_cons,hn]
   obtain ⟨env',h1,h2⟩:=s_loop1 n σ rs (xs++[r.side]) ((14,.d r.enc)::env) h11 (skC_len hl)
   rw [List.append_assoc] at h1
   exact ⟨env',fl_next rfl (ss_one (s_ifT g1 (ss_one (s_app h11 hl (r_dcons (r_D r_str) (r_dcons (r_D (r_attrD (r_var rfl) l2)) (r_dcons (r_D (r_attrD (r_var rfl) l3)) (r_dcons (r_D (r_attrD (r_var rfl) l4)) r_dnil)))))))) h1,fun i h=>(h2 i h).trans (hi h)⟩
noncomputable def sBody2:List S:=[(.expr (.app (.attr (.var 11) (sx "sides")) (.tup [(.str (sx "told")),(.var 15),(.idx (.idx (.var 13) (.var 15)) (.int 0)),(.idx (.idx (.var 13) (.var 15)) (.int 1))])))]
theorem s_loop2 (n:Nat) (σ:Sto) (ks:List Str) (ds:List D):∀ (ts:List Side) (xs:List Side) (env:Env'),(∀ x ∈ ts,x.kind=sx "told" ∧ look x.name ks ds=some (.tup [x.L.enc,x.R.enc]))→env.lookup 11=some (.loc σ.length)→env.lookup 13=some (.d (.dct ks ds))→xs.length+ts.length≤100 →
  ∃ env',forL (lv fns clss (n+20)) (.one 15) sBody2 (ts.map fun x=>D.str x.name) env (σ++skC σ.length xs)=some (.next,env',σ++skC σ.length (xs++ts))∧∀ i,i=11 ∨ i=13→env'.lookup i=env.lookup i
 | [],xs,env,ht,h11,h13,hl=>⟨env,by rw [List.append_nil]; rfl,fun _ _=>rfl⟩
 | x::ts,xs,env,ht,h11,h13,hl=>by
  obtain ⟨hk,hlk⟩:=ht x (.head _)
  obtain ⟨env',h1,h2⟩:=s_loop2 n σ ks ds ts (xs++[x]) ((15,.d (.str x.name))::env) (fun y hy=>ht y (.tail _ hy)) h11 h13 (skC_len hl)
  rw [List.append_assoc] at h1
  exact ⟨env',fl_next rfl (ss_one (s_app h11 hl (hk ▸ r_dcons (r_D r_str) (r_dcons (r_D (r_var rfl)) (r_dcons (r_D (r_idx (r_idx (r_var h13) (r_D (r_var rfl)) hlk) (r_D r_int) rfl)) (r_dcons (r_D (r_idx (r_idx (r_var h13) (r_D (r_var rfl)) hlk) (r_D r_int) rfl)) r_dnil)))))) h1,fun i h=>(h2 i h).trans (by rcases h with rfl | rfl <;> rfl)⟩
theorem idx_side (x:Side):idxD x.enc (.int 2)=some x.L.enc∧idxD x.enc (.int 3)=some x.R.enc:=⟨rfl,rfl⟩
theorem sk_frz {n i:Nat} {env:Env'} {σ:Sto} {xs:List Side} (h:env.lookup i=some (.loc σ.length)):(lv fns clss (n+1)).e env (σ++skC σ.length xs) (.frzA i (sx "sides"))=some (.d (.lst (xs.map Side.enc)),σ++[.obj 187 [sx "sides"] [V.d (.lst (xs.map Side.enc))],.gone]) :=
 r_frzA h (gA0 σ _) rfl (by unfold freeze; rw [gA]; rfl) (by rw [sA,sA0]; rfl)
theorem sk_back {n:Nat} {σ:Sto} {xs:List Side} (ho:okS σ) (hxs:∀ x ∈ xs,okSide x) (hl:xs.length≤50) {env:Env'} (h11:env.lookup 11=some (.loc σ.length)):∃ gb,evS1 (lv fns clss (n+105)) env (σ++skC σ.length xs) (.setA (.var 11) (sx "goes_back") (.cmp .Eq (.comp [] (.int 1) (.one 16) (.frzA 11 (sx "sides")) (some (.cmp .NotEq (.call 1 [(.idx (.var 16) (.int 2))]) (.call 1 [(.idx (.var 16) (.int 3))])))) (.lst [])))=some (.next,env,σ++[.obj 187 [sx "sides", sx "goes_back"] [V.d (.lst (xs.map Side.enc)),V.d (.bool gb)],.gone]):=by
 have ho2:okS (σ++[.obj 187 [sx "sides"] [V.d (.lst (xs.map Side.enc))],.gone]):=ho.app fun c hc n=>by
  rcases List.mem_cons.mp hc with e | hc
  ·rw [e]; rfl
  ·rw [List.mem_singleton.mp hc]; rfl
 obtain ⟨gb,hgb⟩:∃ gb,eqD (.lst ((xs.filter fun x=>!decide (varH x.L=varH x.R)).map fun _=>D.int 1)) (.lst [])=some gb:=by
  generalize xs.filter _=ys
  rcases ys with _ | ⟨y,r⟩
  ·exact ⟨true,by decide +kernel⟩
  ·exact ⟨false,rfl⟩
 exact ⟨gb,s_setA (r_cmp (r_D (r_comp (r_D (sk_frz h11)) (lim_of (small_of (by rw [List.length_map]; exact Nat.le_trans hl (by decide)))) (compL_filter (p:=fun x=>!decide (varH x.L=varH x.R)) (f:=fun _=>D.int 1) fun x hx=>⟨[(16,.d x.enc)],rfl,
   r_test (r_cmp (r_D (r_call (r_cons (r_idx (r_var rfl) (r_D r_int) (idx_side x).1) r_nil) (c1 (hxs x hx).1 (n+31) _ ho2))) (r_D (r_call (r_cons (r_idx (r_var rfl) (r_D r_int) (idx_side x).2) r_nil) (c1 (hxs x hx).2.1 (n+31) _ ho2))) (ne_of (eqD_hs _ _))),fun _=>r_D r_int⟩))) (r_D (r_lst r_dnil)) hgb)
  (r_var h11) (gA0 σ _) (by decide) (sA0 σ _ _)⟩
theorem c5 {rs:List Rl} {ts:List Side} {ks:List Str} {ds:List D} (hr:∀ r ∈ rs,okSide r.side) (hts:∀ x ∈ ts,okSide x) (ht:∀ x ∈ ts,x.kind=sx "told" ∧ look x.name ks ds=some (.tup [x.L.enc,x.R.enc])) (hk:biD .sortKeys (.dct ks ds)=some (.lst (ts.map fun x=>D.str x.name))) (hl:rs.length+ts.length≤50) (n:Nat) (σ:Sto) (ho:okS σ) :
  ∃ gb:Bool,(lv fns clss (n+110)).c 5 [.loc σ.length,.d (.lst (rs.map Rl.enc)),.d (.dct ks ds)] (σ++[.obj 187 [] []])=some (.none,σ++[.obj 187 [sx "sides", sx "goes_back"] ([.lst (((rs.filter fun r=>!r.need).map Rl.side++ts).map Side.enc),.bool gb].map V.d)]):=by
 have hfl:((rs.filter fun r=>!r.need).map Rl.side).length≤rs.length:=by rw [List.length_map]; exact List.length_filter_le ..
 obtain ⟨env1,h1,h2⟩:=s_loop1 (n+87) σ rs [] [(13,.d (.dct ks ds)),(12,.d (.lst (rs.map Rl.enc))),(11,.loc σ.length)] rfl (by rw [List.length_nil,Nat.zero_add]; exact lw (adL hl))
 have e11:env1.lookup 11=some (.loc σ.length):=h2 11 (.inl rfl)
 have e13:env1.lookup 13=some (.d (.dct ks ds)):=h2 13 (.inr rfl)
 clear h2
 rw [List.nil_append] at h1
 obtain ⟨env2,h3,h4⟩:=s_loop2 (n+86) σ ks ds ts ((rs.filter fun r=>!r.need).map Rl.side) env1 ht e11 e13 (lw (Nat.le_trans (Nat.add_le_add_right hfl _) hl))
 have hxs:∀ x ∈ (rs.filter fun r=>!r.need).map Rl.side++ts,okSide x:=fun x hx=>(List.mem_append.mp hx).elim (fun hx=>by
  obtain ⟨r,h5,h6⟩:=List.mem_map.mp hx
  rw [← h6]; exact hr r (List.mem_filter.mp h5).1) (hts x)
 have hxl:((rs.filter fun r=>!r.need).map Rl.side++ts).length≤50:=by rw [List.length_append]; exact Nat.le_trans (Nat.add_le_add_right hfl _) hl
 clear ht hr hts hfl
 obtain ⟨gb,g4⟩:=sk_back (n:=n) ho hxs hxl ((h4 11 (.inl rfl)).trans e11)
 clear hxs hxl h4
 rw [lvC]
 exact ⟨gb,evC_mk2 (f:=5) (σ:=σ++[.obj 187 [] []]) (σ2:=σ++[.obj 187 [sx "sides", sx "goes_back"] ([.lst (((rs.filter fun r=>!r.need).map Rl.side++ts).map Side.enc),.bool gb].map V.d)]) (vs:=[.loc σ.length,.d (.lst (rs.map Rl.enc)),.d (.dct ks ds)]) (g:=f_Seeker__init) (τ:=[.gone]) (fl:=.next) (env':=env2) rfl rfl
  (by
   rw [List.append_assoc]
   exact ss_next (s_setA ((r_newL r_dnil).trans (show _=some (V.loc (σ.length+1),σ++[.obj 187 [] [],.lst []]) by rw [List.append_assoc,List.length_append]; rfl)) (r_var rfl) (gA0 σ _) (by decide) (sA0 σ _ _)) (ss_next (s_forD (r_D (r_var rfl)) (lim_of (small_of (by rw [List.length_map]; exact lw (adL hl)))) h1)
    (ss_next (s_forD (r_D (r_bi (b:=.sortKeys) (by decide) (r_D (r_var e13)) hk)) (lim_of (small_of (by rw [List.length_map]; exact lw (adR hl)))) h3) (ss_next g4 ss_nil)))) (by rw [List.length_append,List.length_append]; rfl) (okS_obj ho)⟩
theorem n_seeker {rs:List Rl} {ts:List Side} {ks:List Str} {ds:List D} (hr:∀ r ∈ rs,okSide r.side) (hts:∀ x ∈ ts,okSide x) (ht:∀ x ∈ ts,x.kind=sx "told" ∧ look x.name ks ds=some (.tup [x.L.enc,x.R.enc])) (hk:biD .sortKeys (.dct ks ds)=some (.lst (ts.map fun x=>D.str x.name))) (hl:rs.length+ts.length≤50) (n:Nat) (σ:Sto) (ho:okS σ) :
  ∃ gb:Bool,(lv fns clss (n+111)).n 0 [.d (.lst (rs.map Rl.enc)),.d (.dct ks ds)] σ=some (.obj 187 [sx "sides", sx "goes_back"] [.lst (((rs.filter fun r=>!r.need).map Rl.side++ts).map Side.enc),.bool gb],σ):=by
 rw [lvN]
 obtain ⟨gb,e⟩:=c5 hr hts ht hk hl n σ ho
 have hc:clss[0]?=some ⟨187,sx "Seeker", 5⟩:=rfl
 refine ⟨gb,?_⟩
 unfold evN
 rw [hc]
 refine bindE rfl (bindE e (bindE (a:=(187,[sx "sides", sx "goes_back"],[.lst (((rs.filter fun r=>!r.need).map Rl.side++ts).map Side.enc),.bool gb])) ?_ ?_))
 ·rw [gA0]; exact mapE (dataAll_map _)
 ·show (if (List.take σ.length _).all _=true then _ else _)=_
  rw [tA]; exact if_pos (ho.all _)
theorem plT_congrV {τ ρ:Tab}:∀ p:T,(∀ z,z.isV=true→p.occ z=true→τ.lookup z=ρ.lookup z)→plT τ p=plT ρ p
 | .l h,e=>by
  unfold plT
  cases hv:h.isV with
  | false=>rfl
  | true=>simp only [if_true,e h hv (by simp [T.occ])]
 | .u h t,e=>by simp only [plT,plT_congrV t fun z hv hz=>e z hv (by simp [T.occ,hz])]
 | .b h t v,e=>by simp only [plT,plT_congrV t fun z hv hz=>e z hv (by simp [T.occ,hz]),plT_congrV v fun z hv hz=>e z hv (by simp [T.occ,hz])]
theorem m_of {p t:T} {τ:Tab} (h:mT p t=some τ) (hz:p.sz < 100) (hg:p.good=true):(τ.map (·.1)).Nodup∧τ.length≤2∧(srt τ).map (·.1)=varH p∧plT τ p=t∧∀ q ∈ τ,q.2.dep≤t.dep:=by
 have:=m_ends hz t
 rw [h] at this
 exact m_some hg this
theorem m_fill {q:T} (hg:q.good=true) (hz:q.sz < 100) {ρ:Tab} (hn:(ρ.map (·.1)).Nodup) (hk:(srt ρ).map (·.1)=varH q):∃ τ,mT q (plT ρ q)=some τ∧srt τ=srt ρ∧∀ z,τ.lookup z=ρ.lookup z:=by
 have hl:∀ z,z.isV=true→q.occ z=true→(ρ.lookup z).isSome=true:=fun z h1 h2=>by
  have hz:z ∈ (srt ρ).map (·.1):=by rw [hk]; exact varH_mem.mpr ⟨h1,h2⟩
  obtain ⟨v,hv⟩:=lookup_of_key hz
  rw [srt_lookup hn] at hv
  rw [hv]; rfl
 have hm:=m_ends hz (plT ρ q)
 cases hr:mT q (plT ρ q) with
 | none =>
  rw [hr] at hm
  exact (mloop_complete 100 [] _ hm ρ (fun z v h=>by cases h) (fun q' hq'=>by simp at hq'; subst hq'; rfl) (fun q' hq' z h1 h2=>by simp at hq'; subst hq'; exact hl z h1 h2) (fun q' hq'=>by simp at hq'; subst hq'; exact hg)).elim
 | some τ =>
  obtain ⟨a1,a2,a3,a4,a5⟩:=m_of hr hz hg
  have e:srt τ=srt ρ:=by
   refine tab_ext (by rw [a3]; exact varH_nodup q) (by rw [a3,hk]) fun z a b ha hb=>?_
   have hz:z ∈ varH q:=by rw [← a3]; exact lookup_key (by rw [ha]; rfl)
   obtain ⟨h1,h2⟩:=varH_mem.mp hz
   rw [srt_lookup a1] at ha
   rw [srt_lookup hn] at hb
   exact plT_inj q a4 z h1 h2 a b ha hb
  exact ⟨τ,rfl,e,fun z=>by rw [← srt_lookup a1,← srt_lookup hn,e]⟩
noncomputable def T.noK:T→Bool
 | .l h=>h != .k | .u _ t=>t.noK | .b _ t v=>t.noK && v.noK
noncomputable def mapT (late:T) (τ:Tab):Tab:=τ.map fun q=>(q.1,caT late q.2)
theorem mapT_lookup (late:T) (z:H):∀ τ:Tab,(mapT late τ).lookup z=(τ.lookup z).map (caT late)
 | []=>rfl
 | q::τ=>by
  have ih:=mapT_lookup late z τ
  show ((q.1,caT late q.2)::mapT late τ).lookup z=_
  rw [List.lookup_cons,List.lookup_cons,ih]
  cases z == q.1 <;> rfl
theorem mapT_keys (late:T) (τ:Tab):(mapT late τ).map (·.1)=τ.map (·.1):=by simp [mapT]
theorem mapT_srt (late:T):∀ τ:Tab,srt (mapT late τ)=mapT late (srt τ)
 | []=>rfl
 | [_]=>rfl
 | _::_::_::_=>rfl
 | [a,b]=>by
  show (bif strLt b.1.str a.1.str then _ else _)=mapT late (bif strLt b.1.str a.1.str then [b,a] else [a,b])
  cases strLt b.1.str a.1.str <;> rfl
theorem plT_map (late:T) (τ:Tab):∀ p:T,p.noK=true→plT (mapT late τ) p=caT late (plT τ p)
 | .l h,hk=>by
  have hk:h ≠ .k:=by simpa [T.noK] using hk
  unfold plT
  cases hv:h.isV with
  | false=>simp [caT,hk]
  | true =>
   simp only [if_true,mapT_lookup]
   cases τ.lookup h with
   | none=>simp [caT,hk]
   | some u=>rfl
 | .u h t,hk=>by
  simp only [T.noK] at hk
  simp only [plT,caT,plT_map late τ t hk]
 | .b h t v,hk=>by
  simp only [T.noK,Bool.and_eq_true] at hk
  simp only [plT,caT,plT_map late τ t hk.1,plT_map late τ v hk.2]
theorem m_map {p t late:T} {τ:Tab} (hg:p.good=true) (hz:p.sz < 100) (hk:p.noK=true) (h:mT p t=some τ):∃ τ',mT p (caT late t)=some τ'∧srt τ'=mapT late (srt τ)∧∀ z,τ'.lookup z=(mapT late τ).lookup z:=by
 obtain ⟨a1,a2,a3,a4,a5⟩:=m_of h hz hg
 obtain ⟨τ',b1,b2,b3⟩:=m_fill hg hz (ρ:=mapT late τ) (by rw [mapT_keys]; exact a1) (by rw [mapT_srt,mapT_keys,a3])
 rw [plT_map late τ p hk,a4] at b1
 exact ⟨τ',b1,by rw [b2,mapT_srt],b3⟩
theorem pats_noK:∀ p ∈ pats,p.noK=true:=by decide
theorem rowOf_mem {x:Side} {back:Bool} {other:T} {m:Option Tab} {r:Row}:r ∈ rowOf x back other m ↔ ∃ τ,m=some τ∧(srt τ).map (·.1)=varH x.L∧r=⟨x.kind,x.name,srt τ,back,plT τ other⟩:=by
 unfold rowOf
 cases m with
 | none=>simp
 | some τ =>
  by_cases h:(srt τ).map (·.1)=varH x.L
  ·simp [h]
  ·simp [h]
theorem rows1_mem {x:Side} {t:T} {r:Row}:r ∈ rows1 x t ↔ r ∈ rowOf x false x.R (mT x.L t) ∨ r ∈ rowOf x true x.L (mT x.R t):=List.mem_append
theorem row_name {x:Side} {t:T} {r:Row} (h:r ∈ rows1 x t):r.kind=x.kind∧r.name=x.name:=by
 rcases rows1_mem.mp h with h | h
 ·obtain ⟨_,_,_,rfl⟩:=rowOf_mem.mp h; exact ⟨rfl,rfl⟩
 ·obtain ⟨_,_,_,rfl⟩:=rowOf_mem.mp h; exact ⟨rfl,rfl⟩
theorem row_back {x:Side} (hx:okSide x) (hne:varH x.L ≠ varH x.R) {t:T} {r:Row} (h:r ∈ rows1 x t):r.back=false:=by
 rcases rows1_mem.mp h with h | h
 ·obtain ⟨_,_,_,rfl⟩:=rowOf_mem.mp h; rfl
 ·obtain ⟨τ,h1,h2,rfl⟩:=rowOf_mem.mp h
  have:=(m_of h1 (pats_dep _ hx.2.1).2 (pats_good _ hx.2.1)).2.2.1
  exact absurd (h2.symm.trans this) hne
theorem row_turned {x:Side} (hx:okSide x) (he:varH x.L=varH x.R) {t:T} {r:Row} (h:r ∈ rows1 x t):(⟨r.kind,r.name,r.pl,!r.back,t⟩:Row) ∈ rows1 x r.t:=by
 rcases rows1_mem.mp h with h | h
 ·obtain ⟨τ,h1,h2,rfl⟩:=rowOf_mem.mp h
  obtain ⟨a1,a2,a3,a4,a5⟩:=m_of h1 (pats_dep _ hx.1).2 (pats_good _ hx.1)
  obtain ⟨τ',b1,b2,b3⟩:=m_fill (pats_good _ hx.2.1) (pats_dep _ hx.2.1).2 a1 (a3.trans he)
  exact rows1_mem.mpr (.inr (rowOf_mem.mpr ⟨τ',b1,by rw [b2]; exact a3,by
   rw [b2,plT_congr (τ:=τ') (ρ:=τ) x.L fun z _=>b3 z,a4]; rfl⟩))
 ·obtain ⟨τ,h1,h2,rfl⟩:=rowOf_mem.mp h
  obtain ⟨a1,a2,a3,a4,a5⟩:=m_of h1 (pats_dep _ hx.2.1).2 (pats_good _ hx.2.1)
  obtain ⟨τ',b1,b2,b3⟩:=m_fill (pats_good _ hx.1) (pats_dep _ hx.1).2 a1 (a3.trans he.symm)
  exact rows1_mem.mpr (.inl (rowOf_mem.mpr ⟨τ',b1,by rw [b2]; exact h2,by
   rw [b2,plT_congr (τ:=τ') (ρ:=τ) x.R fun z _=>b3 z,a4]; rfl⟩))
theorem row_called {x:Side} (hx:okSide x) {t late:T} {r:Row} (h:r ∈ rows1 x t):(⟨r.kind,r.name,mapT late r.pl,r.back,caT late r.t⟩:Row) ∈ rows1 x (caT late t):=by
 rcases rows1_mem.mp h with h | h
 ·obtain ⟨τ,h1,h2,rfl⟩:=rowOf_mem.mp h
  obtain ⟨τ',b1,b2,b3⟩:=m_map (late:=late) (pats_good _ hx.1) (pats_dep _ hx.1).2 (pats_noK _ hx.1) h1
  exact rows1_mem.mpr (.inl (rowOf_mem.mpr ⟨τ',b1,by rw [b2,mapT_keys]; exact h2,by
   rw [b2,plT_congr (τ:=τ') (ρ:=mapT late τ) x.R fun z _=>b3 z,plT_map late τ _ (pats_noK _ hx.2.1)]⟩))
 ·obtain ⟨τ,h1,h2,rfl⟩:=rowOf_mem.mp h
  obtain ⟨τ',b1,b2,b3⟩:=m_map (late:=late) (pats_good _ hx.2.1) (pats_dep _ hx.2.1).2 (pats_noK _ hx.2.1) h1
  exact rows1_mem.mpr (.inr (rowOf_mem.mpr ⟨τ',b1,by rw [b2,mapT_keys]; exact h2,by
   rw [b2,plT_congr (τ:=τ') (ρ:=mapT late τ) x.L fun z _=>b3 z,plT_map late τ _ (pats_noK _ hx.1)]⟩))
theorem row_dep {x:Side} (hx:okSide x) {t:T} {r:Row} (h:r ∈ rows1 x t):r.t.dep≤t.dep+2∧r.pl.length≤2∧∀ q ∈ r.pl,q.2.dep≤t.dep:=by
 rcases rows1_mem.mp h with h | h
 ·obtain ⟨τ,h1,h2,rfl⟩:=rowOf_mem.mp h
  obtain ⟨a1,a2,a3,a4,a5⟩:=m_of h1 (pats_dep _ hx.1).2 (pats_good _ hx.1)
  exact ⟨Nat.le_trans (plT_dep a5 x.R) (Nat.add_comm 2 _ ▸ Nat.add_le_add_right (pats_dep _ hx.2.1).1 _),by show (srt τ).length≤2; rw [srt_len]; exact a2,fun q hq=>a5 q ((srt_mem τ).mp hq)⟩
 ·obtain ⟨τ,h1,h2,rfl⟩:=rowOf_mem.mp h
  obtain ⟨a1,a2,a3,a4,a5⟩:=m_of h1 (pats_dep _ hx.2.1).2 (pats_good _ hx.2.1)
  exact ⟨Nat.le_trans (plT_dep a5 x.L) (Nat.add_comm 2 _ ▸ Nat.add_le_add_right (pats_dep _ hx.1).1 _),by show (srt τ).length≤2; rw [srt_len]; exact a2,fun q hq=>a5 q ((srt_mem τ).mp hq)⟩
theorem rowsT_mem {xs:List Side} {t:T} {r:Row}:r ∈ rowsT xs t ↔ ∃ x ∈ xs,r ∈ rows1 x t:=List.mem_flatMap
structure okSides (S:List Side):Prop where
 ok:∀ x ∈ S,okSide x
 str:∀ x ∈ S,PyData.strOk x.kind=true∧PyData.strOk x.name=true
 nd:(S.map (·.name)).Nodup
 len:S.length≤10
structure okRow (r:Row) (m:Nat):Prop where
 k:PyData.strOk r.kind=true
 n:PyData.strOk r.name=true
 t:r.t.dep≤m
 p:∀ q ∈ r.pl,q.2.dep≤m
 l:r.pl.length≤2
theorem okRow.pl {r:Row} {m:Nat} (h:okRow r m) (hm:m < 40):r.enc.pl 55=true:=by
 have h1:r.t.enc.pl 54=true:=enc_pl60 (ltw (Nat.lt_of_le_of_lt h.t hm)) (by decide)
 have h2:(D.tup (r.pl.map fun q=>.tup [.str q.1.str,q.2.enc])).pl 54=true:=by
  simp only [pl_none,pl_bool,pl_str,pl_int,pl_raw,pl_dct,pl_obj,pl_tup0,pl_tup,pl_lst0,pl_lst]
  refine pls_iff.mpr fun d hd=>?_
  obtain ⟨q,hq,rfl⟩:=List.mem_map.mp hd
  have:q.2.enc.pl 52=true:=enc_pl60 (ltw (Nat.lt_of_le_of_lt (h.p q hq) hm)) (by decide)
  simp only [pl_none,pl_bool,pl_str,pl_int,pl_raw,pl_dct,pl_obj,pl_tup0,pl_tup,pl_lst0,pl_lst,D.pls,str_ok,this,Bool.and_self]
 have hb:(D.bool r.back).pl 54=true:=by simp only [pl_none,pl_bool,pl_str,pl_int,pl_raw,pl_dct,pl_obj,pl_tup0,pl_tup,pl_lst0,pl_lst]
 have hk:(D.str r.kind).pl 54=true:=by simp only [pl_none,pl_bool,pl_str,pl_int,pl_raw,pl_dct,pl_obj,pl_tup0,pl_tup,pl_lst0,pl_lst,h.k]
 have hn:(D.str r.name).pl 54=true:=by simp only [pl_none,pl_bool,pl_str,pl_int,pl_raw,pl_dct,pl_obj,pl_tup0,pl_tup,pl_lst0,pl_lst,h.n]
 unfold Row.enc
 show D.pls _ 54=true
 simp only [D.pls,h1,h2,hb,hk,hn,Bool.and_self]
theorem rows_pl {rs:List Row} {m:Nat} (h:∀ r ∈ rs,okRow r m) (hm:m < 40):(D.lst (rs.map Row.enc)).pl 60=true:=by
 show D.pls _ 59=true
 refine pls_iff.mpr fun d hd=>?_
 obtain ⟨r,hr,rfl⟩:=List.mem_map.mp hd
 exact pl_mono _ _ _ (by decide) ((h r hr).pl hm)
theorem rows_ok {S:List Side} (hS:okSides S) {t:T}:∀ r ∈ rowsT S t,okRow r (t.dep+2):=fun r hr=>by
 obtain ⟨x,hx,h1⟩:=rowsT_mem.mp hr
 obtain ⟨a,b⟩:=row_name h1
 obtain ⟨c,d,e⟩:=row_dep (hS.ok x hx) h1
 exact ⟨by rw [a]; exact (hS.str x hx).1,by rw [b]; exact (hS.str x hx).2,c,fun q hq=>Nat.le_trans (e q hq) (Nat.le_add_right ..),d⟩
noncomputable def skD (S:List Side) (gb:Bool):D:=.obj 187 [sx "sides", sx "goes_back"] [.lst (S.map Side.enc),.bool gb]
theorem look_sk (S:List Side) (gb:Bool):look (sx "sides") [sx "sides", sx "goes_back"] [D.lst (S.map Side.enc),D.bool gb]=some (D.lst (S.map Side.enc)):=rfl
theorem meth_of {S:List Side} (hS:okSides S) (gb:Bool) {t:T} (ht:t.dep < 40) (n:Nat) {env:Env'} {σ:Sto} (ho:okS σ) (h41:env.lookup 41=some (.d (skD S gb))) {x:X} (hx:(lv fns clss (n+130)).e env σ x=some (.d t.enc,σ)) :
  evD (lv fns clss (n+131)) env σ (.meth (.var 41) (sx "turns") 6 [x])=some (.lst ((rowsT S t).map Row.enc),σ):=by
 have hc:=c6 hS.ok hS.len (look_sk S gb) ht n σ ho
 exact r_D (r_meth (evD_var h41) (by decide +kernel) (r_cons hx r_nil) hc)
theorem cmp_of {m:Nat} {env:Env'} {σ σ1 σ2:Sto} {op:CmpOp} {a b:X} {x y:D} {c:Bool} (h1:evD (lv fns clss m) env σ a=some (x,σ1)) (h2:evD (lv fns clss m) env σ1 b=some (y,σ2)) (h3:cmpD op x y=some c):test (lv fns clss (m+1)) env σ (.cmp op a b)=some (c,σ2):=r_test (r_cmp h1 h2 h3)
theorem e_of_test {l:Lv} {env:Env'} {σ σ1:Sto} {a:X} {c:Bool} (h:test l env σ a=some (c,σ1)):∃ r,l.e env σ a=some (r,σ1)∧truth r σ1=some c:=by
 obtain ⟨⟨r,σ2⟩,h1,h2⟩:=Option.bind_eq_some_iff.mp h
 obtain ⟨b,h3,h4⟩:=Option.map_eq_some_iff.mp h2
 cases h4
 exact ⟨r,h1,h3⟩
theorem or_of {m:Nat} {env:Env'} {σ σ1:Sto} {a b:X} {c:Bool} (h1:test (lv fns clss m) env σ a=some (false,σ1)) (h2:test (lv fns clss m) env σ1 b=some (c,σ1)):test (lv fns clss (m+1)) env σ (.orE a b)=some (c,σ1):=by
 obtain ⟨r,e1,e2⟩:=e_of_test h1
 obtain ⟨q,e3,e4⟩:=e_of_test h2
 exact bindE (a:=(q,σ1)) (bindE e1 (bindE e2 e3)) (mapE e4)
theorem call_of {m f:Nat} {env:Env'} {σ σ1 σ2:Sto} {xs:List X} {vs:List V} {d:D} (h1:evs (lv fns clss m) env σ xs=some (vs,σ1)) (h2:(lv fns clss m).c f vs σ1=some (d,σ2)):evD (lv fns clss (m+1)) env σ (.call f xs)=some (d,σ2):=r_D (r_call h1 h2)
theorem evs_cons {l:Lv} {env:Env'} {σ σ1 σ2:Sto} {x:X} {xs:List X} {v:V} {vs:List V} (h:l.e env σ x=some (v,σ1)) (h2:evs l env σ1 xs=some (vs,σ2)):evs l env σ (x::xs)=some (v::vs,σ2):=bindE h (mapE h2)
theorem evs_nil {l:Lv} {env:Env'} {σ:Sto}:evs l env σ []=some ([],σ):=rfl
theorem e_var {m:Nat} {env:Env'} {σ:Sto} {i:Nat} {v:V} (h:env.lookup i=some v):(lv fns clss (m+1)).e env σ (.var i)=some (v,σ):=mapE h
theorem e_of_D {l:Lv} {env:Env'} {σ σ1:Sto} {x:X} {d:D} (h:evD l env σ x=some (d,σ1)):l.e env σ x=some (.d d,σ1):=by
 obtain ⟨⟨r | n,σ2⟩,h1,h2⟩:=Option.bind_eq_some_iff.mp h
 ·cases h2; exact h1
 ·cases h2
theorem asg_of {l:Lv} {env:Env'} {σ σ1:Sto} {i:Nat} {x:X} {v:V} (h:l.e env σ x=some (v,σ1)):evS1 l env σ (.asg i x)=some (.next,(i,v)::env,σ1):=mapE h
theorem eqD_row {x y:Row} {m:Nat}:x.enc=y.enc→x.name=y.name∧x.back=y.back:=by
 intro h
 unfold Row.enc at h
 simp only [D.tup.injEq,List.cons.injEq,D.str.injEq,D.bool.injEq] at h
 exact ⟨h.2.1,h.2.2.2.1⟩
noncomputable def keptB (S:List Side):List D:=S.map fun x=>D.bool (decide (varH x.L=varH x.R))
theorem look_kept:∀ (S:List Side) (x:Side),x ∈ S→(S.map (·.name)).Nodup→look x.name (S.map (·.name)) (keptB S)=some (.bool (decide (varH x.L=varH x.R)))
 | [],x,h,_=>by cases h
 | y::S,x,h,hn=>by
  rw [List.map_cons,List.nodup_cons] at hn
  show (if x.name=y.name then _ else _)=_
  rcases List.mem_cons.mp h with rfl | h
  ·rw [if_pos rfl]
  ·rw [if_neg (fun e=>hn.1 (by rw [← e]; exact List.mem_map_of_mem h))]
   exact look_kept S x h hn.2
noncomputable def lawPre:List S :=
 [(.asg 30 (.newL [(.ife (.cmp .Gt (.bi .len (.var 39)) (.int 0)) (.bi .list (.cut (.var 39) none (some 40))) (.bi .list (.glo (sx "_law_plain") (.tup [.int 0,.int 0,.int 5,.int 2,.int 0,.int 0,.int 0,.int 0,.int 0,.int 0])))),(.int 0)])),
 (.asgW [38,12,13] [(.newL []),(.newL []),.newD]),
 (.asg 31 (.bin .Add (.int 1) (.call 9 [(.var 30),(.int 2)]))),
 (.forR 7 (.bin .Add (.bin .Add (.var 31) (.int 1)) (.call 9 [(.var 30),(.int 2)])) [(.asgT [19,20] (.idx (.call 8 []) (.call 9 [(.var 30),(.int 9)]))),
  (.ife (.andE (.cmp .GtE (.var 7) (.var 31)) (.cmp2 .Eq .Eq (.call 12 [(.var 19)]) (.lst []) (.call 12 [(.var 20)]))) [(.setI (.var 13) (.bin .Add (.str (sx "t")) (.bi .str (.bin .Sub (.int 9) (.var 7)))) (.tup [(.var 19),(.var 20)])),
  (.expr (.app (.var 38) (.tup [(.str (sx "told")),(.bin .Add (.str (sx "t")) (.bi .str (.bin .Sub (.int 9) (.var 7)))),(.var 19),(.var 20)])))] [(.asg 40 (.andE (.cmp .Eq (.call 9 [(.var 30),(.int 5)]) (.int 4)) (.cmp .In (.str (sx "?x")) (.call 12 [(.var 19)])))),
  (.expr (.app (.var 12) (.new 1 [(.bin .Add (.str (sx "r")) (.bi .str (.var 7))),(.var 19),(.var 20),(.ife (.var 40) (.tup [(.tup [(.str (sx "unlike")),(.glo (sx "_law_x") (.tup [.str (sx "?x")])),(.tup [(.str (sx "b"))])])]) (.tup []))]))),
  (.ife (.notE (.var 40)) [(.expr (.app (.var 38) (.tup [(.str (sx "rule")),(.bin .Add (.str (sx "r")) (.bi .str (.var 7))),(.var 19),(.var 20)])))] [])])])]
noncomputable def lawTail:List S :=
 [(.asgU [0,29] [(.call 10 [(.var 30),(.int 3)]),(.call 10 [(.var 30),(.int 1)])]),
 (.asg 41 (.new 0 [(.frz 12),(.frz 13)])),
 (.asg 42 (.call 15 [(.var 38),(.var 0)])),
 (.ife (.orE (.cmp .NotEq (.meth (.var 41) (sx "turns") 6 [(.var 0)]) (.var 42)) (.cmp .NotEq (.meth (.var 41) (sx "turns") 6 [(.tup [(.str (sx "s")),(.var 0)])]) (.call 15 [(.var 38),(.tup [(.str (sx "s")),(.var 0)])]))) [(.ret (.bool false))] []),
 (.asg 43 (.bi .dict (.comp [] (.tup [(.var 18),(.cmp .Eq (.call 12 [(.var 19)]) (.call 12 [(.var 20)]))]) (.tup [17,18,19,20]) (.var 38) none))),
 (.forD (.tup [17,18,24,23,22]) (.var 42) [(.ife (.cmp .NotEq (.cmp .In (.tup [(.var 17),(.var 18),(.var 24),(.notE (.var 23)),(.var 0)]) (.meth (.var 41) (sx "turns") 6 [(.var 22)])) (.idx (.var 43) (.var 18))) [(.ret (.bool false))] [])]),
 (.asg 44 (.meth (.var 41) (sx "turns") 6 [(.call 16 [(.var 0),(.var 29)])])),
 (.forD (.tup [17,18,24,23,22]) (.var 42) [(.asg 45 (.bi .tuple (.comp [29] (.tup [(.var 46),(.call 16 [(.var 1),(.var 29)])]) (.tup [46,1]) (.var 24) none))),
  (.ife (.cmp .NotIn (.tup [(.var 17),(.var 18),(.var 45),(.var 23),(.call 16 [(.var 22),(.var 29)])]) (.var 44)) [(.ret (.bool false))] [])]),
 (.ret (.bool true))]
theorem eqD_bool (a b:Bool):eqD (.bool a) (.bool b)=some (decide (a=b)):=by cases a <;> cases b <;> decide +kernel
theorem cmpE_of {m:Nat} {env:Env'} {σ σ1 σ2:Sto} {op:CmpOp} {a b:X} {x y:D} {c:Bool} (h1:evD (lv fns clss m) env σ a=some (x,σ1)) (h2:evD (lv fns clss m) env σ1 b=some (y,σ2)) (h3:cmpD op x y=some c):evD (lv fns clss (m+1)) env σ (.cmp op a b)=some (.bool c,σ2):=r_D (r_cmp h1 h2 h3)
theorem notE_of {m:Nat} {env:Env'} {σ:Sto} {i:Nat} {b:Bool} (h:env.lookup i=some (.d (.bool b))):evD (lv fns clss (m+2)) env σ (.notE (.var i))=some (.bool (!b),σ):=r_D (r_not (r_var h))
theorem idxE_of {m:Nat} {env:Env'} {σ:Sto} {i j:Nat} {a b d:D} (h:env.lookup i=some (.d a)) (h2:env.lookup j=some (.d b)) (h3:idxD a b=some d):evD (lv fns clss (m+2)) env σ (.idx (.var i) (.var j))=some (d,σ):=r_D (r_idx (r_var h) (r_D (r_var h2)) h3)
noncomputable def k6:List S:=[(.ife (.cmp .NotEq (.cmp .In (.tup [(.var 17),(.var 18),(.var 24),(.notE (.var 23)),(.var 0)]) (.meth (.var 41) (sx "turns") 6 [(.var 22)])) (.idx (.var 43) (.var 18))) [(.ret (.bool false))] [])]
noncomputable def rowEnv (r:Row):Env':=[(22,.d r.t.enc),(23,.d (.bool r.back)),(24,.d (.tup (r.pl.map fun q=>.tup [.str q.1.str,q.2.enc]))),(18,.d (.str r.name)),(17,.d (.str r.kind))]
theorem name_inj:∀ {S:List Side},(S.map (·.name)).Nodup→∀ {x y:Side},x ∈ S→y ∈ S→x.name=y.name→x=y
 | [],_,x,y,hx,_,_=>by cases hx
 | z::S,hn,x,y,hx,hy,e=>by
  rw [List.map_cons,List.nodup_cons] at hn
  cases hx with
  | head =>
   cases hy with
   | head=>rfl
   | tail _ hy=>exact absurd (show z.name ∈ S.map (·.name) by rw [e]; exact List.mem_map_of_mem hy) hn.1
  | tail _ hx =>
   cases hy with
   | head=>exact absurd (show z.name ∈ S.map (·.name) by rw [← e]; exact List.mem_map_of_mem hx) hn.1
   | tail _ hy=>exact name_inj hn.2 hx hy e
theorem turned_in {S:List Side} (hS:okSides S) {t:T} (ht:t.dep < 30) {r:Row} {x:Side} (hx:x ∈ S) (hr:r ∈ rows1 x t) :
  cmpD .In (⟨r.kind,r.name,r.pl,!r.back,t⟩:Row).enc (.lst ((rowsT S r.t).map Row.enc))=some (decide (varH x.L=varH x.R)):=by
 have hrr:=rows_ok hS r (rowsT_mem.mpr ⟨x,hx,hr⟩)
 have hp1:(⟨r.kind,r.name,r.pl,!r.back,t⟩:Row).enc.pl 60=true:=pl_mono _ 55 _ (by decide) (okRow.pl (m:=t.dep+2) ⟨hrr.k,hrr.n,Nat.le_add_right ..,hrr.p,hrr.l⟩ (ltw (Nat.add_lt_add_right ht 2)))
 have hp2:=rows_pl (rows_ok hS (t:=r.t)) (ltw (Nat.add_lt_add_right (Nat.lt_of_le_of_lt hrr.t (Nat.add_lt_add_right ht 2)) 2))
 show anyEq _ _=_
 by_cases e:varH x.L=varH x.R
 ·rw [decide_eq_true e]
  exact anyEq_t hp1 hp2 (List.mem_map_of_mem (rowsT_mem.mpr ⟨x,hx,row_turned (hS.ok x hx) e hr⟩))
 ·rw [decide_eq_false e]
  refine anyEq_f hp1 hp2 fun hm=>?_
  obtain ⟨r',h1,h2⟩:=List.mem_map.mp hm
  obtain ⟨n1,n2⟩:=eqD_row (m:=0) h2
  obtain ⟨x',h3,h4⟩:=rowsT_mem.mp h1
  have hn:x'.name=x.name:=by rw [← (row_name h4).2,n1]; exact (row_name hr).2
  have hxx:x'=x:=name_inj hS.nd h3 hx hn
  subst hxx
  have hxo:=hS.ok _ hx
  have b1:=row_back hxo e h4
  have b2:=row_back hxo e hr
  rw [n2,b2] at b1
  cases b1
theorem st6 (n:Nat) {S:List Side} (hS:okSides S) (gb:Bool) {t:T} (ht:t.dep < 30) {r:Row} {x:Side} (hx:x ∈ S) (hr:r ∈ rows1 x t) {env:Env'} {σ:Sto} (ho:okS σ) (h41:env.lookup 41=some (.d (skD S gb))) (h0:env.lookup 0=some (.d t.enc)) (h43:env.lookup 43=some (.d (.dct (S.map (·.name)) (keptB S)))) :
  (lv fns clss (n+134)).s (rowEnv r++env) σ k6=some (.next,rowEnv r++env,σ):=by
 have hrr:=rows_ok hS r (rowsT_mem.mpr ⟨x,hx,hr⟩)
 have h1:evD (lv fns clss (n+131)) (rowEnv r++env) σ (.tup [(.var 17),(.var 18),(.var 24),(.notE (.var 23)),(.var 0)])=some ((⟨r.kind,r.name,r.pl,!r.back,t⟩:Row).enc,σ) :=
  tup_of (evDs_cons (evD_var rfl) (evDs_cons (evD_var rfl) (evDs_cons (evD_var rfl) (evDs_cons (notE_of rfl) (evDs_cons (evD_var h0) evDs_nil)))))
 have h41':(rowEnv r++env).lookup 41=some (.d (skD S gb)):=h41
 have h2:evD (lv fns clss (n+131)) (rowEnv r++env) σ (.meth (.var 41) (sx "turns") 6 [(.var 22)])=some (.lst ((rowsT S r.t).map Row.enc),σ):=meth_of (t:=r.t) hS gb (ltw (Nat.lt_of_le_of_lt hrr.t (Nat.add_lt_add_right ht 2))) n ho h41' (e_var rfl)
 have h3:=cmpE_of h1 h2 (turned_in hS ht hx hr)
 have h4:evD (lv fns clss (n+132)) (rowEnv r++env) σ (.idx (.var 43) (.var 18))=some (.bool (decide (varH x.L=varH x.R)),σ) :=
  idxE_of h43 (b:=.str r.name) rfl (by rw [(row_name hr).2]; exact look_kept S x hx hS.nd)
 have h5:=cmp_of (op:=.NotEq) (c:=false) h3 h4 (by rw [show ∀ a b,cmpD .NotEq a b=(eqD a b).map (fun b=>!b) from fun _ _=>rfl,eqD_bool]; simp)
 exact ps_one (st_iteF h5 (st_nil _ _ _))
theorem lp6 (n:Nat) {S:List Side} (hS:okSides S) (gb:Bool) {t:T} (ht:t.dep < 30) {σ:Sto} (ho:okS σ):∀ (rs:List Row) (env:Env'),(∀ r ∈ rs,∃ x ∈ S,r ∈ rows1 x t)→env.lookup 41=some (.d (skD S gb))→env.lookup 0=some (.d t.enc)→env.lookup 43=some (.d (.dct (S.map (·.name)) (keptB S))) →
  ∃ env',forL (lv fns clss (n+134)) (.tup [17,18,24,23,22]) k6 (rs.map Row.enc) env σ=some (.next,env',σ)∧∀ i,i=41 ∨ i=0 ∨ i=29 ∨ i=42→env'.lookup i=env.lookup i
 | [],env,_,_,_,_=>⟨env,rfl,fun _ _=>rfl⟩
 | r::rs,env,hr,h41,h0,h43=>by
  obtain ⟨x,hx,hx2⟩:=hr r (.head _)
  have h1:=st6 n hS gb ht hx hx2 (env:=env) ho h41 h0 h43
  obtain ⟨env',h2,h3⟩:=lp6 n hS gb ht ho rs (rowEnv r++env) (fun r' h'=>hr r' (.tail _ h')) h41 h0 h43
  exact ⟨env',fl_next rfl h1 h2,fun i hi=>(h3 i hi).trans (by rcases hi with rfl | rfl | rfl | rfl <;> rfl)⟩
noncomputable def k8:List S:=[(.asg 45 (.bi .tuple (.comp [29] (.tup [(.var 46),(.call 16 [(.var 1),(.var 29)])]) (.tup [46,1]) (.var 24) none))),
  (.ife (.cmp .NotIn (.tup [(.var 17),(.var 18),(.var 45),(.var 23),(.call 16 [(.var 22),(.var 29)])]) (.var 44)) [(.ret (.bool false))] [])]
noncomputable def encPl (pl:Tab):D:=.tup (pl.map fun q=>.tup [.str q.1.str,q.2.enc])
theorem st8 (n:Nat) {S:List Side} (hS:okSides S) {t late:T} (ht:t.dep≤3) (hlate:late.dep≤1) {r:Row} {x:Side} (hx:x ∈ S) (hr:r ∈ rows1 x t) {env:Env'} {σ:Sto} (ho:okS σ) (h29:env.lookup 29=some (.d late.enc)) (h44:env.lookup 44=some (.d (.lst ((rowsT S (caT late t)).map Row.enc)))) :
  (lv fns clss (n+130)).s (rowEnv r++env) σ k8=some (.next,(45,.d (encPl (mapT late r.pl)))::(rowEnv r++env),σ):=by
 have hrr:=rows_ok hS r (rowsT_mem.mpr ⟨x,hx,hr⟩)
 have hdd:=row_dep (hS.ok x hx) hr
 have hrow:=row_called (late:=late) (hS.ok x hx) hr
 have g1:evS1 (lv fns clss (n+129)) (rowEnv r++env) σ (.asg 45 (.bi .tuple (.comp [29] (.tup [(.var 46),(.call 16 [(.var 1),(.var 29)])]) (.tup [46,1]) (.var 24) none)))=some (.next,(45,.d (encPl (mapT late r.pl)))::(rowEnv r++env),σ):=by
  have h24:(rowEnv r++env).lookup 24=some (.d (.tup (r.pl.map fun q=>.tup [.str q.1.str,q.2.enc]))):=rfl
  have h29':(rowEnv r++env).lookup 29=some (.d late.enc):=h29
  generalize rowEnv r++env=env2 at h24 h29' ⊢
  rw [encPl,mapT,List.map_map]
  exact s_asg (r_bi (b:=.tuple) (by decide) (r_D (r_comp (r_D (r_var h24)) (lim_of (small_of (by rw [List.length_map]; exact Nat.le_trans hrr.l (by decide)))) (by
   rw [caps1 h29']
   exact compL_map (f:=fun q:H × T=>D.tup [.str q.1.str,(caT late q.2).enc]) fun q hq=>⟨[(1,.d q.2.enc),(46,.d (.str q.1.str)),(29,.d late.enc)],rfl,r_D (r_tup (r_dcons (r_D (r_var rfl)) (r_dcons (r_D (r_call (r_cons (r_var rfl) (r_cons (r_var rfl) r_nil)) (c16 late q.2 (n+125) σ (dpw (Nat.le_trans (hdd.2.2 q hq) ht)) (lwt (Nat.le_trans (hdd.2.2 q hq) ht)) ho))) r_dnil)))⟩)))
   (lim_of (small_of (by rw [List.length_map]; exact Nat.le_trans hrr.l (by decide)))))
 have h1:evD (lv fns clss (n+127)) ((45,.d (encPl (mapT late r.pl)))::(rowEnv r++env)) σ (.tup [(.var 17),(.var 18),(.var 45),(.var 23),(.call 16 [(.var 22),(.var 29)])])=some ((⟨r.kind,r.name,mapT late r.pl,r.back,caT late r.t⟩:Row).enc,σ) :=
  tup_of (evDs_cons (evD_var rfl) (evDs_cons (evD_var rfl) (evDs_cons (evD_var rfl) (evDs_cons (evD_var rfl) (evDs_cons (call_of (evs_cons (e_var rfl) (evs_cons (e_var (v:=.d late.enc) h29) evs_nil)) (c16 late r.t (n+125) σ (dpw (Nat.le_trans hrr.t (Nat.add_le_add_right ht 2))) (lwt (Nat.le_trans hrr.t (Nat.add_le_add_right ht 2))) ho)) evDs_nil)))))
 have hca:(caT late t).dep+2 < 40:=lwt (Nat.add_le_add_right (Nat.le_trans (caT_dep t) (Nat.add_le_add ht hlate)) 2)
 have hmem:cmpD .NotIn (⟨r.kind,r.name,mapT late r.pl,r.back,caT late r.t⟩:Row).enc (.lst ((rowsT S (caT late t)).map Row.enc))=some false:=by
  show (anyEq _ _).map _=_
  have hm:(⟨r.kind,r.name,mapT late r.pl,r.back,caT late r.t⟩:Row) ∈ rowsT S (caT late t):=rowsT_mem.mpr ⟨x,hx,hrow⟩
  have hp1:=okRow.pl (rows_ok hS _ hm) hca
  rw [anyEq_t (pl_mono _ 55 _ (by decide) hp1) (rows_pl (rows_ok hS (t:=caT late t)) hca) (List.mem_map_of_mem hm)]
  rfl
 have h44':((45,V.d (encPl (mapT late r.pl)))::(rowEnv r++env)).lookup 44=some (.d (.lst ((rowsT S (caT late t)).map Row.enc))):=h44
 have h2:=cmp_of (op:=.NotIn) (m:=n+127) h1 (evD_var h44') hmem
 exact ss_next g1 (ss_one (s_ifF h2 ss_nil))
theorem lp8 (n:Nat) {S:List Side} (hS:okSides S) {t late:T} (ht:t.dep≤3) (hlate:late.dep≤1) {σ:Sto} (ho:okS σ):∀ (rs:List Row) (env:Env'),(∀ r ∈ rs,∃ x ∈ S,r ∈ rows1 x t)→env.lookup 29=some (.d late.enc)→env.lookup 44=some (.d (.lst ((rowsT S (caT late t)).map Row.enc))) →
  ∃ env',forL (lv fns clss (n+130)) (.tup [17,18,24,23,22]) k8 (rs.map Row.enc) env σ=some (.next,env',σ)
 | [],env,_,_,_=>⟨env,rfl⟩
 | r::rs,env,hr,h29,h44=>by
  obtain ⟨x,hx,hx2⟩:=hr r (.head _)
  have h1:=st8 n hS ht hlate hx hx2 (env:=env) ho h29 h44
  obtain ⟨env',h2⟩:=lp8 n hS ht hlate ho rs ((45,.d (encPl (mapT late r.pl)))::(rowEnv r++env)) (fun r' h'=>hr r' (.tail _ h')) h29 h44
  exact ⟨env',fl_next rfl h1 h2⟩
theorem kept_dict (n:Nat) {S:List Side} (hS:okSides S) {env:Env'} {σ:Sto} (ho:okS σ) (h38:env.lookup 38=some (.d (.lst (S.map Side.enc)))) :
  evS1 (lv fns clss (n+135)) env σ (.asg 43 (.bi .dict (.comp [] (.tup [(.var 18),(.cmp .Eq (.call 12 [(.var 19)]) (.call 12 [(.var 20)]))]) (.tup [17,18,19,20]) (.var 38) none)))=some (.next,(43,.d (.dct (S.map (·.name)) (keptB S)))::env,σ):=by
 have hpr:pairsOf' (S.map fun x=>D.tup [.str x.name,.bool (decide (varH x.L=varH x.R))])=some (S.map (·.name),keptB S):=by
  have:∀ S:List Side,pairsOf' (S.map fun x=>D.tup [.str x.name,.bool (decide (varH x.L=varH x.R))])=some (S.map (·.name),keptB S):=by
   intro S
   induction S with
   | nil=>rfl
   | cons x S ih=>exact mapE ih
  exact this S
 have hl:∀ f:Side→D,(S.map f).length≤1000:=fun f=>by rw [List.length_map]; exact Nat.le_trans hS.len (by decide)
 exact s_asg (r_bi (b:=.dict) (by decide) (r_D (r_comp (r_D (r_var h38)) (lim_of (small_of (hl _))) (compL_map (f:=fun x:Side=>D.tup [.str x.name,.bool (decide (varH x.L=varH x.R))]) fun x hx=>⟨[(20,.d x.R.enc),(19,.d x.L.enc),(18,.d (.str x.name)),(17,.d (.str x.kind))],rfl,
  r_D (r_tup (r_dcons (r_D (r_var rfl)) (r_dcons (r_D (r_cmp (r_D (r_call (r_cons (r_var rfl) r_nil) (c12 (hS.ok x hx).1 (n+60) σ ho))) (r_D (r_call (r_cons (r_var rfl) r_nil) (c12 (hS.ok x hx).2.1 (n+60) σ ho))) (eqD_hs _ _))) r_dnil)))⟩)))
  (bindE hpr (lim_of (Bool.and_eq_true_iff.mpr ⟨decide_eq_true hS.nd,small_of (hl _)⟩))))
theorem for_of {l:Lv} {env:Env'} {σ σ1:Sto} {tg:Tg} {it:X} {body:List S} {ds:List D} {r:Option (Fl × Env' × Sto)} (h:evD l env σ it=some (.lst ds,σ1)) (hl:ds.length≤1000) (h2:forL l tg body ds env σ1=r):evS1 l env σ (.forD tg it body)=r:=bindE h (bindE (lim_of (small_of hl)) h2)
theorem tail_rest {S:List Side} (hS:okSides S) (gb:Bool) {t late:T} (t1:t.dep≤3) (l1:late.dep≤1) (n:Nat) {σ:Sto} (ho2:okS σ) {env4:Env'} (k42:env4.lookup 42=some (.d (.lst ((rowsT S t).map Row.enc)))) (k41:env4.lookup 41=some (.d (skD S gb))) (k29:env4.lookup 29=some (.d late.enc)) (k0:env4.lookup 0=some (.d t.enc)) (k38:env4.lookup 38=some (.d (.lst (S.map Side.enc)))) :
  ∃ env',(lv fns clss (n+137)).s env4 σ (lawTail.drop 3)=some (.ret (.bool true),env',σ):=by
 have hrow:=rows_ok hS (t:=t)
 have hlen:=rowsT_len S t
 have hSl:=hS.len
 have hpl:=rows_pl hrow (lwt (Nat.add_le_add_right t1 2))
 have hpl2:=rows_pl (rows_ok hS (t:=.u .s t)) (lwt (Nat.add_le_add_right (Nat.succ_le_succ t1) 2))
 have hds:(T.u .s t).dep < 40:=lwt (Nat.succ_le_succ t1)
 have u1:test (lv fns clss (n+135)) env4 σ (.cmp .NotEq (.meth (.var 41) (sx "turns") 6 [(.var 0)]) (.var 42))=some (false,σ) :=
  cmp_of (meth_of (t:=t) hS gb (lwt t1) (n+3) ho2 k41 (e_var k0)) (evD_var k42) (by rw [show ∀ a b,cmpD .NotEq a b=(eqD a b).map (fun b=>!b) from fun _ _=>rfl,eqD_t hpl]; rfl)
 have stup:∀ m,(lv fns clss (m+2)).e env4 σ (.tup [(.str (sx "s")),(.var 0)])=some (.d (T.u .s t).enc,σ):=fun m=>e_of_D (tup_of (evDs_cons (evD_str _ _ _ _) (evDs_cons (evD_var k0) evDs_nil)))
 have u2:test (lv fns clss (n+135)) env4 σ (.cmp .NotEq (.meth (.var 41) (sx "turns") 6 [(.tup [(.str (sx "s")),(.var 0)])]) (.call 15 [(.var 38),(.tup [(.str (sx "s")),(.var 0)])]))=some (false,σ) :=
  cmp_of (meth_of (t:=.u .s t) hS gb hds (n+3) ho2 k41 (stup _)) (call_of (evs_cons (e_var k38) (evs_cons (stup _) evs_nil)) (c15 (t:=.u .s t) hS.ok hS.len hds (n+3) σ ho2)) (by rw [show ∀ a b,cmpD .NotEq a b=(eqD a b).map (fun b=>!b) from fun _ _=>rfl,eqD_t hpl2]; rfl)
 have g5:=kept_dict n hS (env:=env4) ho2 k38
 obtain ⟨env6,w1,w2⟩:=lp6 n hS gb (t:=t) (lwt t1) ho2 (rowsT S t) ((43,.d (.dct (S.map (·.name)) (keptB S)))::env4) (fun r hr=>rowsT_mem.mp hr) k41 k0 rfl
 have g6:evS1 (lv fns clss (n+134)) ((43,.d (.dct (S.map (·.name)) (keptB S)))::env4) σ (.forD (.tup [17,18,24,23,22]) (.var 42) k6)=some (.next,env6,σ) :=
  for_of (evD_var (d:=.lst ((rowsT S t).map Row.enc)) k42) (by rw [List.length_map]; exact Nat.le_trans hlen (lw (Nat.mul_le_mul_left 2 hSl))) w1
 have m41:env6.lookup 41=some (.d (skD S gb)):=by rw [w2 41 (by simp)]; exact k41
 have m0:env6.lookup 0=some (.d t.enc):=by rw [w2 0 (by simp)]; exact k0
 have m29:env6.lookup 29=some (.d late.enc):=by rw [w2 29 (by simp)]; exact k29
 have m42:env6.lookup 42=some (.d (.lst ((rowsT S t).map Row.enc))):=by rw [w2 42 (by simp)]; exact k42
 have hcd:=caT_dep (late:=late) t
 have g7:evS1 (lv fns clss (n+133)) env6 σ (.asg 44 (.meth (.var 41) (sx "turns") 6 [(.call 16 [(.var 0),(.var 29)])]))=some (.next,(44,.d (.lst ((rowsT S (caT late t)).map Row.enc)))::env6,σ) :=
  asg_of (e_of_D (meth_of (t:=caT late t) hS gb (lwt (Nat.le_trans hcd (Nat.add_le_add t1 l1))) (n+2) ho2 m41 (e_of_D (call_of (evs_cons (e_var m0) (evs_cons (e_var m29) evs_nil)) (c16 late t (n+131) σ (dpw t1) (lwt t1) ho2)))))
 obtain ⟨env8,w3⟩:=lp8 (n+2) hS (late:=late) (t:=t) t1 l1 ho2 (rowsT S t) ((44,.d (.lst ((rowsT S (caT late t)).map Row.enc)))::env6) (fun r hr=>rowsT_mem.mp hr) m29 rfl
 have g8:evS1 (lv fns clss (n+132)) ((44,.d (.lst ((rowsT S (caT late t)).map Row.enc)))::env6) σ (.forD (.tup [17,18,24,23,22]) (.var 42) k8)=some (.next,env8,σ) :=
  for_of (evD_var (d:=.lst ((rowsT S t).map Row.enc)) m42) (by rw [List.length_map]; exact Nat.le_trans hlen (lw (Nat.mul_le_mul_left 2 hSl))) w3
 exact ⟨env8,ss_next (s_ifF (or_of u1 u2) ss_nil) (ss_next g5 (ss_next g6 (ss_next g7 (ss_next g8 (ss_ret rfl)))))⟩
theorem law_tail {S:List Side} (hS:okSides S) {rs:List Rl} {ts:List Side} {ks:List Str} {ds:List D} (hSe:S=(rs.filter fun r=>!r.need).map Rl.side++ts) (hr:∀ r ∈ rs,okSide r.side) (hts:∀ x ∈ ts,okSide x) (ht:∀ x ∈ ts,x.kind=sx "told" ∧ look x.name ks ds=some (.tup [x.L.enc,x.R.enc])) (hk:biD .sortKeys (.dct ks ds)=some (.lst (ts.map fun x=>D.str x.name))) (hl:rs.length+ts.length≤50)
  {xs:List Int} {c:Nat} (hx:xs.length≤40) (hc:c≤200) (n:Nat) {env:Env'} (h30:env.lookup 30=some (.loc 1)) (h12:env.lookup 12=some (.loc 3)) (h13:env.lookup 13=some (.loc 4)) (h38:env.lookup 38=some (.d (.lst (S.map Side.enc)))) :
  ∃ env' σ',(lv fns clss (n+140)).s env [.gone,coatC xs c,.gone,.lst (rs.map Rl.enc),.dct ks ds] lawTail=some (.ret (.bool true),env',σ'):=by
 have ho:∀ c,okS [.gone,coatC xs c,.gone,.lst (rs.map Rl.enc),.dct ks ds]:=fun c=>by
  simp only [okS_gone,okS_dct,okS_lst,coatC,okS_nil]
 obtain ⟨t,c1,t1,t2,t3⟩:=c10 (j:=1) hx 3 (n+138) [.gone,coatC xs c,.gone,.lst (rs.map Rl.enc),.dct ks ds] c (Nat.le_trans (m:=138) (by decide) (Nat.le_add_left ..)) (ho c) rfl (lw (Nat.add_le_add_right hc (2 * 2 ^ 3)))
 obtain ⟨late,c2,l1,l2,l3⟩:=c10 (j:=1) hx 1 (n+138) [.gone,coatC xs c1,.gone,.lst (rs.map Rl.enc),.dct ks ds] c1 (Nat.le_trans (m:=138) (by decide) (Nat.le_add_left ..)) (ho c1) rfl (lw (Nat.add_le_add_right (Nat.le_trans (Nat.le_of_lt t2) (Nat.add_le_add_right hc _)) (2 * 2 ^ 1)))
 have e3:(lv fns clss (n+138)).c 10 [.loc 1,.d (.int (3:Int))] [.gone,coatC xs c,.gone,.lst (rs.map Rl.enc),.dct ks ds]=some (t.enc,[.gone,coatC xs c1,.gone,.lst (rs.map Rl.enc),.dct ks ds]):=t3
 have e4:(lv fns clss (n+138)).c 10 [.loc 1,.d (.int (1:Int))] [.gone,coatC xs c1,.gone,.lst (rs.map Rl.enc),.dct ks ds]=some (late.enc,[.gone,coatC xs c2,.gone,.lst (rs.map Rl.enc),.dct ks ds]):=l3
 have int_of:∀ (m:Nat) (env:Env') (σ:Sto) (i:Int),(lv fns clss (m+1)).e env σ (.int i)=some (.d (.int i),σ):=fun _ _ _ _=>rfl
 have g1:evS1 (lv fns clss (n+139)) env [.gone,coatC xs c,.gone,.lst (rs.map Rl.enc),.dct ks ds] (.asgU [0,29] [(.call 10 [(.var 30),(.int 3)]),(.call 10 [(.var 30),(.int 1)])])=some (.next,(29,.d late.enc)::(0,.d t.enc)::env,[.gone,coatC xs c2,.gone,.lst (rs.map Rl.enc),.dct ks ds]):=by
  have q1:=call_of (m:=n+138) (evs_cons (e_var h30) (evs_cons (int_of _ _ _ _) evs_nil)) e3
  have q2:=call_of (m:=n+138) (evs_cons (e_var h30) (evs_cons (int_of _ _ _ _) evs_nil)) e4
  exact s_asgU (evs_cons (e_of_D q1) (evs_cons (e_of_D q2) evs_nil)) rfl
 have ho2:okS [.gone,coatC xs c2,.gone,.gone,.gone]:=by simp only [okS_gone,okS_dct,okS_lst,coatC,okS_nil]
 obtain ⟨gb,hsk⟩:=n_seeker hr hts ht hk hl (n+26) _ ho2
 rw [← hSe] at hsk
 have hsk:(lv fns clss (n+137)).n 0 [.d (.lst (rs.map Rl.enc)),.d (.dct ks ds)] [.gone,coatC xs c2,.gone,.gone,.gone]=some (skD S gb,[.gone,coatC xs c2,.gone,.gone,.gone]):=hsk
 have g2:evS1 (lv fns clss (n+138)) ((29,.d late.enc)::(0,.d t.enc)::env) [.gone,coatC xs c2,.gone,.lst (rs.map Rl.enc),.dct ks ds] (.asg 41 (.new 0 [(.frz 12),(.frz 13)]))=some (.next,(41,.d (skD S gb))::(29,.d late.enc)::(0,.d t.enc)::env,[.gone,coatC xs c2,.gone,.gone,.gone]):=by
  refine asg_of ?_
  have f1:(lv fns clss (n+137)).e ((29,.d late.enc)::(0,.d t.enc)::env) [.gone,coatC xs c2,.gone,.lst (rs.map Rl.enc),.dct ks ds] (.frz 12)=some (.d (.lst (rs.map Rl.enc)),[.gone,coatC xs c2,.gone,.gone,.dct ks ds]):=by
   show (env.lookup 12).bind _=_
   rw [h12]; rfl
  have f2:(lv fns clss (n+137)).e ((29,.d late.enc)::(0,.d t.enc)::env) [.gone,coatC xs c2,.gone,.gone,.dct ks ds] (.frz 13)=some (.d (.dct ks ds),[.gone,coatC xs c2,.gone,.gone,.gone]):=by
   show (env.lookup 13).bind _=_
   rw [h13]; rfl
  exact r_new (evs_cons f1 (evs_cons f2 evs_nil)) hsk
 generalize hσ:[Cell.gone,coatC xs c2,.gone,.gone,.gone]=σ at ho2 g2
 clear hσ hsk
 have g3:evS1 (lv fns clss (n+137)) ((41,.d (skD S gb))::(29,.d late.enc)::(0,.d t.enc)::env) σ (.asg 42 (.call 15 [(.var 38),(.var 0)]))=some (.next,(42,.d (.lst ((rowsT S t).map Row.enc)))::(41,.d (skD S gb))::(29,.d late.enc)::(0,.d t.enc)::env,σ) :=
  asg_of (e_of_D (call_of (evs_cons (e_var (v:=.d (.lst (S.map Side.enc))) h38) (evs_cons (e_var rfl) evs_nil)) (c15 hS.ok hS.len (lwt t1) (n+6) σ ho2)))
 obtain ⟨env',he⟩:=tail_rest hS gb t1 l1 n ho2 (env4:=(42,V.d (.lst ((rowsT S t).map Row.enc)))::(41,.d (skD S gb))::(29,.d late.enc)::(0,.d t.enc)::env) rfl rfl rfl rfl h38
 exact ⟨env',σ,ss_next g1 (ss_next g2 (ss_next g3 he))⟩
inductive Kd where
 | rule | need | told
 deriving DecidableEq
structure Pick where
 k:Nat
 kd:Kd
 L:T
 R:T
noncomputable def rnm (k:Nat):Str:=sx "r" ++ Str.ofString (toString (k:Int))
noncomputable def tnm (k:Nat):Str:=sx "t" ++ Str.ofString (toString (9 - (k:Int)))
noncomputable def Kd.isT:Kd→Bool
 | .told=>true | _=>false
noncomputable def Kd.isN:Kd→Bool
 | .need=>true | _=>false
noncomputable def Pick.side (p:Pick):Side:=if p.kd.isT then ⟨sx "told", tnm p.k,p.L,p.R⟩ else ⟨sx "rule", rnm p.k,p.L,p.R⟩
noncomputable def Pick.rl (p:Pick):Rl:=⟨rnm p.k,p.L,p.R,p.kd.isN⟩
noncomputable def sidesP (ps:List Pick):List Side:=(ps.filter fun p=>!p.kd.isN).map Pick.side
noncomputable def rulesP (ps:List Pick):List Rl:=(ps.filter fun p=>!p.kd.isT).map Pick.rl
noncomputable def toldP (ps:List Pick):List Pick:=ps.filter fun p=>p.kd.isT
noncomputable def tks (ps:List Pick):List Str:=(toldP ps).map fun p=>tnm p.k
noncomputable def tds (ps:List Pick):List D:=(toldP ps).map fun p=>.tup [p.L.enc,p.R.enc]
noncomputable def stoP (xs:List Int) (c:Nat) (ps:List Pick):Sto:=[.tab,coatC xs c,.lst ((sidesP ps).map Side.enc),.lst ((rulesP ps).map Rl.enc),.dct (tks ps) (tds ps)]
noncomputable def sidesT:List (T × T):=[(.l .a,.u .f (.l .b)),(.u .f (.l .x),.b .g (.l .x) (.l .x)),(.b .g (.l .x) (.l .y),.b .g (.l .y) (.l .x)),(.u .f (.u .f (.l .x)),.l .x),(.b .g (.l .x) (.l .y),.u .f (.l .x)),(.b .g (.l .a) (.l .x),.l .a),(.b .g (.u .f (.l .x)) (.l .y),.u .f (.b .g (.l .x) (.l .y))),(.b .g (.l .x) (.l .x),.l .x),(.u .f (.l .a),.b .g (.l .a) (.l .b))]
structure okPick (p:Pick):Prop where
 L:p.L ∈ pats
 R:p.R ∈ pats
 s:∀ z,z ∈ varH p.R→z ∈ varH p.L
 v:p.L.isV=false
 n:p.kd.isN=true→H.x ∈ varH p.L
theorem sidesT_ok:∀ q ∈ sidesT,q.1 ∈ pats∧q.2 ∈ pats∧q.1.isV=false∧∀ z ∈ varH q.2,z ∈ varH q.1:=by decide
theorem okS_tab:∀ (σ:Sto),okS (.tab::σ) ↔ okS σ:=fun σ=>⟨fun h c hc=>h c (.tail _ hc),fun h c hc n=>by
 rcases List.mem_cons.mp hc with rfl | hc
 ·rfl
 ·exact h c hc n⟩
theorem okS_P (xs:List Int) (c:Nat) (ps:List Pick):okS (stoP xs c ps):=by simp only [stoP,coatC,okS_tab,okS_lst,okS_dct,okS_nil]
theorem c8 (n:Nat) (σ:Sto) (ho:okS σ):(lv fns clss (n+10)).c 8 [] σ=some (.tup (sidesT.map fun q=>.tup [q.1.enc,q.2.enc]),σ):=by
 rw [lvC]
 exact evC_mk (f:=8) (l:=lv fns clss (n+9)) (σ:=σ) (vs:=[]) (g:=f_law_sides) (τ:=[]) (fl:=.ret (.tup (sidesT.map fun q=>.tup [q.1.enc,q.2.enc]))) (env':=[]) rfl rfl (by rw [List.append_nil]; rfl) ho
theorem rn_str (k:Nat) (h:k < 4):biD .str (.int (k:Int))=some (.str (Str.ofString (toString (k:Int))))∧binD .Add (.str (sx "r")) (.str (Str.ofString (toString (k:Int))))=some (.str (rnm k)):=⟨lim_of (Bool.and_eq_true_iff.mpr ⟨decide_eq_true (Int.natCast_nonneg k),decide_eq_true (Int.ofNat_lt.mpr (ltw h))⟩),by rcases k with _ | _ | _ | _ | k <;> first | rfl | exact (Nat.not_succ_le_zero _ (Nat.le_of_add_le_add_right (b:=4) h)).elim⟩
theorem tn_str (k:Nat) (h:k < 4):biD .str (.int (9 - (k:Int)))=some (.str (Str.ofString (toString (9 - (k:Int)))))∧binD .Add (.str (sx "t")) (.str (Str.ofString (toString (9 - (k:Int)))))=some (.str (tnm k)):=⟨lim_of (Bool.and_eq_true_iff.mpr ⟨decide_eq_true (Int.sub_nonneg_of_le (Int.ofNat_le.mpr (lw (Nat.le_of_lt h)))),decide_eq_true (Int.lt_of_le_of_lt (Int.sub_le_self 9 (Int.natCast_nonneg k)) (by decide))⟩),by rcases k with _ | _ | _ | _ | k <;> first | rfl | exact (Nat.not_succ_le_zero _ (Nat.le_of_add_le_add_right (b:=4) h)).elim⟩
theorem bin_of {m:Nat} {env:Env'} {σ σ1 σ2:Sto} {op:Operator} {a b:X} {x y d:D} (h1:evD (lv fns clss m) env σ a=some (x,σ1)) (h2:evD (lv fns clss m) env σ1 b=some (y,σ2)) (h3:binD op x y=some d):evD (lv fns clss (m+1)) env σ (.bin op a b)=some (d,σ2):=r_D (r_bin h1 h2 h3)
theorem str_of {m:Nat} {env:Env'} {σ σ1:Sto} {a:X} {x d:D} (h1:evD (lv fns clss m) env σ a=some (x,σ1)) (h3:biD .str x=some d):evD (lv fns clss (m+1)) env σ (.bi .str a)=some (d,σ1):=r_D (r_bi (b:=.str) (by decide) h1 h3)
theorem evD_int (m:Nat) (env:Env') (σ:Sto) (i:Int):evD (lv fns clss (m+1)) env σ (.int i)=some (.int i,σ):=rfl
theorem rn_ev {k:Nat} (h:k < 4) (m:Nat) {env:Env'} {σ:Sto} (h7:env.lookup 7=some (.d (.int k))):evD (lv fns clss (m+3)) env σ (.bin .Add (.str (sx "r")) (.bi .str (.var 7)))=some (.str (rnm k),σ) :=
 bin_of (evD_str _ _ _ _) (str_of (evD_var h7) (rn_str k h).1) (rn_str k h).2
theorem tn_ev {k:Nat} (h:k < 4) (m:Nat) {env:Env'} {σ:Sto} (h7:env.lookup 7=some (.d (.int k))):evD (lv fns clss (m+4)) env σ (.bin .Add (.str (sx "t")) (.bi .str (.bin .Sub (.int 9) (.var 7))))=some (.str (tnm k),σ) :=
 bin_of (evD_str _ _ _ _) (str_of (bin_of (evD_int _ _ _ _) (evD_var h7) rfl) (tn_str k h).1) (tn_str k h).2
theorem app_of {m n:Nat} {env:Env'} {σ σ1:Sto} {i:Nat} {x:X} {d:D} {ds0 ds:List D} (h:env.lookup i=some (.loc n)) (h0:σ[n]?=some (.lst ds0)) (h1:evD (lv fns clss (m+1)) env σ x=some (d,σ1)) (h2:σ1[n]?=some (.lst ds)) (hl:ds.length≤900):evS1 (lv fns clss (m+2)) env σ (.expr (.app (.var i) x))=some (.next,env,σ1.set n (.lst (ds++[d]))):=s_expr (r_D (r_app (r_var h) h0 h1 h2 (small_of (by rw [List.length_append]; exact Nat.le_trans (Nat.add_le_add_right hl 1) (by decide))) rfl))
theorem lm_int (m:Nat) (env:Env') (σ:Sto) (i:Int):(lv fns clss (m+1)).e env σ (.int i)=some (.d (.int i),σ):=rfl
theorem reach_of {xs:List Int} {c:Nat} {σ:Sto} {env:Env'} (hx:xs.length≤40) (hc:c < 500) (ho:okS σ) (h1:σ[1]?=some (coatC xs c)) (h30:env.lookup 30=some (.loc 1)) (m:Nat) (hm:0 < m) (n:Nat):∃ r:Nat,r < m∧evD (lv fns clss (n+21)) env σ (.call 9 [(.var 30),(.int (m:Int))])=some (.int r,σ.set 1 (coatC xs (c+1))):=by
 obtain ⟨r,hr,e⟩:=c9 (j:=1) hx hc m hm n σ ho h1
 exact ⟨r,hr,call_of (evs_cons (e_var h30) (evs_cons (lm_int _ _ _ _) evs_nil)) e⟩
theorem idxG_of {m:Nat} {env:Env'} {σ σ1 σ2:Sto} {a i:X} {x y d:D} (h1:evD (lv fns clss m) env σ a=some (x,σ1)) (h2:evD (lv fns clss m) env σ1 i=some (y,σ2)) (h3:idxD x y=some d):evD (lv fns clss (m+1)) env σ (.idx a i)=some (d,σ2):=r_D (r_idx (e_of_D h1) h2 h3)
theorem sides_idx (r:Nat) (h:r < 9):∃ q ∈ sidesT,idxD (.tup (sidesT.map fun q=>.tup [q.1.enc,q.2.enc])) (.int (r:Int))=some (.tup [q.1.enc,q.2.enc]):=⟨sidesT[r],List.getElem_mem _,(if_pos ⟨Int.natCast_nonneg r,Int.ofNat_lt.mpr (ltw h)⟩).trans (by rw [Int.toNat_natCast,List.getElem?_map,List.getElem?_eq_getElem h]; rfl)⟩
noncomputable def pIf:S:=(.ife (.andE (.cmp .GtE (.var 7) (.var 31)) (.cmp2 .Eq .Eq (.call 12 [(.var 19)]) (.lst []) (.call 12 [(.var 20)]))) [(.setI (.var 13) (.bin .Add (.str (sx "t")) (.bi .str (.bin .Sub (.int 9) (.var 7)))) (.tup [(.var 19),(.var 20)])),
  (.expr (.app (.var 38) (.tup [(.str (sx "told")),(.bin .Add (.str (sx "t")) (.bi .str (.bin .Sub (.int 9) (.var 7)))),(.var 19),(.var 20)])))] [(.asg 40 (.andE (.cmp .Eq (.call 9 [(.var 30),(.int 5)]) (.int 4)) (.cmp .In (.str (sx "?x")) (.call 12 [(.var 19)])))),
  (.expr (.app (.var 12) (.new 1 [(.bin .Add (.str (sx "r")) (.bi .str (.var 7))),(.var 19),(.var 20),(.ife (.var 40) (.tup [(.tup [(.str (sx "unlike")),(.glo (sx "_law_x") (.tup [.str (sx "?x")])),(.tup [(.str (sx "b"))])])]) (.tup []))]))),
  (.ife (.notE (.var 40)) [(.expr (.app (.var 38) (.tup [(.str (sx "rule")),(.bin .Add (.str (sx "r")) (.bi .str (.var 7))),(.var 19),(.var 20)])))] [])])
noncomputable def pBody:List S:=[(.asgT [19,20] (.idx (.call 8 []) (.call 9 [(.var 30),(.int 9)]))),pIf]
structure pEnv (many:Nat) (env:Env'):Prop where
 e30:env.lookup 30=some (.loc 1)
 e38:env.lookup 38=some (.loc 2)
 e12:env.lookup 12=some (.loc 3)
 e13:env.lookup 13=some (.loc 4)
 e31:env.lookup 31=some (.d (.int many))
theorem pEnv.cons {many:Nat} {env:Env'} (h:pEnv many env) {i:Nat} {v:V} (hi:i=7 ∨ i=19 ∨ i=20 ∨ i=40):pEnv many ((i,v)::env):=by
 rcases hi with rfl | rfl | rfl | rfl <;> exact ⟨h.e30,h.e38,h.e12,h.e13,h.e31⟩
theorem p_one (n:Nat) {xs:List Int} {c k many:Nat} {ps:List Pick} (hx:xs.length≤40) (hc:c < 400) {env:Env'} (he:pEnv many env):∃ q ∈ sidesT,evS1 (lv fns clss (n+130)) ((7,.d (.int k))::env) (stoP xs c ps) (.asgT [19,20] (.idx (.call 8 []) (.call 9 [(.var 30),(.int 9)])))=some (.next,(20,.d q.2.enc)::(19,.d q.1.enc)::(7,.d (.int k))::env,stoP xs (c+1) ps):=by
 obtain ⟨r,hr,e⟩:=reach_of (σ:=stoP xs c ps) (env:=(7,.d (.int k))::env) hx (ltw hc) (okS_P xs c ps) rfl he.e30 9 (by decide) (n+108)
 obtain ⟨q,hq,e2⟩:=sides_idx r hr
 have e8:=call_of (env:=(7,.d (.int k))::env) (σ:=stoP xs c ps) evs_nil (c8 (n+118) (stoP xs c ps) (okS_P xs c ps))
 exact ⟨q,hq,s_asgT (idxG_of e8 e e2) rfl⟩
theorem p_cond (n:Nat) {xs:List Int} {c k many:Nat} {ps:List Pick} {q:T × T} (hq:q ∈ sidesT) {env:Env'} (he:pEnv many env):test (lv fns clss (n+129)) ((20,.d q.2.enc)::(19,.d q.1.enc)::(7,.d (.int k))::env) (stoP xs c ps) (.andE (.cmp .GtE (.var 7) (.var 31)) (.cmp2 .Eq .Eq (.call 12 [(.var 19)]) (.lst []) (.call 12 [(.var 20)]))) =
  some (decide (many≤k) && (decide (varH q.1=[]) && decide (varH q.2=[])),stoP xs c ps):=by
 have hok:=sidesT_ok q hq
 have ek:decide ((k:Int) ≥ (many:Int))=decide (many≤k):=by rw [decide_eq_decide]; exact Int.ofNat_le
 have e0:decide (([]:List H)=varH q.2)=decide (varH q.2=[]):=by rw [decide_eq_decide]; exact eq_comm
 exact r_test (r_and (r_cmp (r_D (r_var rfl)) (r_D (r_var he.e31)) (show some (decide ((k:Int) ≥ (many:Int)))=_ by rw [ek])) (r_cmp2 (r_D (r_call (r_cons (r_var rfl) r_nil) (c12 hok.1 (n+56) _ (okS_P xs c ps)))) (r_D (r_lst r_dnil)) (eqD_hs (varH q.1) []) (r_D (r_call (r_cons (r_var rfl) r_nil) (c12 hok.2.1 (n+56) _ (okS_P xs c ps)))) ((eqD_hs [] (varH q.2)).trans (by rw [e0]))))
theorem ps_put {x:Str} {v:D}:∀ {ks:List Str} {ds:List D},ks.length=ds.length→x ∉ ks→put x v ks ds=(ks++[x],ds++[v])
 | [],[],_,_=>rfl
 | k::ks,d::ds,hl,hx=>by
  have ih:=ps_put (x:=x) (v:=v) (ks:=ks) (ds:=ds) (by simpa using hl) (fun h=>hx (.tail _ h))
  show (if x=k then _ else _)=_
  rw [if_neg (fun e=>hx (by rw [e]; exact .head _))]
  show (_::(put x v ks ds).1,_::(put x v ks ds).2)=_
  rw [ih]; rfl
 | [],_::_,h,_=>by cases h
 | _::_,[],h,_=>by cases h
theorem tnm_inj:∀ k < 4,∀ k' < 4,tnm k=tnm k'→k=k':=by decide +kernel
theorem tks_new {ps:List Pick} {k:Nat} (hk:k < 4) (h:∀ p ∈ ps,p.k < k):tnm k ∉ tks ps:=by
 intro hm
 obtain ⟨p,h1,h2⟩:=List.mem_map.mp hm
 have:=h p (List.mem_filter.mp h1).1
 exact Nat.ne_of_lt this (tnm_inj p.k (Nat.lt_trans this hk) k hk h2)
theorem setI_of {m n:Nat} {env:Env'} {σ:Sto} {i:Nat} {x v:X} {key:Str} {d:D} {ks:List Str} {ds:List D} (h1:evD (lv fns clss (m+1)) env σ v=some (d,σ)) (h:env.lookup i=some (.loc n)) (h2:evD (lv fns clss (m+1)) env σ x=some (.str key,σ)) (h3:σ[n]?=some (.dct ks ds)) (hl:ks.length < 900) :
  evS1 (lv fns clss (m+1)) env σ (.setI (.var i) x v)=some (.next,env,σ.set n (.dct (put key d ks ds).1 (put key d ks ds).2)):=s_setD h1 (r_var h) h2 h3 hl rfl
theorem p_told (n:Nat) {xs:List Int} {c k many:Nat} {ps:List Pick} {q:T × T} (hk:k < 4) (hps:∀ p ∈ ps,p.k < k) (hl:ps.length≤10) {env:Env'} (he:pEnv many env) :
  (lv fns clss (n+129)).s ((20,.d q.2.enc)::(19,.d q.1.enc)::(7,.d (.int k))::env) (stoP xs c ps) [(.setI (.var 13) (.bin .Add (.str (sx "t")) (.bi .str (.bin .Sub (.int 9) (.var 7)))) (.tup [(.var 19),(.var 20)])),
  (.expr (.app (.var 38) (.tup [(.str (sx "told")),(.bin .Add (.str (sx "t")) (.bi .str (.bin .Sub (.int 9) (.var 7)))),(.var 19),(.var 20)])))]=some (.next,(20,.d q.2.enc)::(19,.d q.1.enc)::(7,.d (.int k))::env,stoP xs c (ps++[⟨k,.told,q.1,q.2⟩])):=by
 have h13:((20,V.d q.2.enc)::(19,.d q.1.enc)::(7,.d (.int k))::env).lookup 13=some (.loc 4):=he.e13
 have h38:((20,V.d q.2.enc)::(19,.d q.1.enc)::(7,.d (.int k))::env).lookup 38=some (.loc 2):=he.e38
 generalize hE:((20,V.d q.2.enc)::(19,.d q.1.enc)::(7,.d (.int k))::env)=E at h13 h38 ⊢
 have h7:E.lookup 7=some (.d (.int k)):=by rw [← hE]; rfl
 have h19:E.lookup 19=some (.d q.1.enc):=by rw [← hE]; rfl
 have h20:E.lookup 20=some (.d q.2.enc):=by rw [← hE]; rfl
 have htl:(tks ps).length≤10:=by
  unfold tks toldP
  rw [List.length_map]
  exact Nat.le_trans (List.length_filter_le ..) hl
 have hsl:(sidesP ps).length≤10:=by
  unfold sidesP
  rw [List.length_map]
  exact Nat.le_trans (List.length_filter_le ..) hl
 have g1:evS1 (lv fns clss (n+128)) E (stoP xs c ps) (.setI (.var 13) (.bin .Add (.str (sx "t")) (.bi .str (.bin .Sub (.int 9) (.var 7)))) (.tup [(.var 19),(.var 20)]))=some (.next,E,[.tab,coatC xs c,.lst ((sidesP ps).map Side.enc),.lst ((rulesP ps).map Rl.enc),.dct (tks (ps++[⟨k,.told,q.1,q.2⟩])) (tds (ps++[⟨k,.told,q.1,q.2⟩]))]):=by
  refine (setI_of (m:=n+127) (tup_of (evDs_cons (evD_var h19) (evDs_cons (evD_var h20) evDs_nil))) h13 (tn_ev hk _ h7) (ks:=tks ps) (ds:=tds ps) rfl (lwt htl)).trans ?_
  rw [ps_put (by simp [tks,tds]) (tks_new hk hps)]
  simp [stoP,tks,tds,toldP,Kd.isT]
 have g2:evS1 (lv fns clss (n+127)) E [.tab,coatC xs c,.lst ((sidesP ps).map Side.enc),.lst ((rulesP ps).map Rl.enc),.dct (tks (ps++[⟨k,.told,q.1,q.2⟩])) (tds (ps++[⟨k,.told,q.1,q.2⟩]))] (.expr (.app (.var 38) (.tup [(.str (sx "told")),(.bin .Add (.str (sx "t")) (.bi .str (.bin .Sub (.int 9) (.var 7)))),(.var 19),(.var 20)])))=some (.next,E,stoP xs c (ps++[⟨k,.told,q.1,q.2⟩])):=by
  refine (app_of (m:=n+125) h38 (ds0:=(sidesP ps).map Side.enc) rfl (tup_of (evDs_cons (evD_str _ _ _ _) (evDs_cons (tn_ev hk _ h7) (evDs_cons (evD_var h19) (evDs_cons (evD_var h20) evDs_nil))))) (ds:=(sidesP ps).map Side.enc) rfl (by rw [List.length_map]; exact lw hsl)).trans ?_
  simp [stoP,sidesP,rulesP,Kd.isN,Kd.isT,Pick.side,Side.enc]
 exact ss_next g1 (ss_one g2)
theorem ife_of {m:Nat} {env:Env'} {σ σ1:Sto} {t a b:X} {c:Bool} {d:D} {σ2:Sto} (h1:test (lv fns clss m) env σ t=some (c,σ1)) (h2:evD (lv fns clss m) env σ1 (if c then a else b)=some (d,σ2)):evD (lv fns clss (m+1)) env σ (.ife t a b)=some (d,σ2):=by
 cases c with
 | true=>exact r_D (r_ifeT h1 (e_of_D h2))
 | false=>exact r_D (r_ifeF h1 (e_of_D h2))
theorem test_var {m:Nat} {env:Env'} {σ:Sto} {i:Nat} {b:Bool} (h:env.lookup i=some (.d (.bool b))):test (lv fns clss (m+1)) env σ (.var i)=some (b,σ):=r_test (r_var h)
theorem new_of {m cc:Nat} {env:Env'} {σ σ1 σ2:Sto} {xs:List X} {vs:List V} {d:D} (h1:evs (lv fns clss m) env σ xs=some (vs,σ1)) (h2:(lv fns clss m).n cc vs σ1=some (d,σ2)):evD (lv fns clss (m+1)) env σ (.new cc xs)=some (d,σ2):=r_D (r_new h1 h2)
theorem and_of {m:Nat} {env:Env'} {σ σ1 σ2:Sto} {a b:X} {c d:Bool} (h1:evD (lv fns clss m) env σ a=some (.bool c,σ1)) (h2:c=true→evD (lv fns clss m) env σ1 b=some (.bool d,σ2)) (h3:c=false→σ2=σ1):evD (lv fns clss (m+1)) env σ (.andE a b)=some (.bool (c && d),σ2):=by
 cases c with
 | true=>exact r_D (r_andT (e_of_D h1) (e_of_D (h2 rfl)))
 | false=>rw [h3 rfl]; exact r_D (r_andF (e_of_D h1))
theorem sides_len {ps:List Pick} (h:ps.length≤10):((sidesP ps).map Side.enc).length≤900:=by
 rw [List.length_map,sidesP,List.length_map]; exact Nat.le_trans (List.length_filter_le ..) (Nat.le_trans h (by decide))
theorem rules_len {ps:List Pick} (h:ps.length≤10):((rulesP ps).map Rl.enc).length≤900:=by
 rw [List.length_map,rulesP,List.length_map]; exact Nat.le_trans (List.length_filter_le ..) (Nat.le_trans h (by decide))
theorem p_flag (n:Nat) {xs:List Int} {c:Nat} {ps:List Pick} {p:T} (hp:p ∈ pats) (hx:xs.length≤40) (hc:c < 400) {E:Env'} (h30:E.lookup 30=some (.loc 1)) (h19:E.lookup 19=some (.d p.enc)):∃ b:Bool,(b=true→H.x ∈ varH p)∧evS1 (lv fns clss (n+128)) E (stoP xs c ps) (.asg 40 (.andE (.cmp .Eq (.call 9 [(.var 30),(.int 5)]) (.int 4)) (.cmp .In (.str (sx "?x")) (.call 12 [(.var 19)]))))=some (.next,(40,.d (.bool b))::E,stoP xs (c+1) ps):=by
 obtain ⟨r,hr,e⟩:=reach_of (σ:=stoP xs c ps) (env:=E) hx (Nat.lt_trans hc (by decide)) (okS_P xs c ps) rfl h30 5 (by decide) (n+105)
 exact ⟨decide ((r:Int)=4) && decide (H.x ∈ varH p),fun h=>of_decide_eq_true (Bool.and_eq_true_iff.mp h).2,
  asg_of (e_of_D (and_of (cmpE_of e (evD_int _ _ _ _) (eqD_int _ _)) (fun _=>cmpE_of (evD_str _ _ _ _) (call_of (evs_cons (e_var h19) evs_nil) (c12 hp (n+55) _ (okS_P xs (c+1) ps))) (anyEq_hs .x _)) (fun _=>rfl)))⟩
theorem p_rule (n:Nat) {xs:List Int} {c k many:Nat} {ps:List Pick} {q:T × T} (hq:q ∈ sidesT) (hx:xs.length≤40) (hc:c < 400) (hk:k < 4) (hl:ps.length≤10) {env:Env'} (he:pEnv many env) :
  ∃ b:Bool,(b=true→H.x ∈ varH q.1)∧(lv fns clss (n+129)).s ((20,.d q.2.enc)::(19,.d q.1.enc)::(7,.d (.int k))::env) (stoP xs c ps) [(.asg 40 (.andE (.cmp .Eq (.call 9 [(.var 30),(.int 5)]) (.int 4)) (.cmp .In (.str (sx "?x")) (.call 12 [(.var 19)])))),
  (.expr (.app (.var 12) (.new 1 [(.bin .Add (.str (sx "r")) (.bi .str (.var 7))),(.var 19),(.var 20),(.ife (.var 40) (.tup [(.tup [(.str (sx "unlike")),(.glo (sx "_law_x") (.tup [.str (sx "?x")])),(.tup [(.str (sx "b"))])])]) (.tup []))]))),
  (.ife (.notE (.var 40)) [(.expr (.app (.var 38) (.tup [(.str (sx "rule")),(.bin .Add (.str (sx "r")) (.bi .str (.var 7))),(.var 19),(.var 20)])))] [])]=some (.next,(40,.d (.bool b))::(20,.d q.2.enc)::(19,.d q.1.enc)::(7,.d (.int k))::env,stoP xs (c+1) (ps++[⟨k,if b then .need else .rule,q.1,q.2⟩])):=by
 have hok:=sidesT_ok q hq
 obtain ⟨b,hbx,g1⟩:=p_flag n (E:=(20,V.d q.2.enc)::(19,.d q.1.enc)::(7,.d (.int k))::env) (ps:=ps) (p:=q.1) hok.1 hx hc he.e30 rfl
 have h38:((40,V.d (.bool b))::(20,V.d q.2.enc)::(19,.d q.1.enc)::(7,.d (.int k))::env).lookup 38=some (.loc 2):=he.e38
 have h12:((40,V.d (.bool b))::(20,V.d q.2.enc)::(19,.d q.1.enc)::(7,.d (.int k))::env).lookup 12=some (.loc 3):=he.e12
 have h7:((40,V.d (.bool b))::(20,V.d q.2.enc)::(19,.d q.1.enc)::(7,.d (.int k))::env).lookup 7=some (.d (.int k)):=rfl
 have h19:((40,V.d (.bool b))::(20,V.d q.2.enc)::(19,.d q.1.enc)::(7,.d (.int k))::env).lookup 19=some (.d q.1.enc):=rfl
 have h20:((40,V.d (.bool b))::(20,V.d q.2.enc)::(19,.d q.1.enc)::(7,.d (.int k))::env).lookup 20=some (.d q.2.enc):=rfl
 have h40:((40,V.d (.bool b))::(20,V.d q.2.enc)::(19,.d q.1.enc)::(7,.d (.int k))::env).lookup 40=some (.d (.bool b)):=rfl
 refine ⟨b,hbx,ss_next g1 ?_⟩
 clear g1
 generalize ((40,V.d (.bool b))::(20,V.d q.2.enc)::(19,.d q.1.enc)::(7,.d (.int k))::env)=E at h38 h12 h7 h19 h20 h40 ⊢
 have n1:evD (lv fns clss (n+125)) E (stoP xs (c+1) ps) (.ife (.var 40) (.tup [(.tup [(.str (sx "unlike")),(.glo (sx "_law_x") (.tup [.str (sx "?x")])),(.tup [(.str (sx "b"))])])]) (.tup []))=some (needsD b,stoP xs (c+1) ps) :=
  ife_of (test_var h40) (by rcases b with _ | _ <;> rfl)
 have n2:=n_rule hok.1 hok.2.1 hok.2.2.1 hok.2.2.2 b hbx (rnm k) (n+24) (stoP xs (c+1) ps) (okS_P _ _ _)
 have g2:=app_of (m:=n+125) h12 (ds0:=(rulesP ps).map Rl.enc) rfl (new_of (evs_cons (e_of_D (rn_ev hk _ h7)) (evs_cons (e_var h19) (evs_cons (e_var h20) (evs_cons (e_of_D n1) evs_nil)))) n2) (ds:=(rulesP ps).map Rl.enc) rfl (rules_len hl)
 refine ss_next g2 (ss_one ?_)
 clear g2 n1 n2
 have e1:(stoP xs (c+1) ps).set 3 (.lst ((rulesP ps).map Rl.enc++[ruleD (rnm k) q.1 q.2 b]))=[.tab,coatC xs (c+1),.lst ((sidesP ps).map Side.enc),.lst ((rulesP ps).map Rl.enc++[ruleD (rnm k) q.1 q.2 b]),.dct (tks ps) (tds ps)]:=rfl
 rw [e1]
 cases b with
 | true =>
  refine (s_ifF (r_test (r_not (r_var h40))) ss_nil).trans ?_
  simp [stoP,sidesP,rulesP,tks,tds,toldP,Kd.isN,Kd.isT,Pick.rl,Rl.enc]
 | false =>
  refine (s_ifT (r_test (r_not (r_var h40))) (ss_one (app_of (m:=n+123) h38 (ds0:=(sidesP ps).map Side.enc) rfl (tup_of (evDs_cons (evD_str _ _ _ _) (evDs_cons (rn_ev hk _ h7) (evDs_cons (evD_var h19) (evDs_cons (evD_var h20) evDs_nil))))) (ds:=(sidesP ps).map Side.enc) rfl (sides_len hl)))).trans ?_
  simp [stoP,sidesP,rulesP,tks,tds,toldP,Kd.isN,Kd.isT,Pick.rl,Rl.enc,Pick.side,Side.enc]
theorem p_step (n:Nat) {xs:List Int} {c k many:Nat} {ps:List Pick} (hx:xs.length≤40) (hc:c < 300) (hk:k < 4) (hps:∀ p ∈ ps,p.k < k) (hl:ps.length≤10) {env:Env'} (he:pEnv many env) :
  ∃ (p:Pick) (env':Env') (c':Nat),okPick p∧p.k=k∧(p.kd.isT=true→many≤k)∧c'≤c+2∧(lv fns clss (n+131)).s ((7,.d (.int k))::env) (stoP xs c ps) pBody=some (.next,env',stoP xs c' (ps++[p]))∧pEnv many env':=by
 obtain ⟨q,hq,g1⟩:=p_one n (k:=k) (ps:=ps) hx (ltw hc) he
 have hok:=sidesT_ok q hq
 have hcond:=p_cond n (k:=k) (c:=c+1) (ps:=ps) (xs:=xs) hq he
 have he':pEnv many ((20,.d q.2.enc)::(19,.d q.1.enc)::(7,.d (.int k))::env):=((he.cons (.inl rfl)).cons (.inr (.inl rfl))).cons (.inr (.inr (.inl rfl)))
 cases hb:(decide (many≤k) && (decide (varH q.1=[]) && decide (varH q.2=[]))) with
 | true =>
  rw [hb] at hcond
  rw [Bool.and_eq_true] at hb
  refine ⟨⟨k,.told,q.1,q.2⟩,_,c+1,⟨hok.1,hok.2.1,hok.2.2.2,hok.2.2.1,fun h=>by cases h⟩,rfl,fun _=>of_decide_eq_true hb.1,Nat.le_succ _,?_,he'⟩
  exact ss_next g1 (ss_one (s_ifT hcond (p_told n hk hps hl he)))
 | false =>
  rw [hb] at hcond
  obtain ⟨b,hbx,g2⟩:=p_rule n (k:=k) (c:=c+1) (ps:=ps) hq hx (ltw (Nat.succ_lt_succ hc)) hk hl he
  have hT:(if b then Kd.need else Kd.rule).isT=false:=by cases b <;> rfl
  have hN:(if b then Kd.need else Kd.rule).isN=b:=by cases b <;> rfl
  refine ⟨⟨k,if b then .need else .rule,q.1,q.2⟩,(40,.d (.bool b))::(20,.d q.2.enc)::(19,.d q.1.enc)::(7,.d (.int k))::env,c+2,⟨hok.1,hok.2.1,hok.2.2.2,hok.2.2.1,?_⟩,rfl,?_,Nat.le_refl _,?_,he'.cons (i:=40) (v:=.d (.bool b)) (.inr (.inr (.inr rfl)))⟩
  ·intro h
   exact hbx (hN.symm.trans h)
  ·intro h
   rw [show (⟨k,if b then Kd.need else Kd.rule,q.1,q.2⟩:Pick).kd.isT=false from hT] at h
   cases h
  exact ss_next g1 (ss_one (s_ifF hcond g2))
theorem p_loop (n:Nat) {xs:List Int} {many:Nat} (hx:xs.length≤40):∀ (m start c:Nat) (ps:List Pick) (env:Env'),start+m≤4→ps.map (·.k)=List.range start→(∀ p ∈ ps,okPick p∧(p.kd.isT=true→many≤p.k))→c≤10+2 * start→pEnv many env →
  ∃ (ps':List Pick) (env':Env') (c':Nat),forL (lv fns clss (n+131)) (.one 7) pBody ((List.range' start m).map fun (k:Nat)=>D.int k) env (stoP xs c ps)=some (.next,env',stoP xs c' ps')∧ps'.map (·.k)=List.range (start+m)∧(∀ p ∈ ps',okPick p∧(p.kd.isT=true→many≤p.k))∧c'≤10+2 * (start+m)∧pEnv many env'
 | 0,start,c,ps,env,hm,hk,hp,hc,he=>⟨ps,env,c,rfl,hk,hp,hc,he⟩
 | m+1,start,c,ps,env,hm,hk,hp,hc,he=>by
  have hlen:ps.length=start:=by rw [← List.length_map (·.k),hk,List.length_range]
  have hlt:∀ p ∈ ps,p.k < start:=fun p h=>by
   have:p.k ∈ ps.map (·.k):=List.mem_map_of_mem h
   rw [hk] at this
   exact List.mem_range.mp this
  obtain ⟨p,env1,c1,a1,a2,a3,a4,a5,a6⟩:=p_step n (k:=start) (ps:=ps) (c:=c) hx (lwt (Nat.le_trans hc (Nat.add_le_add_left (Nat.mul_le_mul_left 2 (adL hm)) 10))) (Nat.lt_of_lt_of_le (Nat.lt_add_of_pos_right (Nat.succ_pos m)) hm) hlt (Nat.le_trans (Nat.le_of_eq hlen) (lw (adL hm))) he
  obtain ⟨ps',env',c',b1,b2,b3,b4,b5⟩:=p_loop n hx m (start+1) c1 (ps++[p]) env1 (Nat.le_trans (Nat.le_of_eq (Nat.add_right_comm start 1 m)) hm) (by rw [List.map_append,hk,List.range_succ]; simp [a2]) (fun p' h'=>by
   rcases List.mem_append.mp h' with h' | h'
   ·exact hp p' h'
   ·rw [List.mem_singleton] at h'; subst h'; exact ⟨a1,fun h=>by rw [a2]; exact a3 h⟩) (Nat.le_trans a4 (Nat.add_le_add_right hc 2)) a6
  refine ⟨ps',env',c',?_,by rw [b2]; congr 1; exact Nat.add_right_comm start 1 m,b3,Nat.add_right_comm start 1 m ▸ b4,b5⟩
  exact fl_next rfl a5 b1
noncomputable def plainL:List Int:=[0,0,5,2,0,0,0,0,0,0]
theorem p_first (n:Nat) (ns:List Int) (h:ns.length≤63):∃ xs:List Int,xs.length≤40∧evS1 (lv fns clss (n+20)) [(39,.d (.raw (ns.map .int)))] [.tab] (.asg 30 (.newL [(.ife (.cmp .Gt (.bi .len (.var 39)) (.int 0)) (.bi .list (.cut (.var 39) none (some 40))) (.bi .list (.glo (sx "_law_plain") (.tup [.int 0,.int 0,.int 5,.int 2,.int 0,.int 0,.int 0,.int 0,.int 0,.int 0])))),(.int 0)]))=some (.next,[(30,.loc 1),(39,.d (.raw (ns.map .int)))],[.tab,coatC xs 0]):=by
 have hlen:∀ σ,lenV (.d (.raw (ns.map D.int))) σ=some (ns.length:Int):=fun σ=>(lim_of (small_of (by rw [List.length_map]; exact Nat.le_trans h (by decide)))).trans (by rw [List.length_map])
 have hcut:cutD (.raw (ns.map D.int)) none (some 40)=some (.lst ((ns.take 40).map D.int)):=(lim_of (small_of (by rw [List.length_map]; exact Nat.le_trans h (by decide)))).trans (by rw [List.map_take])
 have ht:test (lv fns clss (n+18)) [(39,.d (.raw (ns.map .int)))] [.tab] (.cmp .Gt (.bi .len (.var 39)) (.int 0))=some (decide ((ns.length:Int) > 0),[.tab]):=r_test (r_cmp (r_D (r_len (r_var rfl) (hlen _))) (r_D r_int) rfl)
 cases hb:decide ((ns.length:Int) > 0) with
 | true =>
  rw [hb] at ht
  exact ⟨ns.take 40,by rw [List.length_take]; exact Nat.min_le_left ..,s_asg (r_newL (r_dcons (r_D (r_ifeT ht (r_bi (b:=.list) (by decide) (r_D (r_cut (r_D (r_var rfl)) hcut)) (lim_of (small_of (by rw [List.length_map,List.length_take]; exact lw (Nat.min_le_left ..))))))) (r_dcons (r_D r_int) r_dnil)))⟩
 | false =>
  rw [hb] at ht
  exact ⟨plainL,by decide,s_asg (r_newL (r_dcons (r_D (r_ifeF ht (r_bi (b:=.list) (by decide) (r_D r_glo) rfl))) (r_dcons (r_D r_int) r_dnil)))⟩
theorem law_pre (n:Nat) (ns:List Int) (h:ns.length≤63):∃ (xs:List Int) (c N many:Nat) (ps:List Pick) (env':Env'),(lv fns clss (n+140)).s [(39,.d (.raw (ns.map .int)))] [.tab] lawPre=some (.next,env',stoP xs c ps)∧pEnv many env'∧1≤many∧xs.length≤40∧c≤200∧N≤4∧ps.map (·.k)=List.range N∧∀ p ∈ ps,okPick p∧(p.kd.isT=true→many≤p.k):=by
 obtain ⟨xs,hx,g1⟩:=p_first (n+119) ns h
 have g2:evS1 (lv fns clss (n+138)) [(30,.loc 1),(39,.d (.raw (ns.map .int)))] [.tab,coatC xs 0] (.asgW [38,12,13] [(.newL []),(.newL []),.newD])=some (.next,[(38,.loc 2),(12,.loc 3),(13,.loc 4),(30,.loc 1),(39,.d (.raw (ns.map .int)))],stoP xs 0 []):=rfl
 obtain ⟨r0,hr0,e0⟩:=reach_of (σ:=stoP xs 0 []) (env:=[(38,.loc 2),(12,.loc 3),(13,.loc 4),(30,.loc 1),(39,.d (.raw (ns.map .int)))]) hx (by decide) (okS_P xs 0 []) rfl rfl 2 (by decide) (n+115)
 have g3:evS1 (lv fns clss (n+137)) [(38,.loc 2),(12,.loc 3),(13,.loc 4),(30,.loc 1),(39,.d (.raw (ns.map .int)))] (stoP xs 0 []) (.asg 31 (.bin .Add (.int 1) (.call 9 [(.var 30),(.int 2)])))=some (.next,[(31,.d (.int ((1+r0:Nat):Int))),(38,.loc 2),(12,.loc 3),(13,.loc 4),(30,.loc 1),(39,.d (.raw (ns.map .int)))],stoP xs 1 []) :=
  asg_of (e_of_D (bin_of (evD_int _ _ _ _) e0 (by show some (D.int (1+(r0:Int)))=_; rw [Int.natCast_add]; rfl)))
 have he:pEnv (1+r0) [(31,.d (.int ((1+r0:Nat):Int))),(38,.loc 2),(12,.loc 3),(13,.loc 4),(30,.loc 1),(39,.d (.raw (ns.map .int)))]:=⟨rfl,rfl,rfl,rfl,rfl⟩
 obtain ⟨r1,hr1,e1⟩:=reach_of (σ:=stoP xs 1 []) (env:=[(31,.d (.int ((1+r0:Nat):Int))),(38,.loc 2),(12,.loc 3),(13,.loc 4),(30,.loc 1),(39,.d (.raw (ns.map .int)))]) hx (by decide) (okS_P xs 1 []) rfl rfl 2 (by decide) (n+114)
 have h4:0+(1+r0+1+r1)≤4:=Nat.le_trans (Nat.le_of_eq (Nat.zero_add _)) (Nat.add_le_add (Nat.succ_le_succ (s1 (c:=2) hr0)) (Nat.le_of_lt_succ hr1))
 obtain ⟨ps',env',c',b1,b2,b3,b4,b5⟩:=p_loop (n+5) (many:=1+r0) hx (1+r0+1+r1) 0 2 [] _ h4 rfl (fun p hp=>by cases hp) (by decide) he
 have ez:(((1+r0:Nat):Int)+1+(r1:Int))=((1+r0+1+r1:Nat):Int):=rfl
 have q2:evD (lv fns clss (n+136)) [(31,.d (.int ((1+r0:Nat):Int))),(38,.loc 2),(12,.loc 3),(13,.loc 4),(30,.loc 1),(39,.d (.raw (ns.map .int)))] (stoP xs 1 []) (.bin .Add (.bin .Add (.var 31) (.int 1)) (.call 9 [(.var 30),(.int 2)]))=some (.int ((1+r0+1+r1:Nat):Int),stoP xs 2 []):=bin_of (op:=.Add) (bin_of (op:=.Add) (evD_var rfl) (evD_int _ _ _ _) rfl) e1 (by rw [← ez]; rfl)
 have hm:1+r0+1+r1≤1000:=lw (adR h4)
 exact ⟨xs,c',1+r0+1+r1,1+r0,ps',env',ss_next g1 (ss_next g2 (ss_next g3 (ss_next (s_forR q2 hm (by rw [List.range_eq_range']; exact b1)) ss_nil))),b5,Nat.le_add_right ..,hx,lw (Nat.le_trans b4 (Nat.add_le_add_left (Nat.mul_le_mul_left 2 h4) 10)),adR h4,by rw [b2,Nat.zero_add],b3⟩
noncomputable def tsP (ps:List Pick):List Side:=(toldP ps).reverse.map Pick.side
noncomputable def sortedP (ps:List Pick):List Side:=((ps.filter fun p=>!p.kd.isT).filter fun p=>!p.kd.isN).map Pick.side++tsP ps
noncomputable def keyS (x:Side):Str × Str:=(x.kind,x.name)
noncomputable def keyCmpP (ks:List (Str × Str)) (i j:Nat):Bool:=lexLt [(ks.getD i default).1,(ks.getD i default).2] [(ks.getD j default).1,(ks.getD j default).2]
noncomputable def permOf (cmp:Nat→Nat→Bool) (n:Nat):List Nat:=if n < 2 then List.range n else (kasRun cmp (kas_sort n)).toList
theorem sortBy_perm {α:Type} (cmp:Nat→Nat→Bool) (xs:List α) (d:α):sortBy cmp xs d=(permOf cmp xs.length).map fun i=>xs.getD i d:=by
 unfold sortBy permOf
 match xs with
 | []=>rfl
 | [x]=>rfl
 | x::y::r=>rw [if_neg (by simp),if_neg (by simp)]
noncomputable def keysC (c:List Kd):List (Str × Str):=(c.zipIdx.filter fun q=>!q.1.isN).map fun q=>if q.1.isT then (sx "told", tnm q.2) else (sx "rule", rnm q.2)
noncomputable def permE (c:List Kd):List Nat:=let l:=c.filter fun k=>!k.isN; (l.zipIdx.filter fun q=>!q.1.isT).map (·.2)++((l.zipIdx.filter fun q=>q.1.isT).map (·.2)).reverse
noncomputable def tkC (c:List Kd):List Str:=(c.zipIdx.filter fun q=>q.1.isT).map fun q=>tnm q.2
noncomputable def allKd:Nat→List (List Kd)
 | 0=>[[]]
 | n+1=>(allKd n).flatMap fun c=>[.rule::c,.need::c,.told::c]
noncomputable def cfgs:List (List Kd):=(List.range 5).flatMap allKd
theorem cfg_perm:∀ c ∈ cfgs,permOf (keyCmpP (keysC c)) (keysC c).length=permE c:=by decide +kernel
theorem cfg_told:∀ c ∈ cfgs,sortStrs (tkC c)=(tkC c).reverse:=by decide +kernel
noncomputable def nmC (c:List Kd):List Str:=(permE c).map fun i=>((keysC c).getD i default).2
theorem cfg_names:∀ c ∈ cfgs,(nmC c).Nodup:=by decide +kernel
theorem nm_ok:∀ k < 4,PyData.strOk (tnm k)=true∧PyData.strOk (rnm k)=true:=by decide +kernel
noncomputable def fL (ps:List Pick):List (Str × Str) × List D × List Str × List Str × List Str:=((sidesP ps).map keyS,(permE (ps.map (·.kd))).map (fun i=>((sidesP ps).map Side.enc).getD i .none),tks ps,(tsP ps).map (·.name),(sortedP ps).map (·.name))
noncomputable def fR (ps:List Pick):List (Str × Str) × List D × List Str × List Str × List Str:=(keysC (ps.map (·.kd)),(sortedP ps).map Side.enc,tkC (ps.map (·.kd)),(tkC (ps.map (·.kd))).reverse,nmC (ps.map (·.kd)))
noncomputable def fOk (ps:List Pick):Prop:=fL ps=fR ps
theorem kd3 {p:Kd→Prop} (h1:p .rule) (h2:p .need) (h3:p .told) (a:Kd):p a:=by cases a <;> assumption
theorem fOk_of {ps:List Pick} (h:fL ps=fR ps):fOk ps:=h
theorem fOk0:fOk []:=rfl
theorem fOk1 {L R:T}:∀ a,fOk [⟨0,a,L,R⟩]:=kd3 rfl rfl rfl
theorem fOk2 {L R L1 R1:T}:∀ a b,fOk [⟨0,a,L,R⟩,⟨1,b,L1,R1⟩]:=kd3 (kd3 rfl rfl rfl) (kd3 rfl rfl rfl) (kd3 rfl rfl rfl)
theorem fOk3 {L R L1 R1 L2 R2:T}:∀ a b c,fOk [⟨0,a,L,R⟩,⟨1,b,L1,R1⟩,⟨2,c,L2,R2⟩] :=
 kd3 (kd3 (kd3 rfl rfl rfl) (kd3 rfl rfl rfl) (kd3 rfl rfl rfl)) (kd3 (kd3 rfl rfl rfl) (kd3 rfl rfl rfl) (kd3 rfl rfl rfl)) (kd3 (kd3 rfl rfl rfl) (kd3 rfl rfl rfl) (kd3 rfl rfl rfl))
theorem fOk4 {L R L1 R1 L2 R2 L3 R3:T} (a b c:Kd):∀ d,fOk [⟨0,a,L,R⟩,⟨1,b,L1,R1⟩,⟨2,c,L2,R2⟩,⟨3,d,L3,R3⟩]:=by
 cases a <;> cases b <;> cases c <;> exact kd3 (fOk_of (by kernel_rfl)) (fOk_of (by kernel_rfl)) (fOk_of (by kernel_rfl))
theorem fOk_all:∀ {ps:List Pick} {N:Nat},ps.map (·.k)=List.range N→N≤4→fOk ps
 | ps,0,h,_=>(List.map_eq_nil_iff.mp h) ▸ fOk0
 | ps,1,h,_=>by
  obtain ⟨⟨k,a,L,R⟩,r,rfl,rfl,h1⟩:=List.map_eq_cons_iff.mp (show _=0::[] from h)
  cases List.map_eq_nil_iff.mp h1
  exact fOk1 a
 | ps,2,h,_=>by
  obtain ⟨⟨k,a,L,R⟩,r,rfl,rfl,h1⟩:=List.map_eq_cons_iff.mp (show _=0::[1] from h)
  obtain ⟨⟨k,b,L1,R1⟩,r,rfl,rfl,h2⟩:=List.map_eq_cons_iff.mp h1
  cases List.map_eq_nil_iff.mp h2
  exact fOk2 a b
 | ps,3,h,_=>by
  obtain ⟨⟨k,a,L,R⟩,r,rfl,rfl,h1⟩:=List.map_eq_cons_iff.mp (show _=0::[1,2] from h)
  obtain ⟨⟨k,b,L1,R1⟩,r,rfl,rfl,h2⟩:=List.map_eq_cons_iff.mp h1
  obtain ⟨⟨k,c,L2,R2⟩,r,rfl,rfl,h3⟩:=List.map_eq_cons_iff.mp h2
  cases List.map_eq_nil_iff.mp h3
  exact fOk3 a b c
 | ps,4,h,_=>by
  obtain ⟨⟨k,a,L,R⟩,r,rfl,rfl,h1⟩:=List.map_eq_cons_iff.mp (show _=0::[1,2,3] from h)
  obtain ⟨⟨k,b,L1,R1⟩,r,rfl,rfl,h2⟩:=List.map_eq_cons_iff.mp h1
  obtain ⟨⟨k,c,L2,R2⟩,r,rfl,rfl,h3⟩:=List.map_eq_cons_iff.mp h2
  obtain ⟨⟨k,d,L3,R3⟩,r,rfl,rfl,h4⟩:=List.map_eq_cons_iff.mp h3
  cases List.map_eq_nil_iff.mp h4
  exact fOk4 a b c d
 | _,N+5,_,h=>absurd h (Nat.not_le_of_lt (Nat.lt_add_left N (Nat.le_refl 5)))
theorem kd_all (a:Kd) (c:List Kd) (n:Nat) (h:c ∈ allKd n):a::c ∈ allKd (n+1):=List.mem_flatMap.mpr ⟨c,h,by cases a <;> simp⟩
theorem kd_cfg {c:List Kd} (h:c.length≤4):c ∈ cfgs:=by
 have:∀ c:List Kd,c ∈ allKd c.length:=by
  intro c
  induction c with
  | nil=>exact .head _
  | cons a c ih=>exact kd_all a c _ ih
 exact List.mem_flatMap.mpr ⟨c.length,List.mem_range.mpr (lwt h),this c⟩
theorem ps_facts {ps:List Pick} {N:Nat} (h:ps.map (·.k)=List.range N) (hN:N≤4) :
  (sidesP ps).map keyS=keysC (ps.map (·.kd))∧(permE (ps.map (·.kd))).map (fun i=>((sidesP ps).map Side.enc).getD i .none)=(sortedP ps).map Side.enc∧tks ps=tkC (ps.map (·.kd))∧(tsP ps).map (·.name)=(tkC (ps.map (·.kd))).reverse∧(sortedP ps).map (·.name)=nmC (ps.map (·.kd)) :=
 have e:fL ps=fR ps:=fOk_all h hN
 ⟨congrArg (·.1) e,congrArg (·.2.1) e,congrArg (·.2.2.1) e,congrArg (·.2.2.2.1) e,congrArg (·.2.2.2.2) e⟩
theorem sort_P {ps:List Pick} {N:Nat} (h:ps.map (·.k)=List.range N) (hN:N≤4):sortBy (keyCmpP ((sidesP ps).map keyS)) ((sidesP ps).map Side.enc) .none=(sortedP ps).map Side.enc:=by
 obtain ⟨h1,h2,_,_,_⟩:=ps_facts h hN
 have hc:(ps.map (·.kd)) ∈ cfgs:=kd_cfg (by rw [List.length_map,← List.length_map (·.k),h,List.length_range]; exact hN)
 rw [sortBy_perm,h1,← h2]
 congr 1
 have:=cfg_perm _ hc
 rw [← this]
 congr 1
 rw [List.length_map,← h1,List.length_map]
theorem keys_P {ps:List Pick} {N:Nat} (h:ps.map (·.k)=List.range N) (hN:N≤4):biD .sortKeys (.dct (tks ps) (tds ps))=some (.lst ((tsP ps).map fun x=>D.str x.name)):=by
 obtain ⟨_,_,h3,h4,_⟩:=ps_facts h hN
 have hc:(ps.map (·.kd)) ∈ cfgs:=kd_cfg (by rw [List.length_map,← List.length_map (·.k),h,List.length_range]; exact hN)
 have hl:(tks ps).length < 5:=by
  unfold tks toldP
  rw [List.length_map]
  have:ps.length=N:=by rw [← List.length_map (·.k),h,List.length_range]
  exact lwt (Nat.le_trans (List.length_filter_le ..) (Nat.le_trans (Nat.le_of_eq this) hN))
 have e:((tsP ps).map fun x=>D.str x.name)=((tsP ps).map (·.name)).map D.str:=by rw [List.map_map]; rfl
 refine (lim_of (decide_eq_true hl)).trans ?_
 rw [e,h4,h3,cfg_told _ hc]
theorem look_told:∀ (ps:List Pick),(ps.map (·.k)).Nodup→(∀ p ∈ ps,p.k < 4)→∀ p ∈ ps,look (tnm p.k) (ps.map fun p=>tnm p.k) (ps.map fun p=>D.tup [p.L.enc,p.R.enc])=some (.tup [p.L.enc,p.R.enc])
 | [],_,_,p,hp=>by cases hp
 | q::ps,hn,hk,p,hp=>by
  rw [List.map_cons,List.nodup_cons] at hn
  show (if tnm p.k=tnm q.k then _ else _)=_
  rcases List.mem_cons.mp hp with rfl | hp
  ·rw [if_pos rfl]
  ·rw [if_neg (fun e=>hn.1 (by rw [← tnm_inj p.k (hk p (.tail _ hp)) q.k (hk q (.head _)) e]; exact List.mem_map_of_mem hp))]
   exact look_told ps hn.2 (fun p' h'=>hk p' (.tail _ h')) p hp
theorem rules_P (ps:List Pick):((rulesP ps).filter fun r=>!r.need).map Rl.side++tsP ps=sortedP ps:=by
 unfold sortedP rulesP
 congr 1
 rw [List.filter_map,List.map_map]
 have h1:((fun r:Rl=>!r.need) ∘ Pick.rl)=fun p:Pick=>!p.kd.isN:=rfl
 rw [h1]
 refine List.map_congr_left fun p hp=>?_
 have:=(List.mem_filter.mp (List.mem_filter.mp hp).1).2
 have hT:p.kd.isT=false:=by simpa using this
 simp only [Function.comp,Pick.side,hT,Bool.false_eq_true,if_false]
 rfl
theorem side_ok {p:Pick} (h:okPick p):okSide p.side:=by
 unfold Pick.side
 split
 ·exact ⟨h.L,h.R,h.s⟩
 ·exact ⟨h.L,h.R,h.s⟩
theorem sortedP_mem {ps:List Pick} {x:Side} (h:x ∈ sortedP ps):∃ p ∈ ps,x=p.side:=by
 rcases List.mem_append.mp h with h | h
 ·obtain ⟨p,h1,rfl⟩:=List.mem_map.mp h
  exact ⟨p,(List.mem_filter.mp (List.mem_filter.mp h1).1).1,rfl⟩
 ·obtain ⟨p,h1,rfl⟩:=List.mem_map.mp h
  exact ⟨p,(List.mem_filter.mp (List.mem_reverse.mp h1)).1,rfl⟩
theorem k_lt {ps:List Pick} {N:Nat} (h:ps.map (·.k)=List.range N) (hN:N≤4):∀ p ∈ ps,p.k < 4:=fun p hp=>by
 have:p.k ∈ ps.map (·.k):=List.mem_map_of_mem hp
 rw [h] at this
 exact Nat.lt_of_lt_of_le (List.mem_range.mp this) hN
theorem sides_P {ps:List Pick} {N:Nat} (h:ps.map (·.k)=List.range N) (hN:N≤4) (hok:∀ p ∈ ps,okPick p):okSides (sortedP ps):=by
 have hc:(ps.map (·.kd)) ∈ cfgs:=kd_cfg (by rw [List.length_map,← List.length_map (·.k),h,List.length_range]; exact hN)
 have hl:ps.length=N:=by rw [← List.length_map (·.k),h,List.length_range]
 refine ⟨fun x hx=>?_,fun x hx=>?_,?_,?_⟩
 ·obtain ⟨p,hp,rfl⟩:=sortedP_mem hx
  exact side_ok (hok p hp)
 ·obtain ⟨p,hp,rfl⟩:=sortedP_mem hx
  have:=nm_ok p.k (k_lt h hN p hp)
  unfold Pick.side
  split
  ·exact ⟨(by decide +kernel:PyData.strOk (sx "told")=true),this.1⟩
  ·exact ⟨(by decide +kernel:PyData.strOk (sx "rule")=true),this.2⟩
 ·rw [(ps_facts h hN).2.2.2.2]
  exact cfg_names _ hc
 ·rw [← List.length_map (·.name),(ps_facts h hN).2.2.2.2,nmC,List.length_map,← List.length_map (fun i=>((sidesP ps).map Side.enc).getD i .none),(ps_facts h hN).2.1,List.length_map]
  unfold sortedP tsP toldP
  rw [List.length_append,List.length_map,List.length_map,List.length_reverse]
  have h1:=List.length_filter_le (fun p:Pick=>!p.kd.isN) (ps.filter fun p=>!p.kd.isT)
  have h2:=List.length_filter_le (fun p:Pick=>!p.kd.isT) ps
  have h3:=List.length_filter_le (fun p:Pick=>p.kd.isT) ps
  have h4:=Nat.le_trans (Nat.le_of_eq hl) hN
  exact lw (Nat.add_le_add (Nat.le_trans h1 (Nat.le_trans h2 h4)) (Nat.le_trans h3 h4))
theorem law_post {ps:List Pick} {N many:Nat} {xs:List Int} {c:Nat} (h:ps.map (·.k)=List.range N) (hN:N≤4) (hok:∀ p ∈ ps,okPick p) (hx:xs.length≤40) (hc:c≤200) (n:Nat) {env:Env'} (he:pEnv many env) :
  ∃ env' σ',(lv fns clss (n+140)).s ((38,.d (.lst ((sortedP ps).map Side.enc)))::env) [.gone,coatC xs c,.gone,.lst ((rulesP ps).map Rl.enc),.dct (tks ps) (tds ps)] lawTail=some (.ret (.bool true),env',σ'):=by
 have hl:ps.length=N:=by rw [← List.length_map (·.k),h,List.length_range]
 have hkn:((toldP ps).map (·.k)).Nodup:=by
  have:((toldP ps).map (·.k)).Sublist (ps.map (·.k)):=List.filter_sublist.map _
  refine List.Nodup.sublist this ?_
  rw [h]; exact List.nodup_range
 have hk4:=k_lt h hN
 have ht:∀ x ∈ tsP ps,okSide x∧x.kind=sx "told" ∧ look x.name (tks ps) (tds ps)=some (.tup [x.L.enc,x.R.enc]):=fun x hx=>by
  obtain ⟨p,h1,rfl⟩:=List.mem_map.mp hx
  have h1:=List.mem_reverse.mp h1
  obtain ⟨h2,h3⟩:=List.mem_filter.mp h1
  have hlk:=look_told (toldP ps) hkn (fun p hp=>hk4 p (List.mem_filter.mp hp).1) p h1
  refine ⟨side_ok (hok p h2),?_⟩
  have e:p.side=⟨sx "told", tnm p.k,p.L,p.R⟩:=by simp only [Pick.side,h3,if_true]
  rw [e]
  exact ⟨rfl,hlk⟩
 refine law_tail (S:=sortedP ps) (sides_P h hN hok) (rs:=rulesP ps) (ts:=tsP ps) (rules_P ps).symm (fun r hr=>?_) (fun x hx=>(ht x hx).1) (fun x hx=>(ht x hx).2) (keys_P h hN) ?_ hx hc n he.e30 he.e12 he.e13 rfl
 ·obtain ⟨p,h1,rfl⟩:=List.mem_map.mp hr
  have:=hok p (List.mem_filter.mp h1).1
  exact ⟨this.L,this.R,this.s⟩
 ·unfold rulesP tsP toldP
  rw [List.length_map,List.length_map,List.length_reverse]
  have h2:=List.length_filter_le (fun p:Pick=>!p.kd.isT) ps
  have h3:=List.length_filter_le (fun p:Pick=>p.kd.isT) ps
  have h4:=Nat.le_trans (Nat.le_of_eq hl) hN
  exact lw (Nat.add_le_add (Nat.le_trans h2 h4) (Nat.le_trans h3 h4))

section
variable {sc:Scope}
theorem nm_dbg:∀ i < 47,(nm i == ("__debug__" : Str))=false:=by decide +kernel
theorem encV (i:Nat) {p:Pos} (h:Nat.ble (i+1) 47=true):Enc sc (.var i) (.Name (nm i) p):=.var rfl (nm_dbg i (Nat.le_of_ble_eq_true h))
theorem encF (i:Nat) {p:Pos} (h:Nat.ble (i+1) 47=true):Enc sc (.frz i) (.Name (nm i) p):=.frz rfl (nm_dbg i (Nat.le_of_ble_eq_true h))
theorem encC {f:Nat} {xs:List X} {s:Str} {es:List PySem.Expr} {q p:Pos} (h:(fns[f]?).map (·.name)=some s) (h1:methName s=false) (h2:globB sc s=true) (h3:EncL sc xs es) (h4:Nat.ble xs.length 20=true):Enc sc (.call f xs) (.Call (.Name s q) es [] p):=by
 obtain ⟨g,e,rfl⟩:=md h
 exact .call e h1 h2 h3 (Nat.le_of_ble_eq_true h4)
theorem encN {c:Nat} {xs:List X} {s:Str} {es:List PySem.Expr} {q p:Pos} (h:(clss[c]?).map (·.name)=some s) (h2:globB sc s=true) (h3:EncL sc xs es) (h4:Nat.ble xs.length 20=true):Enc sc (.new c xs) (.Call (.Name s q) es [] p):=by
 obtain ⟨g,e,rfl⟩:=md h
 exact .new e h2 h3 (Nat.le_of_ble_eq_true h4)
theorem encM {o:X} {x:PySem.Expr} {s:Str} {f:Nat} {xs:List X} {es:List PySem.Expr} {q p:Pos} (h:(fns[f]?).map (·.addr)=some 153) (h1:s=Str.ofString "turns") (h2:notCall x=true) (h3:Enc sc o x) (h4:EncL sc xs es) (h5:Nat.ble xs.length 20=true) (h6:(q.endLine == p.line)=true):Enc sc (.meth o s f xs) (.Call (.Attribute x s q) es [] p):=by
 obtain ⟨g,e,e2⟩:=md h
 exact .meth e e2 h1 h2 h3 h4 (Nat.le_of_ble_eq_true h5) h6
end
theorem fnOk_of {K:Frag} {b:Heap} {mg:Str→Option Value} (X:K.In b) (g:Fn) {o:Obj} {fd:FuncData} {body:List Stmt} (h1:K.lookup g.addr=some o) (h2:o.data=.func fd) (h3:codeIn K fd.code fd.qualname=true) (h4:fd.body=.stmts body)
  (h5:fd.closure=[]∧fd.scope.isCoroutine=false∧fd.scope.isGenerator=false∧fd.scope.kind=.function∧fd.globals=mainGlobals∧fd.builtins=builtinsNs) (h6:EncSs fd.scope g.body body)
  (h7:∀ vals:List Value,vals.length=g.params.length→bindArgs fd ⟨vals,[]⟩=pure ((g.params.map nm).zip vals)) (h8:(g.params.all fun i=>storeB fd.scope (nm i))=true) (h9:g.params.Nodup):FnOk mg b g :=
 ⟨o,fd,body,X _ _ h1,h2,codeRec_of X h3,h4,h5.1,h5.2.1,h5.2.2.1,h5.2.2.2.1,h5.2.2.2.2.1,h5.2.2.2.2.2,h6,h7,fun i hi=>List.all_eq_true.mp h8 i hi,h9⟩
theorem len0 {α:Type} {P:List α→Prop} (h:P []):∀ l,l.length=0→P l
 | [],_=>h
theorem len1 {α:Type} {P:List α→Prop} (h:∀ a,P [a]):∀ l,l.length=1→P l
 | [a],_=>h a
theorem len2 {α:Type} {P:List α→Prop} (h:∀ a b,P [a,b]):∀ l,l.length=2→P l
 | [a,b],_=>h a b
theorem len3 {α:Type} {P:List α→Prop} (h:∀ a b c,P [a,b,c]):∀ l,l.length=3→P l
 | [a,b,c],_=>h a b c
theorem len5 {α:Type} {P:List α→Prop} (h:∀ a b c d e,P [a,b,c,d,e]):∀ l,l.length=5→P l
 | [a,b,c,d,e],_=>h a b c d e
noncomputable def KB (K:Frag):Bool :=
 (biltins.all fun p=>decide (nsIn K mainGlobals p.1=some none)) &&
 (clsA.all fun c=>plainGet K c default && (hasDictIn K c && (plainOver K c && (decide (findIn K (.ref c) "__setattr__" = some (some (.builtin "object.__setattr__"))) && fldNs.all fun x=>decide (findIn K (.ref c) x=some none))))) &&
 (fns.all fun g=>methName g.name || decide (nsIn K mainGlobals g.name=some (some (.ref g.addr)))) &&
 (clss.all fun k=>decide (nsIn K mainGlobals k.name=some (some (.ref k.addr))) && (decide (k.addr ∈ clsA) && (keepIn K (.ref k.addr) && (makesIn K k.addr && (match fns[k.init]? with
  | some g=>decide (findIn K (.ref k.addr) (Str.ofString "__init__")=some (some (.ref g.addr))) && decide (typeIn K (.ref g.addr)=some (.type "function"))
  | none=>false))))) &&
 (decide (findIn K (.ref 187) (Str.ofString "turns")=some (some (.ref 153))) && isFn K (.ref 153))
theorem bil_boot:∀ p ∈ biltins,bootBuiltins p.1=some p.2∧p.1 ≠ ("__name__" : Str):=by
 intro p hp
 simp only [biltins,List.mem_cons,List.not_mem_nil,or_false] at hp
 rcases hp with rfl | rfl | rfl | rfl | rfl | rfl | rfl | rfl | rfl | rfl <;> exact ⟨by kernel_rfl,by decide +kernel⟩
structure KG (K:Frag):Prop where
 x:∃ a t,nsIn K mainGlobals (Str.ofString "_law_x")=some (some (.ref a))∧K.lookup a=some { cls:=.type "tuple", data:=.seq #[.str (sx "?x") t] }
 y:∃ a t,nsIn K mainGlobals (Str.ofString "_law_y")=some (some (.ref a))∧K.lookup a=some { cls:=.type "tuple", data:=.seq #[.str (sx "?y") t] }
 p:∃ a t0 t1 t2 t3 t4 t5 t6 t7 t8 t9,nsIn K mainGlobals (Str.ofString "_law_plain")=some (some (.ref a))∧K.lookup a=some { cls:=.type "tuple", data:=.seq #[.int 0 t0,.int 0 t1,.int 5 t2,.int 2 t3,.int 0 t4,.int 0 t5,.int 0 t6,.int 0 t7,.int 0 t8,.int 0 t9] }
theorem gd_of {prog:Program} {w:World} {K:Frag} {mg mb:Str→Option Value} {b:Heap} (X:K.In b) (Tg:b.Ns mainGlobals mg) (Tb:b.Ns builtinsNs mb) (nl:b.NoLimit) (bu:∀ x:Str,x ≠ "__name__" → mb x=bootBuiltins x) (hK:KB K=true) (hG:KG K):Gd prog w K mg mb b:=by
 unfold KB at hK
 simp only [Bool.and_eq_true] at hK
 obtain ⟨⟨⟨⟨h1,h2⟩,h3⟩,h4⟩,h5⟩:=hK
 have hc:∀ c ∈ clsA,plainGet K c default=true∧hasDictIn K c=true∧plainOver K c=true∧findIn K (.ref c) "__setattr__" = some (some (.builtin "object.__setattr__"))∧∀ x ∈ fldNs,findIn K (.ref c) x=some none:=fun c hc=>by
  have:=List.all_eq_true.mp h2 c hc
  simp only [Bool.and_eq_true,decide_eq_true_eq] at this
  exact ⟨this.1,this.2.1,this.2.2.1,this.2.2.2.1,fun x hx=>of_decide_eq_true (List.all_eq_true.mp this.2.2.2.2 x hx)⟩
 refine ⟨X,Tg,Tb,nl,bu,nm_inj,fun p hp=>⟨mg_none_of X Tg (of_decide_eq_true (List.all_eq_true.mp h1 p hp)),bil_boot p hp⟩,fun c q x=>(hc c q).1,fun c q=>(hc c q).2.1,fun c q=>(hc c q).2.2.1,fun c q=>(hc c q).2.2.2.1,fun c q=>(hc c q).2.2.2.2,fun p hp=>?_⟩
 simp only [gt,List.mem_cons,List.not_mem_nil,or_false] at hp
 rcases hp with rfl | rfl | rfl
 ·obtain ⟨a,t,e1,e2⟩:=hG.x
  exact ⟨_,mg_of X Tg e1,.tup (X _ _ e2) rfl rfl (fun z=>by rw [X _ _ e2] at z; cases z) (.cons (.str _ _) .nil)⟩
 ·obtain ⟨a,t,e1,e2⟩:=hG.y
  exact ⟨_,mg_of X Tg e1,.tup (X _ _ e2) rfl rfl (fun z=>by rw [X _ _ e2] at z; cases z) (.cons (.str _ _) .nil)⟩
 ·obtain ⟨a,t0,t1,t2,t3,t4,t5,t6,t7,t8,t9,e1,e2⟩:=hG.p
  exact ⟨_,mg_of X Tg e1,.tup (X _ _ e2) rfl rfl (fun z=>by rw [X _ _ e2] at z; cases z) (.cons (.int _ _) (.cons (.int _ _) (.cons (.int _ _) (.cons (.int _ _) (.cons (.int _ _) (.cons (.int _ _) (.cons (.int _ _) (.cons (.int _ _) (.cons (.int _ _) (.cons (.int _ _) .nil))))))))))⟩
theorem fd_of {K:Frag} {mg:Str→Option Value} {b:Heap} (X:K.In b) (Tg:b.Ns mainGlobals mg) (hK:KB K=true) (ht:∃ o fd,K.lookup 153=some o∧o.data=.func fd) (hf:∀ g ∈ fns,FnOk mg b g):Fd K mg b:=by
 unfold KB at hK
 simp only [Bool.and_eq_true] at hK
 obtain ⟨⟨⟨⟨h1,h2⟩,h3⟩,h4⟩,h5⟩:=hK
 have hk:∀ k ∈ clss,nsIn K mainGlobals k.name=some (some (.ref k.addr))∧k.addr ∈ clsA∧keepIn K (.ref k.addr)=true∧makesIn K k.addr=true∧∃ g,fns[k.init]?=some g∧findIn K (.ref k.addr) (Str.ofString "__init__")=some (some (.ref g.addr))∧typeIn K (.ref g.addr)=some (.type "function"):=fun k hk=>by
  have:=List.all_eq_true.mp h4 k hk
  simp only [Bool.and_eq_true,decide_eq_true_eq] at this
  obtain ⟨a1,a2,a3,a4,a5⟩:=this
  refine ⟨a1,a2,a3,a4,?_⟩
  split at a5
  ·rename_i g hg
   simp only [Bool.and_eq_true,decide_eq_true_eq] at a5
   exact ⟨g,hg,a5.1,a5.2⟩
  ·cases a5
 refine ⟨hf,fun g hg hm=>?_,fun k q=>mg_of X Tg (hk k q).1,fun k q=>(hk k q).2.1,fun k q=>(hk k q).2.2.1,fun k q=>(hk k q).2.2.2.1,fun k q=>(hk k q).2.2.2.2,of_decide_eq_true h5.1,h5.2,ht⟩
 have:=List.all_eq_true.mp h3 g hg
 rw [Bool.or_eq_true,hm] at this
 exact mg_of X Tg (of_decide_eq_true (this.resolve_left (by decide)))
theorem ints_rel {prog:Program} {w:World} {h:Heap} {M:Addr→Prop} {items:List Value} {ns:List Int} (x:IntsAre items ns):DRs prog w h M items (ns.map D.int):=by
 induction x with
 | nil=>exact .nil
 | cons n t _ ih=>exact .cons (.int n t) ih
theorem side_row (x:Side):rowOk x.enc∧rowKey x.enc=keyS x:=⟨(by show 2≤500; decide),rfl⟩
theorem fin_sort {ps:List Pick} {N:Nat} (h:ps.map (·.k)=List.range N) (hN:N≤4):sortBy (keyCmp (((sidesP ps).map Side.enc).map rowKey)) ((sidesP ps).map Side.enc) .none=(sortedP ps).map Side.enc:=by
 rw [List.map_map]
 exact sort_P h hN
structure LawScope (sc:Scope) (late:Str):Prop where
 kind:sc.kind=.function
 loc:sc.names.lookup (nm 39)=some .local
 cells:∀ L,cellsFrom (L+1) sc.names []=[(late,L+1)]
 only:∀ x,sc.names.lookup x=some .cell→x=late
 glob:globB sc (Str.ofString "sorted")=true
 st:storeB sc (nm 38)=true
theorem law_fin {prog:Program} {w:World} {K:Frag} {mg mb:Str→Option Value} {g:Heap} {s:Shared} {nmL late:Str} {sc lamSc:Scope} {fa la L:Addr} {m:Str→Option Value} {oc:Obj} {cv:Option Value} {items:List Value} {ns:List Int} {bodyAll preEs tailEs:List Stmt} {params:Arguments} {body:PySem.Expr} {q q1 q2 q3 p q0 p0:Pos} {E:Value→Shared→Prop} {A:Around}
  (hb:bodyAll=preEs++(.Assign [.Name (nm 38) q0] (.Call (.Name (Str.ofString "sorted") q) [.Name (nm 38) q1] [⟨some (Str.ofString "key"),.Lambda params body lamSc q2,q3⟩] p) p0::tailEs)) (G:Gd prog w K mg mb g) (Y:Fd K mg g) (hsc:LawScope sc late) (F':Fr g L s.heap m) (N':News g L s.heap [(L+1,oc),(275,tabObj #[])]) (hoc:oc.data=.cell cv) (hm:m (nm 39)=some (.ref la)) (hl:g.IsList la items.toArray) (hI:IntsAre items ns) (hlen:ns.length≤63) (h275:275 < L)
  (he1:EncSs sc lawPre preEs) (he2:EncSs sc lawTail tailEs) (hx:Enc lamSc (.cut (.var 16) none (some 2)) body) (H:LamOk mg g (envOfC nmL sc L fa (.ref 277)) 275 16 params body lamSc) (hA:Room A 140)
  {Q:Flow→Shared→Prop} (hQ:∀ s',(∃ h tk dr,s'={ s with heap:=h,toks:=tk,drawn:=dr })→(∀ a o,g.get? a=some o→s'.heap.get? a=some o)→(∃ ps,s'.heap.get? 275=some (tabObj ps))→Q (.ret (.bool true)) s') :
  wpAny (model prog w) A (execs bodyAll (envOfC nmL sc L fa (.ref 277))) Q E s:=by
 subst hb
 obtain ⟨xs,c,N,many,ps,env1,hpre,hp,hmany,hx40,hc200,hN,hk,hok⟩:=law_pre 0 ns hlen
 obtain ⟨env2,σ2,hpost⟩:=law_post hk hN (fun p hp=>(hok p hp).1) hx40 hc200 0 hp
 have n1:=N' (L+1,oc) (.head _)
 have n2:=N' (275,tabObj #[]) (.tail _ (.head _))
 have hLg:g.get? L=none:=Heap.get?_none_of_le F'.above
 have hOwn:∀ a,Own (envOfC nmL sc L fa (.ref 277)) a→a=L ∨ a=L+1:=fun a z=>by
  rcases z with z | ⟨y,z⟩
  ·exact .inl z
  ·right
   have z:(cellsFrom (L+1) sc.names []).lookup y=some a:=z
   rw [hsc.cells,List.lookup_cons] at z
   split at z
   ·cases z; rfl
   ·cases z
 obtain ⟨ol,ho,hcl,nl,hdl⟩:=hl
 have hla:la ≠ 275:=fun z=>by rw [z,n2.2.2] at ho; cases ho
 have hMla:¬ Mt [[275]] (Own (envOfC nmL sc L fa (.ref 277))) la:=fun z=>by
  rcases z with ⟨l,q,z⟩ | z
  ·rw [List.mem_singleton] at q; subst q; rw [List.mem_singleton] at z; exact hla z
  ·rcases hOwn _ z with z | z
   ·rw [z,hLg] at ho; cases ho
   ·rw [z,n1.2.2] at ho; cases ho
 have hcel:(envOfC nmL sc L fa (.ref 277)).cells.lookup late=some (L+1):=by
  show (cellsFrom (L+1) sc.names []).lookup late=_
  rw [hsc.cells,List.lookup_cons]; simp
 have hF:FR prog w g s.heap [[275]] (Own (envOfC nmL sc L fa (.ref 277))) sc (envOfC nmL sc L fa (.ref 277)) [(39,.d (.raw (ns.map .int)))]:=by
  refine ⟨hsc.kind,rfl,rfl,fun y k q _=>q,⟨m,F'.ns,fun i v e=>?_⟩,fun y hy=>?_,.inl rfl,F'.above,fun y c q=>⟨.inr ⟨y,q⟩,?_⟩,fun y z c q1 q2=>?_⟩
  ·rw [List.lookup_cons] at e
   by_cases hi:i=39
   ·subst hi
    simp at e
    subst e
    exact .inl ⟨hsc.loc,_,hm,.d (.raw (F'.keep _ _ ho) hcl hdl hMla (ints_rel hI))⟩
   ·rw [beq_false_of_ne hi] at e; cases e
  ·have:=hsc.only y hy
   subst this
   exact ⟨_,cv,hcel,oc,n1.1,hoc⟩
  ·have q:(cellsFrom (L+1) sc.names []).lookup y=some c:=q
   rw [hsc.cells,List.lookup_cons] at q
   split at q
   ·cases q; exact Nat.succ_ne_self L
   ·cases q
  ·have q1:(cellsFrom (L+1) sc.names []).lookup y=some c:=q1
   have q2:(cellsFrom (L+1) sc.names []).lookup z=some c:=q2
   rw [hsc.cells,List.lookup_cons] at q1 q2
   split at q1
   ·rename_i e1
    split at q2
    ·rename_i e2
     exact (beq_iff_eq.mp e1).trans (beq_iff_eq.mp e2).symm
    ·cases q2
   ·cases q1
 have hS:SR prog w g (Own (envOfC nmL sc L fa (.ref 277))) s.heap [[275]] [.tab]:=by
  refine ⟨F'.keep,by simp,fun a q=>?_,fun a q=>?_,fun a q=>?_,.cons (.tab n2.1) .nil⟩
  ·obtain ⟨l,q,z⟩:=q
   rw [List.mem_singleton] at q; subst q; rw [List.mem_singleton] at z; subst z
   refine ⟨fun z=>?_,n2.2.2⟩
   rcases hOwn _ z with z | z
   ·exact Nat.lt_irrefl _ (z ▸ h275)
   ·exact absurd h275 (Nat.not_lt_of_le (Nat.le_trans (Nat.le_succ L) (Nat.le_of_eq (Eq.symm z))))
  ·rcases hOwn _ q with rfl | rfl
   ·exact hLg
   ·exact n1.2.2
  ·rcases hOwn _ q with rfl | rfl
   ·exact ns_some F'.ns
   ·rw [n1.1]; rfl
 have hds:((sidesP ps).map Side.enc).length < 5:=by
  rw [List.length_map]
  unfold sidesP
  rw [List.length_map]
  have:ps.length=N:=by rw [← List.length_map (·.k),hk,List.length_range]
  exact lwt (Nat.le_trans (List.length_filter_le ..) (Nat.le_trans (Nat.le_of_eq this) hN))
 refine wpAny_mono (law_exec G Y (N:=140) (j:=38) (k:=2) (env2:=env2) (σ2:=σ2) he1 he2 hx H hsc.glob rfl (by decide +kernel) hsc.st hpre rfl hp.e38 (by decide) (ds:=(sidesP ps).map Side.enc) rfl hds (fun d hd=>?_) ?_ hA (hA.le (by decide)) hF hS) (fun f s' z=>?_) fun _ _ z=>z
 ·obtain ⟨x,_,rfl⟩:=List.mem_map.mp hd
  exact (side_row x).1
 ·rw [fin_sort hk hN]
  exact hpost
 ·obtain ⟨rfl,a1,a2,a3⟩:=z
  exact hQ s' a1 a2 a3
theorem only_of {names:List (Str × NameKind)} {late:Str} (h:(names.all fun y=>y.2 != .cell || y.1 == late)=true):∀ x,names.lookup x=some .cell→x=late:=by
 intro x hx
 have:=List.all_eq_true.mp h _ (lookup_mem hx)
 simpa using this
theorem bt_of {p:Program} {loose:List Str} {mean:ExcName→Option Value} {mg mb:Str→Option Value} {h:Heap} (T:Top p loose mean mg mb h):∃ bm o,mg "__builtins__" = some (.ref bm)∧bm ≠ builtinsNs∧bm ≠ mainGlobals∧h.get? bm=some o∧o.cls=.type "module" ∧ o.dict=some builtinsNs∧o.data=.plain:=by
 obtain ⟨bm,ob,b1,b2,b3,b4,b5,b6⟩:=T.bmain
 refine ⟨bm,ob,b1,b2,fun q=>?_,b3,b4,b5,b6⟩
 obtain ⟨o,es,ep,e,hd,_⟩:=T.g
 rw [q,e] at b3; cases b3; rw [hd] at b6; cases b6
theorem fns_all {P:Fn→Prop} (h0:P f_is_variable) (h1:P f_variables) (h2:P f_placed) (h3:P f_parts) (h4:P f_matched) (h5:P f_Seeker__init) (h6:P f_Seeker_turns) (h7:P f_Rule__init) (h8:P f_law_sides) (h9:P f_law_reach) (h10:P f_law_drawn) (h11:P f_law_parts) (h12:P f_law_names) (h13:P f_law_filled) (h14:P f_law_found) (h15:P f_law_due) (h16:P f_law_called):∀ g ∈ fns,P g:=by
 intro g hg
 simp only [fns,List.mem_cons,List.not_mem_nil,or_false] at hg
 rcases hg with rfl | rfl | rfl | rfl | rfl | rfl | rfl | rfl | rfl | rfl | rfl | rfl | rfl | rfl | rfl | rfl | rfl <;> assumption
theorem room_law (e:Env):Room (callerA.deeper e) 140:=⟨rfl,Nat.le_of_ble_eq_true rfl,Nat.le_of_ble_eq_true rfl⟩
end Internal
open Internal
theorem head.tw6474009502463322548:True:=trivial
theorem head.tw18088075235975042716:True:=trivial
theorem head.tw18005122465768885229:True:=trivial
theorem head.tw13335025841360890868:True:=trivial
theorem head.tw3406552568449126707:True:=trivial
theorem head.tw12524623287455510617:True:=trivial
theorem head.tw1329897990629837498:True:=trivial
theorem head.tw10947311243903031830:True:=trivial
theorem head.tw18287399987915218197:True:=trivial
theorem head.tw6110071263904590700:True:=trivial
theorem head.tw7417405269818204032:True:=trivial
theorem head.tw13297540025232092148:True:=trivial
theorem head.tw11243108028744102484:True:=trivial
theorem head.tw33573280608776797:True:=trivial
theorem head.tw7893992939808209232:True:=trivial
theorem head.tw5973763720392745831:True:=trivial
theorem head.tw2994366008111725845:True:=trivial
theorem head.tw3496171461512900480:True:=trivial
theorem head.tw381453634507594109:True:=trivial
theorem head.tw17508272824862286709:True:=trivial
theorem head.tw12201952087667049370:True:=trivial
theorem head.tw9702098958229961203:True:=trivial
theorem head.tw21988315779104480:True:=trivial
theorem head.tw16172356507618199906:True:=trivial
theorem head.tw6587087628758450585:True:=trivial
theorem head.tw2581250870941146908:True:=trivial
theorem head.tw8758324158161630591:True:=trivial
theorem head.tw15539854500240908086:True:=trivial
theorem head.tw14877080517539528568:True:=trivial
theorem head.tw7253898381062576733:True:=trivial
theorem head.tw6857060684267632606:True:=trivial
theorem head.tw8773370040425892893:True:=trivial
theorem head.tw16714887947964762639:True:=trivial
theorem head.tw6121141971511671821:True:=trivial
theorem head.tw4693820183103290663:True:=trivial
theorem head.tw10059252607514160932:True:=trivial
theorem head.tw8207701176878594722:True:=trivial
theorem head.tw3089916443595474862:True:=trivial
theorem head.tw12903917746401883607:True:=trivial
theorem head.tw3665506230870052707:True:=trivial
theorem head.tw315434073420411817:True:=trivial
theorem head.tw17243387458012846398:True:=trivial
theorem head.tw3746228215898030841:True:=trivial
theorem head.tw13295774097974887486:True:=trivial
theorem head.tw7802898811600756450:True:=trivial
theorem head.tw9325057278558614444:True:=trivial
theorem head.tw7758381527925395934:True:=trivial
theorem head.tw2529948359932261575:True:=trivial
theorem head.tw7658410731251134818:True:=trivial
theorem head.tw649443455394278489:True:=trivial
theorem head.tw2694075680205673411:True:=trivial
theorem head.tw18090392515378641496:True:=trivial
theorem head.tw5764021196749891206:True:=trivial
theorem head.tw7090939061502383884:True:=trivial
theorem head.tw5870146547769353613:True:=trivial
theorem head.tw9162278640276766204:True:=trivial
theorem head.tw11105056867450500199:True:=trivial
theorem head.tw3368030927266983236:True:=trivial
theorem head.tw12775505166333009402:True:=trivial
theorem head.tw13942192884097748152:True:=trivial
theorem head.tw8382746154173761051:True:=trivial
theorem head.tw12398312691204496596:True:=trivial
theorem head.tw3083302935323014018:True:=trivial
theorem head.tw6846866878297920324:True:=trivial
theorem head.tw5319049981483164881:True:=trivial
theorem head.tw13294958713779813728:True:=trivial
theorem head.tw5331137831679937033:True:=trivial
theorem head.tw13689084217373910675:True:=trivial
theorem head.tw10261356005730403935:True:=trivial
theorem head.tw13199516396595161752:True:=trivial
theorem head.tw13988103294471073821:True:=trivial
theorem head.tw8812732774380208333:True:=trivial
theorem head.tw3973953319845086491:True:=trivial
theorem head.tw8097174177036852075:True:=trivial
theorem head.tw11296743742662292762:True:=trivial
theorem head.tw4063747431996464497:True:=trivial
theorem head.tw15035418422258542911:True:=trivial
theorem head.tw1852205218256702202:True:=trivial
theorem head.tw9186546921256032858:True:=trivial
theorem head.tw6388477656530123435:True:=trivial
theorem head.tw3615648651819825313:True:=trivial
theorem head.tw10366927770000222440:True:=trivial
theorem head.tw262713603470380999:True:=trivial
theorem head.tw8874674299285249911:True:=trivial
theorem head.tw15798066900824788120:True:=trivial
theorem head.tw3501597964444990463:True:=trivial
theorem head.tw9196398404247428943:True:=trivial
theorem head.tw10533634037010066435:True:=trivial
theorem head.tw8997269238129315039:True:=trivial
theorem head.tw9658139154387788515:True:=trivial
theorem head.tw7512725033676591148:True:=trivial
theorem head.tw3556061257289618393:True:=trivial
theorem head.tw16128420640991077102:True:=trivial
theorem head.tw6211381574409162282:True:=trivial
theorem head.tw8535708456716222715:True:=trivial
theorem head.tw7494366503370351645:True:=trivial
theorem head.tw17142359554024780413:True:=trivial
theorem head.tw13896987355042952010:True:=trivial
theorem head.tw10356212845559719233:True:=trivial
theorem head.tw5986637957666399235:True:=trivial
theorem head.tw5092371620264689978:True:=trivial
theorem head.tw15112835437128306455:True:=trivial
theorem head.tw11484358847640170188:True:=trivial
theorem head.tw10668533816033670360:True:=trivial
theorem head.tw2879759524354350568:True:=trivial
theorem head.tw16111715859725283846:True:=trivial
theorem head.tw10010264046613662565:True:=trivial
theorem head.tw9746458257258439470:True:=trivial
theorem head.tw16874305072444578374:True:=trivial
theorem head.tw14527164170590304321:True:=trivial
theorem head.tw3088210815446039105:True:=trivial
theorem head.tw1212124681294104184:True:=trivial
theorem head.tw17782148633632673465:True:=trivial
theorem head.tw9716329373054682134:True:=trivial
theorem head.tw13078646160514809887:True:=trivial
theorem head.tw7994106446794305319:True:=trivial
theorem head.tw2260579728952749127:True:=trivial
theorem head.tw11427066125472700054:True:=trivial
theorem head.tw5438144065070405397:True:=trivial
theorem head.tw15841401105113185080:True:=trivial
theorem head.tw17464823870196871000:True:=trivial
theorem head.tw17674571679781333832:True:=trivial
theorem head.tw9515422150858430662:True:=trivial
theorem head.tw3986194592780655508:True:=trivial
theorem head.tw2096541523181747872:True:=trivial
theorem head.tw1319983325249436295:True:=trivial
theorem head.tw8451290768687142514:True:=trivial
theorem head.tw976808484645153763:True:=trivial
theorem head.tw6880043348581005364:True:=trivial
theorem head.tw17093656651364094606:True:=trivial
theorem head.tw15735840784391694233:True:=trivial
theorem head.tw12352672977532951062:True:=trivial
theorem head.tw9145527808636388435:True:=trivial
theorem head.tw10812213935944405949:True:=trivial
theorem head.tw4964814941381164201:True:=trivial
theorem head.tw4381510469713062047:True:=trivial
theorem head.tw6507506987150044280:True:=trivial
theorem head.tw8715499118904818895:True:=trivial
theorem head.tw15520248196984853422:True:=trivial
theorem head.tw12740806245664736207:True:=trivial
theorem head.tw16031315777459398524:True:=trivial
theorem head.tw18007968972792079559:True:=trivial
theorem head.tw16984083398119652359:True:=trivial
theorem head.tw5508695066786827253:True:=trivial
theorem head.tw4433315090154635215:True:=trivial
theorem head.tw15510365090734361527:True:=trivial
theorem head.tw11426403942048686318:True:=trivial
theorem head.tw13605870324054321959:True:=trivial
theorem head.tw7313386461004707312:True:=trivial
theorem head.tw17725469503822016867:True:=trivial
theorem head.tw467416434755642258:True:=trivial
theorem head.tw10786079294511566085:True:=trivial
theorem head.tw11714945338242495837:True:=trivial
theorem head.tw4311042196063409733:True:=trivial
theorem head.tw14843749296085226474:True:=trivial
theorem head.tw14881559683392861959:True:=trivial
theorem head.tw10381336112695272470:True:=trivial
theorem head.tw15148963937461231693:True:=trivial
theorem head.tw18051680202136193954:True:=trivial
theorem head.tw18019848435428193743:True:=trivial
theorem head.tw6202090305015876224:True:=trivial
theorem head.tw7450023128482652576:True:=trivial
theorem head.tw14139502460874162764:True:=trivial
theorem head.tw1463646239528298992:True:=trivial
theorem head.tw9984397402777080727:True:=trivial
theorem head.tw4746297304354101679:True:=trivial
theorem head.tw1276956409769668328:True:=trivial
theorem head.tw5651425540991249520:True:=trivial
theorem head.tw4975070653579243887:True:=trivial
theorem head.tw8101760021730824546:True:=trivial
theorem head.tw4196546014268931301:True:=trivial
theorem head.tw13585267454733459922:True:=trivial
theorem head.tw5638995163158488052:True:=trivial
theorem head.tw9592777112578238593:True:=trivial
theorem head.tw1457377512435260902:True:=trivial
theorem head.tw10079960370226730655:True:=trivial
theorem head.tw10504981510240967646:True:=trivial
theorem head.tw17552560543380974038:True:=trivial
theorem head.tw12604462930493870256:True:=trivial
theorem head.tw12310735299239354703:True:=trivial
theorem head.tw5487235932777146282:True:=trivial
theorem head.tw2491421050496283774:True:=trivial
theorem head.tw3749026756887285471:True:=trivial
theorem head.tw3581614266968435656:True:=trivial
theorem head.tw12892129938458570674:True:=trivial
theorem head.tw16997897962222511:True:=trivial
theorem head.tw5599997604879368025:True:=trivial
theorem head.tw8402214883040486957:True:=trivial
theorem head.tw4972248218790579157:True:=trivial
theorem head.tw5629256929840616583:True:=trivial
theorem head.tw17854896373637125580:True:=trivial
theorem head.tw13337238644230332656:True:=trivial
theorem head.tw15506723302920939300:True:=trivial
theorem head.tw17212568112599259466:True:=trivial
theorem head.tw15296082917334920728:True:=trivial
theorem head.tw4009957668330374740:True:=trivial
theorem head.tw15436542981012472205:True:=trivial
theorem head.tw2249667046024356820:True:=trivial
theorem head.tw14512941343882779238:True:=trivial
theorem head.tw9074772780463953568:True:=trivial
theorem head.tw11821203517306503961:True:=trivial
theorem head.tw13086575352542018947:True:=trivial
theorem head.tw14699528089545365996:True:=trivial
theorem head.tw17700853532424174462:True:=trivial
theorem head.tw14205479233844494046:True:=trivial
theorem head.tw15895551434495452948:True:=trivial
theorem head.tw13906610036690215845:True:=trivial
theorem head.tw12870424476946447624:True:=trivial
theorem head.tw16817119741492734445:True:=trivial
theorem head.tw4023466491090337370:True:=trivial
theorem head.tw16572314662081343053:True:=trivial
theorem head.tw6889739017440866108:True:=trivial
theorem head.tw12773685731770592110:True:=trivial
theorem head.tw17348764703882912863:True:=trivial
theorem head.tw13353151263460963528:True:=trivial
theorem head.tw9407594320385231609:True:=trivial
theorem head.tw10987702880554017565:True:=trivial
theorem head.tw48543519692965452:True:=trivial
theorem head.tw14999265807660949796:True:=trivial
theorem head.tw18433677622606106133:True:=trivial
theorem head.tw3991279037241028524:True:=trivial
theorem head.tw2340069552987342377:True:=trivial
theorem head.tw13955511503576765797:True:=trivial
theorem head.tw18332285231265401824:True:=trivial
theorem head.tw4160124254940468481:True:=trivial
theorem head.tw12865059321931465230:True:=trivial
theorem head.tw16172288393029767808:True:=trivial
theorem head.tw733406405333840765:True:=trivial
theorem head.tw4857777746444614323:True:=trivial
theorem head.tw18384547517478447814:True:=trivial
theorem head.tw2518057956044344595:True:=trivial
theorem head.tw12207028300977255130:True:=trivial
theorem head.tw3794523003379204399:True:=trivial
theorem head.tw497287684792784471:True:=trivial
theorem head.tw8603420104599213669:True:=trivial
theorem head.tw69809265629811306:True:=trivial
theorem head.tw12478146576626367362:True:=trivial
theorem head.tw14393718171448925343:True:=trivial
theorem head.tw14982685227137828758:True:=trivial
theorem head.tw10865165270600546614:True:=trivial
theorem head.tw16640130746408290383:True:=trivial
theorem head.tw12147184966966947637:True:=trivial
theorem head.tw2355103038987944067:True:=trivial
theorem head.tw11692735721529064706:True:=trivial
theorem head.tw12822298378996975857:True:=trivial
theorem head.tw12032222614953749359:True:=trivial
theorem head.tw1832916270232011604:True:=trivial
theorem head.tw8159583801465064534:True:=trivial
theorem head.tw6846597200999610202:True:=trivial
theorem head.tw17411354535832351560:True:=trivial
theorem head.tw15782939476341012554:True:=trivial
theorem head.tw12475708393154427166:True:=trivial
theorem head.tw13954853420313727417:True:=trivial
theorem head.tw11194998557105285118:True:=trivial
theorem head.tw2400818531096893172:True:=trivial
theorem head.tw6100774026682323163:True:=trivial
theorem head.tw12858780395421280599:True:=trivial
theorem head.tw8866670633112419022:True:=trivial
theorem head.tw3944913497352057107:True:=trivial
theorem head.tw8627200689577751383:True:=trivial
theorem head.tw3688799982635324794:True:=trivial
theorem head.tw17332727794074296334:True:=trivial
theorem head.tw11544532188706048022:True:=trivial
theorem head.tw8534208459206503383:True:=trivial
theorem head.tw9062998866958442273:True:=trivial
theorem head.tw3547240966391284428:True:=trivial
theorem head.tw3715584954343283195:True:=trivial
set_option Elab.async true in
theorem head:PySem.Challenge.rw_rh0002_01.Holds:=by
 w_on; o_law; k_head; (case hw=>w_witness2)
 k_go0
 all_goals try k_fold
 rename Frag.In _ _=>X'
 rename Top _ _ _ _ _ _=>T'
 rename Fr _ _ _ _=>F'
 rename News _ _ _ _=>N'
 rename IntsAre _ _=>hI
 rename Heap.IsList _ _ _=>hl
 rename CodeHd _ _ _=>cH
 rename (_:Addr) < _=>l0
 rename Shared.gens _=_=>hgen
 refine law_fin (preEs:=[_,_,_,_]) (late:=Str.ofString "late") rfl (gd_of X' T'.g T'.b T'.nolimit T'.builtins (by kernel_rfl) ⟨⟨_,_,rfl,rfl⟩,⟨_,_,rfl,rfl⟩,⟨_,_,_,_,_,_,_,_,_,_,_,rfl,rfl⟩⟩) (fd_of X' T'.g (by kernel_rfl) ⟨_,_,rfl,rfl⟩ (fns_all ?a0 ?a1 ?a2 ?a3 ?a4 ?a5 ?a6 ?a7 ?a8 ?a9 ?a10 ?a11 ?a12 ?a13 ?a14 ?a15 ?a16)) ⟨rfl,by kernel_rfl,fun L=>rfl,only_of (by kernel_rfl),by kernel_rfl,by kernel_rfl⟩ F' N' (by assumption) ?hm hl hI (by omega) l0 ?he1 ?he2 ?hx ⟨⟨277,rfl,cH⟩,bt_of T',rfl,rfl,rfl,rfl,rfl,rfl,fun _ _ _ _ _=>rfl⟩ (room_law _) ?hQ
 case hm=>kernel_rfl
 case hQ =>
  intro s' a1 a2 a3
  obtain ⟨h',tk',dr',rfl⟩:=a1
  exact ⟨⟨.inl ⟨_,.bool true,[],rfl,fun _=>rfl,.bool true,by kernel_rfl,unshared_nil⟩,a2,rfl,hgen⟩,a3,trivial⟩
 all_goals try refine fnOk_of (by assumption) _ (by rfl) (by rfl) (by kernel_rfl) (by rfl) ⟨by rfl,by rfl,by rfl,by rfl,by rfl,by rfl⟩ ?_ ?_ (by kernel_rfl) (by decide)
 all_goals repeat' first
  | exact EncSs.nil | refine EncSs.cons ?_ ?_ | exact EncL.nil | refine EncL.cons ?_ ?_ | refine EncT.one (by rfl) (by kernel_rfl) | refine EncT.tup (by decide) ?_ | exact NamesAre.nil | refine NamesAre.cons (by rfl) (by kernel_rfl) ?_
  | exact EncS.bad | refine EncS.asg (by rfl) (by kernel_rfl) rfl ?_ | refine EncS.asgC (by rfl) (by kernel_rfl) ?_ (by kernel_rfl) (by kernel_rfl) | refine EncS.asgT ?_ rfl ?_ | refine EncS.asgW ?_ (by kernel_rfl) (by decide) (by decide) ?_ rfl (by kernel_rfl) (by kernel_rfl)
  | refine EncS.asgU rfl ?_ (by kernel_rfl) ?_ rfl (by decide) | refine EncS.setI ?_ ?_ ?_ | refine EncS.setA (by decide) ?_ ?_ | refine EncS.expr ?_ | refine EncS.ife ?_ ?_ ?_ | refine EncS.forR (by rfl) (by kernel_rfl) (by kernel_rfl) ?_ ?_
  | refine EncS.forE ?_ (by kernel_rfl) ?_ ?_ | refine EncS.forD ?_ ?_ ?_ | refine EncS.whl ?_ ?_ | refine EncS.ret ?_
  | refine EncLC.comp (by kernel_rfl) ?_ ?_ ?_ | refine EncLC.compC (by kernel_rfl) ?_ ?_ ?_ ?_ | refine EncLC.comp2 (by kernel_rfl) (by kernel_rfl) ?_ ?_ ?_ ?_ ?_
  | exact Enc.none | exact Enc.bool | exact Enc.int | exact Enc.str | exact encV _ (by kernel_rfl) | exact encF _ (by kernel_rfl)
  | (refine Enc.glo (by kernel_rfl) ?_; first | exact .head _ | exact .tail _ (.head _) | exact .tail _ (.tail _ (.head _)))
  | refine Enc.andE ?_ ?_ | refine Enc.orE ?_ ?_ | refine Enc.notE ?_ | refine Enc.ife ?_ ?_ ?_ | refine Enc.bin ?_ ?_ | refine Enc.cmp ?_ ?_ | refine Enc.cmp2 ?_ ?_ ?_
  | refine Enc.tup ?_ (by decide) | refine Enc.lst ?_ (by decide) | refine Enc.newL ?_ (by decide) | exact Enc.dct0 | exact Enc.newD | refine Enc.idx ?_ ?_ | refine Enc.cut ?_ (by kernel_rfl) (by kernel_rfl) (by kernel_rfl)
  | refine encC (by kernel_rfl) (by kernel_rfl) (by kernel_rfl) ?_ (by kernel_rfl) | refine encM (by kernel_rfl) rfl rfl ?_ ?_ (by kernel_rfl) (by kernel_rfl) | refine encN (by kernel_rfl) (by kernel_rfl) ?_ (by kernel_rfl)
  | refine Enc.sortSet (by kernel_rfl) (by kernel_rfl) ?_ | refine Enc.items (by kernel_rfl) rfl ?_ (by kernel_rfl) | refine Enc.sortItems (by kernel_rfl) rfl ?_ (by kernel_rfl) | refine Enc.bi (by rfl) (by kernel_rfl) ?_
  | refine Enc.attr (by decide) rfl ?_ | refine Enc.app rfl ?_ ?_ (by kernel_rfl) | refine Enc.ext rfl ?_ ?_ (by kernel_rfl) | refine Enc.extZip (by kernel_rfl) rfl ?_ ?_ ?_ (by kernel_rfl) | refine Enc.pop rfl ?_ (by kernel_rfl)
  | refine Enc.setdef rfl ?_ ?_ ?_ (by kernel_rfl) | refine Enc.comp (by kernel_rfl) ?_ ?_ ?_ | refine Enc.compC (by kernel_rfl) ?_ ?_ ?_ ?_ | refine Enc.comp2 (by kernel_rfl) (by kernel_rfl) ?_ ?_ ?_ ?_ ?_ | refine Enc.frzA (by decide) (by rfl) (by kernel_rfl)
  | exact len0 rfl | exact len1 fun _=>rfl | exact len2 fun _ _=>rfl | exact len3 fun _ _ _=>rfl | exact len5 fun _ _ _ _ _=>rfl
end Mine
theorem PySem.Challenge.cw_rh0002_01_holds : PySem.Challenge.rw_rh0002_01.Holds :=
  Mine.head
