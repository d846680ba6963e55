import PyProof.Rows.All
import Wide.All
import OpenK.AllK
import Wide.FinOn
import Lean
import PySem.Challenge.RW_pq0658_01
set_option Elab.async false
set_option maxHeartbeats 4000000
set_option bootstrap.genMatcherCode false
set_option compiler.extract_closed false
set_option genSizeOf false
set_option genInjectivity false
set_option maxRecDepth 1000000
set_option autoImplicit false
set_option linter.all false
namespace Mine.Internal
abbrev Z0:=@PySem.wpAny_bind
abbrev Z3:=@PySem.wpAny_pure
abbrev Z4:=@Or.elim
abbrev Z5:=@PySem.Heap.get?_push_of_some
abbrev Z6.{u}:=@Option.some.inj.{u}
abbrev Z7:=@PySem.Heap.lt_size
abbrev Z8:=@Nat.le_of_ble_eq_true
abbrev Z9:=@Nat.eq_of_beq_eq_true
abbrev Za:=@Nat.lt_of_lt_of_le
abbrev Zb:=@PySem.Heap.get?_push_size
abbrev Zc:=@PySem.Heap.get?_update_self
abbrev Zd.{u}:=@List.mem_of_getElem?.{u}
universe u0 u1 u2 u3 u4 u5 u6 u7
theorem zF{P:Prop}(h:false=true):P:=(Bool.false_ne_true h).elim
end Mine.Internal
noncomputable section
namespace Mine.Internal
section
open PySem
inductive SI where
 |lit (i:Int)
 |var (k:Nat) (c:Int)
inductive SV where
 |none
 |bool (b:Bool)
 |int (i:SI)
 |str (s:List Nat)
 |bytes (b:List SI)
 |ty (n:Nat)
 |bi (n:Nat)
 |old (a:Addr)
 |own (k:Nat)
noncomputable def qcH:List String:=["bytes","range","tuple","list","bytearray","zip","int","enumerate","str","dict","Exception"]
noncomputable def qal:List String:=["len","abs","sorted","max","min","isinstance"]
noncomputable def tyNm(n:Nat):String:=qcH.getD n ""
noncomputable def biNm(n:Nat):String:=qal.getD n ""
inductive It where
 |lst (k i:Nat)
 |tup (v:SV) (i:Nat)
 |rng (a:Int) (n:Nat)
 |dct (k i n c:Nat)
 |enu (j k i:Nat)
 |byt (l:List SI) (i:Nat)
inductive SO where
 |list (xs:List SV)
 |tuple (xs:List SV)
 |dictS (es:List (List Nat×SV))
 |dictI (es:List (Int×SV))
 |barr (b:List SI)
 |inst (C:Addr) (m:List (Nat×SV))
 |cell (v:Option SV)
 |fn (i:Nat) (cells:List (Nat×Nat))
 |exc (C:Addr) (d:Option Nat)
 |pen (b:Nat) (fs:List (Nat×Nat))
 |rng (a b:Int)
 |xd (n:Nat)
section
abbrev bi{α:Type}(b:Bool)(t f:α):α:=@Bool.rec (λ_=>α) f t b
abbrev oB{α:Type}(o:Option α)(f:α→Bool):Bool:=@Option.rec α (λ_=>Bool) false f o
abbrev oE{α β:Type}(o:Option α)(d:β)(f:α→β):β:=@Option.rec α (λ_=>β) d f o
abbrev oO{α β:Type}(o:Option α)(f:α→Option β):Option β:=@Option.rec α (λ_=>Option β) none f o
def q0K(l:List (Nat×SV))(i:Nat):Option SV:=@List.rec (Nat×SV) (λ_=>Option SV) none (λp _ ih=>@Bool.rec (λ_=>_) ih (some p.2) (Nat.beq p.1 i)) l
def q3D(l:List (Nat×SV))(i:Nat)(v:SV)(k:List (Nat×SV)→Bool):Bool:=@List.rec (Nat×SV) (λ_=>(List (Nat×SV)→Bool)→Bool) (λk=>k [(i,v)]) (λp r ih k=>@Bool.rec (λ_=>_) (ih (λr'=>k (p::r'))) (k ((i,v)::r)) (Nat.beq p.1 i)) l k
theorem q0g(a b:Nat):Nat.beq a b=decide (a=b):=by
 by_cases h:a=b
 ·subst h;simp[Nat.beq_refl]
 ·rw[decide_eq_false h]
  cases q:Nat.beq a b with
  |false=>rfl
  |true=>exact absurd (Z9 q) h
inductive Tr where
 |nil
 |node (v:Option SO) (l r:Tr)
def Tr.get(t:Tr):Nat→Option SO:=@Tr.rec (λ_=>Nat→Option SO) (λ_=>none) (λv _ _ gl gr i=>@Bool.rec (λ_=>_) (@Bool.rec (λ_=>_) (gr (Nat.sub (Nat.div i 2) 1)) (gl (Nat.div i 2)) (Nat.beq (Nat.mod i 2) 1)) v (Nat.beq i 0)) t
def Tr.openK(t:Tr)(f:Option SO→Tr→Tr→Bool):Bool:=@Tr.rec (λ_=>Bool) (f none .nil .nil) (λv l r _ _=>f v l r) t
def Tr.setN(n:Nat):Tr→Nat→Option SO→(Tr→Bool)→Bool:=@Nat.rec (λ_=>Tr→Nat→Option SO→(Tr→Bool)→Bool) (λ_ _ _ _=>false) (λ_ ih t i o k=>
 t.openK (λv l r=>@Bool.rec (λ_=>_) (@Bool.rec (λ_=>_) (ih r (Nat.sub (Nat.div i 2) 1) o (λr=>k (.node v l r))) (ih l (Nat.div i 2) o (λl=>k (.node v l r))) (Nat.beq (Nat.mod i 2) 1)) (k (.node o l r)) (Nat.beq i 0))) n
def Tr.setK(t:Tr):Nat→Option SO→(Tr→Bool)→Bool:=@Tr.rec (λ_=>Nat→Option SO→(Tr→Bool)→Bool) (λi o k=>Tr.setN 40 .nil i o k) (λv l r il ir i o k=>
 @Bool.rec (λ_=>_) (@Bool.rec (λ_=>_) (ir (Nat.sub (Nat.div i 2) 1) o (λr=>k (.node v l r))) (il (Nat.div i 2) o (λl=>k (.node v l r))) (Nat.beq (Nat.mod i 2) 1)) (k (.node o l r)) (Nat.beq i 0)) t
noncomputable abbrev Lo:=List (Nat×SV)
structure S where
 T:Tr
 n:Nat
 nv:Nat
 kc:Nat
 frs:List (Nat×Lo)
noncomputable def natK(m:Nat)(k:Nat→Bool):Bool:=@Nat.rec (λ_=>Bool) (k 0) (λp _=>k (Nat.succ p)) m
def S.get(σ:S)(k:Nat):Option SO:=@S.rec (λ_=>Option SO) (λT _ _ _ _=>T.get k) σ
def S.putK(σ:S)(k:Nat)(o:SO)(f:S→Bool):Bool:=@S.rec (λ_=>Bool) (λT n nv kc frs=>Tr.setK T k (some o) (λT=>f ⟨T,n,nv,kc,frs⟩)) σ
def S.delK(σ:S)(k:Nat)(f:S→Bool):Bool:=@S.rec (λ_=>Bool) (λT n nv kc frs=>Tr.setK T k none (λT=>f ⟨T,n,nv,kc,frs⟩)) σ
def S.addK(σ:S)(o:SO)(f:Nat→S→Bool):Bool:=@S.rec (λ_=>Bool) (λT n nv kc frs=>Tr.setK T n (some o) (λT=>natK (Nat.add n 1) (λm=>f n ⟨T,m,nv,kc,frs⟩))) σ
def S.varK(σ:S)(f:Nat→S→Bool):Bool:=@S.rec (λ_=>Bool) (λT n nv kc frs=>natK (Nat.add nv 1) (λm=>f nv ⟨T,n,m,kc,frs⟩)) σ
def S.pushK(σ:S)(m:Lo)(f:S→Bool):Bool:=@S.rec (λ_=>Bool) (λT n nv kc frs=>natK (Nat.add n 1) (λn'=>f ⟨T,n',nv,kc,(n,m)::frs⟩)) σ
def S.popK(σ:S)(f:S→Bool):Bool:=@S.rec (λ_=>Bool) (λT n nv kc frs=>@List.rec (Nat×Lo) (λ_=>Bool) false (λ_ r _=>f ⟨T,n,nv,kc,r⟩) frs) σ
def S.loc(σ:S)(i:Nat):Option SV:=@S.rec (λ_=>Option SV) (λ_ _ _ _ frs=>@List.rec (Nat×Lo) (λ_=>Option SV) none (λp _ _=>q0K p.2 i) frs) σ
def S.setLocK(σ:S)(i:Nat)(v:SV)(f:S→Bool):Bool:=@S.rec (λ_=>Bool) (λT n nv kc frs=>@List.rec (Nat×Lo) (λ_=>Bool) false (λp r _=>
 @Prod.rec Nat Lo (λ_=>Bool) (λa m=>q3D m i v (λm=>f ⟨T,n,nv,kc,(a,m)::r⟩)) p) frs) σ
def S.turnK(σ:S)(f:S→Bool):Bool:=@S.rec (λ_=>Bool) (λT n nv kc frs=>natK (Nat.add kc 1) (λkc=>f ⟨T,n,nv,kc,frs⟩)) σ
end
noncomputable abbrev KX:=Nat→S→Bool
noncomputable abbrev KV:=SV→S→Bool
noncomputable abbrev KN:=S→Bool
structure Cls where
 init:Addr
 meths:List (Nat×Addr)
 data:List Nat
 isExc:Bool
inductive TT(α:Type) where
 |nil
 |node (v:Option α) (l r:TT α)
def TT.get{α:Type}(t:TT α):Nat→Option α:=@TT.rec α (λ_=>Nat→Option α) (λ_=>none) (λv _ _ gl gr i=>@Bool.rec (λ_=>_) (@Bool.rec (λ_=>_) (gr (Nat.sub (Nat.div i 2) 1)) (gl (Nat.div i 2)) (Nat.beq (Nat.mod i 2) 1)) v (Nat.beq i 0)) t
structure Tabs where
 cls:TT Cls
 tup:TT (List SV)
 draw:Addr
def Tabs.cl(t:Tabs)(a:Addr):Option Cls:=@Tabs.rec (λ_=>Option Cls) (λc _ _=>c.get a) t
def Tabs.tp(t:Tabs)(a:Addr):Option (List SV):=@Tabs.rec (λ_=>Option (List SV)) (λ_ c _=>c.get a) t
def iEq(a b:Int):Bool:=@Int.rec (λ_=>Bool) (λx=>@Int.rec (λ_=>Bool) (λy=>Nat.beq x y) (λ_=>false) b) (λx=>@Int.rec (λ_=>Bool) (λ_=>false) (λy=>Nat.beq x y) b) a
def iLt(a b:Int):Bool:=@Int.rec (λ_=>Bool) (λx=>@Int.rec (λ_=>Bool) (λy=>Nat.blt x y) (λ_=>false) b) (λx=>@Int.rec (λ_=>Bool) (λ_=>true) (λy=>Nat.blt y x) b) a
def iLe(a b:Int):Bool:=@Int.rec (λ_=>Bool) (λx=>@Int.rec (λ_=>Bool) (λy=>Nat.ble x y) (λ_=>false) b) (λx=>@Int.rec (λ_=>Bool) (λ_=>true) (λy=>Nat.ble y x) b) a
def iAdd(a b:Int):Int:=@Int.rec (λ_=>Int) (λx=>@Int.rec (λ_=>Int) (λy=>.ofNat (Nat.add x y)) (λ_=>a+b) b) (λ_=>a+b) a
def iSub(a b:Int):Int:=@Int.rec (λ_=>Int) (λx=>@Int.rec (λ_=>Int) (λy=>bi (Nat.ble y x) (.ofNat (Nat.sub x y)) (.negSucc (Nat.sub (Nat.sub y x) 1))) (λ_=>a-b) b) (λ_=>a-b) a
def iMul(a b:Int):Int:=@Int.rec (λ_=>Int) (λx=>@Int.rec (λ_=>Int) (λy=>.ofNat (Nat.mul x y)) (λ_=>a*b) b) (λ_=>a*b) a
def q2j(a:Int):Option Nat:=@Int.rec (λ_=>Option Nat) some (λ_=>none) a
def nlEq(x:List Nat):List Nat→Bool:=@List.rec Nat (λ_=>List Nat→Bool) (λy=>@List.rec Nat (λ_=>Bool) true (λ_ _ _=>false) y)
 (λa _ ih y=>@List.rec Nat (λ_=>Bool) false (λb t _=>@Bool.rec (λ_=>_) false (ih t) (Nat.beq a b)) y) x
def len{α:Type}(l:List α):Nat:=@List.rec α (λ_=>Nat) 0 (λ_ _ ih=>Nat.succ ih) l
def nth{α:Type}(l:List α):Nat→Option α:=@List.rec α (λ_=>Nat→Option α) (λ_=>none) (λa _ ih i=>@Bool.rec (λ_=>_) (ih (Nat.sub i 1)) (some a) (Nat.beq i 0)) l
def q0s{α:Type}(l:List α):Bool:=@List.rec α (λ_=>Bool) true (λ_ _ _=>false) l
def not'(b:Bool):Bool:=bi b false true
def notO(b:Option Bool):Option Bool:=oO b (λb=>some (not' b))
def catK{α:Type}(l m:List α):(List α→Bool)→Bool:=@List.rec α (λ_=>(List α→Bool)→Bool) (λk=>k m) (λa _ ih k=>ih (λr=>k (a::r))) l
def q75{α:Type}(l:List α)(b:α):Nat→(List α→Bool)→Bool:=@List.rec α (λ_=>Nat→(List α→Bool)→Bool) (λ_ k=>k []) (λa r ih i k=>bi (Nat.beq i 0) (k (b::r)) (ih (Nat.sub i 1) (λr=>k (a::r)))) l
def q4y{α:Type}(l:List α):Nat→(List α→Bool)→Bool:=@List.rec α (λ_=>Nat→(List α→Bool)→Bool) (λ_ k=>k []) (λa r ih i k=>bi (Nat.beq i 0) (k r) (ih (Nat.sub i 1) (λr=>k (a::r)))) l
def tkK{α:Type}(l:List α):Nat→(List α→Bool)→Bool:=@List.rec α (λ_=>Nat→(List α→Bool)→Bool) (λ_ k=>k []) (λa _ ih i k=>bi (Nat.beq i 0) (k []) (ih (Nat.sub i 1) (λr=>k (a::r)))) l
def drK{α:Type}(l:List α):Nat→(List α→Bool)→Bool:=@List.rec α (λ_=>Nat→(List α→Bool)→Bool) (λ_ k=>k []) (λa r ih i k=>bi (Nat.beq i 0) (k (a::r)) (ih (Nat.sub i 1) k)) l
def revK{α:Type}(l:List α):List α→(List α→Bool)→Bool:=@List.rec α (λ_=>List α→(List α→Bool)→Bool) (λm k=>k m) (λa _ ih m k=>ih (a::m) k) l
def q6Y{α:Type}(l:List α)(n:Nat):(List α→Bool)→Bool:=@Nat.rec (λ_=>(List α→Bool)→Bool) (λk=>k []) (λ_ ih k=>ih (λr=>catK l r k)) n
def alook{α:Type}(l:List (Nat×α))(i:Nat):Option α:=@List.rec (Nat×α) (λ_=>Option α) none (λp _ ih=>@Bool.rec (λ_=>_) ih (some p.2) (Nat.beq p.1 i)) l
def TT.br{α:Type}(r:Nat)(l:List (Nat×α)):List (Nat×α):=@List.rec (Nat×α) (λ_=>List (Nat×α)) [] (λp _ ih=>bi (Nat.beq p.1 0) ih (bi (Nat.beq (Nat.mod p.1 2) r) ((Nat.div (Nat.sub p.1 1) 2,p.2)::ih) ih)) l
def TT.ofL{α:Type}(n:Nat):List (Nat×α)→TT α:=@Nat.rec (λ_=>List (Nat×α)→TT α) (λ_=>.nil) (λ_ ih l=>@List.rec (Nat×α) (λ_=>TT α) .nil (λ_ _ _=>.node (alook l 0) (ih (TT.br 1 l)) (ih (TT.br 0 l))) l) n
def nmem(i:Nat)(l:List Nat):Bool:=@List.rec Nat (λ_=>Bool) false (λj _ ih=>@Bool.rec (λ_=>_) ih true (Nat.beq j i)) l
def iOf(v:SV):Option Int:=@SV.rec (λ_=>Option Int) none (λ_=>none) (λs=>@SI.rec (λ_=>Option Int) some (λ_ _=>none) s) (λ_=>none) (λ_=>none) (λ_=>none) (λ_=>none) (λ_=>none) (λ_=>none) v
def siOf(v:SV):Option SI:=@SV.rec (λ_=>Option SI) none (λ_=>none) some (λ_=>none) (λ_=>none) (λ_=>none) (λ_=>none) (λ_=>none) (λ_=>none) v
def sOf(v:SV):Option (List Nat):=@SV.rec (λ_=>Option (List Nat)) none (λ_=>none) (λ_=>none) some (λ_=>none) (λ_=>none) (λ_=>none) (λ_=>none) (λ_=>none) v
def yOf(v:SV):Option (List SI):=@SV.rec (λ_=>Option (List SI)) none (λ_=>none) (λ_=>none) (λ_=>none) some (λ_=>none) (λ_=>none) (λ_=>none) (λ_=>none) v
def wOf(v:SV):Option Nat:=@SV.rec (λ_=>Option Nat) none (λ_=>none) (λ_=>none) (λ_=>none) (λ_=>none) (λ_=>none) (λ_=>none) (λ_=>none) some v
def bOf(v:SV):Option Bool:=@SV.rec (λ_=>Option Bool) none some (λ_=>none) (λ_=>none) (λ_=>none) (λ_=>none) (λ_=>none) (λ_=>none) (λ_=>none) v
def tyOf(v:SV):Option Nat:=@SV.rec (λ_=>Option Nat) none (λ_=>none) (λ_=>none) (λ_=>none) (λ_=>none) some (λ_=>none) (λ_=>none) (λ_=>none) v
def isNone(v:SV):Bool:=@SV.rec (λ_=>Bool) true (λ_=>false) (λ_=>false) (λ_=>false) (λ_=>false) (λ_=>false) (λ_=>false) (λ_=>false) (λ_=>false) v
def lOf(o:SO):Option (List SV):=@SO.rec (λ_=>Option (List SV)) some (λ_=>none) (λ_=>none) (λ_=>none) (λ_=>none) (λ_ _=>none) (λ_=>none) (λ_ _=>none) (λ_ _=>none) (λ_ _=>none) (λ_ _=>none) (λ_=>none) o
def tOf(o:SO):Option (List SV):=@SO.rec (λ_=>Option (List SV)) (λ_=>none) some (λ_=>none) (λ_=>none) (λ_=>none) (λ_ _=>none) (λ_=>none) (λ_ _=>none) (λ_ _=>none) (λ_ _=>none) (λ_ _=>none) (λ_=>none) o
def dsOf(o:SO):Option (List (List Nat×SV)):=@SO.rec (λ_=>Option (List (List Nat×SV))) (λ_=>none) (λ_=>none) some (λ_=>none) (λ_=>none) (λ_ _=>none) (λ_=>none) (λ_ _=>none) (λ_ _=>none) (λ_ _=>none) (λ_ _=>none) (λ_=>none) o
def diOf(o:SO):Option (List (Int×SV)):=@SO.rec (λ_=>Option (List (Int×SV))) (λ_=>none) (λ_=>none) (λ_=>none) some (λ_=>none) (λ_ _=>none) (λ_=>none) (λ_ _=>none) (λ_ _=>none) (λ_ _=>none) (λ_ _=>none) (λ_=>none) o
def baOf(o:SO):Option (List SI):=@SO.rec (λ_=>Option (List SI)) (λ_=>none) (λ_=>none) (λ_=>none) (λ_=>none) some (λ_ _=>none) (λ_=>none) (λ_ _=>none) (λ_ _=>none) (λ_ _=>none) (λ_ _=>none) (λ_=>none) o
def inOf(o:SO):Option (Addr×List (Nat×SV)):=@SO.rec (λ_=>Option (Addr×List (Nat×SV))) (λ_=>none) (λ_=>none) (λ_=>none) (λ_=>none) (λ_=>none) (λC m=>some (C,m)) (λ_=>none) (λ_ _=>none) (λ_ _=>none) (λ_ _=>none) (λ_ _=>none) (λ_=>none) o
def ceOf(o:SO):Option (Option SV):=@SO.rec (λ_=>Option (Option SV)) (λ_=>none) (λ_=>none) (λ_=>none) (λ_=>none) (λ_=>none) (λ_ _=>none) some (λ_ _=>none) (λ_ _=>none) (λ_ _=>none) (λ_ _=>none) (λ_=>none) o
def fnOf(o:SO):Option (Nat×List (Nat×Nat)):=@SO.rec (λ_=>Option (Nat×List (Nat×Nat))) (λ_=>none) (λ_=>none) (λ_=>none) (λ_=>none) (λ_=>none) (λ_ _=>none) (λ_=>none) (λi c=>some (i,c)) (λ_ _=>none) (λ_ _=>none) (λ_ _=>none) (λ_=>none) o
def exOf(o:SO):Option Addr:=@SO.rec (λ_=>Option Addr) (λ_=>none) (λ_=>none) (λ_=>none) (λ_=>none) (λ_=>none) (λ_ _=>none) (λ_=>none) (λ_ _=>none) (λC _=>some C) (λ_ _=>none) (λ_ _=>none) (λ_=>none) o
def peOf(o:SO):Option (Nat×List (Nat×Nat)):=@SO.rec (λ_=>Option (Nat×List (Nat×Nat))) (λ_=>none) (λ_=>none) (λ_=>none) (λ_=>none) (λ_=>none) (λ_ _=>none) (λ_=>none) (λ_ _=>none) (λ_ _=>none) (λb f=>some (b,f)) (λ_ _=>none) (λ_=>none) o
def rgOf(o:SO):Option (Int×Int):=@SO.rec (λ_=>Option (Int×Int)) (λ_=>none) (λ_=>none) (λ_=>none) (λ_=>none) (λ_=>none) (λ_ _=>none) (λ_=>none) (λ_ _=>none) (λ_ _=>none) (λ_ _=>none) (λa b=>some (a,b)) (λ_=>none) o
def xdOf(o:SO):Option Nat:=@SO.rec (λ_=>Option Nat) (λ_=>none) (λ_=>none) (λ_=>none) (λ_=>none) (λ_=>none) (λ_ _=>none) (λ_=>none) (λ_ _=>none) (λ_ _=>none) (λ_ _=>none) (λ_ _=>none) some o
def edOf(o:SO):Option (Addr×Option Nat):=@SO.rec (λ_=>Option (Addr×Option Nat)) (λ_=>none) (λ_=>none) (λ_=>none) (λ_=>none) (λ_=>none) (λ_ _=>none) (λ_=>none) (λ_ _=>none) (λC d=>some (C,d)) (λ_ _=>none) (λ_ _=>none) (λ_=>none) o
def obj(σ:S)(v:SV):Option SO:=oO (wOf v) (λk=>σ.get k)
def ats{α:Type}(σ:S)(v:SV)(f:SO→Option α):Option α:=oO (obj σ v) f
def small{α:Type}(l:List α):Bool:=Nat.ble (len l) 4096
def S.addLK(σ:S)(l:List SV)(f:Nat→S→Bool):Bool:=bi (small l) (σ.addK (.list l) f) false
def S.addTK(σ:S)(l:List SV)(f:Nat→S→Bool):Bool:=bi (small l) (σ.addK (.tuple l) f) false
def S.putLK(σ:S)(k:Nat)(l:List SV)(f:S→Bool):Bool:=bi (small l) (σ.putK k (.list l) f) false
def S.putSK(σ:S)(k:Nat)(l:List (List Nat×SV))(f:S→Bool):Bool:=bi (small l) (σ.turnK (λσ=>σ.putK k (.dictS l) f)) false
def S.putIK(σ:S)(k:Nat)(l:List (Int×SV))(f:S→Bool):Bool:=bi (small l) (σ.turnK (λσ=>σ.putK k (.dictI l) f)) false
noncomputable def big:Nat:=1152921504606846976
def iOk(i:Int):Bool:=@Int.rec (λ_=>Bool) (λn=>Nat.ble n big) (λn=>Nat.blt n big) i
def q5P(k:KV)(σ:S)(i:Int):Bool:=bi (iOk i) (k (.int (.lit i)) σ) false
def q6z(k:KV)(σ:S)(b:List SI):Bool:=bi (small b) (k (.bytes b) σ) false
def qgn(k:KV)(σ:S)(s:List Nat):Bool:=bi (small s) (k (.str s) σ) false
section
variable(tb:Tabs)
def SI.same(a b:SI):Option Bool:=@SI.rec (λ_=>Option Bool) (λx=>@SI.rec (λ_=>Option Bool) (λy=>some (iEq x y)) (λ_ _=>none) b)
 (λk c=>@SI.rec (λ_=>Option Bool) (λ_=>none) (λl d=>bi (Nat.beq k l) (some (iEq c d)) none) b) a
def q0C(σ:S)(v:SV):Option (List SV):=@SV.rec (λ_=>Option (List SV)) none (λ_=>none) (λ_=>none) (λ_=>none) (λ_=>none) (λ_=>none) (λ_=>none) (λa=>tb.tp a) (λk=>oO (σ.get k) tOf) v
def q0N(σ:S)(v:SV):Option (List SV):=ats σ v lOf
def q2l(x:List SI):List SI→Option Bool:=@List.rec SI (λ_=>List SI→Option Bool) (λy=>some (q0s y))
 (λa _ ih y=>@List.rec SI (λ_=>Option Bool) (some false) (λb t _=>oO (a.same b) (λe=>bi e (ih t) (some false))) y) x
def eqL(f:SV→SV→Option Bool)(x:List SV):List SV→Option Bool:=@List.rec SV (λ_=>List SV→Option Bool) (λy=>bi (q0s y) (some true) none)
 (λa _ ih y=>@List.rec SV (λ_=>Option Bool) none (λb t _=>oO (f a b) (λe=>oO (ih t) (λr=>some (bi e r false)))) y) x
def qhn(ih:SV→SV→Option Bool)(x y:List SV):Option Bool:=bi (Nat.beq (len x) (len y)) (eqL ih x y) (some false)
def eqZ(f:SV→SV→Option Bool)(x:List SV):List SV→Option Bool:=@List.rec SV (λ_=>List SV→Option Bool) (λ_=>some true)
 (λa _ ih y=>@List.rec SV (λ_=>Option Bool) (some true) (λb t _=>oO (f a b) (λe=>oO (ih t) (λr=>some (bi e r false)))) y) x
def qcv(ih:SV→SV→Option Bool)(x y:List SV):Option Bool:=oO (eqZ ih x y) (λr=>some (bi (Nat.beq (len x) (len y)) r false))
def qbG(σ:S)(ih:SV→SV→Option Bool)(a b:SV):Option Bool:=oO (q0C tb σ a) (λx=>oE (q0C tb σ b) (oO (sOf b) (λ_=>some false)) (λy=>qcv ih x y))
def qbH(σ:S)(ih:SV→SV→Option Bool)(a b:SV):Option Bool:=oE (q0N σ a) (qbG tb σ ih a b) (λx=>oO (q0N σ b) (λy=>qhn ih x y))
def eqS(σ:S)(n:Nat):SV→SV→Option Bool:=@Nat.rec (λ_=>SV→SV→Option Bool) (λ_ _=>none) (λ_ ih a b=>
 @SV.rec (λ_=>Option Bool)
  (bi (isNone b) (some true) none)
  (λx=>oO (bOf b) (λy=>some (bi x y (not' y))))
  (λx=>oO (siOf b) (λy=>x.same y))
  (λx=>oE (sOf b) (oO (q0C tb σ b) (λ_=>some false)) (λy=>some (nlEq x y)))
  (λx=>oO (yOf b) (λy=>bi (Nat.beq (len x) (len y)) (q2l x y) (some false)))
  (λ_=>none) (λ_=>none)
  (λ_=>qbG tb σ ih a b)
  (λ_=>qbH tb σ ih a b) a) n
def q48(s:SI):Option Int:=@SI.rec (λ_=>Option Int) some (λ_ _=>none) s
def q41(e:Bool)(x:List SI):List SI→Option Bool:=@List.rec SI (λ_=>List SI→Option Bool) (λy=>some (bi (q0s y) e true))
 (λa _ ih y=>@List.rec SI (λ_=>Option Bool) (some false) (λb t _=>oO (q48 a) (λi=>oO (q48 b) (λj=>bi (iEq i j) (ih t) (some (iLt i j))))) y) x
def ltL(f g:SV→SV→Option Bool)(x:List SV):List SV→Option Bool:=@List.rec SV (λ_=>List SV→Option Bool) (λy=>some (not' (q0s y)))
 (λa _ ih y=>@List.rec SV (λ_=>Option Bool) (some false) (λb t _=>oO (f a b) (λe=>bi e (ih t) (g a b))) y) x
def lt1(a b:SV):Option Bool:=oE (iOf a) (oO (yOf a) (λx=>oO (yOf b) (λy=>q41 false x y))) (λx=>oO (iOf b) (λy=>some (iLt x y)))
def ltS(σ:S)(a b:SV):Option Bool:=oE (lt1 a b) (oO (q0C tb σ a) (λx=>oO (q0C tb σ b) (λy=>ltL (eqS tb σ 2) lt1 x y))) some
def bAdd(σ:S)(a b:SV)(k:KV):Bool:=@SV.rec (λ_=>Bool) false (λ_=>false)
 (λs=>@SI.rec (λ_=>Bool) (λx=>oB (siOf b) (λt=>@SI.rec (λ_=>Bool) (λy=>q5P k σ (iAdd x y)) (λj c=>bi (iOk (iAdd x c)) (k (.int (.var j (iAdd x c))) σ) false) t)) (λ_ _=>false) s)
 (λx=>oB (sOf b) (λy=>catK x y (λz=>qgn k σ z)))
 (λx=>oB (yOf b) (λy=>catK x y (λz=>q6z k σ z)))
 (λ_=>false) (λ_=>false)
 (λ_=>oB (q0C tb σ a) (λx=>oB (q0C tb σ b) (λy=>bi (q0s x) false (bi (q0s y) false (catK x y (λz=>σ.addTK z (λn σ=>k (.own n) σ)))))))
 (λ_=>oE (q0N σ a) (oB (q0C tb σ a) (λx=>oB (q0C tb σ b) (λy=>bi (q0s x) false (bi (q0s y) false (catK x y (λz=>σ.addTK z (λn σ=>k (.own n) σ)))))))
  (λx=>oB (q0N σ b) (λy=>catK x y (λz=>σ.addLK z (λn σ=>k (.own n) σ))))) a
def bSub(σ:S)(a b:SV)(k:KV):Bool:=oB (iOf a) (λx=>oB (iOf b) (λy=>q5P k σ (iSub x y)))
def bMul(σ:S)(a b:SV)(k:KV):Bool:=oB (iOf b) (λy=>oE (iOf a)
 (oE (yOf a) (oB (q0N σ a) (λx=>oB (q2j y) (λn=>bi (Nat.ble n 100) (q6Y x n (λz=>σ.addLK z (λn σ=>k (.own n) σ))) false)))
  (λx=>bi (q0s x) false (bi (Nat.ble (len x) 16) (oE (q2j y) (bi (iLe (-1000) y) (k (.bytes []) σ) false) (λn=>bi (Nat.ble n 100) (q6Y x n (λz=>q6z k σ z)) false)) false)))
 (λx=>q5P k σ (iMul x y)))
def nOf(v:SV):Option Nat:=oO (iOf v) q2j
def bDiv(σ:S)(a b:SV)(k:KV):Bool:=oB (nOf a) (λx=>oB (nOf b) (λy=>bi (Nat.beq y 0) false (natK (Nat.div x y) (λz=>k (.int (.lit (.ofNat z))) σ))))
def bMod(σ:S)(a b:SV)(k:KV):Bool:=oB (nOf a) (λx=>oB (nOf b) (λy=>bi (Nat.beq y 0) false (natK (Nat.mod x y) (λz=>k (.int (.lit (.ofNat z))) σ))))
def bPow(σ:S)(a b:SV)(k:KV):Bool:=oB (nOf a) (λx=>oB (nOf b) (λy=>bi (Nat.ble x 100) (bi (Nat.ble y 10) (q5P k σ (.ofNat (Nat.pow x y))) false) false))
def isS(σ:S)(a b:SV):Option Bool:=oE (wOf b) (bi (isNone b) (some (isNone a)) none) (λj=>oO (wOf a) (λi=>bi (Nat.beq i j) (some true) (oO (σ.get i) (λo=>oO (inOf o) (λ_=>oO (σ.get j) (λ_=>some false))))))
def q5M(σ:S)(x:SV)(l:List SV):Option Bool:=@List.rec SV (λ_=>Option Bool) (some false) (λy _ ih=>oO (eqS tb σ 4 y x) (λe=>oO ih (λr=>some (bi e true r)))) l
def keyS(x:List Nat)(l:List (List Nat×SV)):Option SV:=@List.rec (List Nat×SV) (λ_=>Option SV) none (λp _ ih=>bi (nlEq p.1 x) (some p.2) ih) l
def keyI(x:Int)(l:List (Int×SV)):Option SV:=@List.rec (Int×SV) (λ_=>Option SV) none (λp _ ih=>bi (iEq p.1 x) (some p.2) ih) l
def isSome{α:Type}(o:Option α):Bool:=oE o false (λ_=>true)
def contains(σ:S)(x c:SV):Option Bool:=oE (q0C tb σ c) (oE (q0N σ c) (oE (ats σ c dsOf)
  (oO (ats σ c diOf) (λes=>oO (iOf x) (λi=>some (isSome (keyI i es)))))
  (λes=>oE (sOf x) (bi (q0s es) (oO (iOf x) (λ_=>some false)) none) (λs=>some (isSome (keyS s es)))))
 (λl=>q5M tb σ x l)) (λl=>q5M tb σ x l)
def qEq(σ:S)(a b:SV):Option Bool:=oE (ats σ a dsOf) (eqS tb σ 7 a b) (λx=>oO (ats σ b dsOf) (λy=>bi (q0s x) (bi (q0s y) (some true) none) none))
def qNe(σ:S)(a b:SV):Option Bool:=notO (eqS tb σ 7 a b)
def qLt(_:S)(a b:SV):Option Bool:=oO (iOf a) (λx=>oO (iOf b) (λy=>some (iLt x y)))
def gt1(a b:SV):Option Bool:=oE (iOf a) (oO (yOf a) (λx=>oO (yOf b) (λy=>q41 false y x))) (λx=>oO (iOf b) (λy=>some (iLt y x)))
def gtL(f g:SV→SV→Option Bool)(x:List SV):List SV→Option Bool:=@List.rec SV (λ_=>List SV→Option Bool) (λ_=>some false)
 (λa _ ih y=>@List.rec SV (λ_=>Option Bool) (some true) (λb t _=>oO (f a b) (λe=>bi e (ih t) (g a b))) y) x
def qGt(σ:S)(a b:SV):Option Bool:=oE (iOf a) (oO (q0C tb σ a) (λx=>oO (q0C tb σ b) (λy=>gtL (eqS tb σ 2) gt1 x y))) (λx=>oO (iOf b) (λy=>some (iLt y x)))
def qLe(_:S)(a b:SV):Option Bool:=oE (iOf a) (oO (yOf a) (λx=>oO (yOf b) (λy=>q41 true x y))) (λx=>oO (iOf b) (λy=>some (iLe x y)))
def qGe(_:S)(a b:SV):Option Bool:=oO (iOf a) (λx=>oO (iOf b) (λy=>some (iLe y x)))
def qIs(σ:S)(a b:SV):Option Bool:=isS σ a b
def qNis(σ:S)(a b:SV):Option Bool:=notO (isS σ a b)
def qIn(σ:S)(a b:SV):Option Bool:=contains tb σ a b
def qNin(σ:S)(a b:SV):Option Bool:=notO (contains tb σ a b)
def qex(o:SO):Option Bool:=@SO.rec (λ_=>Option Bool) (λl=>some (not' (q0s l))) (λl=>some (not' (q0s l))) (λl=>some (not' (q0s l))) (λl=>some (not' (q0s l))) (λ_=>none) (λ_ _=>none) (λ_=>none) (λ_ _=>none) (λ_ _=>none) (λ_ _=>none) (λ_ _=>none) (λ_=>none) o
def tru(σ:S)(v:SV):Option Bool:=@SV.rec (λ_=>Option Bool) (some false) some (λi=>oO (q48 i) (λi=>some (not' (iEq i 0)))) (λs=>some (not' (q0s s))) (λs=>some (not' (q0s s))) (λ_=>none) (λ_=>none) (λ_=>none) (λk=>oO (σ.get k) qex) v
def idx(n:Nat)(i:Int):Option Nat:=@Int.rec (λ_=>Option Nat) (λi=>bi (Nat.blt i n) (some i) none) (λi=>bi (Nat.blt i n) (some (Nat.sub (Nat.sub n i) 1)) none) i
def q8k(n d:Nat)(v:SV):Option Nat:=bi (isNone v) (some d) (oO (iOf v) (λi=>@Int.rec (λ_=>Option Nat) (λi=>some (bi (Nat.ble i n) i n)) (λi=>some (bi (Nat.blt i n) (Nat.sub (Nat.sub n i) 1) 0)) i))
def cutK{α:Type}(xs:List α)(l u:SV)(k:List α→Bool):Bool:=oB (q8k (len xs) 0 l) (λa=>oB (q8k (len xs) (len xs) u) (λb=>tkK xs b (λys=>drK ys a k)))
def nthI{α:Type}(l:List α)(i:SV):Option α:=oO (iOf i) (λi=>oO (idx (len l) i) (λk=>nth l k))
def q9L(o:SO)(i:SV):Option SV:=@SO.rec (λ_=>Option SV) (λl=>nthI l i) (λl=>nthI l i) (λes=>oO (sOf i) (λs=>keyS s es)) (λes=>oO (iOf i) (λi=>keyI i es)) (λ_=>none) (λ_ _=>none) (λ_=>none) (λ_ _=>none) (λ_ _=>none) (λ_ _=>none) (λ_ _=>none) (λ_=>none) o
def item(σ:S)(o i:SV):Option SV:=@SV.rec (λ_=>Option SV) none (λ_=>none) (λ_=>none) (λs=>oO (nthI s i) (λx=>some (.str [x]))) (λb=>oO (nthI b i) (λx=>some (.int x))) (λ_=>none) (λ_=>none)
 (λa=>oO (tb.tp a) (λl=>nthI l i)) (λk=>oO (σ.get k) (λo=>q9L o i)) o
def slice(σ:S)(o l u:SV)(k:KV):Bool:=oE (yOf o) (oE (sOf o) (oE (q0N σ o) (oB (ats σ o baOf) (λb=>cutK b l u (λz=>σ.addK (.barr z) (λn σ=>k (.own n) σ))))
  (λx=>cutK x l u (λz=>σ.addLK z (λn σ=>k (.own n) σ)))) (λx=>cutK x l u (λz=>k (.str z) σ))) (λx=>cutK x l u (λz=>k (.bytes z) σ))
def revd(σ:S)(o:SV)(k:KV):Bool:=oB (q0N σ o) (λl=>revK l [] (λl=>σ.addLK l (λn σ=>k (.own n) σ)))
def putSK(x:List Nat)(v:SV)(l:List (List Nat×SV)):(List (List Nat×SV)→Bool)→Bool:=@List.rec (List Nat×SV) (λ_=>(List (List Nat×SV)→Bool)→Bool) (λk=>k [(x,v)])
 (λp r ih k=>bi (nlEq p.1 x) (k ((x,v)::r)) (ih (λr=>k (p::r)))) l
def putIK(x:Int)(v:SV)(l:List (Int×SV)):(List (Int×SV)→Bool)→Bool:=@List.rec (Int×SV) (λ_=>(List (Int×SV)→Bool)→Bool) (λk=>k [(x,v)])
 (λp r ih k=>bi (iEq p.1 x) (k ((x,v)::r)) (ih (λr=>k (p::r)))) l
def qf8(σ:S)(j:Nat)(i v:SV)(f:KN)(o:SO):Bool:=@SO.rec (λ_=>Bool)
 (λl=>oB (iOf i) (λi=>oB (q2j i) (λn=>bi (Nat.blt n (len l)) (q75 l v n (λl=>σ.putLK j l f)) false)))
 (λ_=>false)
 (λes=>oE (sOf i) (bi (q0s es) (oB (iOf i) (λi=>σ.putIK j [(i,v)] f)) false) (λs=>putSK s v es (λes=>σ.putSK j es f)))
 (λes=>oB (iOf i) (λi=>putIK i v es (λes=>σ.putIK j es f)))
 (λ_=>false) (λ_ _=>false) (λ_=>false) (λ_ _=>false) (λ_ _=>false) (λ_ _=>false) (λ_ _=>false) (λ_=>false) o
def setItem(σ:S)(o i v:SV)(f:KN):Bool:=oB (wOf o) (λj=>oB (σ.get j) (qf8 σ j i v f))
def q74(σ:S)(o l u v:SV)(f:KN):Bool:=oB (wOf o) (λj=>oB (oO (σ.get j) baOf) (λb=>oB (yOf v) (λw=>oB (q8k (len b) 0 l) (λp=>oB (q8k (len b) (len b) u) (λq=>
 bi (Nat.ble p q) (bi (Nat.beq (Nat.sub q p) (len w)) (tkK b p (λx=>drK b q (λz=>catK w z (λz=>catK x z (λz=>σ.putK j (.barr z) f))))) false) false)))))
def qcz(s:SI):Bool:=@SI.rec (λ_=>Bool) (λi=>oE (q2j i) false (λn=>Nat.blt n 256)) (λ_ c=>oE (q2j c) false (λn=>Nat.ble (Nat.add n 20) 256)) s
def qbx(l:List SV):(List SI→Bool)→Bool:=@List.rec SV (λ_=>(List SI→Bool)→Bool) (λk=>k []) (λv _ ih k=>oB (siOf v) (λi=>bi (qcz i) (ih (λr=>k (i::r))) false)) l
def qaf(σ:S)(v:SV)(k:KV):Bool:=oE (yOf v) (oE (ats σ v baOf) (oB (q0N σ v) (λl=>qbx l (λb=>k (.bytes b) σ))) (λb=>k (.bytes b) σ)) (λb=>k (.bytes b) σ)
def rlen(a b:Int):Nat:=@Int.rec (λ_=>Nat) (λn=>n) (λ_=>0) (iSub b a)
def mapL{α β:Type}(f:α→β)(l:List α):List β:=@List.rec α (λ_=>List β) [] (λa _ ih=>f a::ih) l
def q5I(o:SO):Option (List SV):=oE (dsOf o) (oO (diOf o) (λes=>some (mapL (λp=>.int (.lit p.1)) es))) (λes=>some (mapL (λp=>.str p.1) es))
def runT{α:Type}(lt:Nat→Nat→Option Bool)(t:PySem.W.KasT α):Option α:=@PySem.W.KasT.rec α (λ_=>Option α) (λa=>some a) (λi j _ ih=>oO (lt i j) (λb=>ih b)) t
def allI(l:List SV):Bool:=@List.rec SV (λ_=>Bool) true (λv _ ih=>oE (iOf v) false (λ_=>ih)) l
def allT(σ:S)(l:List SV):Bool:=@List.rec SV (λ_=>Bool) true (λv _ ih=>oE (oO (q0C tb σ v) (λx=>oO (nth x 0) yOf)) false (λ_=>ih)) l
def qdo(l:List SV)(p:List Nat):(List SV→Bool)→Bool:=@List.rec Nat (λ_=>(List SV→Bool)→Bool) (λk=>k []) (λi _ ih k=>oB (nth l i) (λv=>ih (λr=>k (v::r)))) p
def ltAt(σ:S)(l:List SV)(i j:Nat):Option Bool:=oO (nth l i) (λx=>oO (nth l j) (λy=>ltS tb σ x y))
def maxS(l:List SV):Int→Option Int:=@List.rec SV (λ_=>Int→Option Int) some (λv _ ih m=>oO (iOf v) (λi=>ih (bi (iLt m i) i m))) l
def q52(c k:Nat)(o:SO):Option It:=@SO.rec (λ_=>Option It) (λ_=>some (.lst k 0)) (λ_=>some (.tup (.own k) 0)) (λes=>some (.dct k 0 (len es) c)) (λes=>some (.dct k 0 (len es) c)) (λ_=>none) (λ_ _=>none) (λ_=>none) (λ_ _=>none) (λ_ _=>none) (λ_ _=>none) (λa b=>some (.rng a (rlen a b))) (λ_=>none) o
def q7s(σ:S)(v:SV):Option It:=@SV.rec (λ_=>Option It) none (λ_=>none) (λ_=>none) (λ_=>none) (λb=>some (.byt b 0)) (λ_=>none) (λ_=>none) (λa=>oO (tb.tp a) (λ_=>some (.tup (.old a) 0))) (λk=>oO (σ.get k) (q52 σ.kc k)) v
noncomputable abbrev KI:=SV→It→S→Bool
def nxAt{α:Type}(l:List α)(i:Nat)(e:Bool)(k:α→Bool):Bool:=oE (nth l i) e k
def q5E(σ:S)(it:It)(e:Bool)(k:KI):Bool:=@It.rec (λ_=>Bool)
 (λj i=>oB (oO (σ.get j) lOf) (λl=>nxAt l i e (λv=>k v (.lst j (Nat.add i 1)) σ)))
 (λu i=>oB (q0C tb σ u) (λl=>nxAt l i e (λv=>k v (.tup u (Nat.add i 1)) σ)))
 (λa n=>@Nat.rec (λ_=>Bool) e (λn _=>k (.int (.lit a)) (.rng (iAdd a 1) n) σ) n)
 (λj i m c=>bi (Nat.beq c σ.kc) (oB (oO (σ.get j) q5I) (λl=>bi (Nat.beq (len l) m) (nxAt l i e (λv=>k v (.dct j (Nat.add i 1) m c) σ)) false)) false)
 (λn j i=>oB (oO (σ.get j) lOf) (λl=>nxAt l i e (λv=>σ.addTK [.int (.lit (.ofNat n)),v] (λt σ=>k (.own t) (.enu (Nat.add n 1) j (Nat.add i 1)) σ))))
 (λl i=>nxAt l i e (λv=>k (.int v) (.byt l (Nat.add i 1)) σ)) it
def qcj(o:SO):Option Nat:=@SO.rec (λ_=>Option Nat) (λl=>some (len l)) (λl=>some (len l)) (λl=>some (len l)) (λl=>some (len l)) (λl=>some (len l)) (λ_ _=>none) (λ_=>none) (λ_ _=>none) (λ_ _=>none) (λ_ _=>none) (λ_ _=>none) (λ_=>none) o
def lenS(σ:S)(v:SV):Option Nat:=@SV.rec (λ_=>Option Nat) none (λ_=>none) (λ_=>none) (λl=>some (len l)) (λl=>some (len l)) (λ_=>none) (λ_=>none) (λa=>oO (tb.tp a) (λl=>some (len l))) (λk=>oO (σ.get k) qcj) v
def absI(i:Int):Int:=@Int.rec (λ_=>Int) (λn=>.ofNat n) (λn=>.ofNat (Nat.add n 1)) i
def sorted(σ:S)(k:KV)(l:List SV):Bool:=bi (Nat.blt (len l) 60) (bi (Nat.blt (len l) 2) (σ.addLK l (λn σ=>k (.own n) σ))
 (bi (bi (allI l) true (allT tb σ l)) (oB (runT (ltAt tb σ l) (PySem.W.kas_sort (len l))) (λp=>qdo l p.toList (λl=>σ.addLK l (λn σ=>k (.own n) σ)))) false)) false
def qhu(σ:S)(id:Nat)(a:SV)(k:KV):Bool:=
 bi (Nat.beq id 0) (oB (lenS tb σ a) (λn=>natK n (λn=>k (.int (.lit (.ofNat n))) σ)))
 (bi (Nat.beq id 1) (oB (iOf a) (λi=>k (.int (.lit (absI i))) σ))
 (bi (Nat.beq id 2) (oE (q0N σ a) (oB (ats σ a q5I) (sorted tb σ k)) (sorted tb σ k))
 (bi (Nat.beq id 3) (oB (q0N σ a) (λl=>@List.rec SV (λ_=>Bool) false (λv r _=>oB (iOf v) (λi=>oB (maxS r i) (λm=>k (.int (.lit m)) σ))) l)) false)))
def qht(σ:S)(id:Nat)(a b:SV)(k:KV):Bool:=
 bi (Nat.beq id 3) (oB (iOf a) (λx=>oB (iOf b) (λy=>k (.int (.lit (bi (iLt x y) y x))) σ)))
 (bi (Nat.beq id 5) (oB (tyOf b) (λt=>bi (Nat.beq t 8) (oE (sOf a) (oB (ats σ a tOf) (λ_=>k (.bool false) σ)) (λ_=>k (.bool true) σ)) false)) false)
def args(as:List SV)(f:SV→Bool)(g:SV→SV→Bool):Bool:=@List.rec SV (λ_=>Bool) false (λa r _=>@List.rec SV (λ_=>Bool) (f a) (λb q _=>@List.rec SV (λ_=>Bool) (g a b) (λ_ _ _=>false) q) r) as
def bfun(σ:S)(id:Nat)(as:List SV)(k:KV):Bool:=args as (λa=>qhu tb σ id a k) (λa b=>qht σ id a b k)
def qhs(σ:S)(id:Nat)(a:SV)(k:KV):Bool:=
 bi (Nat.beq id 0) (qaf σ a k)
 (bi (Nat.beq id 1) (oB (iOf a) (λi=>σ.addK (.rng 0 i) (λn σ=>k (.own n) σ)))
 (bi (Nat.beq id 2) (oB (q0N σ a) (λl=>σ.addTK l (λn σ=>k (.own n) σ)))
 (bi (Nat.beq id 3) (oE (q0N σ a) (oB (q0C tb σ a) (λl=>σ.addLK l (λn σ=>k (.own n) σ))) (λl=>σ.addLK l (λn σ=>k (.own n) σ)))
 (bi (Nat.beq id 4) (oB (yOf a) (λb=>σ.addK (.barr b) (λn σ=>k (.own n) σ))) false))))
def qhr(σ:S)(id:Nat)(a b:SV)(k:KV):Bool:=
 bi (Nat.beq id 1) (oB (iOf a) (λx=>oB (iOf b) (λy=>σ.addK (.rng x y) (λn σ=>k (.own n) σ)))) false
def btyp(σ:S)(id:Nat)(as:List SV)(k:KV):Bool:=args as (λa=>qhs tb σ id a k) (λa b=>qhr σ id a b k)
def nsOf(l:List SV):Option (List Int):=@List.rec SV (λ_=>Option (List Int)) (some []) (λv _ ih=>oO (iOf v) (λa=>oO ih (λr=>some (a::r)))) l
def posI(x:Int)(l:List Int):Nat→Option Nat:=@List.rec Int (λ_=>Nat→Option Nat) (λ_=>none) (λa _ ih i=>bi (iEq a x) (some i) (ih (Nat.add i 1))) l
def qge(l:List SV):(List SI→Bool)→Bool:=@List.rec SV (λ_=>(List SI→Bool)→Bool) (λk=>k []) (λv _ ih k=>oB (yOf v) (λb=>ih (λr=>catK b r k))) l
def q7D(x:Int)(l:List (Int×SV)):(List (Int×SV)→Bool)→Bool:=@List.rec (Int×SV) (λ_=>(List (Int×SV)→Bool)→Bool) (λk=>k []) (λp r ih k=>bi (iEq p.1 x) (k r) (ih (λr=>k (p::r)))) l
def dig(c:Nat):Bool:=bi (Nat.ble 48 c) (Nat.blt c 58) false
def qaq(l:List Nat):(List SI→Bool)→Bool:=@List.rec Nat (λ_=>(List SI→Bool)→Bool) (λk=>k []) (λc _ ih k=>bi (dig c) (ih (λr=>k (.lit (.ofNat c)::r))) false) l
def qap(l:List SI):(List Nat→Bool)→Bool:=@List.rec SI (λ_=>(List Nat→Bool)→Bool) (λk=>k []) (λi _ ih k=>oB (oO (q48 i) q2j) (λc=>bi (dig c) (ih (λr=>k (c::r))) false)) l
noncomputable def q1Z:List Nat:=[97,115,99,105,105]
def arg0(as:List SV)(b:Bool):Bool:=@List.rec SV (λ_=>Bool) b (λ_ _ _=>false) as
def arg1(as:List SV)(f:SV→Bool):Bool:=args as f (λ_ _=>false)
def arg2(as:List SV)(g:SV→SV→Bool):Bool:=args as (λ_=>false) g
def qfW(σ:S)(j:Nat)(m:Nat)(as:List SV)(k:KV)(l:List SV):Bool:=
 bi (Nat.beq m 0) (arg1 as (λv=>catK l [v] (λl=>σ.putLK j l (λσ=>k .none σ))))
 (bi (Nat.beq m 1) (arg1 as (λv=>oB (wOf v) (λi=>bi (Nat.beq i j) false (oB (oO (σ.get i) lOf) (λr=>catK l r (λl=>σ.putLK j l (λσ=>k .none σ)))))))
 (bi (Nat.beq m 2) (@List.rec SV (λ_=>Bool) (oB (nth l (Nat.sub (len l) 1)) (λv=>q4y l (Nat.sub (len l) 1) (λl=>σ.putLK j l (λσ=>k v σ))))
  (λi _ _=>arg1 as (λ_=>oB (iOf i) (λi=>oB (idx (len l) i) (λn=>oB (nth l n) (λv=>q4y l n (λl=>σ.putLK j l (λσ=>k v σ))))))) as)
 (bi (Nat.beq m 3) (arg1 as (λv=>oB (iOf v) (λx=>oB (nsOf l) (λns=>oB (posI x ns 0) (λn=>k (.int (.lit (.ofNat n))) σ)))))
 (bi (Nat.beq m 4) (arg0 as (σ.putLK j [] (λσ=>k .none σ))) false))))
def qcg(σ:S)(j:Nat)(m:Nat)(as:List SV)(k:KV)(es:List (List Nat×SV)):Bool:=
 bi (Nat.beq m 5) (arg2 as (λs d=>oB (sOf s) (λs=>oE (keyS s es) (k d σ) (λv=>k v σ))))
 (bi (Nat.beq m 4) (arg0 as (σ.putSK j [] (λσ=>k .none σ))) false)
def qch(σ:S)(j:Nat)(m:Nat)(as:List SV)(k:KV)(es:List (Int×SV)):Bool:=
 bi (Nat.beq m 2) (arg1 as (λi=>oB (iOf i) (λi=>oB (keyI i es) (λv=>q7D i es (λes=>σ.putIK j es (λσ=>k v σ))))))
 (bi (Nat.beq m 4) (arg0 as (σ.putIK j [] (λσ=>k .none σ))) false)
def mObj(σ:S)(j:Nat)(m:Nat)(as:List SV)(k:KV)(o:SO):Bool:=@SO.rec (λ_=>Bool) (qfW σ j m as k) (λ_=>false) (qcg σ j m as k) (qch σ j m as k) (λ_=>false) (λ_ _=>false) (λ_=>false) (λ_ _=>false) (λ_ _=>false) (λ_ _=>false) (λ_ _=>false) (λ_=>false) o
def mStr(σ:S)(m:Nat)(as:List SV)(k:KV)(s:List Nat):Bool:=bi (Nat.beq m 6) (arg1 as (λe=>oB (sOf e) (λe=>bi (nlEq e q1Z) (bi (Nat.beq (len s) 2) (qaq s (λb=>k (.bytes b) σ)) false) false))) false
def qfY(σ:S)(m:Nat)(as:List SV)(k:KV)(b:List SI):Bool:=
 bi (Nat.beq m 7) (arg1 as (λe=>oB (sOf e) (λe=>bi (nlEq e q1Z) (bi (Nat.beq (len b) 2) (qap b (λs=>k (.str s) σ)) false) false)))
 (bi (Nat.beq m 8) (bi (q0s b) (arg1 as (λv=>oB (q0N σ v) (λl=>bi (Nat.beq (len l) 2) (qge l (λb=>q6z k σ b)) false))) false) false)
def meth(σ:S)(o:SV)(m:Nat)(as:List SV)(k:KV):Bool:=@SV.rec (λ_=>Bool) false (λ_=>false) (λ_=>false) (mStr σ m as k) (qfY σ m as k) (λ_=>false) (λ_=>false) (λ_=>false) (λj=>oB (σ.get j) (mObj σ j m as k)) o
def qcp(σ:S)(o:SV):Option (Addr×Lo):=ats σ o inOf
def qcB(σ:S)(o:SV)(i:Nat):Option SV:=oO (qcp σ o) (λp=>@Prod.rec Addr Lo (λ_=>Option SV) (λC m=>oO (tb.cl C) (λc=>bi (nmem i c.data) (q0K m i) none)) p)
def qcb(σ:S)(j i:Nat)(f:KN)(C:Addr)(d:Option Nat):Bool:=oB (tb.cl C) (λc=>bi c.isExc (bi (nmem i c.data) (oE d (σ.addK (.xd 1) (λn σ=>oB (oO (σ.get j) edOf) (λ_=>σ.putK j (.exc C (some n)) f)))
 (λn=>oB (oO (σ.get n) xdOf) (λm=>bi (Nat.ble m 50) (natK (Nat.add m 1) (λm=>σ.turnK (λσ=>σ.putK n (.xd m) f))) false))) false) false)
def setAttr(σ:S)(o:SV)(i:Nat)(v:SV)(f:KN):Bool:=oB (wOf o) (λj=>oB (σ.get j) (λq=>oE (inOf q) (oB (edOf q) (λp=>@Prod.rec Addr (Option Nat) (λ_=>Bool) (λC d=>qcb tb σ j i f C d) p))
 (λp=>@Prod.rec Addr Lo (λ_=>Bool) (λC m=>oB (tb.cl C) (λc=>bi (nmem i c.data) (q3D m i v (λm=>bi (Nat.ble (len m) 60) (σ.putK j (.inst C m) f) false)) false)) p)))
def q9v(σ:S)(o:SV)(i:Nat):Option Addr:=oO (qcp σ o) (λp=>@Prod.rec Addr Lo (λ_=>Option Addr) (λC m=>oO (tb.cl C) (λc=>oO (alook c.meths i) (λf=>oE (q0K m i) (some f) (λ_=>none)))) p)
def q3I(o:SO):Option Nat:=@SO.rec (λ_=>Option Nat) (λ_=>some 0) (λ_=>none) (λ_=>some 1) (λ_=>some 1) (λ_=>none) (λ_ _=>none) (λ_=>none) (λ_ _=>none) (λ_ _=>none) (λ_ _=>none) (λ_ _=>none) (λ_=>none) o
def q1h(σ:S)(o:SV):Option Nat:=@SV.rec (λ_=>Option Nat) none (λ_=>none) (λ_=>none) (λ_=>some 2) (λ_=>some 3) (λ_=>none) (λ_=>none) (λ_=>none) (λj=>oO (σ.get j) q3I) o
def zipK(ps:List Nat):List SV→List SV→(Lo→Bool)→Bool:=@List.rec Nat (λ_=>List SV→List SV→(Lo→Bool)→Bool) (λas _ k=>bi (q0s as) (k []) false)
 (λp r ih as dflt k=>@List.rec SV (λ_=>Bool) (bi (Nat.ble (Nat.succ (len r)) (len dflt)) (drK dflt (Nat.sub (len dflt) (Nat.succ (len r))) (λd=>@List.rec SV (λ_=>Bool) false (λa _ _=>ih [] dflt (λm=>k ((p,a)::m))) d)) false)
  (λa q _=>ih q dflt (λm=>k ((p,a)::m))) as) ps
def q4D(bs:Lo)(l:List Nat):S→(List (Nat×Nat)→S→Bool)→Bool:=@List.rec Nat (λ_=>S→(List (Nat×Nat)→S→Bool)→Bool) (λσ k=>k [] σ)
 (λi _ ih σ k=>σ.addK (.cell (alook bs i)) (λn σ=>ih σ (λcs σ=>k ((i,n)::cs) σ))) l
def q3e(cs:List Nat)(l:Lo):(Lo→Bool)→Bool:=bi (q0s cs) (λk=>k l) (@List.rec (Nat×SV) (λ_=>(Lo→Bool)→Bool) (λk=>k []) (λp _ ih k=>bi (nmem p.1 cs) (ih k) (ih (λr=>k (p::r)))) l)
def qat(f:Nat→Bool)(n:Nat):Bool:=@Nat.rec (λ_=>Bool) true (λi ih=>bi ih (f i) false) n
end
noncomputable abbrev q1A:=SV→List SV→S→KX→KV→Bool
structure Cx where
 call:q1A
 cells:List (Nat×Nat)
 kx:KX
abbrev Cx.cal(c:Cx):q1A:=@Cx.rec (λ_=>q1A) (λf _ _=>f) c
abbrev Cx.cel(c:Cx)(i:Nat):Option Nat:=@Cx.rec (λ_=>Option Nat) (λ_ l _=>alook l i) c
abbrev Cx.x(c:Cx):KX:=@Cx.rec (λ_=>KX) (λ_ _ k=>k) c
abbrev calm(c:Cx):Cx:=@Cx.rec (λ_=>Cx) (λf l _=>⟨f,l,λ_ _=>false⟩) c
noncomputable abbrev XC:=Cx→S→KV→Bool
noncomputable abbrev XsC:=Cx→S→(List SV→S→Bool)→Bool
noncomputable abbrev XdC:=Cx→S→(List (List Nat×SV)→S→Bool)→Bool
noncomputable abbrev TC:=Cx→S→KN→KN→Bool
noncomputable abbrev AC:=SV→Cx→S→KN→Bool
noncomputable abbrev AsC:=List SV→Cx→S→KN→Bool
noncomputable abbrev SC:=Cx→S→KV→KN→Bool
def q9S(k:KV)(σ:S)(o:Option SV):Bool:=oB o (λv=>k v σ)
def qe0(k:KV)(σ:S)(o:Option Bool):Bool:=oB o (λb=>k (.bool b) σ)
def fork(kt kf:KN)(σ:S)(o:Option Bool):Bool:=oB o (λb=>bi b (kt σ) (kf σ))
noncomputable def cC(v:SV):XC:=λ_ σ k=>k v σ
def cLoc(i:Nat):XC:=λ_ σ k=>q9S k σ (σ.loc i)
def qgB(σ:S)(o:Option Nat):Option SV:=oO o (λc=>oO (oO (σ.get c) ceOf) (λv=>v))
def cCel(i:Nat):XC:=λc σ k=>q9S k σ (qgB σ (c.cel i))
noncomputable def xNil:XsC:=λ_ σ k=>k [] σ
noncomputable def q4H(x:XC)(r:XsC):XsC:=λc σ k=>x c σ (λv σ=>r c σ (λl σ=>k (v::l) σ))
noncomputable def dNil:XdC:=λ_ σ k=>k [] σ
noncomputable def qgz(s:List Nat)(x:XC)(r:XdC):XdC:=λc σ k=>x c σ (λv σ=>r c σ (λl σ=>k ((s,v)::l) σ))
def cCal(f:XC)(as:XsC):XC:=λc σ k=>f c σ (λfv σ=>as c σ (λvs σ=>c.cal fv vs σ c.x k))
section
variable(tb:Tabs)
def bOk(t i:Nat):Bool:=bi (Nat.blt i 16) (nmem (Nat.add (Nat.mul t 16) i) [0,1,2,3,4,21,18,20,38,55,56]) false
def cAtt(x:XC)(i:Nat):XC:=λc σ k=>x c σ (λo σ=>q9S k σ (qcB tb σ o i))
def qhe(as:XsC)(i:Nat)(c:Cx)(σ:S)(k:KV)(ov:SV)(f:Option Addr):Bool:=oE f (oB (q1h σ ov) (λt=>bi (bOk t i) (as c σ (λvs σ=>oB (q1h σ ov) (λu=>bi (Nat.beq t u) (meth σ ov i vs k) false))) false)) (λf=>as c σ (λvs σ=>c.cal (.old f) (ov::vs) σ c.x k))
def cMet(x:XC)(i:Nat)(as:XsC):XC:=λc σ k=>x c σ (λov σ=>qhe as i c σ k ov (q9v tb σ ov i))
def qgE(x y:XC):XC:=λc σ k=>x c σ (λo σ=>y c σ (λt σ=>oB (ats σ o exOf) (λ_=>oB (sOf t) (λ_=>k .none σ))))
noncomputable def cBin(f:S→SV→SV→KV→Bool)(a b:XC):XC:=λc σ k=>a c σ (λx σ=>b c σ (λy σ=>f σ x y k))
def cNeg(x:XC):XC:=λc σ k=>x c σ (λv σ=>oB (iOf v) (λi=>q5P k σ (iSub 0 i)))
def cNot(x:XC):XC:=λc σ k=>x c σ (λv σ=>qe0 k σ (notO (tru σ v)))
def cCmp(f:S→SV→SV→Option Bool)(a b:XC):XC:=λc σ k=>a c σ (λx σ=>b c σ (λy σ=>qe0 k σ (f σ x y)))
def cAnd(a b:XC):XC:=λc σ k=>a c σ (λv σ=>fork (λσ=>b c σ k) (λσ=>k v σ) σ (tru σ v))
def cOr(a b:XC):XC:=λc σ k=>a c σ (λv σ=>fork (λσ=>k v σ) (λσ=>b c σ k) σ (tru σ v))
noncomputable def cIfe(t:TC)(a b:XC):XC:=λc σ k=>t c σ (λσ=>a c σ k) (λσ=>b c σ k)
def cTup(as:XsC):XC:=λc σ k=>as c σ (λvs σ=>σ.addTK vs (λn σ=>k (.own n) σ))
def cLst(as:XsC):XC:=λc σ k=>as c σ (λvs σ=>σ.addLK vs (λn σ=>k (.own n) σ))
def qgF:XC:=λ_ σ k=>σ.addK (.dictS []) (λn σ=>k (.own n) σ)
def cDic(ds:XdC):XC:=λc σ k=>σ.addK (.dictS []) (λn σ=>ds c σ (λes σ=>oB (oO (σ.get n) dsOf) (λl=>bi (q0s l) (σ.putSK n es (λσ=>k (.own n) σ)) false)))
def cSub(x i:XC):XC:=λc σ k=>x c σ (λo σ=>i c σ (λiv σ=>q9S k σ (item tb σ o iv)))
def cSli(x l u:XC):XC:=λc σ k=>x c σ (λo σ=>l c σ (λlv σ=>u c σ (λuv σ=>slice σ o lv uv k)))
def cRev(x:XC):XC:=λc σ k=>x c σ (λo σ=>revd σ o k)
def cLam(i:Nat):XC:=λc σ k=>σ.addK (.fn i c.cells) (λn σ=>k (.own n) σ)
def tAny(x:XC):TC:=λc σ kt kf=>x c σ (λv σ=>fork kt kf σ (tru σ v))
noncomputable def tNot(t:TC):TC:=λc σ kt kf=>t c σ kf kt
noncomputable def tAnd(a b:TC):TC:=λc σ kt kf=>a c σ (λσ=>b c σ kt kf) kf
noncomputable def tOr(a b:TC):TC:=λc σ kt kf=>a c σ kt (λσ=>b c σ kt kf)
noncomputable def tT:TC:=λ_ σ kt _=>kt σ
noncomputable def tF:TC:=λ_ σ _ kf=>kf σ
def tCmp(f:S→SV→SV→Option Bool)(a b:XC):TC:=λc σ kt kf=>a c σ (λx σ=>b c σ (λy σ=>fork kt kf σ (f σ x y)))
def qeA(f g:S→SV→SV→Option Bool)(a b d:XC):TC:=λc σ kt kf=>a c σ (λx σ=>b c σ (λy σ=>fork (λσ=>d c σ (λz σ=>fork kt kf σ (g σ y z))) kf σ (f σ x y)))
def aLoc(i:Nat):AC:=λv _ σ k=>σ.setLocK i v k
def aCel(i:Nat):AC:=λv c σ k=>oB (c.cel i) (λa=>oB (oO (σ.get a) ceOf) (λ_=>σ.putK a (.cell (some v)) k))
def aAtt(x:XC)(i:Nat):AC:=λv c σ k=>x c σ (λo σ=>setAttr tb σ o i v k)
def aSub(x i:XC):AC:=λv c σ k=>x c σ (λo σ=>i c σ (λiv σ=>setItem σ o iv v k))
def aSli(x l u:XC):AC:=λv c σ k=>x c σ (λo σ=>l c σ (λlv σ=>u c σ (λuv σ=>q74 σ o lv uv v k)))
def qbX:AsC:=λl _ σ k=>@List.rec SV (λ_=>Bool) (k σ) (λ_ _ _=>false) l
def q7I(a:AC)(r:AsC):AsC:=λl c σ k=>@List.rec SV (λ_=>Bool) false (λv q _=>a v c σ (λσ=>r q c σ k)) l
def aTup(n:Nat)(r:AsC):AC:=λv c σ k=>oB (q0C tb σ v) (λl=>bi (Nat.beq (len l) n) (r l c σ k) false)
def qgO(n:Nat)(r:AsC):AC:=λv c σ k=>oB (q0C tb σ v) (λl=>bi (Nat.beq (len l) n) (revK l [] (λl=>r l c σ k)) false)
noncomputable def sNil:SC:=λ_ σ _ kn=>kn σ
noncomputable def sSeq(a b:SC):SC:=λc σ kr kn=>a c σ kr (λσ=>b c σ kr kn)
noncomputable def qfq(x:XC):SC:=λc σ _ kn=>x c σ (λ_ σ=>kn σ)
noncomputable def sAsg(t:AC)(x:XC):SC:=λc σ _ kn=>x c σ (λv σ=>t v c σ kn)
noncomputable def sRet(x:XC):SC:=λc σ kr _=>x c σ kr
noncomputable def qfn:SC:=λ_ σ kr _=>kr .none σ
noncomputable def sIf(t:TC)(a b:SC):SC:=λc σ kr kn=>t c σ (λσ=>a c σ kr kn) (λσ=>b c σ kr kn)
def q8d(t:AC)(b:SC)(n:Nat):It→SC:=@Nat.rec (λ_=>It→SC) (λ_ _ _ _ _=>false) (λ_ ih it c σ kr kn=>
 q5E tb σ it (kn σ) (λv it σ=>t v c σ (λσ=>b c σ kr (λσ=>ih it c σ kr kn)))) n
def sFor(t:AC)(x:XC)(b:SC):SC:=λc σ kr kn=>x c σ (λv σ=>oB (q7s tb σ v) (λit=>q8d tb t b 60 it c σ kr kn))
def qfp(t:AC)(x:XC)(b:SC):SC:=λc σ kr kn=>x c σ (λv σ=>oB (wOf v) (λj=>oB (oO (σ.get j) lOf) (λ_=>q8d tb t b 60 (.enu 0 j 0) c σ kr kn)))
def qfo(x y:XC):SC:=λc σ _ kn=>x c σ (λv σ=>y c σ (λu σ=>oB (q0N σ v) (λl=>oB (q0N σ u) (λ_=>bi (q0s l) (kn σ) false))))
noncomputable def qcG(t:TC)(b:SC)(n:Nat):SC:=@Nat.rec (λ_=>SC) (λ_ _ _ _=>false) (λ_ ih c σ kr kn=>t c σ (λσ=>b c σ kr (λσ=>ih c σ kr kn)) kn) n
def sWhl(t:TC)(b:SC):SC:=λc σ kr kn=>qcG t b 60 (calm c) σ kr kn
def sRai(x:XC):SC:=λc σ _ _=>x c σ (λv σ=>oB (wOf v) (λj=>oB (oO (σ.get j) exOf) (λC=>σ.delK j (λσ=>c.x C σ))))
def sTri(b:SC)(C:Addr)(v:SV):SC:=λc σ kr kn=>b ⟨c.call,c.cells,λD σ=>bi (Nat.beq C D) (kr v σ) false⟩ σ kr kn
def sDef(i:Nat)(t:AC):SC:=λc σ _ kn=>σ.addK (.fn i c.cells) (λn σ=>t (.own n) c σ kn)
def q8l(elt:XC)(t:AC)(f:TC)(acc:Nat)(n:Nat):It→Cx→S→KN→Bool:=@Nat.rec (λ_=>It→Cx→S→KN→Bool) (λ_ _ _ _=>false) (λ_ ih it c σ k=>
 q5E tb σ it (k σ) (λv it σ=>t v c σ (λσ=>
  f c σ (λσ=>elt c σ (λv σ=>oB (oO (σ.get acc) lOf) (λl=>catK l [v] (λl=>σ.putLK acc l (λσ=>ih it c σ k))))) (λσ=>ih it c σ k)))) n
def cCom(elt:XC)(t:AC)(x:XC)(f:TC):XC:=λc σ k=>x c σ (λv σ=>oB (q7s tb σ v) (λit=>σ.addK (.list []) (λacc σ=>σ.pushK [] (λσ=>
 q8l tb elt t f acc 60 it ⟨c.call,c.cells,λj σ=>σ.popK (λσ=>c.x j σ)⟩ σ (λσ=>σ.popK (λσ=>k (.own acc) σ))))))
def zipR(l:List SV):Int→Nat→S→(List SV→S→Bool)→Bool:=@List.rec SV (λ_=>Int→Nat→S→(List SV→S→Bool)→Bool) (λ_ _ σ k=>k [] σ)
 (λv _ ih a n σ k=>@Nat.rec (λ_=>Bool) (k [] σ) (λn _=>σ.addTK [.int (.lit a),v] (λt σ=>ih (iAdd a 1) n σ (λr σ=>k (.own t::r) σ))) n) l
def cLZ(r x:XC):XC:=λc σ k=>r c σ (λrv σ=>x c σ (λv σ=>oB (ats σ rv rgOf) (λp=>@Prod.rec Int Int (λ_=>Bool) (λa b=>oB (q0N σ v) (λl=>bi (q0s l) false
 (bi (Nat.blt (len l) (rlen a b)) (zipR l a (rlen a b) σ (λl σ=>σ.addLK l (λn σ=>k (.own n) σ))) false))) p)))
def qcq(m:Nat)(σ:S)(k:SV→List (Nat×Nat)→S→Bool)(fs:List (Nat×Nat)):Bool:=@List.rec (Nat×Nat) (λ_=>Bool)
 (bi (Nat.beq m 0) false (bi (Nat.ble m 8) (qat (λi=>k (.int (.lit (.ofNat i))) [] σ) m) (bi (Nat.beq m 20) (σ.varK (λn σ=>k (.int (.var n 0)) [] σ)) false)))
 (λf r _=>bi (Nat.beq f.1 m) (bi (Nat.beq m 0) false (bi (Nat.ble m 8) (k (.int (.lit (.ofNat f.2))) r σ) false)) false) fs
def qfF(σ:S)(v:SV)(k:Nat→Nat→List (Nat×Nat)→Bool):Bool:=oB (wOf v) (λp=>oB (oO (σ.get p) peOf) (λq=>@Prod.rec Nat (List (Nat×Nat)) (λ_=>Bool) (λb fs=>k p b fs) q))
def qfr(pn mn fn:Nat):SC:=λ_ σ kr _=>oB (σ.loc pn) (λpv=>oB (σ.loc mn) (λmv=>oB (nOf mv) (λm=>qfF σ pv (λp b fs=>bi (Nat.ble b 90) (σ.putK p (.pen (Nat.succ b) fs) (λσ=>
 qcq m σ (λv r σ=>σ.setLocK fn v (λσ=>σ.putK p (.pen (Nat.succ b) r) (λσ=>kr v σ))) fs)) false))))
end
structure Fn where
 params:List Nat
 dflt:List SV
 body:SC
 cells:List Nat
structure Funs where
 fn:TT Fn
 tm:TT Fn
section
variable(tb:Tabs)(F:Funs)
def q1X(ih:q1A)(b:SC)(cs:List (Nat×Nat))(σ:S)(kx:KX)(k:KV):Bool:=
 b ⟨ih,cs,λj σ=>σ.popK (λσ=>kx j σ)⟩ σ (λv σ=>σ.popK (λσ=>k v σ)) (λσ=>σ.popK (λσ=>k .none σ))
def q4F(ih:q1A)(f:Fn)(as:List SV)(σ:S)(kx:KX)(k:KV):Bool:=@Fn.rec (λ_=>Bool) (λps ds b cs=>
 zipK ps as ds (λbs=>q3e cs bs (λlo=>σ.pushK lo (λσ=>q4D bs cs σ (λcs σ=>q1X ih b cs σ kx k))))) f
def qae(ih:q1A)(cs:List (Nat×Nat))(as:List SV)(σ:S)(kx:KX)(k:KV)(f:Fn):Bool:=@Fn.rec (λ_=>Bool) (λps ds b _=>
 zipK ps as ds (λbs=>σ.pushK bs (λσ=>q1X ih b cs σ kx k))) f
def q6L(ih:q1A)(a:Addr)(as:List SV)(σ:S)(kx:KX)(k:KV)(c:Cls):Bool:=@Cls.rec (λ_=>Bool) (λi _ _ e=>
 σ.addK (bi e (.exc a none) (.inst a [])) (λn σ=>ih (.old i) (.own n::as) σ kx (λv σ=>bi (isNone v) (k (.own n) σ) false))) c
def qef(ih:q1A)(a:Addr)(as:List SV)(σ:S)(kx:KX)(k:KV):Bool:=oE (F.fn.get a) (oB (tb.cl a) (q6L ih a as σ kx k)) (λf=>q4F ih f as σ kx k)
def qee(ih:q1A)(j:Nat)(as:List SV)(σ:S)(kx:KX)(k:KV):Bool:=oB (oO (σ.get j) fnOf) (λp=>@Prod.rec Nat (List (Nat×Nat)) (λ_=>Bool) (λi cs=>oB (F.tm.get i) (qae ih cs as σ kx k)) p)
def qed(ih:q1A)(f:SV)(as:List SV)(σ:S)(kx:KX)(k:KV):Bool:=@SV.rec (λ_=>Bool) false (λ_=>false) (λ_=>false) (λ_=>false) (λ_=>false)
 (λid=>btyp tb σ id as k) (λid=>bfun tb σ id as k) (λa=>qef tb F ih a as σ kx k) (λj=>qee F ih j as σ kx k) f
def q16(n:Nat):q1A:=@Nat.rec (λ_=>q1A) (λ_ _ _ _ _=>false) (λ_ ih=>qed tb F ih) n
end
noncomputable def qbg:List String:=["append","extend","pop","index","clear","get","encode","decode","join","__init__","self","what","at","scale","units","a","size","is_rounded","cut_quotient","half","abs","content","mode","access","keys","key","list","alternates","FileFault","stamps","place","len","range","next_stamp","which","is_nowhere","read_last","highest","max","worth","record","offset","is_double","found","sorted","wanted","own","status","stamp","row","stand","one","ordered","READING_keyfile","lose","turned","numbers","others_with","may_write","place_of","doubled","put","last_place","old","drop","category","picture","usage","sign","is_separate","is_justified","is_blank_zero","digits","is_signed","shape","Shape","octets","left","unit_bound","rest","number","turn","count","codes","NOUGHT_usages","figure","figures_for","bytes","MINUS_usages","PLUS","MINUS_FIGURES","PLUS_FIGURES","kept_units","display_octets","packed_octets","binary_octets","figures","RunFault","is_negative","code","sign_place","signed_figure","joined_figures","display_units","packed_units","binary_units","decimal","units_in","texts","rows","NUMBERS","goal","goals_of","source","BLANK_moving","octets_for","unsigned_shape","inserted","aligned","can_move","number_for","worth_in_text","text_for","text_in","low","op","least_from","most","is_behind","is_valid","last","need","some","BY_ORDER","failed","BY_NUMBER","STARTS","start_number","chosen","READING_rowfile","ADDING","files","path","kind","KINDS","begin","kind_of","content_of","tuple","rows_of","paths","level","name","picture_text","occurs","redefines","value","conditions","kids","parent","renames","base","kid","high","working","linkage","sorts","indexes","data","line","item","root","records","items_under","above","around","items_around","FILLER","RENAMING","is_numeric","valued","is_group","unvalued","plain_kids","first_octets","bytearray","top","root_of","qualifiers","CheckFault","alike","all_items","only_one","leads_through","names_around","file_of","tables","tables_around","subscripts","part","length","program","shelf","told_rows","memory","initial_memory","links","handles","open_paths","open_row","operand","world","end","memory_of","whole_in","find_item","ref","part_of","stretch","expr","place_of_octets","spot_in","number_shape","units_at","text_shape","is_index","operand_in","has_units","number_in","isinstance","str","file","plain_ref","roots","area_of","spec","relative_key","number_of","is_whole","whole_of","handle","modes","asked_number","put_octets","organization","spec_of","outcome","outcome_of","told","area_octets","into","moved","RowFile","RelFile","greatest_number","key_part","KeyFile","pair","is_sort","is_path_held","opened","handle_of","first_outcome","concluded","open_status","statement","read_at","key_number","octets_at","which_key","by_order","is_next","read_by_key","read_next","tell_number","read_status","put_record","read_one","move_into","start","start_status","write","record_file","write_status","rewrite","rewrite_status","delete","delete_status","procedures","is_initial","script","pen","many","Item","Data","FileSpec","Shelf","_law_item","numbered_shape","add","lay","World","Program","deed","_law_ref","is_gone","_law_KINDS","_law_draw","spot","_law_world","ahead","do_delete","rewrite_one","_law_changed","deeds","do_open","write_one","_law_heard","due","do_start","first","do_read","_law_pen","_law_between_right","_law_unasked_right","_law_whole_right","_law_into_right","enumerate","zip","Exception"]
noncomputable def nmS:List Str:=qbg.map Str.ofString
noncomputable def nm(i:Nat):Str:=match nmS[i]? with
 |some s=>s
 |none=>⟨Array.replicate (i+1000) 0⟩
def clsT:TT Cls:=.ofL 12 [(47,⟨37,[],[12,11],true⟩),(60,⟨37,[],[12,11],true⟩),(72,⟨37,[],[12,11],true⟩),(84,⟨37,[],[12,11],true⟩),(96,⟨37,[],[12,11],true⟩),(108,⟨37,[],[12,11],true⟩),(354,⟨223,[(39,237),(52,244),(59,251),(57,258),(50,265),(54,272),(43,277),(273,284),(61,305),(64,312),(60,319),(58,326),(281,333),(62,338),(284,343),(286,351)],[23,12,21,37,35,24,22,33,36,29,34],false⟩),(557,⟨540,[(100,554)],[65,72,71,70,69,73,66,13,68,16,67],false⟩),(922,⟨841,[(131,848),(134,855),(43,862),(273,869),(266,876),(279,883),(281,891),(138,898),(284,906),(286,914)],[23,21,128,129,130,22,127,80,30],false⟩),(973,⟨942,[(273,949),(281,956),(284,963)],[12,21,129,130,22],false⟩),(1059,⟨999,[(150,1006),(146,1013),(147,1020),(145,1027),(300,1032),(260,1039),(149,1044),(248,1056)],[141],false⟩),(1106,⟨1077,[(299,1084),(82,1091)],[161,157,71,70,69,158,151,152,154,41,159,153,155,160,74,68,16,67,156],false⟩),(1132,⟨1124,[],[141,167,165,16,166,164],false⟩),(1294,⟨1291,[],[207,167,206,204,208,209,201,109,202,166,203],false⟩),(1609,⟨1599,[],[23,27,258,25,152,244,142,172,236,47],false⟩),(1638,⟨1628,[],[168,141,289,152,288],false⟩)]
noncomputable def glo:List (Nat×SV):=[(18,.old 117),(20,.bi 1),(26,.ty 3),(28,.old 108),(31,.bi 0),(32,.ty 1),(38,.bi 3),(44,.bi 2),(53,.old 211),(75,.old 557),(78,.old 582),(84,.int (.lit 48)),(86,.old 638),(87,.ty 0),(88,.int (.lit 45)),(89,.int (.lit 43)),(90,.bytes [.lit 125,.lit 74,.lit 75,.lit 76,.lit 77,.lit 78,.lit 79,.lit 80,.lit 81,.lit 82]),(91,.bytes [.lit 123,.lit 65,.lit 66,.lit 67,.lit 68,.lit 69,.lit 70,.lit 71,.lit 72,.lit 73]),(92,.old 631),(93,.old 643),(94,.old 648),(95,.old 655),(97,.old 84),(101,.old 676),(102,.old 669),(103,.old 681),(104,.old 688),(105,.old 695),(106,.old 125),(107,.old 702),(110,.old 717),(112,.old 724),(114,.bytes [.lit 32]),(115,.old 662),(116,.old 624),(117,.old 479),(118,.old 739),(119,.old 731),(120,.old 781),(121,.old 760),(122,.old 774),(123,.old 767),(126,.old 819),(133,.old 810),(135,.old 811),(136,.old 812),(137,.old 826),(139,.old 927),(140,.old 928),(144,.old 978),(148,.ty 2),(172,.old 1143),(173,.old 1150),(176,.old 1164),(177,.str [70,73,76,76,69,82]),(178,.int (.lit 66)),(179,.old 568),(180,.old 1205),(181,.old 1186),(182,.old 1212),(183,.old 1191),(184,.old 1217),(185,.ty 4),(187,.old 1171),(189,.old 72),(191,.old 1157),(192,.old 1265),(193,.old 1258),(194,.old 1176),(195,.old 1251),(197,.old 1181),(205,.old 1224),(213,.old 1312),(214,.old 1373),(215,.old 1270),(217,.old 1326),(218,.old 1277),(220,.old 1319),(221,.old 1331),(222,.old 617),(223,.old 189),(224,.old 596),(225,.old 1305),(226,.old 1352),(227,.old 575),(228,.old 709),(229,.bi 5),(230,.ty 8),(232,.old 1380),(234,.old 1399),(237,.old 1359),(238,.old 196),(239,.old 203),(242,.old 1432),(243,.old 1345),(245,.old 1387),(247,.old 985),(249,.old 1406),(251,.old 788),(252,.old 973),(253,.old 922),(254,.old 1425),(255,.old 1413),(256,.old 354),(259,.old 1484),(261,.old 1479),(262,.old 1496),(263,.old 1460),(264,.old 1491),(267,.old 1439),(268,.old 1338),(269,.old 1418),(270,.old 1453),(272,.old 1508),(274,.old 1446),(275,.old 1515),(276,.old 1467),(277,.old 1522),(278,.old 1474),(280,.old 1536),(282,.old 1394),(283,.old 1550),(285,.old 1564),(287,.old 1578),(293,.old 1106),(294,.old 1132),(295,.old 1609),(296,.old 1059),(297,.old 1671),(298,.old 603),(301,.old 1294),(302,.old 1638),(304,.old 1664),(306,.old 1643),(307,.old 1657),(309,.old 1678),(311,.old 1585),(312,.old 1571),(315,.old 1501),(316,.old 1557),(317,.old 1685),(319,.old 1543),(321,.old 1529),(322,.old 1650),(323,.old 1690),(324,.old 1697),(325,.old 1702),(326,.old 1707),(327,.ty 7),(328,.ty 5),(329,.ty 10)]
def tupT:TT (List SV):=.ofL 12 [(29,[.int (.lit 0),.int (.lit 0)]),(211,[.str [105,110,112,117,116],.str [105,45,111]]),(717,[.str [110,117,109,101,114,105,99],.str [101,100,105,116,101,100]]),(810,[.str [115,101,113,117,101,110,116,105,97,108],.str [100,121,110,97,109,105,99]]),(811,[.str [114,97,110,100,111,109],.str [100,121,110,97,109,105,99]]),(812,[.str [61],.str [62],.str [62,61]]),(927,[.str [105,110,112,117,116],.str [105,45,111]]),(928,[.str [111,117,116,112,117,116],.str [101,120,116,101,110,100]]),(978,[.str [115,101,113,117,101,110,116,105,97,108],.str [114,101,108,97,116,105,118,101],.str [105,110,100,101,120,101,100]]),(1225,[.str [43],.str [45],.str [42],.str [47],.str [42,42]]),(1643,[.str [115,101,113,117,101,110,116,105,97,108],.str [114,101,108,97,116,105,118,101],.str [105,110,100,101,120,101,100]])]
def tb:Tabs:=⟨clsT,tupT,1657⟩
noncomputable def tabs:List (Addr×Addr):=[(1689,1687),(1696,1692),(1701,1699)]
noncomputable def scode(sc:Scope):Option Addr:=if (sc.names.lookup ("_law_changed":Str)).isSome then some 1689 else if (sc.names.lookup ("deeds":Str)).isNone then none else
 if (sc.names.lookup ("mode":Str)).isSome then some 1696 else if (sc.names.lookup ("last":Str)).isSome then some 1701 else none
noncomputable def squal(a:Addr):Str:=if a=1689 then "_law_between_right" else if a=1696 then "_law_unasked_right" else "_law_whole_right"
noncomputable def tqual(a:Addr)(line:Nat):Str:=squal a++".<locals>."++(if line=1426 then("_law_changed":Str) else("<lambda>":Str))
end
section
open PySem PySem.W
noncomputable def qa0:List Value:=[.type "Exception",.type "BaseException",.type "object"]
set_option backward.match.sparseCases false in
noncomputable def qgf(v:Value):Bool:=match v with|.ref _=>true|_=>false
def q11(l:List Value):Bool:=@List.rec Value (λ_=>Bool) false (λv r ih=>(qgf v&&ih)||v::r==qa0) l
noncomputable def q23:List SI→List UInt8→Bool
 |[],q=>q.isEmpty
 |i::r,q=>(match q with
  |[]=>false
  |b::q=>(match i with
   |.lit i=>decide (i=(b.toNat:Int))&&q23 r q
   |.var _ _=>false))
end
section
open PySem PySem.W PyProof.Rows
set_option backward.match.sparseCases false in
noncomputable def q2B:Expr→Bool
 |.Tuple ..=>true
 |_=>false
noncomputable def relS(scope sc:Scope):Scope:={scope with names:=scope.names.map λ(n,k)=>if (k==.free&&sc.kind==.function&&sc.names.lookup n==some .cell) then(n,.cell) else(n,k)}
noncomputable def q4z(is:List Nat)(sc scope:Scope):Bool:=(scope.kind==.function)&&scope.names.all λx=>(x.2 != .cell)&&(x.2 != .local||scope.names.lookup x.1==some .local)&&
 (x.2 != .free||is.any λi=>x.1==nm i&&(sc.names.lookup (nm i)==some .cell||sc.names.lookup (nm i)==some .free))
noncomputable def q36(is:List Nat)(sc scope:Scope):Bool:=scope.names.all λx=>(x.2 != .free||is.any λi=>x.1==nm i&&(sc.names.lookup (nm i)==some .cell||sc.names.lookup (nm i)==some .free))
end
section
set_option backward.match.sparseCases false
open PySem PySem.W PySem.W.Fast
def vK{R:Type}(z:R)(f:Int→R)(v:Value):R:=@Value.rec (λ_=>R) z z z (λ_=>z) (λi _=>f i) (λ_ _=>z) (λ_ _=>z) (λ_ _=>z) (λ_=>z) (λ_=>z) (λ_=>z) v
def iN(n:Nat)(i:Int):Bool:=@Int.rec (λ_=>Bool) (λm=>Nat.beq m n) (λ_=>false) i
def caK(pos:Pos)(n:Nat):List Value→Option Value:=@Nat.rec (λ_=>List Value→Option Value) (codeAmong pos)
 (λ_ ih l=>@List.rec Value (λ_=>Option Value) none (λv r _=>vK none (λi=>@List.rec Value (λ_=>Option Value) none (λv r _=>vK none (λj=>@List.rec Value (λ_=>Option Value) none (λc r _=>
  @Bool.rec (λ_=>Option Value) (ih r) (@Bool.rec (λ_=>Option Value) (ih r) (some c) (iN pos.col j)) (iN pos.line i)) r) v) r) v) l) n
def caF(pos:Pos)(l:List Value):Option Value:=caK pos 1000 l
theorem qgj(n:Nat)(i:Int):(i==(n:Int))=iN n i:=by
 cases i with
 |ofNat x=>show _=Nat.beq x n;rw[q0g];exact(decide_eq_decide.mpr ⟨λh=>by injection h,λh=>by rw[h];rfl⟩)
 |negSucc x=>rfl
theorem qgC(pos:Pos)(n:Nat):∀l:List Value,codeAmong pos l=caK pos n l:=by
 induction n with
 |zero=>exact λl=>rfl
 |succ n ih=>
  intro l
  cases l with
  |nil=>rfl
  |cons v r=>cases v with
   |int i t=>cases r with
    |nil=>rfl
    |cons v r=>cases v with
     |int j u=>cases r with
      |nil=>rfl
      |cons c r=>
       show (if (i==(pos.line:Int)&&j==(pos.col:Int))=true then some c else codeAmong pos r)=@Bool.rec (λ_=>Option Value) (caK pos n r) (@Bool.rec (λ_=>Option Value) (caK pos n r) (some c) (iN pos.col j)) (iN pos.line i)
       rw[qgj,qgj,ih r]
       cases iN pos.line i<;>cases iN pos.col j<;>rfl
     |_=>cases r<;>rfl
   |_=>cases r with
    |nil=>rfl
    |cons v r=>cases r<;>rfl
theorem qgD:codeAmong=caF:=funext λpos=>funext λl=>qgC pos 1000 l
def cat:{f // tw15821044387518864735=f}:=⟨_,by delta tw15821044387518864735;rw[qgD]⟩
def allB{α:Type}(f:α→Bool)(l:List α):Bool:=@List.rec α (λ_=>Bool) true (λa _ ih=>@Bool.rec (λ_=>Bool) false ih (f a)) l
def noI(n:Nat):Expr→Bool:=@Nat.rec (λ_=>Expr→Bool) (λ_=>false) (λ_ ih e=>match e with
 |.Constant ..|.Name ..=>true
 |.BoolOp _ vs _|.List vs _|.Tuple vs _ _=>allB ih vs
 |.BinOp a _ b _|.Subscript a b _=>ih a&&ih b
 |.UnaryOp _ a _|.Attribute a _ _=>ih a
 |.IfExp a b c _=>ih a&&ih b&&ih c
 |.Compare a _ bs _=>ih a&&allB ih bs
 |.Call f as ks _=>ih f&&allB ih as&&ks.isEmpty
 |.Slice a b c _=>oE a true ih&&oE b true ih&&oE c true ih
 |_=>false) n
def noS(n:Nat):Stmt→Bool:=@Nat.rec (λ_=>Stmt→Bool) (λ_=>false) (λn ih s=>match s with
 |.Pass _|.Break _|.Continue _|.Nonlocal ..|.Return none _=>true
 |.Return (some e) _|.Expr e _|.Raise (some e) none _=>noI 40 e
 |.Assign ts v _=>allB (noI 40) ts&&noI 40 v
 |.AugAssign a _ b _=>noI 40 a&&noI 40 b
 |.If t b o _|.While t b o _=>noI 40 t&&allB ih b&&allB ih o
 |.For t i b o _=>noI 40 t&&noI 40 i&&allB ih b&&allB ih o
 |_=>false) n
theorem q45{f:Expr→Bool}(ih:∀e,f e=true→mayInline e=false):∀{l:List Expr},allB f l=true→mayInlineAny l=false
 |[],_=>rfl
 |e::r,h=>by
  have h:@Bool.rec (λ_=>Bool) false (allB f r) (f e)=true:=h
  show (mayInline e||mayInlineAny r)=false
  cases q:f e with
  |false=>rw[q] at h;exact zF h
  |true=>rw[q] at h;rw[ih e q,q45 ih h];rfl
theorem q9h{f:Expr→Bool}(ih:∀e,f e=true→mayInline e=false){o:Option Expr}(h:oE o true f=true):mayInlineOpt o=false:=by
 cases o with
 |none=>rfl
 |some e=>exact ih e h
theorem q1F{a b:Bool}(h:a=false)(k:b=false):(a||b)=false:=by rw[h,k];rfl
theorem andB{a b:Bool}(h:(a&&b)=true):a=true∧b=true:=by simpa using h
theorem q1P:∀(n:Nat)(e:Expr),noI n e=true→mayInline e=false:=by
 intro n
 induction n with
 |zero=>intro e h;exact zF h
 |succ n ih=>
  intro e h
  cases e with
  |Constant=>rfl
  |Name=>rfl
  |BoolOp=>exact q45 ih h
  |List=>exact q45 ih h
  |Tuple=>exact q45 ih h
  |BinOp=>exact q1F (ih _ (andB h).1) (ih _ (andB h).2)
  |Subscript=>exact q1F (ih _ (andB h).1) (ih _ (andB h).2)
  |UnaryOp _ a _=>exact ih a h
  |Attribute a _ _=>exact ih a h
  |IfExp=>exact q1F (q1F (ih _ (andB (andB h).1).1) (ih _ (andB (andB h).1).2)) (ih _ (andB h).2)
  |Compare=>exact q1F (ih _ (andB h).1) (q45 ih (andB h).2)
  |Call f as ks p=>
   cases ks with
   |nil=>exact q1F (q1F (ih _ (andB (andB h).1).1) (q45 ih (andB (andB h).1).2)) rfl
   |cons _ _=>cases (andB h).2
  |Slice=>exact q1F (q1F (q9h ih (andB (andB h).1).1) (q9h ih (andB (andB h).1).2)) (q9h ih (andB h).2)
  |_=>exact zF h
theorem q5q{f:Stmt→Bool}(ih:∀e,f e=true→mayInlineStmt e=false):∀{l:List Stmt},allB f l=true→mayInlineStmts l=false
 |[],_=>rfl
 |e::r,h=>by
  have h:@Bool.rec (λ_=>Bool) false (allB f r) (f e)=true:=h
  show (mayInlineStmt e||mayInlineStmts r)=false
  cases q:f e with
  |false=>rw[q] at h;exact zF h
  |true=>rw[q] at h;rw[ih e q,q5q ih h];rfl
theorem qfI:∀(n:Nat)(s:Stmt),noS n s=true→mayInlineStmt s=false:=by
 intro n
 induction n with
 |zero=>intro e h;exact zF h
 |succ n ih=>
  intro s h
  cases s with
  |Pass=>rfl
  |Break=>rfl
  |Continue=>rfl
  |Nonlocal=>rfl
  |Return o _=>cases o with
   |none=>rfl
   |some e=>exact q1P 40 e h
  |Expr e _=>exact q1P 40 e h
  |Raise a b _=>cases a with
   |none=>exact zF h
   |some a=>cases b with
    |none=>exact q1P 40 a h
    |some _=>exact zF h
  |Assign=>exact q1F (q45 (q1P _) (andB h).1) (q1P _ _ (andB h).2)
  |AugAssign=>exact q1F (q1P _ _ (andB h).1) (q1P _ _ (andB h).2)
  |If=>exact q1F (q1F (q1P _ _ (andB (andB h).1).1) (q5q ih (andB (andB h).1).2)) (q5q ih (andB h).2)
  |While=>exact q1F (q1F (q1P _ _ (andB (andB h).1).1) (q5q ih (andB (andB h).1).2)) (q5q ih (andB h).2)
  |For=>exact q1F (q1F (q1F (q1P _ _ (andB (andB (andB h).1).1).1) (q1P _ _ (andB (andB (andB h).1).1).2)) (q5q ih (andB (andB h).1).2)) (q5q ih (andB h).2)
  |_=>exact zF h
def misF(l:List Stmt):Bool:=@Bool.rec (λ_=>Bool) (mayInlineStmts l) false (allB (noS 40) l)
theorem qdC:mayInlineStmts=misF:=by
 funext l
 show _=@Bool.rec (λ_=>Bool) (mayInlineStmts l) false (allB (noS 40) l)
 cases h:allB (noS 40) l with
 |false=>rfl
 |true=>exact q5q (qfI 40) h
def lnt:{f // tw17120021879193482534=f}:=⟨_,by delta tw17120021879193482534;rw[qdC]⟩
def isN(l:Str)(v:Value):Bool:=@Value.rec (λ_=>Bool) false false false (λ_=>false) (λ_ _=>false) (λ_ _=>false) (λs _=>sEq s l) (λ_ _=>false) (λ_=>false) (λ_=>false) (λ_=>false) v
theorem qco(n:Str)(v:Value):v.isStrByCps n.cps.size n.cps.toList=isN n v:=by
 cases v with
 |str s _=>
  show (s.cps.size==n.cps.size&&s.cps.toList==n.cps.toList)=sEq s n
  rw[Bool.eq_iff_iff,sEq_iff,Bool.and_eq_true,beq_iff_eq,beq_iff_eq]
  exact⟨λh=>by obtain⟨⟨_⟩⟩:=s;obtain⟨⟨_⟩⟩:=n;cases h.2;rfl,λh=>by subst h;exact⟨rfl,rfl⟩⟩
 |_=>rfl
def putR{R:Type}(l:Str)(f:Option DictEntry→DictEntry)(es:List DictEntry):(List DictEntry→Bool→R)→R:=@List.rec DictEntry (λ_=>(List DictEntry→Bool→R)→R) (λk=>k [f none] true) (λe r ih k=>@Bool.rec (λ_=>R) (ih (λr a=>k (e::r) a)) (k (f (some e)::r) false) (isN l e.key)) es
theorem qdn{R:Type}(n:Str)(f:Option DictEntry→DictEntry)(es:List DictEntry):∀k:List DictEntry→Bool→R,putR n f es k=k (nsPutIn n.cps.size n.cps.toList f es).1 (nsPutIn n.cps.size n.cps.toList f es).2:=by
 induction es with
 |nil=>exact λk=>rfl
 |cons e r ih=>
  intro k
  show @Bool.rec (λ_=>R) (putR n f r (λr a=>k (e::r) a)) (k (f (some e)::r) false) (isN n e.key)=_
  rw[nsPutIn,qco,ih]
  cases isN n e.key<;>rfl
noncomputable def pnF(h:Int)(key v:Value)(o:Option DictEntry):DictEntry:=match o with|some e=>{e with val:=v}|none=>⟨h,key,v⟩
def pnQ(name:Str)(h:Int)(key v:Value)(o:Obj):Obj:=match o with
 |⟨c,d,.dict es n,s⟩=>putR name (pnF h key v) es.toList (λl a=>⟨c,d,.dict ⟨l⟩ (@Bool.rec (λ_=>Nat) n (n+1) a),s⟩)
 |o=>o
theorem qfC:Obj.putName=pnQ:=by
 funext name h key v o
 obtain⟨c,d,dt,s⟩:=o
 cases dt with
 |dict es n=>
  show Obj.putName name h key v _=putR name (pnF h key v) es.toList (λl a=>⟨c,d,.dict ⟨l⟩ (@Bool.rec (λ_=>Nat) n (n+1) a),s⟩)
  rw[qdn]
  show (match nsPutIn name.cps.size name.cps.toList (pnF h key v) es.toList with
   |(es',false)=>(⟨c,d,.dict es'.toArray n,s⟩:Obj)
   |(es',true)=>⟨c,d,.dict es'.toArray (n+1),s⟩)=_
  generalize nsPutIn name.cps.size name.cps.toList (pnF h key v) es.toList=x
  obtain⟨l,a⟩:=x
  cases a<;>rfl
 |_=>rfl
def rkN(l:Str)(es:List DictEntry):Bool→Bool:=@List.rec DictEntry (λ_=>Bool→Bool) (λb=>b) (λe _ ih b=>@Value.rec (λ_=>Bool) (ih b) (ih b) (ih b) (λ_=>ih b) (λ_ _=>ih b) (λ_ _=>ih b) (λs _=>@Bool.rec (λ_=>Bool) (ih b) false (sEq s l)) (λ_ _=>ih b) (λ_=>ih b) (λ_=>ih b) (λ_=>ih true) e.key) es
theorem qft(n:Str)(es:List DictEntry):∀b,(match nsNameIn n.cps.size n.cps.toList es b with|(none,true)=>true|_=>false)=rkN n es b:=by
 induction es with
 |nil=>intro b;cases b<;>rfl
 |cons e r ih=>
  intro b
  rw[nsNameIn,qco]
  obtain⟨h,key,v⟩:=e
  cases key with
  |str s t=>
   show (match if isN n (.str s t)=true then _ else nsNameIn n.cps.size n.cps.toList r (b||false) with|(none,true)=>true|_=>false)=@Bool.rec (λ_=>Bool) (rkN n r b) false (sEq s n)
   rw[Bool.or_false]
   show (match if sEq s n=true then _ else nsNameIn n.cps.size n.cps.toList r b with|(none,true)=>true|_=>false)=_
   cases sEq s n with
   |true=>rfl
   |false=>exact ih b
  |ref a=>exact(congrArg (λb=>(match nsNameIn n.cps.size n.cps.toList r b with|(none,true)=>true|_=>false)) (Bool.or_true b)).trans (ih true)
  |_=>exact(congrArg (λb=>(match nsNameIn n.cps.size n.cps.toList r b with|(none,true)=>true|_=>false)) (Bool.or_false b)).trans (ih b)
def rkQ(name:Str)(es:Array DictEntry):Bool:=rkN name es.toList false
theorem qfs:aRefKeyMayBeTheName=rkQ:=by
 funext name es
 unfold rkQ
 rw[←qft name es.toList false]
 unfold aRefKeyMayBeTheName
 generalize nsNameIn name.cps.size name.cps.toList es.toList false=x
 obtain⟨a,b⟩:=x
 cases a<;>cases b<;>rfl
def nst:{f // tw1291218889547360412=f}:=⟨_,by delta tw1291218889547360412;rw[qfC,qfs]⟩
abbrev nEq:=sEq
theorem q9u{a b:Str}:nEq a b=true↔a=b:=PySem.W.Fast.sEq_iff
def lkR(l:List (Str×NameKind))(x:Str):Option NameKind:=@List.rec (Str×NameKind) (λ_=>Option NameKind) none (λp _ ih=>@Bool.rec (λ_=>Option NameKind) ih (some p.2) (nEq p.1 x)) l
def koX(env:Env)(x:Str):Option NameKind:=lkR env.scope.names x
theorem qck:tw4777696345729990297=koX:=by
 funext env x
 show @List.lookup Str NameKind (@instBEqOfDecidableEq Str sDec) x env.scope.names=lkR env.scope.names x
 rw[←sDec_eq]
 generalize env.scope.names=l
 induction l with
 |nil=>rfl
 |cons p r ih=>
  rw[List.lookup_cons,ih]
  show _=@Bool.rec (λ_=>Option NameKind) (lkR r x) (some p.2) (nEq p.1 x)
  by_cases h:p.1=x
  ·rw[q9u.mpr h,h,beq_self_eq_true]
  ·rw[beq_eq_false_iff_ne.mpr (Ne.symm h),Bool.eq_false_iff.mpr λz=>h (q9u.mp z)]
def qnt:{f // tw17798618104000559429=f}:=⟨_,by delta tw17798618104000559429;rw[qck]⟩
def sot:{f // tw7998390705656384164=f}:=⟨_,by delta tw7998390705656384164;rw[qck,nst.2]⟩
def bnt:{f // tw7536695828754713326=f}:=⟨_,by delta tw7536695828754713326;rw[sot.2]⟩
def fct:{f // tw4592576987598556484=f}:=⟨_,by delta tw4592576987598556484;rw[cat.2,lnt.2]⟩
def mft:{f // tw8546552352650244325=f}:=⟨_,by delta tw8546552352650244325;rw[fct.2]⟩
def exF(name:Str)(args:Arguments)(body:List Stmt)(ret:Option Expr)(sc:Scope)(pos:Pos):{f:Env→Sem Flow // ∀env,exec (.FunctionDef name args body [] ret [] sc none name pos) env=f env}:=⟨λenv=>_,λenv=>by
 rw[exec_def,te8546552352650244325,mft.2,te7536695828754713326,bnt.2,te17798618104000559429,qnt.2,te9800728527408917180,te4917430192134338378,te1829332135585798198,te5233268223049098772,te12456147031677567982,te17359229931016689406]⟩
def exA(x:Str)(p v q):{f:Env→Sem Flow // ∀env,exec (.Assign [.Name x p] v q) env=f env}:=⟨λenv=>_,λenv=>by
 rw[arm_exec_Assign,show assignEach [.Name x p] env=[(false,λv=>standAt p>>=λ_=>bindName env x v)] from rfl,te7783108440312521181,te1406442740598737775,te15591190973536708279,te14044960220447912780,te4016559146275205325,te2470068587113613483,te7536695828754713326,bnt.2,te12456147031677567982]⟩
def exT:{f // exec=f}:=⟨_,by delta exec;rw[te16923920778897380256,te10770676240071011989,te15222782629477858683]⟩
def exX(s:Stmt)(env:Env):Sem Flow:=match s with
 |.FunctionDef n a b d r t sc ts bi pos=>(match d,t,ts with
  |[],[],none=>@Bool.rec (λ_=>Sem Flow) (exT.1 s env) ((exF n a b r sc pos).1 env) (sEq n bi)
  |_,_,_=>exT.1 s env)
 |.Assign [.Name x p] v q=>(exA x p v q).1 env
 |s=>exT.1 s env
theorem qgs(s:Stmt)(env:Env):exec s env=exX s env:=by
 have e:exec s env=exT.1 s env:=congrFun (congrFun exT.2 s) env
 cases s with
 |FunctionDef n a b d r t sc ts bi pos=>
  cases d with
  |nil=>cases t with
   |nil=>cases ts with
    |none=>
     show _=@Bool.rec (λ_=>Sem Flow) _ _ (sEq n bi)
     cases h:sEq n bi with
     |false=>exact e
     |true=>
      obtain rfl:n=bi:=PySem.W.Fast.sEq_iff.mp h
      exact(exF n a b r sc pos).2 env
    |some _=>exact e
   |cons _ _=>exact e
  |cons _ _=>exact e
 |Assign ts v q=>cases ts with
  |nil=>exact e
  |cons t r=>cases t with
   |Name x p=>cases r with
    |nil=>exact(exA x p v q).2 env
    |cons _ _=>exact e
   |_=>exact e
 |_=>exact e
def exsX(l:List Stmt):Env→Sem Flow:=@List.rec Stmt (λ_=>Env→Sem Flow) (λ_=>pure .next) (λs _ ih env=>R.bindR (exX s env) λf=>match f with|.next=>ih env|f=>pure f) l
theorem qe2:execs=exsX:=by
 funext l
 induction l with
 |nil=>rfl
 |cons s r ih=>
  funext env
  show (exec s env).bind _=R.bindR (exX s env) _
  rw[qgs]
  refine (congrFun (congrFun (congrFun (congrFun R.bindR_eq Flow) Flow) _) _).trans (congrArg (R.bindR (exX s env)) (funext λf=>?_))
  cases f with
  |next=>exact congrFun ih env
  |_=>rfl
def dbT(tb:String→Option Builtin):{f:List Stmt→Env→Sem Fin // ∀s e,tw11892475500146522536 tb (.body s e)=f s e}:=⟨λs e=>_,λs e=>by
 delta tw11892475500146522536
 rw[show tw12563942051412417395=exsX from te12563942051412417395.symm.trans qe2]⟩
def denX(tb:String→Option Builtin)(c:Code):Sem Fin:=match c with
 |.body s e=>(dbT tb).1 s e
 |c=>tw11892475500146522536 tb c
end
section
open PySem PySem.W PySem.Calls PyProof.Rows
abbrev qeW:=PySem.W.Fast.tw8437177126325714943
abbrev q6Z:=PySem.W.Fast.tw14364793385576792824
abbrev qcW:=PySem.W.Fast.tw6613529449190102663
section
variable{R:Type}(z:R)
noncomputable def natC(m:Nat)(k:Nat→R):R:=@Nat.rec (λ_=>R) (k 0) (λp _=>k (Nat.succ p)) m
def ifC(b:Bool)(t:R):R:=@Bool.rec (λ_=>R) z t b
def qbp{α:Type}(l:List α):(List α→R)→R:=@List.rec α (λ_=>(List α→R)→R) (λk=>k []) (λa _ ih k=>ih (λr=>k (a::r))) l
def arrC{α:Type}(a:Array α)(k:Array α→R):R:=@Array.rec α (λ_=>R) (λl=>qbp l (λl=>k ⟨l⟩)) a
def qgx(l:List DictEntry):(List DictEntry→R)→R:=@List.rec DictEntry (λ_=>(List DictEntry→R)→R) (λk=>k []) (λa _ ih k=>@DictEntry.rec (λ_=>R) (λh b c=>ih (λr=>k (⟨h,b,c⟩::r))) a) l
def qa5(d:Data)(k:Data→R):R:=match d with
 |.seq xs n=>arrC xs (λxs=>natC n (λn=>k (.seq xs n)))
 |.dict es n=>@Array.rec DictEntry (λ_=>R) (λl=>qgx l (λl=>natC n (λn=>k (.dict ⟨l⟩ n)))) es
 |.fields vs=>arrC vs (λvs=>k (.fields vs))
 |d=>k d
def objC(o:Obj)(k:Obj→R):R:=match o with
 |⟨c,d,dt,sl⟩=>qa5 dt (λdt=>k ⟨c,d,dt,sl⟩)
def putC(t:BT):Nat→Obj→(BT→R)→R:=@BT.rec (λ_=>Nat→Obj→(BT→R)→R) (λ_ o k=>k (.node o .nil .nil))
 (λv l r il ir i o k=>@Bool.rec (λ_=>R) (@Bool.rec (λ_=>R) (ir (i/2-1) o (λr=>k (.node v l r))) (il (i/2) o (λl=>k (.node v l r))) (Nat.beq (i%2) 1)) (k (.node o l r)) (Nat.beq i 0)) t
def getC(t:BT):Nat→(Obj→R)→R:=@BT.rec (λ_=>Nat→(Obj→R)→R) (λ_ _=>z)
 (λv _ _ il ir i k=>@Bool.rec (λ_=>R) (@Bool.rec (λ_=>R) (ir (i/2-1) k) (il (i/2) k) (Nat.beq (i%2) 1)) (k v) (Nat.beq i 0)) t
noncomputable def qav(o:Obj)(k:R):R:=match o with
 |⟨_,_,.freed,_⟩=>z
 |_=>k
def newC(T:BT)(n:Nat)(o:Obj)(k:BT→R):R:=putC T n o (λT=>getC z T n (λ_=>k T))
def ofC(l:List Obj):Nat→BT→(BT→Nat→R)→R:=@List.rec Obj (λ_=>Nat→BT→(BT→Nat→R)→R) (λi t k=>k t i) (λo _ ih i t k=>newC z t i o (λt=>natC (i+1) (λi=>ih i t k))) l
noncomputable abbrev GoT(R:Type):=BT→Nat→Array GenState→Drawn→Nat→OsState→Sem PySem.Fin→Code→Pos→List Frame→R
noncomputable abbrev ActT(R:Type):=Program→World→Nat→Option Value→(BT→Nat→Array GenState→Drawn→Nat→OsState→R)→GoT R→BT→Nat→Array GenState→Drawn→Nat→OsState→Code→Pos→List Frame→R
noncomputable def mEnd:ActT R:=λ_ _ _ _ _ _ _ _ _ _ _ _ _ _ _=>z
def qdG(f:PySem.Fin):ActT R:=λp w m₀ ann _ go T n gens drawn toks os code pos stack=>
 ifC z (qcW m₀ ann ⟨.pure f,code,pos,stack⟩) (match qeW (denX q6Z) p w ⟨{},gens,drawn,toks,os⟩ ⟨.pure f,code,pos,stack⟩ with
   |.go ⟨_,gens,drawn,toks,os⟩ ⟨cur,code,pos,stack⟩=>natC toks (λtoks=>go T n gens drawn toks os cur code pos stack)
   |.halt _ _=>z)
noncomputable def qhk(f:Flow):ActT R:=λ_ _ _ _ fin go T n gens drawn toks os _ _ stack=>match stack with
 |[]=>fin T n gens drawn toks os
 |.ret k _ _ _ c p _::rest=>go T n gens drawn toks os (k (.ok f)) c p rest
 |_=>z
def qhi(f:PySem.Fin):ActT R:=match f with
 |.done f=>qhk z f
 |.again c=>qdG z (.again c)
noncomputable def qfU(e:Value):ActT R:=λ_ _ _ _ _ go T n gens drawn toks os _ _ stack=>match stack with
 |.ret k _ _ _ c p _::rest=>go T n gens drawn toks os (k (.error e)) c p rest
 |_=>z
noncomputable def qfS(k:Unit→Sem PySem.Fin):ActT R:=λ_ _ _ _ _ go T n gens drawn toks os code pos stack=>go T n gens drawn toks os (k ()) code pos stack
noncomputable def mAt(q:Pos)(k:Unit→Sem PySem.Fin):ActT R:=λ_ _ _ _ _ go T n gens drawn toks os code _ stack=>go T n gens drawn toks os (k ()) code q stack
def qfV(a:Addr)(k:Obj→Sem PySem.Fin):ActT R:=λ_ _ _ _ _ go T n gens drawn toks os code pos stack=>
 ifC z (Nat.blt a n) (getC z T a (λo=>qav z o (go T n gens drawn toks os (k o) code pos stack)))
def mUpd(a:Addr)(f:Obj→Obj)(k:Unit→Sem PySem.Fin):ActT R:=λ_ _ m₀ ann _ go T n gens drawn toks os code pos stack=>
 ifC z (Nat.ble m₀ a||a==mainNs||a==cStatics||ann==some (.ref a)) (ifC z (Nat.blt a n) (getC z T a (λo=>qav z o (objC (f o) (λo=>putC T a o (λT=>go T n gens drawn toks os (k ()) code pos stack))))))
def qfZ(o:Obj)(k:Addr→Sem PySem.Fin):ActT R:=λ_ _ _ _ _ go T n gens drawn toks os code pos stack=>
 objC o (λo=>newC z T n o (λT=>natC (n+1) (λm=>go T m gens drawn toks os (k n) code pos stack)))
noncomputable def qfX(k:Tok→Sem PySem.Fin):ActT R:=λ_ _ _ _ _ go T n gens drawn toks os code pos stack=>natC (toks+1) (λm=>go T n gens drawn m os (k toks) code pos stack)
noncomputable def mAsk(k:Setting→Sem PySem.Fin):ActT R:=λp w _ _ _ go T n gens drawn toks os code pos stack=>go T n gens drawn toks os (k ⟨p,w.params⟩) code pos stack
def qdH(c:Code)(h:Option Value)(g:Bool)(l:List Value)(k:Result→Sem PySem.Fin):ActT R:=λ_ _ _ _ _ go T n gens drawn toks os code pos stack=>
 go T n gens drawn toks os (denX q6Z c) c pos (.ret k h g l code pos (match c,code with
   |.builtin _ a,_=>unmarked a.refs
   |.call f a,.builtin ..|.call f a,.call ..=>unmarked (if l.contains borrowed then a.refs else f::a.refs)
   |_,_=>[])::stack)
noncomputable def qhj(own:Bool)(k:Option Value→Sem PySem.Fin):ActT R:=λ_ _ _ _ _ go T n gens drawn toks os code pos stack=>
 go T n gens drawn toks os (k (topHandled (if own then(match splitAtGen stack with|some (fs,_,_)=>fs|none=>stack) else stack))) code pos stack
noncomputable def qfT(k:List (Code×Pos)→Sem PySem.Fin):ActT R:=λ_ _ _ _ _ go T n gens drawn toks os code pos stack=>go T n gens drawn toks os (k ((code,pos)::stack.map Frame.where_)) code pos stack
def actC(cur:Sem PySem.Fin):ActT R:=@Sem.rec PySem.Fin (λ_=>ActT R) (qhi z) (qfU z) (λ_=>mEnd z) (λ_=>mEnd z) (λ_ k _=>qfS k) (λq k _=>mAt q k) (λa _ k _=>qfV z a k) (λa _ f k _=>mUpd z a f k) (λo k _=>qfZ z o k)
 (λa k _=>qfV z a (λo=>k (some o))) (λ_ k _=>qfS k) (λ_ _ _=>mEnd z) (λk _=>qfX k) (λk _=>mAsk k) (λ_ _ _ _=>mEnd z) (λ_ _ _ _=>mEnd z) (λc h g l k _=>qdH c h g l k) (λo k _=>qhj o k)
 (λ_ _ _=>mEnd z) (λ_ _ _=>mEnd z) (λ_ _ _ _ _=>mEnd z) (λ_ _ _ _ _=>mEnd z) (λk _=>qfT k) (λ_ _ _=>mEnd z) (λ_ _=>mEnd z) (λ_ _ _ _ _ _=>mEnd z) cur
def goC(p:Program)(w:World)(m₀:Nat)(ann:Option Value)(fin:BT→Nat→Array GenState→Drawn→Nat→OsState→R)(N:Nat):GoT R:=@Nat.rec (λ_=>GoT R) (λ_ _ _ _ _ _ _ _ _ _=>z) (λ_ ih T n gens drawn toks os cur code pos stack=>
 actC z cur p w m₀ ann fin ih T n gens drawn toks os code pos stack) N
def qdZ(p:Program)(w:World)(N:Nat)(h:Heap)(os:OsState)(f:Shared→R):R:=ofC z h.objs.toList 0 .nil (λT m=>goC z p w m (h.nsMap mainGlobals "__annotations__")
 (λT n gens drawn toks os=>qbp (T.list n) (λl=>f ⟨⟨⟨l⟩,h.life⟩,gens,drawn,toks,os⟩)) N T m (Array.mk []) boot_drawn boot_toks os (topStub p).cur (topStub p).code (topStub p).pos (topStub p).stack)
end
end
section
set_option backward.match.sparseCases false
open PySem PySem.W
def sEq(a b:Str):Bool:=PySem.W.Fast.sEq a b
def nixL(c:Nat)(x:Str)(l:List Str):Nat→Option Nat:=@List.rec Str (λ_=>Nat→Option Nat) (λ_=>none) (λs _ ih i=>@Bool.rec (λ_=>Option Nat) (ih (Nat.succ i)) (@Bool.rec (λ_=>Option Nat) none (natC (Nat.add i 0) some) (sEq s x)) (Nat.beq (PySem.W.Fast.code s.cps.toList) c)) l
def nix(x:Str):Option Nat:=nixL (PySem.W.Fast.code x.cps.toList) x nmS 0
def lkS(l:List (Str×NameKind))(x:Str):Option NameKind:=@List.rec (Str×NameKind) (λ_=>Option NameKind) none (λp _ ih=>@Bool.rec (λ_=>Option NameKind) ih (some p.2) (sEq p.1 x)) l
noncomputable abbrev Ob:=List (Nat×Fn)
noncomputable abbrev Ou(α:Type):=Option (α×Ob)
section
variable{α β γ δ ε:Type}
noncomputable def u0(a:α):Ou α:=some (a,[])
noncomputable def u1(o:Ou α)(f:α→β):Ou β:=match o with|some (a,l)=>some (f a,l)|none=>none
noncomputable def u2(o:Ou α)(p:Ou β)(f:α→β→γ):Ou γ:=match o with
 |some (a,l)=>(match p with|some (b,m)=>some (f a b,l++m)|none=>none)
 |none=>none
noncomputable def u3(o:Ou α)(p:Ou β)(q:Ou γ)(f:α→β→γ→δ):Ou δ:=u2 (u2 o p λa b=>(a,b)) q λa c=>f a.1 a.2 c
noncomputable def u4(o:Ou α)(p:Ou β)(q:Ou γ)(r:Ou δ)(f:α→β→γ→δ→ε):Ou ε:=u2 (u2 o p λa b=>(a,b)) (u2 q r λa b=>(a,b)) λa c=>f a.1 a.2 c.1 c.2
noncomputable def ug(b:Bool)(o:Ou α):Ou α:=match b with|true=>o|false=>none
noncomputable def uo(o:Option β)(f:β→Ou α):Ou α:=match o with|some b=>f b|none=>none
end
noncomputable def gO{α:Type}(b:Bool)(o:Option α):Option α:=match b with|true=>o|false=>none
set_option genSizeOfSpec false in
set_option genInjectivity false in
inductive XK where
 |nam (x:Str) (p:Pos)|con (k:Const) (n:Nat) (p:Pos)|cal (f:Expr) (a:List Expr) (k:List Keyword) (p:Pos)|tup (a:List Expr) (k:Nat) (p:Pos)|com (a:Expr) (g:List Comprehension) (s:Scope) (p:Pos)
 |sli (a b d:Option Expr) (p:Pos)|una (o:UnaryOp) (e:Expr) (p:Pos)|cmp|sta|set|lis|oth
noncomputable def xk(e:Expr):XK:=match e with
 |.Name x p=>.nam x p
 |.Constant k n p=>.con k n p
 |.Call f a k p=>.cal f a k p
 |.Tuple a k p=>.tup a k p
 |.ListComp a g s p=>.com a g s p
 |.Slice a b d p=>.sli a b d p
 |.UnaryOp op e p=>.una op e p
 |.SetComp ..=>.cmp
 |.DictComp ..=>.cmp
 |.Starred ..=>.sta
 |.Set ..=>.set
 |.List ..=>.lis
 |_=>.oth
noncomputable def one?{α:Type}(l:List α):Option α:=match l with|a::r=>(match r with|[]=>some a|_::_=>none)|[]=>none
noncomputable def q3l(e:Expr):Option (Str×Pos):=match xk e with|.nam x p=>some (x,p)|_=>none
noncomputable def qg8(k:Const):Option Str:=match k with|.str z=>some z|_=>none
noncomputable def qaF(e:Expr):Option (Const×Nat×Pos):=match xk e with|.con k n p=>some (k,n,p)|_=>none
def qaE(e:Expr):Option (Str×Nat×Pos):=oO (qaF e) λr=>oO (qg8 r.1) λz=>some (z,r.2.1,r.2.2)
noncomputable def q8C(e:Expr):Option (Expr×List Expr×List Keyword×Pos):=match xk e with|.cal f a k p=>some (f,a,k,p)|_=>none
def q7H(e:Expr):Option (Str×Pos×List Expr×Pos):=oO (q8C e) λr=>oO (q3l r.1) λn=>gO r.2.2.1.isEmpty (some (n.1,n.2,r.2.1,r.2.2.2))
noncomputable def q39(e:Expr):Option (List Expr×Nat×Pos):=match xk e with|.tup a k p=>some (a,k,p)|_=>none
noncomputable def qaG(e:Expr):Option (Expr×List Comprehension×Scope×Pos):=match xk e with|.com a g s p=>some (a,g,s,p)|_=>none
noncomputable def q5k(e:Expr):Option (Option Expr×Option Expr×Option Expr×Pos):=match xk e with|.sli a b d p=>some (a,b,d,p)|_=>none
noncomputable def qdR(e:Expr):Bool:=match xk e with|.lis=>true|_=>false
noncomputable def sRe?(s:Stmt):Option (Expr×Pos):=match s with|.Return o p=>(match o with|some e=>some (e,p)|none=>none)|_=>none
noncomputable def exH?(x:ExceptHandler):Option (Expr×List Stmt×Pos):=match x with|.ExceptHandler t n b p=>(match t with|some e=>(match n with|none=>some (e,b,p)|some _=>none)|none=>none)
noncomputable def q8U(v:SV):Option Addr:=match v with|.old C=>some C|_=>none
structure Comp where
 x:Scope→Expr→Ou XC
 t:Scope→Expr→Ou TC
 a:Scope→Expr→Ou AC
 s:Scope→Stmt→Ou SC
section
variable(c:Comp)
noncomputable def q0Z(e:Expr):Bool:=match xk e with|.sta=>true|_=>false
noncomputable def q53(e:Expr):Bool:=match xk e with|.set=>true|_=>false
noncomputable def q1U(e:Expr):Bool:=match xk e with|.com ..=>true|.cmp=>true|_=>false
noncomputable def q5J(e:Expr):Bool:=match xk e with|.nam ..=>true|_=>false
noncomputable def qan(e:Expr):Bool:=match xk e with|.cal f a k _=>!(q5J f&&(a.isEmpty&&k.isEmpty))|_=>true
def q6x(e:Expr)(y:Str):Bool:=oB (q3l e) λn=>sEq n.1 y
noncomputable def cxs(sc:Scope):List Expr→Ou XsC
 |[]=>u0 xNil
 |e::es=>ug (!q0Z e) (u2 (c.x sc e) (cxs sc es) q4H)
noncomputable def cts(sc:Scope)(op:BoolOp):List Expr→Ou TC
 |[]=>u0 (match op with|.And=>tT|.Or=>tF)
 |e::es=>u2 (c.t sc e) (cts sc op es) (match op with|.And=>tAnd|.Or=>tOr)
noncomputable def cas(sc:Scope):List Expr→Ou AsC
 |[]=>u0 qbX
 |e::es=>ug (!q0Z e) (u2 (c.a sc e) (cas sc es) q7I)
noncomputable def cds(sc:Scope):List (Option Expr)→List Expr→Ou (XdC×List (List Nat))
 |[],es=>(match es with|[]=>u0 (dNil,[])|_::_=>none)
 |k::ks,es=>(match es with
  |e::es=>uo (oO k qaE) λz=>ug (Nat.ble z.1.cps.toList.length 4096) (u2 (c.x sc e) (cds sc ks es) λx r=>(qgz z.1.cps.toList x r.1,z.1.cps.toList::r.2))
  |[]=>none)
noncomputable def cB(sc:Scope):List Stmt→Ou SC
 |[]=>u0 sNil
 |st::l=>u2 (c.s sc st) (cB sc l) sSeq
noncomputable def cO(sc:Scope)(e:Option Expr):Ou XC:=match e with|none=>u0 (cC .none)|some e=>c.x sc e
noncomputable def qcm(k:Const):Ou XC:=match k with
 |.none=>u0 (cC .none)
 |.bool b=>u0 (cC (.bool b))
 |.int i=>ug (Nat.blt i.natAbs 2305843009213693952) (u0 (cC (.int (.lit i))))
 |.str s=>ug (Nat.ble s.cps.toList.length 4096) (u0 (cC (.str s.cps.toList)))
 |.bytes q=>ug (Nat.ble q.length 4096) (u0 (cC (.bytes (q.map λb=>.lit (.ofNat b.toNat)))))
 |_=>none
noncomputable def kdL(k:NameKind):Bool:=match k with|.local=>true|_=>false
noncomputable def kdG(k:NameKind):Bool:=match k with|.globalImplicit=>true|_=>false
noncomputable def kdC(k:NameKind):Bool:=match k with|.cell=>true|_=>false
def q1i(sc:Scope)(x:Str):Bool:=oB (lkS sc.names x) kdG
def q1T(sc:Scope)(x:Str):Bool:=oB (lkS sc.names x) kdL
noncomputable def q6N(b:FuncBody):Option (List Stmt):=match b with|.stmts l=>some l|_=>none
def qg9(sc:Scope)(x:Str):Ou XC:=uo (nix x) λi=>match lkS sc.names x with
 |some .local=>u0 (cLoc i)
 |some .cell=>u0 (cCel i)
 |some .free=>u0 (cCel i)
 |some .globalImplicit=>uo (alook glo i) λy=>u0 (cC y)
 |_=>none
def opF(op:Operator):Option (S→SV→SV→KV→Bool):=match op with
 |.Add=>some (bAdd tb)|.Sub=>some bSub|.Mult=>some bMul|.FloorDiv=>some bDiv|.Mod=>some bMod|.Pow=>some bPow|_=>none
def cmF(op:CmpOp):S→SV→SV→Option Bool:=match op with
 |.Eq=>qEq tb|.NotEq=>qNe tb|.Lt=>qLt|.LtE=>qLe|.Gt=>qGt tb|.GtE=>qGe|.Is=>qIs|.IsNot=>qNis|.In=>qIn tb|.NotIn=>qNin tb
def qbZ(es:List Expr):Option (Expr×Expr):=oO (one? es) λe=>oO (q7H e) λr=>(match r.2.2.1 with
 |a::l=>oO (one? l) λb=>gO (sEq r.1 "zip") (some (a,b))
 |[]=>none)
def kExc(sc:Scope)(es:List Expr):Ou XC:=match es with
 |[a,b]=>ug (q1i sc "Exception"&&!q0Z a&&!q0Z b) (u2 (c.x sc a) (c.x sc b) qgE)
 |_=>none
def kMet(sc:Scope)(o:Expr)(name:Str)(es:List Expr):Ou XC:=match q6x o "Exception"&&sEq name "__init__" with
 |true=>kExc c sc es
 |false=>ug (qan o&&Nat.blt es.length 30) (uo (nix name) λi=>u2 (c.x sc o) (cxs c sc es) λx as=>cMet tb x i as)
def kCal(sc:Scope)(f:Expr)(es:List Expr):Ou XC:=u2 (c.x sc f) (cxs c sc es) cCal
def kNam(sc:Scope)(f:Expr)(es:List Expr):Ou XC:=match q6x f "list" with
 |true=>(match qbZ es with
  |some (r,x)=>ug (q1i sc "list"&&q1i sc "zip"&&!q0Z r&&!q0Z x) (u2 (c.x sc r) (c.x sc x) cLZ)
  |none=>kCal c sc f es)
 |false=>kCal c sc f es
def qgb(sc:Scope)(f:Expr)(es:List Expr)(pos:Pos):Ou XC:=match f with
 |.Attribute o name apos=>ug (apos.endLine==pos.line) (kMet c sc o name es)
 |.Name x p=>kNam c sc (.Name x p) es
 |.Call f' es' ks p=>kCal c sc (.Call f' es' ks p) es
 |_=>none
noncomputable def qga(k:Const):Option Int:=match k with|.int z=>some z|_=>none
noncomputable def qcF(e:Expr):Option (Expr×Pos):=match xk e with|.una o x p=>(match o with|.USub=>some (x,p)|_=>none)|_=>none
def qgg(e:Expr):Bool:=oB (qcF e) λr=>oB (qaF r.1) λk=>oB (qga k.1) λi=>i==1
def kSub(sc:Scope)(v sl:Expr):Ou XC:=match q5k sl with
 |some r=>(match r.2.2.1 with
  |none=>u3 (c.x sc v) (cO c sc r.1) (cO c sc r.2.1) cSli
  |some st=>ug (qgg st&&(r.1.isNone&&r.2.1.isNone)) (u1 (c.x sc v) cRev))
 |none=>u2 (c.x sc v) (c.x sc sl) (cSub tb)
noncomputable def isNo(o:Option Addr):Bool:=match o with|none=>true|_=>false
def frees(l:List (Str×NameKind)):List Nat:=l.filterMap λx=>match x.2 with|.free=>nix x.1|_=>none
noncomputable def kIfs(sc:Scope)(ifs:List Expr):Ou TC:=match ifs with|[]=>u0 tT|[e]=>c.t sc e|_=>none
def kCom(sc:Scope)(elt target iter:Expr)(ifs:List Expr)(scope:Scope):Ou XC:=
 ug (q4z (frees scope.names) sc scope&&isNo (scode (relS scope sc))&&!q53 iter) (u4 (c.x (relS scope sc) elt) (c.a (relS scope sc) target) (c.x sc iter) (kIfs c (relS scope sc) ifs) λx t y f=>cCom tb x t y f)
def tmIx(l:List (Nat×Nat))(pos:Pos):Option Nat:=alook l (pos.line*1000+pos.col)
noncomputable def q3A(a:Arguments):Bool:=match a with|⟨p,a,v,k,d,w,e⟩=>p.isEmpty&&(a.isEmpty&&(v.isNone&&(k.isEmpty&&(d.isEmpty&&(w.isNone&&e.isEmpty)))))
noncomputable def qey(sc:Scope)(b:FuncBody):Ou SC:=match b with
 |.stmts l=>cB c sc l
 |.expr e=>u1 (c.x sc e) sRet
noncomputable def qgT(sc:Scope):Bool:=(sc.kind==.function)&&!sc.isCoroutine&&!sc.isGenerator&&isNo (scode sc)&&sc.names.all λx=>x.2 != .cell
def cTm(a:Arguments)(b:FuncBody)(sc:Scope):Option Fn:=gO (q3A a&&qgT sc) (oO (qey c sc b) λr=>gO r.2.isEmpty (some ⟨[],[],r.1,[]⟩))
def qgU(sc:Scope):Option (Addr×Addr):=oO (scode sc) λa=>tabs.find? λq=>Nat.beq q.1 a
def kTm(sc scope:Scope)(a:Arguments)(b:FuncBody)(name:Str)(pos:Pos)(l:List (Nat×Nat)):Option (Nat×Fn):=gO (q36 (frees scope.names) sc scope) (oO (qgU sc) λq=>
 gO (sEq (squal q.1++".<locals>."++name) (tqual q.1 pos.line)) (oO (tmIx l pos) λi=>oO (cTm c a b scope) λf=>some (i,f)))
section
variable(ix:List (Nat×Nat))
def kUn(sc:Scope)(op:UnaryOp)(e:Expr):Ou XC:=match op with
 |.Not=>u1 (c.x sc e) cNot
 |.USub=>u1 (c.x sc e) cNeg
 |_=>none
def kBoo(sc:Scope)(op:BoolOp)(es:List Expr):Ou XC:=match es with
 |[l,r]=>u2 (c.x sc l) (c.x sc r) (match op with|.And=>cAnd|.Or=>cOr)
 |[l,m,r]=>(match op with|.And=>u2 (c.x sc l) (u2 (c.x sc m) (c.x sc r) cAnd) cAnd|.Or=>none)
 |_=>none
def kCmp(sc:Scope)(l:Expr)(ops:List CmpOp)(rs:List Expr):Ou XC:=match ops,rs with
 |[op],[r]=>ug (!q53 r) (u2 (c.x sc l) (c.x sc r) (cCmp (cmF op)))
 |_,_=>none
def kDic(sc:Scope)(ks:List (Option Expr))(es:List Expr):Ou XC:=match ks,es with
 |[],[]=>u0 qgF
 |k::ks,es=>uo (cds c sc (k::ks) es) λr=>ug (decide (r.1.2.Nodup)&&Nat.ble (k::ks).length 15) (some (cDic r.1.1,r.2))
 |_,_=>none
def kLC(sc:Scope)(elt:Expr)(g:List Comprehension)(scope:Scope):Ou XC:=match g with
 |[⟨target,iter,ifs,0⟩]=>kCom c sc elt target iter ifs scope
 |_=>none
def qeU(sc:Scope)(e:Expr):Ou XC:=match e with
 |.Constant k _ _=>qcm k
 |.Name x _=>qg9 sc x
 |.BinOp l op r _=>uo (opF op) λf=>u2 (c.x sc l) (c.x sc r) (cBin f)
 |.UnaryOp op e _=>kUn c sc op e
 |.BoolOp op es _=>kBoo c sc op es
 |.Compare l ops rs _=>kCmp c sc l ops rs
 |.IfExp t a b _=>u3 (c.t sc t) (c.x sc a) (c.x sc b) cIfe
 |.Tuple es _ _=>u1 (cxs c sc es) cTup
 |.List es _=>u1 (cxs c sc es) cLst
 |.Dict ks es _=>kDic c sc ks es
 |.Attribute v a _=>ug (qan v) (uo (nix a) λi=>u1 (c.x sc v) λx=>cAtt tb x i)
 |.Subscript v sl _=>kSub c sc v sl
 |.Call f es ks pos=>(match ks with|[]=>qgb c sc f es pos|_=>none)
 |.ListComp elt g scope _=>kLC c sc elt g scope
 |.Lambda a b scope pos=>uo (kTm c sc scope a (.expr b) "<lambda>" pos ix) λr=>some (cLam r.1,[r])
 |_=>none
noncomputable def kTUn(sc:Scope)(op:UnaryOp)(e:Expr):Ou TC:=match op with
 |.Not=>u1 (c.t sc e) tNot
 |_=>none
def qg7(sc:Scope)(l:Expr)(ops:List CmpOp)(rs:List Expr):Ou TC:=match ops,rs with
 |[op],[r]=>ug (!q53 r) (u2 (c.x sc l) (c.x sc r) (tCmp (cmF op)))
 |[op,oq],[m,r]=>ug (!q53 r) (u3 (c.x sc l) (c.x sc m) (c.x sc r) (qeA (cmF op) (cmF oq)))
 |_,_=>none
def qc9(sc:Scope)(e:Expr):Ou TC:=match e with
 |.UnaryOp op e _=>kTUn c sc op e
 |.BoolOp op es _=>cts c sc op es
 |.Compare l ops rs _=>qg7 c sc l ops rs
 |.IfExp ..=>none
 |e=>u1 (c.x sc e) tAny
def kAN(sc:Scope)(x:Str):Ou AC:=uo (nix x) λi=>(match lkS sc.names x with|some .local=>u0 (aLoc i)|some .cell=>u0 (aCel i)|_=>none)
def qdO(sc:Scope)(v sl:Expr):Ou AC:=match q5k sl with
 |some r=>ug r.2.2.1.isNone (u3 (c.x sc v) (cO c sc r.1) (cO c sc r.2.1) aSli)
 |none=>u2 (c.x sc v) (c.x sc sl) aSub
def qeX(sc:Scope)(e:Expr):Ou AC:=match e with
 |.Name x _=>kAN sc x
 |.Attribute v a _=>uo (nix a) λi=>u1 (c.x sc v) λx=>aAtt tb x i
 |.Subscript v sl _=>qdO c sc v sl
 |.Tuple es _ _=>u1 (cas c sc es) λr=>aTup tb es.length r
 |_=>none
set_option backward.match.sparseCases true in
noncomputable def swK(sc:Scope)(ts vs:List Expr):Option (Option (List Str)):=
 if !(ts.length==2||ts.length==3)||vs.length != ts.length||(if sc.kind.isAnnotationScope then ScopeKind.function else sc.kind) != .function then some none
 else if vs.any (λ|.Starred ..=>true|_=>false) then some none
 else
  let line:=(ts.head?.map (·.pos.line)).getD 0
  let names:=ts.filterMap fun
   |.Name id pos=>if sc.names.lookup id==some .local&&pos.line==line then some id else none
   |_=>none
  if names.length != ts.length||names.eraseDups.length != names.length then some none
  else if vs.all (foldedForSure 8) then some none
  else if vs.all (constantsAlone 8) then none
  else some (some names)
noncomputable def cNs(sc:Scope):List Str→Ou AsC
 |[]=>u0 qbX
 |x::r=>uo (nix x) λi=>ug (q1T sc x) (u1 (cNs sc r) λa=>q7I (aLoc i) a)
def qgd(sc:Scope)(x:Str)(np cp:Pos)(elt:Expr)(g:List Comprehension)(scope:Scope):Ou SC:=match g with
 |[⟨target,iter,ifs,0⟩]=>uo (nix x) λi=>ug (q1T sc x&&np.line==cp.line&&!(scope.names.any λ(n,k)=>n==x&&(k==.local||k==.cell))) (u1 (kCom c sc elt target iter ifs scope) λy=>sAsg (aLoc i) y)
 |_=>none
noncomputable def kAs1(sc:Scope)(t e:Expr):Ou SC:=ug (!(q1U e&&q5J t)&&!q0Z t) (u2 (c.a sc t) (c.x sc e) sAsg)
def kAsT(sc:Scope)(t e:Expr)(q q':List Expr×Nat×Pos):Ou SC:=uo (swK sc q.1 q'.1) λr=>(match r with
 |none=>u2 (c.a sc t) (c.x sc e) sAsg
 |some xs=>u2 (cNs sc xs.reverse) (c.x sc e) λa y=>sAsg (qgO tb xs.length a) y)
def kAsg(sc:Scope)(t e:Expr):Ou SC:=match q39 t with
 |some q=>(match q39 e with|some q'=>kAsT c sc t e q q'|none=>kAs1 c sc t e)
 |none=>ug (!qdR t) (match qaG e with
  |some g=>(match q3l t with|some n=>qgd c sc n.1 n.2 g.2.2.2 g.1 g.2.1 g.2.2.1|none=>kAs1 c sc t e)
  |none=>kAs1 c sc t e)
def kFo1(sc:Scope)(t iter:Expr)(b:List Stmt):Ou SC:=ug (!q53 iter) (u3 (c.a sc t) (c.x sc iter) (cB c sc b) (sFor tb))
def kFor(sc:Scope)(t iter:Expr)(b:List Stmt):Ou SC:=match q7H iter with
 |some r=>(match r.2.2.1 with
  |e::l=>(match l with
   |[]=>(match sEq r.1 "enumerate" with
    |true=>ug (q1i sc "enumerate"&&q2B t&&!q0Z e) (u3 (c.a sc t) (c.x sc e) (cB c sc b) (qfp tb))
    |false=>kFo1 c sc t iter b)
   |e'::l=>(match sEq r.1 "zip" with
    |true=>ug (q1i sc "zip"&&!q0Z e&&!q0Z e'&&l.isEmpty) (u2 (c.x sc e) (c.x sc e') qfo)
    |false=>kFo1 c sc t iter b))
  |[]=>kFo1 c sc t iter b)
 |none=>kFo1 c sc t iter b
def qgr(i:Nat):Option Addr:=oO (alook glo i) λv=>oO (q8U v) λC=>oO (tb.cl C) λcl=>gO cl.isExc (some C)
def kTry(sc:Scope)(b:List Stmt)(hs:List ExceptHandler):Ou SC:=uo (one? hs) λh=>uo (exH? h) λq=>uo (q3l q.1) λn=>uo (one? q.2.1) λst=>uo (sRe? st) λr=>uo (qaE r.1) λz=>
 uo (nix n.1) λi=>uo (qgr i) λC=>ug (q1i sc n.1&&Nat.ble z.1.cps.toList.length 4096) (u1 (cB c sc b) λs=>sTri s C (.str z.1.cps.toList))
noncomputable def q3L{α:Type}(l:List α):Bool:=match l with|[]=>true|_=>false
noncomputable def kRet(sc:Scope)(o:Option Expr):Ou SC:=match o with|some e=>u1 (c.x sc e) sRet|none=>u0 qfn
def kAs(sc:Scope)(ts:List Expr)(e:Expr):Ou SC:=match ts with|[t]=>kAsg c sc t e|_=>none
def kRai(sc:Scope)(o q:Option Expr):Ou SC:=match o,q with|some e,none=>u1 (c.x sc e) sRai|_,_=>none
def kDef(sc:Scope)(name:Str)(a:Arguments)(b:List Stmt)(scope:Scope)(bind:Str)(pos:Pos):Ou SC:=
 uo (kTm c sc scope a (.stmts b) name pos ix) λr=>uo (nix bind) λj=>ug (q1T sc bind) (some (sDef r.1 (aLoc j),[r]))
def qeV(sc:Scope)(st:Stmt):Ou SC:=match st with
 |.Expr e _=>ug (!q1U e) (u1 (c.x sc e) qfq)
 |.Return o _=>kRet c sc o
 |.Assign ts e _=>kAs c sc ts e
 |.If e a b _=>u3 (c.t sc e) (cB c sc a) (cB c sc b) sIf
 |.For t i b l _=>ug (q3L l) (kFor c sc t i b)
 |.While e b l _=>ug (q3L l) (u2 (c.t sc e) (cB c sc b) sWhl)
 |.Raise o q _=>kRai c sc o q
 |.Try b hs l l' _=>ug (q3L l&&q3L l') (kTry c sc b hs)
 |.FunctionDef name a b dl rt tp scope ts bind pos=>ug (q3L dl&&q3L tp) (match rt,ts with|none,none=>kDef c ix sc name a b scope bind pos|_,_=>none)
 |_=>none
end
end
def comp(ix:List (Nat×Nat))(n:Nat):Comp:=@Nat.rec (λ_=>Comp) ⟨λ_ _=>none,λ_ _=>none,λ_ _=>none,λ_ _=>none⟩ (λ_ c=>⟨qeU c ix,qc9 c,qeX c,qeV c ix⟩) n
noncomputable abbrev pw:=PySem.Challenge.pw_pq0658_01
noncomputable def subs(s:Stmt):List Stmt:=match s with|.ClassDef _ _ _ b ..=>b|s=>[s]
noncomputable abbrev hd?{α:Type}(l:List α)(i:Nat):Option α:=nth l i
noncomputable def tix:List (Nat×Nat):=[(1426004,0),(1429000,1),(1430000,2),(1432000,3),(1446000,4),(1451000,5),(1452000,6),(1454000,7),(1455000,8),(1458000,9),(1472000,10),(1474000,11),(1475000,12)]
def fAt(i j:Nat):Option (Scope×List Stmt):=oO (hd? pw.main.body i) λs=>oO (hd? (subs s) j) λs=>match s with|.FunctionDef _ _ b _ _ _ sc _ _ _=>some (sc,b)|_=>none
def cod(i j:Nat):Ou SC:=oO (fAt i j) λq=>cB (comp tix 60) q.1 q.2
def cd(i j:Nat):SC:=match cod i j with|some r=>r.1|none=>sNil
def tf(i k:Nat):Fn:=match cod i 0 with|some r=>(match hd? r.2 k with|some q=>q.2|none=>⟨[],[],sNil,[]⟩)|none=>⟨[],[],sNil,[]⟩
def t0:Fn:=tf 212 0
def t1:Fn:=tf 212 1
def t2:Fn:=tf 212 2
def t3:Fn:=tf 212 3
def t4:Fn:=tf 213 0
def t5:Fn:=tf 213 1
def t6:Fn:=tf 213 2
def t7:Fn:=tf 213 3
def t8:Fn:=tf 213 4
def t9:Fn:=tf 213 5
def t10:Fn:=tf 214 0
def t11:Fn:=tf 214 1
def t12:Fn:=tf 214 2
def qgq:Fn:=⟨[291,292],[],qfr 291 292 43,[]⟩
def fnL:List (Nat×Nat×Nat×(SC→Fn)):=[(37,2,0,λc=>⟨[10,11,12],[.old 29],c,[]⟩),(125,13,0,λc=>⟨[14,13],[.int (.lit 0)],c,[]⟩),(189,22,0,λc=>⟨[15,13,17],[],c,[]⟩),(223,28,0,λc=>⟨[10,21,22,23,25,27],[],c,[10]⟩),(237,28,2,λc=>⟨[10,40,34],[],c,[]⟩),(244,28,3,λc=>⟨[10,34],[],c,[]⟩),(251,28,4,λc=>⟨[10,25],[],c,[]⟩),(258,28,5,λc=>⟨[10,40,34,46],[],c,[]⟩),(265,28,6,λc=>⟨[10,34,12],[],c,[]⟩),(272,28,7,λc=>⟨[10,47],[],c,[]⟩),(277,28,8,λc=>⟨[10,49,34],[],c,[48,39]⟩),(284,28,9,λc=>⟨[10],[],c,[]⟩),(305,28,12,λc=>⟨[10,40,29,55],[],c,[10,29,55]⟩),(312,28,13,λc=>⟨[10,30],[],c,[]⟩),(319,28,14,λc=>⟨[10,40,46,56],[],c,[]⟩),(326,28,15,λc=>⟨[10],[],c,[]⟩),(333,28,16,λc=>⟨[10,40],[],c,[]⟩),(338,28,17,λc=>⟨[10],[],c,[]⟩),(343,28,18,λc=>⟨[10,40],[],c,[10,40,63]⟩),(351,28,19,λc=>⟨[10,25],[.bytes []],c,[]⟩),(540,58,0,λc=>⟨[10,65,16,66,67,68,69,70,71],[.none,.str [100,105,115,112,108,97,121],.str [116,114,97,105,108,105,110,103],.bool false,.bool false,.bool false],c,[]⟩),(554,58,2,λc=>⟨[10],[],c,[]⟩),(568,59,0,λc=>⟨[74],[],c,[]⟩),(575,60,0,λc=>⟨[74],[],c,[]⟩),(582,61,0,λc=>⟨[74],[],c,[]⟩),(596,63,0,λc=>⟨[76],[],c,[]⟩),(603,64,0,λc=>⟨[65,16,67,72,13,73],[],c,[]⟩),(631,77,0,λc=>⟨[74,14],[],c,[]⟩),(638,78,0,λc=>⟨[80,82],[],c,[]⟩),(643,79,0,λc=>⟨[74,14],[],c,[]⟩),(662,82,0,λc=>⟨[74,14],[],c,[]⟩),(669,83,0,λc=>⟨[96],[],c,[]⟩),(681,85,0,λc=>⟨[74,76],[],c,[]⟩),(702,88,0,λc=>⟨[74,76],[],c,[]⟩),(709,89,0,λc=>⟨[74,76],[],c,[]⟩),(724,95,0,λc=>⟨[65],[],c,[]⟩),(731,96,0,λc=>⟨[113,111],[],c,[]⟩),(739,97,0,λc=>⟨[76,16,70],[.bool false],c,[]⟩),(767,101,0,λc=>⟨[74,76],[],c,[]⟩),(774,102,0,λc=>⟨[74,76],[],c,[]⟩),(788,104,0,λc=>⟨[113,76,111],[],c,[]⟩),(819,112,0,λc=>⟨[21,124],[],c,[]⟩),(826,113,0,λc=>⟨[21,125,80],[],c,[]⟩),(841,114,0,λc=>⟨[10,21,22,23,127],[.int (.lit 0)],c,[]⟩),(848,114,1,λc=>⟨[10,132,11],[],c,[]⟩),(855,114,2,λc=>⟨[10,47],[],c,[]⟩),(862,114,3,λc=>⟨[10,80],[],c,[]⟩),(869,114,4,λc=>⟨[10],[],c,[]⟩),(876,114,5,λc=>⟨[10,80],[],c,[]⟩),(883,114,6,λc=>⟨[10,125,80],[],c,[]⟩),(891,114,7,λc=>⟨[10,76,80],[.int (.lit 0)],c,[]⟩),(898,114,8,λc=>⟨[10,80],[],c,[]⟩),(906,114,9,λc=>⟨[10,76,80],[.int (.lit 0)],c,[]⟩),(914,114,10,λc=>⟨[10,80],[.int (.lit 0)],c,[]⟩),(942,118,0,λc=>⟨[10,21,22],[],c,[]⟩),(949,118,1,λc=>⟨[10],[],c,[]⟩),(956,118,2,λc=>⟨[10,76],[],c,[]⟩),(963,118,3,λc=>⟨[10,76],[],c,[]⟩),(985,121,0,λc=>⟨[47],[],c,[]⟩),(999,122,0,λc=>⟨[10],[],c,[]⟩),(1006,122,1,λc=>⟨[10],[],c,[]⟩),(1013,122,2,λc=>⟨[10,142],[],c,[]⟩),(1020,122,3,λc=>⟨[10,142],[],c,[]⟩),(1027,122,4,λc=>⟨[10,142,143],[],c,[]⟩),(1032,122,5,λc=>⟨[10,142,143,109],[],c,[]⟩),(1039,122,6,λc=>⟨[10,142,143,22],[],c,[]⟩),(1044,122,7,λc=>⟨[10,142],[],c,[21]⟩),(1056,122,9,λc=>⟨[10],[],c,[10]⟩),(1077,126,0,λc=>⟨[10,151,152],[],c,[]⟩),(1084,126,1,λc=>⟨[10,162],[],c,[]⟩),(1091,126,2,λc=>⟨[10],[],c,[]⟩),(1124,127,0,λc=>⟨[10],[],c,[]⟩),(1143,128,0,λc=>⟨[168],[],c,[]⟩),(1150,129,0,λc=>⟨[170],[],c,[]⟩),(1157,130,0,λc=>⟨[168],[],c,[]⟩),(1164,131,0,λc=>⟨[170],[],c,[]⟩),(1171,132,0,λc=>⟨[170],[],c,[]⟩),(1176,133,0,λc=>⟨[170],[],c,[]⟩),(1181,134,0,λc=>⟨[170],[],c,[]⟩),(1186,135,0,λc=>⟨[170],[],c,[]⟩),(1191,136,0,λc=>⟨[170],[],c,[]⟩),(1212,140,0,λc=>⟨[170],[],c,[]⟩),(1217,141,0,λc=>⟨[170],[],c,[]⟩),(1224,142,0,λc=>⟨[168],[],c,[]⟩),(1251,149,0,λc=>⟨[168,170],[],c,[186]⟩),(1258,150,0,λc=>⟨[175,188],[],c,[]⟩),(1265,151,0,λc=>⟨[43,152],[],c,[]⟩),(1270,152,0,λc=>⟨[168,152,188],[],c,[168,152,188]⟩),(1277,153,0,λc=>⟨[170,198,199],[],c,[]⟩),(1291,155,0,λc=>⟨[10,201,202,109],[],c,[]⟩),(1305,156,0,λc=>⟨[211,210],[],c,[]⟩),(1312,157,0,λc=>⟨[211,170],[],c,[]⟩),(1319,158,0,λc=>⟨[211,170,41,16],[],c,[]⟩),(1326,159,0,λc=>⟨[211,199],[],c,[]⟩),(1331,160,0,λc=>⟨[211,216],[],c,[211]⟩),(1338,161,0,λc=>⟨[211,216],[],c,[]⟩),(1345,162,0,λc=>⟨[211,216,76],[],c,[]⟩),(1352,163,0,λc=>⟨[211,210],[],c,[]⟩),(1359,164,0,λc=>⟨[211,210],[],c,[]⟩),(1380,168,0,λc=>⟨[152],[],c,[]⟩),(1387,169,0,λc=>⟨[211,231],[],c,[]⟩),(1394,170,0,λc=>⟨[211,40],[],c,[]⟩),(1399,171,0,λc=>⟨[211,231],[],c,[]⟩),(1413,173,0,λc=>⟨[211,231,152],[],c,[]⟩),(1425,175,0,λc=>⟨[211,235],[],c,[]⟩),(1432,176,0,λc=>⟨[211,235],[],c,[]⟩),(1439,177,0,λc=>⟨[211,235,240,241],[],c,[]⟩),(1446,178,0,λc=>⟨[211,235,80],[],c,[]⟩),(1453,179,0,λc=>⟨[235],[],c,[]⟩),(1460,180,0,λc=>⟨[211,231,47],[],c,[]⟩),(1467,181,0,λc=>⟨[211,231,76],[],c,[]⟩),(1474,182,0,λc=>⟨[211,231,76,250],[],c,[]⟩),(1479,183,0,λc=>⟨[211,231,21,22],[],c,[211,231]⟩),(1484,184,0,λc=>⟨[211,142,22],[],c,[142,22]⟩),(1491,185,0,λc=>⟨[211,22,231],[],c,[]⟩),(1496,186,0,λc=>⟨[24],[],c,[]⟩),(1501,187,0,λc=>⟨[211,265],[],c,[211]⟩),(1508,188,0,λc=>⟨[211,231,216],[],c,[]⟩),(1515,189,0,λc=>⟨[211,231,271,216],[],c,[]⟩),(1522,190,0,λc=>⟨[211,231,271,216],[],c,[]⟩),(1529,191,0,λc=>⟨[211,265],[],c,[]⟩),(1536,192,0,λc=>⟨[211,231,125,216],[],c,[]⟩),(1543,193,0,λc=>⟨[211,265],[],c,[]⟩),(1550,194,0,λc=>⟨[211,231,76],[],c,[]⟩),(1557,195,0,λc=>⟨[211,40],[],c,[]⟩),(1564,196,0,λc=>⟨[211,231,76],[],c,[]⟩),(1571,197,0,λc=>⟨[211,40],[],c,[]⟩),(1578,198,0,λc=>⟨[211,231],[],c,[]⟩),(1585,199,0,λc=>⟨[211,265],[],c,[]⟩),(1599,201,0,λc=>⟨[10,152],[],c,[]⟩),(1628,203,0,λc=>⟨[10,152,168,141,288,289],[.bool false],c,[]⟩),(1657,0,0,λ_=>qgq),(1664,208,0,λc=>⟨[152],[],c,[]⟩),(1671,209,0,λc=>⟨[152,74,41],[],c,[]⟩),(1678,210,0,λc=>⟨[143,23,109,13],[],c,[]⟩),(1685,211,0,λc=>⟨[211,303],[],c,[]⟩),(1690,212,0,λc=>⟨[291],[],c,[291,305,143,211]⟩),(1697,213,0,λc=>⟨[291],[],c,[22,211]⟩),(1702,214,0,λc=>⟨[291],[],c,[211]⟩),(1707,215,0,λc=>⟨[291],[],c,[291]⟩)]
def fnT:TT Fn:=.ofL 12 (fnL.map λq=>(q.1,q.2.2.2 (cd q.2.1 q.2.2.1)))
def pthT:TT (Nat×Nat):=.ofL 12 (fnL.map λq=>(q.1,q.2.1,q.2.2.1))
def tmT:TT Fn:=.ofL 5 [(0,t0),(1,t1),(2,t2),(3,t3),(4,t4),(5,t5),(6,t6),(7,t7),(8,t8),(9,t9),(10,t10),(11,t11),(12,t12)]
def funs:Funs:=⟨fnT,tmT⟩
end
section
open PySem PySem.W
open PyProof PyProof.Rows
noncomputable abbrev eN(x:Str)(p:Pos):Expr:=.Name x p
noncomputable abbrev eI(i:Int)(p:Pos):Expr:=.Constant (.int i) 0 p
noncomputable abbrev ePen(i:Int)(p q r:Pos):Expr:=.Subscript (eN "pen" p) (eI i q) r
noncomputable def q3T(P:Nat→Pos):List Stmt:=[
 .If (.Compare (ePen 0 (P 0) (P 1) (P 2)) [.Eq] [eI 0 (P 3)] (P 4))
  [.Assign [ePen 1 (P 5) (P 6) (P 7)] (.BinOp (ePen 1 (P 8) (P 9) (P 10)) .Add (eI 1 (P 11)) (P 12)) (P 13),
   .Assign [ePen 0 (P 14) (P 15) (P 16)] (.BinOp (eI 1000000009 (P 17)) .Pow (.BinOp (eI 4 (P 18)) .Add (ePen 1 (P 19) (P 20) (P 21)) (P 22)) (P 23)) (P 24)] [] (P 25),
 .Assign [eN "found" (P 26)] (.BinOp (ePen 0 (P 27) (P 28) (P 29)) .Mod (eN "many" (P 30)) (P 31)) (P 32),
 .Assign [ePen 0 (P 33) (P 34) (P 35)] (.BinOp (ePen 0 (P 36) (P 37) (P 38)) .FloorDiv (eN "many" (P 39)) (P 40)) (P 41),
 .Return (some (eN "found" (P 42))) (P 43)]
noncomputable def q7b(D:Nat→Pos):Expr:=.BinOp (.BinOp (eN "number" (D 9)) .Mult (eI 999979 (D 10)) (D 11)) .Add (.BinOp (.BinOp (.BinOp (eI 2 (D 12)) .Mult (.Call (eN "abs" (D 13)) [.Call (eN "int" (D 14)) [eN "cell" (D 15)] [] (D 16)] [] (D 17)) (D 18)) .Add (.Call (eN "int" (D 19)) [.Compare (eN "cell" (D 20)) [.Lt] [eI 0 (D 21)] (D 22)] [] (D 23)) (D 24)) .Mod (.BinOp (eI 10 (D 25)) .Pow (eI 30 (D 26)) (D 27)) (D 28)) (D 29)
noncomputable def q5w(D:Nat→Pos):List Stmt:=[
 .Assign [eN "number" (D 0)] (eI 23 (D 1)) (D 2),
 .For (eN "cell" (D 3)) (.Subscript (eN "script" (D 4)) (.Slice none (some (eI 20 (D 5))) none (D 6)) (D 7)) [.Assign [eN "number" (D 8)] (q7b D) (D 30)] [] (D 31),
 .Return (some (.List [eN "number" (D 32),eI 0 (D 33)] (D 34))) (D 35)]
end
section
set_option backward.match.sparseCases false
open PySem PySem.W PySem.Calls PyProof.Rows
def TT.all{α:Type}(p:Nat→α→Bool)(t:TT α):(Nat→Nat)→Bool:=@TT.rec α (λ_=>(Nat→Nat)→Bool) (λ_=>true) (λv _ _ il ir f=>oE v true (p (f 0))&&il (λj=>f (2*j+1))&&ir (λj=>f (2*j+2))) t
def TT.map{α β:Type}(g:Nat→α→β)(t:TT α):(Nat→Nat)→TT β:=@TT.rec α (λ_=>(Nat→Nat)→TT β) (λ_=>.nil) (λv _ _ il ir f=>.node (v.map (g (f 0))) (il (λj=>f (2*j+1))) (ir (λj=>f (2*j+2)))) t
noncomputable def TT.keys{α:Type}:TT α→(Nat→Nat)→List Nat
 |.nil,_=>[]
 |.node v l r,f=>(match v with|some _=>[f 0]|none=>[])++(l.keys (λj=>f (2*j+1))++r.keys (λj=>f (2*j+2)))
noncomputable def q6g(v:Value):Option Addr:=match v with|.ref a=>some a|_=>none
noncomputable def qaJ(v:Value):Option (Str×Tok):=match v with|.str a t=>some (a,t)|_=>none
noncomputable def qaK(v:Value):Option (Int×Tok):=match v with|.int a t=>some (a,t)|_=>none
noncomputable def q8J(v:Value):Option (Array UInt8×Tok):=match v with|.bytes a t=>some (a,t)|_=>none
noncomputable def q8K(v:Value):Option Bool:=match v with|.bool a=>some a|_=>none
noncomputable def vTy?(v:Value):Option String:=match v with|.type a=>some a|_=>none
noncomputable def vBi?(v:Value):Option String:=match v with|.builtin a=>some a|_=>none
noncomputable def vNo(v:Value):Bool:=match v with|.none=>true|_=>false
noncomputable def qgy(d:Data):Option (Array Value×Nat):=match d with|.seq a n=>some (a,n)|_=>none
noncomputable def qcx(d:Data):Option (Array DictEntry×Nat):=match d with|.dict a n=>some (a,n)|_=>none
noncomputable def q3h(d:Data):Option (Array Value):=match d with|.fields a=>some a|_=>none
noncomputable def q7E(d:Data):Option FuncData:=match d with|.func a=>some a|_=>none
noncomputable def qea(d:Data):Option ClassData:=match d with|.cls a=>some a|_=>none
noncomputable def qcw(d:Data):Bool:=match d with|.plain=>true|_=>false
def svIs(x:SV)(v:Value):Bool:=match x with
 |.none=>vNo v
 |.bool b=>oB (q8K v) λc=>b==c
 |.int i=>(match i with|.lit i=>oB (qaK v) (λj=>decide (j.1=i)&&Nat.blt i.natAbs 2305843009213693952)|.var _ _=>false)
 |.str l=>oB (qaJ v) λs=>nlEq l s.1.cps.toList&&Nat.ble l.length 4096
 |.bytes l=>oB (q8J v) λa=>q23 l a.1.toList&&Nat.ble l.length 4096
 |.ty n=>oB (vTy? v) λt=>t==tyNm n
 |.bi n=>oB (vBi? v) λt=>t==biNm n
 |.old a=>oB (q6g v) λb=>Nat.beq a b
 |_=>false
noncomputable def qcR:List SV→List Value→Bool
 |[],[]=>true
 |x::r,v::q=>svIs x v&&qcR r q
 |_,_=>false
section
variable(G:Addr→Option Obj)
def qdx(a:Addr):List (Addr×Obj):=oE (G a) [] λo=>[(a,o)]
def kAt(a:Addr):List (Addr×Obj):=oE (G a) [] λo=>(a,o)::(oE (qea o.data) [] (λcd=>qdx G cd.ns)++oE (q7E o.data) [] λfd=>oE (q6g fd.defaults) [] (qdx G))
def q9H:List Nat:=clsT.keys id++(tupT.keys id++(1650::1714::fnT.keys id))
def Kof:Frag:=q9H.flatMap (kAt G)
def nsQ(x:Str)(l:List DictEntry):Option Value:=@List.rec DictEntry (λ_=>Option Value) none (λe _ ih=>@Value.rec (λ_=>Option Value) ih ih ih (λ_=>ih) (λ_ _=>ih) (λ_ _=>ih) (λs _=>@Bool.rec (λ_=>Option Value) ih (some e.val) (PySem.W.Fast.sEq s x)) (λ_ _=>ih) (λ_=>ih) (λ_=>ih) (λ_=>ih) e.key) l
def nsAt(a:Addr)(x:Str):Option (Option Value):=oO (G a) λo=>oO (qcx o.data) λp=>some (nsQ x p.1.toList)
def qaO(K:Frag)(a:Addr)(xs:List SV):Bool:=oB (K.lookup a) λo=>oB (vTy? o.cls) λt=>oB (qgy o.data) λp=>
 t=="tuple"&&(o.dict.isNone&&(o.slots.isEmpty&&(qcR xs p.1.toList&&Nat.ble xs.length 4096)))
noncomputable def q4S(K:Frag)(C:Addr)(c:Cls):Bool:=plainGet K C ("x":Str)&&hasDictIn K C&&plainOver K C&&makesIn K C
def qcu(K:Frag)(C:Addr):Bool:=oB (K.lookup C) λo=>oB (vTy? o.cls) λt=>oB (qea o.data) λcd=>oB (q6g (cd.mro.headD .none)) λC'=>
 t=="type"&&(Nat.beq C' C&&(cd.hasDict&&(!cd.abstract&&(!cd.hasDel&&(q11 cd.mro.tail&&(oB (oO o.slots[4]? id) (λv=>oB (vBi? v) (λn=>n=="Exception.__new__"))&&(Nat.beq o.slots.size 6&&specialIn K (.ref C) "__call__"==some (some (.builtin "type.__call__")))))))))
def q63(K:Frag)(C:Addr)(c:Cls):Bool:=findIn K (.ref C) "__init__"==some (some (.ref c.init))&&isFn K (.ref c.init)&&findIn K (.ref C) "__setattr__"==some (some (.builtin "object.__setattr__"))&&c.data.all (λi=>findIn K (.ref C) (nm i)==some none)&&
 c.meths.all (λq=>findIn K (.ref C) (nm q.1)==some (some (.ref q.2))&&isFn K (.ref q.2))&&keepIn K (.ref C)&&(match funs.fn.get c.init with|some _=>true|none=>false)&&(match c.isExc with|true=>qcu K C|false=>q4S K C c)
def q19(x:Str)(y:SV):Bool:=oB (nsAt G mainGlobals x) λo=>oE o (oB (nsAt G builtinsNs x) λb=>oB b (svIs y)) (svIs y)
def qa9(v:Value)(q:Str):Bool:=oB (q6g v) λc=>!(Nat.beq c cStatics)&&oB (G c) (λo=>oB (q3h o.data) λvs=>oB vs[1]? λz=>oB (qaJ z) λz=>sEq z.1 q)
def qcK(q:Addr×Addr):Bool:=oB (G q.1) (λo=>oB (vTy? o.cls) λt=>oB (q3h o.data) λvs=>oB (qaJ (vs.getD 18 .none)) λ_=>oB (qaK (vs.getD 7 .none)) λ_=>oB (q8K (vs.getD 9 .none)) λ_=>oB (qaK (vs.getD 10 .none)) λ_=>t=="code"&&vs[11]?==some (.ref q.2))&&
 (!(Nat.beq q.1 q.2)&&(!(Nat.beq mainGlobals q.2)&&(oB (G q.2) (λo=>oB (q3h o.data) λvs=>vs.isEmpty&&(vNo o.cls&&(o.dict.isNone&&o.slots.isEmpty)))&&
 oB (nsAt G mainGlobals "__builtins__") (λv=>oB v λv=>oB (q6g v) λbm=>!(Nat.beq bm builtinsNs)&&(!(Nat.beq bm mainGlobals)&&(!(Nat.beq bm q.2)&&oB (G bm) (λo=>oB (vTy? o.cls) λt=>oB o.dict λd=>qcw o.data&&(t=="module"&&Nat.beq d builtinsNs))))))))
noncomputable def qdB:List Str→List Nat→Bool
 |[],[]=>true
 |x::r,i::q=>sEq (nm i) x&&qdB r q
 |_,_=>false
def fd1(K:Frag)(f:Fn)(fd:FuncData):Bool:=(match fd.params with|⟨a,as,v,k,_,w,_⟩=>a.isEmpty&&(v.isNone&&(k.isEmpty&&(w.isNone&&qdB (as.map (·.arg)) f.params))))
noncomputable def fd2(K:Frag)(f:Fn)(fd:FuncData):Bool:=decide f.params.Nodup
noncomputable def fd3(K:Frag)(f:Fn)(fd:FuncData):Bool:=Nat.ble f.params.length 60
noncomputable def fd4(K:Frag)(f:Fn)(fd:FuncData):Bool:=!fd.scope.isCoroutine
noncomputable def fd5(K:Frag)(f:Fn)(fd:FuncData):Bool:=!fd.scope.isGenerator
noncomputable def fd6(K:Frag)(f:Fn)(fd:FuncData):Bool:=fd.scope.kind==.function
noncomputable def fd7(K:Frag)(f:Fn)(fd:FuncData):Bool:=Nat.beq fd.globals mainGlobals
noncomputable def fd8(K:Frag)(f:Fn)(fd:FuncData):Bool:=Nat.beq fd.builtins builtinsNs
def fd9(K:Frag)(f:Fn)(fd:FuncData):Bool:=(match scode fd.scope with|some c=>fd.code==.ref c&&sEq fd.qualname (squal c)|none=>true)
def fd10(K:Frag)(f:Fn)(fd:FuncData):Bool:=(vNo fd.defaults&&q0s f.dflt)||oB (q6g fd.defaults) λT=>qaO K T f.dflt
noncomputable def fd11(K:Frag)(f:Fn)(fd:FuncData):Bool:=Nat.ble f.dflt.length f.params.length
def fd12(K:Frag)(f:Fn)(fd:FuncData):Bool:=f.params.all (λi=>match lkS fd.scope.names (nm i) with|some .local=>!(nmem i f.cells)|some .cell=>nmem i f.cells|_=>false)
def fd13(K:Frag)(f:Fn)(fd:FuncData):Bool:=q0s fd.closure
noncomputable def fd14(K:Frag)(f:Fn)(fd:FuncData):Bool:=decide f.cells.Nodup
def fd15(K:Frag)(f:Fn)(fd:FuncData):Bool:=f.cells.all (λi=>oB (lkS fd.scope.names (nm i)) kdC&&((cellsFrom 0 fd.scope.names []).lookup (nm i)).isSome)
def fd16(K:Frag)(f:Fn)(fd:FuncData):Bool:=fd.scope.names.all (λx=>match x.2 with|.cell=>f.cells.any (λi=>sEq (nm i) x.1)|.free=>f.cells.any (λi=>sEq (nm i) x.1)|_=>true)
def fd17(K:Frag)(f:Fn)(fd:FuncData):Bool:=(qa9 G fd.code fd.qualname)
def fdIs(K:Frag)(f:Fn)(fd:FuncData):Bool:=fd1 K f fd&&(fd2 K f fd&&(fd3 K f fd&&(fd4 K f fd&&(fd5 K f fd&&(fd6 K f fd&&(fd7 K f fd&&(fd8 K f fd&&(fd9 K f fd&&(fd10 K f fd&&(fd11 K f fd&&(fd12 K f fd&&(fd13 K f fd&&(fd14 K f fd&&(fd15 K f fd&&(fd16 K f fd&&(fd17 G K f fd))))))))))))))))
def fdAt(K:Frag)(a:Addr):Option FuncData:=oO (alook K a) λo=>q7E o.data
end
end
section
open PySem PySem.W PySem.Calls PyProof.Rows
noncomputable def q2r:Program:={pw with main:={pw.main with body:=pw.main.body.drop (pw.main.body.length-1),scope:={pw.main.scope with names:=[]}}}
noncomputable def q34:List Str:=pw.boundNames.filter (λn=>!(n==("law":Str)))
noncomputable def keyQ:List Str:=startupNames++(pw.boundNames.take 1++pw.boundNames.drop 2)
noncomputable def qdh(s:Shared):Bool:=s.heap.accountedOkI (importedModules pw.main.body)&&s.heap.isNs mainGlobals&&s.heap.isNs builtinsNs&&tablesOk q2r s.heap&&true&&s.gens.size==0
noncomputable def qe8:List (Nat×Nat×Nat×Nat):=[(1,7,1,10),(1,11,1,12),(1,7,1,13),(1,17,1,18),(1,7,1,18),(2,8,2,11),(2,12,2,13),(2,8,2,14),(2,17,2,20),(2,21,2,22),(2,17,2,23),(2,26,2,27),(2,17,2,27),(2,8,2,27),(3,8,3,11),(3,12,3,13),(3,8,3,14),(3,17,3,27),(3,32,3,33),(3,36,3,39),(3,40,3,41),(3,36,3,42),(3,32,3,42),(3,17,3,43),(3,8,3,43),(1,4,3,43),(4,4,4,9),(4,12,4,15),(4,16,4,17),(4,12,4,18),(4,21,4,25),(4,12,4,25),(4,4,4,25),(5,4,5,7),(5,8,5,9),(5,4,5,10),(5,13,5,16),(5,17,5,18),(5,13,5,19),(5,23,5,27),(5,13,5,27),(5,4,5,27),(6,11,6,16),(6,4,6,16)]
noncomputable def penP:List (Nat×Nat×Nat×Nat):=[(1,4,1,10),(1,13,1,15),(1,4,1,15),(2,8,2,12),(2,16,2,22),(2,24,2,26),(2,23,2,26),(2,16,2,27),(3,8,3,14),(3,17,3,23),(3,26,3,32),(3,17,3,32),(3,36,3,37),(3,40,3,43),(3,44,3,47),(3,48,3,52),(3,44,3,53),(3,40,3,54),(3,36,3,54),(3,57,3,60),(3,61,3,65),(3,68,3,69),(3,61,3,69),(3,57,3,70),(3,36,3,70),(3,74,3,76),(3,80,3,82),(3,74,3,82),(3,35,3,82),(3,17,3,82),(3,8,3,82),(2,4,3,82),(4,12,4,18),(4,20,4,21),(4,11,4,22),(4,4,4,22)]
noncomputable def lawP:List (Nat×Nat×Nat×Nat):=[(1,4,1,7),(1,10,1,18),(1,19,1,25),(1,10,1,26),(1,4,1,26),(2,11,2,29),(2,30,2,33),(2,11,2,34),(2,39,2,57),(2,58,2,61),(2,39,2,62),(2,67,2,83),(2,84,2,87),(2,67,2,88),(2,93,2,108),(2,109,2,112),(2,93,2,113),(2,11,2,113),(2,4,2,113)]
noncomputable def posA(b:Nat)(l:List (Nat×Nat×Nat×Nat))(i:Nat):Pos:=match l[i]? with|some (p,q,r,s)=>⟨b+p,q,b+r,s⟩|none=>⟨0,0,0,0⟩
noncomputable abbrev eC(f x:Str)(p q r:Pos):Expr:=.Call (eN f p) [eN x q] [] r
noncomputable def q7o(D:Nat→Pos):List Stmt:=[.Assign [eN "pen" (D 0)] (eC "_law_pen" "script" (D 1) (D 2) (D 3)) (D 4),
 .Return (some (.BoolOp .And [eC "_law_between_right" "pen" (D 5) (D 6) (D 7),eC "_law_unasked_right" "pen" (D 8) (D 9) (D 10),eC "_law_whole_right" "pen" (D 11) (D 12) (D 13),eC "_law_into_right" "pen" (D 14) (D 15) (D 16)] (D 17))) (D 18)]
def q4W(a:Nat):Ob:=match alook [(1690,[(0,t0),(1,t1),(2,t2),(3,t3)]),(1697,[(4,t4),(5,t5),(6,t6),(7,t7),(8,t8),(9,t9)]),(1702,[(10,t10),(11,t11),(12,t12)])] a with|some l=>l|none=>[]
def q2e(o:Option FuncData):Option (List Stmt):=oO o λfd=>q6N fd.body
def fdG(G:Addr→Option Obj)(a:Addr):Option FuncData:=oO (G a) λo=>q7E o.data
def fnQ(G:Addr→Option Obj)(K:Frag)(a:Addr)(f:Fn):Bool:=oE (fdG G a) false (fdIs G K f)
def txAt(G:Addr→Option Obj)(a:Addr):Option (Scope×List Stmt):=oO (fdG G a) λfd=>oO (q6N fd.body) λb=>some (fd.scope,b)
def cAt(a:Addr):Ou SC:=oO (pthT.get a) λq=>cod q.1 q.2
def but{α:Type}(a:Addr)(o:Option α):Option α:=@Bool.rec (λ_=>Option α) o none (Nat.beq a 1657)
def lAll(G:Addr→Option Obj):List (Option (Scope×List Stmt)):=@List.rec (Nat×Nat×Nat×(SC→Fn)) (λ_=>List (Option (Scope×List Stmt))) [] (λq _ ih=>but q.1 (txAt G q.1)::ih) fnL
def rAll:List (Option (Scope×List Stmt)):=fnL.map λq=>but q.1 (fAt q.2.1 q.2.2.1)
def nmQT:TT Str:=.ofL 9 (@List.rec Str (λ_=>Nat→List (Nat×Str)) (λ_=>[]) (λs _ ih i=>(i,s)::ih (Nat.succ i)) nmS 0)
def nmQ(i:Nat):Str:=oE (nmQT.get i) (nm i) id
def cAll:TT (Ou SC):=fnT.map (λa _=>but a (cAt a)) id
def oAll:TT (Ou SC):=fnT.map (λa f=>but a (some (f.body,q4W a))) id
noncomputable def q9D:Fn:=⟨[290],[],λ_ _ _ _=>false,[]⟩
noncomputable def q5D(sc:Scope):Bool:=sc.names.all λx=>x.2 != .cell
def q7t(G:Addr→Option Obj)(K:Frag):Bool:=(match fdAt K 1657 with|some fd=>q1T fd.scope "pen"&&q1T fd.scope "many"&&q1T fd.scope "found"|none=>false)&&
 (match fdAt K 1650 with|some fd=>fdIs G K q9D fd&&q1T fd.scope "number"&&q1T fd.scope "cell"&&q1T fd.scope "script"&&q1i fd.scope "abs"&&q1i fd.scope "int"&&q5D fd.scope|none=>false)&&keepIn K (.ref 1650)&&
 (match fdAt K 1714 with|some fd=>fdIs G K q9D fd&&q1T fd.scope "pen"&&q1T fd.scope "script"&&q1i fd.scope "_law_pen"&&q1i fd.scope "_law_between_right"&&q1i fd.scope "_law_unasked_right"&&q1i fd.scope "_law_whole_right"&&q1i fd.scope "_law_into_right"&&q5D fd.scope&&isNo (scode fd.scope)|none=>false)&&
 q19 G "_law_pen" (.old 1650)&&q19 G "_law_between_right" (.old 1690)&&q19 G "_law_unasked_right" (.old 1697)&&
 q19 G "_law_whole_right" (.old 1702)&&q19 G "_law_into_right" (.old 1707)&&q19 G "law" (.old 1714)&&
 q19 G "abs" (.bi 1)&&q19 G "int" (.ty 6)
def q3N(G:Addr→Option Obj)(a:Addr):Bool:=oB (G a) λo=>o.cls != .none
def q7y(G:Addr→Option Obj)(K:Frag):Bool:=clsT.all (q63 K) id&&tupT.all (qaO K) id&&glo.all (λq=>q19 G (nmQ q.1) q.2)&&tabs.all (qcK G)&&fnT.all (fnQ G K) id&&K.all (λp=>p.2.cls != .none)&&q3N G mainGlobals&&q3N G builtinsNs&&q7t G K
def getT(T:BT)(n:Nat)(a:Addr):Option Obj:=@Bool.rec (λ_=>Option Obj) none (match T.get a with|some o=>alive o|none=>none) (Nat.blt a n)
def qdY{R:Type}(z:R)(p:Program)(w:World)(N:Nat)(h:Heap)(os:OsState)(f:BT→Nat→R):R:=ofC z h.objs.toList 0 .nil (λT m=>goC z p w m (h.nsMap mainGlobals "__annotations__")
 (λT n gens drawn toks os=>f T n) N T m (Array.mk []) boot_drawn boot_toks os (topStub p).cur (topStub p).code (topStub p).pos (topStub p).stack)
noncomputable def σg(b q:Nat)(F:List (Nat×Nat)):S:=⟨.node none (.node (some (.pen b F)) .nil .nil) .nil,2,0,0,[(0,[(290,.old q),(291,.own 1)])]⟩
noncomputable abbrev σb(b q:Nat):S:=σg b q []
noncomputable def qc8(v:SV):Option Nat:=match v with|.own k=>some k|_=>none
def qe1(l:List (Nat×Lo)):Option Addr:=oO (one? l) λp=>(match p.2 with
 |x::r=>oO (one? r) λy=>oO (q8U x.2) λs=>oO (qc8 y.2) λk=>gO (Nat.beq p.1 0&&(Nat.beq x.1 290&&(Nat.beq y.1 291&&Nat.beq k 1))) (some s)
 |[]=>none)
noncomputable def qca(o:SO):Option (Nat×List (Nat×Nat)):=match o with|.pen b f=>some (b,f)|_=>none
noncomputable def svB?(v:SV):Option Bool:=match v with|.bool b=>some b|_=>none
def qfE(o:Option SO)(m:Nat):Bool:=oB o λx=>oB (qca x) λr=>q0s r.2&&Nat.ble r.1 m
def chkS(m:Nat)(σ:S):Bool:=(match qe1 σ.frs with|some _=>true|none=>false)&&qfE (σ.get 1) m
def qdQ(v:SV):Bool:=oB (svB? v) id
def kvB(m:Nat):KV:=λr σ=>bi (qdQ r) (chkS m σ) false
noncomputable def qd7{α β γ δ:Type}(o:α×β×γ×δ):α×β×δ:=(o.1,o.2.1,o.2.2.2)
noncomputable def q7L:Prop:=∀(w:World)(os:OsState),qdZ none pw w 20000 (boot_heap w.params) os (λs=>match openSeen q2r q34 (importedModules pw.main.body) (λ_=>true) true s with
 |(a,b,_,d)=>some (staticsOk (importedModules pw.main.body) (boot_heap w.params) s.heap&&gensDone s&&laidKept (boot_heap w.params) s.heap&&qdh s,s.heap.nsKeys mainGlobals,a,b,d))=some (true,keyQ,qd7 (openGood q2r q34))
noncomputable def qaA:Prop:=∀(w:World)(os:OsState),qdY none pw w 20000 (boot_heap w.params) os (λT n=>qbp (Kof (getT T n)) (λK=>some (q7y (getT T n) K,lAll (getT T n),q2e (fdAt K 1657),q2e (fdAt K 1650),q2e (fdAt K 1714)))) =
 some (true,rAll,some (q3T (posA 1385 qe8)),some (q5w (posA 1380 penP)),some (q7o (posA 1487 lawP)))
noncomputable def CodT:Prop:=cAll=oAll
theorem facts_run:qaA:=λw os=>by kernel_rfl
theorem looks_run:q7L:=λw os=>by kernel_rfl
theorem q7T(q:Nat):q16 tb funs 60 (.old 1697) [.own 1] (σg 10 q [(3,0)]) (λ_ _=>false) (kvB 20)=true:=by kernel_rfl
theorem q7W(q:Nat):q16 tb funs 60 (.old 1690) [.own 1] (σg 0 q [(3,0)]) (λ_ _=>false) (kvB 10)=true:=by kernel_rfl
theorem q7S(q:Nat):q16 tb funs 60 (.old 1697) [.own 1] (σg 10 q [(3,1)]) (λ_ _=>false) (kvB 20)=true:=by kernel_rfl
theorem q7V(q:Nat):q16 tb funs 60 (.old 1690) [.own 1] (σg 0 q [(3,1)]) (λ_ _=>false) (kvB 10)=true:=by kernel_rfl
theorem q7R(q:Nat):q16 tb funs 60 (.old 1697) [.own 1] (σg 10 q [(3,2)]) (λ_ _=>false) (kvB 20)=true:=by kernel_rfl
theorem q7U(q:Nat):q16 tb funs 60 (.old 1690) [.own 1] (σg 0 q [(3,2)]) (λ_ _=>false) (kvB 10)=true:=by kernel_rfl
theorem qcL(q:Nat):q16 tb funs 60 (.old 1702) [.own 1] (σb 20 q) (λ_ _=>false) (kvB 30)=true:=by kernel_rfl
theorem qez(q:Nat):q16 tb funs 60 (.old 1707) [.own 1] (σb 30 q) (λ_ _=>false) (kvB 40)=true:=by kernel_rfl
theorem comp_run:CodT:=show cAll=oAll by kernel_rfl
end
section
open PySem PySem.W PySem.Challenge PySem.W.Fast
theorem sd1:tw8377067652309620493 (tw2368527892694137696 rw_pq0658_01).prog=true:=by kernel_rfl
theorem sd2:(tw17119622794617984870 (tw2368527892694137696 rw_pq0658_01).prog (tw2368527892694137696 rw_pq0658_01).prog.main.body λx n=>tw17868728402115742887 n)=true:=by kernel_rfl
theorem sd5:(tw17119622794617984870 rw_pq0658_01.prog rw_pq0658_01.above λ_ n=>!@tw3471404346716756564 Str (@instBEqOfDecidableEq Str sDec) (tw10792542408131684335 rw_pq0658_01) n)=true:=by kernel_rfl
theorem nrl(lk:Look)(a b:List Stmt):noRoadLSs lk (a++b)=(noRoadLSs lk a&&noRoadLSs lk b):=by
 induction a with
 |nil=>rfl
 |cons x r ih=>
  show (noRoadLS lk x&&noRoadLSs lk (r++b))=((noRoadLS lk x&&noRoadLSs lk r)&&noRoadLSs lk b)
  rw[ih,Bool.and_assoc]
theorem wtl(A:TablesWhole.Alg Bool)(h:∀x y,A.both x y=(x&&y))(hu:A.unit=true)(top:Scope)(cx:TablesWhole.Ctx)(sc:Scope)(a b:List Stmt):TablesWhole.wSs A top cx sc (a++b)=(TablesWhole.wSs A top cx sc a&&TablesWhole.wSs A top cx sc b):=by
 induction a with
 |nil=>show _=(A.unit&&_);rw[hu];rfl
 |cons x r ih=>
  show A.both (TablesWhole.wS A top cx sc x) (TablesWhole.wSs A top cx sc (r++b))=(A.both (TablesWhole.wS A top cx sc x) (TablesWhole.wSs A top cx sc r)&&TablesWhole.wSs A top cx sc b)
  rw[ih,h,h,Bool.and_assoc]
noncomputable abbrev bdy:=pw_pq0658_01.main.body
theorem sp1:tw8326940854005059898 {strict:=false,foot:=none,bare:=[]} (bdy.take 110)=true:=by kernel_rfl
theorem sp2:tw8326940854005059898 {strict:=false,foot:=none,bare:=[]} (bdy.drop 110)=true:=by kernel_rfl
theorem sd3{lk:Look}(h:lk={strict:=false,foot:=none,bare:=[]}):tw8326940854005059898 lk (tw2368527892694137696 rw_pq0658_01).prog.main.body=true:=by
 rw[h]
 show tw8326940854005059898 _ bdy=true
 rw[←List.take_append_drop 110 bdy,←te8326940854005059898,nrl,te8326940854005059898,sp1,sp2]
 rfl
theorem sd6:(!R.allR (tw5923862056798008813 (tw2368527892694137696 rw_pq0658_01).prog.main.body) (@tw3471404346716756564 Str (@instBEqOfDecidableEq Str sDec) tw17691160309236699985))=false:=by kernel_rfl
theorem sd7₀:tw13343964577679436407 (tw2368527892694137696 rw_pq0658_01).prog (tw2368527892694137696 rw_pq0658_01).prog.main.body ⟨⟨[118,97,114,115]⟩⟩=false:=by kernel_rfl
theorem sd7{n:Str}(h:n=⟨⟨[118,97,114,115]⟩⟩):tw13343964577679436407 (tw2368527892694137696 rw_pq0658_01).prog (tw2368527892694137696 rw_pq0658_01).prog.main.body n=false:=by rw[h];exact sd7₀
theorem sd8₀:tw13343964577679436407 (tw2368527892694137696 rw_pq0658_01).prog (tw2368527892694137696 rw_pq0658_01).prog.main.body ⟨⟨[100,105,114]⟩⟩=false:=by kernel_rfl
theorem sd8{n:Str}(h:n=⟨⟨[100,105,114]⟩⟩):tw13343964577679436407 (tw2368527892694137696 rw_pq0658_01).prog (tw2368527892694137696 rw_pq0658_01).prog.main.body n=false:=by rw[h];exact sd8₀
theorem sd9₀:tw13343964577679436407 (tw2368527892694137696 rw_pq0658_01).prog (tw2368527892694137696 rw_pq0658_01).prog.main.body ⟨⟨[108,111,99,97,108,115]⟩⟩=false:=by kernel_rfl
theorem sd9{n:Str}(h:n=⟨⟨[108,111,99,97,108,115]⟩⟩):tw13343964577679436407 (tw2368527892694137696 rw_pq0658_01).prog (tw2368527892694137696 rw_pq0658_01).prog.main.body n=false:=by rw[h];exact sd9₀
theorem fl3{p:Str→Bool}{a b c:Str}(h1:p a=false)(h2:p b=false)(h3:p c=false):R.filterR p [a,b,c]=[]:=by
 show @Bool.rec (λ_=>List Str) (@Bool.rec (λ_=>List Str) (@Bool.rec (λ_=>List Str) [] [c] (p c)) _ (p b)) _ (p a)=[]
 rw[h1,h2,h3]
theorem lkm{s:Bool}{b:List Str}(h1:s=false)(h2:b=[]):({strict:=s,foot:=none,bare:=b}:Look)={strict:=false,foot:=none,bare:=[]}:=by rw[h1,h2]
theorem sd4{a b:Nat}(h:a=b):(a==b)=true:=beq_iff_eq.mpr h
theorem said0:PySem.W.OpenLaw.wellSaid PySem.Challenge.rw_pq0658_01=true:=by
 rw[PySem.W.Fast.te9446332074065402090]
 delta PySem.W.Fast.tw9446332074065402090
 delta PySem.W.Fast.tw17960256430627541270 PySem.W.Fast.tw2436336058641802641 PySem.W.Fast.tw12908688711261696721
 repeat' with_reducible refine PySem.W.look_both ?_ ?_
 all_goals first|with_reducible exact sd1|with_reducible exact sd2|with_reducible exact sd5|(with_reducible refine sd3 (lkm ?_ (fl3 (sd7 ?_) (sd8 ?_) (sd9 ?_)))<;>first|exact sd6|rfl)|(with_reducible refine sd4 ?_;kernel_rfl)|(as_aux_lemma=>kernel_rfl)
theorem tg1:TablesWhole.wSs TablesWhole.gather pw_pq0658_01.main.scope ⟨pw_pq0658_01.main.scope,[],[],[],none⟩ pw_pq0658_01.main.scope bdy=[]:=by
 rw[te16421684217811934046,te12652042256554560961];kernel_rfl
theorem tg2:TablesWhole.noTwice pw_pq0658_01.main.scope=true:=by rw[te8331962902438777018];kernel_rfl
theorem tg3:TablesWhole.wSs TablesWhole.holds pw_pq0658_01.main.scope ⟨pw_pq0658_01.main.scope,[],[],[],none⟩ pw_pq0658_01.main.scope (bdy.take 110)=true:=by rw[te16421684217811934046];kernel_rfl
theorem tg4:TablesWhole.wSs TablesWhole.holds pw_pq0658_01.main.scope ⟨pw_pq0658_01.main.scope,[],[],[],none⟩ pw_pq0658_01.main.scope (bdy.drop 110)=true:=by rw[te16421684217811934046];kernel_rfl
theorem wmt{m:Module}(h1:TablesWhole.wSs TablesWhole.gather m.scope ⟨m.scope,[],[],[],none⟩ m.scope m.body=[])(h2:TablesWhole.noTwice m.scope=true)(h3:TablesWhole.wSs TablesWhole.holds m.scope ⟨m.scope,[],[],[],none⟩ m.scope m.body=true):TablesWhole.wModule TablesWhole.holds m=true:=by
 unfold TablesWhole.wModule
 rw[h1,h2]
 show (true&&(true&&(TablesWhole.wSs TablesWhole.holds m.scope _ m.scope m.body&&true)))=true
 rw[h3]
 rfl
theorem tabsW:pw_pq0658_01.tablesWhole=true:=by
 have h3:TablesWhole.wSs TablesWhole.holds pw_pq0658_01.main.scope ⟨pw_pq0658_01.main.scope,[],[],[],none⟩ pw_pq0658_01.main.scope bdy=true:=by
  rw[←List.take_append_drop 110 bdy,wtl _ (λ_ _=>rfl) rfl,tg3,tg4]
  rfl
 have e:=wmt tg1 tg2 h3
 unfold Program.tablesWhole TablesWhole.wProgram
 rw[e]
 kernel_rfl
end
section
universe u0 u1 u2 u3 u4 u5 u6 u7
theorem X0x2{P0 P1:Prop}{R:Prop}(h:P0∧P1)(k:P0→P1→R):R:=k h.1 h.2
theorem X0x3{P0 P1 P2:Prop}{R:Prop}(h:P0∧P1∧P2)(k:P0→P1→P2→R):R:=k h.1 h.2.1 h.2.2
theorem X0x4{P0 P1 P2 P3:Prop}{R:Prop}(h:P0∧P1∧P2∧P3)(k:P0→P1→P2→P3→R):R:=k h.1 h.2.1 h.2.2.1 h.2.2.2
theorem X0x5{P0 P1 P2 P3 P4:Prop}{R:Prop}(h:P0∧P1∧P2∧P3∧P4)(k:P0→P1→P2→P3→P4→R):R:=k h.1 h.2.1 h.2.2.1 h.2.2.2.1 h.2.2.2.2
theorem X0x6{P0 P1 P2 P3 P4 P5:Prop}{R:Prop}(h:P0∧P1∧P2∧P3∧P4∧P5)(k:P0→P1→P2→P3→P4→P5→R):R:=k h.1 h.2.1 h.2.2.1 h.2.2.2.1 h.2.2.2.2.1 h.2.2.2.2.2
theorem X0x7{P0 P1 P2 P3 P4 P5 P6:Prop}{R:Prop}(h:P0∧P1∧P2∧P3∧P4∧P5∧P6)(k:P0→P1→P2→P3→P4→P5→P6→R):R:=k h.1 h.2.1 h.2.2.1 h.2.2.2.1 h.2.2.2.2.1 h.2.2.2.2.2.1 h.2.2.2.2.2.2
theorem X0x8{P0 P1 P2 P3 P4 P5 P6 P7:Prop}{R:Prop}(h:P0∧P1∧P2∧P3∧P4∧P5∧P6∧P7)(k:P0→P1→P2→P3→P4→P5→P6→P7→R):R:=k h.1 h.2.1 h.2.2.1 h.2.2.2.1 h.2.2.2.2.1 h.2.2.2.2.2.1 h.2.2.2.2.2.2.1 h.2.2.2.2.2.2.2
theorem X0x9{P0 P1 P2 P3 P4 P5 P6 P7 P8:Prop}{R:Prop}(h:P0∧P1∧P2∧P3∧P4∧P5∧P6∧P7∧P8)(k:P0→P1→P2→P3→P4→P5→P6→P7→P8→R):R:=k h.1 h.2.1 h.2.2.1 h.2.2.2.1 h.2.2.2.2.1 h.2.2.2.2.2.1 h.2.2.2.2.2.2.1 h.2.2.2.2.2.2.2.1 h.2.2.2.2.2.2.2.2
theorem qhz{P0 P1 P2 P3 P4 P5 P6 P7 P8 P9:Prop}{R:Prop}(h:P0∧P1∧P2∧P3∧P4∧P5∧P6∧P7∧P8∧P9)(k:P0→P1→P2→P3→P4→P5→P6→P7→P8→P9→R):R:=k h.1 h.2.1 h.2.2.1 h.2.2.2.1 h.2.2.2.2.1 h.2.2.2.2.2.1 h.2.2.2.2.2.2.1 h.2.2.2.2.2.2.2.1 h.2.2.2.2.2.2.2.2.1 h.2.2.2.2.2.2.2.2.2
theorem X1x1{α0:Sort u0}{P0:α0→Prop}{R:Prop}(h:∃a0,P0 a0)(k:∀a0,P0 a0→R):R:=h.elim k
theorem X1x2{α0:Sort u0}{P0 P1:α0→Prop}{R:Prop}(h:∃a0,P0 a0∧P1 a0)(k:∀a0,P0 a0→P1 a0→R):R:=h.elim λa h=>X0x2 h (k a)
theorem X1x3{α0:Sort u0}{P0 P1 P2:α0→Prop}{R:Prop}(h:∃a0,P0 a0∧P1 a0∧P2 a0)(k:∀a0,P0 a0→P1 a0→P2 a0→R):R:=h.elim λa h=>X0x3 h (k a)
theorem X1x4{α0:Sort u0}{P0 P1 P2 P3:α0→Prop}{R:Prop}(h:∃a0,P0 a0∧P1 a0∧P2 a0∧P3 a0)(k:∀a0,P0 a0→P1 a0→P2 a0→P3 a0→R):R:=h.elim λa h=>X0x4 h (k a)
theorem X1x5{α0:Sort u0}{P0 P1 P2 P3 P4:α0→Prop}{R:Prop}(h:∃a0,P0 a0∧P1 a0∧P2 a0∧P3 a0∧P4 a0)(k:∀a0,P0 a0→P1 a0→P2 a0→P3 a0→P4 a0→R):R:=h.elim λa h=>X0x5 h (k a)
theorem X1x6{α0:Sort u0}{P0 P1 P2 P3 P4 P5:α0→Prop}{R:Prop}(h:∃a0,P0 a0∧P1 a0∧P2 a0∧P3 a0∧P4 a0∧P5 a0)(k:∀a0,P0 a0→P1 a0→P2 a0→P3 a0→P4 a0→P5 a0→R):R:=h.elim λa h=>X0x6 h (k a)
theorem X1x7{α0:Sort u0}{P0 P1 P2 P3 P4 P5 P6:α0→Prop}{R:Prop}(h:∃a0,P0 a0∧P1 a0∧P2 a0∧P3 a0∧P4 a0∧P5 a0∧P6 a0)(k:∀a0,P0 a0→P1 a0→P2 a0→P3 a0→P4 a0→P5 a0→P6 a0→R):R:=h.elim λa h=>X0x7 h (k a)
theorem X1x8{α0:Sort u0}{P0 P1 P2 P3 P4 P5 P6 P7:α0→Prop}{R:Prop}(h:∃a0,P0 a0∧P1 a0∧P2 a0∧P3 a0∧P4 a0∧P5 a0∧P6 a0∧P7 a0)(k:∀a0,P0 a0→P1 a0→P2 a0→P3 a0→P4 a0→P5 a0→P6 a0→P7 a0→R):R:=h.elim λa h=>X0x8 h (k a)
theorem X1x9{α0:Sort u0}{P0 P1 P2 P3 P4 P5 P6 P7 P8:α0→Prop}{R:Prop}(h:∃a0,P0 a0∧P1 a0∧P2 a0∧P3 a0∧P4 a0∧P5 a0∧P6 a0∧P7 a0∧P8 a0)(k:∀a0,P0 a0→P1 a0→P2 a0→P3 a0→P4 a0→P5 a0→P6 a0→P7 a0→P8 a0→R):R:=h.elim λa h=>X0x9 h (k a)
theorem qhy{α0:Sort u0}{P0 P1 P2 P3 P4 P5 P6 P7 P8 P9:α0→Prop}{R:Prop}(h:∃a0,P0 a0∧P1 a0∧P2 a0∧P3 a0∧P4 a0∧P5 a0∧P6 a0∧P7 a0∧P8 a0∧P9 a0)(k:∀a0,P0 a0→P1 a0→P2 a0→P3 a0→P4 a0→P5 a0→P6 a0→P7 a0→P8 a0→P9 a0→R):R:=h.elim λa h=>qhz h (k a)
theorem X2x1{α0:Sort u0}{α1:Sort u1}{P0:α0→α1→Prop}{R:Prop}(h:∃a0 a1,P0 a0 a1)(k:∀a0 a1,P0 a0 a1→R):R:=h.elim λa h=>X1x1 h (k a)
theorem X2x2{α0:Sort u0}{α1:Sort u1}{P0 P1:α0→α1→Prop}{R:Prop}(h:∃a0 a1,P0 a0 a1∧P1 a0 a1)(k:∀a0 a1,P0 a0 a1→P1 a0 a1→R):R:=h.elim λa h=>X1x2 h (k a)
theorem X2x3{α0:Sort u0}{α1:Sort u1}{P0 P1 P2:α0→α1→Prop}{R:Prop}(h:∃a0 a1,P0 a0 a1∧P1 a0 a1∧P2 a0 a1)(k:∀a0 a1,P0 a0 a1→P1 a0 a1→P2 a0 a1→R):R:=h.elim λa h=>X1x3 h (k a)
theorem X2x4{α0:Sort u0}{α1:Sort u1}{P0 P1 P2 P3:α0→α1→Prop}{R:Prop}(h:∃a0 a1,P0 a0 a1∧P1 a0 a1∧P2 a0 a1∧P3 a0 a1)(k:∀a0 a1,P0 a0 a1→P1 a0 a1→P2 a0 a1→P3 a0 a1→R):R:=h.elim λa h=>X1x4 h (k a)
theorem X2x5{α0:Sort u0}{α1:Sort u1}{P0 P1 P2 P3 P4:α0→α1→Prop}{R:Prop}(h:∃a0 a1,P0 a0 a1∧P1 a0 a1∧P2 a0 a1∧P3 a0 a1∧P4 a0 a1)(k:∀a0 a1,P0 a0 a1→P1 a0 a1→P2 a0 a1→P3 a0 a1→P4 a0 a1→R):R:=h.elim λa h=>X1x5 h (k a)
theorem X2x6{α0:Sort u0}{α1:Sort u1}{P0 P1 P2 P3 P4 P5:α0→α1→Prop}{R:Prop}(h:∃a0 a1,P0 a0 a1∧P1 a0 a1∧P2 a0 a1∧P3 a0 a1∧P4 a0 a1∧P5 a0 a1)(k:∀a0 a1,P0 a0 a1→P1 a0 a1→P2 a0 a1→P3 a0 a1→P4 a0 a1→P5 a0 a1→R):R:=h.elim λa h=>X1x6 h (k a)
theorem X2x7{α0:Sort u0}{α1:Sort u1}{P0 P1 P2 P3 P4 P5 P6:α0→α1→Prop}{R:Prop}(h:∃a0 a1,P0 a0 a1∧P1 a0 a1∧P2 a0 a1∧P3 a0 a1∧P4 a0 a1∧P5 a0 a1∧P6 a0 a1)(k:∀a0 a1,P0 a0 a1→P1 a0 a1→P2 a0 a1→P3 a0 a1→P4 a0 a1→P5 a0 a1→P6 a0 a1→R):R:=h.elim λa h=>X1x7 h (k a)
theorem X2x8{α0:Sort u0}{α1:Sort u1}{P0 P1 P2 P3 P4 P5 P6 P7:α0→α1→Prop}{R:Prop}(h:∃a0 a1,P0 a0 a1∧P1 a0 a1∧P2 a0 a1∧P3 a0 a1∧P4 a0 a1∧P5 a0 a1∧P6 a0 a1∧P7 a0 a1)(k:∀a0 a1,P0 a0 a1→P1 a0 a1→P2 a0 a1→P3 a0 a1→P4 a0 a1→P5 a0 a1→P6 a0 a1→P7 a0 a1→R):R:=h.elim λa h=>X1x8 h (k a)
theorem X2x9{α0:Sort u0}{α1:Sort u1}{P0 P1 P2 P3 P4 P5 P6 P7 P8:α0→α1→Prop}{R:Prop}(h:∃a0 a1,P0 a0 a1∧P1 a0 a1∧P2 a0 a1∧P3 a0 a1∧P4 a0 a1∧P5 a0 a1∧P6 a0 a1∧P7 a0 a1∧P8 a0 a1)(k:∀a0 a1,P0 a0 a1→P1 a0 a1→P2 a0 a1→P3 a0 a1→P4 a0 a1→P5 a0 a1→P6 a0 a1→P7 a0 a1→P8 a0 a1→R):R:=h.elim λa h=>X1x9 h (k a)
theorem qhx{α0:Sort u0}{α1:Sort u1}{P0 P1 P2 P3 P4 P5 P6 P7 P8 P9:α0→α1→Prop}{R:Prop}(h:∃a0 a1,P0 a0 a1∧P1 a0 a1∧P2 a0 a1∧P3 a0 a1∧P4 a0 a1∧P5 a0 a1∧P6 a0 a1∧P7 a0 a1∧P8 a0 a1∧P9 a0 a1)(k:∀a0 a1,P0 a0 a1→P1 a0 a1→P2 a0 a1→P3 a0 a1→P4 a0 a1→P5 a0 a1→P6 a0 a1→P7 a0 a1→P8 a0 a1→P9 a0 a1→R):R:=h.elim λa h=>qhy h (k a)
theorem X3x1{α0:Sort u0}{α1:Sort u1}{α2:Sort u2}{P0:α0→α1→α2→Prop}{R:Prop}(h:∃a0 a1 a2,P0 a0 a1 a2)(k:∀a0 a1 a2,P0 a0 a1 a2→R):R:=h.elim λa h=>X2x1 h (k a)
theorem X3x2{α0:Sort u0}{α1:Sort u1}{α2:Sort u2}{P0 P1:α0→α1→α2→Prop}{R:Prop}(h:∃a0 a1 a2,P0 a0 a1 a2∧P1 a0 a1 a2)(k:∀a0 a1 a2,P0 a0 a1 a2→P1 a0 a1 a2→R):R:=h.elim λa h=>X2x2 h (k a)
theorem X3x3{α0:Sort u0}{α1:Sort u1}{α2:Sort u2}{P0 P1 P2:α0→α1→α2→Prop}{R:Prop}(h:∃a0 a1 a2,P0 a0 a1 a2∧P1 a0 a1 a2∧P2 a0 a1 a2)(k:∀a0 a1 a2,P0 a0 a1 a2→P1 a0 a1 a2→P2 a0 a1 a2→R):R:=h.elim λa h=>X2x3 h (k a)
theorem X3x4{α0:Sort u0}{α1:Sort u1}{α2:Sort u2}{P0 P1 P2 P3:α0→α1→α2→Prop}{R:Prop}(h:∃a0 a1 a2,P0 a0 a1 a2∧P1 a0 a1 a2∧P2 a0 a1 a2∧P3 a0 a1 a2)(k:∀a0 a1 a2,P0 a0 a1 a2→P1 a0 a1 a2→P2 a0 a1 a2→P3 a0 a1 a2→R):R:=h.elim λa h=>X2x4 h (k a)
theorem X3x5{α0:Sort u0}{α1:Sort u1}{α2:Sort u2}{P0 P1 P2 P3 P4:α0→α1→α2→Prop}{R:Prop}(h:∃a0 a1 a2,P0 a0 a1 a2∧P1 a0 a1 a2∧P2 a0 a1 a2∧P3 a0 a1 a2∧P4 a0 a1 a2)(k:∀a0 a1 a2,P0 a0 a1 a2→P1 a0 a1 a2→P2 a0 a1 a2→P3 a0 a1 a2→P4 a0 a1 a2→R):R:=h.elim λa h=>X2x5 h (k a)
theorem X3x6{α0:Sort u0}{α1:Sort u1}{α2:Sort u2}{P0 P1 P2 P3 P4 P5:α0→α1→α2→Prop}{R:Prop}(h:∃a0 a1 a2,P0 a0 a1 a2∧P1 a0 a1 a2∧P2 a0 a1 a2∧P3 a0 a1 a2∧P4 a0 a1 a2∧P5 a0 a1 a2)(k:∀a0 a1 a2,P0 a0 a1 a2→P1 a0 a1 a2→P2 a0 a1 a2→P3 a0 a1 a2→P4 a0 a1 a2→P5 a0 a1 a2→R):R:=h.elim λa h=>X2x6 h (k a)
theorem X3x7{α0:Sort u0}{α1:Sort u1}{α2:Sort u2}{P0 P1 P2 P3 P4 P5 P6:α0→α1→α2→Prop}{R:Prop}(h:∃a0 a1 a2,P0 a0 a1 a2∧P1 a0 a1 a2∧P2 a0 a1 a2∧P3 a0 a1 a2∧P4 a0 a1 a2∧P5 a0 a1 a2∧P6 a0 a1 a2)(k:∀a0 a1 a2,P0 a0 a1 a2→P1 a0 a1 a2→P2 a0 a1 a2→P3 a0 a1 a2→P4 a0 a1 a2→P5 a0 a1 a2→P6 a0 a1 a2→R):R:=h.elim λa h=>X2x7 h (k a)
theorem X3x8{α0:Sort u0}{α1:Sort u1}{α2:Sort u2}{P0 P1 P2 P3 P4 P5 P6 P7:α0→α1→α2→Prop}{R:Prop}(h:∃a0 a1 a2,P0 a0 a1 a2∧P1 a0 a1 a2∧P2 a0 a1 a2∧P3 a0 a1 a2∧P4 a0 a1 a2∧P5 a0 a1 a2∧P6 a0 a1 a2∧P7 a0 a1 a2)(k:∀a0 a1 a2,P0 a0 a1 a2→P1 a0 a1 a2→P2 a0 a1 a2→P3 a0 a1 a2→P4 a0 a1 a2→P5 a0 a1 a2→P6 a0 a1 a2→P7 a0 a1 a2→R):R:=h.elim λa h=>X2x8 h (k a)
theorem X3x9{α0:Sort u0}{α1:Sort u1}{α2:Sort u2}{P0 P1 P2 P3 P4 P5 P6 P7 P8:α0→α1→α2→Prop}{R:Prop}(h:∃a0 a1 a2,P0 a0 a1 a2∧P1 a0 a1 a2∧P2 a0 a1 a2∧P3 a0 a1 a2∧P4 a0 a1 a2∧P5 a0 a1 a2∧P6 a0 a1 a2∧P7 a0 a1 a2∧P8 a0 a1 a2)(k:∀a0 a1 a2,P0 a0 a1 a2→P1 a0 a1 a2→P2 a0 a1 a2→P3 a0 a1 a2→P4 a0 a1 a2→P5 a0 a1 a2→P6 a0 a1 a2→P7 a0 a1 a2→P8 a0 a1 a2→R):R:=h.elim λa h=>X2x9 h (k a)
theorem qgP{α0:Sort u0}{α1:Sort u1}{α2:Sort u2}{P0 P1 P2 P3 P4 P5 P6 P7 P8 P9:α0→α1→α2→Prop}{R:Prop}(h:∃a0 a1 a2,P0 a0 a1 a2∧P1 a0 a1 a2∧P2 a0 a1 a2∧P3 a0 a1 a2∧P4 a0 a1 a2∧P5 a0 a1 a2∧P6 a0 a1 a2∧P7 a0 a1 a2∧P8 a0 a1 a2∧P9 a0 a1 a2)(k:∀a0 a1 a2,P0 a0 a1 a2→P1 a0 a1 a2→P2 a0 a1 a2→P3 a0 a1 a2→P4 a0 a1 a2→P5 a0 a1 a2→P6 a0 a1 a2→P7 a0 a1 a2→P8 a0 a1 a2→P9 a0 a1 a2→R):R:=h.elim λa h=>qhx h (k a)
theorem X4x1{α0:Sort u0}{α1:Sort u1}{α2:Sort u2}{α3:Sort u3}{P0:α0→α1→α2→α3→Prop}{R:Prop}(h:∃a0 a1 a2 a3,P0 a0 a1 a2 a3)(k:∀a0 a1 a2 a3,P0 a0 a1 a2 a3→R):R:=h.elim λa h=>X3x1 h (k a)
theorem X4x2{α0:Sort u0}{α1:Sort u1}{α2:Sort u2}{α3:Sort u3}{P0 P1:α0→α1→α2→α3→Prop}{R:Prop}(h:∃a0 a1 a2 a3,P0 a0 a1 a2 a3∧P1 a0 a1 a2 a3)(k:∀a0 a1 a2 a3,P0 a0 a1 a2 a3→P1 a0 a1 a2 a3→R):R:=h.elim λa h=>X3x2 h (k a)
theorem X4x3{α0:Sort u0}{α1:Sort u1}{α2:Sort u2}{α3:Sort u3}{P0 P1 P2:α0→α1→α2→α3→Prop}{R:Prop}(h:∃a0 a1 a2 a3,P0 a0 a1 a2 a3∧P1 a0 a1 a2 a3∧P2 a0 a1 a2 a3)(k:∀a0 a1 a2 a3,P0 a0 a1 a2 a3→P1 a0 a1 a2 a3→P2 a0 a1 a2 a3→R):R:=h.elim λa h=>X3x3 h (k a)
theorem X4x4{α0:Sort u0}{α1:Sort u1}{α2:Sort u2}{α3:Sort u3}{P0 P1 P2 P3:α0→α1→α2→α3→Prop}{R:Prop}(h:∃a0 a1 a2 a3,P0 a0 a1 a2 a3∧P1 a0 a1 a2 a3∧P2 a0 a1 a2 a3∧P3 a0 a1 a2 a3)(k:∀a0 a1 a2 a3,P0 a0 a1 a2 a3→P1 a0 a1 a2 a3→P2 a0 a1 a2 a3→P3 a0 a1 a2 a3→R):R:=h.elim λa h=>X3x4 h (k a)
theorem X4x5{α0:Sort u0}{α1:Sort u1}{α2:Sort u2}{α3:Sort u3}{P0 P1 P2 P3 P4:α0→α1→α2→α3→Prop}{R:Prop}(h:∃a0 a1 a2 a3,P0 a0 a1 a2 a3∧P1 a0 a1 a2 a3∧P2 a0 a1 a2 a3∧P3 a0 a1 a2 a3∧P4 a0 a1 a2 a3)(k:∀a0 a1 a2 a3,P0 a0 a1 a2 a3→P1 a0 a1 a2 a3→P2 a0 a1 a2 a3→P3 a0 a1 a2 a3→P4 a0 a1 a2 a3→R):R:=h.elim λa h=>X3x5 h (k a)
theorem X4x6{α0:Sort u0}{α1:Sort u1}{α2:Sort u2}{α3:Sort u3}{P0 P1 P2 P3 P4 P5:α0→α1→α2→α3→Prop}{R:Prop}(h:∃a0 a1 a2 a3,P0 a0 a1 a2 a3∧P1 a0 a1 a2 a3∧P2 a0 a1 a2 a3∧P3 a0 a1 a2 a3∧P4 a0 a1 a2 a3∧P5 a0 a1 a2 a3)(k:∀a0 a1 a2 a3,P0 a0 a1 a2 a3→P1 a0 a1 a2 a3→P2 a0 a1 a2 a3→P3 a0 a1 a2 a3→P4 a0 a1 a2 a3→P5 a0 a1 a2 a3→R):R:=h.elim λa h=>X3x6 h (k a)
theorem X4x7{α0:Sort u0}{α1:Sort u1}{α2:Sort u2}{α3:Sort u3}{P0 P1 P2 P3 P4 P5 P6:α0→α1→α2→α3→Prop}{R:Prop}(h:∃a0 a1 a2 a3,P0 a0 a1 a2 a3∧P1 a0 a1 a2 a3∧P2 a0 a1 a2 a3∧P3 a0 a1 a2 a3∧P4 a0 a1 a2 a3∧P5 a0 a1 a2 a3∧P6 a0 a1 a2 a3)(k:∀a0 a1 a2 a3,P0 a0 a1 a2 a3→P1 a0 a1 a2 a3→P2 a0 a1 a2 a3→P3 a0 a1 a2 a3→P4 a0 a1 a2 a3→P5 a0 a1 a2 a3→P6 a0 a1 a2 a3→R):R:=h.elim λa h=>X3x7 h (k a)
theorem X4x9{α0:Sort u0}{α1:Sort u1}{α2:Sort u2}{α3:Sort u3}{P0 P1 P2 P3 P4 P5 P6 P7 P8:α0→α1→α2→α3→Prop}{R:Prop}(h:∃a0 a1 a2 a3,P0 a0 a1 a2 a3∧P1 a0 a1 a2 a3∧P2 a0 a1 a2 a3∧P3 a0 a1 a2 a3∧P4 a0 a1 a2 a3∧P5 a0 a1 a2 a3∧P6 a0 a1 a2 a3∧P7 a0 a1 a2 a3∧P8 a0 a1 a2 a3)(k:∀a0 a1 a2 a3,P0 a0 a1 a2 a3→P1 a0 a1 a2 a3→P2 a0 a1 a2 a3→P3 a0 a1 a2 a3→P4 a0 a1 a2 a3→P5 a0 a1 a2 a3→P6 a0 a1 a2 a3→P7 a0 a1 a2 a3→P8 a0 a1 a2 a3→R):R:=h.elim λa h=>X3x9 h (k a)
theorem X5x2{α0:Sort u0}{α1:Sort u1}{α2:Sort u2}{α3:Sort u3}{α4:Sort u4}{P0 P1:α0→α1→α2→α3→α4→Prop}{R:Prop}(h:∃a0 a1 a2 a3 a4,P0 a0 a1 a2 a3 a4∧P1 a0 a1 a2 a3 a4)(k:∀a0 a1 a2 a3 a4,P0 a0 a1 a2 a3 a4→P1 a0 a1 a2 a3 a4→R):R:=h.elim λa h=>X4x2 h (k a)
theorem X5x3{α0:Sort u0}{α1:Sort u1}{α2:Sort u2}{α3:Sort u3}{α4:Sort u4}{P0 P1 P2:α0→α1→α2→α3→α4→Prop}{R:Prop}(h:∃a0 a1 a2 a3 a4,P0 a0 a1 a2 a3 a4∧P1 a0 a1 a2 a3 a4∧P2 a0 a1 a2 a3 a4)(k:∀a0 a1 a2 a3 a4,P0 a0 a1 a2 a3 a4→P1 a0 a1 a2 a3 a4→P2 a0 a1 a2 a3 a4→R):R:=h.elim λa h=>X4x3 h (k a)
theorem X5x4{α0:Sort u0}{α1:Sort u1}{α2:Sort u2}{α3:Sort u3}{α4:Sort u4}{P0 P1 P2 P3:α0→α1→α2→α3→α4→Prop}{R:Prop}(h:∃a0 a1 a2 a3 a4,P0 a0 a1 a2 a3 a4∧P1 a0 a1 a2 a3 a4∧P2 a0 a1 a2 a3 a4∧P3 a0 a1 a2 a3 a4)(k:∀a0 a1 a2 a3 a4,P0 a0 a1 a2 a3 a4→P1 a0 a1 a2 a3 a4→P2 a0 a1 a2 a3 a4→P3 a0 a1 a2 a3 a4→R):R:=h.elim λa h=>X4x4 h (k a)
theorem X5x5{α0:Sort u0}{α1:Sort u1}{α2:Sort u2}{α3:Sort u3}{α4:Sort u4}{P0 P1 P2 P3 P4:α0→α1→α2→α3→α4→Prop}{R:Prop}(h:∃a0 a1 a2 a3 a4,P0 a0 a1 a2 a3 a4∧P1 a0 a1 a2 a3 a4∧P2 a0 a1 a2 a3 a4∧P3 a0 a1 a2 a3 a4∧P4 a0 a1 a2 a3 a4)(k:∀a0 a1 a2 a3 a4,P0 a0 a1 a2 a3 a4→P1 a0 a1 a2 a3 a4→P2 a0 a1 a2 a3 a4→P3 a0 a1 a2 a3 a4→P4 a0 a1 a2 a3 a4→R):R:=h.elim λa h=>X4x5 h (k a)
theorem X5x6{α0:Sort u0}{α1:Sort u1}{α2:Sort u2}{α3:Sort u3}{α4:Sort u4}{P0 P1 P2 P3 P4 P5:α0→α1→α2→α3→α4→Prop}{R:Prop}(h:∃a0 a1 a2 a3 a4,P0 a0 a1 a2 a3 a4∧P1 a0 a1 a2 a3 a4∧P2 a0 a1 a2 a3 a4∧P3 a0 a1 a2 a3 a4∧P4 a0 a1 a2 a3 a4∧P5 a0 a1 a2 a3 a4)(k:∀a0 a1 a2 a3 a4,P0 a0 a1 a2 a3 a4→P1 a0 a1 a2 a3 a4→P2 a0 a1 a2 a3 a4→P3 a0 a1 a2 a3 a4→P4 a0 a1 a2 a3 a4→P5 a0 a1 a2 a3 a4→R):R:=h.elim λa h=>X4x6 h (k a)
theorem X5x7{α0:Sort u0}{α1:Sort u1}{α2:Sort u2}{α3:Sort u3}{α4:Sort u4}{P0 P1 P2 P3 P4 P5 P6:α0→α1→α2→α3→α4→Prop}{R:Prop}(h:∃a0 a1 a2 a3 a4,P0 a0 a1 a2 a3 a4∧P1 a0 a1 a2 a3 a4∧P2 a0 a1 a2 a3 a4∧P3 a0 a1 a2 a3 a4∧P4 a0 a1 a2 a3 a4∧P5 a0 a1 a2 a3 a4∧P6 a0 a1 a2 a3 a4)(k:∀a0 a1 a2 a3 a4,P0 a0 a1 a2 a3 a4→P1 a0 a1 a2 a3 a4→P2 a0 a1 a2 a3 a4→P3 a0 a1 a2 a3 a4→P4 a0 a1 a2 a3 a4→P5 a0 a1 a2 a3 a4→P6 a0 a1 a2 a3 a4→R):R:=h.elim λa h=>X4x7 h (k a)
theorem X5x9{α0:Sort u0}{α1:Sort u1}{α2:Sort u2}{α3:Sort u3}{α4:Sort u4}{P0 P1 P2 P3 P4 P5 P6 P7 P8:α0→α1→α2→α3→α4→Prop}{R:Prop}(h:∃a0 a1 a2 a3 a4,P0 a0 a1 a2 a3 a4∧P1 a0 a1 a2 a3 a4∧P2 a0 a1 a2 a3 a4∧P3 a0 a1 a2 a3 a4∧P4 a0 a1 a2 a3 a4∧P5 a0 a1 a2 a3 a4∧P6 a0 a1 a2 a3 a4∧P7 a0 a1 a2 a3 a4∧P8 a0 a1 a2 a3 a4)(k:∀a0 a1 a2 a3 a4,P0 a0 a1 a2 a3 a4→P1 a0 a1 a2 a3 a4→P2 a0 a1 a2 a3 a4→P3 a0 a1 a2 a3 a4→P4 a0 a1 a2 a3 a4→P5 a0 a1 a2 a3 a4→P6 a0 a1 a2 a3 a4→P7 a0 a1 a2 a3 a4→P8 a0 a1 a2 a3 a4→R):R:=h.elim λa h=>X4x9 h (k a)
theorem X6x2{α0:Sort u0}{α1:Sort u1}{α2:Sort u2}{α3:Sort u3}{α4:Sort u4}{α5:Sort u5}{P0 P1:α0→α1→α2→α3→α4→α5→Prop}{R:Prop}(h:∃a0 a1 a2 a3 a4 a5,P0 a0 a1 a2 a3 a4 a5∧P1 a0 a1 a2 a3 a4 a5)(k:∀a0 a1 a2 a3 a4 a5,P0 a0 a1 a2 a3 a4 a5→P1 a0 a1 a2 a3 a4 a5→R):R:=h.elim λa h=>X5x2 h (k a)
theorem X6x3{α0:Sort u0}{α1:Sort u1}{α2:Sort u2}{α3:Sort u3}{α4:Sort u4}{α5:Sort u5}{P0 P1 P2:α0→α1→α2→α3→α4→α5→Prop}{R:Prop}(h:∃a0 a1 a2 a3 a4 a5,P0 a0 a1 a2 a3 a4 a5∧P1 a0 a1 a2 a3 a4 a5∧P2 a0 a1 a2 a3 a4 a5)(k:∀a0 a1 a2 a3 a4 a5,P0 a0 a1 a2 a3 a4 a5→P1 a0 a1 a2 a3 a4 a5→P2 a0 a1 a2 a3 a4 a5→R):R:=h.elim λa h=>X5x3 h (k a)
theorem X6x5{α0:Sort u0}{α1:Sort u1}{α2:Sort u2}{α3:Sort u3}{α4:Sort u4}{α5:Sort u5}{P0 P1 P2 P3 P4:α0→α1→α2→α3→α4→α5→Prop}{R:Prop}(h:∃a0 a1 a2 a3 a4 a5,P0 a0 a1 a2 a3 a4 a5∧P1 a0 a1 a2 a3 a4 a5∧P2 a0 a1 a2 a3 a4 a5∧P3 a0 a1 a2 a3 a4 a5∧P4 a0 a1 a2 a3 a4 a5)(k:∀a0 a1 a2 a3 a4 a5,P0 a0 a1 a2 a3 a4 a5→P1 a0 a1 a2 a3 a4 a5→P2 a0 a1 a2 a3 a4 a5→P3 a0 a1 a2 a3 a4 a5→P4 a0 a1 a2 a3 a4 a5→R):R:=h.elim λa h=>X5x5 h (k a)
theorem X6x9{α0:Sort u0}{α1:Sort u1}{α2:Sort u2}{α3:Sort u3}{α4:Sort u4}{α5:Sort u5}{P0 P1 P2 P3 P4 P5 P6 P7 P8:α0→α1→α2→α3→α4→α5→Prop}{R:Prop}(h:∃a0 a1 a2 a3 a4 a5,P0 a0 a1 a2 a3 a4 a5∧P1 a0 a1 a2 a3 a4 a5∧P2 a0 a1 a2 a3 a4 a5∧P3 a0 a1 a2 a3 a4 a5∧P4 a0 a1 a2 a3 a4 a5∧P5 a0 a1 a2 a3 a4 a5∧P6 a0 a1 a2 a3 a4 a5∧P7 a0 a1 a2 a3 a4 a5∧P8 a0 a1 a2 a3 a4 a5)(k:∀a0 a1 a2 a3 a4 a5,P0 a0 a1 a2 a3 a4 a5→P1 a0 a1 a2 a3 a4 a5→P2 a0 a1 a2 a3 a4 a5→P3 a0 a1 a2 a3 a4 a5→P4 a0 a1 a2 a3 a4 a5→P5 a0 a1 a2 a3 a4 a5→P6 a0 a1 a2 a3 a4 a5→P7 a0 a1 a2 a3 a4 a5→P8 a0 a1 a2 a3 a4 a5→R):R:=h.elim λa h=>X5x9 h (k a)
theorem X7x3{α0:Sort u0}{α1:Sort u1}{α2:Sort u2}{α3:Sort u3}{α4:Sort u4}{α5:Sort u5}{α6:Sort u6}{P0 P1 P2:α0→α1→α2→α3→α4→α5→α6→Prop}{R:Prop}(h:∃a0 a1 a2 a3 a4 a5 a6,P0 a0 a1 a2 a3 a4 a5 a6∧P1 a0 a1 a2 a3 a4 a5 a6∧P2 a0 a1 a2 a3 a4 a5 a6)(k:∀a0 a1 a2 a3 a4 a5 a6,P0 a0 a1 a2 a3 a4 a5 a6→P1 a0 a1 a2 a3 a4 a5 a6→P2 a0 a1 a2 a3 a4 a5 a6→R):R:=h.elim λa h=>X6x3 h (k a)
theorem X7x5{α0:Sort u0}{α1:Sort u1}{α2:Sort u2}{α3:Sort u3}{α4:Sort u4}{α5:Sort u5}{α6:Sort u6}{P0 P1 P2 P3 P4:α0→α1→α2→α3→α4→α5→α6→Prop}{R:Prop}(h:∃a0 a1 a2 a3 a4 a5 a6,P0 a0 a1 a2 a3 a4 a5 a6∧P1 a0 a1 a2 a3 a4 a5 a6∧P2 a0 a1 a2 a3 a4 a5 a6∧P3 a0 a1 a2 a3 a4 a5 a6∧P4 a0 a1 a2 a3 a4 a5 a6)(k:∀a0 a1 a2 a3 a4 a5 a6,P0 a0 a1 a2 a3 a4 a5 a6→P1 a0 a1 a2 a3 a4 a5 a6→P2 a0 a1 a2 a3 a4 a5 a6→P3 a0 a1 a2 a3 a4 a5 a6→P4 a0 a1 a2 a3 a4 a5 a6→R):R:=h.elim λa h=>X6x5 h (k a)
theorem zT{P:Prop}(h:true=false):P:=(Bool.false_ne_true h.symm).elim
theorem zN{α:Type _}{a:α}{P:Prop}(h:(none:Option α)=some a):P:=nomatch h
theorem zS{α:Type _}{a:α}{P:Prop}(h:some a=(none:Option α)):P:=nomatch h
theorem zI{α:Type _}{a b:α}{P:Prop}(h:some a=some b)(k:a=b→P):P:=k (Z6 h)
theorem zE{α:Sort _}{a b:α}{P:Prop}(h:a=b)(k:a=b→P):P:=k h
end
section
open PySem
structure Fp where
 a:Addr
 x:List Addr
noncomputable def Fp.all(p:Fp):List Addr:=p.a::p.x
structure Wd where
 ρ:List Fp
 ν:List Int
 κ:List (Addr×Obj)
 γ:List (Addr×Obj)
 δ:List (Nat×Nat×Nat)
noncomputable def q6I(o:Obj):Obj:={o with cls:=.type "code"}
noncomputable def Wd.still(W:Wd):List (Addr×Obj):=(W.κ.map λg=>(g.1,q6I g.2))++W.γ
structure Wd.le(W W':Wd):Prop where
 ρ:W.ρ<+:W'.ρ
 ν:W.ν<+:W'.ν
 κ:∀g∈W.κ,g∈W'.κ
 γ:W'.γ=W.γ
 δ:W'.δ=W.δ
theorem Wd.le.refl(W:Wd):W.le W:=⟨List.prefix_refl _,List.prefix_refl _,λ_ h=>h,rfl,rfl⟩
theorem Wd.le.trans{a b c:Wd}(x:a.le b)(y:b.le c):a.le c:=⟨x.ρ.trans y.ρ,x.ν.trans y.ν,λg h=>y.κ g (x.κ g h),y.γ.trans x.γ,y.δ.trans x.δ⟩
theorem q0a{α:Type}{l l':List α}(h:l<+:l'){k:Nat}{a:α}(e:l[k]?=some a):l'[k]?=some a:=by
 refine X1x1 h ?_;clear h;intro t o1;subst o1
 rw[List.getElem?_append_left (List.getElem?_eq_some_iff.mp e).1];exact e
noncomputable def SI.is(ν:List Int):SI→Int→Prop
 |.lit i,x=>x=i
 |.var k c,x=>∃y,ν[k]?=some y∧x=c+y
theorem SI.is.mono{ν ν':List Int}(h:ν<+:ν'){i:SI}{x:Int}(z:i.is ν x):i.is ν' x:=by
 cases i with
 |lit=>exact z
 |var=>(refine X1x2 z ?_;clear z;intro y e r);exact⟨y,q0a h e,r⟩
theorem nab{x:Int}{n:Nat}:x.natAbs<n↔-(n:Int)<x∧x<n:=by
 constructor
 ·intro h
  have t:=Int.neg_lt_neg (Int.lt_of_le_of_lt (Int.le_natAbs (a:=-x)) (by rw[Int.natAbs_neg];exact Int.ofNat_lt.mpr h))
  rw[Int.neg_neg] at t
  exact⟨t,Int.lt_of_le_of_lt Int.le_natAbs (Int.ofNat_lt.mpr h)⟩
 ·intro h
  refine Z4 (Int.natAbs_eq x) (λe=>?_) λe=>?_
  ·exact Int.ofNat_lt.mp (by rw[←e];exact h.2)
  ·exact Int.ofNat_lt.mp (Int.lt_of_neg_lt_neg (by rw[←e];exact h.1))
theorem q2A{α:Type}{P:α→Prop}{c:Prop}[d:Decidable c]{a b:α}(h:P a)(k:P b):P (if c then a else b):=by cases d<;>assumption
theorem nabI{x:Int}{n:Nat}(h1:-(n:Int)<x)(h2:x<n):x.natAbs<n:=nab.mpr ⟨h1,h2⟩
theorem sl1{n v d j:Nat}(h1:n≤v+d)(h2:d≤n)(hj:j=v+d-n):v=n-d+j:=by
 refine X1x1 (Nat.exists_eq_add_of_le' h2) ?_;intro k e
 subst e hj
 rw[Nat.add_sub_cancel,Nat.add_sub_add_right];exact(Nat.add_sub_cancel' (Nat.le_of_add_le_add_right h1)).symm
theorem sl2{n v d:Nat}(h1:v≤n)(h2:n≤v+d):v+(d-(v+d-n))=n:=by
 refine X1x1 (Nat.exists_eq_add_of_le h1) ?_;intro k e
 subst e
 rw[Nat.add_sub_add_left,Nat.sub_sub_self (Nat.le_of_add_le_add_left h2)]
theorem qcy{p c q n:Nat}(h1:q≤n)(h2:p+c=q):min p n+c+(n-q)=n:=by
 rw[Nat.min_eq_left (Nat.le_trans (h2▸Nat.le_add_right p c) h1),h2];exact Nat.add_sub_cancel' h1
theorem cut0{u l n:Nat}(h:u-l=n)(k:u≤n):l=0∨n=0:=by
 cases l with
 |zero=>exact .inl rfl
 |succ l=>cases n with
  |zero=>exact .inr rfl
  |succ n=>exact absurd (Za (Nat.sub_lt (Nat.pos_of_ne_zero λz=>by subst z;rw[Nat.zero_sub] at h;cases h) (Nat.succ_pos l)) k) (by rw[h];exact Nat.lt_irrefl _)
theorem sub1{d r:Nat}(h:r<d):d-r=d-(r+1)+1:=(Nat.sub_add_cancel (Nat.sub_pos_of_lt h)).symm
theorem dm{t i a:Nat}(h:t*16+i=a)(hi:i<16):t=a/16∧i=a%16:=by
 subst h
 exact⟨by rw[Nat.mul_comm,Nat.mul_add_div (by decide),Nat.div_eq_of_lt hi];rfl,by rw[Nat.mul_comm,Nat.mul_add_mod,Nat.mod_eq_of_lt hi]⟩
theorem qbh{a b:Int}(ha:a.natAbs<2305843009213693952)(hb:b.natAbs<2305843009213693952):(b-a).natAbs<4611686018427387905:=
 Nat.lt_of_le_of_lt (Int.natAbs_sub_le b a) (Za (Nat.add_lt_add hb ha) (by decide))
theorem qfN{j:Int}(h:j.natAbs<4611686018427387905):-2^63≤j∧j<2^63:=⟨Int.le_trans (by decide) (Int.le_of_lt (nab.mp h).1),Int.lt_of_lt_of_le (nab.mp h).2 (by decide)⟩
theorem q7i{j:Int}(h:j.natAbs<2305843009213693952):j.natAbs<4611686018427387905:=Nat.lt_trans h (by decide)
theorem q9t{a:Int}{n:Nat}(h1:-2305843009213693952<a)(h2:a+(n+1:Nat)<2305843009213693952):a.natAbs<2305843009213693952:=
 nab.mpr ⟨h1,Int.lt_of_le_of_lt (Int.le_add_of_nonneg_right (Int.natCast_nonneg _)) h2⟩
theorem nabu{u z c:Int}(h1:0≤z∧z<20)(h2:(u+c).natAbs≤1152921504606846976):(u+(c+z)).natAbs<2305843009213693952:=by
 rw[←Int.add_assoc]
 exact Nat.lt_of_le_of_lt (Int.natAbs_add_le _ _) (Za (Nat.add_lt_add_of_le_of_lt h2 (nab.mpr ⟨Int.lt_of_lt_of_le (by decide) h1.1,h1.2⟩:z.natAbs<20)) (by decide))
theorem nabn{n:Nat}(h:n<256):(n:Int).natAbs<2305843009213693952:=Nat.lt_trans h (by decide)
theorem subn{x y:Nat}(h:¬y≤x):-(((y-x-1:Nat):Int)+1)=(x:Int)-y:=by
 have h:=Nat.not_le.mp h
 rw[show ((y-x-1:Nat):Int)+1=((y-x:Nat):Int) from congrArg Int.ofNat (sub1 h).symm,Int.ofNat_sub (Nat.le_of_lt h),Int.neg_sub]
theorem qdV{i n:Nat}(h:i<n):-((i:Int)+1)+n=(n-i-1:Nat):=by
 rw[show n-i-1=n-(i+1) from rfl,Int.ofNat_sub h,Int.add_comm];rfl
theorem qho{a:Nat}(h:a<64)(k:a/30+1>300):False:=absurd (Nat.lt_of_succ_lt_succ k) (Nat.not_lt.mpr (Nat.le_trans (Nat.div_le_div_right (Nat.le_of_lt h)) (by decide)))
theorem midq{q m:Nat}{n y:Int}(h1:0≤y∧y<20)(h2:n=Int.ofNat q+y)(h3:q=m)(h4:m+20≤256):0≤n∧n<256:=by
 subst h2 h3
 exact⟨Int.add_nonneg (Int.natCast_nonneg _) h1.1,Int.lt_of_lt_of_le (Int.add_lt_add_left h1.2 _) (Int.ofNat_le.mpr h4)⟩
theorem pows(x:Int){y N b:Nat}(h1:x%((10^30:Nat):Int)=y)(h2:N≤b)(h3:10^30≤b):N*999979+y≤b*1000000:=by
 have h:y<10^30:=Int.ofNat_lt.mp (h1▸Int.emod_lt_of_pos x (by decide))
 rw[show b*1000000=b*999979+b*21 by rw[←Nat.mul_add]]
 exact Nat.add_le_add (Nat.mul_le_mul_right _ h2) (Nat.le_trans (Nat.le_of_lt h) (Nat.le_trans h3 (Nat.le_mul_of_pos_right _ (by decide))))
theorem oN{α:Type}{a:α}{P:Prop}(h:(none:Option α)=some a):P:=nomatch h
inductive All2{α β:Type}(P:α→β→Prop):List α→List β→Prop
 |nil:All2 P [] []
 |cons {a b l l'}:P a b→All2 P l l'→All2 P (a::l) (b::l')
namespace All2
variable{α β:Type}{P Q:α→β→Prop}
theorem mono(h:∀a b,P a b→Q a b){l:List α}{l':List β}(x:All2 P l l'):All2 Q l l':=by
 induction x with
 |nil=>exact .nil
 |cons x r ih=>exact .cons (h _ _ x) ih
theorem length{l:List α}{l':List β}(x:All2 P l l'):l'.length=l.length:=by
 induction x with
 |nil=>rfl
 |cons x r ih=>exact congrArg Nat.succ ih
theorem app{l:List α}{l':List β}{m:List α}{m':List β}(x:All2 P l l')(y:All2 P m m'):All2 P (l++m) (l'++m'):=by
 induction x with
 |nil=>exact y
 |cons x r ih=>exact .cons x ih
theorem get{l:List α}{l':List β}(x:All2 P l l'):∀{i:Nat}{a:α},l[i]?=some a→∃b,l'[i]?=some b∧P a b:=by
 induction x with
 |nil=>exact λe=>oN e
 |cons x r ih=>
  intro i a e
  cases i with
  |zero=>exact⟨_,rfl,Z6 e▸x⟩
  |succ i=>exact ih (i:=i) e
theorem take{l:List α}{l':List β}(n:Nat)(x:All2 P l l'):All2 P (l.take n) (l'.take n):=by
 induction x generalizing n with
 |nil=>cases n<;>exact .nil
 |cons x r ih=>cases n with
  |zero=>exact .nil
  |succ n=>exact .cons x (ih n)
theorem drop{l:List α}{l':List β}(n:Nat)(x:All2 P l l'):All2 P (l.drop n) (l'.drop n):=by
 induction x generalizing n with
 |nil=>cases n<;>exact .nil
 |cons x r ih=>cases n with
  |zero=>exact .cons x r
  |succ n=>exact ih n
theorem rev{l:List α}{l':List β}(x:All2 P l l'):All2 P l.reverse l'.reverse:=by
 induction x with
 |nil=>exact .nil
 |cons x r ih=>rw[List.reverse_cons,List.reverse_cons];exact ih.app (.cons x .nil)
theorem set{l:List α}{l':List β}(h:All2 P l l'):∀(i:Nat){a:α}{b:β},P a b→All2 P (l.set i a) (l'.set i b):=by
 induction h with
 |nil=>exact λi _ _ _=>.nil
 |cons x r ih=>
  intro i a b p
  cases i with
  |zero=>exact .cons p r
  |succ i=>exact .cons x (ih i p)
theorem two{a b:α}{m:List β}(h:All2 P [a,b] m):∃c d,m=[c,d]∧P a c∧P b d:=by
 cases h with
 |cons h1 t=>cases t with
  |cons h2 t=>cases t with
   |nil=>exact⟨_,_,rfl,h1,h2⟩
theorem erase{l:List α}{l':List β}(n:Nat)(x:All2 P l l'):All2 P (l.eraseIdx n) (l'.eraseIdx n):=by
 induction x generalizing n with
 |nil=>exact .nil
 |cons x r ih=>cases n with
  |zero=>exact r
  |succ n=>exact .cons x (ih n)
end All2
noncomputable def VR(W:Wd):SV→Value→Prop
 |.none,v=>v=.none
 |.bool b,v=>v=.bool b
 |.int i,v=>∃x t,v=.int x t∧i.is W.ν x∧x.natAbs<2305843009213693952
 |.str s,v=>∃t,v=.str ⟨s.toArray⟩ t∧s.length≤4096
 |.bytes b,v=>∃a t,v=.bytes a t∧All2 (λ(i:SI)(x:UInt8)=>i.is W.ν (x.toNat:Int)) b a.toList∧b.length≤4096
 |.ty n,v=>v=.type (tyNm n)
 |.bi n,v=>v=.builtin (biNm n)
 |.old a,v=>v=.ref a
 |.own k,v=>∃p,W.ρ[k]?=some p∧v=.ref p.a
theorem VR.mono{W W':Wd}(h:W.le W'){x:SV}{v:Value}(z:VR W x v):VR W' x v:=by
 cases x with
 |int i=>(refine X2x3 z ?_;clear z;intro x t e r b);exact⟨x,t,e,r.mono h.ν,b⟩
 |bytes l=>(refine X2x3 z ?_;clear z;intro a t e r b);exact⟨a,t,e,r.mono λ_ _ z=>z.mono h.ν,b⟩
 |own k=>(refine X1x2 z ?_;clear z;intro a e r);exact⟨a,q0a h.ρ e,r⟩
 |_=>exact z
noncomputable abbrev VRs(W:Wd):=All2 (VR W)
theorem VRs.mono{W W':Wd}(h:W.le W'){l:List SV}{l':List Value}(x:VRs W l l'):VRs W' l l':=All2.mono (λ_ _ z=>z.mono h) x
section
theorem q6p{α:Type}{o:Option α}{f:α→Bool}(h:oB o f=true):∃a,o=some a∧f a=true:=by
 cases o with
 |none=>exact zF h
 |some a=>exact⟨a,rfl,h⟩
theorem q00{α:Type}{o:Option α}{f:α→Bool}{X:Prop}(h:oB o f=true)(k:∀a,o=some a→f a=true→X):X:=X1x2 (q6p h) k
theorem qdy{α β:Type}{o:Option α}{f:α→Option β}{b:β}(h:oO o f=some b):∃a,o=some a∧f a=some b:=by
 cases o with
 |none=>exact zN h
 |some a=>exact⟨a,rfl,h⟩
theorem q02{α β:Type}{o:Option α}{f:α→Option β}{b:β}{X:Prop}(h:oO o f=some b)(k:∀a,o=some a→f a=some b→X):X:=X1x2 (qdy h) k
theorem q1c{b:Bool}{t f:Bool}(h:bi b t f=true):(b=true∧t=true)∨(b=false∧f=true):=by
 cases b
 ·exact .inr ⟨rfl,h⟩
 ·exact .inl ⟨rfl,h⟩
theorem qcA{b:Bool}{t:Bool}(h:bi b t false=true):b=true∧t=true:=by
 refine Z4 (q1c h) (λx=>?_) λx=>?_
 ·exact x
 ·cases x.2
theorem q06{b:Bool}{t:Bool}{X:Prop}(h:bi b t false=true)(k:b=true→t=true→X):X:=k (qcA h).1 (qcA h).2
def q1e(l:List (Nat×SV))(i:Nat)(v:SV):List (Nat×SV):=@List.rec (Nat×SV) (λ_=>List (Nat×SV)) [(i,v)] (λp r ih=>@Bool.rec (λ_=>_) (p::ih) ((i,v)::r) (Nat.beq p.1 i)) l
theorem q5A(l:List (Nat×SV))(i:Nat)(v:SV)(k:List (Nat×SV)→Bool):q3D l i v k=k (q1e l i v):=by
 induction l generalizing k with
 |nil=>rfl
 |cons p r ih=>
  show bi (Nat.beq p.1 i) (k ((i,v)::r)) (q3D r i v (λr'=>k (p::r')))=k (bi (Nat.beq p.1 i) ((i,v)::r) (p::q1e r i v))
  rw[ih]
  cases Nat.beq p.1 i<;>rfl
theorem q0w(p:Nat×SV)(r:List (Nat×SV))(i:Nat):q0K (p::r) i=bi (Nat.beq p.1 i) (some p.2) (q0K r i):=rfl
theorem q2h(p:Nat×SV)(r:List (Nat×SV))(i:Nat)(v:SV):q1e (p::r) i v=bi (Nat.beq p.1 i) ((i,v)::r) (p::q1e r i v):=rfl
theorem q2R(i:Nat):q0K [] i=none:=rfl
theorem q85(i:Nat)(v:SV):q1e [] i v=[(i,v)]:=rfl
theorem q9l(m:List (Nat×SV))(i:Nat)(v:SV)(j:Nat):q0K (q1e m i v) j=if i=j then some v else q0K m j:=by
 induction m with
 |nil=>simp only[q85,q2R,q0w,q0g];by_cases h:i=j<;>simp[h]
 |cons p r ih=>
  obtain⟨k,u⟩:=p
  simp only[q2h,q0g]
  by_cases h:k=i
  ·subst h
   simp only[decide_true,q0w,q0g]
   by_cases q:k=j<;>simp[q]
  ·simp only[decide_eq_false h,q0w,q0g]
   by_cases q:k=j
   ·subst q;simp[Ne.symm h]
   ·simp[q,ih]
theorem Tr.get_node(v:Option SO)(l r:Tr)(i:Nat):(Tr.node v l r).get i=if i=0 then v else if i%2=1 then l.get (i/2) else r.get (i/2-1):=by
 show bi (Nat.beq i 0) v (bi (Nat.beq (i%2) 1) (l.get (i/2)) (r.get (i/2-1)))=_
 rw[q0g,q0g]
 by_cases h:i=0
 ·simp[h]
 ·by_cases q:i%2=1<;>simp[h,q]
theorem Tr.get_nil(i:Nat):Tr.nil.get i=none:=rfl
theorem Tr.openK_true{t:Tr}{f:Option SO→Tr→Tr→Bool}(h:t.openK f=true):∃v l r,f v l r=true∧∀j,t.get j=(Tr.node v l r).get j:=by
 cases t with
 |nil=>exact⟨none,.nil,.nil,h,λj=>by rw[Tr.get_node];simp[Tr.get_nil]⟩
 |node v l r=>exact⟨v,l,r,h,λ_=>rfl⟩
theorem od2{i:Nat}(q:i%2=1):2*(i/2)+1=i:=by
 have t:=Nat.div_add_mod i 2
 rw[q] at t;exact t
theorem ev2{i:Nat}(h:i≠0)(q:¬i%2=1):2*(i/2-1)+2=i:=by
 have t:=Nat.div_add_mod i 2
 rw[Nat.mod_two_ne_one.mp q] at t
 generalize i/2=m at t⊢
 cases m with
 |zero=>exact absurd t.symm h
 |succ m=>exact t
theorem Tr.put_get{v:Option SO}{l r:Tr}{i:Nat}{o:Option SO}{k:Tr→Bool}{fl fr:(Tr→Bool)→Bool}(hl:∀k,fl k=true→∃t',k t'=true∧t'.get (i/2)=o∧∀j,j≠i/2→t'.get j=l.get j)
  (hr:∀k,fr k=true→∃t',k t'=true∧t'.get (i/2-1)=o∧∀j,j≠i/2-1→t'.get j=r.get j) (e:bi (Nat.beq i 0) (k (.node o l r)) (bi (Nat.beq (Nat.mod i 2) 1) (fl (λl=>k (.node v l r))) (fr (λr=>k (.node v l r))))=true) :
  ∃t',k t'=true∧t'.get i=o∧∀j,j≠i→t'.get j=(Tr.node v l r).get j:=by
 have gn:∀(v:Option SO)(l r:Tr)(j:Nat),(Tr.node v l r).get j=bi (Nat.beq j 0) v (bi (Nat.beq (Nat.mod j 2) 1) (l.get (Nat.div j 2)) (r.get (Nat.sub (Nat.div j 2) 1))):=λ_ _ _ _=>rfl
 cases h0:Nat.beq i 0 with
 |true=>
  rw[h0] at e
  refine⟨_,e,by rw[gn,h0],λj hj=>?_⟩
  rw[gn,gn]
  cases q:Nat.beq j 0 with
  |true=>exact absurd ((Z9 q).trans (Z9 h0).symm) hj
  |false=>rfl
 |false=>
  have z:i≠0:=λz=>by subst z;exact zT h0
  rw[h0] at e
  cases p:Nat.beq (Nat.mod i 2) 1 with
  |true=>
   rw[p] at e
   refine X1x3 (hl _ e) ?_;intro l' e g sp
   refine⟨_,e,by rw[gn,h0,p];exact g,λj hj=>?_⟩
   rw[gn,gn]
   cases q:Nat.beq j 0 with
   |true=>rfl
   |false=>cases y:Nat.beq (Nat.mod j 2) 1 with
    |false=>rfl
    |true=>exact sp _ λx=>hj (by rw[←od2 (Z9 y),show j/2=i/2 from x];exact od2 (Z9 p))
  |false=>
   rw[p] at e
   have p':=p
   refine X1x3 (hr _ e) ?_;intro r' e g sp
   have p:¬i%2=1:=λz=>by rw[show Nat.mod i 2=1 from z] at p';exact zT p'
   refine⟨_,e,by rw[gn,h0,p'];exact g,λj hj=>?_⟩
   rw[gn,gn]
   cases q:Nat.beq j 0 with
   |true=>rfl
   |false=>cases y:Nat.beq (Nat.mod j 2) 1 with
    |true=>rfl
    |false=>
     have y:¬j%2=1:=λz=>by rw[show Nat.mod j 2=1 from z] at y;exact zT y
     have q:j≠0:=λz=>by subst z;exact zT q
     exact sp _ λx=>hj (by rw[←ev2 q y,show j/2-1=i/2-1 from x];exact ev2 z p)
theorem Tr.setN_get{n:Nat}:∀{t:Tr}{i:Nat}{o:Option SO}{k:Tr→Bool},Tr.setN n t i o k=true→∃t',k t'=true∧t'.get i=o∧∀j,j≠i→t'.get j=t.get j:=by
 induction n with
 |zero=>intro t i o k e;exact zF e
 |succ n ih=>
  intro t i o k e
  have e:t.openK (λv l r=>bi (Nat.beq i 0) (k (.node o l r)) (bi (Nat.beq (Nat.mod i 2) 1) (Tr.setN n l (Nat.div i 2) o (λl=>k (.node v l r))) (Tr.setN n r (Nat.sub (Nat.div i 2) 1) o (λr=>k (.node v l r)))))=true:=e
  refine X3x2 (Tr.openK_true e) ?_;intro v l r e ht
  refine X1x3 (Tr.put_get (λ_ h=>ih h) (λ_ h=>ih h) e) ?_;intro t' a b c
  exact⟨t',a,b,λj hj=>(c j hj).trans (ht j).symm⟩
theorem Tr.setK_get{t:Tr}:∀{i:Nat}{o:Option SO}{k:Tr→Bool},t.setK i o k=true→∃t',k t'=true∧t'.get i=o∧∀j,j≠i→t'.get j=t.get j:=by
 induction t with
 |nil=>exact λ{i o k} h=>Tr.setN_get (show Tr.setN 40 .nil i o k=true from h)
 |node v l r il ir=>exact λh=>Tr.put_get (λ_ h=>il h) (λ_ h=>ir h) h
theorem Tr.setK_spec{t:Tr}{i:Nat}{o:Option SO}{k:Tr→Bool}(e:t.setK i o k=true):∃t',k t'=true∧∀j o',t'.get j=some o'→(j=i∧o=some o')∨(j≠i∧t.get j=some o'):=by
 refine X1x3 (Tr.setK_get e) ?_;intro t' a b c
 refine⟨t',a,λj o' g=>?_⟩
 by_cases h:j=i
 ·subst h;exact .inl ⟨rfl,b.symm.trans g⟩
 ·exact .inr ⟨h,(c j h).symm.trans g⟩
theorem q1R(m:Nat)(k:Nat→Bool):natK m k=k m:=by cases m<;>rfl
structure Put(σ:S)(k:Nat)(o:SO)(τ:S):Prop where
 get:∀j o',τ.get j=some o'→(j=k∧o=o')∨(j≠k∧σ.get j=some o')
 n:τ.n=σ.n
 nv:τ.nv=σ.nv
 kc:τ.kc=σ.kc
 frs:τ.frs=σ.frs
structure Add(σ:S)(o:SO)(τ:S):Prop where
 get:∀j o',τ.get j=some o'→(j=σ.n∧o=o')∨(j≠σ.n∧σ.get j=some o')
 n:τ.n=σ.n+1
 nv:τ.nv=σ.nv
 kc:τ.kc=σ.kc
 frs:τ.frs=σ.frs
theorem S.putK_true{σ:S}{k:Nat}{o:SO}{f:S→Bool}(h:σ.putK k o f=true):∃τ,Put σ k o τ∧f τ=true:=by
 obtain⟨T,n,nv,kc,frs⟩:=σ
 have h:Tr.setK T k (some o) (λT=>f ⟨T,n,nv,kc,frs⟩)=true:=h
 refine X1x2 (Tr.setK_spec h) ?_;intro T' e sp
 refine⟨⟨T',n,nv,kc,frs⟩,⟨λj o' g=>?_,rfl,rfl,rfl,rfl⟩,e⟩
 refine Z4 (sp j o' g) (λo1=>X0x2 o1 λa b=>?_) λx=>?_
 ·exact .inl ⟨a,Z6 b⟩
 ·exact .inr x
theorem S.putK_true_E3{σ:S}{k:Nat}{o:SO}{f:S→Bool}{X:Prop}(h:σ.putK k o f=true)(g:∀τ,Put σ k o τ→f τ=true→X):X:=X1x2 (S.putK_true h) g
structure Del(σ:S)(k:Nat)(τ:S):Prop where
 get:∀j o',τ.get j=some o'→j≠k∧σ.get j=some o'
 n:τ.n=σ.n
 nv:τ.nv=σ.nv
 kc:τ.kc=σ.kc
 frs:τ.frs=σ.frs
theorem S.delK_true{σ:S}{k:Nat}{f:S→Bool}(h:σ.delK k f=true):∃τ,Del σ k τ∧f τ=true:=by
 obtain⟨T,n,nv,kc,frs⟩:=σ
 have h:Tr.setK T k none (λT=>f ⟨T,n,nv,kc,frs⟩)=true:=h
 refine X1x2 (Tr.setK_spec h) ?_;intro T' e sp
 refine⟨⟨T',n,nv,kc,frs⟩,⟨λj o' g=>?_,rfl,rfl,rfl,rfl⟩,e⟩
 refine Z4 (sp j o' g) (λo1=>X0x2 o1 λa b=>?_) λx=>?_
 ·exact zN b
 ·exact x
theorem S.addK_true{σ:S}{o:SO}{f:Nat→S→Bool}(h:σ.addK o f=true):∃τ,Add σ o τ∧f σ.n τ=true:=by
 obtain⟨T,n,nv,kc,frs⟩:=σ
 have h:Tr.setK T n (some o) (λT=>natK (Nat.add n 1) (λm=>f n ⟨T,m,nv,kc,frs⟩))=true:=h
 refine X1x2 (Tr.setK_spec h) ?_;intro T' e sp
 rw[q1R] at e
 refine⟨⟨T',n+1,nv,kc,frs⟩,⟨λj o' g=>?_,rfl,rfl,rfl,rfl⟩,e⟩
 refine Z4 (sp j o' g) (λo1=>X0x2 o1 λa b=>?_) λx=>?_
 ·exact .inl ⟨a,Z6 b⟩
 ·exact .inr x
theorem S.addK_true_E3{σ:S}{o:SO}{f:Nat→S→Bool}{X:Prop}(h:σ.addK o f=true)(g:∀τ,Add σ o τ→f σ.n τ=true→X):X:=X1x2 (S.addK_true h) g
end
theorem q1b{α:Type}(l m:List α)(k:List α→Bool):catK l m k=k (l++m):=by
 induction l generalizing k with
 |nil=>rfl
 |cons a r ih=>exact ih _
theorem q8Y{α:Type}(l:List α)(b:α)(i:Nat)(k:List α→Bool):q75 l b i k=k (l.set i b):=by
 induction l generalizing i k with
 |nil=>rfl
 |cons a r ih=>
  show bi (Nat.beq i 0) (k (b::r)) (q75 r b (i-1) (λr=>k (a::r)))=_
  cases i with
  |zero=>rfl
  |succ i=>exact ih i _
theorem q5X{α:Type}(l:List α)(i:Nat)(k:List α→Bool):q4y l i k=k (l.eraseIdx i):=by
 induction l generalizing i k with
 |nil=>rfl
 |cons a r ih=>
  show bi (Nat.beq i 0) (k r) (q4y r (i-1) (λr=>k (a::r)))=_
  cases i with
  |zero=>rfl
  |succ i=>exact ih i _
theorem qc1{α:Type}(l:List α)(i:Nat)(k:List α→Bool):tkK l i k=k (l.take i):=by
 induction l generalizing i k with
 |nil=>simp only[List.take_nil];rfl
 |cons a r ih=>
  show bi (Nat.beq i 0) (k []) (tkK r (i-1) (λr=>k (a::r)))=_
  cases i with
  |zero=>rfl
  |succ i=>exact ih i _
theorem qa3{α:Type}(l:List α)(i:Nat)(k:List α→Bool):drK l i k=k (l.drop i):=by
 induction l generalizing i k with
 |nil=>simp only[List.drop_nil];rfl
 |cons a r ih=>
  show bi (Nat.beq i 0) (k (a::r)) (drK r (i-1) k)=_
  cases i with
  |zero=>rfl
  |succ i=>exact ih i _
theorem q95{α:Type}(l m:List α)(k:List α→Bool):revK l m k=k (l.reverse++m):=by
 induction l generalizing m k with
 |nil=>rfl
 |cons a r ih=>
  show revK r (a::m) k=_
  rw[ih];simp
noncomputable def times{α:Type}(l:List α):Nat→List α
 |0=>[]
 |n+1=>l++times l n
theorem q5p{α:Type}(l:List α)(n:Nat)(k:List α→Bool):q6Y l n k=k (times l n):=by
 induction n generalizing k with
 |zero=>rfl
 |succ n ih=>
  show q6Y l n (λr=>catK l r k)=_
  rw[ih,q1b];rfl
theorem q0o{α:Type}(l:List α):len l=l.length:=by
 induction l with
 |nil=>rfl
 |cons a r ih=>show Nat.succ (len r)=_;rw[ih];rfl
theorem q31{α:Type}(l:List α)(i:Nat):nth l i=l[i]?:=by
 induction l generalizing i with
 |nil=>simp[nth]
 |cons a r ih=>
  show bi (Nat.beq i 0) (some a) (nth r (i-1))=_
  cases i with
  |zero=>rfl
  |succ i=>rw[show Nat.beq (i+1) 0=false from rfl];simpa using ih i
theorem q0c{v:SV}{i:Int}(h:iOf v=some i):v=.int (.lit i):=by
 cases v with
 |int s=>cases s with
  |lit j=>(refine zI h ?_;clear h;rintro rfl);rfl
  |var=>exact zN h
 |_=>exact zN h
theorem q3y{v:SV}{i:SI}(h:siOf v=some i):v=.int i:=by cases v<;>(first|(exact zN h)|(refine zI h ?_;clear h;rintro rfl));rfl
theorem q0X{v:SV}{i:List Nat}(h:sOf v=some i):v=.str i:=by cases v<;>(first|(exact zN h)|(refine zI h ?_;clear h;rintro rfl));rfl
theorem q0x{v:SV}{i:List SI}(h:yOf v=some i):v=.bytes i:=by cases v<;>(first|(exact zN h)|(refine zI h ?_;clear h;rintro rfl));rfl
theorem q0L{v:SV}{i:Nat}(h:wOf v=some i):v=.own i:=by cases v<;>(first|(exact zN h)|(refine zI h ?_;clear h;rintro rfl));rfl
theorem qbV{v:SV}{i:Bool}(h:bOf v=some i):v=.bool i:=by cases v<;>(first|(exact zN h)|(refine zI h ?_;clear h;rintro rfl));rfl
theorem q8L{v:SV}{i:Nat}(h:tyOf v=some i):v=.ty i:=by cases v<;>(first|(exact zN h)|(refine zI h ?_;clear h;rintro rfl));rfl
theorem q1w{v:SV}(h:isNone v=true):v=.none:=by cases v<;>first|rfl|exact zF h
theorem q25{o:SO}{x}(h:lOf o=some x):o=.list x:=by cases o<;>(first|(refine zI h ?_;clear h;rintro rfl)|(exact zN h));rfl
theorem q70{o:SO}{x}(h:tOf o=some x):o=.tuple x:=by cases o<;>(first|(exact zN h)|(refine zI h ?_;clear h;rintro rfl));rfl
theorem q1q{o:SO}{x}(h:dsOf o=some x):o=.dictS x:=by cases o<;>(first|(exact zN h)|(refine zI h ?_;clear h;rintro rfl));rfl
theorem q3U{o:SO}{x}(h:diOf o=some x):o=.dictI x:=by cases o<;>(first|(exact zN h)|(refine zI h ?_;clear h;rintro rfl));rfl
theorem q2E{o:SO}{x}(h:inOf o=some x):o=.inst x.1 x.2:=by cases o<;>(first|(exact zN h)|(refine zI h ?_;clear h;rintro rfl));rfl
theorem q64{o:SO}{x}(h:ceOf o=some x):o=.cell x:=by cases o<;>(first|(exact zN h)|(refine zI h ?_;clear h;rintro rfl));rfl
theorem q9V{o:SO}{x}(h:fnOf o=some x):o=.fn x.1 x.2:=by cases o<;>(first|(exact zN h)|(refine zI h ?_;clear h;rintro rfl));rfl
theorem q5S{o:SO}{x}(h:exOf o=some x):∃d,o=.exc x d:=by cases o<;>(first|(exact zN h)|(refine zI h ?_;clear h;rintro rfl));exact⟨_,rfl⟩
theorem q8z{o:SO}{x}(h:xdOf o=some x):o=.xd x:=by cases o<;>(first|(exact zN h)|(refine zI h ?_;clear h;rintro rfl));rfl
theorem qa1{o:SO}{x}(h:edOf o=some x):o=.exc x.1 x.2:=by cases o<;>(first|(exact zN h)|(refine zI h ?_;clear h;rintro rfl));rfl
theorem q9e{o:SO}{x}(h:peOf o=some x):o=.pen x.1 x.2:=by cases o<;>(first|(exact zN h)|(refine zI h ?_;clear h;rintro rfl));rfl
theorem q94{o:SO}{x}(h:rgOf o=some x):o=.rng x.1 x.2:=by cases o<;>(first|(exact zN h)|(refine zI h ?_;clear h;rintro rfl));rfl
theorem qbc{σ:S}{v:SV}{o:SO}(h:obj σ v=some o):∃k,v=.own k∧σ.get k=some o:=by
 refine q02 h ?_;intro k a b
 exact⟨k,q0L a,b⟩
theorem qbW{α:Type}{σ:S}{v:SV}{f:SO→Option α}{x:α}(h:ats σ v f=some x):∃k o,v=.own k∧σ.get k=some o∧f o=some x:=by
 refine q02 h ?_;intro o a b
 refine X1x2 (qbc a) ?_;intro k c d
 exact⟨k,o,c,d,b⟩
theorem q0I{α:Type}{σ:S}{v:SV}{f:SO→Option α}{x:α}{X:Prop}(h:ats σ v f=some x)(g:∀k o,v=.own k→σ.get k=some o→f o=some x→X):X:=X2x3 (qbW h) g
end
section
open PySem
variable(tb:Tabs)
def oldIs(v:SV)(a:Addr):Bool:=@SV.rec (λ_=>Bool) false (λ_=>false) (λ_=>false) (λ_=>false) (λ_=>false) (λ_=>false) (λ_=>false) (λb=>Nat.beq b a) (λ_=>false) v
end
section
open PySem
def nmK(s:Str):Nat:=@List.rec Nat (λ_=>Nat) 0 (λc _ ih=>Nat.add c (Nat.mul 2097152 ih)) s.cps.toList
def nap(l:List Nat):Bool:=@List.rec Nat (λ_=>Bool) true (λx r ih=>bi (nmem x r) false ih) l
theorem qbi{x:Nat}{l:List Nat}(h:x∈l):nmem x l=true:=by
 induction h with
 |head r=>show bi (Nat.beq x x) true _=true;rw[Nat.beq_refl]
 |tail j _ ih=>show bi (Nat.beq j x) true (nmem x _)=true;rw[ih];cases Nat.beq j x<;>rfl
theorem q9s{l:List Nat}(h:nap l=true):l.Nodup:=by
 induction l with
 |nil=>exact .nil
 |cons x r ih=>
  have h:bi (nmem x r) false (nap r)=true:=h
  cases q:nmem x r with
  |true=>rw[q] at h;exact zF h
  |false=>rw[q] at h;exact List.nodup_cons.mpr ⟨λz=>(by rw[qbi z] at q;exact zT q),ih h⟩
theorem qbe:nap (nmS.map nmK)=true:=by decide +kernel
theorem qbd:(nmS.all λs=>Nat.blt s.cps.size 1000)=true:=by decide +kernel
theorem q1n:∀i j,nm i=nm j→i=j:=by
 have sh:∀(i:Nat)(s:Str),nmS[i]?=some s→s.cps.size<1000:=λi s e=>by
  have:=List.all_eq_true.mp qbd s (Zd e)
  simpa using this
 intro i j h
 unfold nm at h
 cases ha:nmS[i]? with
 |some a=>
  have:=sh _ _ ha
  cases hb:nmS[j]? with
  |some b=>
   rw[ha,hb] at h
   have h:a=b:=h
   subst h
   exact(List.getElem?_inj (by rw[List.length_map];exact(List.getElem?_eq_some_iff.mp ha).1) (q9s qbe)).mp (by rw[List.getElem?_map,List.getElem?_map,ha,hb])
  |none=>
   rw[ha,hb] at h
   have h:a=_:=h
   rw[h] at this;simp at this;lia
 |none=>
  cases hb:nmS[j]? with
  |some b=>
   have:=sh _ _ hb
   rw[ha,hb] at h
   have h:_=b:=h
   rw[←h] at this;simp at this;lia
  |none=>
   rw[ha,hb] at h
   have:=congrArg (λs:Str=>s.cps.size) h
   simpa using this
end
section
open PySem PySem.W
noncomputable def OptR(W:Wd)(x:Option SV)(v:Option Value):Prop:=match x with
 |none=>v=none
 |some x=>∃u,v=some u∧VR W x u
theorem OptR.mono{W W':Wd}(h:W.le W'):∀{x:Option SV}{v:Option Value},OptR W x v→OptR W' x v
 |none,_,e=>e
 |some _,_,⟨u,e,r⟩=>⟨u,e,r.mono h⟩
noncomputable def NsR(W:Wd)(m:Lo)(f:Str→Option Value):Prop:=∀i,OptR W (q0K m i) (f (nm i))
theorem NsR.put{W:Wd}{m:Lo}{f:Str→Option Value}(x:NsR W m f){i:Nat}{v:SV}{u:Value}(r:VR W v u) :
  NsR W (q1e m i v) (λy=>if y=nm i then some u else f y):=λj=>by
 rw[q9l]
 by_cases h:i=j
 ·subst h;simp only[if_true];exact⟨u,rfl,r⟩
 ·simp only[if_neg h]
  rw[if_neg (λe=>h (q1n _ _ e).symm)]
  exact x j
theorem NsR.mono{W W':Wd}(h:W.le W'){m:Lo}{f:Str→Option Value}(x:NsR W m f):NsR W' m f:=λi=>(x i).mono h
noncomputable def q09(vs:List Value)(n:Nat):Obj:=⟨.type "list",none,.seq vs.toArray n,#[]⟩
noncomputable def q0J(vs:List Value)(n:Nat):Obj:=⟨.type "tuple",none,.seq vs.toArray n,#[]⟩
noncomputable def q0u(es:List DictEntry)(n:Nat):Obj:=⟨.type "dict",none,.dict es.toArray n,#[]⟩
noncomputable def q0j(b:List UInt8):Obj:=⟨.type "bytearray",none,.bytearray b.toArray 0,#[]⟩
noncomputable def EntN(W:Wd)(p:Nat×SV)(e:DictEntry):Prop:=(∃t,e.key=.str (nm p.1) t)∧VR W p.2 e.val
noncomputable def q5f(W:Wd)(e:List Nat×SV)(p:Str×Value):Prop:=p.1=⟨e.1.toArray⟩∧e.1.length≤4096∧VR W e.2 p.2
noncomputable def q5g(W:Wd)(e:Int×SV)(p:Int×Value):Prop:=p.1=e.1∧e.1.natAbs<2305843009213693952∧VR W e.2 p.2
noncomputable def q3d(W:Wd)(i:SI)(x:UInt8):Prop:=i.is W.ν (x.toNat:Int)
noncomputable def q1u(x y m:Nat):Nat×Nat×Nat:=if x=0 then(1000000009^(4+(y+1))%m,1000000009^(4+(y+1))/m,y+1) else(x%m,x/m,y)
noncomputable def Follows(x y:Nat):List (Nat×Nat)→Prop
 |[]=>True
 |f::r=>(q1u x y f.1).1=f.2∧Follows (q1u x y f.1).2.1 (q1u x y f.1).2.2 r
structure ClsF(K:Frag)(C:Addr)(c:Cls):Prop where
 get:∀name,plainGet K C name=true
 dict:hasDictIn K C=true
 over:plainOver K C=true
 seta:findIn K (.ref C) "__setattr__"=some (some (.builtin "object.__setattr__"))
 data:∀i,nmem i c.data=true→findIn K (.ref C) (nm i)=some none
 meth:∀i f,alook c.meths i=some f→findIn K (.ref C) (nm i)=some (some (.ref f))∧isFn K (.ref f)=true
theorem q3Q{P:List Value→Prop}(h0:P qa0)(h1:∀a r,P r→P (.ref a::r)){l:List Value}(h:q11 l=true):P l:=by
 induction l with
 |nil=>exact nomatch h
 |cons v r ih=>
  refine Z4 ((Bool.or_eq_true _ _).mp (show ((qgf v&&q11 r)||v::r==qa0)=true from h)) (λh=>?_) λh=>?_
  ·refine X0x2 ((Bool.and_eq_true _ _).mp h) ?_;intro h2 h3
   cases v with
   |ref a=>exact h1 a r (ih h3)
   |_=>exact nomatch h2
  ·rw[beq_iff_eq.mp h];exact h0
theorem q5R{l:List Value}(a:Addr)(h:q11 l=true):q11 (.ref a::l)=true:=(Bool.or_eq_true _ _).mpr (.inl ((Bool.and_eq_true _ _).mpr ⟨rfl,h⟩))
inductive ExcObj(K:Frag)(C:Addr):Prop
 |mk (nm:Str) (q:Str) (N:Addr) (bs:List Value) (bm:List Value) (sn:List Str) (sub:List Value) (ab:Bool) (col:Option Bool) (dd:Option Addr) (k0:Option Value) (k1:Option Value) (k2:Option Value) (k3:Option Value) (k5:Option Value) (h0_:K.lookup C=some (excClassObj nm q C N bs bm true sn sub ab col dd k0 k1 k2 k3 k5 "Exception.__new__")) (h1_:ab=false) (h2_:q11 bm=true):ExcObj K C
theorem ExcObj.kE18{K:Frag}{C:Addr}{X_:Prop}(h_:ExcObj K C)(k_:∀(nm:Str)(q:Str)(N:Addr)(bs:List Value)(bm:List Value)(sn:List Str)(sub:List Value)(ab:Bool)(col:Option Bool)(dd:Option Addr)(k0:Option Value)(k1:Option Value)(k2:Option Value)(k3:Option Value)(k5:Option Value)(h0_:K.lookup C=some (excClassObj nm q C N bs bm true sn sub ab col dd k0 k1 k2 k3 k5 "Exception.__new__"))(h1_:ab=false)(h2_:q11 bm=true),X_):X_:=ExcObj.rec (motive:=λ_=>X_) k_ h_
structure ExcF(K:Frag)(C:Addr)(c:Cls):Prop where
 obj:ExcObj K C
 init:findIn K (.ref C) "__init__"=some (some (.ref c.init))
 initFn:isFn K (.ref c.init)=true
 seta:findIn K (.ref C) "__setattr__"=some (some (.builtin "object.__setattr__"))
 data:∀i,nmem i c.data=true→findIn K (.ref C) (nm i)=some none
 call:specialIn K (.ref C) "__call__"=some (some (.builtin "type.__call__"))
structure Base where
 w:World
 prog:Program
 h₀:Heap
 os:OsState
 K:Frag
 fnOk:Nat→FuncData→Prop
 low:20≤h₀.objs.size
 last:∃o,h₀.get? (h₀.objs.size-1)=some o
 kin:K.In h₀
 kcls:∀a o,K.lookup a=some o→o.cls≠.none
 ld:∀i y,alook glo i=some y→∃v,(∀W,VR W y v)∧∀(A:Around)(E:Value→Shared→Prop)(Q:Value→Shared→Prop)(env:Env)(s:Shared),OldK h₀ s.heap→env.globals=mainGlobals→env.builtins=builtinsNs→Q v s→wpAny (model prog w) A (loadGlobal env (nm i)) (λv s=>Q v s) E s
 cls:∀C c,tb.cl C=some c→c.isExc=false→ClsF K C c
 mg:Str→Option Value
 mgN:h₀.Ns mainGlobals mg
 tabk:∀q∈tabs,CodeHd h₀ q.1 q.2∧h₀.BuiltinsAt mg q.2∧mainGlobals≠q.2∧h₀.get? q.2=some (tabObj #[])
 mgc:∀o,h₀.get? mainGlobals=some o→o.cls≠.none
 exc:∀C c,tb.cl C=some c→c.isExc=true→ExcF K C c
 tup:∀a xs,tb.tp a=some xs→∃vs n,K.lookup a=some (q0J vs n)∧VRs ⟨[],[],[],[],[]⟩ xs vs∧xs.length≤4096
noncomputable def ExD(W:Wd)(d:Option Nat)(dct:Option Addr)(a:Addr):Prop:=match d with
 |none=>dct=none
 |some n=>∃q,W.ρ[n]?=some q∧dct=some q.a∧q.a≠a
theorem ExD.mono{W W':Wd}(h:W.le W'){d:Option Nat}{dct:Option Addr}{a:Addr}(x:ExD W d dct a):ExD W' d dct a:=by
 cases d with
 |none=>exact x
 |some n=>(refine X1x2 x ?_;clear x;intro q e r);exact⟨q,q0a h.ρ e,r⟩
noncomputable def OR(B:Base)(W:Wd)(h:Heap)(p:Fp):SO→Prop
 |.list xs=>∃vs n,h.get? p.a=some (q09 vs n)∧VRs W xs vs∧xs.length≤4096
 |.tuple xs=>∃vs n,h.get? p.a=some (q0J vs n)∧VRs W xs vs∧xs.length≤4096
 |.dictS es=>∃kvs ep,h.DictAt (strKind B.prog B.w) p.a kvs ep∧All2 (q5f W) es kvs∧es.length≤4096
 |.dictI es=>∃kvs ep,h.DictAt (intKind B.prog B.w) p.a kvs ep∧All2 (q5g W) es kvs∧es.length≤4096
 |.barr b=>∃l,h.get? p.a=some (q0j l)∧All2 (q3d W) b l∧b.length≤4096
 |.inst C m=>∃dx ds n,(∃c,tb.cl C=some c∧c.isExc=false)∧p.x=[dx]∧h.get? p.a=some (instObj C dx)∧h.get? dx=some (q0u ds n)∧All2 (EntN W) m ds∧m.length≤60
 |.cell v=>∃o u,h.get? p.a=some o∧o.data=.cell u∧OptR W v u
 |.fn i cells=>∃o fd,h.get? p.a=some o∧o.cls=.type "function"∧o.data=.func fd∧B.fnOk i fd∧(∃c oc vs t,fd.code=.ref c∧(c,oc)∈W.κ∧oc.data=.fields vs∧vs[1]?=some (.str fd.qualname t))∧
   ∀j,fd.scope.names.lookup (nm j)=some .free→∃a q,alook cells j=some a∧W.ρ[a]?=some q∧fd.closure.lookup (nm j)=some q.a
 |.exc C d=>∃t vs sl dct,(∃c,tb.cl C=some c∧c.isExc=true)∧h.get? p.a=some ⟨.ref C,dct,.fields vs,sl⟩∧vs.size=6∧vs[0]?=some (.ref t)∧vs[1]?=some .none∧ExD W d dct p.a
 |.pen b fs=>∃(x y:Nat)(t u n:Nat),h.get? p.a=some (q09 [.int x t,.int y u] n)∧y≤b∧x<2^6000∧Follows x y fs
 |.rng a b=>∃t₁ t₂ t₃,h.get? p.a=some ⟨.type "range",none,.fields #[.int a t₁,.int b t₂,.int 1 t₃],#[]⟩∧a.natAbs<2305843009213693952∧b.natAbs<2305843009213693952
 |.xd n=>∃ds ep,h.get? p.a=some (q0u ds ep)∧(∀e∈ds,∃x t,e.key=.str x t)∧ds.length≤n∧n≤60
theorem OR.mono{B:Base}{W W':Wd}{h h':Heap}{p:Fp}(hw:W.le W')(hk:∀u∈p.all,∀o,h.get? u=some o→h'.get? u=some o){x:SO}(H:OR B W h p x):OR B W' h' p x:=by
 cases x with
 |list _=>(refine X2x3 H ?_;clear H;intro vs n e r l);exact⟨vs,n,hk _ (.head _) _ e,r.mono hw,l⟩
 |tuple _=>(refine X2x3 H ?_;clear H;intro vs n e r l);exact⟨vs,n,hk _ (.head _) _ e,r.mono hw,l⟩
 |dictS _=>(refine X2x3 H ?_;clear H;intro kvs ep o1 r l;refine X2x2 o1 ?_;clear o1;intro o es e z);exact⟨kvs,ep,⟨o,es,hk _ (.head _) _ e,z⟩,r.mono λ_ _ z=>⟨z.1,z.2.1,z.2.2.mono hw⟩,l⟩
 |dictI _=>(refine X2x3 H ?_;clear H;intro kvs ep o1 r l;refine X2x2 o1 ?_;clear o1;intro o es e z);exact⟨kvs,ep,⟨o,es,hk _ (.head _) _ e,z⟩,r.mono λ_ _ z=>⟨z.1,z.2.1,z.2.2.mono hw⟩,l⟩
 |barr _=>(refine X1x3 H ?_;clear H;intro l e r b);exact⟨l,hk _ (.head _) _ e,r.mono λ_ _ z=>SI.is.mono hw.ν z,b⟩
 |inst _ _=>(refine X3x6 H ?_;clear H;intro dx ds n ec e0 e1 e2 r b);exact⟨dx,ds,n,ec,e0,hk _ (.head _) _ e1,hk _ (by rw[Fp.all,e0];exact .tail _ (.head _)) _ e2,r.mono λ_ _ z=>⟨z.1,z.2.mono hw⟩,b⟩
 |cell _=>(refine X2x3 H ?_;clear H;intro o u e d r);exact⟨o,u,hk _ (.head _) _ e,d,r.mono hw⟩
 |fn _ _=>(refine X2x6 H ?_;clear H;intro o fd e c d f o1 r;refine X4x3 o1 ?_;clear o1;intro cc oc vs t c1 c2 c3);exact⟨o,fd,hk _ (.head _) _ e,c,d,f,⟨cc,oc,vs,t,c1,hw.κ _ c2,c3⟩,λj hj=>by(refine X2x3 (r j hj) ?_;intro a q q1 q2 q3);exact⟨a,q,q1,q0a hw.ρ q2,q3⟩⟩
 |exc _ _=>(refine X4x6 H ?_;clear H;intro t vs sl dct c e1 f1 f2 f3 r);exact⟨t,vs,sl,dct,c,hk _ (.head _) _ e1,f1,f2,f3,r.mono hw⟩
 |pen _ _=>(refine X5x2 H ?_;clear H;intro x y t u n e r);exact⟨x,y,t,u,n,hk _ (.head _) _ e,r⟩
 |rng _ _=>(refine X3x2 H ?_;clear H;intro t₁ t₂ t₃ e r);exact⟨t₁,t₂,t₃,hk _ (.head _) _ e,r⟩
 |xd _=>(refine X2x2 H ?_;clear H;intro ds ep e r);exact⟨ds,ep,hk _ (.head _) _ e,r⟩
structure Old(B:Base)(W:Wd)(h:Heap):Prop where
 k:OldK B.h₀ h
 tab:∀q∈tabs,∃ps,h.get? q.2=some (tabObj ps)∧TriplesOk ps.toList∧∀pos cv,codeAmong pos ps.toList=some cv→∃c oc vs t,cv=.ref c∧(c,oc)∈W.κ∧oc.data=.fields vs∧vs[1]?=some (.str (tqual q.1 pos.line) t)
namespace Old
variable{B:Base}{W W':Wd}{h h':Heap}
theorem keepTab(x:Old B W h)(k:∀b o,b<B.h₀.objs.size→h.get? b=some o→h'.get? b=some o)(y:OldK B.h₀ h'):Old B W h':=⟨y,λq hq=>by
 refine X1x2 (x.tab q hq) ?_;intro ps a b
 refine X0x4 (B.tabk q hq) ?_;intro _ _ _ e
 exact⟨ps,k _ _ (Z7 e) a,b⟩⟩
theorem keepAt(x:Old B W h)(k:∀b o,b<B.h₀.objs.size→h.get? b=some o→h'.get? b=some o):Old B W h':=by
 refine x.keepTab k ⟨λb o e=>?_,λb o e=>by(refine X1x1 (x.k.there b o e) ?_;intro o' ho');exact⟨o',k b o' (Z7 e) ho'⟩⟩
 focus (refine Z4 (x.k.old b o e) ?_ ?_;rotate_left;intro o1;refine Z4 o1 ?_ ?_;rotate_left;clear o1;intro o2;refine X0x4 o2 ?_;clear o2;intro o3 hc o4 z;subst o3;refine X3x2 o4 ?_;clear o4;intro o' es n ho' r;rotate_right;clear o1;intro o5;refine X0x2 o5 ?_;clear o5;intro t o6;refine X0x2 o6 ?_;clear o6;intro hc o7;refine X2x2 o7 ?_;clear o7;intro vs more hv x;rotate_right;intro x)
 ·exact .inl (k _ _ (Z7 e) x)
 ·exact .inr (.inl ⟨t,hc,vs,more,hv,k _ _ (Z7 e) x⟩)
 ·exact .inr (.inr ⟨rfl,hc,⟨o',es,n,k _ _ (Z7 e) ho',r⟩,λkey=>by rw[OldK.staticOf_congr ((k _ _ (Z7 e) ho').trans ho'.symm) key];exact z key⟩)
theorem step_keeps(x:Old B W h)(k:∀b o,h.get? b=some o→h'.get? b=some o):Old B W h':=x.keepAt λb o _ e=>k b o e
theorem step_same(x:Old B W h){a:Addr}(ha:B.h₀.objs.size≤a)(hs:Heap.SameBut a h h'):Old B W h':=x.keepAt λb o hb e=>(hs.2 b (Nat.ne_of_lt (Za hb ha))).trans e
theorem of(x:Old B W h)(k:∀g∈W.κ,g∈W'.κ):Old B W' h:=⟨x.k,λq hq=>by
 refine X1x3 (x.tab q hq) ?_;intro ps a b c
 exact⟨ps,a,b,λpos cv e=>by(refine X4x3 (c pos cv e) ?_;intro c' oc vs t h1 h2 h3);exact⟨c',oc,vs,t,h1,k _ h2,h3⟩⟩⟩
theorem mono(x:Old B W h)(l:W.le W'):Old B W' h:=x.of l.κ
end Old
structure Rel(B:Base)(W:Wd)(fs:List Nat)(σ:S)(s:Shared):Prop where
 len:W.ρ.length=σ.n
 lenv:W.ν.length=σ.nv
 bound:∀k o,σ.get k=some o→k<σ.n
 objs:∀k o p,σ.get k=some o→W.ρ[k]?=some p→OR B W s.heap p o
 sep:∀(j k:Nat)(p q:Fp),W.ρ[j]?=some p→W.ρ[k]?=some q→j≠k→∀u∈p.all,u∉q.all
 own:∀p:Fp,p∈W.ρ→∀u∈p.all,B.h₀.objs.size≤u∧∃o,s.heap.get? u=some o
 old:Old B W s.heap
 lim:s.heap.NoLimit
 vars:∀x∈W.ν,0≤x∧x<20
 gens:s.gens=#[]
 os:s.os=B.os
 fids:σ.frs.map (·.1)=fs
 frs:∀q∈σ.frs,∃L f,W.ρ[q.1]?=some ⟨L,[]⟩∧s.heap.Ns L f∧NsR W q.2 f
 frn:∀q∈fs,σ.get q=none
 fnd:fs.Nodup
 fz:∀g∈W.still,s.heap.get? g.1=some g.2∧B.h₀.objs.size≤g.1∧∀p:Fp,p∈W.ρ→g.1∉p.all
 epn:∀q∈W.δ,q.1<σ.n∧q.1∉fs
 eps:∀q∈W.δ,q.2.1≤σ.kc∧(σ.kc=q.2.1→∃p o es,W.ρ[q.1]?=some p∧s.heap.get? p.a=some o∧o.data=.dict es q.2.2)
theorem Rel.le{B:Base}{W:Wd}{fs:List Nat}{σ:S}{s:Shared}(R:Rel B W fs σ s):B.h₀.objs.size≤s.heap.objs.size:=by
 refine X1x1 B.last ?_;intro o e
 refine X1x1 (R.old.k.there _ _ e) ?_;intro o' e'
 exact Nat.le_of_pred_lt (Z7 e')
theorem Rel.toks{B:Base}{W:Wd}{fs:List Nat}{σ:S}{s:Shared}(R:Rel B W fs σ s){t:Tok}:Rel B W fs σ {s with toks:=t}:=
 ⟨R.len,R.lenv,R.bound,R.objs,R.sep,R.own,R.old,R.lim,R.vars,R.gens,R.os,R.fids,R.frs,R.frn,R.fnd,R.fz,R.epn,R.eps⟩
structure Grows(h h':Heap):Prop where
 keep:∀b o,h.get? b=some o→h'.get? b=some o
theorem Grows.refl(h:Heap):Grows h h:=⟨λ_ _ e=>e⟩
theorem Grows.trans{a b c:Heap}(x:Grows a b)(y:Grows b c):Grows a c:=⟨λ_ _ e=>y.keep _ _ (x.keep _ _ e)⟩
theorem Grows.push(h:Heap)(o:Obj):Grows h (h.push o):=⟨λ_ _ e=>Z5 o e⟩
section
variable{B:Base}{W W':Wd}{fs:List Nat}{σ τ:S}{s s':Shared}
theorem Rel.at(R:Rel B W fs σ s){k:Nat}{o:SO}(e:σ.get k=some o):∃p,W.ρ[k]?=some p∧OR B W s.heap p o:=by
 have:k<W.ρ.length:=by rw[R.len];exact R.bound k o e
 exact⟨_,List.getElem?_eq_getElem this,R.objs k o _ e (List.getElem?_eq_getElem this)⟩
theorem Rel.own'(R:Rel B W fs σ s){k:Nat}{p:Fp}(e:W.ρ[k]?=some p):∀u∈p.all,B.h₀.objs.size≤u∧u<s.heap.objs.size:=λu hu=>by(refine X0x2 (R.own p (Zd e) u hu) ?_;intro a o1;refine X1x1 o1 ?_;clear o1;intro _ b);exact⟨a,Z7 b⟩
theorem Rel.kin(R:Rel B W fs σ s):B.K.In s.heap:=λa o e=>R.old.k.get_of_cls (B.kin a o e) (B.kcls a o e)
theorem Rel.heap(R:Rel B W fs σ s)(g:∀u o,(u<B.h₀.objs.size∨(∃p∈W.ρ,u∈p.all)∨∃g∈W.still,g.1=u)→s.heap.get? u=some o→s'.heap.get? u=some o)
  (hg:s'.gens=s.gens) (ho:s'.os=s.os):Rel B W fs σ s':=
 ⟨R.len,R.lenv,R.bound,λk o p e1 e2=>(R.objs k o p e1 e2).mono (Wd.le.refl W) λu hu o e=>g u o (.inr (.inl ⟨p,Zd e2,hu⟩)) e,R.sep,
  λp hp u hu=>(by(refine X0x2 (R.own p hp u hu) ?_;intro a o1;refine X1x1 o1 ?_;clear o1;intro o e);exact⟨a,o,g u o (.inr (.inl ⟨p,hp,hu⟩)) e⟩),
  R.old.keepAt (λb o hb e=>g b o (.inl hb) e),
  R.lim.at λo e=>g _ o (.inl (Za (by decide:cStatics<20) B.low)) e,R.vars,hg.trans R.gens,ho.trans R.os,R.fids,
  λq hq=>(by(refine X2x3 (R.frs q hq) ?_;intro L f a o1 d;refine X3x2 o1 ?_;clear o1;intro o es ep b c);exact⟨L,f,a,⟨o,es,ep,g L o (.inr (.inl ⟨_,Zd a,.head _⟩)) b,c⟩,d⟩),R.frn,R.fnd,
  λx hx=>⟨g _ _ (.inr (.inr ⟨x,hx,rfl⟩)) (R.fz x hx).1,(R.fz x hx).2⟩,R.epn,
  λq hq=>⟨(R.eps q hq).1,λe=>by(refine X3x3 ((R.eps q hq).2 e) ?_;intro p o es a b c);exact⟨p,o,es,a,g _ _ (.inr (.inl ⟨p,Zd a,.head _⟩)) b,c⟩⟩⟩
theorem Rel.grow(R:Rel B W fs σ s)(g:Grows s.heap s'.heap)(hg:s'.gens=s.gens)(ho:s'.os=s.os):Rel B W fs σ s':=R.heap (λu o _ e=>g.keep u o e) hg ho
theorem Rel.ext(R:Rel B W fs σ s){a:Addr}(g:Heap.ExtBut a s.heap s'.heap)(h0:B.h₀.objs.size≤a)(h1:∀p∈W.ρ,a∉p.all)(h2:∀g∈W.still,g.1≠a)
  (hg:s'.gens=s.gens) (ho:s'.os=s.os):Rel B W fs σ s':=
 R.heap (λu o hu e=>g u o (λq=>by
  subst q
  focus (refine Z4 hu ?_ ?_;rotate_left;clear hu;intro o1;refine Z4 o1 (λo3=>X1x2 o3 λp hp x=>?_) λo2=>X1x2 o2 λx hx q=>?_;rotate_right;clear hu;intro x)
  ·exact absurd x (Nat.not_lt.mpr h0)
  ·exact h1 p hp x
  ·exact h2 x hx q) e) hg ho
theorem Rel.mono_frs(R:Rel B W fs σ s)(h:W.le W'){q:Nat×Lo}(hq:q∈σ.frs){s':Shared}(hk:∀p∈W.ρ,∀u∈p.all,∀o,s.heap.get? u=some o→s'.heap.get? u=some o) :
  ∃L f,W'.ρ[q.1]?=some ⟨L,[]⟩∧s'.heap.Ns L f∧NsR W' q.2 f:=
 let ⟨L,f,a,⟨o,es,ep,b,c⟩,d⟩:=R.frs q hq
 ⟨L,f,q0a h.ρ a,⟨o,es,ep,hk _ (Zd a) L (.head _) o b,c⟩,d.mono h⟩
noncomputable def Wd.add(W:Wd)(p:Fp):Wd:=⟨W.ρ++[p],W.ν,W.κ,W.γ,W.δ⟩
theorem Wd.le_add(W:Wd)(p:Fp):W.le (W.add p):=⟨List.prefix_append _ _,List.prefix_refl _,λ_ h=>h,rfl,rfl⟩
theorem Wd.add_at(W:Wd)(p:Fp):(W.add p).ρ[W.ρ.length]?=some p:=by simp[Wd.add]
theorem Rel.add_at(R:Rel B W fs σ s)(p:Fp):(W.add p).ρ[σ.n]?=some p:=by rw[←R.len];exact W.add_at p
theorem q1s{W:Wd}{p q:Fp}{k:Nat}(e:(W.add p).ρ[k]?=some q):W.ρ[k]?=some q∨(k=W.ρ.length∧q=p):=by
 simp only[Wd.add] at e
 refine Z4 (Nat.lt_or_ge k W.ρ.length) (λh=>?_) λh=>?_
 ·rw[List.getElem?_append_left h] at e;exact .inl e
 ·rw[List.getElem?_append_right h] at e
  have hz:k-W.ρ.length=0:=by
   have:=(List.getElem?_eq_some_iff.mp e).1
   exact Nat.lt_one_iff.mp this
  rw[hz] at e
  exact .inr ⟨Nat.le_antisymm (Nat.le_of_sub_eq_zero hz) h,by simpa using e.symm⟩
theorem q1g{W:Wd}{p q:Fp}(h:q∈(W.add p).ρ):q∈W.ρ∨q=p:=by simpa[Wd.add] using h
theorem Rel.place(R:Rel B W fs σ s){p:Fp}(g:Grows s.heap s'.heap)(hp:∀u∈p.all,s.heap.objs.size≤u∧∃o,s'.heap.get? u=some o)(hg:s'.gens=s.gens)(hos:s'.os=s.os)
  (tn:τ.n=σ.n+1) (tv:τ.nv=σ.nv) (tk:τ.kc=σ.kc) (hb:∀k o,τ.get k=some o→(k≠σ.n∧σ.get k=some o)∨(k=σ.n∧OR B (W.add p) s'.heap p o))
  (hf:∀q∈τ.frs,q∈σ.frs∨(q.1=σ.n∧∃L f,p=⟨L,[]⟩∧s'.heap.Ns L f∧NsR (W.add p) q.2 f)) (fs':List Nat) (hfi:τ.frs.map (·.1)=fs')
  (hfn:∀q∈fs',τ.get q=none) (hfd:fs'.Nodup) (hfs:∀x∈fs',x∈fs∨x=σ.n):Rel B (W.add p) fs' τ s':=by
 have lt:∀{u:Addr}{q:Fp},q∈W.ρ→u∈q.all→u<s.heap.objs.size:=λhq hu=>by(refine X0x2 (R.own _ hq _ hu) ?_;intro _ o1;refine X1x1 o1 ?_;clear o1;intro _ e);exact Z7 e
 refine⟨by simp[Wd.add,tn,R.len],by rw[tv];exact R.lenv,λk o e=>?_,λk o q e1 e2=>?_,λj k q r e1 e2 hne u hu hu'=>?_,λq hq u hu=>?_,(R.old.step_keeps g.keep).mono (W.le_add p),R.lim.keeps g.keep,R.vars,hg.trans R.gens,
  hos.trans R.os,hfi,λq hq=>?_,hfn,hfd,λx hx=>⟨g.keep _ _ (R.fz x hx).1,(R.fz x hx).2.1,λq hq=>?_⟩,
  λq hq=>⟨by rw[tn];exact Nat.lt_succ_of_lt (R.epn q hq).1,λh=>by refine Z4 (hfs _ h) (λh=>?_) λh=>?_;exact(R.epn q hq).2 h;exact absurd (R.epn q hq).1 (by lia)⟩,λq hq=>?_⟩
 ·rw[tn]
  refine Z4 (hb k o e) (λo2=>X0x2 o2 λ_ e=>?_) λo1=>X0x2 o1 λe _=>?_
  ·exact Nat.lt_succ_of_lt (R.bound k o e)
  ·rw[e];exact Nat.lt_succ_self _
 ·focus (refine Z4 (hb k o e1) ?_ ?_;rotate_left;intro o1;refine X0x2 o1 ?_;clear o1;intro o2 e;subst o2;rotate_right;intro o3;refine X0x2 o3 ?_;clear o3;intro hne e)
  ·refine Z4 (q1s e2) (λe2=>?_) λo1=>X0x2 o1 λe2 _=>?_
   ·exact(R.objs k o q e e2).mono (W.le_add p) λu _ _ z=>g.keep _ _ z
   ·exact absurd (e2.trans R.len) hne
  ·rw[R.add_at p] at e2;(refine zI e2 ?_;clear e2;rintro rfl);exact e
 ·refine Z4 (q1s e1) (λf1=>?_) λo1=>X0x2 o1 λf1 g1=>?_<;>refine Z4 (q1s e2) (λf2=>?_) λo1=>X0x2 o1 λf2 g2=>?_
  ·exact R.sep j k q r f1 f2 hne u hu hu'
  ·rw[g2] at hu';exact absurd (lt (Zd f1) hu) (Nat.not_lt.mpr (hp u hu').1)
  ·rw[g1] at hu;exact absurd (lt (Zd f2) hu') (Nat.not_lt.mpr (hp u hu).1)
  ·exact hne (f1.trans f2.symm)
 ·focus (refine Z4 (q1g hq) ?_ ?_;rotate_left;rintro rfl;rotate_right;intro hq)
  ·(refine X0x2 (R.own q hq u hu) ?_;intro a o1;refine X1x1 o1 ?_;clear o1;intro o e);exact⟨a,o,g.keep _ _ e⟩
  ·exact⟨Nat.le_trans R.le (hp u hu).1,(hp u hu).2⟩
 ·focus (refine Z4 (hf q hq) ?_ ?_;rotate_left;intro o1;refine X0x2 o1 ?_;clear o1;intro hq o2;refine X2x3 o2 ?_;clear o2;intro L f o3 a b;subst o3;rotate_right;intro hq)
  ·exact R.mono_frs (W.le_add p) hq λ_ _ _ _ _ e=>g.keep _ _ e
  ·exact⟨L,f,by rw[hq];exact R.add_at _,a,b⟩
 ·focus (refine Z4 (q1g hq) ?_ ?_;rotate_left;rintro rfl;rotate_right;intro hq)
  ·exact(R.fz x hx).2.2 q hq
  ·exact λhu=>absurd (Z7 (R.fz x hx).1) (Nat.not_lt.mpr (hp _ hu).1)
 ·rw[tk]
  exact⟨(R.eps q hq).1,λe=>by(refine X3x3 ((R.eps q hq).2 e) ?_;intro p' o es a b c);exact⟨p',o,es,q0a (W.le_add p).ρ a,g.keep _ _ b,c⟩⟩
theorem Rel.new(R:Rel B W fs σ s){o:SO}(A:Add σ o τ){p:Fp}(g:Grows s.heap s'.heap)(hp:∀u∈p.all,s.heap.objs.size≤u∧∃o,s'.heap.get? u=some o)
  (ho:OR B (W.add p) s'.heap p o) (hg:s'.gens=s.gens) (hos:s'.os=s.os):Rel B (W.add p) fs τ s':=
 R.place g hp hg hos A.n A.nv A.kc (λk o' e=>by
   refine Z4 (A.get k o' e) ?_ (λo1=>X0x2 o1 λa b=>?_);intro o2;refine X0x2 o2 ?_;clear o2;intro a o3;subst o3
   ·exact .inr ⟨a,ho⟩
   ·exact .inl ⟨a,b⟩) (λq hq=>.inl (A.frs▸hq)) fs (by rw[A.frs];exact R.fids) (λq hq=>by
  cases e:τ.get q with
  |none=>rfl
  |some o'=>
   refine Z4 (A.get q o' e) (λo2=>X0x2 o2 λa _=>?_) λo1=>X0x2 o1 λ_ b=>?_
   ·exfalso
    rw[←R.fids] at hq
    refine X1x2 (List.mem_map.mp hq) ?_;intro q' hq' e'
    refine X2x2 (R.frs q' hq') ?_;intro L f z _
    have:=(List.getElem?_eq_some_iff.mp z).1
    rw[R.len] at this
    have e':q'.1=q:=e'
    lia
   ·rw[R.frn q hq] at b;exact zN b) R.fnd (λ_ h=>.inl h)
theorem Rel.new1(R:Rel B W fs σ s){o:SO}(A:Add σ o τ){a:Addr}(g:Grows s.heap s'.heap)(h1:s.heap.objs.size≤a)(h2:∃o,s'.heap.get? a=some o)
  (ho:OR B (W.add ⟨a,[]⟩) s'.heap ⟨a,[]⟩ o) (hg:s'.gens=s.gens) (hos:s'.os=s.os):Rel B (W.add ⟨a,[]⟩) fs τ s':=
 R.new A g (λu hu=>by(refine Z4 (List.mem_cons.mp hu) ?_ (λh=>?_);rintro rfl);exact⟨h1,h2⟩;cases h) ho hg hos
theorem Rel.put_none(R:Rel B W fs σ s){k:Nat}{o o₁:SO}(P:Put σ k o τ)(e:σ.get k=some o₁):∀q∈fs,τ.get q=none:=λq hq=>by
 cases e':τ.get q with
 |none=>rfl
 |some o'=>
  refine Z4 (P.get q o' e') (λo2=>X0x2 o2 λa _=>?_) λo1=>X0x2 o1 λ_ b=>?_
  ·rw[←a,R.frn q hq] at e;exact zN e
  ·rw[R.frn q hq] at b;exact zN b
theorem Rel.updG(R:Rel B W fs σ s){k:Nat}{p:Fp}{o o₁:SO}{a:Addr}(P:Put σ k o τ)(e:σ.get k=some o₁)(ek:W.ρ[k]?=some p)(ha:a∈p.all)(hs:Heap.SameBut a s.heap s'.heap)
  (hl:∃o,s'.heap.get? a=some o) (ho:OR B W s'.heap p o) (hd:∀q∈W.δ,q.1=k→σ.kc=q.2.1→∃o es,s'.heap.get? p.a=some o∧o.data=.dict es q.2.2) (hg:s'.gens=s.gens) (hos:s'.os=s.os):Rel B W fs τ s':=by
 have hb:=R.own' ek a ha
 have ne:∀{j:Nat}{q:Fp},W.ρ[j]?=some q→j≠k→∀u∈q.all,u≠a:=λej hj u hu z=>R.sep _ _ _ _ ej ek hj u hu (z▸ha)
 refine⟨by rw[P.n];exact R.len,by rw[P.nv];exact R.lenv,λj o' e'=>?_,λj o' q e1 e2=>?_,R.sep,λq hq u hu=>?_,R.old.step_same hb.1 hs,R.lim.sameBut hs ?_,R.vars,
  hg.trans R.gens,hos.trans R.os,by rw[P.frs];exact R.fids,λq hq=>?_,R.put_none P e,R.fnd,λx hx=>⟨?_,(R.fz x hx).2⟩,λq hq=>by rw[P.n];exact R.epn q hq,λq hq=>⟨by rw[P.kc];exact(R.eps q hq).1,λe'=>?_⟩⟩
 ·rw[P.n]
  refine Z4 (P.get j o' e') ?_ (λo1=>X0x2 o1 λ_ b=>?_);intro o2;refine X0x2 o2 ?_;clear o2;intro o3 _;subst o3
  ·exact R.bound _ _ e
  ·exact R.bound _ _ b
 rotate_left 1
 ·refine X0x2 (R.own q hq u hu) ?_;intro c o1;refine X1x1 o1 ?_;clear o1;intro o' e'
  refine⟨c,?_⟩
  by_cases z:u=a
  ·rw[z];exact hl
  ·exact⟨o',(hs.2 u z).trans e'⟩
 rotate_right 1
 ·refine Z4 (P.get j o' e1) ?_ (λo1=>X0x2 o1 λhne e=>?_);intro o2;refine X0x2 o2 ?_;clear o2;intro o3 o4;subst o3;subst o4
  ·rw[ek] at e2;(refine zI e2 ?_;clear e2;rintro rfl);exact ho
  ·exact(R.objs j o' q e e2).mono (Wd.le.refl W) λu hu _ z=>(hs.2 u (ne e2 hne u hu)).trans z
 ·intro q
  have h1:=B.low
  have h2:cStatics<20:=by decide
  rw[q] at h2
  exact absurd (Za h2 (Nat.le_trans h1 hb.1)) (Nat.lt_irrefl _)
 ·rw[P.frs] at hq
  refine X2x3 (R.frs q hq) ?_;intro L f z o1 d;refine X3x2 o1 ?_;clear o1;intro o' es ep b c
  refine⟨L,f,z,⟨o',es,ep,(hs.2 L (ne z (λq'=>?_) L (.head _))).trans b,c⟩,d⟩
  have:q.1∈fs:=by rw[←R.fids];exact List.mem_map_of_mem hq
  rw[q'] at this
  rw[R.frn k this] at e;exact zN e
 ·exact(hs.2 x.1 (λz=>(R.fz x hx).2.2 p (Zd ek) (z▸ha))).trans (R.fz x hx).1
 ·rw[P.kc] at e'
  refine X3x3 ((R.eps q hq).2 e') ?_;intro p' o' es x y z
  by_cases hk:q.1=k
  ·rw[hk,ek] at x;(refine zI x ?_;clear x;rintro rfl)
   refine X2x2 (hd q hq hk e') ?_;intro o'' es' y' z'
   exact⟨p,o'',es',by rw[hk];exact ek,y',z'⟩
  ·exact⟨p',o',es,x,(hs.2 p'.a (ne x hk _ (.head _))).trans y,z⟩
theorem Rel.upd(R:Rel B W fs σ s){k:Nat}{p:Fp}{o o₁:SO}{a:Addr}(P:Put σ k o τ)(e:σ.get k=some o₁)(ek:W.ρ[k]?=some p)(ha:a∈p.all)(hs:Heap.SameBut a s.heap s'.heap)
  (hl:∃o,s'.heap.get? a=some o) (ho:OR B W s'.heap p o) (hn:∀o es n,s.heap.get? p.a=some o→o.data≠.dict es n) (hg:s'.gens=s.gens) (hos:s'.os=s.os):Rel B W fs τ s':=
 R.updG P e ek ha hs hl ho (λq hq hk hc=>by
  refine X3x3 ((R.eps q hq).2 hc) ?_;intro p' o' es x y z
  rw[hk,ek] at x;(refine zI x ?_;clear x;rintro rfl)
  exact absurd z (hn o' es _ y)) hg hos
noncomputable def S.turned(σ:S):S:=⟨σ.T,σ.n,σ.nv,σ.kc+1,σ.frs⟩
theorem S.turnK_true{f:S→Bool}(h:σ.turnK f=true):f σ.turned=true:=by
 obtain⟨T,n,nv,kc,frs⟩:=σ
 have h:natK (Nat.add kc 1) (λkc=>f ⟨T,n,nv,kc,frs⟩)=true:=h
 rw[q1R] at h;exact h
theorem Rel.updD(R:Rel B W fs σ s){k:Nat}{p:Fp}{o o₁:SO}(P:Put σ.turned k o τ)(e:σ.get k=some o₁)(ek:W.ρ[k]?=some p)(hs:Heap.SameBut p.a s.heap s'.heap)
  (hl:∃o,s'.heap.get? p.a=some o) (ho:OR B W s'.heap p o) (hg:s'.gens=s.gens) (hos:s'.os=s.os):Rel B W fs τ s':=by
 have R':Rel B W fs σ.turned s:=⟨R.len,R.lenv,R.bound,R.objs,R.sep,R.own,R.old,R.lim,R.vars,R.gens,R.os,R.fids,R.frs,R.frn,R.fnd,R.fz,R.epn,
  λq hq=>⟨Nat.le_succ_of_le (R.eps q hq).1,λh=>by have:=(R.eps q hq).1;have h:σ.kc+1=q.2.1:=h;lia⟩⟩
 exact R'.updG P e ek (.head _) hs hl ho (λq hq _ h=>by have:=(R.eps q hq).1;have h:σ.kc+1=q.2.1:=h;lia) hg hos
end
end
section
open PySem PySem.W PyProof.Rows
set_option backward.match.sparseCases false in
noncomputable def q5K:Code→Bool
 |.builtin id _=>Builtin.Bytes.decodersThatHold.contains id
 |_=>false
noncomputable def qaB(Γ:Ctx):Prop:=∀x∈Γ.below,q5K x.1=false
noncomputable def Clear(Γ:Ctx):Prop:=qaB Γ∧q5K Γ.code=false
theorem Clear.enter{Γ:Ctx}(h:Clear Γ)(c:Code)(hd:Option Value)(p:Pos):qaB (Γ.enter c hd p):=λx hx=>by
 refine Z4 (List.mem_cons.mp hx) ?_ (λhx=>?_);rintro rfl
 ·exact h.2
 ·exact h.1 x hx
noncomputable def wpG{α:Type}(M:Model)(A:Around)(t:Sem α)(Q:α→Shared→Prop)(E:Value→Shared→Prop)(s:Shared):Prop:=
 ∀(Γ:Ctx)(p:Pos),Γ.In A→Clear Γ→Sem.wp M Γ t (λa _ s'=>Q a s') (λe _ s'=>E e s') p s
noncomputable def q0E(M:Model)(A:Around)(c:Code)(R:Result→Shared→Prop)(s:Shared):Prop:=
 ∀(Γ:Ctx)(p:Pos),Γ.code=c→Γ.Below A→qaB Γ→wpCode M Γ R p s
section
variable{α β:Type}{M:Model}{A:Around}{E:Value→Shared→Prop}{s:Shared}
theorem toG{t:Sem α}{Q:α→Shared→Prop}(h:wpAny M A t Q E s):wpG M A t Q E s:=λΓ p hΓ _=>h Γ p hΓ
theorem q05{t:Sem α}{Q Q':α→Shared→Prop}{E':Value→Shared→Prop}(h:wpG M A t Q E s)(hQ:∀a s,Q a s→Q' a s)(hE:∀e s,E e s→E' e s):wpG M A t Q' E' s:=
 λΓ p hΓ hc=>Sem.wp_mono M Γ t (λa _ s=>hQ a s) (λe _ s=>hE e s) p s (h Γ p hΓ hc)
theorem q0V{c:Code}{R R':Result→Shared→Prop}(h:q0E M A c R s)(hR:∀r s,R r s→R' r s):q0E M A c R' s:=λΓ p hc hΓ hb=>wpCode_mono hR (h Γ p hc hΓ hb)
theorem q03{a:α}{Q:α→Shared→Prop}(h:Q a s):wpG M A (pure a) Q E s:=toG (Z3 h)
theorem q01{m:Sem α}{f:α→Sem β}{Q:β→Shared→Prop}(h:wpG M A m (λa s'=>wpG M A (f a) Q E s') E s):wpG M A (m>>=f) Q E s:=λΓ p hΓ hc=>by
 rw[Sem.wp_bind']
 exact Sem.wp_mono M Γ m (λa p' s' h'=>h' Γ p' hΓ hc) (λ_ _ _ h'=>h') p s (h Γ p hΓ hc)
theorem q0e{m:Sem α}{f:α→Sem β}{Q':α→Shared→Prop}{Q:β→Shared→Prop}(h:wpG M A m Q' E s)(k:∀a s',Q' a s'→wpG M A (f a) Q E s'):wpG M A (m>>=f) Q E s:=
 q01 (q05 h k λ_ _ x=>x)
theorem q0T{m:Sem α}{k:Value→Sem Unit}{Q:α→Shared→Prop}(h:wpG M A m Q (λe s'=>wpG M A (k e) (λ_ s''=>E e s'') E s') s):wpG M A (m.onRaise k) Q E s:=λΓ p hΓ hc=>by
 rw[Sem.wp_onRaise]
 exact Sem.wp_mono M Γ m (λ_ _ _ h'=>h') (λe p' s' h'=>h' Γ p' hΓ hc) p s (h Γ p hΓ hc)
theorem q3n{m:Sem α}{Q:Except Value α→Shared→Prop}(h:wpG M A m (λa=>Q (.ok a)) (λe=>Q (.error e)) s):wpG M A m.attempt Q E s:=λΓ p hΓ hc=>by rw[Sem.wp_attempt];exact h Γ p hΓ hc
theorem q04{vs:List Value}{m:Sem α}{Q:α→Shared→Prop}(h:wpG M A m Q E s):wpG M A (holding vs m) Q E s:=λΓ p hΓ hc=>by rw[Sem.wp_holding];exact h Γ p hΓ hc
theorem q6S{vs:List Value}{m:Sem α}{Q:α→Shared→Prop}(h:wpG M A m Q E s):wpG M A (m.keep vs) Q E s:=λΓ p hΓ hc=>by rw[Sem.wp_keep];exact h Γ p hΓ hc
theorem q2o{tag:String}{Q:Unit→Shared→Prop}(h:Q () s):wpG M A (rule tag) Q E s:=toG (wpAny_rule h)
theorem q07{pos:Pos}{Q:Unit→Shared→Prop}(h:Q () s):wpG M A (standAt pos) Q E s:=toG (wpAny_standAt h)
theorem q3m{Q:Unit→Shared→Prop}(h:Q () s):wpG M A point Q E s:=toG (wpAny_point h)
theorem q0y{m:Sem α}{v:α}{f:α→Sem β}{Q:β→Shared→Prop}(e:m=pure v)(h:wpG M A (f v) Q E s):wpG M A (m>>=f) Q E s:=by rw[e];exact q01 (q03 h)
theorem qbz{c:Bool}{a b:Sem α}{Q:α→Shared→Prop}(hc:c=false)(h:wpAny M A b Q E s):wpAny M A (if c=true then a else b) Q E s:=by subst hc;exact h
theorem q8D{c:Code}{h:Option Value}{Q:Flow→Shared→Prop}(hc:q0E M (A.mark h) c (λr s'=>match r with|.ok f=>Q f s'|.error e=>E e s') s)(hnb:h≠some byPass) :
  wpG M A (run c h) Q E s:=λΓ p hΓ hb=>by rw[Sem.wp_run];exact hc _ p rfl (hΓ.enter c h p hnb) (hb.enter c h p)
theorem q5m{c:Code}{Q:Value→Shared→Prop}(hc:q0E M A c (λr s'=>match r with|.ok (.ret v)=>Q v s'|.ok _=>False|.error e=>E e s') s) :
  wpG M A (runValue c) Q E s:=λΓ p hΓ hb=>by rw[Sem.wp_runValue];exact hc _ p rfl (hΓ.enter c none p (by intro x;exact zN x)) (hb.enter c none p)
theorem q0W{f:Value}{pos:List Value}{kw:List (Str×Value)}{Q:Value→Shared→Prop}
  (hc:q0E M A (.call f ⟨pos,kw⟩) (λr s'=>match r with|.ok (.ret v)=>Q v s'|.ok _=>False|.error e=>E e s') s):wpG M A (call f pos kw) Q E s:=q5m hc
theorem q0k{c:Code}{R:Result→Shared→Prop}(hd:q5K c=false)
  (h:wpG M (A.under c) (M.den c) (λfin s'=>match fin with|.done f=>R (.ok f) s'|.again c'=>c'.quiet=true∧q0E M A c' R s') (λe s'=>R (.error e) s') s):q0E M A c R s:=λΓ p hc hΓ hb=>by
 rw[wpCode_iff_wp,hc]
 refine Sem.wp_mono M Γ _ (λfin p' s' h'=>?_) (λ_ _ _ h'=>h') p s (h Γ p (hc▸hΓ.in) ⟨hb,hc▸hd⟩)
 cases fin with
 |done f=>exact h'
 |again c'=>exact⟨h'.1,h'.2 (Γ.goto c') p' rfl (hΓ.goto c') hb⟩
theorem q2X{c:Code}{R:Result→Shared→Prop}(hd:q5K c=false)(hq:c.quiet=true)(I:Nat→Shared→Prop)
  (turn:∀n s,I n s→wpG M (A.under c) (M.den c) (λfin s'=>match fin with|.done f=>R (.ok f) s'|.again c'=>(c'=c∧∃m,m<n∧I m s')∨(c'.quiet=true∧q0E M A c' R s')) (λe s'=>R (.error e) s') s)
  (n:Nat) (h:I n s):q0E M A c R s:=by
 induction n using Nat.strongRecOn generalizing s with
 |ind n ih=>
  refine q0k hd (q05 (turn n s h) (λfin s' hf=>?_) λ_ _ h'=>h')
  cases fin with
  |done f=>exact hf
  |again c'=>
   refine Z4 hf ?_ (λhf=>?_);clear hf;intro o1;refine X0x2 o1 ?_;clear o1;intro o2 o3;subst o2;refine X1x2 o3 ?_;clear o3;intro m hm hI
   ·exact⟨hq,ih m hm hI⟩
   ·exact hf
end
section
variable{M:Model}{A:Around}{env:Env}{E:Value→Shared→Prop}{s:Shared}
theorem q1G{α:Type}{c:Bool}{a b:Sem α}{Q:α→Shared→Prop}(hc:c=false)(h:wpG M A b Q E s):wpG M A (if c=true then a else b) Q E s:=by subst hc;exact h
theorem q6d{α:Type}{c:Bool}{a b:Sem α}{Q:α→Shared→Prop}(hc:c=true)(h:wpG M A a Q E s):wpG M A (if c=true then a else b) Q E s:=by subst hc;exact h
theorem q8E{α:Type}{c:Prop}[Decidable c]{a b:Sem α}{Q:α→Shared→Prop}(h:wpG M A a Q E s)(k:wpG M A b Q E s):wpG M A (if c then a else b) Q E s:=q2A (P:=λm=>wpG M A m Q E s) h k
theorem q17{vs:List Value}{m:Sem Value}{Q:Value→Shared→Prop}(h:wpG M A m Q E s):wpG M A (operate vs m) Q E s:=λΓ p hΓ hc=>by rw[Sem.wp_operate];exact h Γ p hΓ hc
theorem q0B{l:Expr}{op:Operator}{r:Expr}{pos:Pos}{Q:Value→Shared→Prop}
  (h:wpG M A (eval l env) (λa s₁=>wpG M A (eval r env) (λb s₂=>wpG M A (binaryOp op a b) Q E s₂) E s₁) E s):wpG M A (eval (.BinOp l op r pos) env) Q E s:=by
 rw[eval_BinOp]
 exact q0e h λa s₁ h₁=>q01 (q04 (q05 h₁ (λb s₂ h₂=>q01 (q07 (q17 h₂))) λ_ _ x=>x))
theorem q30{l:Expr}{op:CmpOp}{r:Expr}{pos:Pos}{Q:Value→Shared→Prop}(hm:behindInMarks op r=false)
  (h:wpG M A (eval l env) (λa s₁=>wpG M A (eval r env) (λb s₂=>wpG M A (compareOp op a b) Q E s₂) E s₁) E s):wpG M A (eval (.Compare l [op] [r] pos) env) Q E s:=by
 rw[eval_Compare1,markedBehindIn_of_false hm]
 exact q0e h λa s₁ h₁=>q01 (q04 (q05 h₁ (λb s₂ h₂=>q01 (q07 (q17 h₂))) λ_ _ x=>x))
theorem q18{l:Expr}{op:CmpOp}{r:Expr}{pos:Pos}{whole:Sem Value}{Q:Bool→Shared→Prop}(hm:behindInMarks op r=false)
  (h:wpG M A (eval l env) (λa s₁=>wpG M A (eval r env) (λb s₂=>wpG M A (compareOp op a b) (λc s₃=>wpG M A (truthy c) Q E s₃) E s₂) E s₁) E s):wpG M A (isTrue (.Compare l [op] [r] pos) env whole) Q E s:=by
 rw[isTrue_Compare1,markedBehindIn_of_false hm]
 exact q0e h λa s₁ h₁=>q01 (q04 (q05 h₁ (λb s₂ h₂=>q01 (q07 (q01 (q17 (q05 h₂ (λc s₃ h₃=>q04 h₃) λ_ _ x=>x))))) λ_ _ x=>x))
theorem q3o{op:UnaryOp}{x:Expr}{pos:Pos}{Q:Value→Shared→Prop}(h:wpG M A (eval x env) (λv s₁=>wpG M A (unaryOp op v) Q E s₁) E s):wpG M A (eval (.UnaryOp op x pos) env) Q E s:=by
 rw[arm_eval_UnaryOp]
 exact q0e h λv s₁ h₁=>q01 (q07 (q04 h₁))
theorem q8H{test body orelse:Expr}{pos:Pos}{Q:Value→Shared→Prop}
  (h:wpG M A (isTrue test env (eval test env)) (λb s₁=>if b then wpG M A (eval body env) Q E s₁ else wpG M A (eval orelse env) Q E s₁) E s):wpG M A (eval (.IfExp test body orelse pos) env) Q E s:=by
 rw[arm_eval_IfExp]
 refine q0e h λb s₁ h₁=>?_
 cases b<;>exact h₁
theorem q5n{op:BoolOp}{x y:Expr}{pos:Pos}{Q:Value→Shared→Prop}(h:wpG M A (eval x env) (λv s₁=>wpG M A (truthy v) (λt s₂=>if t=(op==.And) then wpG M A (eval y env) Q E s₂ else Q v s₂) E s₁) E s) :
  wpG M A (eval (.BoolOp op [x,y] pos) env) Q E s:=by
 rw[arm_eval_BoolOp]
 show wpG M A (eval x env>>=λv=>standAt pos>>=λ_=>holding [v] (truthy v)>>=λt=>match op,t with
  |.And,false|.Or,true=>pure v
  |_,_=>boolOp pos op [eval y env]) Q E s
 refine q0e h λv s₁ h₁=>q01 (q07 (q01 (q04 (q05 h₁ (λt s₂ h₂=>?_) λ_ _ x=>x))))
 cases op<;>cases t
 ·exact q03 (by simpa using h₂)
 ·exact(by simpa using h₂:wpG M A (eval y env) Q E s₂)
 ·exact(by simpa using h₂:wpG M A (eval y env) Q E s₂)
 ·exact q03 (by simpa using h₂)
theorem q0P{pos:Pos}{Q:List Value→Shared→Prop}(h:Q [] s):wpG M A (spliced (backTo pos (starEach [] env))) Q E s:=q03 h
theorem q0F{pos:Pos}{e:Expr}{rest:List Expr}{Q:List Value→Shared→Prop}(he:starEach (e::rest) env=(false,eval e env)::starEach rest env)
  (h:wpG M A (eval e env) (λv s₁=>wpG M A (spliced (backTo pos (starEach rest env))) (λvs s₂=>Q (v::vs) s₂) E s₁) E s):wpG M A (spliced (backTo pos (starEach (e::rest) env))) Q E s:=by
 rw[he]
 show wpG M A (eval e env>>=λv=>(pure [v]:Sem (List Value))>>=λhere=>holding here (spliced (backTo pos (starEach rest env)))>>=λr=>pure (here++r)) Q E s
 exact q0e h λv s₁ h₁=>q01 (q03 (q01 (q04 (q05 h₁ (λvs s₂ h₂=>q03 h₂) λ_ _ x=>x))))
theorem q6T{elts:List Expr}{pos:Pos}{Q:Value→Shared→Prop}(h:wpG M A (spliced (backTo pos (starEach elts env))) (λvs s₁=>wpG M A (newList vs) Q E s₁) E s):wpG M A (eval (.List elts pos) env) Q E s:=by
 rw[arm_eval_List]
 exact q01 (q07 (q01 h))
theorem q8G{elts:List Expr}{k:Nat}{pos:Pos}{Q:Value→Shared→Prop}(h:wpG M A (spliced (backTo pos (starEach elts env))) (λvs s₁=>wpG M A (newTuple vs) Q E s₁) E s):wpG M A (eval (.Tuple elts k pos) env) Q E s:=by
 rw[arm_eval_Tuple]
 exact q01 (q07 (q01 h))
theorem q2q{lower upper step:Option Expr}{p:Pos}{Q:Value→Shared→Prop}
  (h:wpG M A (evalPart lower env) (λl s₁=>wpG M A (evalPart upper env) (λu s₂=>wpG M A (evalPart step env) (λst s₃=>
   Q (.ref s₃.heap.objs.size) {s₃ with heap:=s₃.heap.push {cls:=.type "slice",data:=.fields #[l,u,st]}}) E s₂) E s₁) E s):wpG M A (eval (.Slice lower upper step p) env) Q E s:=by
 rw[arm_eval_Slice]
 exact q0e h λl s₁ h₁=>q01 (q04 (q05 h₁ (λu s₂ h₂=>q01 (q04 (q05 h₂ (λst s₃ h₃=>toG (wpAny_newObj_type h₃)) λ_ _ x=>x))) λ_ _ x=>x))
theorem q2L{op:BoolOp}{values:List Expr}{pos:Pos}{whole:Sem Value}{Q:Bool→Shared→Prop}(h:wpG M A (allTrue op values env) Q E s):wpG M A (isTrue (.BoolOp op values pos) env whole) Q E s:=by
 rw[arm_isTrue_BoolOp];exact h
theorem q1H{op:BoolOp}{Q:Bool→Shared→Prop}(h:Q (op==.And) s):wpG M A (allTrue op [] env) Q E s:=q03 h
theorem q1B{op:BoolOp}{x:Expr}{rest:List Expr}{Q:Bool→Shared→Prop}
  (h:wpG M A (isTrue x env (eval x env)) (λb s₁=>if b=(op==.And) then wpG M A (allTrue op rest env) Q E s₁ else Q b s₁) E s):wpG M A (allTrue op (x::rest) env) Q E s:=by
 rw[arm_allTrue_cons]
 refine q0e h λb s₁ h₁=>?_
 cases op<;>cases b
 ·exact q03 (by simpa using h₁)
 ·exact(by simpa using h₁:wpG M A (allTrue .And rest env) Q E s₁)
 ·exact(by simpa using h₁:wpG M A (allTrue .Or rest env) Q E s₁)
 ·exact q03 (by simpa using h₁)
theorem q46{x:Expr}{pos:Pos}{whole:Sem Value}{Q:Bool→Shared→Prop}(h:wpG M A (isTrue x env (eval x env)) (λb s₁=>Q (!b) s₁) E s):wpG M A (isTrue (.UnaryOp .Not x pos) env whole) Q E s:=by
 rw[arm_isTrue_UnaryOp]
 exact q0e h λb s₁ h₁=>q03 h₁
theorem q3a{e:Expr}{whole:Sem Value}{Q:Bool→Shared→Prop}(he:isTrue e env whole=(do let v ←whole;standAt e.pos;holding [v] (truthy v)))(h:wpG M A whole (λv s₁=>wpG M A (truthy v) Q E s₁) E s) :
  wpG M A (isTrue e env whole) Q E s:=by
 rw[he]
 exact q0e h λv s₁ h₁=>q01 (q07 (q04 h₁))
theorem q0p{Q:Flow→Shared→Prop}(h:Q .next s):wpG M A (execs [] env) Q E s:=q03 h
theorem q0h{st:Stmt}{rest:List Stmt}{Q:Flow→Shared→Prop}(h:wpG M A (exec st env) (λf s'=>match f with|.next=>wpG M A (execs rest env) Q E s'|f=>Q f s') E s):wpG M A (execs (st::rest) env) Q E s:=by
 rw[execs_cons]
 refine q0e h λf s' h'=>?_
 cases f<;>first|exact h'|exact q03 h'
theorem qc0{test:Expr}{body orelse:List Stmt}{pos:Pos}{Q:Flow→Shared→Prop}
  (h:wpG M A (isTrue test env (eval test env)) (λb s₂=>if b then wpG M A (execs body env) Q E s₂ else wpG M A (execs orelse env) Q E s₂) E s):wpG M A (exec (.If test body orelse pos) env) Q E s:=by
 rw[exec_If]
 refine q01 (q07 (q0e h λb s₂ h₂=>?_))
 cases b<;>exact h₂
theorem q0Q{e:Expr}{pos:Pos}{Q:Flow→Shared→Prop}(h:wpG M A (eval e env) (λv=>Q (.ret v)) E s):wpG M A (exec (.Return (some e) pos) env) Q E s:=by
 rw[exec_Return_some]
 exact q01 (q07 (q0e h λv s₁ h₁=>q03 h₁))
theorem q3p{pos:Pos}{Q:Flow→Shared→Prop}(h:Q (.ret .none) s):wpG M A (exec (.Return none pos) env) Q E s:=toG (wpAny_Return_none h)
theorem q0r{targets:List Expr}{value:Expr}{pos:Pos}{Q:Flow→Shared→Prop}
  (h:wpG M A (eval value env) (λv s₁=>wpG M A (assignAll v ((assignEach targets env).map (·.2))) (λ_=>Q .next) E s₁) E s)
  (hs:swapsWithSole targets value pos.line env=pure false) (hw:swappedStores targets value env=pure none):wpG M A (exec (.Assign targets value pos) env) Q E s:=by
 rw[exec_Assign_arm]
 refine q01 (q07 (q0y hs ?_))
 rw[if_neg (by decide)]
 refine q0e h λv s₁ h₁=>q0y hw ?_
 show wpG M A (assignAll v ((assignEach targets env).map (·.2))>>=λ_=>pure .next) Q E s₁
 exact q0e h₁ λ_ _ x=>q03 x
theorem q4f{c:Code}{h:Option Value}{Q:Flow→Shared→Prop}(hc:q0E M (A.mark h) c (λr s'=>match r with|.ok f=>Q f s'|.error e=>cameBackBy M A env E e s') s)(hnb:h≠some byPass) :
  wpG M A (runOwn c env h) Q E s:=by
 unfold runOwn
 exact q0T (q05 (q8D hc hnb) (λ_ _ x=>x) λe s' x=>toG x)
theorem q8F{test:Expr}{body orelse:List Stmt}{pos:Pos}{Q:Flow→Shared→Prop}(h:q0E M A (.whileLoop test body orelse env) (λr s'=>match r with|.ok f=>Q f s'|.error e=>cameBackBy M A env E e s') s) :
  wpG M A (exec (.While test body orelse pos) env) Q E s:=by
 rw[exec_While];exact q01 (q07 (q4f h nofun))
theorem q4J{target iter:Expr}{body orelse:List Stmt}{pos:Pos}{Q:Flow→Shared→Prop}
  (h:wpG M A (eval iter env) (λx s₁=>wpG M A (pyIter x) (λit s₂=>q0E M A (.forLoop target it body orelse env) (λr s'=>match r with|.ok f=>Q f s'|.error e=>cameBackBy M A env E e s') s₂) E s₁) E s)
  (hs:∀x,foldedSetIterable iter env x=pure x):wpG M A (exec (.For target iter body orelse pos) env) Q E s:=by
 rw[exec_For]
 exact q01 (q07 (q0e h λx s₁ h₁=>q0y (hs x) (q01 (q07 (q01 (q04 (q05 h₁ (λit s₂ h₂=>q4f h₂ nofun) λ_ _ x=>x)))))))
theorem q2p{α:Type}{m:Sem α}{Q:α→Shared→Prop}(h:wpG M A m Q (notedBy M A env E) s):wpG M A (m.onRaise λx=>do noteFrame x env;theTreesLotGoes x) Q E s:=
 q0T (q05 h (λ_ _ q=>q) λ_ _ hx=>toG (Z0 (wpAny_mono hx (λ_ _ e=>wpAny_theTreesLotGoes e) λ_ _ e=>e)))
end
section
variable{prog:Program}{w:World}{A:Around}{env:Env}{E:Value→Shared→Prop}{s:Shared}
theorem qaH{e:Expr}{pos:Pos}{Q:Flow→Shared→Prop}(h:wpG (model prog w) A (eval e env) (λ_=>Q .next) E s)(hi:interactive env=false)(hs:swapsWith e none pos.line env=pure false) :
  wpG (model prog w) A (exec (.Expr e pos) env) Q E s:=by
 rw[exec_Expr env e pos hi hs]
 exact q01 (q07 (q0e h λv s' h'=>toG (wpAny_dropValue h')))
end
end
section
open PySem PySem.W PyProof.Rows
variable{prog:Program}{w:World}{A:Around}{env:Env}{E:Value→Shared→Prop}{R:Result→Shared→Prop}{s:Shared}
theorem q3X{test:Expr}{body orelse:List Stmt}(I:Nat→Shared→Prop)
  (turn:∀n s,I n s→wpG (model prog w) A (isTrue test env (eval test env)) (λb s₂=>if b then wpG (model prog w) A (execs body env) (λf s₃=>match f with
      |.next|.cont=>∃m,m<n∧I m s₃
      |.brk=>R (.ok .next) s₃
      |.ret v=>R (.ok (.ret v)) s₃) (notedBy (model prog w) A env λe s'=>R (.error e) s') s₂
    else wpG (model prog w) A (execs orelse env) (λf s₃=>R (.ok f) s₃) (notedBy (model prog w) A env λe s'=>R (.error e) s') s₂)
    (notedBy (model prog w) A env λe s'=>R (.error e) s') s)
  (n:Nat) (h:I n s):q0E (model prog w) A (.whileLoop test body orelse env) R s:=by
 refine q2X rfl rfl I (λn s hI=>?_) n h
 show wpG _ A ((whileTurn test body orelse env).onRaise (λx=>do noteFrame x env;theTreesLotGoes x)) _ _ s
 refine q2p ?_
 simp only[whileTurn]
 refine q0e (turn n s hI) λb s₂ h₂=>?_
 cases b with
 |false=>
  simp only[Bool.false_eq_true,if_false] at h₂⊢
  exact q0e h₂ λf s₃ h₃=>q03 h₃
 |true=>
  simp only[if_true] at h₂⊢
  refine q0e h₂ λf s₃ h₃=>?_
  cases f with
  |next=>exact q03 (.inl ⟨rfl,h₃⟩)
  |cont=>exact q03 (.inl ⟨rfl,h₃⟩)
  |brk=>exact q03 h₃
  |ret v=>exact q03 h₃
theorem q6J{stmts:List Stmt}(h:wpG (model prog w) A (execs stmts env) (λf s'=>R (.ok f) s') (notedBy (model prog w) A env λe s'=>R (.error e) s') s):q0E (model prog w) A (.block stmts env) R s:=by
 refine q0k rfl ?_
 show wpG _ A (((execs stmts env).onRaise (λx=>do noteFrame x env;theTreesLotGoes x))>>=λf=>pure (Fin.done f)) _ _ s
 exact q01 (q2p (q05 h (λf s' h'=>q03 h') λ_ _ h'=>h'))
theorem q1y{target:Expr}{it:Value}{body orelse:List Stmt}(I:Nat→Shared→Prop)
  (turn:∀n s,I n s→wpG (model prog w) A (pyNext it) (λr s₁=>match r with
   |none=>wpG (model prog w) A (execs orelse env) (λf s₃=>R (.ok f) s₃) (notedBy (model prog w) A env λe s'=>R (.error e) s') s₁
   |some v=>wpG (model prog w) A (letOwnedTupleGo target it v) (λ_ s₁'=>
     wpG (model prog w) A (assign target env v) (λ_ s₂=>wpG (model prog w) A (execs body env) (λf s₃=>match f with
      |.next|.cont=>∃m,m<n∧I m s₃
      |.brk=>R (.ok .next) s₃
      |.ret v=>R (.ok (.ret v)) s₃) (notedBy (model prog w) A env λe s'=>R (.error e) s') s₂) (notedBy (model prog w) A env λe s'=>R (.error e) s') s₁') (notedBy (model prog w) A env λe s'=>R (.error e) s') s₁) (notedBy (model prog w) A env λe s'=>R (.error e) s') s)
  (n:Nat) (h:I n s):q0E (model prog w) A (.forLoop target it body orelse env) R s:=by
 refine q2X rfl rfl I (λn s hI=>?_) n h
 show wpG _ A ((forTurn target it body orelse env).onRaise (λx=>do noteFrame x env;theTreesLotGoes x)) _ _ s
 refine q2p ?_
 simp only[forTurn]
 refine q01 (q07 (q01 (q0T (q05 (turn n s hI) (λr s₁ h₁=>?_) λ_ _ h'=>q07 h'))))
 cases r with
 |none=>exact q03 (.inr ⟨rfl,q6J h₁⟩)
 |some v=>
  refine q0e h₁ λ_ s₁' h₁'=>q0e h₁' λ_ s₂ h₂=>q0e h₂ λf s₃ h₃=>?_
  cases f with
  |next=>exact q03 (.inl ⟨rfl,h₃⟩)
  |cont=>exact q03 (.inl ⟨rfl,h₃⟩)
  |brk=>exact q03 h₃
  |ret v=>exact q03 h₃
end
section
open PySem PySem.W PyProof.Rows
variable{prog:Program}{w:World}{A:Around}{env:Env}{E:Value→Shared→Prop}{R:Result→Shared→Prop}{s:Shared}
theorem q4A{body:List Stmt}
  (h:wpG (model prog w) (A.deeper env) (execs body env) (λf s'=>R (.ok (.ret (match f with|.ret v=>v|_=>.none))) s')
   (λe s'=>wpAny (model prog w) (A.deeper env) (leaving env e) (λ_ s''=>R (.error e) s'') (λe' s''=>R (.error e') s'') s') s) :
  q0E (model prog w) A (.func body env) R s:=by
 refine q0k rfl ?_
 show wpG _ (A.deeper env) (point>>=λ_=>(execs body env).onRaise (leaving env)>>=λf=>match f with|.ret v=>ret v|_=>ret .none) _ _ s
 refine q01 (q3m (q01 (q0T (q05 h (λf s' h'=>?_) λ_ _ h'=>toG h'))))
 cases f<;>exact q03 h'
noncomputable def qcE(b:FuncBody)(env:Env)(c:Code):Prop:=match b with|.stmts l=>c=.func l env|.expr e=>c=.expr e env
theorem q1a{a:Addr}{args:Args}{o:Obj}{fd:FuncData}(hroom:A.depth<recursionLimit)
  (ho:s.heap.get? a=some o) (hd':o.data=.func fd) (hco:fd.scope.isCoroutine=false) (hgen:fd.scope.isGenerator=false) (hcd:s.heap.CodeRec fd.code fd.qualname)
  (h:wpAny (model prog w) A.in1 (bindArgs fd args) (λbinds s₁=>
   wpAny (model prog w) A.in1 (newFunctionEnv fd.scope fd.globals fd.closure binds (fd.qualname++".<locals>.") (some a) fd.code none fd.builtins)
    (λenv s₂=>s₂.heap.NoLimit∧∀c,qcE fd.body env c→q0E (model prog w) A c R s₂) (λe s'=>R (.error e) s') s₁) (λe s'=>R (.error e) s') s) :
  q0E (model prog w) A (.call (.ref a) args) R s:=by
 refine q0k rfl ?_
 obtain⟨k,dc,dt,sl⟩:=o
 have hd':dt=.func fd:=hd'
 subst hd'
 refine X4x4 hcd ?_;clear hcd;intro c oc vs tq hc hoc hdc hq
 show wpG _ A.in1 (load a>>=_) _ _ s
 refine q01 (toG (wpAny_load ho ?_))
 show wpG _ _ (callFunction a fd args) _ _ _
 unfold callFunction
 rw[hc] at h⊢
 show wpG _ _ (field (.ref c) 1>>=_) _ _ _
 refine q01 (toG (wpAny_field hoc hdc hq (q01 (q03 ?_))))
 refine q0e (toG h) λbinds s₁ h₁=>q0e (toG h₁) λenv s₂ h₂=>q01 (toG (wpAny_enterFrame h₂.1 hroom ?_))
 rw[hgen,hco]
 cases hb:fd.body with
 |stmts b=>exact q03 ⟨rfl,h₂.2 _ (by rw[hb];exact rfl)⟩
 |expr b=>exact q03 ⟨rfl,h₂.2 _ (by rw[hb];exact rfl)⟩
end
section
open PySem PySem.W PyProof.Rows
section
variable{κ β:Type}[BEq κ][LawfulBEq κ]
theorem q2a{l:List (κ×β)}{k:κ}(h:∀x∈l,x.1≠k):l.lookup k=none:=by
 induction l with
 |nil=>rfl
 |cons x r ih=>
  obtain⟨a,b⟩:=x
  have h1:¬(a=k):=h _ (.head _)
  rw[List.lookup_cons]
  have:(k==a)=false:=beq_eq_false_iff_ne.mpr λe=>h1 e.symm
  rw[this]
  exact ih λy hy=>h y (.tail _ hy)
theorem q0Y{l:List (κ×β)}{k:κ}{v:β}(hn:(l.map (·.1)).Nodup)(h:(k,v)∈l):l.lookup k=some v:=by
 induction l with
 |nil=>cases h
 |cons x r ih=>
  obtain⟨a,b⟩:=x
  rw[List.map_cons] at hn
  have hn:=List.nodup_cons.mp hn
  rw[List.lookup_cons]
  refine Z4 (List.mem_cons.mp h) (λe=>?_) λh=>?_
  ·cases e;simp
  ·have:(k==a)=false:=beq_eq_false_iff_ne.mpr λe=>hn.1 (e▸List.mem_map.mpr ⟨_,h,rfl⟩)
   rw[this]
   exact ih hn.2 h
noncomputable def q0M(slots:List (κ×β))(x:κ×β):List (κ×β):=if (slots.lookup x.1).isNone then slots++[x] else slots
theorem q5r:∀(l:List (κ×β))(S:List (κ×β)),(∀x∈l,(S.lookup x.1).isSome)→l.foldl q0M S=S
 |[],_,_=>rfl
 |x::r,S,h=>by
  have h1:=h x (.head _)
  rw[List.foldl_cons]
  have:q0M S x=S:=by
   unfold q0M
   cases e:S.lookup x.1 with
   |none=>rw[e] at h1;exact zF h1
   |some v=>rfl
  rw[this]
  exact q5r r S λy hy=>h y (.tail _ hy)
theorem q5s:∀(l:List (κ×β))(S:List (κ×β)),(∀x∈l,∀y∈S,y.1≠x.1)→(l.map (·.1)).Nodup→l.foldl q0M S=S++l
 |[],S,_,_=>by simp
 |x::r,S,h,hn=>by
  rw[List.foldl_cons]
  rw[List.map_cons] at hn
  have hn:=List.nodup_cons.mp hn
  have:q0M S x=S++[x]:=by
   unfold q0M
   rw[q2a λy hy=>h x (.head _) y hy];rfl
  rw[this,q5s r (S++[x]) (λy hy z hz=>?_) hn.2]
  ·simp
  ·refine Z4 (List.mem_append.mp hz) (λhz=>?_) λhz=>?_
   ·exact h y (.tail _ hy) z hz
   ·rw[List.mem_singleton.mp hz]
    exact λe=>hn.1 (e▸List.mem_map.mpr ⟨y,hy,rfl⟩)
end
theorem q6C(l:List (Str×Value))(S:List (Str×Value)) :
  (forIn l S (λx s=>if (List.lookup x.1 s).isNone=true then(pure (ForInStep.yield (s++[(x.1,x.2)])):Sem _) else pure (ForInStep.yield s)):Sem (List (Str×Value)))=pure (l.foldl q0M S):=by
 induction l generalizing S with
 |nil=>rw[List.forIn_nil];rfl
 |cons x r ih=>
  rw[List.forIn_cons,List.foldl_cons]
  have:(if (List.lookup x.1 S).isNone=true then(pure (ForInStep.yield (S++[(x.1,x.2)])):Sem _) else pure (ForInStep.yield S))=pure (ForInStep.yield (q0M S x)):=by
   unfold q0M
   split<;>rfl
  rw[this,pure_bind]
  exact ih _
theorem q1m{κ β:Type}{l:List κ}{m:List β}(h:l.Nodup):((l.zip m).map (·.1)).Nodup:=by
 induction l generalizing m with
 |nil=>simp
 |cons a r ih=>
  cases m with
  |nil=>simp
  |cons b q=>
   rw[List.zip_cons_cons,List.map_cons]
   have h:=List.nodup_cons.mp h
   refine List.nodup_cons.mpr ⟨λhm=>h.1 ?_,ih h.2⟩
   refine X1x2 (List.mem_map.mp hm) ?_;intro x hx e
   refine X1x1 (List.mem_iff_getElem.mp hx) ?_;intro i o1;refine X1x1 o1 ?_;clear o1;intro hi e'
   have e:x.1=a:=e
   rw[←e,←e']
   simp
theorem q8V{names:List Str}{vals ds:List Value}(hn:names.Nodup)(l1:vals.length≤names.length)(l2:names.length≤vals.length+ds.length)(l3:ds.length≤names.length) :
  ((names.drop (names.length-ds.length)).zip ds).foldl q0M (names.zip vals)=names.zip (vals++ds.drop (vals.length+ds.length-names.length)):=by
 obtain⟨j,hj⟩:∃j,j=vals.length+ds.length-names.length:=⟨_,rfl⟩
 rw[←hj]
 have hsplit:(names.drop (names.length-ds.length)).zip ds=((names.drop (names.length-ds.length)).take j).zip (ds.take j)++(names.drop vals.length).zip (ds.drop j):=by
  have e:names.drop vals.length=(names.drop (names.length-ds.length)).drop j:=by rw[List.drop_drop];congr 1;exact sl1 l2 l3 hj
  rw[e,←List.zip_append (by rw[List.length_take,List.length_take,List.length_drop,Nat.sub_sub_self l3]),List.take_append_drop,List.take_append_drop]
 have a1:(((names.drop (names.length-ds.length)).take j).zip (ds.take j)).foldl q0M (names.zip vals)=names.zip vals:=by
  refine q5r _ _ λx hx=>?_
  refine X1x1 (List.mem_iff_getElem.mp hx) ?_;intro i o1;refine X1x1 o1 ?_;clear o1;intro hi o2;subst o2
  simp only[List.getElem_zip,List.getElem_drop,List.getElem_take]
  simp only[List.length_zip,List.length_take,List.length_drop] at hi
  have hiv:names.length-ds.length+i<vals.length:=Nat.lt_of_lt_of_eq (Nat.add_lt_add_left (Za hi (Nat.le_trans (Nat.min_le_left _ _) (Nat.min_le_left _ _))) _) (sl1 l2 l3 hj).symm
  rw[q0Y (v:=vals[names.length-ds.length+i]) (q1m hn)]
  ·rfl
  ·have hlt:names.length-ds.length+i<(names.zip vals).length:=by rw[List.length_zip];exact Nat.lt_min.mpr ⟨Za hiv l1,hiv⟩
   have:=List.getElem_mem hlt
   rwa[List.getElem_zip] at this
 have a2:((names.drop vals.length).zip (ds.drop j)).foldl q0M (names.zip vals)=names.zip vals++(names.drop vals.length).zip (ds.drop j):=by
  refine q5s _ _ (λx hx y hy e=>?_) (q1m (hn.sublist (List.drop_sublist _ _)))
  refine X1x1 (List.mem_iff_getElem.mp hx) ?_;intro i o1;refine X1x1 o1 ?_;clear o1;intro hi o2;subst o2
  refine X1x1 (List.mem_iff_getElem.mp hy) ?_;intro k o1;refine X1x1 o1 ?_;clear o1;intro hk o2;subst o2
  simp only[List.getElem_zip,List.getElem_drop] at e
  simp only[List.length_zip] at hk
  have e:=(List.getElem_inj hn).mp e
  exact absurd (Za hk (Nat.min_le_right _ _)) (Nat.not_lt.mpr (by rw[e];exact Nat.le_add_right _ _))
 rw[hsplit,List.foldl_append,a1,a2]
 have:names.zip (vals++ds.drop j)=(names.take vals.length++names.drop vals.length).zip (vals++ds.drop j):=by rw[List.take_append_drop]
 rw[this,List.zip_append (by rw[List.length_take];exact Nat.min_eq_left l1)]
 congr 1
 conv=>lhs;rw[←List.take_append_drop vals.length names]
 have:=List.zip_append (l₁:=names.take vals.length) (r₁:=names.drop vals.length) (l₂:=vals) (r₂:=[]) (by rw[List.length_take];exact Nat.min_eq_left l1)
 simpa using this
theorem q7Z{names:List Str}{W:List Value}(hn:names.Nodup)(h:W.length=names.length):names.filterMap (λn=>Option.map (λx=>(n,x)) (List.lookup n (names.zip W)))=names.zip W:=by
 have gen:∀(a:List Str)(b:List Value),a.length=b.length→(∀x∈a.zip b,x∈names.zip W)→a.filterMap (λn=>Option.map (λx=>(n,x)) (List.lookup n (names.zip W)))=a.zip b:=by
  intro a
  induction a with
  |nil=>intro b _ _;simp
  |cons n r ih=>
   intro b hb hm
   cases b with
   |nil=>cases hb
   |cons v q=>
    have h1:(names.zip W).lookup n=some v:=q0Y (q1m hn) (hm (n,v) (by simp))
    rw[List.filterMap_cons,h1]
    simp only[Option.map_some,List.zip_cons_cons]
    rw[ih q (by simpa using hb) λx hx=>hm x (by simp[hx])]
 exact gen names W h.symm λ_ hx=>hx
theorem q5c{s:Shared}{fd:FuncData}{vals ds:List Value}{names:List Str}(h1:fd.params.posonlyargs=[])(h2:fd.params.args.map (·.arg)=names)(h3:fd.params.kwonlyargs=[])(h4:fd.params.vararg=none)(h5:fd.params.kwarg=none)
  (hd:∀(M:Model)(A:Around)(E:Value→Shared→Prop)(Q:Option (Array Value)→Shared→Prop),(∀r,r.getD #[]=ds.toArray→Q r s)→wpAny M A (seqItems? fd.defaults) Q E s)
  (hn:names.Nodup) (l1:vals.length≤names.length) (l2:names.length≤vals.length+ds.length) (l3:ds.length≤names.length) :
  BindsTo s fd ⟨vals,[]⟩ (names.zip (vals++ds.drop (vals.length+ds.length-names.length))):=λM A E Q hq=>by
 obtain⟨name,qn,ps,body,scope,gl,clo,dfl,kwd,doc,pym,ann,code,ct,bi⟩:=fd
 obtain⟨po,as,va,ko,kd,kw,df⟩:=ps
 have k1:po=[]:=h1
 have k3:ko=[]:=h3
 have k4:va=none:=h4
 have k5:kw=none:=h5
 have k2:as.map (·.arg)=names:=h2
 clear h1 h2 h3 h4 h5
 subst k1 k3 k4 k5
 unfold bindArgs
 refine Z0 ?_
 show wpAny M A (forIn ([]:List (Str×Value)) _ _) _ E s
 rw[List.forIn_nil]
 refine Z3 (Z0 (hd _ _ _ _ λr hr=>?_))
 clear hd
 have e1:decide (vals.length>names.length)=false:=decide_eq_false (Nat.not_lt.mpr l1)
 refine qbz (by show (decide (vals.length>(as.map (·.arg)).length)&&_)=false;rw[k2,e1];rfl) ?_
 have e0:ds.length-names.length=0:=Nat.sub_eq_zero_of_le l3
 have e2:(names.take (names.length-ds.length)).filter (λn=>(List.lookup n (names.zip vals)).isNone)=[]:=by
  refine List.filter_eq_nil_iff.mpr λn hm=>?_
  refine X1x1 (List.mem_iff_getElem.mp hm) ?_;intro i o1;refine X1x1 o1 ?_;clear o1;intro hi o2;subst o2
  simp only[List.length_take] at hi
  rw[List.getElem_take,q0Y (v:=vals[i]'(Za hi (Nat.le_trans (Nat.min_le_left _ _) (Nat.sub_le_iff_le_add.mpr l2)))) (q1m hn)]
  ·simp
  ·have hlt:i<(names.zip vals).length:=by rw[List.length_zip];exact Nat.lt_min.mpr ⟨Za hi (Nat.min_le_right _ _),Za hi (Nat.le_trans (Nat.min_le_left _ _) (Nat.sub_le_iff_le_add.mpr l2))⟩
   have:=List.getElem_mem hlt
   rwa[List.getElem_zip] at this
 simp only[List.map_nil,List.nil_append,k2,hr,e0,List.drop_zero]
 refine qbz (by rw[e2];rfl) ?_
 refine Z0 (wpAny_of_eq ((q6C _ _).trans (congrArg pure (q8V hn l1 l2 l3))) ?_)
 refine Z0 ?_
 show wpAny M A (forIn ([]:List Str) _ _) _ E s
 rw[List.forIn_nil]
 refine Z3 (qbz rfl ?_)
 rw[List.append_nil,q7Z hn (by rw[List.length_append,List.length_drop];exact sl2 l1 l2)]
 exact Z3 hq
end
section
open PySem PySem.W
section
variable{B:Base}{W W':Wd}{fs:List Nat}{σ τ:S}{s s':Shared}
structure Same(σ τ:S)(n nv:Nat)(frs:List (Nat×Lo)):Prop where
 get:∀j,τ.get j=σ.get j
 n:τ.n=n
 nv:τ.nv=nv
 kc:τ.kc=σ.kc
 frs:τ.frs=frs
theorem S.pushK_true{m:Lo}{f:S→Bool}(h:σ.pushK m f=true):∃τ,Same σ τ (σ.n+1) σ.nv ((σ.n,m)::σ.frs)∧f τ=true:=by
 obtain⟨T,n,nv,kc,frs⟩:=σ
 have h:natK (Nat.add n 1) (λn'=>f ⟨T,n',nv,kc,(n,m)::frs⟩)=true:=h
 rw[q1R] at h
 exact⟨⟨T,n+1,nv,kc,(n,m)::frs⟩,⟨λ_=>rfl,rfl,rfl,rfl,rfl⟩,h⟩
theorem S.popK_true{f:S→Bool}(h:σ.popK f=true):∃q r τ,σ.frs=q::r∧Same σ τ σ.n σ.nv r∧f τ=true:=by
 obtain⟨T,n,nv,kc,frs⟩:=σ
 cases frs with
 |nil=>exact zF h
 |cons q r=>exact⟨q,r,⟨T,n,nv,kc,r⟩,rfl,⟨λ_=>rfl,rfl,rfl,rfl,rfl⟩,h⟩
theorem S.varK_true{f:Nat→S→Bool}(h:σ.varK f=true):∃τ,Same σ τ σ.n (σ.nv+1) σ.frs∧f σ.nv τ=true:=by
 obtain⟨T,n,nv,kc,frs⟩:=σ
 have h:natK (Nat.add nv 1) (λm=>f nv ⟨T,n,m,kc,frs⟩)=true:=h
 rw[q1R] at h
 exact⟨⟨T,n,nv+1,kc,frs⟩,⟨λ_=>rfl,rfl,rfl,rfl,rfl⟩,h⟩
theorem S.setLocK_true{i:Nat}{v:SV}{f:S→Bool}(h:σ.setLocK i v f=true):∃a m r τ,σ.frs=(a,m)::r∧Same σ τ σ.n σ.nv ((a,q1e m i v)::r)∧f τ=true:=by
 obtain⟨T,n,nv,kc,frs⟩:=σ
 cases frs with
 |nil=>exact zF h
 |cons q r=>
  obtain⟨a,m⟩:=q
  have h:q3D m i v (λm=>f ⟨T,n,nv,kc,(a,m)::r⟩)=true:=h
  rw[q5A] at h
  exact⟨a,m,r,⟨T,n,nv,kc,(a,q1e m i v)::r⟩,rfl,⟨λ_=>rfl,rfl,rfl,rfl,rfl⟩,h⟩
theorem S.loc_some{i:Nat}{v:SV}(h:σ.loc i=some v):∃q r,σ.frs=q::r∧q0K q.2 i=some v:=by
 obtain⟨T,n,nv,kc,frs⟩:=σ
 cases frs with
 |nil=>exact zN h
 |cons q r=>exact⟨q,r,rfl,h⟩
theorem Rel.head(R:Rel B W fs σ s){q:Nat×Lo}{r:List (Nat×Lo)}(e:σ.frs=q::r):∃fs',fs=q.1::fs'∧r.map (·.1)=fs':=⟨_,by rw[←R.fids,e];rfl,rfl⟩
theorem Rel.frame(R:Rel B W fs σ s){q:Nat×Lo}{r:List (Nat×Lo)}(e:σ.frs=q::r):∃L f,W.ρ[q.1]?=some ⟨L,[]⟩∧s.heap.Ns L f∧NsR W q.2 f:=R.frs q (by rw[e];exact .head _)
theorem Rel.push(R:Rel B W fs σ s){m:Lo}(Z:Same σ τ (σ.n+1) σ.nv ((σ.n,m)::σ.frs)){L:Addr}{f:Str→Option Value}(g:Grows s.heap s'.heap)(h1:s.heap.objs.size≤L)(h2:∃o,s'.heap.get? L=some o)
  (hn:s'.heap.Ns L f) (hr:NsR W m f) (hg:s'.gens=s.gens) (hos:s'.os=s.os):Rel B (W.add ⟨L,[]⟩) (σ.n::fs) τ s':=by
 have nin:σ.n∉fs:=λh=>by
  rw[←R.fids] at h
  refine X1x2 (List.mem_map.mp h) ?_;intro q hq e
  refine X2x2 (R.frs q hq) ?_;intro L' f' z _
  have:=(List.getElem?_eq_some_iff.mp z).1
  rw[R.len] at this
  have e:q.1=σ.n:=e
  lia
 refine R.place g (λu hu=>by(refine Z4 (List.mem_cons.mp hu) ?_ (λh=>?_);rintro rfl);exact⟨h1,h2⟩;cases h) hg hos Z.n Z.nv Z.kc (λk o e=>.inl ⟨λhk=>?_,by rw[←Z.get];exact e⟩)
  (λq hq=>?_) _ (by rw[Z.frs];simp[R.fids]) (λq hq=>?_) (List.nodup_cons.mpr ⟨nin,R.fnd⟩) (λx hx=>by refine Z4 (List.mem_cons.mp hx) (λh=>?_) λh=>?_;exact .inr h;exact .inl h)
 ·rw[Z.get,hk] at e
  exact absurd (R.bound _ _ e) (Nat.lt_irrefl _)
 ·rw[Z.frs] at hq
  refine Z4 (List.mem_cons.mp hq) ?_ (λhq=>?_);rintro rfl
  ·exact .inr ⟨rfl,L,f,rfl,hn,hr.mono (W.le_add _)⟩
  ·exact .inl hq
 ·rw[Z.get]
  refine Z4 (List.mem_cons.mp hq) ?_ (λhq=>?_);rintro rfl
  ·cases e:σ.get σ.n with
   |none=>rfl
   |some o=>exact absurd (R.bound _ _ e) (Nat.lt_irrefl _)
  ·exact R.frn q hq
theorem Rel.pop(R:Rel B W fs σ s){q:Nat×Lo}{r:List (Nat×Lo)}(e:σ.frs=q::r)(Z:Same σ τ σ.n σ.nv r):Rel B W fs.tail τ s:=by
 have hf:fs=q.1::r.map (·.1):=by rw[←R.fids,e];rfl
 refine⟨by rw[Z.n];exact R.len,by rw[Z.nv];exact R.lenv,λk o h=>by rw[Z.n];rw[Z.get] at h;exact R.bound k o h,λk o p h=>by rw[Z.get] at h;exact R.objs k o p h,R.sep,R.own,R.old,R.lim,R.vars,R.gens,R.os,by rw[Z.frs,hf];rfl,
  λx hx=>R.frs x (by rw[e];rw[Z.frs] at hx;exact .tail _ hx),λx hx=>by rw[Z.get];exact R.frn x (by rw[hf] at hx⊢;exact .tail _ hx),?_,R.fz,λq' hq=>⟨by rw[Z.n];exact(R.epn q' hq).1,λh=>(R.epn q' hq).2 (List.mem_of_mem_tail h)⟩,by rw[Z.kc];exact R.eps⟩
 have:=R.fnd
 rw[hf] at this⊢
 exact(List.nodup_cons.mp this).2
theorem Rel.setLoc(R:Rel B W fs σ s){a i:Nat}{m:Lo}{v:SV}{u:Value}{r:List (Nat×Lo)}{L:Addr}{f:Str→Option Value}(e:σ.frs=(a,m)::r)(Z:Same σ τ σ.n σ.nv ((a,q1e m i v)::r))
  (eL:W.ρ[a]?=some ⟨L,[]⟩) (hm:NsR W m f) (hv:VR W v u) (hn:s'.heap.Ns L (λy=>if y=nm i then some u else f y)) (hs:Heap.SameBut L s.heap s'.heap) (hg:s'.gens=s.gens) (hos:s'.os=s.os):Rel B W fs τ s':=by
 have hf:fs=a::r.map (·.1):=by rw[←R.fids,e];rfl
 have nd:a∉r.map (·.1):=by have:=R.fnd;rw[hf] at this;exact(List.nodup_cons.mp this).1
 have ne:∀{j:Nat}{q:Fp},W.ρ[j]?=some q→j≠a→∀x∈q.all,x≠L:=λej hj x hx z=>R.sep _ _ _ _ ej eL hj x hx (z▸.head _)
 have hb:=R.own' eL L (.head _)
 refine⟨by rw[Z.n];exact R.len,by rw[Z.nv];exact R.lenv,λk o h=>by rw[Z.n];rw[Z.get] at h;exact R.bound k o h,λk o p h hp=>?_,R.sep,λq hq x hx=>?_,R.old.step_same hb.1 hs,R.lim.sameBut hs ?_,
  R.vars,hg.trans R.gens,hos.trans R.os,by rw[Z.frs,hf];rfl,λx hx=>?_,λx hx=>by rw[Z.get];exact R.frn x hx,R.fnd,λx hx=>⟨(hs.2 _ λz=>(R.fz x hx).2.2 _ (Zd eL) (z▸.head _)).trans (R.fz x hx).1,(R.fz x hx).2⟩,λq hq=>by rw[Z.n];exact R.epn q hq,λq hq=>?_⟩
 rotate_left 1
 ·refine X0x2 (R.own q hq x hx) ?_;intro c o1;refine X1x1 o1 ?_;clear o1;intro o' e'
  refine⟨c,?_⟩
  by_cases z:x=L
  ·(refine X3x2 hn ?_;clear hn;intro o es ep b _);exact⟨o,z▸b⟩
  ·exact⟨o',(hs.2 x z).trans e'⟩
 rotate_right 1
 ·rw[Z.get] at h
  have hk:k≠a:=λz=>by rw[z,R.frn a (by rw[hf];exact .head _)] at h;exact zN h
  exact(R.objs k o p h hp).mono (Wd.le.refl W) λx hx _ z=>(hs.2 x (ne hp hk x hx)).trans z
 ·intro q
  have h1:=B.low
  have h2:cStatics<20:=by decide
  rw[q] at h2
  exact absurd (Za h2 (Nat.le_trans h1 hb.1)) (Nat.lt_irrefl _)
 ·rw[Z.frs] at hx
  refine Z4 (List.mem_cons.mp hx) ?_ (λhx=>?_);rintro rfl
  ·exact⟨L,_,eL,hn,hm.put hv⟩
  ·refine X2x3 (R.frs x (by rw[e];exact .tail _ hx)) ?_;intro L' f' z o1 d;refine X3x2 o1 ?_;clear o1;intro o es ep b c
   exact⟨L',f',z,⟨o,es,ep,(hs.2 L' (ne z (λq=>nd (q▸List.mem_map_of_mem hx)) _ (.head _))).trans b,c⟩,d⟩
 ·rw[Z.kc]
  refine⟨(R.eps q hq).1,λh=>?_⟩
  refine X3x3 ((R.eps q hq).2 h) ?_;intro p o es x y z
  have hk:q.1≠a:=λz=>(R.epn q hq).2 (by rw[hf,z];exact .head _)
  exact⟨p,o,es,x,(hs.2 p.a (ne x hk _ (.head _))).trans y,z⟩
theorem Rel.var(R:Rel B W fs σ s)(Z:Same σ τ σ.n (σ.nv+1) σ.frs){x:Int}(h0:0≤x)(h1:x<20):Rel B ⟨W.ρ,W.ν++[x],W.κ,W.γ,W.δ⟩ fs τ s:=by
 have le:W.le ⟨W.ρ,W.ν++[x],W.κ,W.γ,W.δ⟩:=⟨List.prefix_refl _,List.prefix_append _ _,λ_ h=>h,rfl,rfl⟩
 exact⟨by rw[Z.n];exact R.len,by rw[Z.nv];simp[R.lenv],λk o h=>by rw[Z.n];rw[Z.get] at h;exact R.bound k o h,λk o p h e=>by rw[Z.get] at h;exact(R.objs k o p h e).mono le λ_ _ _ z=>z,R.sep,R.own,R.old.mono le,R.lim,
  λy hy=>by refine Z4 (List.mem_append.mp hy) (λh=>?_) λh=>?_;exact R.vars y h;rw[List.mem_singleton.mp h];exact⟨h0,h1⟩,R.gens,R.os,by rw[Z.frs];exact R.fids,
  λq hq=>by rw[Z.frs] at hq;exact R.mono_frs le hq λ_ _ _ _ _ e=>e,λq hq=>by rw[Z.get];exact R.frn q hq,R.fnd,R.fz,λq hq=>by rw[Z.n];exact R.epn q hq,by rw[Z.kc];exact R.eps⟩
noncomputable def Wd.fz(W:Wd)(g:List (Addr×Obj)):Wd:=⟨W.ρ,W.ν,g++W.κ,W.γ,W.δ⟩
theorem Wd.le_fz(W:Wd)(g:List (Addr×Obj)):W.le (W.fz g):=⟨List.prefix_refl _,List.prefix_refl _,λ_ h=>List.mem_append_right _ h,rfl,rfl⟩
noncomputable def Wd.its(W:Wd)(g:List (Addr×Obj))(d:List (Nat×Nat×Nat)):Wd:=⟨W.ρ,W.ν,W.κ,g++W.γ,d++W.δ⟩
noncomputable def Wd.out(W:Wd)(V:Wd):Wd:=⟨W.ρ,W.ν,W.κ,V.γ,V.δ⟩
theorem VR.its{g:List (Addr×Obj)}{d:List (Nat×Nat×Nat)}{x:SV}{v:Value}:VR (W.its g d) x v↔VR W x v:=by cases x<;>exact Iff.rfl
theorem VR.out{V:Wd}{x:SV}{v:Value}:VR (W.out V) x v↔VR W x v:=by cases x<;>exact Iff.rfl
theorem All2.congr{α β:Type}{P Q:α→β→Prop}(h:∀a b,P a b→Q a b){l:List α}{m:List β}(x:All2 P l m):All2 Q l m:=x.mono h
theorem OR.same{V:Wd}(h1:V.ρ=W.ρ)(h2:V.ν=W.ν)(h3:V.κ=W.κ){h:Heap}{p:Fp}:∀{o:SO},OR B W h p o→OR B V h p o:=by
 have hv:∀x v,VR W x v→VR V x v:=λx v z=>by
  cases x with
  |int i=>(refine X2x3 z ?_;clear z;intro y t e r b);exact⟨y,t,e,by rw[h2];exact r,b⟩
  |bytes l=>(refine X2x3 z ?_;clear z;intro a t e r b);exact⟨a,t,e,by rw[h2];exact r,b⟩
  |own k=>(refine X1x2 z ?_;clear z;intro p e r);exact⟨p,by rw[h1];exact e,r⟩
  |_=>exact z
 have ho:∀x v,OptR W x v→OptR V x v:=λx v z=>by
  cases x with
  |none=>exact z
  |some x=>(refine X1x2 z ?_;clear z;intro u e r);exact⟨u,e,hv _ _ r⟩
 intro o z
 cases o with
 |list xs=>(refine X2x3 z ?_;clear z;intro vs n e r l);exact⟨vs,n,e,All2.mono hv r,l⟩
 |tuple xs=>(refine X2x3 z ?_;clear z;intro vs n e r l);exact⟨vs,n,e,All2.mono hv r,l⟩
 |dictS es=>(refine X2x3 z ?_;clear z;intro kvs ep e r l);exact⟨kvs,ep,e,r.mono λ_ _ q=>⟨q.1,q.2.1,hv _ _ q.2.2⟩,l⟩
 |dictI es=>(refine X2x3 z ?_;clear z;intro kvs ep e r l);exact⟨kvs,ep,e,r.mono λ_ _ q=>⟨q.1,q.2.1,hv _ _ q.2.2⟩,l⟩
 |barr b=>(refine X1x3 z ?_;clear z;intro l e r q);exact⟨l,e,r.mono λi x q=>(by show i.is V.ν _;rw[h2];exact q),q⟩
 |inst C m=>(refine X3x6 z ?_;clear z;intro dx ds n ec e0 e1 e2 r b);exact⟨dx,ds,n,ec,e0,e1,e2,r.mono λ_ _ q=>⟨q.1,hv _ _ q.2⟩,b⟩
 |cell v=>(refine X2x3 z ?_;clear z;intro o u e d r);exact⟨o,u,e,d,ho _ _ r⟩
 |fn i c=>(refine X2x6 z ?_;clear z;intro o fd e c1 d f o1 r;refine X4x3 o1 ?_;clear o1;intro cc oc vs t c2 c3 c4);exact⟨o,fd,e,c1,d,f,⟨cc,oc,vs,t,c2,by rw[h3];exact c3,c4⟩,λj hj=>by(refine X2x3 (r j hj) ?_;intro a q q1 q2 q3);exact⟨a,q,q1,by rw[h1];exact q2,q3⟩⟩
 |exc C d=>
  refine X4x6 z ?_;clear z;intro t vs sl dct c e1 f1 f2 f3 r
  refine⟨t,vs,sl,dct,c,e1,f1,f2,f3,?_⟩
  cases d with
  |none=>exact r
  |some n=>(refine X1x2 r ?_;clear r;intro q f4 f5);exact⟨q,by rw[h1];exact f4,f5⟩
 |pen b fs=>exact z
 |rng a b=>exact z
 |xd n=>exact z
theorem Rel.still(R:Rel B W fs σ s){V:Wd}(h1:V.ρ=W.ρ)(h2:V.ν=W.ν)(h3:V.κ=W.κ)(hz:∀x∈V.γ,s.heap.get? x.1=some x.2∧B.h₀.objs.size≤x.1∧∀p:Fp,p∈W.ρ→x.1∉p.all)
  (hn:∀q∈V.δ,q.1<σ.n∧q.1∉fs) (he:∀q∈V.δ,q.2.1≤σ.kc∧(σ.kc=q.2.1→∃p o es,W.ρ[q.1]?=some p∧s.heap.get? p.a=some o∧o.data=.dict es q.2.2)):Rel B V fs σ s:=by
 have hv:∀x v,VR W x v→VR V x v:=λx v z=>by
  cases x with
  |int i=>(refine X2x3 z ?_;clear z;intro y t e r b);exact⟨y,t,e,by rw[h2];exact r,b⟩
  |bytes l=>(refine X2x3 z ?_;clear z;intro a t e r b);exact⟨a,t,e,by rw[h2];exact r,b⟩
  |own k=>(refine X1x2 z ?_;clear z;intro p e r);exact⟨p,by rw[h1];exact e,r⟩
  |_=>exact z
 refine⟨by rw[h1];exact R.len,by rw[h2];exact R.lenv,R.bound,λk o p e1 e2=>OR.same h1 h2 h3 (R.objs k o p e1 (by rw[←h1];exact e2)),by rw[h1];exact R.sep,by rw[h1];exact R.own,R.old.of (λg hg=>by rw[h3];exact hg),R.lim,by rw[h2];exact R.vars,R.gens,R.os,R.fids,
  λq hq=>?_,R.frn,R.fnd,λx hx=>?_,hn,by rw[h1];exact he⟩
 ·refine X2x3 (R.frs q hq) ?_;intro L f a b c
  refine⟨L,f,by rw[h1];exact a,b,λi=>?_⟩
  have:=c i
  cases hg:q0K q.2 i with
  |none=>rw[hg] at this;exact this
  |some x=>rw[hg] at this;(refine X1x2 this ?_;clear this;intro u e r);exact⟨u,e,hv _ _ r⟩
 ·rw[h1]
  refine Z4 (List.mem_append.mp hx) (λhx=>?_) λhx=>?_
  ·exact R.fz x (List.mem_append_left _ (by rw[←h3];exact hx))
  ·exact hz x hx
end
section
variable{α β:Type}
inductive PQ(B:Base)(W:Wd)(fs:List Nat)(Q:α→Wd→S→Prop)(a:α)(s:Shared):Prop
 |mk (W':Wd) (σ:S) (l:W.le W') (R:Rel B W' fs σ s) (q:Q a W' σ):PQ B W fs Q a s
theorem PQ.kE5{B:Base}{W:Wd}{fs:List Nat}{Q:α→Wd→S→Prop}{a:α}{s:Shared}{X:Prop}(h:PQ B W fs Q a s)(k:∀W' σ,W.le W'→Rel B W' fs σ s→Q a W' σ→X):X:=by rcases h with ⟨a,b,c,d,e⟩;exact k a b c d e
theorem PQ.weaken{B:Base}{W W':Wd}{fs:List Nat}{Q:α→Wd→S→Prop}{a:α}{s:Shared}(h:W.le W')(x:PQ B W' fs Q a s):PQ B W fs Q a s:=
 by(refine x.kE5 ?_;clear x;intro W₁ σ a b c);exact⟨W₁,σ,h.trans a,b,c⟩
inductive Fly(B:Base)(W:Wd)(h:Heap)(e fa C:Addr):Prop
 |mk (o:_) (vs:_) (t:_) (h0_:h.get? e=some o) (h1_:o.cls=.ref C) (h2_:o.data=.fields vs) (h3_:vs[0]?=some t) (h4_:(vs[1]?=some .none∨∃T oT ts,vs[1]?=some (.ref T)∧T≠e∧B.h₀.objs.size≤T∧(∀p:Fp,p∈W.ρ→T∉p.all)∧(∀g∈W.still,g.1≠T)∧h.get? T=some oT∧oT.data=.fields ts∧(ts[3]?=some .none∨ts[3]?=some (rawInt fa)))):Fly B W h e fa C
theorem Fly.kE8{B:Base}{W:Wd}{h:Heap}{e fa C:Addr}{X_:Prop}(h_:Fly B W h e fa C)(k_:∀(o:_)(vs:_)(t:_)(h0_:h.get? e=some o)(h1_:o.cls=.ref C)(h2_:o.data=.fields vs) (h3_:vs[0]?=some t) (h4_:(vs[1]?=some .none∨∃T oT ts,vs[1]?=some (.ref T)∧T≠e∧B.h₀.objs.size≤T∧(∀p:Fp,p∈W.ρ→T∉p.all)∧(∀g∈W.still,g.1≠T)∧h.get? T=some oT∧oT.data=.fields ts∧(ts[3]?=some .none∨ts[3]?=some (rawInt fa)))),X_):X_:=Fly.rec (motive:=λ_=>X_) k_ h_
inductive QE(B:Base)(W:Wd)(fs:List Nat)(fa:Addr)(kx:KX)(v:Value)(s:Shared):Prop
 |mk (W':Wd) (σ:S) (j:Nat) (p:Fp) (C:Addr) (l:W.le W') (R:Rel B W' fs σ s) (h₁:W'.ρ[j]?=some p) (h₂:σ.get j=none) (h₃:j∉fs) (h₄:v=.ref p.a) (h₅:Fly B W' s.heap p.a fa C) (h₆:kx C σ=true):QE B W fs fa kx v s
theorem QE.kE13{B:Base}{W:Wd}{fs:List Nat}{fa:Addr}{kx:KX}{v:Value}{s:Shared}{X:Prop}(h:QE B W fs fa kx v s)(k:∀W' σ j p C,W.le W'→Rel B W' fs σ s→W'.ρ[j]?=some p→σ.get j=none→j∉fs→v=.ref p.a→Fly B W' s.heap p.a fa C→kx C σ=true→X):X:=by rcases h with ⟨a,b,c,d,e,f,g,i,j,l,m,n,o⟩;exact k a b c d e f g i j l m n o
theorem QE.weaken{B:Base}{W W':Wd}{fs:List Nat}{fa:Addr}{kx:KX}{v:Value}{s:Shared}(h:W.le W')(x:QE B W' fs fa kx v s):QE B W fs fa kx v s:=
 by(refine x.kE13 ?_;clear x;intro W₁ σ j p C a b c d e f g i);exact⟨W₁,σ,j,p,C,h.trans a,b,c,d,e,f,g,i⟩
inductive QV(k:KV)(v:Value)(W:Wd)(σ:S):Prop
 |mk (x:SV) (h:VR W x v) (e:k x σ=true):QV k v W σ
theorem QV.kE3{k:KV}{v:Value}{W:Wd}{σ:S}{X:Prop}(h:QV k v W σ)(f:∀x,VR W x v→k x σ=true→X):X:=by rcases h with ⟨a,b,c⟩;exact f a b c
theorem PQ.kE7{B:Base}{W:Wd}{fs:List Nat}{k:KV}{v:Value}{s:Shared}{X:Prop}(h:PQ B W fs (QV k) v s)(f:∀W' σ,W.le W'→Rel B W' fs σ s→∀x,VR W' x v→k x σ=true→X):X:=by rcases h with ⟨a,b,c,d,e,g,i⟩;exact f a b c d e g i
noncomputable def QU(k:KN){α:Type}:α→Wd→S→Prop:=λ_ _ σ=>k σ=true
variable{B:Base}{A:Around}{fs:List Nat}{fa:Addr}{kx:KX}{s:Shared}
theorem nest{W:Wd}{t:Sem α}{u:α→Sem β}{Q:α→Wd→S→Prop}{Q':β→Wd→S→Prop}(h:wpG (model B.prog B.w) A t (PQ B W fs Q) (QE B W fs fa kx) s)
  (k:∀a W' σ s',W.le W'→Rel B W' fs σ s'→Q a W' σ→wpG (model B.prog B.w) A (u a) (PQ B W' fs Q') (QE B W' fs fa kx) s') :
  wpG (model B.prog B.w) A t (λa s₁=>wpG (model B.prog B.w) A (u a) (PQ B W fs Q') (QE B W fs fa kx) s₁) (QE B W fs fa kx) s:=
 q05 h (λa s₁ oY2x0=>by(refine oY2x0.kE5 ?_;clear oY2x0;intro W' σ l r q);exact q05 (k a W' σ s₁ l r q) (λ_ _ z=>z.weaken l) λ_ _ z=>z.weaken l) λ_ _ z=>z
theorem widen{W W':Wd}{t:Sem α}{Q:α→Wd→S→Prop}(l:W.le W')(h:wpG (model B.prog B.w) A t (PQ B W' fs Q) (QE B W' fs fa kx) s):wpG (model B.prog B.w) A t (PQ B W fs Q) (QE B W fs fa kx) s:=
 q05 h (λ_ _ z=>z.weaken l) λ_ _ z=>z.weaken l
theorem q0D{W:Wd}{t:Sem α}{Q:α→Wd→S→Prop}{P:α→Shared→Prop}(h:wpG (model B.prog B.w) A t (PQ B W fs Q) (QE B W fs fa kx) s)
  (k:∀a W' σ s',W.le W'→Rel B W' fs σ s'→Q a W' σ→P a s'):wpG (model B.prog B.w) A t P (QE B W fs fa kx) s:=
 q05 h (λa s₁ oY1x0=>by(refine oY1x0.kE5 ?_;clear oY1x0;intro W' σ l r q);exact k a W' σ s₁ l r q) λ_ _ z=>z
theorem PQ.here{W:Wd}{σ:S}{Q:α→Wd→S→Prop}{a:α}(R:Rel B W fs σ s)(q:Q a W σ):PQ B W fs Q a s:=⟨W,σ,.refl W,R,q⟩
theorem PQ.tok{W:Wd}{σ:S}{Q:α→Wd→S→Prop}{a:α}{t:Tok}(R:Rel B W fs σ s)(q:Q a W σ):PQ B W fs Q a {s with toks:=t}:=⟨W,σ,.refl W,R.toks,q⟩
end
structure Fx where
 A:Around
 env:Env
 fa:Addr
structure AOk(B:Base)(n:Nat)(W:Wd)(fs:List Nat)(A:Around):Prop where
 handled:A.handled=none
 depth:A.depth+2*n≤900
 units:A.units+20*n≤9000
 guards:A.guards=some []
 frames:∃FE,A.frames=some FE∧∀e∈FE,e.scope.kind≠.module∧∃i∈fs,∃f,W.ρ[i]?=some ⟨f,[]⟩∧e.frame=some f
theorem AOk.mono{B:Base}{n:Nat}{W W':Wd}{fs:List Nat}{A:Around}(h:W.le W')(x:AOk B n W fs A):AOk B n W' fs A:=
 ⟨x.handled,x.depth,x.units,x.guards,by(refine X1x2 x.frames ?_;intro FE a b);exact⟨FE,a,λe he=>by(refine X0x2 (b e he) ?_;intro k o1;refine X1x1 o1 ?_;clear o1;intro i o2;refine X0x2 o2 ?_;clear o2;intro hi o3;refine X1x2 o3 ?_;clear o3;intro f c d);exact⟨k,i,hi,f,q0a h.ρ c,d⟩⟩⟩
noncomputable def Keeps(B:Base)(fv:Value)(s:Shared):Prop:=∀(A:Around)(Q:Keeper→Shared→Prop)(E:Value→Shared→Prop),A.handled=none→(∀k,Q k s)→wpAny (model B.prog B.w) A (keeperOf fv) Q E s
noncomputable def q38(B:Base)(n:Nat)(call:q1A):Prop:=∀(f:SV)(xs:List SV)(σ:S)(kx:KX)(kv:KV)(W:Wd)(fs:List Nat)(A:Around)(fv:Value)(vs:List Value)(s:Shared)(fa:Addr),
 AOk B n W fs A→Rel B W fs σ s→VR W f fv→VRs W xs vs→call f xs σ kx kv=true→
  Keeps B fv s∧wpG (model B.prog B.w) A (PySem.call fv vs) (PQ B W fs (QV kv)) (QE B W fs fa kx) s
structure Ok(B:Base)(n:Nat)(sc:Scope)(W:Wd)(fs:List Nat)(c:Cx)(X:Fx):Prop where
 esc:X.env.scope=sc
 kind:sc.kind=.function
 glo:X.env.globals=mainGlobals
 bui:X.env.builtins=builtinsNs
 frame:X.env.frame=some X.fa
 loc:∃fr fs',fs=fr::fs'∧W.ρ[fr]?=some ⟨X.env.locals,[]⟩
 fao:∃i∈fs,W.ρ[i]?=some ⟨X.fa,[]⟩
 around:AOk B n W fs X.A
 top:∃e FE,X.A.frames=some (e::FE)∧e.frame=some X.fa
 cells:∀i,sc.names.lookup (nm i)=some .cell∨sc.names.lookup (nm i)=some .free→∃a q,alook c.cells i=some a∧W.ρ[a]?=some q∧X.env.cells.lookup (nm i)=some q.a
 cod:∀a,scode sc=some a→X.env.code=.ref a∧X.env.qual=squal a++".<locals>."
 call:q38 B n c.call
theorem Ok.mono{B:Base}{n:Nat}{sc:Scope}{W W':Wd}{fs:List Nat}{c:Cx}{X:Fx}(h:W.le W')(x:Ok B n sc W fs c X):Ok B n sc W' fs c X:=
 ⟨x.esc,x.kind,x.glo,x.bui,x.frame,(by(refine X2x2 x.loc ?_;intro fr fs' a b);exact⟨fr,fs',a,q0a h.ρ b⟩),(by(refine X1x2 x.fao ?_;intro i hi b);exact⟨i,hi,q0a h.ρ b⟩),x.around.mono h,x.top,
  λi hi=>(by(refine X2x3 (x.cells i hi) ?_;intro a q e1 e2 e3);exact⟨a,q,e1,q0a h.ρ e2,e3⟩),x.cod,x.call⟩
noncomputable def SX(B:Base)(sc:Scope)(x:XC)(e:Expr):Prop:=∀(n:Nat)(W:Wd)(fs:List Nat)(c:Cx)(X:Fx)(σ:S)(s:Shared)(kv:KV),Ok B n sc W fs c X→Rel B W fs σ s→x c σ kv=true→
 wpG (model B.prog B.w) X.A (eval e X.env) (PQ B W fs (QV kv)) (QE B W fs X.fa c.kx) s
inductive QVs(k:List SV→S→Bool)(v:List Value)(W:Wd)(σ:S):Prop
 |mk (x:List SV) (h:VRs W x v) (e:k x σ=true):QVs k v W σ
theorem QVs.kE3{k:List SV→S→Bool}{v:List Value}{W:Wd}{σ:S}{X:Prop}(h:QVs k v W σ)(f:∀x,VRs W x v→k x σ=true→X):X:=by rcases h with ⟨a,b,c⟩;exact f a b c
noncomputable def SXs(B:Base)(sc:Scope)(x:XsC)(es:List Expr):Prop:=∀(n:Nat)(W:Wd)(fs:List Nat)(c:Cx)(X:Fx)(σ:S)(s:Shared)(kv:List SV→S→Bool)(pos:Pos),Ok B n sc W fs c X→Rel B W fs σ s→x c σ kv=true→
 wpG (model B.prog B.w) X.A (spliced (backTo pos (starEach es X.env))) (PQ B W fs (QVs kv)) (QE B W fs X.fa c.kx) s
noncomputable def QB(kt kf:KN):Bool→Wd→S→Prop:=λb _ σ=>if b then kt σ=true else kf σ=true
noncomputable def ST(B:Base)(sc:Scope)(x:TC)(e:Expr):Prop:=∀(n:Nat)(W:Wd)(fs:List Nat)(c:Cx)(X:Fx)(σ:S)(s:Shared)(kt kf:KN),Ok B n sc W fs c X→Rel B W fs σ s→x c σ kt kf=true→
 wpG (model B.prog B.w) X.A (isTrue e X.env (eval e X.env)) (PQ B W fs (QB kt kf)) (QE B W fs X.fa c.kx) s
noncomputable def STs(B:Base)(sc:Scope)(x:TC)(op:BoolOp)(es:List Expr):Prop:=∀(n:Nat)(W:Wd)(fs:List Nat)(c:Cx)(X:Fx)(σ:S)(s:Shared)(kt kf:KN),Ok B n sc W fs c X→Rel B W fs σ s→x c σ kt kf=true→
 wpG (model B.prog B.w) X.A (allTrue op es X.env) (PQ B W fs (QB kt kf)) (QE B W fs X.fa c.kx) s
noncomputable def SA(B:Base)(sc:Scope)(a:AC)(e:Expr):Prop:=∀(n:Nat)(W:Wd)(fs:List Nat)(c:Cx)(X:Fx)(σ:S)(s:Shared)(x:SV)(v:Value)(k:KN),Ok B n sc W fs c X→Rel B W fs σ s→VR W x v→a x c σ k=true→
 wpG (model B.prog B.w) X.A (assign e X.env v) (PQ B W fs (QU k)) (QE B W fs X.fa c.kx) s
noncomputable def SAs(B:Base)(sc:Scope)(a:AsC)(es:List Expr):Prop:=∀(n:Nat)(W:Wd)(fs:List Nat)(c:Cx)(X:Fx)(σ:S)(s:Shared)(xs:List SV)(vs:List Value)(k:KN),Ok B n sc W fs c X→Rel B W fs σ s→VRs W xs vs→a xs c σ k=true→
 wpG (model B.prog B.w) X.A (assignInOrder ((assignEach es X.env).map (·.2)) vs) (PQ B W fs (QU k)) (QE B W fs X.fa c.kx) s
noncomputable def QF(kr:KV)(kn:KN):Flow→Wd→S→Prop:=λf W σ=>match f with
 |.ret v=>QV kr v W σ
 |.next=>kn σ=true
 |_=>False
noncomputable def SS(B:Base)(sc:Scope)(x:SC)(st:Stmt):Prop:=∀(n:Nat)(W:Wd)(fs:List Nat)(c:Cx)(X:Fx)(σ:S)(s:Shared)(kr:KV)(kn:KN),Ok B n sc W fs c X→Rel B W fs σ s→x c σ kr kn=true→
 wpG (model B.prog B.w) X.A (exec st X.env) (PQ B W fs (QF kr kn)) (QE B W fs X.fa c.kx) s
noncomputable def SSs(B:Base)(sc:Scope)(x:SC)(l:List Stmt):Prop:=∀(n:Nat)(W:Wd)(fs:List Nat)(c:Cx)(X:Fx)(σ:S)(s:Shared)(kr:KV)(kn:KN),Ok B n sc W fs c X→Rel B W fs σ s→x c σ kr kn=true→
 wpG (model B.prog B.w) X.A (execs l X.env) (PQ B W fs (QF kr kn)) (QE B W fs X.fa c.kx) s
noncomputable def BinS(B:Base)(f:S→SV→SV→KV→Bool)(op:Operator):Prop:=∀(n:Nat)(W:Wd)(fs:List Nat)(A:Around)(σ:S)(s:Shared)(x y:SV)(a b:Value)(kv:KV)(E:Value→Shared→Prop),
 AOk B n W fs A→Rel B W fs σ s→VR W x a→VR W y b→f σ x y kv=true→wpAny (model B.prog B.w) A (binaryOp op a b) (PQ B W fs (QV kv)) E s
noncomputable def CmpS(B:Base)(f:S→SV→SV→Option Bool)(op:CmpOp):Prop:=∀(n:Nat)(W:Wd)(fs:List Nat)(A:Around)(σ:S)(s:Shared)(x y:SV)(a b:Value)(r:Bool)(E:Value→Shared→Prop),
 AOk B n W fs A→Rel B W fs σ s→VR W x a→VR W y b→f σ x y=some r→wpAny (model B.prog B.w) A (compareOp op a b) (λv s'=>v=.bool r∧Rel B W fs σ s') E s
noncomputable def TruS(B:Base):Prop:=∀(n:Nat)(W:Wd)(fs:List Nat)(A:Around)(σ:S)(s:Shared)(x:SV)(a:Value)(r:Bool)(E:Value→Shared→Prop),
 AOk B n W fs A→Rel B W fs σ s→VR W x a→tru σ x=some r→wpAny (model B.prog B.w) A (truthy a) (λb s'=>b=r∧Rel B W fs σ s') E s
section
variable{B:Base}{sc:Scope}
theorem q26{k:KV}{σ:S}{o:Option SV}(h:q9S k σ o=true):∃v,o=some v∧k v σ=true:=q6p h
theorem q4w{k:KV}{σ:S}{o:Option Bool}(h:qe0 k σ o=true):∃b,o=some b∧k (.bool b) σ=true:=q6p h
theorem q9T{kt kf:KN}{σ:S}{o:Option Bool}(h:fork kt kf σ o=true):∃b,o=some b∧(if b then kt σ=true else kf σ=true):=by
 refine q00 h ?_;intro b e h
 refine⟨b,e,?_⟩
 cases b<;>exact h
theorem q0G{kt kf:KN}{σ:S}{o:Option Bool}{X:Prop}(h:fork kt kf σ o=true)(g:∀b,o=some b→(if b then kt σ=true else kf σ=true)→X):X:=X1x2 (q9T h) g
theorem q2y{o:Option Bool}{b:Bool}(h:notO o=some b):o=some (!b):=by
 cases o with
 |none=>exact zN h
 |some c=>cases c<;>(refine zI h ?_;clear h;rintro rfl)<;>rfl
theorem q13{W:Wd}{i:Int}{t:Tok}(h:i.natAbs<2305843009213693952):VR W (.int (.lit i)) (.int i t):=⟨_,_,rfl,rfl,h⟩
theorem q3r{W:Wd}{l:List Nat}{t:Tok}(h:l.length≤4096):VR W (.str l) (.str ⟨l.toArray⟩ t):=⟨_,rfl,h⟩
theorem q3s{W:Wd}{b:Bool}:VR W (.bool b) (.bool b):=rfl
theorem q1I{W:Wd}:VR W .none .none:=rfl
theorem q12{W:Wd}{k:Nat}{p:Fp}(h:W.ρ[k]?=some p):VR W (.own k) (.ref p.a):=⟨p,h,rfl⟩
theorem qv{k:KV}{v:Value}{W:Wd}{σ:S}{x:SV}(h:VR W x v)(e:k x σ=true):QV k v W σ:=⟨x,h,e⟩
theorem qc4{i:Int}{k:Nat}{pos:Pos}(h:i.natAbs<2305843009213693952):SX B sc (cC (.int (.lit i))) (.Constant (.int i) k pos):=λ_ _ _ _ _ _ _ _ _ R e=>
 toG (wpAny_Constant_int (PQ.tok R (qv (q13 h) e)))
theorem qeD{l:List Nat}{x:Str}{k:Nat}{pos:Pos}(hx:x=⟨l.toArray⟩)(h:l.length≤4096):SX B sc (cC (.str l)) (.Constant (.str x) k pos):=λ_ _ _ _ _ _ _ _ _ R e=>
 toG (wpAny_Constant_str (PQ.tok R (qv (hx▸q3r h) e)))
theorem qcP{b:Bool}{k:Nat}{pos:Pos}:SX B sc (cC (.bool b)) (.Constant (.bool b) k pos):=λ_ _ _ _ _ _ _ _ _ R e=>toG (wpAny_Constant_bool (PQ.here R (qv q3s e)))
theorem qcN{k:Nat}{pos:Pos}:SX B sc (cC .none) (.Constant .none k pos):=λ_ _ _ _ _ _ _ _ _ R e=>toG (wpAny_Constant_none (PQ.here R (qv q1I e)))
theorem q3J{W:Wd}{l:List SI}{q:List UInt8}(h:q23 l q=true):All2 (λ(i:SI)(x:UInt8)=>i.is W.ν (x.toNat:Int)) l q:=by
 induction l generalizing q with
 |nil=>cases q with
  |nil=>exact .nil
  |cons=>exact nomatch h
 |cons i r ih=>cases q with
  |nil=>exact nomatch h
  |cons b q=>cases i with
   |lit i=>
    have h:=(Bool.and_eq_true _ _).mp (show (decide (i=(b.toNat:Int))&&q23 r q)=true from h)
    exact .cons (of_decide_eq_true h.1).symm (ih h.2)
   |var=>exact nomatch h
theorem qaV{l:List SI}{q:List UInt8}{k:Nat}{pos:Pos}(hx:q23 l q=true)(h:l.length≤4096):SX B sc (cC (.bytes l)) (.Constant (.bytes q) k pos):=λ_ _ _ _ _ _ _ _ _ R e=>by
 refine λΓ p _ _=>?_
 exact PQ.tok R (qv (x:=.bytes l) ⟨_,_,rfl,q3J hx,h⟩ e)
theorem qc3{i:Nat}{x:Str}{pos:Pos}(hl:sc.names.lookup x=some .local)(hx:nm i=x)(hd:(x==("__debug__":Str))=false):SX B sc (cLoc i) (.Name x pos):=λn W fs c X σ s kv O R e=>by
 refine X1x2 (q26 e) ?_;intro v h1 h2
 refine X2x2 (S.loc_some h1) ?_;intro q r h3 h4
 refine X2x3 (R.frame h3) ?_;intro L f h5 h6 h7
 refine X2x2 O.loc ?_;intro fr fs' h8 h9
 refine X1x2 (R.head h3) ?_;intro fs'' h10 _
 have:q.1=fr:=by rw[h8] at h10;cases h10;rfl
 rw[this,h9] at h5
 cases h5
 have hv:=h7 i
 rw[h4,hx] at hv
 refine X1x2 hv ?_;clear hv;intro u hu hr
 exact toG<|wpAny_Name (wpAny_loadName_local (by rw[O.esc];exact O.kind) (by unfold Env.kindOf;rw[O.esc];exact hl) h6 hu (PQ.here R ⟨v,hr,h2⟩)) hd
theorem q8o{σ:S}{o:Option Nat}{v:SV}(h:qgB σ o=some v):∃c,o=some c∧σ.get c=some (.cell (some v)):=by
 refine q02 h ?_;intro c a h
 refine q02 h ?_;intro w h b
 refine q02 h ?_;intro q d h
 have:=q64 h
 have b:w=some v:=b
 subst b this
 exact⟨c,a,d⟩
theorem Cx.cel_eq{c:Cx}{i:Nat}:c.cel i=alook c.cells i:=by cases c;rfl
theorem Cx.x_eq{c:Cx}:c.x=c.kx:=by cases c;rfl
theorem Cx.cal_eq{c:Cx}:c.cal=c.call:=by cases c;rfl
theorem qc5{i:Nat}{x:Str}{pos:Pos}(hl:(sc.names.lookup x=some .cell∨sc.names.lookup x=some .free))(hx:nm i=x)(hd:(x==("__debug__":Str))=false)
  (hn:(x==("__classdict__":Str))=false):SX B sc (cCel i) (.Name x pos):=λn W fs c X σ s kv O R e=>by
 refine X1x2 (q26 e) ?_;intro v h1 h2
 refine X1x2 (q8o h1) ?_;intro a h3 h4
 rw[Cx.cel_eq] at h3
 subst hx
 refine X2x3 (O.cells i hl) ?_;intro a' q h5 h6 h7
 rw[h3] at h5;(refine zI h5 ?_;clear h5;rintro rfl)
 have h9:=R.objs _ _ _ h4 h6
 refine X2x3 h9 ?_;clear h9;intro o u h10 h11 h12
 refine X1x2 h12 ?_;clear h12;intro y o1 hy;subst o1
 have hk:X.env.scope.kind=.function:=by rw[O.esc];exact O.kind
 refine toG (wpAny_Name ?_ hd)
 refine Z4 hl (λhl=>?_) λhl=>?_
 ·exact wpAny_loadName_cell hk (by unfold Env.kindOf;rw[O.esc];exact hl) h7 ⟨o,h10,h11⟩ (PQ.here R ⟨v,hy,h2⟩)
 ·exact wpAny_loadName_free hk (by unfold Env.kindOf;rw[O.esc];exact hl) h7 ⟨o,h10,h11⟩ (PQ.here R ⟨v,hy,h2⟩) hn
theorem q2N:SXs B sc xNil []:=λ_ _ _ _ _ _ _ _ _ _ R e=>q0P (PQ.here R ⟨[],.nil,e⟩)
theorem q14{x:XC}{r:XsC}{e:Expr}{es:List Expr}(hx:SX B sc x e)(hr:SXs B sc r es)(he:∀env,starEach (e::es) env=(false,eval e env)::starEach es env) :
  SXs B sc (q4H x r) (e::es):=λn W fs c X σ s kv pos O R h=>by
 refine q0F (he _) (q0D (hx n W fs c X σ s _ O R h) λv W₁ σ₁ s₁ l R₁ oY13x0=>?_)
 refine oY13x0.kE3 ?_;clear oY13x0;intro y hy h₁
 refine q05 (hr n W₁ fs c X σ₁ s₁ _ pos (O.mono l) R₁ h₁) (λvs s₂ oY12x0=>?_) λ_ _ z=>z.weaken l
 obtain⟨W₂,σ₂,l₂,R₂,xs,hxs,h₂⟩:=oY12x0
 exact⟨W₂,σ₂,l.trans l₂,R₂,y::xs,.cons (hy.mono l₂) hxs,h₂⟩
theorem qeQ{f:S→SV→SV→KV→Bool}{op:Operator}{x y:XC}{l r:Expr}{pos:Pos}(hf:BinS B f op)(hx:SX B sc x l)(hy:SX B sc y r):SX B sc (cBin f x y) (.BinOp l op r pos):=λn W fs c X σ s kv O R h=>by
 refine q0B (q0D (hx n W fs c X σ s _ O R h) λa W₁ σ₁ s₁ l₁ R₁ oY11x0=>?_)
 refine oY11x0.kE3 ?_;clear oY11x0;intro xa ha h₁
 refine q05 (hy n W₁ fs c X σ₁ s₁ _ (O.mono l₁) R₁ h₁) (λb s₂ oY10x0=>?_) λ_ _ z=>z.weaken l₁
 refine oY10x0.kE7 ?_;clear oY10x0;intro W₂ σ₂ l₂ R₂ xb hb h₂
 exact q05 (toG (hf n W₂ fs X.A σ₂ s₂ _ _ a b kv _ (O.mono (l₁.trans l₂)).around R₂ (ha.mono l₂) hb h₂)) (λ_ _ z=>z.weaken (l₁.trans l₂)) λ_ _ z=>z
theorem qeP{f:S→SV→SV→Option Bool}{op:CmpOp}{x y:XC}{l r:Expr}{pos:Pos}(hf:CmpS B f op)(hx:SX B sc x l)(hy:SX B sc y r)(hm:behindInMarks op r=false):SX B sc (cCmp f x y) (.Compare l [op] [r] pos):=λn W fs c X σ s kv O R h=>by
 refine q30 hm (q0D (hx n W fs c X σ s _ O R h) λa W₁ σ₁ s₁ l₁ R₁ oY9x0=>?_)
 refine oY9x0.kE3 ?_;clear oY9x0;intro xa ha h₁
 refine q05 (hy n W₁ fs c X σ₁ s₁ _ (O.mono l₁) R₁ h₁) (λb s₂ oY8x0=>?_) λ_ _ z=>z.weaken l₁
 refine oY8x0.kE7 ?_;clear oY8x0;intro W₂ σ₂ l₂ R₂ xb hb h₂
 refine X1x2 (q4w h₂) ?_;intro r e h₂
 refine q05 (toG (hf n W₂ fs X.A σ₂ s₂ _ _ a b r _ (O.mono (l₁.trans l₂)).around R₂ (ha.mono l₂) hb e)) (λv s₃ oY7x0=>?_) λ_ _ z=>z
 refine X0x2 oY7x0 ?_;clear oY7x0;intro e R₃
 subst e
 exact⟨W₂,σ₂,l₁.trans l₂,R₃,qv q3s h₂⟩
theorem qeG(hT:TruS B){x:XC}{e:Expr}{pos:Pos}(hx:SX B sc x e):SX B sc (cNot x) (.UnaryOp .Not e pos):=λn W fs c X σ s kv O R h=>by
 refine q3o (q0D (hx n W fs c X σ s _ O R h) λa W₁ σ₁ s₁ l₁ R₁ oP=>toG (not_value ?_))
 refine oP.kE3 ?_;clear oP;intro xa ha h₁
 refine X1x2 (q4w h₁) ?_;intro r e h₁
 refine wpAny_mono (hT n W₁ fs X.A σ₁ s₁ _ a _ _ (O.mono l₁).around R₁ ha (q2y e)) (λb s₃ oY5x0=>?_) λ_ _ z=>z
 refine X0x2 oY5x0 ?_;clear oY5x0;intro e R₃
 subst e
 exact⟨W₁,σ₁,l₁,R₃,qv (by rw[Bool.not_not];exact q3s) h₁⟩
theorem qc7(hT:TruS B){x y:XC}{l r:Expr}{pos:Pos}(hx:SX B sc x l)(hy:SX B sc y r):SX B sc (cAnd x y) (.BoolOp .And [l,r] pos):=λn W fs c X σ s kv O R h=>by
 refine q5n (q0D (hx n W fs c X σ s _ O R h) λa W₁ σ₁ s₁ l₁ R₁ oY4x0=>?_)
 refine oY4x0.kE3 ?_;clear oY4x0;intro xa ha h₁
 refine q0G h₁ ?_;intro t e h₁
 refine q05 (toG (hT n W₁ fs X.A σ₁ s₁ _ a _ _ (O.mono l₁).around R₁ ha e)) (λb s₃ oY3x0=>?_) λ_ _ z=>z
 refine X0x2 oY3x0 ?_;clear oY3x0;intro e R₃
 subst e
 cases b with
 |true=>exact q05 (hy n W₁ fs c X σ₁ s₃ _ (O.mono l₁) R₃ h₁) (λ_ _ z=>z.weaken l₁) λ_ _ z=>z.weaken l₁
 |false=>exact⟨W₁,σ₁,l₁,R₃,_,ha,h₁⟩
theorem qgV(hT:TruS B){x y:XC}{l r:Expr}{pos:Pos}(hx:SX B sc x l)(hy:SX B sc y r):SX B sc (cOr x y) (.BoolOp .Or [l,r] pos):=λn W fs c X σ s kv O R h=>by
 refine q5n (q0D (hx n W fs c X σ s _ O R h) λa W₁ σ₁ s₁ l₁ R₁ oY2x0=>?_)
 refine oY2x0.kE3 ?_;clear oY2x0;intro xa ha h₁
 refine q0G h₁ ?_;intro t e h₁
 refine q05 (toG (hT n W₁ fs X.A σ₁ s₁ _ a _ _ (O.mono l₁).around R₁ ha e)) (λb s₃ oY1x0=>?_) λ_ _ z=>z
 refine X0x2 oY1x0 ?_;clear oY1x0;intro e R₃
 subst e
 cases b with
 |false=>exact q05 (hy n W₁ fs c X σ₁ s₃ _ (O.mono l₁) R₃ h₁) (λ_ _ z=>z.weaken l₁) λ_ _ z=>z.weaken l₁
 |true=>exact⟨W₁,σ₁,l₁,R₃,_,ha,h₁⟩
theorem qeK{t:TC}{x y:XC}{e l r:Expr}{pos:Pos}(ht:ST B sc t e)(hx:SX B sc x l)(hy:SX B sc y r):SX B sc (cIfe t x y) (.IfExp e l r pos):=λn W fs c X σ s kv O R h=>by
 refine q8H (q0D (ht n W fs c X σ s _ _ O R h) λb W₁ σ₁ s₁ l₁ R₁ h₁=>?_)
 cases b with
 |true=>exact widen l₁ (hx n W₁ fs c X σ₁ s₁ _ (O.mono l₁) R₁ h₁)
 |false=>exact widen l₁ (hy n W₁ fs c X σ₁ s₁ _ (O.mono l₁) R₁ h₁)
end
theorem q0A{α:Type}{l:List α}(h:small l=true):l.length≤4096:=by
 have:=Z8 h
 rwa[q0o] at this
theorem q0i{n:Nat}(h:n≤4096):n≤sizeLine:=Nat.le_trans h (by decide)
section
variable{B:Base}{W W':Wd}{fs:List Nat}{σ τ:S}{s s':Shared}
theorem Rel.push1(R:Rel B W fs σ s){o:SO}(A:Add σ o τ){ob:Obj}{t:Tok}(hf:ob.isFreed=false)
  (ho:∀h:Heap,h.get? s.heap.objs.size=some ob→OR B (W.add ⟨s.heap.objs.size,[]⟩) h ⟨s.heap.objs.size,[]⟩ o):Rel B (W.add ⟨s.heap.objs.size,[]⟩) fs τ {s with heap:=s.heap.push ob,toks:=t}:=
 R.new1 A (Grows.push s.heap ob) (Nat.le_refl _) ⟨_,Zb _ hf⟩ (ho _ (Zb _ hf)) rfl rfl
theorem PQ.new1(R:Rel B W fs σ s){o:SO}(A:Add σ o τ){ob:Obj}{t:Tok}{kv:KV}(hf:ob.isFreed=false)
  (ho:∀h:Heap,h.get? s.heap.objs.size=some ob→OR B (W.add ⟨s.heap.objs.size,[]⟩) h ⟨s.heap.objs.size,[]⟩ o) (e:kv (.own σ.n) τ=true) :
  PQ B W fs (QV kv) (.ref s.heap.objs.size) {s with heap:=s.heap.push ob,toks:=t}:=
 ⟨_,τ,W.le_add _,R.push1 A hf ho,qv (q12 (R.add_at ⟨s.heap.objs.size,[]⟩)) e⟩
theorem PQ.newTuple(R:Rel B W fs σ s){xs:List SV}{vs:List Value}{t:Tok}{kv:KV}(h:VRs W xs vs)(e:σ.addTK xs (λn σ=>kv (.own n) σ)=true) :
  vs.length≤sizeLine∧PQ B W fs (QV kv) (.ref s.heap.objs.size) {s with heap:=s.heap.push {cls:=.type "tuple",data:=.seq vs.toArray},toks:=t}:=by
 refine q06 e ?_;intro h1 h2
 refine S.addK_true_E3 h2 ?_;intro τ A e
 have hl:=q0A h1
 exact⟨by rw[h.length];exact q0i hl,PQ.new1 R A rfl (λh' g=>⟨vs,0,g,h.mono (W.le_add _),hl⟩) e⟩
theorem PQ.newList(R:Rel B W fs σ s){xs:List SV}{vs:List Value}{t:Tok}{kv:KV}(h:VRs W xs vs)(e:σ.addLK xs (λn σ=>kv (.own n) σ)=true) :
  vs.length≤sizeLine∧PQ B W fs (QV kv) (.ref s.heap.objs.size) {s with heap:=s.heap.push {cls:=.type "list",data:=.seq vs.toArray},toks:=t}:=by
 refine q06 e ?_;intro h1 h2
 refine S.addK_true_E3 h2 ?_;intro τ A e
 have hl:=q0A h1
 exact⟨by rw[h.length];exact q0i hl,PQ.new1 R A rfl (λh' g=>⟨vs,0,g,h.mono (W.le_add _),hl⟩) e⟩
theorem VRs.base{l:List SV}{l':List Value}(h:VRs ⟨[],[],[],[],[]⟩ l l')(W:Wd):VRs W l l':=by
 refine All2.mono (λa b z=>?_) h
 cases a with
 |int i=>
  refine X2x3 z ?_;clear z;intro x t e r b
  refine⟨x,t,e,?_,b⟩
  cases i with
  |lit i=>exact r
  |var k c=>(refine X1x2 r ?_;clear r;intro y r _);simp at r
 |bytes b=>
  refine X2x3 z ?_;clear z;intro a t e r b
  refine⟨a,t,e,All2.mono (λi y q=>?_) r,b⟩
  cases i with
  |lit i=>exact q
  |var k c=>(refine X1x2 q ?_;clear q;intro y r _);simp at r
 |own k=>(refine X1x2 z ?_;clear z;intro p e _);simp at e
 |_=>exact z
theorem Rel.tup(R:Rel B W fs σ s){v:SV}{u:Value}{l:List SV}(e:q0C tb σ v=some l)(h:VR W v u):∃a vs n,u=.ref a∧s.heap.get? a=some (q0J vs n)∧VRs W l vs∧l.length≤4096:=by
 cases v with
 |old a=>
  refine X2x3 (B.tup a l e) ?_;intro vs n e1 e2 e3
  exact⟨a,vs,n,h,R.kin a _ e1,e2.base W,e3⟩
 |own k=>
  refine q02 e ?_;intro o e1 e2
  have:=q70 e2
  subst this
  refine X1x2 h ?_;clear h;intro p hp hu
  refine X2x3 (R.objs _ _ _ e1 hp) ?_;intro vs n e3 e4 e5
  exact⟨p.a,vs,n,hu,e3,e4,e5⟩
 |_=>exact zN e
theorem Rel.tup_E7(R:Rel B W fs σ s){v:SV}{u:Value}{l:List SV}{X:Prop}(e:q0C tb σ v=some l)(h:VR W v u)(g:∀a vs n,u=.ref a→s.heap.get? a=some (q0J vs n)→VRs W l vs→l.length≤4096→X):X:=X3x4 (R.tup e h) g
theorem Rel.lst(R:Rel B W fs σ s){v:SV}{u:Value}{l:List SV}(e:q0N σ v=some l)(h:VR W v u):∃k p vs n,v=.own k∧σ.get k=some (.list l)∧W.ρ[k]?=some p∧u=.ref p.a∧s.heap.get? p.a=some (q09 vs n)∧VRs W l vs∧l.length≤4096:=by
 refine q0I e ?_;intro k o e0 e1 e2
 have:=q25 e2
 subst this e0
 refine X1x2 h ?_;clear h;intro p hp hu
 refine X2x3 (R.objs _ _ _ e1 hp) ?_;intro vs n e3 e4 e5
 exact⟨k,p,vs,n,rfl,e1,hp,hu,e3,e4,e5⟩
theorem Rel.lst_E11(R:Rel B W fs σ s){v:SV}{u:Value}{l:List SV}{X:Prop}(e:q0N σ v=some l)(h:VR W v u)(g:∀k p vs n,v=.own k→σ.get k=some (.list l)→W.ρ[k]?=some p→u=.ref p.a→s.heap.get? p.a=some (q09 vs n)→VRs W l vs→l.length≤4096→X):X:=X4x7 (R.lst e h) g
end
section
variable{B:Base}{sc:Scope}
theorem qeB{as:XsC}{es:List Expr}{k:Nat}{pos:Pos}(h:SXs B sc as es):SX B sc (cTup as) (.Tuple es k pos):=λn W fs c X σ s kv O R e=>
 q8G (q0D (h n W fs c X σ s _ pos O R e) λvs W₁ σ₁ s₁ l R₁ oY13x0=>by(refine oY13x0.kE3 ?_;clear oY13x0;intro xs hx e₁);exact have z:=PQ.newTuple (t:=s₁.toks) R₁ hx e₁;toG (wpAny_newObj_type (z.2.weaken l) (by show vs.toArray.size≤sizeLine;rw[List.size_toArray];exact z.1)))
theorem qeI{as:XsC}{es:List Expr}{pos:Pos}(h:SXs B sc as es):SX B sc (cLst as) (.List es pos):=λn W fs c X σ s kv O R e=>
 q6T (q0D (h n W fs c X σ s _ pos O R e) λvs W₁ σ₁ s₁ l R₁ oY12x0=>by(refine oY12x0.kE3 ?_;clear oY12x0;intro xs hx e₁);exact have z:=PQ.newList (t:=s₁.toks) R₁ hx e₁;toG (wpAny_newObj_type (z.2.weaken l) (by show vs.toArray.size≤sizeLine;rw[List.size_toArray];exact z.1)))
theorem qf0(hT:TruS B){x:XC}{e:Expr}(hx:SX B sc x e)(he:∀(env:Env)(whole:Sem Value),isTrue e env whole=(do let v ←whole;standAt e.pos;holding [v] (truthy v))):ST B sc (tAny x) e:=λn W fs c X σ s kt kf O R h=>by
 refine q3a (he _ _) (q0D (hx n W fs c X σ s _ O R h) λa W₁ σ₁ s₁ l₁ R₁ oY11x0=>?_)
 refine oY11x0.kE3 ?_;clear oY11x0;intro xa ha h₁
 refine q0G h₁ ?_;intro t e h₁
 refine q05 (toG (hT n W₁ fs X.A σ₁ s₁ _ a _ _ (O.mono l₁).around R₁ ha e)) (λb s₃ oY10x0=>?_) λ_ _ z=>z
 refine X0x2 oY10x0 ?_;clear oY10x0;intro e R₃
 subst e
 exact⟨W₁,σ₁,l₁,R₃,h₁⟩
theorem qeY{t:TC}{e:Expr}{pos:Pos}(ht:ST B sc t e):ST B sc (tNot t) (.UnaryOp .Not e pos):=λn W fs c X σ s kt kf O R h=>by
 refine q46 (q05 (ht n W fs c X σ s _ _ O R h) (λb s₁ oY9x0=>?_) λ_ _ z=>z)
 refine oY9x0.kE5 ?_;clear oY9x0;intro W₁ σ₁ l₁ R₁ h₁
 refine⟨W₁,σ₁,l₁,R₁,?_⟩
 cases b<;>exact h₁
theorem qaX:STs B sc tT .And []:=λ_ _ _ _ _ _ _ _ _ _ R h=>q1H (PQ.here R h)
theorem qcT:STs B sc tF .Or []:=λ_ _ _ _ _ _ _ _ _ _ R h=>q1H (PQ.here R h)
theorem qcU{t r:TC}{e:Expr}{es:List Expr}(ht:ST B sc t e)(hr:STs B sc r .And es):STs B sc (tAnd t r) .And (e::es):=λn W fs c X σ s kt kf O R h=>by
 refine q1B (q0D (ht n W fs c X σ s _ _ O R h) λb W₁ σ₁ s₁ l₁ R₁ h₁=>?_)
 cases b with
 |true=>exact widen l₁ (hr n W₁ fs c X σ₁ s₁ _ _ (O.mono l₁) R₁ h₁)
 |false=>exact⟨W₁,σ₁,l₁,R₁,h₁⟩
theorem qeT{t r:TC}{e:Expr}{es:List Expr}(ht:ST B sc t e)(hr:STs B sc r .Or es):STs B sc (tOr t r) .Or (e::es):=λn W fs c X σ s kt kf O R h=>by
 refine q1B (q0D (ht n W fs c X σ s _ _ O R h) λb W₁ σ₁ s₁ l₁ R₁ h₁=>?_)
 cases b with
 |false=>exact widen l₁ (hr n W₁ fs c X σ₁ s₁ _ _ (O.mono l₁) R₁ h₁)
 |true=>exact⟨W₁,σ₁,l₁,R₁,h₁⟩
theorem qcY{t:TC}{op:BoolOp}{es:List Expr}{pos:Pos}(h:STs B sc t op es):ST B sc t (.BoolOp op es pos):=λn W fs c X σ s kt kf O R e=>q2L (h n W fs c X σ s kt kf O R e)
theorem qeZ{f:S→SV→SV→Option Bool}{op:CmpOp}{x y:XC}{l r:Expr}{pos:Pos}(hf:CmpS B f op)(hx:SX B sc x l)(hy:SX B sc y r)(hm:behindInMarks op r=false):ST B sc (tCmp f x y) (.Compare l [op] [r] pos):=λn W fs c X σ s kt kf O R h=>by
 refine q18 hm (q0D (hx n W fs c X σ s _ O R h) λa W₁ σ₁ s₁ l₁ R₁ oY8x0=>?_)
 refine oY8x0.kE3 ?_;clear oY8x0;intro xa ha h₁
 refine q05 (hy n W₁ fs c X σ₁ s₁ _ (O.mono l₁) R₁ h₁) (λb s₂ oY7x0=>?_) λ_ _ z=>z.weaken l₁
 refine oY7x0.kE7 ?_;clear oY7x0;intro W₂ σ₂ l₂ R₂ xb hb h₂
 refine q0G h₂ ?_;intro r e h₂
 refine q05 (toG (hf n W₂ fs X.A σ₂ s₂ _ _ a b r _ (O.mono (l₁.trans l₂)).around R₂ (ha.mono l₂) hb e)) (λv s₃ oY6x0=>?_) λ_ _ z=>z
 refine X0x2 oY6x0 ?_;clear oY6x0;intro e R₃
 subst e
 exact toG<|wpAny_truthy_bool ⟨W₂,σ₂,l₁.trans l₂,R₃,h₂⟩
theorem qcX{f g:S→SV→SV→Option Bool}{op oq:CmpOp}{x y z:XC}{l m r:Expr}{pos:Pos}(hf:CmpS B f op)(hg:CmpS B g oq)(hx:SX B sc x l)(hy:SX B sc y m)(hz:SX B sc z r)(hm:behindInMarks oq r=false) :
  ST B sc (qeA f g x y z) (.Compare l [op,oq] [m,r] pos):=λn W fs c X σ s kt kf O R h=>by
 rw[arm_isTrue_Compare]
 refine q01 (q0D (hx n W fs c X σ s _ O R h) λa W₁ σ₁ s₁ l₁ R₁ oY5x0=>?_)
 refine oY5x0.kE3 ?_;clear oY5x0;intro xa ha h₁
 show wpG _ _ (testChain pos a [op,oq] [eval m X.env,markedBehindIn oq r (eval r X.env)]) _ _ _
 rw[markedBehindIn_of_false hm]
 show wpG _ _ (do
  let rv ←holding [a] (eval m X.env)
  standAt pos
  let c ←holding [a,rv] (compareOp op a rv)
  release [a,rv] [c]
  if ←holding [c,rv] (truthy c) then testChain pos rv [oq] [eval r X.env] else pure false) _ _ _
 refine q01 (q04 (q05 (hy n W₁ fs c X σ₁ s₁ _ (O.mono l₁) R₁ h₁) (λb s₂ oY4x0=>?_) λ_ _ z=>z.weaken l₁))
 refine oY4x0.kE7 ?_;clear oY4x0;intro W₂ σ₂ l₂ R₂ xb hb h₂
 refine q0G h₂ ?_;intro t e h₂
 refine q01 (q07 (q01 (q04 (q05 (toG (hf n W₂ fs X.A σ₂ s₂ _ _ a b t _ (O.mono (l₁.trans l₂)).around R₂ (ha.mono l₂) hb e)) (λv s₃ oY3x0=>?_) λ_ _ z=>z))))
 refine X0x2 oY3x0 ?_;clear oY3x0;intro e R₃
 subst e
 refine q01 (toG (wpAny_release (q01 (q04 (toG (wpAny_truthy_bool ?_))))))
 cases t with
 |false=>exact q03 ⟨W₂,σ₂,l₁.trans l₂,R₃,h₂⟩
 |true=>
  show wpG _ _ (do
   let rv ←holding [b] (eval r X.env)
   standAt pos
   let c ←operate [b,rv] (compareOp oq b rv)
   holding [c] (truthy c)) _ _ _
  refine q01 (q04 (q05 (hz n W₂ fs c X σ₂ s₃ _ (O.mono (l₁.trans l₂)) R₃ h₂) (λd s₄ oY2x0=>?_) λ_ _ z=>z.weaken (l₁.trans l₂)))
  refine oY2x0.kE7 ?_;clear oY2x0;intro W₄ σ₄ l₄ R₄ xd hd h₄
  refine q0G h₄ ?_;intro u e h₄
  refine q01 (q07 (q01 (q17 (q05 (toG (hg n W₄ fs X.A σ₄ s₄ _ _ b d u _ (O.mono ((l₁.trans l₂).trans l₄)).around R₄ (hb.mono l₄) hd e)) (λv s₅ oY1x0=>?_) λ_ _ z=>z))))
  refine X0x2 oY1x0 ?_;clear oY1x0;intro e R₅
  subst e
  exact q04 (toG<|wpAny_truthy_bool ⟨W₄,σ₄,(l₁.trans l₂).trans l₄,R₅,h₄⟩)
theorem q90{i:Nat}{x:Str}{pos:Pos}(hl:sc.names.lookup x=some .local)(hx:nm i=x):SA B sc (aLoc i) (.Name x pos):=λn W fs c X σ s y v k O R hv h=>by
 refine X4x3 (S.setLocK_true h) ?_;intro a m r τ e1 Z h
 refine X2x3 (R.frame e1) ?_;intro L f h5 h6 h7
 refine X2x2 O.loc ?_;intro fr fs' h8 h9
 refine X1x2 (R.head e1) ?_;intro fs'' h10 _
 have:a=fr:=by rw[h8] at h10;cases h10;rfl
 subst this
 have h5':=h5
 rw[h9] at h5'
 cases h5'
 show wpG _ _ (do standAt pos;bindName X.env x v) _ _ _
 refine toG<|Z0 (wpAny_standAt (wpAny_bindName (wpAny_storeName_local (by unfold Env.kindOf;rw[O.esc];exact hl) h6 (λh' hn hs=>?_) (by rw[O.esc,O.kind];rfl))))
 exact PQ.here (R.setLoc e1 Z h5 h7 hv (by rw[hx];exact hn) hs rfl rfl) h
theorem qfc{i:Nat}{x:Str}{pos:Pos}(hl:sc.names.lookup x=some .cell)(hx:nm i=x):SA B sc (aCel i) (.Name x pos):=λn W fs c X σ s y v k O R hv h=>by
 refine q00 h ?_;intro a h1 h
 refine q00 h ?_;intro w h2 h
 refine q02 h2 ?_;intro o h3 h4
 have:=q64 h4
 subst this
 refine S.putK_true_E3 h ?_;intro τ P h
 rw[Cx.cel_eq] at h1
 subst hx
 refine X2x3 (O.cells i (.inl hl)) ?_;intro a' q h5 h6 h7
 rw[h1] at h5;(refine zI h5 ?_;clear h5;rintro rfl)
 refine X2x3 (R.objs _ _ _ h3 h6) ?_;intro o u h10 h11 h12
 have hk:X.env.scope.kind=.function:=by rw[O.esc];exact O.kind
 show wpG _ _ (do standAt pos;bindName X.env (nm i) v) _ _ _
 refine toG<|Z0 (wpAny_standAt (wpAny_bindName (wpAny_storeName_cell hk (by unfold Env.kindOf;rw[O.esc];exact hl) h7 ⟨o,h10,h11⟩ λh' hc hs=>?_)))
 refine X1x2 hc ?_;clear hc;intro o' e1 e2
 exact PQ.here (R.upd P h3 h6 (.head _) hs ⟨o',e1⟩ ⟨o',some v,e1,e2,v,rfl,hv⟩ (λob es m ho z=>by
  have:=h10.symm.trans ho;(refine zI this ?_;clear this;rintro rfl);rw[h11] at z;cases z) rfl rfl) h
theorem qd8:SAs B sc qbX []:=λn W fs c X σ s xs vs k O R hv h=>by
 cases hv with
 |nil=>exact q03 (PQ.here R h)
 |cons _ _=>exact zF h
theorem qb0{a:AC}{r:AsC}{e:Expr}{es:List Expr}(ha:SA B sc a e)(hr:SAs B sc r es)(he:∀env,assignEach (e::es) env=(false,assign e env)::assignEach es env):SAs B sc (q7I a r) (e::es):=λn W fs c X σ s xs vs k O R hv h=>by
 cases hv with
 |nil=>exact zF h
 |@cons x v l l' hx hl=>
  rw[he]
  show wpG _ _ (do holding l' (assign e X.env v);assignInOrder ((assignEach es X.env).map (·.2)) l') _ _ _
  refine q01 (q04 (q0D (ha n W fs c X σ s x v _ O R hx h) λ_ W₁ σ₁ s₁ l₁ R₁ h₁=>?_))
  exact widen l₁ (hr n W₁ fs c X σ₁ s₁ l l' _ (O.mono l₁) R₁ (VRs.mono l₁ hl) h₁)
end
section
variable{B:Base}{W W':Wd}{fs:List Nat}{σ τ:S}{s s':Shared}
theorem Rel.extNew(R:Rel B W fs σ s){h':Heap}(g:Heap.ExtBut s.heap.objs.size s.heap h'):Rel B W fs σ {s with heap:=h'}:=
 R.ext g R.le (λp hp hu=>by(refine X0x2 (R.own p hp _ hu) ?_;intro _ o1;refine X1x1 o1 ?_;clear o1;intro o e);exact Nat.lt_irrefl _ (Z7 e)) (λx hx e=>by have:=(R.fz x hx).1;rw[e] at this;exact Nat.lt_irrefl _ (Z7 this)) rfl rfl
theorem q0l{h:Heap}{a:Addr}{vs:List Value}{n:Nat}(e:h.get? a=some (q0J vs n)):h.IsTuple a vs.toArray:=⟨_,e,rfl,_,rfl⟩
theorem q0b{h:Heap}{a:Addr}{vs:List Value}{n:Nat}(e:h.get? a=some (q09 vs n)):h.IsList a vs.toArray:=⟨_,e,rfl,_,rfl⟩
end
section
variable{B:Base}{sc:Scope}
theorem qf9{m:Nat}{r:AsC}{es:List Expr}{k:Nat}{pos:Pos}(hr:SAs B sc r es)(hn:∀env,(assignEach es env).length=m)(hstar:∀env,(assignEach es env).findIdx? (·.1)=none) :
  SA B sc (aTup tb m r) (.Tuple es k pos):=λn W fs c X σ s x v kk O R hv h=>by
 refine q00 h ?_;intro l e h
 refine q06 h ?_;intro hl h
 have hl:len l=m:=Z9 hl
 rw[q0o] at hl
 refine R.tup_E7 e hv ?_;intro a vs ep o1 ea hvs _;subst o1
 rw[arm_assign_Tuple]
 refine q01 (q07 ?_)
 unfold unpack
 rw[show (assignEach es X.env).length=vs.toArray.size by rw[hn];simp[hvs.length,hl],hstar]
 refine q01 (q04 (toG (wpAny_unpackItems_tuple O.around.handled (q0l ea) λh' g=>?_)))
 exact hr n W fs c X σ _ l _ kk O (R.extNew g) hvs h
noncomputable def SAr(B:Base)(sc:Scope)(a:AsC)(xs:List Str):Prop:=∀(n:Nat)(W:Wd)(fs:List Nat)(c:Cx)(X:Fx)(σ:S)(s:Shared)(ys:List SV)(vs:List Value)(k:KN),Ok B n sc W fs c X→Rel B W fs σ s→VRs W ys vs→a ys c σ k=true→
 wpG (model B.prog B.w) X.A (assignInOrder (xs.map λx=>bindName X.env x) vs) (PQ B W fs (QU k)) (QE B W fs X.fa c.kx) s
theorem qd9:SAr B sc qbX []:=λn W fs c X σ s xs vs k O R hv h=>by
 cases hv with
 |nil=>exact q03 (PQ.here R h)
 |cons _ _=>exact zF h
theorem qb1{i:Nat}{r:AsC}{x:Str}{es:List Str}(hr:SAr B sc r es)(hl:sc.names.lookup x=some .local)(hx:nm i=x):SAr B sc (q7I (aLoc i) r) (x::es):=λn W fs c X σ s ys vs k O R hv h=>by
 cases hv with
 |nil=>exact zF h
 |@cons y v l l' hy hl'=>
  show wpG _ _ (do holding l' (bindName X.env x v);assignInOrder (es.map λx=>bindName X.env x) l') _ _ _
  have hp:∀pos,(do standAt pos;bindName X.env x v:Sem Unit)=assign (.Name x pos) X.env v:=λ_=>rfl
  have hA':wpG (model B.prog B.w) X.A (bindName X.env x v) (PQ B W fs (QU λσ=>r l c σ k)) (QE B W fs X.fa c.kx) s:=λΓ p hΓ hc=>by
   have:=q90 (B:=B) (pos:=p) hl hx n W fs c X σ s y v _ O R hy h Γ p hΓ hc
   simp only[←hp,Sem.wp_bind',Sem.wp_cmd_standAt] at this
   rw[Sem.wp_bindName] at this⊢
   exact this
  refine q01 (q04 (q0D hA' λ_ W₁ σ₁ s₁ l₁ R₁ h₁=>?_))
  exact widen l₁ (hr n W₁ fs c X σ₁ s₁ l l' _ (O.mono l₁) R₁ (VRs.mono l₁ hl') h₁)
theorem qcZ:SSs B sc sNil []:=λn W fs c X σ s kr kn O R h=>q0p (PQ.here R h)
theorem qaY{a b:SC}{st:Stmt}{l:List Stmt}(ha:SS B sc a st)(hb:SSs B sc b l):SSs B sc (sSeq a b) (st::l):=λn W fs c X σ s kr kn O R h=>by
 refine q0h (q0D (ha n W fs c X σ s kr _ O R h) λf W₁ σ₁ s₁ l₁ R₁ h₁=>?_)
 cases f with
 |next=>exact widen l₁ (hb n W₁ fs c X σ₁ s₁ kr kn (O.mono l₁) R₁ h₁)
 |ret v=>exact⟨W₁,σ₁,l₁,R₁,h₁⟩
 |_=>cases h₁
theorem qd3{x:XC}{e:Expr}{pos:Pos}(hx:SX B sc x e)(hs:∀env,swapsWith e none pos.line env=pure false):SS B sc (qfq x) (.Expr e pos):=λn W fs c X σ s kr kn O R h=>by
 refine qaH (q05 (hx n W fs c X σ s _ O R h) (λv s₁ oY6x0=>by(refine oY6x0.kE7 ?_;clear oY6x0;intro W₁ σ₁ l₁ R₁ y hy h₁);exact⟨W₁,σ₁,l₁,R₁,h₁⟩) λ_ _ z=>z) ?_ (hs _)
 unfold interactive
 rw[O.esc,O.kind];rfl
theorem qf3{x:XC}{e:Expr}{pos:Pos}(hx:SX B sc x e):SS B sc (sRet x) (.Return (some e) pos):=λn W fs c X σ s kr kn O R h=>
 q0Q (q05 (hx n W fs c X σ s _ O R h) (λv s₁ oY5x0=>by(refine oY5x0.kE5 ?_;clear oY5x0;intro W₁ σ₁ l₁ R₁ h₁);exact⟨W₁,σ₁,l₁,R₁,h₁⟩) λ_ _ z=>z)
theorem qd0{pos:Pos}:SS B sc qfn (.Return none pos):=λn W fs c X σ s kr kn O R h=>q3p (PQ.here R ⟨.none,rfl,h⟩)
theorem qgX{t:TC}{a b:SC}{e:Expr}{l r:List Stmt}{pos:Pos}(ht:ST B sc t e)(ha:SSs B sc a l)(hb:SSs B sc b r):SS B sc (sIf t a b) (.If e l r pos):=λn W fs c X σ s kr kn O R h=>by
 refine qc0 (q0D (ht n W fs c X σ s _ _ O R h) λb W₁ σ₁ s₁ l₁ R₁ h₁=>?_)
 cases b with
 |true=>exact widen l₁ (ha n W₁ fs c X σ₁ s₁ kr kn (O.mono l₁) R₁ h₁)
 |false=>exact widen l₁ (hb n W₁ fs c X σ₁ s₁ kr kn (O.mono l₁) R₁ h₁)
theorem qf7{a:AC}{x:XC}{t e:Expr}{pos:Pos}(ha:SA B sc a t)(hx:SX B sc x e)(hs:∀env:Env,env.scope=sc→swapsWithSole [t] e pos.line env=pure false)
  (hw:∀env:Env,env.scope=sc→swappedStores [t] e env=pure none) (he:∀env,assignEach [t] env=[(false,assign t env)]):SS B sc (sAsg a x) (.Assign [t] e pos):=λn W fs c X σ s kr kn O R h=>by
 refine q0r (q0D (hx n W fs c X σ s _ O R h) λv W₁ σ₁ s₁ l₁ R₁ oY4x0=>?_) (hs _ O.esc) (hw _ O.esc)
 refine oY4x0.kE3 ?_;clear oY4x0;intro y hy h₁
 rw[he]
 show wpG _ _ (assign t X.env v) _ _ _
 refine q05 (ha n W₁ fs c X σ₁ s₁ y v _ (O.mono l₁) R₁ hy h₁) (λ_ s₂ oY3x0=>by(refine oY3x0.kE5 ?_;clear oY3x0;intro W₂ σ₂ l₂ R₂ h₂);exact⟨W₂,σ₂,l₁.trans l₂,R₂,h₂⟩) λ_ _ z=>z.weaken l₁
theorem qd4{m:Nat}{r:AsC}{x:XC}{t e:Expr}{pos:Pos}{xs:List Str}(hr:SAr B sc r xs.reverse)(hx:SX B sc x e)(hs:∀env:Env,env.scope=sc→swapsWithSole [t] e pos.line env=pure false)
  (hw:∀env:Env,env.scope=sc→swappedStores [t] e env=pure (some xs)) (hm:xs.length=m):SS B sc (sAsg (qgO tb m r) x) (.Assign [t] e pos):=λn W fs c X σ s kr kn O R h=>by
 rw[exec_Assign_arm]
 refine q01 (q07 ?_)
 rw[hs _ O.esc]
 refine q01 (q03 ?_)
 rw[if_neg (by decide)]
 refine q01 (q0D (hx n W fs c X σ s _ O R h) λv W₁ σ₁ s₁ l₁ R₁ oY2x0=>?_)
 refine oY2x0.kE3 ?_;clear oY2x0;intro y hy h₁
 rw[hw _ O.esc]
 refine q01 (q03 ?_)
 refine q00 h₁ ?_;intro l e h₁
 refine q06 h₁ ?_;intro hl h₁
 have hl:len l=m:=Z9 hl
 rw[q0o] at hl
 rw[q95,List.append_nil] at h₁
 refine R₁.tup_E7 e hy ?_;intro a vs ep o1 ea hvs _;subst o1
 show wpG _ _ (do
  rule "assign.swapped-stores"
  let items ←unpackItems (.ref a) xs.length none
  assignInOrder (xs.reverse.map λn=>bindName X.env n) items.reverse
  pure Flow.next) _ _ _
 refine q01 (q2o (q01 ?_))
 have hsz:xs.length=vs.toArray.size:=by rw[hm];simp[hvs.length,hl]
 rw[hsz]
 refine toG<|wpAny_unpackItems_tuple O.around.handled (q0l ea) λh' g=>?_
 refine q01 (q05 (hr n W₁ fs c X σ₁ _ _ _ _ (O.mono l₁) (R₁.extNew g) hvs.rev h₁) (λ_ s₂ oY1x0=>by(refine oY1x0.kE5 ?_;clear oY1x0;intro W₂ σ₂ l₂ R₂ h₂);exact q03 ⟨W₂,σ₂,l₁.trans l₂,R₂,h₂⟩) λ_ _ z=>z.weaken l₁)
end
end
section
open PySem PySem.W
variable{B:Base}{W W':Wd}{fs:List Nat}{σ τ:S}{s s':Shared}
theorem Rel.high(R:Rel B W fs σ s){k:Nat}{p:Fp}(e:W.ρ[k]?=some p):20≤p.a:=Nat.le_trans B.low (R.own' e p.a (.head _)).1
theorem Rel.notMods(R:Rel B W fs σ s){k:Nat}{p:Fp}(e:W.ρ[k]?=some p):(p.a==sysModules)=false:=by
 have h1:=R.high e
 have h2:sysModules<20:=by decide
 exact beq_eq_false_iff_ne.mpr λz=>by rw[z] at h1;exact absurd h1 (Nat.not_le.mpr h2)
theorem q2b(a b:Int):iEq a b=decide (a=b):=by
 cases a with
 |ofNat x=>cases b with
  |ofNat y=>
   show Nat.beq x y=_
   rw[q0g];exact decide_eq_decide.mpr ⟨λh=>h▸rfl,λh=>Int.ofNat.inj h⟩
  |negSucc y=>exact(decide_eq_false (by intro h;cases h)).symm
 |negSucc x=>cases b with
  |ofNat y=>exact(decide_eq_false (by intro h;cases h)).symm
  |negSucc y=>
   show Nat.beq x y=_
   rw[q0g];simp
theorem q3F(b:Bool):not' b=!b:=by cases b<;>rfl
theorem q1x{α:Type}(l:List α):q0s l=l.isEmpty:=by cases l<;>rfl
theorem q2O{i:SI}{x:Int}(h:q48 i=some x):i=.lit x:=by cases i<;>(first|(refine zI h ?_;clear h;rintro rfl)|(exact zN h));rfl
theorem q2S{α β:Type}{P:α→β→Prop}{l:List α}{l':List β}(h:All2 P l l'):not' (q0s l)=!l'.toArray.isEmpty:=by
 rw[q3F,q1x]
 cases h<;>rfl
theorem q3E{α β:Type}{P:α→β→Prop}{l:List α}{l':List β}(h:All2 P l l'):not' (q0s l)=!l'.isEmpty:=by
 rw[q3F,q1x]
 cases h<;>rfl
theorem q9W{n:Nat}(h:n≤4096):(n:Int)<2^63:=by
 have:(n:Int)≤4096:=by exact_mod_cast h
 lia
theorem q4h:TruS B:=λn W fs A σ s x a r E O R hv e=>by
 cases x with
 |none=>
  have hv:a=.none:=hv
  subst hv
  refine zI e ?_;clear e;rintro rfl
  exact λ_ _ _=>⟨rfl,R⟩
 |bool b=>
  have hv:a=.bool b:=hv
  subst hv
  refine zI e ?_;clear e;rintro rfl
  exact wpAny_truthy_bool ⟨rfl,R⟩
 |int i=>
  refine X2x3 hv ?_;clear hv;intro x t o1 hi _;subst o1
  refine q02 e ?_;intro y h1 h2
  have:=q2O h1
  subst this
  have hi:x=y:=hi
  subst hi
  refine zI h2 ?_;clear h2;rintro rfl
  refine P.truthy_int ⟨?_,R⟩
  rw[q3F,q2b]
  by_cases h:x=0<;>simp[h]
 |str l=>
  refine X1x2 hv ?_;clear hv;intro t o1 hl;subst o1
  refine zI e ?_;clear e;rintro rfl
  have hlen:(⟨l.toArray⟩:Str).length=l.length:=by simp[Str.length]
  refine P.truthy_str (by rw[hlen];have:=q9W hl;lia) ⟨?_,R.toks⟩
  rw[hlen,q3F,q1x]
  cases l with
  |nil=>rfl
  |cons a r=>simp only[List.length_cons,List.isEmpty_cons,Bool.not_false];exact bne_iff_ne.mpr (by lia)
 |bytes l=>
  refine X2x3 hv ?_;clear hv;intro b t o1 h2 hl;subst o1
  refine zI e ?_;clear e;rintro rfl
  have hlen:b.size=l.length:=by have:=h2.length;simpa using this
  refine truthy_bytes (by rw[hlen];lia) ⟨?_,R.toks⟩
  rw[hlen,q3F,q1x]
  cases l with
  |nil=>rfl
  |cons a r=>simp only[List.length_cons,List.isEmpty_cons,Bool.not_false];exact bne_iff_ne.mpr (by lia)
 |own k=>
  refine q02 e ?_;intro o h1 h2
  refine X1x2 hv ?_;clear hv;intro p hp o1;subst o1
  have ho:=R.objs _ _ _ h1 hp
  cases o with
  |list xs=>
   refine X2x3 ho ?_;clear ho;intro vs m e1 e2 e3
   refine zI h2 ?_;clear h2;rintro rfl
   exact wpAny_truthy_list (q0b e1) (by simp only[List.size_toArray,e2.length];exact q9W e3) ⟨(q2S e2).symm,R.toks⟩
  |tuple xs=>
   refine X2x3 ho ?_;clear ho;intro vs m e1 e2 e3
   refine zI h2 ?_;clear h2;rintro rfl
   exact PyProof.Rows.truthy_tuple (q0l e1) (by simp only[List.size_toArray,e2.length];exact q9W e3) ⟨(q2S e2).symm,R.toks⟩
  |dictS es=>
   refine X2x3 ho ?_;clear ho;intro kvs ep e1 e2 e3
   refine zI h2 ?_;clear h2;rintro rfl
   exact wpAny_truthy_dict (R.notMods hp) e1.dictOf (by rw[e2.length];exact q9W e3) ⟨(q3E e2).symm,R.toks⟩
  |dictI es=>
   refine X2x3 ho ?_;clear ho;intro kvs ep e1 e2 e3
   refine zI h2 ?_;clear h2;rintro rfl
   exact wpAny_truthy_dict (R.notMods hp) e1.dictOf (by rw[e2.length];exact q9W e3) ⟨(q3E e2).symm,R.toks⟩
  |_=>exact zN h2
 |_=>exact zN e
theorem q3S{A:Around}{s:Shared}{u v:Value}{k:Bool}(h:SeqAt.RcAt A s u v k)(hs:u=v→k=true)(hf:∀x t y t',u=.float x t→v≠.float y t'):SeqAt.EqAt A s u v k:=λprog w E Q hq=>by
 unfold eqBool
 refine wpAny_holding ?_
 refine wpAny_ite_split (λhab=>?_) (λ_=>?_)
 ·have:=hs (eq_of_beq hab)
  subst this
  exact Z0 (wpAny_rule (Z3 hq))
 ·have t:∀r,wpAny (model prog w) A (truthOfDropped (.bool r)) Q E s=wpAny (model prog w) A (truthy (.bool r)) Q E s:=λ_=>rfl
  have hh:=h prog w E (λr s'=>wpAny (model prog w) A (truthOfDropped r) Q E s') (by rw[t];exact wpAny_truthy_bool hq)
  clear h hs t hq
  cases u with
  |float x t=>cases v with
   |float y t'=>exact absurd rfl (hf _ _ _ _ rfl)
   |_=>exact Z0 hh
  |_=>exact Z0 hh
theorem q2T(a b:List Nat):nlEq a b=decide (a=b):=by
 induction a generalizing b with
 |nil=>cases b with
  |nil=>rfl
  |cons y r=>exact(decide_eq_false (by intro h;cases h)).symm
 |cons x l ih=>cases b with
  |nil=>exact(decide_eq_false (by intro h;cases h)).symm
  |cons y r=>
   show bi (Nat.beq x y) (nlEq l r) false=_
   rw[q0g,ih]
   by_cases h:x=y
   ·subst h
    by_cases q:l=r
    ·subst q;simp
    ·simp[q]
   ·simp[h]
theorem q8Z{W:Wd}{i j:SI}{x y:Int}{r:Bool}(h:i.same j=some r)(hi:i.is W.ν x)(hj:j.is W.ν y):r=decide (x=y):=by
 cases i with
 |lit a=>cases j with
  |lit b=>
   refine zI h ?_;clear h;rintro rfl
   have hi:x=a:=hi
   have hj:y=b:=hj
   rw[q2b,hi,hj]
  |var k c=>exact zN h
 |var k c=>cases j with
  |lit b=>exact zN h
  |var l d=>
   have h:bi (Nat.beq k l) (some (iEq c d)) none=some r:=h
   rw[q0g] at h
   by_cases q:k=l
   ·subst q
    simp at h
    refine X1x2 hi ?_;clear hi;intro u e o1;subst o1
    refine X1x2 hj ?_;clear hj;intro v e' o1;subst o1
    rw[e] at e';(refine zI e' ?_;clear e';rintro rfl)
    rw[←h,q2b]
    exact decide_eq_decide.mpr ⟨λz=>by rw[z],λz=>by lia⟩
   ·simp[q] at h
theorem q8q{W:Wd}{a b:List SI}{x y:List UInt8}{r:Bool}(h:q2l a b=some r)(hl:a.length=b.length)(ha:All2 (q3d W) a x)(hb:All2 (q3d W) b y):r=(x==y):=by
 induction ha generalizing b y with
 |nil=>
  cases hb with
  |nil=>(refine zI h ?_;clear h;rintro rfl);rfl
  |cons _ _=>cases hl
 |@cons i u a x hi ha ih=>
  cases hb with
  |nil=>cases hl
  |@cons j v b y hj hb=>
   refine q02 (show oO (i.same j) (λe=>bi e (q2l a b) (some false))=some r from h) ?_;intro e h1 h2
   have he:=q8Z (W:=W) h1 hi hj
   have hn:((u.toNat:Int)=(v.toNat:Int))↔u=v:=⟨λz=>UInt8.toNat_inj.mp (by exact_mod_cast z),λz=>by rw[z]⟩
   cases e with
   |true=>
    have:=ih h2 (Nat.succ.inj hl) hb
    have q:u=v:=hn.mp (of_decide_eq_true he.symm)
    rw[this,q];simp
   |false=>
    refine zI h2 ?_;clear h2;rintro rfl
    have q:u≠v:=λz=>of_decide_eq_false he.symm (hn.mpr z)
    simp[q]
theorem q55{f:SV→SV→Option Bool}(hf:∀a r,f a a=some r→r=true):∀{l:List SV}{r:Bool},eqL f l l=some r→r=true
 |[],_,h=>by(refine zI h ?_;clear h;rintro rfl);rfl
 |a::l,r,h=>by
  refine q02 (show oO (f a a) (λe=>oO (eqL f l l) (λr=>some (bi e r false)))=some r from h) ?_;intro e h1 h2
  refine q02 h2 ?_;intro e' h3 h4
  have:=hf a e h1
  subst this
  have:=q55 hf h3
  subst this
  (refine zI h4 ?_;clear h4;rintro rfl);rfl
theorem q0f{α β:Type}{o:Option α}{d:β}{f:α→β}{b:β}(h:oE o d f=b):(o=none∧d=b)∨∃a,o=some a∧f a=b:=by
 cases o with
 |none=>exact .inl ⟨rfl,h⟩
 |some a=>exact .inr ⟨a,rfl,h⟩
theorem q5t{i:SI}{r:Bool}(h:i.same i=some r):r=true:=by
 cases i with
 |lit a=>(refine zI h ?_;clear h;rintro rfl);rw[q2b];simp
 |var k c=>
  have h:bi (Nat.beq k k) (some (iEq c c)) none=some r:=h
  rw[q0g] at h
  simp at h
  rw[←h,q2b];simp
theorem q37:∀{l:List SI}{r:Bool},q2l l l=some r→r=true
 |[],_,h=>by(refine zI h ?_;clear h;rintro rfl);rfl
 |i::l,r,h=>by
  refine q02 (show oO (i.same i) (λe=>bi e (q2l l l) (some false))=some r from h) ?_;intro e h1 h2
  have:=q5t h1
  subst this
  exact q37 h2
theorem q7z{f:SV→SV→Option Bool}(hf:∀a r,f a a=some r→r=true):∀{l:List SV}{r:Bool},eqZ f l l=some r→r=true
 |[],_,h=>by(refine zI h ?_;clear h;rintro rfl);rfl
 |a::l,r,h=>by
  refine q02 (show oO (f a a) (λe=>oO (eqZ f l l) (λr=>some (bi e r false)))=some r from h) ?_;intro e h1 h2
  refine q02 h2 ?_;intro e' h3 h4
  have:=hf a e h1
  subst this
  have:=q7z hf h3
  subst this
  (refine zI h4 ?_;clear h4;rintro rfl);rfl
theorem q3R{f:SV→SV→Option Bool}(hf:∀a r,f a a=some r→r=true){l:List SV}{r:Bool}(h:qcv f l l=some r):r=true:=by
 refine q02 h ?_;intro q h1 h2
 have:=q7z hf h1
 subst this
 rw[q0g] at h2
 simp only[decide_true] at h2
 exact(Z6 h2).symm
theorem q4x{f:SV→SV→Option Bool}(hf:∀a r,f a a=some r→r=true){a:SV}{r:Bool}(h:qbG tb σ f a a=some r):r=true:=by
 refine q02 h ?_;intro x h1 h2
 rw[h1] at h2
 exact q3R hf h2
theorem q28:∀(n:Nat)(a:SV)(r:Bool),eqS tb σ n a a=some r→r=true
 |0,_,_,h=>by exact zN h
 |n+1,a,r,h=>by
  cases a with
  |none=>(refine zI h ?_;clear h;rintro rfl);rfl
  |bool b=>cases b<;>(refine zI h ?_;clear h;rintro rfl)<;>rfl
  |int i=>exact q5t h
  |str l=>
   have h:some (nlEq l l)=some r:=h
   (refine zI h ?_;clear h;rintro rfl);rw[q2T];simp
  |bytes l=>
   have h:bi (Nat.beq (len l) (len l)) (q2l l l) (some false)=some r:=h
   rw[q0g] at h
   simp at h
   exact q37 h
  |ty _=>exact zN h
  |bi _=>exact zN h
  |old a=>exact q4x (q28 n) h
  |own k=>
   have h:qbH tb σ (eqS tb σ n) (.own k) (.own k)=some r:=h
   unfold qbH at h
   refine Z4 (q0f h) (λo2=>X0x2 o2 λ_ h=>?_) λo1=>X1x2 o1 λx h1 h=>?_
   ·exact q4x (q28 n) h
   ·refine q02 h ?_;intro y h2 h
    rw[h1] at h2;(refine zI h2 ?_;clear h2;rintro rfl)
    have h:bi (Nat.beq (len x) (len x)) (eqL (eqS tb σ n) x x) (some false)=some r:=h
    rw[q0g] at h
    simp at h
    exact q55 (q28 n) h
theorem qgu{f:SV→SV→Option Bool}:∀{x y:List SV}{r:Bool},eqL f x y=some r→∃rs:List Bool,rs.length=x.length∧y.length=x.length∧rs.all id=r∧∀(j:Nat)(a b:SV),x[j]?=some a→y[j]?=some b→∃e,rs[j]?=some e∧f a b=some e:=by
 intro x
 induction x with
 |nil=>intro y r h;cases y with
  |nil=>
  have h:some true=some r:=h
  refine zI h ?_;clear h;rintro rfl
  exact⟨[],rfl,rfl,rfl,λj a b e=>oN e⟩
  |cons=>exact zN h
 |cons a x ih=>intro y r h;cases y with
  |nil=>exact zN h
  |cons b y=>
  refine q02 (show oO (f a b) (λe=>oO (eqL f x y) (λr=>some (bi e r false)))=some r from h) ?_;intro e h1 h2
  refine q02 h2 ?_;intro q h3 h4
  refine X1x4 (ih h3) ?_;intro rs k1 k2 k3 k4
  refine⟨e::rs,congrArg Nat.succ k1,congrArg Nat.succ k2,?_,λj u v e1 e2=>?_⟩
  ·rw[List.all_cons,k3,←Z6 h4]
   cases e<;>rfl
  ·cases j with
   |zero=>rw[←Z6 e1,←Z6 e2];exact⟨e,rfl,h1⟩
   |succ j=>exact k4 j u v e1 e2
theorem qgt{f:SV→SV→Option Bool}:∀{x y:List SV}{r:Bool},eqZ f x y=some r→∃rs:List Bool,rs.length=min x.length y.length∧rs.all id=r∧∀(j:Nat)(a b:SV),x[j]?=some a→y[j]?=some b→∃e,rs[j]?=some e∧f a b=some e:=by
 intro x
 induction x with
 |nil=>
  intro y r h
  have h:some true=some r:=h
  refine zI h ?_;clear h;rintro rfl
  exact⟨[],(Nat.zero_min _).symm,rfl,λj a b e=>oN e⟩
 |cons a x ih=>intro y r h;cases y with
  |nil=>
  have h:some true=some r:=h
  refine zI h ?_;clear h;rintro rfl
  exact⟨[],(Nat.min_zero _).symm,rfl,λj a b _ e=>oN e⟩
  |cons b y=>
  refine q02 (show oO (f a b) (λe=>oO (eqZ f x y) (λr=>some (bi e r false)))=some r from h) ?_;intro e h1 h2
  refine q02 h2 ?_;intro q h3 h4
  refine X1x3 (ih h3) ?_;intro rs k1 k3 k4
  refine⟨e::rs,by simp only[List.length_cons,k1];lia,?_,λj u v e1 e2=>?_⟩
  ·rw[List.all_cons,k3,←Z6 h4]
   cases e<;>rfl
  ·cases j with
   |zero=>rw[←Z6 e1,←Z6 e2];exact⟨e,rfl,h1⟩
   |succ j=>exact k4 j u v e1 e2
theorem q5v(rs:List Bool):(List.range rs.length).all (λj=>rs.getD j true)=rs.all id:=by
 rw[Bool.eq_iff_iff,List.all_eq_true,List.all_eq_true]
 constructor
 ·intro h b hb
  refine X1x1 (List.getElem_of_mem hb) ?_;intro j o1;refine X1x1 o1 ?_;clear o1;intro hj o2;subst o2
  have:=h j (List.mem_range.mpr hj)
  simpa[List.getD_eq_getElem?_getD,hj] using this
 ·intro h j hj
  have hj:=List.mem_range.mp hj
  simp only[List.getD_eq_getElem?_getD,List.getElem?_eq_getElem hj,Option.getD_some]
  exact h _ (List.getElem_mem hj)
theorem q1j{x:SV}{u:Value}(h:VR W x u):∀y t,u≠.float y t:=by
 intro y t e
 subst e
 cases x with
 |none=>cases (show Value.float y t=.none from h)
 |bool b=>cases (show Value.float y t=.bool b from h)
 |int i=>(refine X2x2 h ?_;clear h;intro _ _ e _);cases e
 |str l=>(refine X1x2 h ?_;clear h;intro _ e _);cases e
 |bytes l=>(refine X2x2 h ?_;clear h;intro _ _ e _);cases e
 |ty n=>cases (show Value.float y t=.type _ from h)
 |bi n=>cases (show Value.float y t=.builtin _ from h)
 |old a=>cases (show Value.float y t=.ref a from h)
 |own k=>(refine X1x2 h ?_;clear h;intro _ _ e);cases e
structure EqOk(A:Around)(s:Shared)(u v:Value)(r:Bool):Prop where
 eq:SeqAt.RcAt A s u v r
 ne:SeqAt.RcNeAt A s u v (!r)
 same:u=v→r=true
theorem qaN(R:Rel B W fs σ s){a b:SV}{x y:List SV}{u:Value}(ea:q0C tb σ a=some x)(eb:q0C tb σ b=some y)(ha:VR W a u)(hb:VR W b u):a=b:=by
 cases a with
 |old a=>cases b with
  |old b=>
   have ha:u=.ref a:=ha
   have hb:u=.ref b:=hb
   rw[ha] at hb;cases hb;rfl
  |own k=>
   exfalso
   have ha:u=.ref a:=ha
   refine X1x2 hb ?_;clear hb;intro p hp hb
   rw[ha] at hb
   have:a=p.a:=Value.ref.inj hb
   refine X2x3 (B.tup a x ea) ?_;intro vs n e1 _ _
   have h1:=Z7 (B.kin a _ e1)
   have h2:=(R.own' hp p.a (.head _)).1
   rw[this] at h1
   exact absurd h1 (Nat.not_lt.mpr h2)
  |_=>exact zN eb
 |own j=>cases b with
  |old b=>
   exfalso
   have hb:u=.ref b:=hb
   refine X1x2 ha ?_;clear ha;intro p hp ha
   rw[ha] at hb
   have:p.a=b:=Value.ref.inj hb
   refine X2x3 (B.tup b y eb) ?_;intro vs n e1 _ _
   have h1:=Z7 (B.kin b _ e1)
   have h2:=(R.own' hp p.a (.head _)).1
   rw[←this] at h1
   exact absurd h1 (Nat.not_lt.mpr h2)
  |own k=>
   refine X1x2 ha ?_;clear ha;intro p hp ha
   refine X1x2 hb ?_;clear hb;intro q hq hb
   rw[ha] at hb
   have e:p.a=q.a:=Value.ref.inj hb
   by_cases h:j=k
   ·rw[h]
   ·exact absurd (e▸.head _) (R.sep j k p q hp hq h p.a (.head _))
  |_=>exact zN eb
 |_=>exact zN ea
theorem q6a{α β:Type}{P:α→β→Prop}{l:List α}{l':List β}(h:All2 P l l'){j:Nat}(hj:j<l'.length):∃a,l[j]?=some a∧P a l'[j]:=by
 have h1:j<l.length:=by rw[←h.length];exact hj
 refine X1x2 (h.get (List.getElem?_eq_getElem h1)) ?_;intro b e p
 rw[List.getElem?_eq_getElem hj] at e
 refine zI e ?_;clear e;rintro rfl
 exact⟨_,List.getElem?_eq_getElem h1,p⟩
theorem q7A(R:Rel B W fs σ s){f:SV→SV→Option Bool}{A:Around}(hf:∀a b u v r,f a b=some r→VR W a u→VR W b v→EqOk A.in1 s u v r)(hr:∀a r,f a a=some r→r=true)(hu:A.units<cLine)
  {a b:SV} {u v:Value} {r:Bool} (h:qbG tb σ f a b=some r) (ha:VR W a u) (hb:VR W b v):EqOk A s u v r:=by
 refine q02 h ?_;intro x h1 h
 refine R.tup_E7 h1 ha ?_;intro p vs n o1 e1 hvs _;subst o1
 refine Z4 (q0f h) (λo2=>X0x2 o2 λ_ h=>?_) λo1=>X1x2 o1 λy h2 h=>?_
 ·refine q02 h ?_;intro z h3 h
  have:=q0X h3
  subst this
  refine zI h ?_;clear h;rintro rfl
  refine X1x2 hb ?_;clear hb;intro t o1 _;subst o1
  exact⟨SeqAt.RcAt.tuple_str _ _ (q0l e1) hu,SeqAt.RcNeAt.tuple_str _ _ (q0l e1) hu,λe=>by cases e⟩
 ·refine R.tup_E7 h2 hb ?_;intro q ws m o1 e2 hws _;subst o1
  have hsame:Value.ref p=.ref q→r=true:=λe=>by
   have hb':VR W b (.ref p):=e▸hb
   have:=qaN R h1 h2 ha hb'
   subst this
   rw[h1] at h2;(refine zI h2 ?_;clear h2;rintro rfl)
   exact q3R hr h
  refine q02 h ?_;intro r0 hz hr0
  rw[q0g,q0o,q0o] at hr0
  refine X1x3 (qgt hz) ?_;intro rs k1 k3 k4
  have hmin:min vs.toArray.size ws.toArray.size=rs.length:=by simp only[List.size_toArray,hvs.length,hws.length,k1]
  have key:∀j (h1:j<vs.toArray.size) (h2:j<ws.toArray.size),SeqAt.EqAt A.in1 s vs.toArray[j] ws.toArray[j] (rs.getD j true):=λj g1 g2=>by
   refine X1x2 (q6a hvs (by simpa using g1)) ?_;intro xa xe hxa
   refine X1x2 (q6a hws (by simpa using g2)) ?_;intro ya ye hya
   refine X1x2 (k4 j xa ya xe ye) ?_;intro e re fe
   have hD:rs.getD j true=e:=by simp[List.getD_eq_getElem?_getD,re]
   rw[hD]
   have K:=hf _ _ _ _ _ fe hxa hya
   exact q3S K.eq K.same λx t y t' z=>absurd z (q1j hxa x t)
  have hres:((List.range (min vs.toArray.size ws.toArray.size)).all (λj=>rs.getD j true)&&vs.toArray.size==ws.toArray.size)=r:=by
   rw[hmin,q5v,k3]
   simp only[List.size_toArray,hvs.length,hws.length]
   by_cases hl:x.length=y.length
   ·simp only[hl,decide_true] at hr0
    rw[←Z6 hr0,hl];simp
   ·simp only[decide_eq_false hl] at hr0
    rw[←Z6 hr0,beq_eq_false_iff_ne.mpr hl];simp
  exact⟨hres▸SeqAt.RcAt.tuples (q0l e1) (q0l e2) hu key,hres▸SeqAt.RcNeAt.tuples (q0l e1) (q0l e2) hu key,hsame⟩
end
section
open PySem PySem.W
variable{B:Base}{W W':Wd}{fs:List Nat}{σ τ:S}{s s':Shared}
theorem vbytes{W:Wd}{l:List SI}{u:Value}(h:VR W (.bytes l) u):∃a t,u=.bytes a t∧All2 (q3d W) l a.toList∧l.length≤4096:=h
theorem q0n{W:Wd}{l:List SI}{u:Value}{X:Prop}(h:VR W (.bytes l) u)(g:∀a t,u=.bytes a t→All2 (q3d W) l a.toList→l.length≤4096→X):X:=X2x3 (vbytes h) g
theorem q5V(R:Rel B W fs σ s):∀(n:Nat)(a b:SV)(u v:Value)(r:Bool)(A:Around),eqS tb σ n a b=some r→VR W a u→VR W b v→A.units+n<cLine→EqOk A s u v r:=by
 intro n
 induction n with
 |zero=>exact λ_ _ _ _ _ _ h=>by exact zN h
 |succ n ihn=>
  intro a b u v r A h ha hb hu
  have hu':A.units<cLine:=Nat.lt_of_le_of_lt (Nat.le_add_right _ _) hu
  have ih:∀a b u v r,eqS tb σ n a b=some r→VR W a u→VR W b v→EqOk A.in1 s u v r:=λa b u v r h ha hb=>ihn a b u v r A.in1 h ha hb (by show A.units+1+n<cLine;lia)
  cases a with
  |none=>
   have ha:u=.none:=ha
   subst ha
   cases b with
   |none=>
    have hb:v=.none:=hb
    subst hb
    refine zI h ?_;clear h;rintro rfl
    exact⟨SeqAt.RcAt.none_none,SeqAt.RcNeAt.none_none,λ_=>rfl⟩
   |_=>exact zN h
  |bool x=>
   have ha:u=.bool x:=ha
   subst ha
   refine q02 (show oO (bOf b) (λy=>some (bi x y (not' y)))=some r from h) ?_;intro y h1 h
   have:=qbV h1
   subst this
   have hb:v=.bool y:=hb
   subst hb
   have hr:r=(x==y):=by cases x<;>cases y<;>(refine zI h ?_;clear h;rintro rfl)<;>rfl
   subst hr
   exact⟨SeqAt.RcAt.bool_bool _ _,SeqAt.RcNeAt.bool_bool _ _,λe=>by cases e;simp⟩
  |int i=>
   refine X2x3 ha ?_;clear ha;intro x t o1 hi _;subst o1
   refine q02 (show oO (siOf b) (λy=>i.same y)=some r from h) ?_;intro j h1 h
   have:=q3y h1
   subst this
   refine X2x3 hb ?_;clear hb;intro y t' o1 hj _;subst o1
   have hr:=q8Z h hi hj
   have hr:r=(x==y):=by rw[hr];rfl
   subst hr
   exact⟨SeqAt.RcAt.int_int _ _ _ _,SeqAt.RcNeAt.int_int _ _ _ _,λe=>by cases e;simp⟩
  |str x=>
   refine X1x2 ha ?_;clear ha;intro t o1 _;subst o1
   refine Z4 (q0f (show oE (sOf b) (oO (q0C tb σ b) (λ_=>some false)) (λy=>some (nlEq x y))=some r from h)) (λo2=>X0x2 o2 λ_ h=>?_) λo1=>X1x2 o1 λy h1 h=>?_
   ·refine q02 h ?_;intro z h1 h
    refine zI h ?_;clear h;rintro rfl
    refine R.tup_E7 h1 hb ?_;intro p vs m o1 e1 _ _;subst o1
    exact⟨SeqAt.RcAt.str_tuple _ _ (q0l e1) hu',SeqAt.RcNeAt.str_tuple _ _ (q0l e1) hu',λe=>by cases e⟩
   ·have:=q0X h1
    subst this
    refine X1x2 hb ?_;clear hb;intro t' o1 _;subst o1
    have hr:r=((⟨x.toArray⟩:Str)==⟨y.toArray⟩):=by
     refine zI h ?_;clear h;rintro rfl
     rw[q2T,Bool.eq_iff_iff,decide_eq_true_iff,beq_iff_eq]
     exact⟨λz=>by rw[z],λz=>by simpa using z⟩
    subst hr
    exact⟨SeqAt.RcAt.str_str _ _ _ _,SeqAt.RcNeAt.str_str _ _ _ _,λe=>by cases e;simp⟩
  |bytes x=>
   refine q0n ha ?_;intro bx t o1 hx _;subst o1
   refine q02 (show oO (yOf b) (λy=>bi (Nat.beq (len x) (len y)) (q2l x y) (some false))=some r from h) ?_;intro y h1 hh
   have:=q0x h1
   subst this
   refine q0n hb ?_;intro bY t' o1 hy _;subst o1
   have hr:r=(bx.toList==bY.toList):=by
    rw[q0g,q0o,q0o] at hh
    by_cases hl:x.length=y.length
    ·simp only[hl,decide_true] at hh
     exact q8q hh hl hx hy
    ·simp only[decide_eq_false hl] at hh
     refine zI hh ?_;clear hh;rintro rfl
     refine (beq_eq_false_iff_ne.mpr λz=>hl ?_).symm
     rw[←hx.length,←hy.length,z]
   subst hr
   exact⟨λprog w E Q hq=>eq_bytes hq,λprog w E Q hq=>ne_bytes hq,λe=>by cases e;simp⟩
  |ty _=>exact zN h
  |bi _=>exact zN h
  |old p=>exact q7A R ih (q28 n) hu' h ha hb
  |own k=>
   refine Z4 (q0f (show qbH tb σ (eqS tb σ n) (.own k) b=some r from h)) (λo2=>X0x2 o2 λ_ h=>?_) λo1=>X1x2 o1 λx h1 h=>?_
   ·exact q7A R ih (q28 n) hu' h ha hb
   ·refine q02 h ?_;intro y h2 h
    refine R.lst_E11 h1 ha ?_;intro k1 p vs m e0 e1 e2 o1 e3 hvs _;subst o1
    refine R.lst_E11 h2 hb ?_;intro k2 q ws m' e0' e1' e2' o1 e3' hws _;subst o1
    have hsame:Value.ref p.a=.ref q.a→r=true:=λe=>by
     have e:=Value.ref.inj e
     have hk:k1=k2:=by
      by_cases z:k1=k2
      ·exact z
      ·exact absurd (e▸.head _) (R.sep k1 k2 p q e2 e2' z p.a (.head _))
     rw[←hk,e1] at e1'
     cases e1'
     have h:bi (Nat.beq (len x) (len x)) (eqL (eqS tb σ n) x x) (some false)=some r:=h
     rw[q0g] at h
     simp at h
     exact q55 (q28 n) h
    have h:bi (Nat.beq (len x) (len y)) (eqL (eqS tb σ n) x y) (some false)=some r:=h
    rw[q0g,q0o,q0o] at h
    by_cases hl:x.length=y.length
    ·simp only[hl,decide_true] at h
     refine X1x4 (qgu h) ?_;intro rs k1 k2 k3 k4
     have hsz:vs.length=rs.length:=by rw[hvs.length,k1]
     have hsz2:ws.length=rs.length:=by rw[hws.length,k2,k1]
     have key:∀j (h1:j<vs.toArray.size) (h2:j<ws.toArray.size),SeqAt.EqAt A.in1 s vs.toArray[j] ws.toArray[j] (rs.getD j true):=λj g1 g2=>by
      refine X1x2 (q6a hvs (by simpa using g1)) ?_;intro xa xe hxa
      refine X1x2 (q6a hws (by simpa using g2)) ?_;intro ya ye hya
      refine X1x2 (k4 j xa ya xe ye) ?_;intro e re fe
      have hD:rs.getD j true=e:=by simp[List.getD_eq_getElem?_getD,re]
      rw[hD]
      have K:=ih _ _ _ _ _ fe hxa hya
      exact q3S K.eq K.same λx t y t' z=>absurd z (q1j hxa x t)
     have hres:(List.range vs.toArray.size).all (λj=>rs.getD j true)=r:=by
      simp only[List.size_toArray,hsz,q5v,k3]
     have hss:vs.toArray.size=ws.toArray.size:=by simp[hsz,hsz2]
     exact⟨hres▸SeqAt.RcAt.lists (q0b e3) (q0b e3') hss hu' key,hres▸SeqAt.RcNeAt.lists (q0b e3) (q0b e3') hss hu' key,hsame⟩
    ·simp only[decide_eq_false hl] at h
     refine zI h ?_;clear h;rintro rfl
     have hne:(vs.toArray.size != ws.toArray.size)=true:=by
      simp only[List.size_toArray,hvs.length,hws.length]
      exact bne_iff_ne.mpr hl
     exact⟨SeqAt.RcAt.lists_lengths (q0b e3) (q0b e3') hne hu',SeqAt.RcNeAt.lists_lengths (q0b e3) (q0b e3') hne hu',hsame⟩
theorem AOk.room{A:Around}{n:Nat}(H:AOk B n W fs A){m:Nat}(h:m≤800):A.units+m<cLine:=by
 have:=H.units
 have e:cLine=9900:=rfl
 lia
theorem qfB:CmpS B (qEq tb) .Eq:=λn W fs A σ s x y a b r E O R ha hb h=>by
 refine Z4 (q0f h) (λo2=>X0x2 o2 λ_ h=>?_) λo1=>X1x2 o1 λea h1 h=>?_
 ·exact(q5V R 7 x y a b r A h ha hb (O.room (by decide))).eq B.prog B.w E _ ⟨rfl,R⟩
 ·refine q02 h ?_;intro eb h2 h
  cases ea with
  |cons _ _=>exact zN h
  |nil=>cases eb with
   |cons _ _=>exact zN h
   |nil=>
    refine zI h ?_;clear h;rintro rfl
    refine q0I h1 ?_;intro j o o1 g1 g2;subst o1
    refine q0I h2 ?_;intro k o' o1 g1' g2';subst o1
    have:=q1q g2
    subst this
    have:=q1q g2'
    subst this
    refine X1x2 ha ?_;clear ha;intro p hp o1;subst o1
    refine X1x2 hb ?_;clear hb;intro q hq o1;subst o1
    refine X2x3 (R.objs _ _ _ g1 hp) ?_;intro kvs ep e1 e2 _
    refine X2x3 (R.objs _ _ _ g1' hq) ?_;intro kvs' ep' e1' e2' _
    cases e2
    cases e2'
    exact keq_eq (R.notMods hp) (R.notMods hq) e1.dictOf e1'.dictOf (O.room (m:=0) (by decide)) (λ_=>.nil) ⟨rfl,R⟩
theorem qfu:CmpS B (qNe tb) .NotEq:=λn W fs A σ s x y a b r E O R ha hb h=>by
 have h:=q2y h
 have:=(q5V R 7 x y a b (!r) A h ha hb (O.room (by decide))).ne B.prog B.w E
 rw[Bool.not_not] at this
 exact this _ ⟨rfl,R⟩
end
section
open PySem PySem.W
variable{B:Base}{W W':Wd}{fs:List Nat}{σ τ:S}{s s':Shared}
theorem q9O{x:SV}:∀{l:List SV}{r:Bool},q5M tb σ x l=some r→∃rs:List Bool,rs.length=l.length∧rs.any id=r∧∀(j:Nat)(y:SV),l[j]?=some y→∃e,rs[j]?=some e∧eqS tb σ 4 y x=some e:=by
 intro l
 induction l with
 |nil=>
  intro r h
  have h:some false=some r:=h
  refine zI h ?_;clear h;rintro rfl
  exact⟨[],rfl,rfl,λj y e=>oN e⟩
 |cons y l ih=>
  intro r h
  refine q02 (show oO (eqS tb σ 4 y x) (λe=>oO (q5M tb σ x l) (λr=>some (bi e true r)))=some r from h) ?_;intro e h1 h2
  refine q02 h2 ?_;intro q h3 h4
  refine X1x3 (ih h3) ?_;intro rs k1 k3 k4
  refine⟨e::rs,congrArg Nat.succ k1,?_,λj u e1=>?_⟩
  ·rw[List.any_cons,k3,←Z6 h4]
   cases e<;>rfl
  ·cases j with
   |zero=>rw[←Z6 e1];exact⟨e,rfl,h1⟩
   |succ j=>exact k4 j u e1
open Classical in
def q6m(vs:List Value)(rs:List Bool)(y:Value):Bool:=decide (∃j:Nat,vs[j]?=some y∧rs[j]?=some true)
theorem q2t{vs:List Value}{rs:List Bool}{y:Value}:q6m vs rs y=true↔∃j:Nat,vs[j]?=some y∧rs[j]?=some true:=by
 unfold q6m;simp
theorem q9b{vs:List Value}{rs:List Bool}(h:vs.length=rs.length):vs.toArray.any (q6m vs rs)=rs.any id:=by
 rw[←Array.any_toList,Bool.eq_iff_iff,List.any_eq_true,List.any_eq_true]
 constructor
 ·rintro⟨y,hy,hp⟩
  refine X1x2 (q2t.mp hp) ?_;intro j _ h2
  exact⟨true,Zd h2,rfl⟩
 ·rintro⟨b,hb,hp⟩
  have hp:b=true:=hp
  subst hp
  refine X1x1 (List.getElem_of_mem hb) ?_;intro j o1;refine X1x1 o1 ?_;clear o1;intro hj e
  have hj':j<vs.length:=by rw[h];exact hj
  exact⟨vs[j],by simp,q2t.mpr ⟨j,List.getElem?_eq_getElem hj',by rw[List.getElem?_eq_getElem hj,e]⟩⟩
theorem q5L(R:Rel B W fs σ s){A:Around}{x:SV}{l:List SV}{r:Bool}{u:Value}{vs:List Value}(h:q5M tb σ x l=some r)(hx:VR W x u)(hl:VRs W l vs)(hu:A.units+10<cLine) :
  ∃e:Value→Bool,(∀y,y∈vs.toArray→SeqAt.EqAt A.in1 s y u (e y))∧vs.toArray.any e=r:=by
 refine X1x3 (q9O h) ?_;intro rs k1 k2 k3
 have hlen:vs.length=rs.length:=by rw[hl.length,k1]
 refine⟨q6m vs rs,λy hy=>?_,by rw[q9b hlen,k2]⟩
 have at_:∀(j:Nat)(b:Bool),vs[j]?=some y→rs[j]?=some b→SeqAt.EqAt A.in1 s y u b:=λj b e1 e2=>by
  have hj:=(List.getElem?_eq_some_iff.mp e1).1
  refine X1x2 (q6a hl hj) ?_;intro xa xe hxa
  refine X1x2 (k3 j xa xe) ?_;intro e re fe
  rw[e2] at re;(refine zI re ?_;clear re;rintro rfl)
  have:vs[j]=y:=by rw[List.getElem?_eq_getElem hj] at e1;exact Z6 e1
  rw[this] at hxa
  have K:=q5V R 4 xa x y u b A.in1 fe hxa hx (by show A.units+1+4<cLine;lia)
  exact q3S K.eq K.same λx t y t' z=>absurd z (q1j hxa x t)
 by_cases hp:∃j:Nat,vs[j]?=some y∧rs[j]?=some true
 ·refine X1x2 hp ?_;clear hp;intro j e1 e2
  have:q6m vs rs y=true:=q2t.mpr ⟨j,e1,e2⟩
  rw[this];exact at_ j true e1 e2
 ·have:q6m vs rs y=false:=by
   cases q:q6m vs rs y with
   |false=>rfl
   |true=>exact absurd (q2t.mp q) hp
  rw[this]
  refine X1x1 (List.getElem_of_mem (by simpa using hy:y∈vs)) ?_;intro j o1;refine X1x1 o1 ?_;clear o1;intro hj e
  have e1:vs[j]?=some y:=by rw[List.getElem?_eq_getElem hj,e]
  have hj':j<rs.length:=by rw[←hlen];exact hj
  cases hb:rs[j] with
  |true=>exact absurd ⟨j,e1,by rw[List.getElem?_eq_getElem hj',hb]⟩ hp
  |false=>exact at_ j false e1 (by rw[List.getElem?_eq_getElem hj',hb])
theorem q3w{x y:List Nat}:((⟨x.toArray⟩:Str)=⟨y.toArray⟩)↔x=y:=⟨λz=>by simpa using z,λz=>by rw[z]⟩
theorem q6v{x:List Nat}{es:List (List Nat×SV)}{kvs:List (Str×Value)}(H:All2 (q5f W) es kvs):OptR W (keyS x es) (valueAt kvs ⟨x.toArray⟩):=by
 induction H with
 |nil=>rfl
 |@cons p q es kvs hp hr ih=>
  show OptR W (bi (nlEq p.1 x) (some p.2) (keyS x es)) (valueAt (q::kvs) ⟨x.toArray⟩)
  unfold valueAt
  rw[q2T,List.find?_cons,hp.1]
  by_cases h:p.1=x
  ·simp only[h,decide_true]
   exact⟨q.2,rfl,hp.2.2⟩
  ·have:decide ((⟨p.1.toArray⟩:Str)=⟨x.toArray⟩)=false:=decide_eq_false λz=>h (q3w.mp z)
   simp only[decide_eq_false h,this]
   exact ih
theorem q6w{x:Int}{es:List (Int×SV)}{kvs:List (Int×Value)}(H:All2 (q5g W) es kvs):OptR W (keyI x es) (valueAt kvs x):=by
 induction H with
 |nil=>rfl
 |@cons p q es kvs hp hr ih=>
  show OptR W (bi (iEq p.1 x) (some p.2) (keyI x es)) (valueAt (q::kvs) x)
  unfold valueAt
  rw[q2b,List.find?_cons,hp.1]
  by_cases h:p.1=x
  ·simp only[h,decide_true]
   exact⟨q.2,rfl,hp.2.2⟩
  ·simp only[decide_eq_false h]
   exact ih
theorem q4t{o:Option SV}{v:Option Value}(h:OptR W o v):isSome o=v.isSome:=by
 cases o with
 |none=>have h:v=none:=h;rw[h];rfl
 |some a=>(refine X1x2 h ?_;clear h;intro u o1 _;subst o1);rfl
theorem emptyDict{a:Addr}{ep:Nat}{h:Heap}(e:h.DictAt (strKind B.prog B.w) a [] ep):h.DictAt (intKind B.prog B.w) a [] ep:=by
 refine X2x6 e ?_;clear e;intro o es h1 h2 h3 h4 h5 h6
 have hes:es.toList=[]:=by
  cases hh:es.toList with
  |nil=>rfl
  |cons x r=>rw[hh] at h5;cases h5
 refine⟨o,es,h1,h2,h3,?_,?_,by simp⟩
 ·have:es=#[]:=by cases es;simpa using hes
  subst this
  intro i hi
  simp at hi
 ·rw[hes];exact .nil
theorem q1p{i:Int}{t:Tok}:(intKind B.prog B.w).is i (.int i t)=true:=by simp[intKind,Value.isInt]
theorem q1S{x:Str}{t:Tok}:(strKind B.prog B.w).is x (.str x t)=true:=by simp[strKind,Value.isStrOf]
theorem vint{i:Int}{u:Value}(h:VR W (.int (.lit i)) u):∃t,u=.int i t∧i.natAbs<2305843009213693952:=by
 refine X2x3 h ?_;clear h;intro x t o1 h b;subst o1
 have h:x=i:=h
 subst h
 exact⟨t,rfl,b⟩
theorem q0d{i:Int}{u:Value}{X:Prop}(h:VR W (.int (.lit i)) u)(g:∀t,u=.int i t→i.natAbs<2305843009213693952→X):X:=X1x2 (vint h) g
inductive ConQ(B:Base)(A:Around)(s:Shared)(u v:Value)(r:Bool):Prop
 |mk (i:∀(E:Value→Shared→Prop)(Q:Value→Shared→Prop),(∀t,Q (.bool r) {s with toks:=t})→wpAny (model B.prog B.w) A (compareOp .In u v) Q E s)
    (n:∀(E:Value→Shared→Prop)(Q:Value→Shared→Prop),(∀t,Q (.bool (!r)) {s with toks:=t})→wpAny (model B.prog B.w) A (compareOp .NotIn u v) Q E s):ConQ B A s u v r
theorem q3V(R:Rel B W fs σ s){A:Around}{x y:SV}{u v:Value}{r:Bool}(h:Mine.Internal.contains tb σ x y=some r)(hx:VR W x u)(hy:VR W y v)(hu:A.units+10<cLine):ConQ B A s u v r:=by
 refine Z4 (q0f h) (λo2=>X0x2 o2 λ_ ha=>?_) λo1=>X1x2 o1 λl h1 ha=>?_
 ·refine Z4 (q0f ha) (λo2=>X0x2 o2 λ_ hb=>?_) λo1=>X1x2 o1 λl h1 hb=>?_
  ·have dct:∀{K:Type}[DecidableEq K]{knd:PySem.KeyKind B.prog B.w K}{d:Addr}{kvs:List (K×Value)}{ep:Nat}{k:K}{r:Bool},(d==sysModules)=false→s.heap.DictAt knd d kvs ep→knd.is k u=true→(valueAt kvs k).isSome=r→ConQ B A s u (.ref d) r:=
    λhd e hk hr=>⟨λE Q hq=>wpAny_in_of hk hd e.dictOf.mapOf (hr▸hq _),λE Q hq=>wpAny_notIn_of hk hd e.dictOf.mapOf (hr▸hq _)⟩
   refine Z4 (q0f hb) (λo2=>X0x2 o2 λ_ hc=>?_) λo1=>X1x2 o1 λes h1 hc=>?_
   ·refine q02 hc ?_;intro es h1 hd
    refine q02 hd ?_;intro i h2 he
    refine zI he ?_;clear he;rintro rfl
    refine q0I h1 ?_;intro k o ey g1 g2
    rw[q3U g2] at g1
    rw[q0c h2] at hx
    rw[ey] at hy
    refine q0d hx ?_;intro t o1 _;subst o1
    refine X1x2 hy ?_;clear hy;intro p hp o1;subst o1
    refine X2x3 (R.objs _ _ _ g1 hp) ?_;intro kvs ep e1 e2 _
    exact dct (R.notMods hp) e1 q1p (q4t (q6w e2)).symm
   ·refine q0I h1 ?_;intro k o ey g1 g2
    rw[q1q g2] at g1
    rw[ey] at hy
    refine X1x2 hy ?_;clear hy;intro p hp o1;subst o1
    refine X2x3 (R.objs _ _ _ g1 hp) ?_;intro kvs ep e1 e2 _
    refine Z4 (q0f hc) (λo2=>X0x2 o2 λ_ hd=>?_) λo1=>X1x2 o1 λz h2 hd=>?_
    ·cases es with
     |cons _ _=>exact zN hd
     |nil=>
      refine q02 (show oO (iOf x) (λ_=>some false)=some r from hd) ?_;intro i h2 he
      refine zI he ?_;clear he;rintro rfl
      rw[q0c h2] at hx
      refine q0d hx ?_;intro t o1 _;subst o1
      cases e2
      exact dct (R.notMods hp) (emptyDict e1) q1p rfl
    ·refine zI hd ?_;clear hd;rintro rfl
     rw[q0X h2] at hx
     refine X1x2 hx ?_;clear hx;intro t o1 _;subst o1
     exact dct (R.notMods hp) e1 q1S (q4t (q6v e2)).symm
  ·refine R.lst_E11 h1 hy ?_;intro k p vs n e0 e1 e2 o1 e3 hvs _;subst o1
   refine X1x2 (q5L R hb hx hvs hu) ?_;intro e he hr
   exact⟨λE Q hq=>SeqAt.in_listAt e (q0b e3) he (hr▸hq s.toks),λE Q hq=>SeqAt.notIn_listAt e (q0b e3) he (hr▸hq s.toks)⟩
 ·refine R.tup_E7 h1 hy ?_;intro p vs n o1 e1 hvs _;subst o1
  refine X1x2 (q5L R ha hx hvs hu) ?_;intro e he hr
  exact⟨λE Q hq=>SeqAt.in_tupleAt e (q0l e1) he (hr▸hq s.toks),λE Q hq=>SeqAt.notIn_tupleAt e (q0l e1) he (hr▸hq s.toks)⟩
theorem qfy:CmpS B (qIn tb) .In:=λn W fs A σ s x y a b r E O R ha hb h=>by
 obtain⟨i,_⟩:=q3V R h ha hb (O.room (by decide))
 exact i E _ λt=>⟨rfl,R.toks⟩
theorem qdl:CmpS B (qNin tb) .NotIn:=λn W fs A σ s x y a b r E O R ha hb h=>by
 obtain⟨_,i⟩:=q3V R (q2y h) ha hb (O.room (by decide))
 exact i E _ λt=>⟨by rw[Bool.not_not],R.toks⟩
theorem q89{x:SV}{u:Value}(h:VR W x u):(u==Value.none)=isNone x:=by
 cases x with
 |none=>have h:u=.none:=h;subst h;rfl
 |bool b=>have h:u=.bool b:=h;subst h;rfl
 |int i=>(refine X2x2 h ?_;clear h;intro _ _ o1 _;subst o1);rfl
 |str l=>(refine X1x2 h ?_;clear h;intro _ o1 _;subst o1);rfl
 |bytes l=>(refine X2x2 h ?_;clear h;intro _ _ o1 _;subst o1);rfl
 |ty n=>have h:u=.type _:=h;subst h;rfl
 |bi n=>have h:u=.builtin _:=h;subst h;rfl
 |old a=>have h:u=.ref a:=h;subst h;rfl
 |own k=>(refine X1x2 h ?_;clear h;intro _ _ o1;subst o1);rfl
theorem qcn(R:Rel B W fs σ s){x y:SV}{u v:Value}{r:Bool}(h:isS σ x y=some r)(hx:VR W x u)(hy:VR W y v) :
  (v=.none∧r=(u==Value.none))∨∃p q,u=.ref p∧v=.ref q∧((p=q∧r=true)∨(p≠q∧r=false∧∃ox oy,s.heap.get? p=some ox∧s.heap.get? q=some oy∧ox.cls≠.type "tuple")):=by
 refine Z4 (q0f h) (λo2=>X0x2 o2 λ_ ha=>?_) λo1=>X1x2 o1 λj h1 ha=>?_
 ·left
  cases hn:isNone y with
  |false=>rw[hn] at ha;exact zN ha
  |true=>
   rw[hn] at ha
   rw[q1w hn] at hy
   refine zI ha ?_;clear ha;rintro rfl
   exact⟨hy,(q89 hx).symm⟩
 ·right
  rw[q0L h1] at hy
  refine q02 ha ?_;intro i h2 hb
  rw[q0L h2] at hx
  refine X1x2 hx ?_;clear hx;intro p hp o1;subst o1
  refine X1x2 hy ?_;clear hy;intro q hq o1;subst o1
  refine⟨p.a,q.a,rfl,rfl,?_⟩
  have hb:bi (Nat.beq i j) (some true) (oO (σ.get i) (λo=>oO (inOf o) (λ_=>oO (σ.get j) (λ_=>some false))))=some r:=hb
  rw[q0g] at hb
  by_cases hij:i=j
  ·rw[←hij,hp] at hq;(refine zI hq ?_;clear hq;rintro rfl)
   simp only[hij,decide_true] at hb
   exact .inl ⟨rfl,(Z6 hb).symm⟩
  ·right
   simp only[decide_eq_false hij] at hb
   refine q02 hb ?_;intro o h3 hc
   refine q02 hc ?_;intro z h4 hd
   refine q02 hd ?_;intro o' h5 he
   refine zI he ?_;clear he;rintro rfl
   rw[q2E h4] at h3
   refine X3x5 (R.objs _ _ _ h3 hp) ?_;intro dx ds m ec e0 e1 e2 _
   refine X1x1 ((R.own q (Zd hq) q.a (.head _)).2) ?_;intro o'' e3
   exact⟨λz=>R.sep i j p q hp hq hij p.a (.head _) (z▸.head _),rfl,_,o'',e1,e3,λz=>by cases z⟩
theorem qfx:CmpS B qIs .Is:=λn W fs A σ s x y a b r E O R ha hb h=>by
 focus (refine Z4 (qcn R h ha hb) ?_ ?_;rotate_left;intro o1;refine X2x3 o1 ?_;clear o1;intro p q o2 o3 o4;subst o2;subst o3;rcases o4 with ⟨rfl,rfl⟩|⟨hne,rfl,ox,oy,e1,e2,e3⟩;rotate_right;intro o5;refine X0x2 o5 ?_;clear o5;intro o6 o7;subst o6;subst o7)
 ·exact is_none ⟨rfl,R⟩
 ·exact wpAny_is_ref_self ⟨rfl,R⟩
 ·exact wpAny_is_ref_other hne e1 e2 e3 ⟨rfl,R⟩
theorem qdk:CmpS B qNis .IsNot:=λn W fs A σ s x y a b r E O R ha hb h=>by
 focus (refine Z4 (qcn R (q2y h) ha hb) ?_ ?_;rotate_left;intro o1;refine X2x3 o1 ?_;clear o1;intro p q o2 o3 o4;subst o2;subst o3;rcases o4 with ⟨rfl,hr⟩|⟨hne,hr,ox,oy,e1,e2,e3⟩;rotate_right;intro o5;refine X0x2 o5 ?_;clear o5;intro o6 hr;subst o6)
 ·exact isNot_none ⟨by rw[←hr,Bool.not_not],R⟩
 ·exact wpAny_isNot_ref_self ⟨by cases r<;>simp_all,R⟩
 ·exact wpAny_isNot_ref_other hne e1 e2 e3 ⟨by cases r<;>simp_all,R⟩
end
section
open PySem PySem.W PyProof.Rows
theorem q4O:Slot "bytes" (cmpInfo .LtE).2.1 "bytes.__le__":=
 .of (owner:="bytes") (n:="__le__") (by rw[typeLookup_type,builtinLookup_eq_fast];kernel_rfl) (by decide +kernel) (by decide +kernel) (by decide +kernel)
  (by first|exact .inl (by decide +kernel)|exact .inr (by decide +kernel)) (by rw[isSubtype_type];kernel_rfl)
theorem q4c:entryFor table "bytes.__le__"=some Builtin.«bytes.__le__»:=entryFor_of_tree (by kernel_rfl)
theorem q5d(a b:Value):argsOk "bytes.__le__" ⟨[a,b],[]⟩:=by
 unfold argsOk;rw[signature?_of (id:="bytes.__le__") (n:=['_','_','e','l','_','_']) (o:=['s','e','t','y','b']) (by kernel_rfl) PySem.W.FB.owner_bytes];kernel_rfl
theorem q4a(b c:Array UInt8)(t u:Tok):Gives (Builtin.«bytes.__le__» ⟨[.bytes b t,.bytes c u],[]⟩) (.val (.bool (Builtin.Bytes.order b.toList c.toList != .gt))):=by
 refine .of_wp λM A E s Q hq=>?_
 show wpAny M A (isInstance (.bytes c u) (.type "bytes")>>=λr=>_) _ E s
 refine Z0 (wpAny_isInstance (typeIs_bytes s c u) PySem.F.sub_bytes_bytes ?_)
 exact Z3 ⟨_,rfl,hq⟩
theorem q3M(a b:Int):iLt a b=decide (a<b):=by
 cases a with
 |ofNat x=>cases b with
  |ofNat y=>
   show Nat.blt x y=_
   rw[Bool.eq_iff_iff,decide_eq_true_iff]
   exact⟨λh=>by have:=Nat.blt_eq.mp h;simp;lia,λh=>Nat.blt_eq.mpr (by simp at h;lia)⟩
  |negSucc y=>exact(decide_eq_false (by intro h;have:(0:Int)≤Int.ofNat x:=Int.natCast_nonneg x;have:=Int.negSucc_lt_zero y;lia)).symm
 |negSucc x=>cases b with
  |ofNat y=>exact(decide_eq_true (by have:(0:Int)≤Int.ofNat y:=Int.natCast_nonneg y;have:=Int.negSucc_lt_zero x;lia)).symm
  |negSucc y=>
   show Nat.blt y x=_
   rw[Bool.eq_iff_iff,decide_eq_true_iff]
   exact⟨λh=>by have:=Nat.blt_eq.mp h;lia,λh=>Nat.blt_eq.mpr (by lia)⟩
theorem q9R(a b:Int):iLe a b=decide (a≤b):=by
 cases a with
 |ofNat x=>cases b with
  |ofNat y=>
   show Nat.ble x y=_
   rw[Bool.eq_iff_iff,decide_eq_true_iff]
   exact⟨λh=>by have:=Nat.ble_eq.mp h;simp;lia,λh=>Nat.ble_eq.mpr (by simp at h;lia)⟩
  |negSucc y=>exact(decide_eq_false (by intro h;have:(0:Int)≤Int.ofNat x:=Int.natCast_nonneg x;have:=Int.negSucc_lt_zero y;lia)).symm
 |negSucc x=>cases b with
  |ofNat y=>exact(decide_eq_true (by have:(0:Int)≤Int.ofNat y:=Int.natCast_nonneg y;have:=Int.negSucc_lt_zero x;lia)).symm
  |negSucc y=>
   show Nat.ble y x=_
   rw[Bool.eq_iff_iff,decide_eq_true_iff]
   exact⟨λh=>by have:=Nat.ble_eq.mp h;lia,λh=>Nat.ble_eq.mpr (by lia)⟩
theorem q54(a b:Int):iAdd a b=a+b:=by
 cases a with
 |ofNat x=>cases b with
  |ofNat y=>rfl
  |negSucc y=>rfl
 |negSucc x=>rfl
theorem q6y(a b:Int):iSub a b=a-b:=by
 cases a with
 |ofNat x=>cases b with
  |ofNat y=>
   show bi (Nat.ble y x) (Int.ofNat (Nat.sub x y)) (Int.negSucc (Nat.sub (Nat.sub y x) 1))=_
   cases h:Nat.ble y x with
   |true=>
    have:=Nat.ble_eq.mp h
    exact Int.ofNat_sub this
   |false=>
    have:¬y≤x:=λz=>by rw[Nat.ble_eq.mpr z] at h;exact zT h
    rw[Int.negSucc_eq];exact subn this
  |negSucc y=>rfl
 |negSucc x=>rfl
theorem qdW(a b:Int):iMul a b=a*b:=by
 cases a with
 |ofNat x=>cases b with
  |ofNat y=>rfl
  |negSucc y=>rfl
 |negSucc x=>rfl
theorem q1o{i:Int}{n:Nat}(h:q2j i=some n):i=n:=by cases i<;>(first|(refine zI h ?_;clear h;rintro rfl)|(exact zN h));rfl
theorem q87{i:Int}(h:q2j i=none):i<0:=by
 cases i with
 |ofNat n=>exact zS h
 |negSucc n=>exact Int.negSucc_lt_zero n
theorem q9Q{i:Int}(h:iOk i=true):i.natAbs≤1152921504606846976:=by
 cases i with
 |ofNat n=>exact Z8 h
 |negSucc n=>exact Nat.blt_eq.mp h
section
variable{B:Base}{W W':Wd}{fs:List Nat}{σ τ:S}{s s':Shared}
theorem qfv:CmpS B qLt .Lt:=λn W fs A σ s x y a b r E O R ha hb h=>by
 refine q02 h ?_;intro i h1 h2
 refine q02 h2 ?_;intro j h3 h4
 refine zI h4 ?_;clear h4;rintro rfl
 rw[q0c h1] at ha;rw[q0c h3] at hb
 refine q0d ha ?_;intro t o1 _;subst o1
 refine q0d hb ?_;intro t' o1 _;subst o1
 exact P.lt_int ⟨by rw[q3M],R⟩
theorem qfA:CmpS B qGe .GtE:=λn W fs A σ s x y a b r E O R ha hb h=>by
 refine q02 h ?_;intro i h1 h2
 refine q02 h2 ?_;intro j h3 h4
 refine zI h4 ?_;clear h4;rintro rfl
 rw[q0c h1] at ha;rw[q0c h3] at hb
 refine q0d ha ?_;intro t o1 _;subst o1
 refine q0d hb ?_;intro t' o1 _;subst o1
 exact P.ge_int ⟨by rw[q9R],R⟩
theorem q2Y{W:Wd}{e:Bool}{a b:List SI}{x y:List UInt8}{r:Bool}(h:q41 e a b=some r)(ha:All2 (q3d W) a x)(hb:All2 (q3d W) b y):r=(if e then Builtin.Bytes.order x y != .gt else Builtin.Bytes.order x y==.lt):=by
 induction ha generalizing b y with
 |nil=>
  cases hb with
  |nil=>
   have h:some (bi true e true)=some r:=h
   cases e<;>(refine zI h ?_;clear h;rintro rfl)<;>rfl
  |cons _ _=>
   have h:some (bi false e true)=some r:=h
   cases e<;>(refine zI h ?_;clear h;rintro rfl)<;>rfl
 |@cons i u a x hi ha ih=>
  cases hb with
  |nil=>
   have h:some false=some r:=h
   cases e<;>(refine zI h ?_;clear h;rintro rfl)<;>rfl
  |@cons j v b y hj hb=>
   refine q02 (show oO (q48 i) (λp=>oO (q48 j) (λq=>bi (iEq p q) (q41 e a b) (some (iLt p q))))=some r from h) ?_;intro p h1 h2
   refine q02 h2 ?_;intro q h3 h4
   rw[q2O h1] at hi
   rw[q2O h3] at hj
   have hi:(u.toNat:Int)=p:=hi
   have hj:(v.toNat:Int)=q:=hj
   have hlt:u<v↔p<q:=by rw[←hi,←hj];exact UInt8.lt_iff_toNat_lt.trans Int.ofNat_lt.symm
   have hgt:v<u↔q<p:=by rw[←hi,←hj];exact UInt8.lt_iff_toNat_lt.trans Int.ofNat_lt.symm
   rw[q2b,q3M] at h4
   simp only[Builtin.Bytes.order]
   by_cases hpq:p=q
   ·simp only[hpq,decide_true] at h4
    have n1:¬u<v:=λz=>Int.lt_irrefl _ (hpq▸hlt.mp z)
    have n2:¬u>v:=λz=>Int.lt_irrefl _ (hpq▸hgt.mp z)
    rw[if_neg n1,if_neg n2]
    exact ih h4 hb
   ·simp only[decide_eq_false hpq] at h4
    have h4:=Z6 h4
    by_cases hl:p<q
    ·rw[if_pos (hlt.mpr hl),←h4];cases e<;>simp[hl]
    ·have n1:¬u<v:=λz=>hl (hlt.mp z)
     have n2:u>v:=hgt.mpr (Int.lt_iff_le_and_ne.mpr ⟨Int.not_lt.mp hl,Ne.symm hpq⟩)
     rw[if_neg n1,if_pos n2,←h4];cases e<;>simp[hl]
theorem qfw:CmpS B qLe .LtE:=λn W fs A σ s x y a b r E O R ha hb h=>by
 refine Z4 (q0f h) (λo2=>X0x2 o2 λ_ h2=>?_) λo1=>X1x2 o1 λi h1 h2=>?_
 ·refine q02 h2 ?_;intro i h1 h3
  refine q02 h3 ?_;intro j h4 h5
  rw[q0x h1] at ha;rw[q0x h4] at hb
  refine q0n ha ?_;intro u t o1 hu _;subst o1
  refine q0n hb ?_;intro v t' o1 hv _;subst o1
  have:=q2Y h5 hu hv
  exact compareOp_gives (op:=.LtE) (typeIs_bytes s u t) (typeIs_bytes s v t') q4O q4c (q5d _ _) (q4a u v t t') (λe=>nomatch e) ⟨by rw[this];rfl,R⟩
 ·refine q02 h2 ?_;intro j h3 h4
  refine zI h4 ?_;clear h4;rintro rfl
  rw[q0c h1] at ha;rw[q0c h3] at hb
  refine q0d ha ?_;intro t o1 _;subst o1
  refine q0d hb ?_;intro t' o1 _;subst o1
  exact P.le_int ⟨by rw[q9R],R⟩
theorem q2H{kv:KV}{i:Int}{t u:Tok}(R:Rel B W fs σ s)(h:q5P kv σ i=true):PQ B W fs (QV kv) (.int i t) {s with toks:=u}:=by
 refine q06 h ?_;intro h1 h2
 have:=q9Q h1
 exact PQ.tok R (qv (q13 (by lia)) h2)
theorem q76{x:Int}(h:x.natAbs<2305843009213693952):Builtin.Int.intBits x≤64:=intBits_le_64 (Int.lt_trans (by decide) (nab.mp h).1) (Int.lt_trans (nab.mp h).2 (by decide))
theorem qeo:BinS B bSub .Sub:=λn W fs A σ s x y a b kv E O R ha hb h=>by
 refine q00 h ?_;intro i h1 h2
 refine q00 h2 ?_;intro j h3 h4
 rw[q0c h1] at ha;rw[q0c h3] at hb
 refine q0d ha ?_;intro t o1 _;subst o1
 refine q0d hb ?_;intro t' o1 _;subst o1
 rw[q6y] at h4
 exact P.sub_int (q2H R h4)
theorem q1v{v:SV}{n:Nat}(h:nOf v=some n):v=.int (.lit n):=by
 refine q02 h ?_;intro i h1 h2
 rw[q0c h1,q1o h2]
theorem q5C{i j:Int}(h0:j.natAbs≠0)(hb:j.natAbs<2305843009213693952)(z:Builtin.divisionGoesByPylong i j=true):False:=by
 simp only[Builtin.divisionGoesByPylong,Bool.and_eq_true,decide_eq_true_eq] at z
 have z1:=z.1
 by_cases q:(j==0)=true
 ·rw[if_pos q] at z1;exact absurd z1 (by decide)
 ·rw[if_neg q] at z1;exact qho ((Nat.log2_lt h0).mpr (Nat.lt_trans hb (by decide))) z1
theorem qes:BinS B bDiv .FloorDiv:=λn W fs A σ s x y a b kv E O R ha hb h=>by
 refine q00 h ?_;intro i h1 h2
 refine q00 h2 ?_;intro j h3 h4
 rw[q1v h1] at ha;rw[q1v h3] at hb
 refine q0d ha ?_;intro t o1 b1;subst o1
 refine q0d hb ?_;intro t' o1 b2;subst o1
 have h4:bi (Nat.beq j 0) false (natK (i/j) (λz=>kv (.int (.lit (.ofNat z))) σ))=true:=h4
 rw[q0g,q1R] at h4
 by_cases hj:j=0
 ·simp only[hj,decide_true] at h4;exact zF h4
 simp only[decide_eq_false hj] at h4
 have e:((i:Int).fdiv (j:Int))=((i/j:Nat):Int):=by rw[Int.fdiv_eq_ediv_of_nonneg _ (Int.natCast_nonneg j)];rfl
 refine AutoIntOps.floordiv_1 (by simpa using hj) (λz=>?_) (by
  rw[e]
  refine PQ.tok R (qv (q13 ?_) h4)
  have h5:i/j≤i:=Nat.div_le_self i j
  have b1:i<2305843009213693952:=b1
  show i/j<2305843009213693952
  exact Nat.lt_of_le_of_lt h5 b1)
 exact q5C (by simpa using hj) b2 z
theorem qer:BinS B bMod .Mod:=λn W fs A σ s x y a b kv E O R ha hb h=>by
 refine q00 h ?_;intro i h1 h2
 refine q00 h2 ?_;intro j h3 h4
 rw[q1v h1] at ha;rw[q1v h3] at hb
 refine q0d ha ?_;intro t o1 b1;subst o1
 refine q0d hb ?_;intro t' o1 b2;subst o1
 have h4:bi (Nat.beq j 0) false (natK (i%j) (λz=>kv (.int (.lit (.ofNat z))) σ))=true:=h4
 rw[q0g,q1R] at h4
 by_cases hj:j=0
 ·simp only[hj,decide_true] at h4;exact zF h4
 simp only[decide_eq_false hj] at h4
 have e:((i:Int).fmod (j:Int))=((i%j:Nat):Int):=by rw[Int.fmod_eq_emod_of_nonneg _ (Int.natCast_nonneg j)];rfl
 refine PyProof.Rows.mod_int' (by simpa using hj) ?_
 rw[e]
 refine PQ.tok R (qv (q13 ?_) h4)
 have h5:i%j≤i:=Nat.mod_le i j
 have b1:i<2305843009213693952:=b1
 show i%j<2305843009213693952
 exact Nat.lt_of_le_of_lt h5 b1
theorem qep:BinS B bPow .Pow:=λn W fs A σ s x y a b kv E O R ha hb h=>by
 refine q00 h ?_;intro i h1 h2
 refine q00 h2 ?_;intro j h3 h4
 rw[q1v h1] at ha;rw[q1v h3] at hb
 refine q0d ha ?_;intro t o1 b1;subst o1
 refine q0d hb ?_;intro t' o1 b2;subst o1
 refine q06 h4 ?_;intro h5 h6
 refine q06 h6 ?_;intro h7 h8
 have h5:=Z8 h5
 have h7:=Z8 h7
 refine PyProof.Rows.pow_int (Int.natCast_nonneg j) ?_ ?_
 ·have hb:=q76 b1
  have:((Builtin.Int.intBits (i:Int):Nat):Int)*(j:Int)≤64*10:=by
   have e1:((Builtin.Int.intBits (i:Int):Nat):Int)≤64:=by exact_mod_cast hb
   have e2:(j:Int)≤10:=by exact_mod_cast h7
   exact Int.mul_le_mul e1 e2 (Int.natCast_nonneg j) (by decide)
  lia
 ·have e:((i:Int)^(j:Int).toNat)=Int.ofNat (Nat.pow i j):=by simp
  rw[e]
  exact q2H R h8
theorem q6X{α:Type}(l:List α)(n:Nat):times l n=(List.replicate n l).flatten:=by
 induction n with
 |zero=>rfl
 |succ n ih=>rw[times,ih,List.replicate_succ,List.flatten_cons]
theorem All2.times{α β:Type}{P:α→β→Prop}{l:List α}{l':List β}(h:All2 P l l'):∀n,All2 P (times l n) (times l' n)
 |0=>.nil
 |n+1=>h.app (All2.times h n)
theorem q8O{α:Type}(l:List α)(n:Nat):(times l n).length=n*l.length:=by
 induction n with
 |zero=>simp[times]
 |succ n ih=>simp only[times,List.length_append,ih,Nat.succ_mul];lia
theorem q7v{kv:KV}{b:List SI}{x:List UInt8}{t u:Tok}(R:Rel B W fs σ s)(hb:All2 (q3d W) b x)(h:q6z kv σ b=true):PQ B W fs (QV kv) (.bytes x.toArray t) {s with toks:=u}:=by
 refine q06 h ?_;intro h1 h2
 exact PQ.tok R (qv (x:=.bytes b) ⟨_,_,rfl,hb,q0A h1⟩ h2)
theorem qfO(R:Rel B W fs σ s){A:Around}{E:Value→Shared→Prop}{kv:KV}{l:List SV}{a:Addr}{vs:List Value}{q:Nat}{x:Int}{t':Tok}(e3:s.heap.get? a=some (q09 vs q))(hvs:VRs W l vs)
  (hlo:0≤x) (hhi:x≤1000) (hsz:vs.length*x.toNat≤4096) (h:σ.addLK (times l x.toNat) (λn σ=>kv (.own n) σ)=true):wpAny (model B.prog B.w) A (binaryOp .Mult (.ref a) (.int x t')) (PQ B W fs (QV kv)) E s:=by
 have hsz':vs.toArray.size*x.toNat≤4096:=by simpa using hsz
 refine wpAny_binaryOp_repeat_ref (T:="list") (U:="int") (by decide) ⟨_,e3,rfl⟩ (λs'=>typeIs_int s' x t') noFill_list_mul PySem.F.fills_int_mul PySem.F.slot_int_rmul repeat_list PySem.F.slot_int_index.lookup
  (call_meets PySem.F.slot_int_rmul (typeIs_int s x t') PySem.F.entry_int_rmul (PySem.F.args_int_rmul_2 _ _) (lm_int_rmul_list_any x t' a vs.toArray q none #[])
   ⟨e3,rfl,⟨_,e3,rfl⟩,call_meets PySem.F.slot_list_mul ⟨_,e3,rfl⟩ PySem.F.entry_list_mul (PySem.F.args_list_mul_2 _ _)
    (lm_list_mul_any a vs.toArray q none #[] x t' (by simp[Builtin.List.listFitsIndex];lia) (by lia) (by simp[Builtin.List.listTooLong,sizeLine];lia))
    ⟨e3,?_⟩⟩)
 rw[listMul_foldl_if]
 have:=(PQ.newList (t:=s.toks) (kv:=kv) (vs:=times vs x.toNat) R (hvs.times x.toNat) h).2
 rw[q6X] at this
 exact this
theorem qeq:BinS B bMul .Mult:=λn W fs A σ s x y a b kv E O R ha hb h=>by
 refine q00 h ?_;intro j h3 h4
 rw[q0c h3] at hb
 refine q0d hb ?_;intro t' o1 b2;subst o1
 refine Z4 (q0f h4) (λo2=>X0x2 o2 λ_ h5=>?_) λo1=>X1x2 o1 λi h1 h5=>?_
 ·refine Z4 (q0f h5) (λo2=>X0x2 o2 λ_ h6=>?_) λo1=>X1x2 o1 λl h1 h6=>?_
  ·refine q00 h6 ?_;intro l h1 h7
   refine q00 h7 ?_;intro m h8 h9
   refine q06 h9 ?_;intro h10 h11
   rw[q5p] at h11
   refine R.lst_E11 h1 ha ?_;intro k p vs q e0 e1 e2 o1 e3 hvs _;subst o1
   have hm:=Z8 h10
   have hj:=q1o h8
   subst hj
   refine q06 h11 ?_;intro g1 g2
   have hs:=q0A g1
   rw[q8O] at hs
   have hsz:vs.length*m≤4096:=by rw[hvs.length,Nat.mul_comm];exact hs
   exact qfO R e3 hvs (x:=(m:Int)) (by lia) (by lia) (by simpa using hsz) (by simpa using h11)
  ·obtain⟨h7,h8⟩:q0s l=false∧_=true:=by
    refine Z4 (q1c h6) (λz=>?_) λz=>?_
    ·cases z.2
    ·exact z
   refine q06 h8 ?_;intro h9 h10
   rw[q0x h1] at ha
   refine q0n ha ?_;intro u t o1 hu _;subst o1
   have hle:=Z8 h9
   rw[q0o] at hle
   have hne:u.toList≠[]:=λz=>by
    rw[z] at hu;cases hu;exact zT h7
   have hsz:u.toList.length≤16:=by rw[hu.length];exact hle
   have ht:u=u.toList.toArray:=by simp
   rw[ht]
   refine Z4 (q0f h10) (λo2=>X0x2 o2 λh11 h12=>?_) λo1=>X1x2 o1 λm h11 h12=>?_
   ·refine q06 h12 ?_;intro h13 h14
    rw[q9R] at h13
    have h13:=of_decide_eq_true h13
    have h11:=q87 h11
    refine bytes_mul_any hne (by lia) (by lia) hsz λt' k=>?_
    have:j.toNat=0:=by lia
    rw[this]
    exact PQ.tok R (qv (x:=.bytes []) ⟨_,_,rfl,.nil,by simp⟩ h14)
   ·refine q06 h12 ?_;intro h13 h14
    have h13:=Z8 h13
    rw[q5p] at h14
    have:=q1o h11
    subst this
    refine bytes_mul_any hne (by lia) (by lia) hsz λt' k=>?_
    have:=q7v (t:=t') (u:=k) R (hu.times m) h14
    rw[q6X] at this
    simpa using this
 ·rw[q0c h1] at ha
  refine q0d ha ?_;intro t o1 b1;subst o1
  rw[qdW] at h5
  exact P.mul_int (q2H R h5) (IntMulOk.of_left (q76 b1))
theorem qcf{α β:Type}{P:α→β→Prop}{l:List α}{m:List β}(h:q0s l=false)(H:All2 P l m):¬m.toArray.isEmpty=true:=λz=>by
 have q:=q2S H
 rw[h,z] at q
 exact Bool.false_ne_true q.symm
theorem qcC(R:Rel B W fs σ s){A:Around}{E:Value→Shared→Prop}{x y:SV}{a b:Value}{l m:List SV}{kv:KV}(ha:VR W x a)(hb:VR W y b)(h1:q0C tb σ x=some l)(h2:q0C tb σ y=some m)
  (h:bi (q0s l) false (bi (q0s m) false (catK l m (λz=>σ.addTK z (λn σ=>kv (.own n) σ))))=true):wpAny (model B.prog B.w) A (binaryOp .Add a b) (PQ B W fs (QV kv)) E s:=by
 refine R.tup_E7 h1 ha ?_;intro p vs n o1 e1 hvs _;subst o1
 refine R.tup_E7 h2 hb ?_;intro q ws k o1 e2 hws _;subst o1
 obtain⟨h3,h4⟩:q0s l=false∧_=true:=by
  refine Z4 (q1c h) (λz=>?_) λz=>?_
  ·cases z.2
  ·exact z
 obtain⟨h5,h6⟩:q0s m=false∧_=true:=by
  refine Z4 (q1c h4) (λz=>?_) λz=>?_
  ·cases z.2
  ·exact z
 rw[q1b] at h6
 have h6':=h6
 refine q06 h6' ?_;intro h7 _
 have hs:=q0A h7
 have hsz:vs.toArray.size+ws.toArray.size≤sizeLine:=by simp only[List.size_toArray,hvs.length,hws.length];rw[List.length_append] at hs;exact q0i hs
 have e:vs.toArray++ws.toArray=(vs++ws).toArray:=by simp
 refine concat_meets ⟨_,e1,rfl⟩ ⟨_,e2,rfl⟩ noFill_tuple_add seq_tuple_add PySem.F.slot_tuple_add PySem.F.entry_tuple_add (PySem.F.args_tuple_add_2 _ _) (tuple_addW2 p q vs.toArray ws.toArray n k none none #[] #[]
  (qcf h3 hvs) (qcf h5 hws) hsz) ⟨e1,e2,?_⟩
 rw[e]
 exact(PQ.newTuple (t:=s.toks) R (hvs.app hws) h6).2
theorem qet:BinS B (bAdd tb) .Add:=λn W fs A σ s x y a b kv E O R ha hb h=>by
 cases x with
 |int i=>
  refine X2x3 ha ?_;clear ha;intro u t o1 hu b1;subst o1
  cases i with
  |var k c=>exact zF h
  |lit i=>
   have hu:u=i:=hu
   subst hu
   refine q00 (show oB (siOf y) (λt=>@SI.rec (λ_=>Bool) (λy=>q5P kv σ (iAdd u y)) (λj c=>bi (iOk (iAdd u c)) (kv (.int (.var j (iAdd u c))) σ) false) t)=true from h) ?_;intro j h1 h2
   rw[q3y h1] at hb
   refine X2x3 hb ?_;clear hb;intro v t' o1 hv b2;subst o1
   cases j with
   |lit j=>
    have hv:v=j:=hv
    subst hv
    have h2:q5P kv σ (iAdd u v)=true:=h2
    rw[q54] at h2
    exact P.add_int (q2H R h2)
   |var k c=>
    refine q06 (show bi (iOk (iAdd u c)) (kv (.int (.var k (iAdd u c))) σ) false=true from h2) ?_;intro h3 h4
    refine X1x2 hv ?_;clear hv;intro z hz o1;subst o1
    rw[q54] at h3 h4
    have hr:=R.vars z (Zd hz)
    have:=q9Q h3
    exact P.add_int (PQ.tok R (qv (x:=.int (.var k (u+c))) ⟨_,_,rfl,⟨z,hz,by lia⟩,nabu hr this⟩ h4))
 |str l=>
  refine X1x2 ha ?_;clear ha;intro t o1 b1;subst o1
  refine q00 (show oB (sOf y) (λy=>catK l y (λz=>qgn kv σ z))=true from h) ?_;intro m h1 h2
  rw[q0X h1] at hb
  refine X1x2 hb ?_;clear hb;intro t' o1 b2;subst o1
  rw[q1b] at h2
  refine q06 h2 ?_;intro h3 h4
  have hs:=q0A h3
  refine PyProof.Rows.add_str (λt'' k=>?_) (by
   simp only[Str.length,List.size_toArray]
   rw[List.length_append] at hs
   exact q0i hs)
  have e:((⟨l.toArray⟩:Str)++⟨m.toArray⟩)=⟨(l++m).toArray⟩:=by
   show Str.mk (l.toArray++m.toArray)=_
   simp
  rw[e]
  exact PQ.tok R (qv (q3r hs) h4)
 |bytes l=>
  refine q0n ha ?_;intro u t o1 hu b1;subst o1
  refine q00 (show oB (yOf y) (λy=>catK l y (λz=>q6z kv σ z))=true from h) ?_;intro m h1 h2
  rw[q0x h1] at hb
  refine q0n hb ?_;intro v t' o1 hv b2;subst o1
  rw[q1b] at h2
  refine KBy.add_bytes (by
   have h1:u.size=l.length:=by simpa using hu.length
   have h2:v.size=m.length:=by simpa using hv.length
   lia) λt'' k=>?_
  have:=q7v (t:=t'') (u:=k) R (hu.app hv) h2
  rwa[show (u.toList++v.toList).toArray=u++v by rw[←Array.toList_append]] at this
 |old a'=>
  refine q00 h ?_;intro l h1 h2
  refine q00 h2 ?_;intro m h3 h4
  exact qcC R ha hb h1 h3 h4
 |own k=>
  refine Z4 (q0f (show oE (q0N σ (.own k)) (oB (q0C tb σ (.own k)) (λx=>oB (q0C tb σ y) (λy=>bi (q0s x) false (bi (q0s y) false (catK x y (λz=>σ.addTK z (λn σ=>kv (.own n) σ))))))) (λx=>oB (q0N σ y) (λy=>catK x y (λz=>σ.addLK z (λn σ=>kv (.own n) σ))))=true from h)) (λo2=>X0x2 o2 λ_ h2=>?_) λo1=>X1x2 o1 λl h1 h2=>?_
  ·refine q00 h2 ?_;intro l h1 h3
   refine q00 h3 ?_;intro m h4 h5
   exact qcC R ha hb h1 h4 h5
  ·refine q00 h2 ?_;intro m h3 h4
   refine R.lst_E11 h1 ha ?_;intro k1 p vs q e0 e1 e2 o1 e3 hvs _;subst o1
   refine R.lst_E11 h3 hb ?_;intro k2 p' ws q' e0' e1' e2' o1 e3' hws _;subst o1
   rw[q1b] at h4
   have h4':=h4
   refine q06 h4' ?_;intro h7 _
   have hs:=q0A h7
   have hsz:vs.toArray.size+ws.toArray.size≤sizeLine:=by simp only[List.size_toArray,hvs.length,hws.length];rw[List.length_append] at hs;exact q0i hs
   have e:vs.toArray++ws.toArray=(vs++ws).toArray:=by simp
   refine concat_meets ⟨_,e3,rfl⟩ ⟨_,e3',rfl⟩ noFill_list_add seq_list_add PySem.F.slot_list_add PySem.F.entry_list_add (PySem.F.args_list_add_2 _ _) (list_addW p.a p'.a vs.toArray ws.toArray q q' none none #[] #[] hsz) ⟨e3,e3',?_⟩
   rw[e]
   exact(PQ.newList (t:=s.toks) R (hvs.app hws) h4).2
 |_=>exact zF h
end
section
variable{B:Base}{sc:Scope}
theorem qc2{x:XC}{e:Expr}{pos:Pos}(hx:SX B sc x e):SX B sc (cNeg x) (.UnaryOp .USub e pos):=λn W fs c X σ s kv O R h=>by
 refine q3o (q0D (hx n W fs c X σ s _ O R h) λa W₁ σ₁ s₁ l₁ R₁ oY1x0=>?_)
 refine oY1x0.kE3 ?_;clear oY1x0;intro xa ha h₁
 refine q00 h₁ ?_;intro i h2 h3
 rw[q0c h2] at ha
 refine q0d ha ?_;intro t o1 b;subst o1
 rw[q6y] at h3
 have:(0:Int)-i=-i:=by lia
 rw[this] at h3
 exact toG (P.neg_int ((q2H R₁ h3).weaken l₁))
end
section
variable{B:Base}{W W':Wd}{fs:List Nat}{σ τ:S}{s s':Shared}
theorem q6K(n:Nat)(q:Int):clipAt n q≤n:=Int.ofNat_le.mp (by rw[clipAt_cast];exact Int.max_le.mpr ⟨Int.natCast_nonneg n,Int.min_le_right _ _⟩)
theorem qeb(n:Nat):clipAt n 20≤20:=Int.ofNat_le.mp (by rw[clipAt_cast];exact Int.max_le.mpr ⟨by decide,Int.min_le_left _ _⟩)
theorem q6H{α:Type}{l:List α}{a b n:Nat}(h:l.length≤n):((l.drop b).take (a-b)).length≤n:=by
 rw[List.length_take,List.length_drop]
 exact Nat.le_trans (Nat.min_le_right _ _) (Nat.le_trans (Nat.sub_le _ _) h)
theorem q5N{n k:Nat}{i:Int}(h:idx n i=some k):seqIndex? i n=some k∧k<n:=by
 cases i with
 |ofNat i=>
  have h:bi (Nat.blt i n) (some i) none=some k:=h
  cases hb:Nat.blt i n with
  |false=>rw[hb] at h;exact zN h
  |true=>
   rw[hb] at h
   have h:i=k:=Z6 h
   subst h
   have hb:=Nat.blt_eq.mp hb
   refine⟨?_,hb⟩
   have h1:¬(Int.ofNat i<0):=by simp
   simp only[seqIndex?,if_neg h1]
   rw[if_pos (by simp;lia)]
   simp
 |negSucc i=>
  have h:bi (Nat.blt i n) (some (Nat.sub (Nat.sub n i) 1)) none=some k:=h
  cases hb:Nat.blt i n with
  |false=>rw[hb] at h;exact zN h
  |true=>
   rw[hb] at h
   have h:n-i-1=k:=Z6 h
   subst h
   have hb:=Nat.blt_eq.mp hb
   refine⟨?_,Nat.sub_lt (Nat.lt_of_le_of_lt (Nat.zero_le i) hb) (Nat.succ_pos i)⟩
   have h1:Int.negSucc i<0:=Int.negSucc_lt_zero i
   simp only[seqIndex?,if_pos h1]
   have e:Int.negSucc i+(n:Int)=((n-i-1:Nat):Int):=by rw[Int.negSucc_eq];exact qdV hb
   rw[e,if_pos (by simp;lia)]
   simp
theorem q2w{α:Type}{l:List α}{i:SV}{x:α}(h:nthI l i=some x):∃(j:Int)(k:Nat),i=.int (.lit j)∧idx l.length j=some k∧l[k]?=some x:=by
 refine q02 h ?_;intro j h1 h2
 refine q02 h2 ?_;intro k h3 h4
 rw[q0o] at h3
 rw[q31] at h4
 exact⟨j,k,q0c h1,h3,h4⟩
theorem q2V{j:Int}(h:j.natAbs<2305843009213693952):-(2:Int)^63≤j∧j<2^63:=qfN (q7i h)
noncomputable def qaz(B:Base)(A:Around)(W:Wd)(fs:List Nat)(σ:S)(s:Shared)(u v:Value)(z:SV):Prop:=∃T id,typeLookup (.type T) "__getitem__"=pure (some (.builtin id))∧s.TypeIs u T∧
 ∀(E:Value→Shared→Prop),wpAny (model B.prog B.w) A (getItem u v) (λr s'=>VR W z r∧Rel B W fs σ s') E s
theorem qbo(R:Rel B W fs σ s){A:Around}{a:Addr}{vs:List Value}{q:Nat}{xs:List SV}{i z:SV}{v:Value}(e:s.heap.get? a=some (q09 vs q))(hl:VRs W xs vs)(h:nthI xs i=some z)(hi:VR W i v):qaz B A W fs σ s (.ref a) v z:=by
 refine X2x3 (q2w h) ?_;intro j k o1 h1 h2;subst o1
 refine q0d hi ?_;intro t o1 hb;subst o1
 refine X1x2 (hl.get h2) ?_;intro u hu hr
 have hf:=q2V hb
 refine⟨"list",_,list_getitem_lookup,⟨_,e,rfl⟩,λE=>?_⟩
 have hsz:vs.toArray.size=xs.length:=by simp[hl.length]
 refine X0x2 (q5N h1) ?_;intro h3 h4
 by_cases hj:j<0
 ·have h3':=h3
  simp only[seqIndex?,if_pos hj] at h3'
  split at h3'
  ·rename_i hc
   have hc:0≤j+(xs.length:Int)∧j+(xs.length:Int)<xs.length:=by simpa using hc
   refine wpAny_getItem_list_neg (q0b e) hj (by rw[hsz];lia) hf.1 ?_ ⟨hr,R⟩
   rw[hsz,Z6 h3']
   simpa using hu
  ·exact zN h3'
 ·have h3':=h3
  simp only[seqIndex?,if_neg hj] at h3'
  split at h3'
  ·refine wpAny_getItem_list (q0b e) (by lia) hf.2 ?_ ⟨hr,R⟩
   rw[Z6 h3']
   simpa using hu
  ·exact zN h3'
theorem q8M(R:Rel B W fs σ s){A:Around}{a:Addr}{vs:List Value}{q:Nat}{xs:List SV}{i z:SV}{v:Value}(e:s.heap.get? a=some (q0J vs q))(hl:VRs W xs vs)(h:nthI xs i=some z)(hi:VR W i v):qaz B A W fs σ s (.ref a) v z:=by
 refine X2x3 (q2w h) ?_;intro j k o1 h1 h2;subst o1
 refine q0d hi ?_;intro t o1 hb;subst o1
 refine X1x2 (hl.get h2) ?_;intro u hu hr
 have hf:=q2V hb
 refine X0x2 (q5N h1) ?_;intro h3 h4
 exact⟨"tuple",_,PySem.F.slot_tuple_getitem.lookup,⟨_,e,rfl⟩,λE=>PySem.P.getItem_tuple (n:=q) e hf.1 hf.2 (k:=k) (y:=u) (by simpa[hl.length] using h3) (by simpa using hu) ⟨hr,R⟩⟩
theorem qdP(R:Rel B W fs σ s){A:Around}{x y z:SV}{u v:Value}(h:item tb σ x y=some z)(hx:VR W x u)(hy:VR W y v):qaz B A W fs σ s u v z:=by
 cases x with
 |str l=>
  refine q02 (show oO (nthI l y) (λx=>some (.str [x]))=some z from h) ?_;intro c h1 h2
  refine zI h2 ?_;clear h2;rintro rfl
  refine X1x2 hx ?_;clear hx;intro t o1 _;subst o1
  refine X2x3 (q2w h1) ?_;intro j k o1 h3 h4;subst o1
  refine q0d hy ?_;intro t' o1 hb;subst o1
  have hf:=q2V hb
  refine X0x2 (q5N h3) ?_;intro h5 h6
  refine⟨"str",_,PySem.F.slot_str_getitem.lookup,typeIs_str _ _ _,λE=>P.getItem_str (c:=c) ?_ ?_ ⟨⟨_,rfl,by simp⟩,R.toks⟩⟩
  ·simp only[Bool.or_eq_false_iff,decide_eq_false_iff_not]
   exact⟨by have:=hf.1;lia,by have:=hf.2;lia⟩
  ·have e:(⟨l.toArray⟩:Str).length=l.length:=by simp[Str.length]
   rw[e,h5]
   simpa using h4
 |bytes l=>
  refine q02 (show oO (nthI l y) (λx=>some (.int x))=some z from h) ?_;intro i h1 h2
  refine zI h2 ?_;clear h2;rintro rfl
  refine q0n hx ?_;intro b t o1 hb' _;subst o1
  refine X2x3 (q2w h1) ?_;intro j k o1 h3 h4;subst o1
  refine q0d hy ?_;intro t' o1 hb;subst o1
  have hf:=q2V hb
  refine X0x2 (q5N h3) ?_;intro h5 h6
  refine X1x2 (hb'.get h4) ?_;intro c hc hr
  refine⟨"bytes",_,FB.slot_bytes_getitem.lookup,typeIs_bytes _ _ _,λE=>getItem_gives (typeIs_bytes _ _ _) (by decide) FB.slot_bytes_getitem FB.entry_bytes_getitem (FB.args_bytes_getitem_2 _ _) (gives_bytes_getitem b j t t' c ?_ ?_) ?_⟩
  ·simp only[Builtin.Bytes.fitsIndex,Bool.and_eq_true,decide_eq_true_eq]
   exact⟨hf.1,hf.2⟩
  ·have e:b.size=l.length:=by simpa using hb'.length
   rw[e,h5]
   simpa using hc
  ·refine⟨⟨_,_,rfl,hr,?_⟩,R.toks⟩
   exact nabn c.toNat_lt
 |old a=>
  refine q02 (show oO (tb.tp a) (λl=>nthI l y)=some z from h) ?_;intro l h1 h2
  refine R.tup_E7 (v:=.old a) h1 hx ?_;intro a' vs q o1 e1 hvs _;subst o1
  exact q8M R e1 hvs h2 hy
 |own k=>
  refine q02 (show oO (σ.get k) (λo=>q9L o y)=some z from h) ?_;intro o h1 h2
  refine X1x2 hx ?_;clear hx;intro p hp o1;subst o1
  have ho:=R.objs _ _ _ h1 hp
  cases o with
  |list xs=>
   refine X2x3 ho ?_;clear ho;intro vs m e1 e2 e3
   exact qbo R e1 e2 h2 hy
  |tuple xs=>
   refine X2x3 ho ?_;clear ho;intro vs m e1 e2 e3
   exact q8M R e1 e2 h2 hy
  |dictS es=>
   refine q02 (show oO (sOf y) (λs=>keyS s es)=some z from h2) ?_;intro x h3 h4
   refine X2x3 ho ?_;clear ho;intro kvs ep e1 e2 e3
   rw[q0X h3] at hy
   refine X1x2 hy ?_;clear hy;intro t o1 _;subst o1
   have hk:=q6v (x:=x) e2
   rw[h4] at hk
   refine X1x2 hk ?_;clear hk;intro u hu hr
   exact⟨"dict",_,slot_dict_getitem.lookup,e1.dictOf.typeIs,λE=>wpAny_getItem_of q1S e1.dictOf.mapOf hu ⟨hr,R.toks⟩⟩
  |dictI es=>
   refine q02 (show oO (iOf y) (λs=>keyI s es)=some z from h2) ?_;intro x h3 h4
   refine X2x3 ho ?_;clear ho;intro kvs ep e1 e2 e3
   rw[q0c h3] at hy
   refine q0d hy ?_;intro t o1 _;subst o1
   have hk:=q6w (x:=x) e2
   rw[h4] at hk
   refine X1x2 hk ?_;clear hk;intro u hu hr
   exact⟨"dict",_,slot_dict_getitem.lookup,e1.dictOf.typeIs,λE=>wpAny_getItem_of q1p e1.dictOf.mapOf hu ⟨hr,R.toks⟩⟩
  |_=>exact zN h2
 |_=>exact zN h
theorem q7F{n d:Nat}{x:SV}{a:Nat}{u:Value}(h:q8k n d x=some a)(hx:VR W x u):∃lo,IsPart u lo∧a=lo.elim d (clipAt n):=by
 cases hn:isNone x with
 |true=>
  rw[q1w hn] at hx
  have hx:u=.none:=hx
  subst hx
  rw[q1w hn] at h
  exact⟨none,.none,(Z6 h).symm⟩
 |false=>
  unfold q8k at h
  rw[hn] at h
  refine q02 h ?_;intro i h1 h2
  rw[q0c h1] at hx
  refine q0d hx ?_;intro t o1 _;subst o1
  refine⟨some i,.int i t,?_⟩
  show a=clipAt n i
  cases i with
  |ofNat i=>
   have h2:some (bi (Nat.ble i n) i n)=some a:=h2
   have h2:=Z6 h2
   rw[show (Int.ofNat i)=(i:Int) from rfl,clipAt_nat,←h2]
   cases hb:Nat.ble i n with
   |true=>have:=Nat.ble_eq.mp hb;exact(Nat.min_eq_left this).symm
   |false=>
    have:¬i≤n:=λz=>by rw[Nat.ble_eq.mpr z] at hb;exact zT hb
    exact(Nat.min_eq_right (Nat.le_of_lt (Nat.not_le.mp this))).symm
  |negSucc i=>
   have h2:some (bi (Nat.blt i n) (Nat.sub (Nat.sub n i) 1) 0)=some a:=h2
   have h2:=Z6 h2
   rw[show (Int.negSucc i)=-((i+1:Nat):Int) from rfl,clipAt_neg n (i+1) (by lia),←h2]
   cases hb:Nat.blt i n with
   |true=>have:=Nat.blt_eq.mp hb;exact(rfl:n-i-1=n-(i+1))
   |false=>
    have:¬i<n:=λz=>by rw[Nat.blt_eq.mpr z] at hb;exact zT hb
    exact(Nat.sub_eq_zero_of_le (Nat.le_succ_of_le (Nat.not_lt.mp this))).symm
theorem q56{α:Type}{xs:List α}{l u:SV}{lv uv:Value}{k:List α→Bool}(h:cutK xs l u k=true)(hl:VR W l lv)(hu:VR W u uv) :
  ∃lo hi,IsPart lv lo∧IsPart uv hi∧k ((xs.drop (lo.elim 0 (clipAt xs.length))).take (hi.elim xs.length (clipAt xs.length)-lo.elim 0 (clipAt xs.length)))=true:=by
 refine q00 h ?_;intro a h1 h2
 refine q00 h2 ?_;intro b h3 h4
 rw[q0o] at h1 h3
 refine X1x2 (q7F h1 hl) ?_;intro lo p1 e1
 refine X1x2 (q7F h3 hu) ?_;intro hi p2 e2
 rw[qc1,qa3,List.drop_take] at h4
 exact⟨lo,hi,p1,p2,by rw[←e1,←e2];exact h4⟩
theorem q1M(items:Array Value)(lo hi:Option Int):slicePick items lo hi none=((items.toList.drop (lo.elim 0 (clipAt items.size))).take (hi.elim items.size (clipAt items.size)-lo.elim 0 (clipAt items.size))).toArray:=by
 unfold slicePick
 rw[sliceBounds_plain]
 simp only[sliceRange_one,pick_run]
theorem q4u{v:Value}{lo:Option Int}(h:IsPart v lo):∃p:Option (Int×Tok),v=partValue p∧p.map (·.1)=lo:=by
 cases h with
 |none=>exact⟨none,rfl,rfl⟩
 |int i t=>exact⟨some (i,t),rfl,rfl⟩
theorem q4n(x:Str)(l u:Option (Int×Tok)):slicePicked x l u none=(List.range ((u.map (·.1)).elim x.length (clipAt x.length)-(l.map (·.1)).elim 0 (clipAt x.length))).map ((l.map (·.1)).elim 0 (clipAt x.length)+·):=by
 have:=sliceBounds_plain (l.map (·.1)) (u.map (·.1)) x.length
 unfold slicePicked Builtin.Str.strSliceIndices
 rw[←sliceRange_one]
 unfold sliceBounds at this
 simp only[Option.getD_none,Prod.mk.injEq] at this
 simp only[Option.map_none,Option.getD_none]
 rw[←this.1,←this.2.1]
 rfl
theorem Rel.pushAny(R:Rel B W fs σ s)(o:Obj):Rel B W fs σ {s with heap:=s.heap.push o}:=R.grow (Grows.push s.heap o) rfl rfl
end
noncomputable def SXo(B:Base)(sc:Scope)(x:XC)(e:Option Expr):Prop:=∀(n:Nat)(W:Wd)(fs:List Nat)(c:Cx)(X:Fx)(σ:S)(s:Shared)(kv:KV),Ok B n sc W fs c X→Rel B W fs σ s→x c σ kv=true→
 wpG (model B.prog B.w) X.A (evalPart e X.env) (PQ B W fs (QV kv)) (QE B W fs X.fa c.kx) s
noncomputable def qew(B:Base):Prop:=∀(n:Nat)(W:Wd)(fs:List Nat)(A:Around)(σ:S)(s:Shared)(b:List SI)(o:SV)(u lv uv:Value)(lo hi:Option Int)(sl:Addr)(kv:KV)(E:Value→Shared→Prop),AOk B n W fs A→Rel B W fs σ s→ats σ o baOf=some b→VR W o u→
 IsPart lv lo→IsPart uv hi→s.heap.IsSliceOf sl lv uv .none→σ.addK (.barr ((b.drop (lo.elim 0 (clipAt b.length))).take (hi.elim b.length (clipAt b.length)-lo.elim 0 (clipAt b.length)))) (λn σ=>kv (.own n) σ)=true→
 (∃T id,typeLookup (.type T) "__getitem__"=pure (some (.builtin id))∧s.TypeIs u T)∧wpAny (model B.prog B.w) A (getItem u (.ref sl)) (PQ B W fs (QV kv)) E s
section
variable{B:Base}{sc:Scope}
theorem qaS:SXo B sc (cC .none) none:=λn W fs c X σ s kv O R h=>by
 rw[evalPart_none]
 exact q03 (PQ.here R (qv q1I h))
theorem qaR{x:XC}{e:Expr}(h:SX B sc x e):SXo B sc x (some e):=λn W fs c X σ s kv O R e=>by
 rw[evalPart_some]
 exact h n W fs c X σ s kv O R e
theorem q1K{A:Around}{sl value:Expr}{u v:Value}{s:Shared}{Q:Value→Shared→Prop}{E:Value→Shared→Prop}(hs:∀o i,subscripted sl false o i=operate [o,i] (getItem o i)∨subscripted sl false o i=operate [i,o] (getItem o i))
  (h:∃T id,typeLookup (.type T) "__getitem__"=pure (some (.builtin id))∧s.TypeIs u T) (hg:wpAny (model B.prog B.w) A (getItem u v) Q E s) :
  wpAny (model B.prog B.w) A (do let r ←subscripted sl (←getitemInPython u) u v;letTemporaryGo value u r;pure r) Q E s:=by
 refine X2x2 h ?_;clear h;intro T id hl hT
 have fin:wpAny (model B.prog B.w) A (subscripted sl false u v) (λr s'=>wpAny (model B.prog B.w) A (letTemporaryGo value u r>>=λ_=>pure r) Q E s') E s:=by
  refine Z4 (hs u v) (λe=>?_) λe=>?_<;>rw[e]<;>exact wpAny_operateT (wpAny_mono hg (λr s₃ h₃=>Z0 (wpAny_letTemporaryGo (Z3 h₃))) λ_ _ x=>x)
 refine Z0 ?_
 rw[getitemInPython_of_ne hT.not_modules]
 refine Z0 (wpAny_specialOf hT hl ?_)
 exact Z3 (Z0 fin)
theorem qeC{x i:XC}{value sl:Expr}{pos:Pos}(hx:SX B sc x value)(hi:SX B sc i sl)(hs:∀o i,subscripted sl false o i=operate [o,i] (getItem o i)):SX B sc (cSub tb x i) (.Subscript value sl pos):=λn W fs c X σ s kv O R h=>by
 rw[eval_Subscript]
 refine q01 (q0D (hx n W fs c X σ s _ O R h) λa W₁ σ₁ s₁ l₁ R₁ oY6x0=>?_)
 refine oY6x0.kE3 ?_;clear oY6x0;intro xa ha h₁
 refine q01 (q04 (q05 (hi n W₁ fs c X σ₁ s₁ _ (O.mono l₁) R₁ h₁) (λb s₂ oY5x0=>?_) λ_ _ z=>z.weaken l₁))
 refine oY5x0.kE7 ?_;clear oY5x0;intro W₂ σ₂ l₂ R₂ xb hb h₂
 refine X1x2 (q26 h₂) ?_;intro z e h₂
 refine X2x3 (qdP (A:=X.A) R₂ e (ha.mono l₂) hb) ?_;intro T id hl hT hg
 exact q01 (q07 (toG (q1K (λo i=>.inl (hs o i)) ⟨T,id,hl,hT⟩ (wpAny_mono (hg _) (λr s₃ oY4x0=>by(refine X0x2 oY4x0 ?_;clear oY4x0;intro h3 R₃);exact⟨W₂,σ₂,l₁.trans l₂,R₃,qv h3 h₂⟩) λ_ _ z=>z))))
theorem qd6(hB:qew B){n:Nat}{W:Wd}{fs:List Nat}{A:Around}{σ:S}{s:Shared}{o l u:SV}{a lv uv:Value}{sl:Addr}{lower upper:Option Expr}{value:Expr}{p:Pos}{kv:KV}{E:Value→Shared→Prop}(O:AOk B n W fs A)(R:Rel B W fs σ s)
  (hs:s.heap.IsSliceOf sl lv uv .none) (h:slice σ o l u kv=true) (ha:VR W o a) (hl:VR W l lv) (hu:VR W u uv) :
  wpAny (model B.prog B.w) A (do let r ←subscripted (.Slice lower upper none p) (←getitemInPython a) a (.ref sl);letTemporaryGo value a r;pure r) (PQ B W fs (QV kv)) E s:=by
 have hsub:∀o i,subscripted (.Slice lower upper none p) false o i=operate [o,i] (getItem o i)∨subscripted (.Slice lower upper none p) false o i=operate [i,o] (getItem o i):=λ_ _=>.inr rfl
 refine Z4 (q0f h) (λo2=>X0x2 o2 λ_ h1=>?_) λo1=>X1x2 o1 λb h0 h1=>?_
 ·refine Z4 (q0f h1) (λo2=>X0x2 o2 λ_ h2=>?_) λo1=>X1x2 o1 λx h0 h2=>?_
  ·refine Z4 (q0f h2) (λo2=>X0x2 o2 λ_ h3=>?_) λo1=>X1x2 o1 λx h0 h3=>?_
   ·refine q00 h3 ?_;intro b h4 h5
    refine X2x3 (q56 h5 hl hu) ?_;intro lo hi p1 p2 h6
    refine X0x2 (hB n W fs A σ s b o a lv uv lo hi sl kv E O R h4 ha p1 p2 hs h6) ?_;intro h7 h8
    exact q1K hsub h7 h8
   ·refine X2x3 (q56 h3 hl hu) ?_;intro lo hi p1 p2 h6
    refine R.lst_E11 h0 ha ?_;intro k q vs m e0 e1 e2 o1 e3 hvs hlen;subst o1
    refine q1K hsub ⟨"list",_,list_getitem_lookup,⟨_,e3,rfl⟩⟩ (wpAny_getItem_list_slice (q0b e3) hs p1 p2 .none (by simp) ?_ (by simp only[List.size_toArray,hvs.length];exact q0i hlen))
    rw[q1M]
    simp only[List.size_toArray,hvs.length]
    exact(PQ.newList (t:=s.toks) R ((hvs.drop _).take _) h6).2
  ·refine X2x3 (q56 h2 hl hu) ?_;intro lo hi p1 p2 h6
   rw[q0X h0] at ha
   refine X1x2 ha ?_;clear ha;intro t o1 hlen;subst o1
   refine X1x2 (q4u p1) ?_;intro pl o1 o2;subst o1;subst o2
   refine X1x2 (q4u p2) ?_;intro pu o1 o2;subst o1;subst o2
   refine q1K hsub ⟨"str",_,PySem.F.slot_str_getitem.lookup,typeIs_str _ _ _⟩ (wpAny_getItem_str_slice (st:=none) hs rfl ?_)
   have e:(⟨x.toArray⟩:Str).length=x.length:=by simp[Str.length]
   have hpick:(slicePicked ⟨x.toArray⟩ pl pu none).filterMap (x.toArray[·]?)=(x.drop ((pl.map (·.1)).elim 0 (clipAt x.length))).take ((pu.map (·.1)).elim x.length (clipAt x.length)-(pl.map (·.1)).elim 0 (clipAt x.length)):=by
    rw[q4n,e,pick_run]
   have hz:((x.drop ((pl.map (·.1)).elim 0 (clipAt x.length))).take ((pu.map (·.1)).elim x.length (clipAt x.length)-(pl.map (·.1)).elim 0 (clipAt x.length))).length≤4096:=q6H hlen
   unfold sliceMade
   split
   ·rename_i hc
    simp only[Option.map_none,Option.getD_none,Bool.and_eq_true,beq_iff_eq] at hc
    have hc:=hc.2
    rw[q4n,e,List.length_map,List.length_range] at hc
    have hup:(pu.map (·.1)).elim x.length (clipAt x.length)≤x.length:=by
     cases pu with
     |none=>exact Nat.le_refl _
     |some q=>
      exact q6K _ _
    have hlo:(pl.map (·.1)).elim 0 (clipAt x.length)=0∨x.length=0:=cut0 hc hup
    have hw:(x.drop ((pl.map (·.1)).elim 0 (clipAt x.length))).take ((pu.map (·.1)).elim x.length (clipAt x.length)-(pl.map (·.1)).elim 0 (clipAt x.length))=x:=by
     rw[hc]
     refine Z4 hlo (λz=>?_) λz=>?_
     ·rw[z];simp
     ·have:x=[]:=List.length_eq_zero_iff.mp z
      subst this;simp
    rw[hw] at h6
    exact PQ.here R (qv (q3r hlen) h6)
   ·show (Made.str ⟨((slicePicked ⟨x.toArray⟩ pl pu none).filterMap (x.toArray[·]?)).toArray⟩).post _ _
    rw[hpick]
    exact⟨by simp only[Str.length,List.size_toArray];exact q0i hz,PQ.tok R (qv (q3r hz) h6)⟩
 ·refine X2x3 (q56 h1 hl hu) ?_;intro lo hi p1 p2 h6
  rw[q0x h0] at ha
  refine q0n ha ?_;intro u t o1 hub hlen;subst o1
  have e:u.size=b.length:=by simpa using hub.length
  refine q1K hsub ⟨"bytes",_,FB.slot_bytes_getitem.lookup,typeIs_bytes _ _ _⟩ (getItem_meets (typeIs_bytes _ _ _) (by decide) FB.slot_bytes_getitem FB.entry_bytes_getitem (FB.args_bytes_getitem_2 _ _) (KBc.meets_slice2 u t _ p1 p2)
   ⟨hs,Nat.le_trans (KBc.size_picked_le u lo hi) (by rw[e];exact q0i hlen),λt' k=>?_⟩)
  rw[KBc.picked_eq,e]
  refine PQ.tok R (qv (x:=.bytes _) ⟨_,_,rfl,?_,?_⟩ h6)
  ·exact(hub.drop _).take _
  ·exact q6H hlen
theorem qeE(hB:qew B){x l u:XC}{value:Expr}{lower upper:Option Expr}{p pos:Pos}(hx:SX B sc x value)(hl:SXo B sc l lower)(hu:SXo B sc u upper):SX B sc (cSli x l u) (.Subscript value (.Slice lower upper none p) pos):=λn W fs c X σ s kv O R h=>by
 rw[eval_Subscript]
 refine q01 (q0D (hx n W fs c X σ s _ O R h) λa W₁ σ₁ s₁ l₁ R₁ oY3x0=>?_)
 refine oY3x0.kE3 ?_;clear oY3x0;intro xa ha h₁
 refine q01 (q04 (q2q ?_))
 refine q05 (hl n W₁ fs c X σ₁ s₁ _ (O.mono l₁) R₁ h₁) (λlv s₂ oY2x0=>?_) λ_ _ z=>z.weaken l₁
 refine oY2x0.kE7 ?_;clear oY2x0;intro W₂ σ₂ l₂ R₂ xl hlv h₂
 refine q05 (hu n W₂ fs c X σ₂ s₂ _ (O.mono (l₁.trans l₂)) R₂ h₂) (λuv s₃ oY1x0=>?_) λ_ _ z=>z.weaken (l₁.trans l₂)
 refine oY1x0.kE7 ?_;clear oY1x0;intro W₃ σ₃ l₃ R₃ xu huv h₃
 have l13:=(l₁.trans l₂).trans l₃
 rw[evalPart_none]
 refine q03 (q01 (q07 ?_))
 have ha:=ha.mono (l₂.trans l₃)
 have hlv:=hlv.mono l₃
 refine widen l13 (toG<|qd6 hB (O.mono l13).around (R₃.pushAny _) (Heap.IsSliceOf.new s₃.heap lv uv .none) h₃ ha hlv huv)
end
end
section
open PySem PySem.W PyProof.Rows
variable{B:Base}{W W':Wd}{fs:List Nat}{σ τ:S}{s s':Shared}
theorem q6F{m:Lo}{ds:List DictEntry}(h:All2 (EntN W) m ds)(i:Nat):∃v,getL (nm i) ds=some v∧OptR W (q0K m i) v:=by
 induction h with
 |nil=>exact⟨none,rfl,rfl⟩
 |@cons p e m ds hp hr ih=>
  refine X0x2 hp ?_;clear hp;intro o1 hv;refine X1x1 o1 ?_;clear o1;intro t hk
  have hs:e.key.isStr (nm i)=(nm p.1==nm i):=by rw[hk];rfl
  rw[q0w,q0g]
  by_cases hi:p.1=i
  ·refine⟨some e.val,?_,?_⟩
   ·unfold getL
    rw[List.find?_cons,hs,hi]
    rw[beq_self_eq_true]
   ·simp only[hi,decide_true]
    exact⟨_,rfl,hv⟩
  ·refine X1x2 ih ?_;clear ih;intro v h1 h2
   refine⟨v,?_,?_⟩
   ·unfold getL at h1⊢
    have hn:(nm p.1==nm i)=false:=beq_eq_false_iff_ne.mpr λz=>hi (q1n _ _ z)
    have hrk:e.refKey=false:=by unfold DictEntry.refKey;rw[hk]
    rw[List.find?_cons,hs,hn,List.any_cons,hrk,Bool.false_or]
    exact h1
   ·simp only[decide_eq_false hi]
    exact h2
theorem handed{x:SV}{u:Value}(h:VR W x u):handedIn u=true:=by
 cases x with
 |none=>have h:u=.none:=h;subst h;rfl
 |bool b=>have h:u=.bool b:=h;subst h;rfl
 |int i=>(refine X2x2 h ?_;clear h;intro _ _ o1 _;subst o1);rfl
 |str l=>(refine X1x2 h ?_;clear h;intro _ o1 _;subst o1);rfl
 |bytes l=>(refine X2x2 h ?_;clear h;intro _ _ o1 _;subst o1);rfl
 |ty n=>have h:u=.type _:=h;subst h;rfl
 |bi n=>
  have h:u=.builtin (biNm n):=h
  subst h
  have:∀k,k<6→handedIn (.builtin (biNm k))=true:=by decide +kernel
  by_cases hn:n<6
  ·exact this n hn
  ·have e:biNm n="":=by
    unfold biNm qal
    rw[List.getD_eq_getElem?_getD,List.getElem?_eq_none (by simp;lia)];rfl
   rw[e];decide +kernel
 |old a=>have h:u=.ref a:=h;subst h;rfl
 |own k=>(refine X1x2 h ?_;clear h;intro _ _ o1;subst o1);rfl
theorem q9N(R:Rel B W fs σ s){k:Nat}{C:Addr}{m:Lo}{p:Fp}(e:σ.get k=some (.inst C m))(hp:W.ρ[k]?=some p) :
  ∃dx ds n c,tb.cl C=some c∧ClsF B.K C c∧p.x=[dx]∧s.heap.get? dx=some (dictOf ds n)∧InstAt s.heap p.a (instObj C dx) C (some (dictOf ds n))∧All2 (EntN W) m ds∧m.length≤60:=by
 refine X3x6 (R.objs _ _ _ e hp) ?_;intro dx ds n o1 e0 e1 e2 e3 e4;refine X1x2 o1 ?_;clear o1;intro c hc hx
 exact⟨dx,ds,n,c,hc,B.cls C c hc hx,e0,e2,⟨e1,rfl,rfl,e2⟩,e3,e4⟩
theorem qeu(R:Rel B W fs σ s){A:Around}{E:Value→Shared→Prop}{x z:SV}{u:Value}{i:Nat}(h:qcB tb σ x i=some z)(hx:VR W x u)(expr:Bool) :
  wpAny (model B.prog B.w) A (getAttr u (nm i) expr) (λr s'=>VR W z r∧Rel B W fs σ s') E s:=by
 refine q02 h ?_;intro o1 h1 h2;obtain⟨C,m⟩:=o1
 refine q0I h1 ?_;intro k o o1 h3 h4;subst o1
 rw[q2E h4] at h3
 refine q02 (show oO (tb.cl C) (λc=>bi (nmem i c.data) (q0K m i) none)=some z from h2) ?_;intro c h5 h6
 refine X1x2 hx ?_;clear hx;intro p hp o1;subst o1
 refine X4x7 (q9N R h3 hp) ?_;intro dx ds n c' hc F _ _ I hm _
 rw[h5] at hc;(refine zI hc ?_;clear hc;rintro rfl)
 cases hd:nmem i c.data with
 |false=>rw[hd] at h6;exact zN h6
 |true=>
  rw[hd] at h6
  refine X1x2 (q6F hm i) ?_;intro v hv hr
  have h6:q0K m i=some z:=h6
  rw[h6] at hr
  refine X1x2 hr ?_;clear hr;intro w o1 hw;subst o1
  exact get_value R.kin I (plainGet_of (F.get (nm i))).1 (findObj_own F.dict (F.data i hd) rfl hv) (handed hw) ⟨hw,R.toks⟩
theorem qdD(R:Rel B W fs σ s){A:Around}{E:Value→Shared→Prop}{x:SV}{f:Addr}{u:Value}{i:Nat}{pl:Sem Bool}{Q:Value×List Value→Shared→Prop}(h:q9v tb σ x i=some f)(hx:VR W x u)(hq:Q (.ref f,[u]) s) :
  wpAny (model B.prog B.w) A (getMethod u (nm i) pl) Q E s:=by
 refine q02 h ?_;intro o1 h1 h2;obtain⟨C,m⟩:=o1
 refine q0I h1 ?_;intro k o o1 h3 h4;subst o1
 rw[q2E h4] at h3
 refine q02 (show oO (tb.cl C) (λc=>oO (alook c.meths i) (λf=>oE (q0K m i) (some f) (λ_=>none)))=some f from h2) ?_;intro c h5 h6
 refine q02 h6 ?_;intro g h7 h8
 refine Z4 (q0f h8) (λo2=>X0x2 o2 λh9 h10=>?_) λo1=>X1x2 o1 λ_ _ h10=>?_
 ·refine zI h10 ?_;clear h10;rintro rfl
  refine X1x2 hx ?_;clear hx;intro p hp o1;subst o1
  refine X4x7 (q9N R h3 hp) ?_;intro dx ds n c' hc F _ _ I hm _
  rw[h5] at hc;(refine zI hc ?_;clear hc;rintro rfl)
  refine X1x2 (q6F hm i) ?_;intro v hv hr
  rw[h9] at hr
  have hr:v=none:=hr
  subst hr
  refine X0x2 (F.meth i _ h7) ?_;intro ff ft
  exact method_fn R.kin I (plainGet_of (F.get (nm i))).1 (plainGet_of (F.get (nm i))).2 ff (beq_iff_eq.mp ft) (by show (lookIn (nm i) (dictOf ds n)).map _=_;rw[lookIn_dict,hv];rfl) hq
 ·exact zN h10
theorem qe5{m:Lo}{ds:List DictEntry}(h:All2 (EntN W) m ds){i:Nat}{x:SV}{v:Value}{hs:Int}{t:Tok}(hv:VR W x v):All2 (EntN W) (q1e m i x) (putL (nm i) hs (.str (nm i) t) v ds):=by
 induction h with
 |nil=>exact .cons ⟨⟨_,rfl⟩,hv⟩ .nil
 |@cons p e m ds hp hr ih=>
  refine X0x2 hp ?_;clear hp;intro o1 hv';refine X1x1 o1 ?_;clear o1;intro t' hk
  have hs':e.key.isStr (nm i)=(nm p.1==nm i):=by rw[hk];rfl
  rw[q2h,q0g]
  unfold putL
  rw[hs']
  by_cases hi:p.1=i
  ·simp only[hi,decide_true,beq_self_eq_true,if_true]
   exact .cons ⟨⟨t',by rw[hk,hi]⟩,hv⟩ hr
  ·have hn:(nm p.1==nm i)=false:=beq_eq_false_iff_ne.mpr λz=>hi (q1n _ _ z)
   simp only[decide_eq_false hi,hn]
   exact .cons ⟨⟨t',hk⟩,hv'⟩ ih
theorem qe6{m:Lo}{ds:List DictEntry}(h:All2 (EntN W) m ds):ds.length=m.length:=h.length
theorem q81(R:Rel B W fs σ s){A:Around}{E:Value→Shared→Prop}{x y:SV}{u v:Value}{i:Nat}{f:KN}(h:oB (wOf x) (λj=>oB (σ.get j) (λq=>oB (inOf q) (λp=>@Prod.rec Addr Lo (λ_=>Bool) (λC m=>oB (tb.cl C) (λc=>bi (nmem i c.data) (q3D m i y (λm=>bi (Nat.ble (len m) 60) (σ.putK j (.inst C m) f) false)) false)) p)))=true)
  (hx:VR W x u) (hy:VR W y v):wpAny (model B.prog B.w) A (PySem.setAttr u (nm i) v) (PQ B W fs (QU f)) E s:=by
 refine q00 h ?_;intro j h1 h2
 refine q00 h2 ?_;intro q h3 h4
 refine q00 h4 ?_;intro o1 h5 h6;obtain⟨C,m⟩:=o1
 refine q00 (show oB (tb.cl C) (λc=>bi (nmem i c.data) (q3D m i y (λm=>bi (Nat.ble (len m) 60) (σ.putK j (.inst C m) f) false)) false)=true from h6) ?_;intro c h7 h8
 refine q06 h8 ?_;intro h9 h10
 rw[q5A] at h10
 refine q06 h10 ?_;intro h11 h12
 have hle:=Z8 h11
 rw[q0o] at hle
 rw[q0L h1] at hx
 rw[q2E h5] at h3
 refine S.putK_true_E3 h12 ?_;intro τ P h13
 refine X1x2 hx ?_;clear hx;intro p hp o1;subst o1
 refine X4x7 (q9N R h3 hp) ?_;intro dx ds n c' hc F hpx hdx I hm hlen
 rw[h7] at hc;(refine zI hc ?_;clear hc;rintro rfl)
 refine X1x2 (q6F hm i) ?_;intro w hw hr
 have hsome:(lookIn (nm i) (dictOf ds n)).isSome=true:=by rw[lookIn_dict,hw];rfl
 have ht:takerIn B.K C (nm i)=some none:=by
  unfold takerIn
  rw[F.data i h9];rfl
 obtain⟨hh,g,d,tk,os⟩:=s
 have X:B.K.In hh:=R.kin
 refine set_plain R.kin I F.seta ?_
 refine osa_open (s:={heap:=hh,gens:=g,drawn:=d,toks:=tk+1,os:=os}) X I F.over ht λb=>?_
 refine X1x2 (any_some F.dict) ?_;intro cd hcd hd'
 have hx:=I.at_
 refine Z0 (Z3 (Z0 (Z0 (wpAny_loadPart hx (Z0 ((looks_clsIn X hcd).here (s:={heap:=hh,gens:=g,drawn:=d,toks:=tk+1,os:=os}) ?_))))))
 rw[hd']
 refine Z3 (a:=some dx) (Z0 (Z3 (Z0 ?_)))
 unfold nsSet
 refine Z0 (Z0 (wpAny_askSetting (Z3 (Z0 (wpAny_mkText (Z0 (wpAny_loadPart hdx ?_)))))))
 have hany:(!ds.toArray.any (·.key.isStr (nm i))&&ds.toArray.any (·.refKey))=false:=by
  rw[←Array.any_toList,←Array.any_toList]
  unfold getL at hw
  split at hw
  ·rename_i en he
   rw[List.any_eq_true.mpr ⟨en,List.mem_of_find?_eq_some he,List.find?_some he⟩];rfl
  ·split at hw
   ·exact zN hw
   ·rename_i z;rw[Bool.not_eq_true] at z;rw[z,Bool.and_false]
 dsimp only[dictOf]
 rw[aRefKeyMayBeTheName_at,hany]
 have D':∀key hs,(hh.update dx (Obj.putName (nm i) hs key v)).get? dx=some (dictOf (putL (nm i) hs key v ds) (putN (nm i) ds n)):=λkey hs=>by
  rw[Zc (Obj.putName (nm i) hs key v) hdx (by rw[putName_dict];rfl),putName_dict]
 refine wpAny_updatePart hdx ?_
 have hsz:∀key hs,(putL (nm i) hs key v ds).length≤1000:=λkey hs=>by
  have:(putL (nm i) hs key v ds).length≤ds.length+1:=by
   clear D' hany hw hsome hdx I hm
   induction ds with
   |nil=>exact Nat.le_refl _
   |cons e r ih=>unfold putL;split<;>simp only[List.length_cons]<;>lia
  rw[qe6 hm] at this
  lia
 refine Z0 (wpAny_lookBehind (D' _ _) (by exact pastItsLine_dict (by rw[List.size_toArray,sizeLine_eq];exact Nat.le_trans (hsz _ _) (by decide))) ?_)
 refine Z3 ?_
 have R':Rel B W fs σ {heap:=hh,gens:=g,drawn:=d,toks:=tk+1+1,os:=os}:=R.toks
 have hxx:=D' (.str (nm i) (tk+1)) (PyData.keyHash B.w.params (nm i))
 have hsb:Heap.SameBut dx hh (hh.update dx (Obj.putName (nm i) (PyData.keyHash B.w.params (nm i)) (.str (nm i) (tk+1)) v)):=Heap.SameBut.update ..
 have hne:p.a≠dx:=λz=>by
  have:=I.at_
  rw[z] at this
  have h1:=hdx.symm.trans this
  cases h1
 exact PQ.here (s:={heap:=hh.update dx (Obj.putName (nm i) (PyData.keyHash B.w.params (nm i)) (.str (nm i) (tk+1)) v),gens:=g,drawn:=d,toks:=tk+1+1,os:=os})
  (R'.upd P h3 hp (a:=dx) (by rw[Fp.all,hpx];exact .tail _ (.head _)) hsb ⟨_,hxx⟩ ⟨dx,_,_,⟨c,h7,by
   refine X1x1 (R.at h3) ?_;intro q' o1;refine X0x2 o1 ?_;clear o1;intro hq' o2;refine X3x2 o2 ?_;clear o2;intro _ _ _ o3 _;refine X1x2 o3 ?_;clear o3;intro c' hc' hx'
   rw[h7] at hc';(refine zI hc' ?_;clear hc';rintro rfl);exact hx'⟩,hpx,(hsb.2 _ hne).trans I.at_,hxx,qe5 hm hy,hle⟩
   (λob es m ho z=>by have:=I.at_.symm.trans ho;(refine zI this ?_;clear this;rintro rfl);cases z) rfl rfl) h13
end
section
open PySem PySem.W PyProof.Rows
variable{B:Base}{sc:Scope}
theorem q5T{A:Around}{E:Value→Shared→Prop}{s:Shared}{f:Value}{args:List (Bool×Sem Value)}{Q:Args→Shared→Prop}(hp:args.any (·.1)=false)(h:wpG (model B.prog B.w) A (spliced args) (λvs s'=>Q ⟨vs,[]⟩ s') E s) :
  wpG (model B.prog B.w) A (evalArgs f true args []) Q E s:=by
 cases args with
 |nil=>
  show wpG _ A (spliced []>>=_) Q E s
  refine q0e h λvs s' h'=>q04 ?_
  exact q01 (q03 (q01 (q03 (q03 h'))))
 |cons a r=>
  obtain⟨b,x⟩:=a
  cases b with
  |true=>simp at hp
  |false=>
   unfold evalArgs
   show wpG _ A (spliced ((false,x)::r)>>=_) Q E s
   refine q0e h λvs s' h'=>q04 ?_
   exact q01 (q03 (q01 (q03 (q03 h'))))
theorem q0q{A:Around}{E:Value→Shared→Prop}{s:Shared}{pos:Pos}{f:Value}{first:List Value}{args:List (Bool×Sem Value)}{Q:Value→Shared→Prop}(hA:A.handled=none)(hp:args.any (·.1)=false)
  (h:wpG (model B.prog B.w) A (spliced args) (λvs s'=>Keeps B f s'∧wpG (model B.prog B.w) A (call f (first++vs)) Q E s') E s):wpG (model B.prog B.w) A (callWith pos f first args []) Q E s:=by
 unfold callWith
 refine q01 (q04 (q05 (q5T (Q:=λa s'=>a.kw=[]∧Keeps B f s'∧wpG (model B.prog B.w) A (call f (first++a.pos)) Q E s') hp (q05 h (λvs s' h'=>⟨rfl,h'⟩) λ_ _ x=>x)) (λa s₁ h₁=>q01 (q07 ?_)) λ_ _ x=>x))
 refine X0x3 h₁ ?_;clear h₁;intro hk h2 h3
 obtain⟨ap,ak⟩:=a
 dsimp only at hk h3
 subst hk
 have hs:(args.any (·.1)||([]:List (Option Str×Sem Value)).any (·.1.isNone))=false:=by rw[hp];rfl
 rw[hs]
 refine q01 (m:=keeperOf f) (toG (h2 A _ _ hA λk=>?_))
 have tail:∀{t:Sem Value},wpG (model B.prog B.w) A t Q E s₁→wpG (model B.prog B.w) A (t>>=λr=>holding [r] point>>=λ_=>pure r) Q E s₁:=
  λht=>q0e ht λr s₂ hr=>q01 (q04 (q3m (q03 hr)))
 cases k with
 |frame=>exact q8E (tail h3) (tail (by unfold callMarked;exact q6S h3))
 |boundFrame=>exact q8E (tail h3) (tail (by unfold callMarked;exact q6S h3))
 |machine=>exact tail h3
 |caller=>exact tail (q17 h3)
theorem q0z{pos:Pos}{l:List (Bool×Sem Value)}(h:l.any (·.1)=false):(backTo pos l).any (·.1)=false:=by
 induction l with
 |nil=>rfl
 |cons a r ih=>
  rw[List.any_cons,Bool.or_eq_false_iff] at h
  show (a.1||(backTo pos r).any (·.1))=false
  rw[ih h.2,h.1];rfl
noncomputable def Plain(es:List Expr):Prop:=∀env,(starEach es env).any (·.1)=false
theorem qc6{x:XC}{as:XsC}{func:Expr}{es:List Expr}{pos:Pos}(hx:SX B sc x func)(ha:SXs B sc as es)(hp:Plain es)
  (he:∀env,eval (.Call func es [] pos) env=(do callWith pos (←eval func env) [] (backTo pos (starEach es env)) [])):SX B sc (cCal x as) (.Call func es [] pos):=λn W fs c X σ s kv O R h=>by
 rw[he]
 refine q01 (q0D (hx n W fs c X σ s _ O R h) λf W₁ σ₁ s₁ l₁ R₁ oY8x0=>?_)
 refine oY8x0.kE3 ?_;clear oY8x0;intro xf hf h₁
 refine q0q O.around.handled (q0z (hp _)) ?_
 refine q05 (ha n W₁ fs c X σ₁ s₁ _ pos (O.mono l₁) R₁ h₁) (λvs s₂ oY7x0=>?_) λ_ _ z=>z.weaken l₁
 obtain⟨W₂,σ₂,l₂,R₂,xs,hxs,h₂⟩:=oY7x0
 rw[Cx.cal_eq,Cx.x_eq] at h₂
 refine X0x2 (O.call xf xs σ₂ c.kx kv W₂ fs X.A f vs s₂ X.fa (O.mono (l₁.trans l₂)).around R₂ (hf.mono l₂) hxs h₂) ?_;intro hk hc
 exact⟨hk,q05 hc (λ_ _ z=>z.weaken (l₁.trans l₂)) λ_ _ z=>z.weaken (l₁.trans l₂)⟩
theorem qeR{x:XC}{i:Nat}{value:Expr}{attr:Str}{pos:Pos}(hx:SX B sc x value)(hn:nm i=attr)(hb:∀env whole,attributeBase value attr env whole=whole):SX B sc (cAtt tb x i) (.Attribute value attr pos):=λn W fs c X σ s kv O R h=>by
 rw[arm_eval_Attribute,hb]
 refine q01 (q0D (hx n W fs c X σ s _ O R h) λa W₁ σ₁ s₁ l₁ R₁ oY6x0=>?_)
 refine oY6x0.kE3 ?_;clear oY6x0;intro xa ha h₁
 refine X1x2 (q26 h₁) ?_;intro z e h₂
 subst hn
 refine toG<|Z0 (wpAny_standAt (Z0 (wpAny_holding (wpAny_mono (qeu R₁ e ha true) (λr s₂ oY5x0=>?_) λ_ _ z=>z))))
 refine X0x2 oY5x0 ?_;clear oY5x0;intro hr R₂
 exact Z0 (wpAny_letTemporaryGo (Z3 ⟨W₁,σ₁,l₁,R₂,qv hr h₂⟩))
noncomputable def qcD(B:Base):Prop:=∀(n:Nat)(W:Wd)(fs:List Nat)(A:Around)(σ:S)(s:Shared)(y:SV)(u v:Value)(i:Nat)(E:Value→Shared→Prop)(j:Nat)(C:Addr)(d:Option Nat)(f:KN),AOk B n W fs A→Rel B W fs σ s→σ.get j=some (.exc C d)→
 VR W (.own j) u→VR W y v→qcb tb σ j i f C d=true→wpAny (model B.prog B.w) A (PySem.setAttr u (nm i) v) (PQ B W fs (QU f)) E s
theorem qfd(hE:qcD B){x:XC}{i:Nat}{value:Expr}{attr:Str}{pos:Pos}(hx:SX B sc x value)(hn:nm i=attr):SA B sc (aAtt tb x i) (.Attribute value attr pos):=λn W fs c X σ s y v k O R hv h=>by
 rw[assign_Attribute]
 refine q01 (q04 (q0D (hx n W fs c X σ s _ O R h) λa W₁ σ₁ s₁ l₁ R₁ oY4x0=>?_))
 refine oY4x0.kE3 ?_;clear oY4x0;intro xa ha h₁
 subst hn
 refine toG<|Z0 (wpAny_standAt (Z0 (wpAny_holding ?_)))
 have fin:wpAny (model B.prog B.w) X.A (PySem.setAttr a (nm i) v) (PQ B W₁ fs (QU k)) (QE B W fs X.fa c.kx) s₁:=by
  refine q00 h₁ ?_;intro j h2 h3
  refine q00 h3 ?_;intro q h4 h5
  refine Z4 (q0f h5) (λo2=>X0x2 o2 λh6 h7=>?_) λo1=>X1x2 o1 λp h6 h7=>?_
  ·refine q00 h7 ?_;intro o1 h8 h9;obtain⟨C,d⟩:=o1
   rw[qa1 h8] at h4
   rw[q0L h2] at ha
   exact hE n W₁ fs X.A σ₁ s₁ y a v i _ j C d _ (O.mono l₁).around R₁ h4 ha (hv.mono l₁) h9
  ·refine q81 R₁ (x:=xa) (y:=y) ?_ ha (hv.mono l₁)
   rw[h2]
   show oB (σ₁.get j) _=true
   rw[h4]
   show oB (inOf q) _=true
   rw[h6]
   exact h7
 exact wpAny_mono fin (λ_ s₂ h₂=>wpAny_release (h₂.weaken l₁)) λ_ _ z=>z
noncomputable def qhB(T:String)(name:Str)(id:String):Prop:=PlainAttrs T∧Slot T name id∧typeOf (.builtin id)=pure (.type "method_descriptor")
noncomputable def qg3(t:Nat):String:=match t with
 |0=>"list"
 |1=>"dict"
 |2=>"str"
 |_=>"bytes"
noncomputable def bId:Nat→Nat→String
 |0,0=>"list.append"
 |0,1=>"list.extend"
 |0,2=>"list.pop"
 |0,3=>"list.index"
 |0,4=>"list.clear"
 |1,5=>"dict.get"
 |1,2=>"dict.pop"
 |1,4=>"dict.clear"
 |2,6=>"str.encode"
 |3,7=>"bytes.decode"
 |3,8=>"bytes.join"
 |_,_=>""
noncomputable def qgQ(B:Base):Prop:=∀(t i n:Nat)(W:Wd)(fs:List Nat)(A:Around)(σ:S)(s:Shared)(x:SV)(xs:List SV)(u:Value)(vs:List Value)(kv:KV)(E:Value→Shared→Prop),bOk t i=true→AOk B n W fs A→Rel B W fs σ s→
 q1h σ x=some t→VR W x u→VRs W xs vs→meth σ x i xs kv=true→wpAny (model B.prog B.w) A (call (.builtin (bId t i)) (u::vs)) (PQ B W fs (QV kv)) E s
theorem q22{i:Nat}:∀{l:List Nat},nmem i l=true→i∈l
 |[],h=>by exact zF h
 |j::l,h=>by
  have h:bi (Nat.beq j i) true (nmem i l)=true:=h
  rw[q0g] at h
  by_cases e:j=i
  ·rw[e];exact .head _
  ·simp only[decide_eq_false e] at h
   exact .tail _ (q22 h)
theorem q1L:Slot "bytes" "join" "bytes.join":=
 .of (owner:="bytes") (n:="join") (by rw[typeLookup_type,builtinLookup_eq_fast];kernel_rfl) (by decide +kernel) (by decide +kernel) (by decide +kernel)
  (by first|exact .inl (by decide +kernel)|exact .inr (by decide +kernel)) (by rw[isSubtype_type];kernel_rfl)
theorem q3v:typeOf (.builtin "bytes.join")=pure (.type "method_descriptor"):=by show builtinType _=_;rw[builtinType_eq_fast];kernel_rfl
theorem qao{t i:Nat}(h:bOk t i=true):qhB (qg3 t) (nm i) (bId t i):=by
 refine q06 h ?_;intro h1 h2
 have h1:=Nat.blt_eq.mp h1
 have h2:=q22 h2
 have h2:t*16+i∈[0,1,2,3,4,21,18,20,38,55,56]:=h2
 simp only[List.mem_cons,List.not_mem_nil,or_false] at h2
 focus (refine Z4 h2 ?_ ?_;rotate_left;clear h2;intro o1;refine Z4 o1 ?_ ?_;rotate_left;clear o1;intro o2;refine Z4 o2 ?_ ?_;rotate_left;clear o2;intro o3;refine Z4 o3 ?_ ?_;rotate_left;clear o3;intro o4;refine Z4 o4 ?_ ?_;rotate_left;clear o4;intro o5;refine Z4 o5 ?_ ?_;rotate_left;clear o5;intro o6;refine Z4 o6 ?_ ?_;rotate_left;clear o6;intro o7;refine Z4 o7 ?_ ?_;rotate_left;clear o7;intro o8;refine Z4 o8 ?_ ?_;rotate_left;clear o8;intro o9;refine Z4 o9 (λh2=>?_) λh2=>?_;rotate_right;clear o8;intro h2;rotate_right;clear o7;intro h2;rotate_right;clear o6;intro h2;rotate_right;clear o5;intro h2;rotate_right;clear o4;intro h2;rotate_right;clear o3;intro h2;rotate_right;clear o2;intro h2;rotate_right;clear o1;intro h2;rotate_right;clear h2;intro h2)
 ·obtain⟨rfl,rfl⟩:t=0∧i=0:=dm h2 h1
  exact⟨PySem.F.plainAttrs_list,PySem.F.slot_list_append,PySem.F.type_list_append⟩
 ·obtain⟨rfl,rfl⟩:t=0∧i=1:=dm h2 h1
  exact⟨PySem.F.plainAttrs_list,PySem.F.slot_list_extend,PySem.F.type_list_extend⟩
 ·obtain⟨rfl,rfl⟩:t=0∧i=2:=dm h2 h1
  exact⟨PySem.F.plainAttrs_list,PySem.F.slot_list_pop,PySem.F.type_list_pop⟩
 ·obtain⟨rfl,rfl⟩:t=0∧i=3:=dm h2 h1
  exact⟨PySem.F.plainAttrs_list,PySem.F.slot_list_index,PySem.F.type_list_index⟩
 ·obtain⟨rfl,rfl⟩:t=0∧i=4:=dm h2 h1
  exact⟨PySem.F.plainAttrs_list,PySem.F.slot_list_clear,PySem.F.type_list_clear⟩
 ·obtain⟨rfl,rfl⟩:t=1∧i=5:=dm h2 h1
  exact⟨PySem.F.plainAttrs_dict,PySem.F.slot_dict_get,PySem.F.type_dict_get⟩
 ·obtain⟨rfl,rfl⟩:t=1∧i=2:=dm h2 h1
  exact⟨PySem.F.plainAttrs_dict,PySem.F.slot_dict_pop,PySem.F.type_dict_pop⟩
 ·obtain⟨rfl,rfl⟩:t=1∧i=4:=dm h2 h1
  exact⟨PySem.F.plainAttrs_dict,PySem.F.slot_dict_clear,PySem.F.type_dict_clear⟩
 ·obtain⟨rfl,rfl⟩:t=2∧i=6:=dm h2 h1
  exact⟨PySem.F.plainAttrs_str,PySem.F.slot_str_encode,PySem.F.type_str_encode⟩
 ·obtain⟨rfl,rfl⟩:t=3∧i=7:=dm h2 h1
  exact⟨FB.plainAttrs_bytes,FB.slot_bytes_decode,FB.type_bytes_decode⟩
 ·obtain⟨rfl,rfl⟩:t=3∧i=8:=dm h2 h1
  exact⟨FB.plainAttrs_bytes,q1L,q3v⟩
theorem qdL{W:Wd}{fs:List Nat}{σ:S}{s:Shared}{x:SV}{u:Value}{t:Nat}(R:Rel B W fs σ s)(h:q1h σ x=some t)(hx:VR W x u):s.TypeIs u (qg3 t)∧∀a,u=.ref a→∃ob,s.heap.get? a=some ob∧ob.dict=none:=by
 cases x with
 |str l=>
  have h:some 2=some t:=h
  refine zI h ?_;clear h;rintro rfl
  refine X1x2 hx ?_;clear hx;intro tk o1 _;subst o1
  exact⟨typeIs_str _ _ _,λa e=>by cases e⟩
 |bytes l=>
  have h:some 3=some t:=h
  refine zI h ?_;clear h;rintro rfl
  refine X2x2 hx ?_;clear hx;intro b tk o1 _;subst o1
  exact⟨typeIs_bytes _ _ _,λa e=>by cases e⟩
 |own k=>
  refine q02 (show oO (σ.get k) q3I=some t from h) ?_;intro o h1 h2
  refine X1x2 hx ?_;clear hx;intro p hp o1;subst o1
  have ho:=R.objs _ _ _ h1 hp
  cases o with
  |list xs=>
   have h2:some 0=some t:=h2
   refine zI h2 ?_;clear h2;rintro rfl
   refine X2x2 ho ?_;clear ho;intro vs n e _
   exact⟨⟨_,e,rfl⟩,λa z=>by cases z;exact⟨_,e,rfl⟩⟩
  |dictS es=>
   have h2:some 1=some t:=h2
   refine zI h2 ?_;clear h2;rintro rfl
   refine X2x2 ho ?_;clear ho;intro kvs ep e _
   refine⟨e.dictOf.typeIs,λa z=>?_⟩
   cases z
   refine X2x3 e ?_;clear e;intro o es e1 e2 _
   exact⟨o,e1,e2.2.1⟩
  |dictI es=>
   have h2:some 1=some t:=h2
   refine zI h2 ?_;clear h2;rintro rfl
   refine X2x2 ho ?_;clear ho;intro kvs ep e _
   refine⟨e.dictOf.typeIs,λa z=>?_⟩
   cases z
   refine X2x3 e ?_;clear e;intro o es e1 e2 _
   exact⟨o,e1,e2.2.1⟩
  |_=>exact zN h2
 |_=>exact zN h
theorem q15{id:String}{s:Shared}:Keeps B (.builtin id) s:=λA Q E hA h=>by
 unfold keeperOf
 exact Z3 (h _)
theorem qeH(hM:qgQ B){x:XC}{i:Nat}{as:XsC}{o:Expr}{name:Str}{es:List Expr}{apos pos:Pos}(hx:SX B sc x o)(ha:SXs B sc as es)(hn:nm i=name)(hp:Plain es)(hl:es.length<30)
  (hline:(apos.endLine==pos.line)=true) (hb:∀env whole,attributeBase o name env whole=whole):SX B sc (cMet tb x i as) (.Call (.Attribute o name apos) es [] pos):=λn W fs c X σ s kv O R h=>by
 subst hn
 rw[arm_eval_Call,hb]
 refine q01 (q0D (hx n W fs c X σ s _ O R h) λov W₁ σ₁ s₁ l₁ R₁ oP=>q01 (q07 ?_))
 refine oP.kE3 ?_;clear oP;intro xo ho h₁
 have hform:methodCallForm (es.length+([]:List Keyword).length) (backTo pos (starEach es X.env)) (backToKw pos (keywordEach [] X.env))=true:=by
  unfold methodCallForm
  have h1:(backTo pos (starEach es X.env)).all (λx=>!x.1)=true:=by
   have:=q0z (pos:=pos) (hp X.env)
   rw[List.all_eq_true]
   intro a ha
   rw[List.any_eq_false] at this
   have:=this a ha
   simpa using this
  rw[h1]
  simp only[Bool.true_and]
  show (true&&decide (es.length+0+0<30))=true
  simp;lia
 have hpos:methodCallPos true o X.env apos pos=pure pos:=by unfold methodCallPos;simp[hline]
 unfold methodCall
 rw[hform]
 refine Z4 (q0f (show oE (q9v tb σ₁ xo i) (oB (q1h σ₁ xo) (λt=>bi (bOk t i) (as c σ₁ (λvs σ=>oB (q1h σ xo) (λu=>bi (Nat.beq t u) (meth σ xo i vs kv) false))) false)) (λf=>as c σ₁ (λvs σ=>c.cal (.old f) (xo::vs) σ c.x kv))=true from h₁)) (λo2=>X0x2 o2 λ_ h₂=>?_) λo1=>X1x2 o1 λf hf h₂=>?_
 ·refine q00 h₂ ?_;intro t h3 h4
  refine q06 h4 ?_;intro h5 h6
  refine X0x3 (qao h5) ?_;intro pa slot hty
  refine X0x2 (qdL R₁ h3 ho) ?_;intro hT hd
  refine q01 (q04 (toG (getMethod_builtin hT pa slot hty hd ?_)))
  refine q0y hpos ?_
  refine q0q O.around.handled (q0z (hp _)) ?_
  refine q05 (ha n W₁ fs c X σ₁ s₁ _ pos (O.mono l₁) R₁ h6) (λvs s₂ oY2x0=>?_) λ_ _ z=>z.weaken l₁
  obtain⟨W₂,σ₂,l₂,R₂,xs,hxs,h7⟩:=oY2x0
  refine q00 h7 ?_;intro t' h8 h9
  refine q06 h9 ?_;intro h10 h11
  have:=Z9 h10
  subst this
  exact⟨q15,q05 (toG (hM t i n W₂ fs X.A σ₂ s₂ xo xs ov vs kv _ h5 (O.mono (l₁.trans l₂)).around R₂ h8 (ho.mono l₂) hxs h11)) (λ_ _ z=>z.weaken (l₁.trans l₂)) λ_ _ z=>z⟩
 ·refine q01 (q04 (toG (qdD R₁ hf ho ?_)))
  refine q0y hpos ?_
  refine q0q O.around.handled (q0z (hp _)) ?_
  refine q05 (ha n W₁ fs c X σ₁ s₁ _ pos (O.mono l₁) R₁ h₂) (λvs s₂ oY1x0=>?_) λ_ _ z=>z.weaken l₁
  obtain⟨W₂,σ₂,l₂,R₂,xs,hxs,h7⟩:=oY1x0
  rw[Cx.cal_eq,Cx.x_eq] at h7
  refine X0x2 (O.call (.old f) (xo::xs) σ₂ c.kx kv W₂ fs X.A (.ref f) (ov::vs) s₂ X.fa (O.mono (l₁.trans l₂)).around R₂ rfl (.cons (ho.mono l₂) hxs) h7) ?_;intro hk hc
  exact⟨hk,q05 hc (λ_ _ z=>z.weaken (l₁.trans l₂)) λ_ _ z=>z.weaken (l₁.trans l₂)⟩
end
section
open PySem PySem.W PyProof.Rows
section
variable{B:Base}{W W':Wd}{fs:List Nat}{σ τ:S}{s s':Shared}
theorem q5H(vs:List Value)(n:Nat)(f:Array Value→Array Value)(ws:List Value)(h:f vs.toArray=ws.toArray):∃n',Obj.mapSeq f (q09 vs n)=q09 ws n':=by
 refine⟨if (f vs.toArray).size==vs.toArray.size then n else n+1,?_⟩
 show Obj.mk _ _ (.seq (f vs.toArray) _) _=_
 rw[h];rfl
theorem q2P(R:Rel B W fs σ s){k:Nat}{l m:List SV}{p:Fp}{vs ws:List Value}{n:Nat}{f:KN}{g:Array Value→Array Value}{t:Tok}(h:σ.putLK k m f=true)(e:σ.get k=some (.list l))(ek:W.ρ[k]?=some p)(e3:s.heap.get? p.a=some (q09 vs n))
  (hw:VRs W m ws) (hg:g vs.toArray=ws.toArray):∃τ,Rel B W fs τ {s with heap:=s.heap.update p.a (Obj.mapSeq g),toks:=t}∧f τ=true:=by
 refine q06 h ?_;intro h1 h2
 refine S.putK_true_E3 h2 ?_;intro τ P h3
 refine X1x1 (q5H vs n g ws hg) ?_;intro n' hn
 have hx:(s.heap.update p.a (Obj.mapSeq g)).get? p.a=some (q09 ws n'):=by
  rw[Zc (Obj.mapSeq g) e3 (by rw[hn];rfl),hn]
 refine⟨τ,?_,h3⟩
 exact(R.toks (t:=t)).upd (s':={s with heap:=s.heap.update p.a (Obj.mapSeq g),toks:=t}) P e ek (.head _) (Heap.SameBut.update ..) ⟨_,hx⟩ ⟨ws,n',hx,hw,q0A h1⟩ (λob es q ho z=>by
  have:=e3.symm.trans ho;(refine zI this ?_;clear this;rintro rfl);cases z) rfl rfl
theorem q8X{α:Type}(l:List α)(i:Nat)(v:α):l.toArray.setIfInBounds i v=(l.set i v).toArray:=by simp
theorem q5U{α:Type}(l:List α)(i:Nat):l.toArray.eraseIdxIfInBounds i=(l.eraseIdx i).toArray:=by
 unfold Array.eraseIdxIfInBounds
 split
 ·simp
 ·rename_i h
  rw[List.eraseIdx_of_length_le (by simpa using h)]
theorem q4R(R:Rel B W fs σ s){k:Nat}{l m:List (List Nat×SV)}{p:Fp}{kvs:List (Str×Value)}{f:KN}{h':Heap}{t:Tok}(h:σ.putSK k m f=true)(e:σ.get k=some (.dictS l))(ek:W.ρ[k]?=some p)
  (hd:h'.DictOf (strKind B.prog B.w) p.a kvs) (hs:Heap.SameBut p.a s.heap h') (hw:All2 (q5f W) m kvs):∃τ,Rel B W fs τ {s with heap:=h',toks:=t}∧f τ=true:=by
 refine q06 h ?_;intro h1 h2
 have h2:=S.turnK_true h2
 refine S.putK_true_E3 h2 ?_;intro τ P h3
 refine X1x1 hd.dictAt ?_;intro ep hx
 exact⟨τ,(R.toks (t:=t)).updD P e ek hs (by(refine X2x2 hx ?_;clear hx;intro o es ho _);exact⟨o,ho⟩) ⟨kvs,ep,hx,hw,q0A h1⟩ rfl rfl,h3⟩
theorem q3f(R:Rel B W fs σ s){k:Nat}{o₁:SO}{m:List (Int×SV)}{p:Fp}{kvs:List (Int×Value)}{f:KN}{h':Heap}{t:Tok}(h:σ.putIK k m f=true)(e:σ.get k=some o₁)(ek:W.ρ[k]?=some p)
  (hd:h'.DictOf (intKind B.prog B.w) p.a kvs) (hs:Heap.SameBut p.a s.heap h') (hw:All2 (q5g W) m kvs):∃τ,Rel B W fs τ {s with heap:=h',toks:=t}∧f τ=true:=by
 refine q06 h ?_;intro h1 h2
 have h2:=S.turnK_true h2
 refine S.putK_true_E3 h2 ?_;intro τ P h3
 refine X1x1 hd.dictAt ?_;intro ep hx
 exact⟨τ,(R.toks (t:=t)).updD P e ek hs (by(refine X2x2 hx ?_;clear hx;intro o es ho _);exact⟨o,ho⟩) ⟨kvs,ep,hx,hw,q0A h1⟩ rfl rfl,h3⟩
noncomputable def putS(x:List Nat)(v:SV):List (List Nat×SV)→List (List Nat×SV)
 |[]=>[(x,v)]
 |p::r=>if p.1=x then(x,v)::r else p::putS x v r
theorem qb5(x:List Nat)(v:SV)(l:List (List Nat×SV))(k:List (List Nat×SV)→Bool):putSK x v l k=k (putS x v l):=by
 induction l generalizing k with
 |nil=>rfl
 |cons p r ih=>
  show bi (nlEq p.1 x) (k ((x,v)::r)) (putSK x v r (λr=>k (p::r)))=_
  rw[q2T,ih,show putS x v (p::r)=if p.1=x then(x,v)::r else p::putS x v r from rfl]
  by_cases h:p.1=x
  ·simp only[h,decide_true,if_true]
  ·simp only[h,decide_false,if_false]
noncomputable def putI(x:Int)(v:SV):List (Int×SV)→List (Int×SV)
 |[]=>[(x,v)]
 |p::r=>if p.1=x then(x,v)::r else p::putI x v r
theorem qb6(x:Int)(v:SV)(l:List (Int×SV))(k:List (Int×SV)→Bool):putIK x v l k=k (putI x v l):=by
 induction l generalizing k with
 |nil=>rfl
 |cons p r ih=>
  show bi (iEq p.1 x) (k ((x,v)::r)) (putIK x v r (λr=>k (p::r)))=_
  rw[q2b,ih,show putI x v (p::r)=if p.1=x then(x,v)::r else p::putI x v r from rfl]
  by_cases h:p.1=x
  ·simp only[h,decide_true,if_true]
  ·simp only[h,decide_false,if_false]
theorem q3x{K:Type}[DecidableEq K](kv:K×Value)(r:List (K×Value))(k:K)(v:Value)(hn:(kv::r).map (·.1) |>.Nodup):stored (kv::r) k v=if kv.1=k then(k,v)::r else kv::stored r k v:=by
 refine X0x2 (List.nodup_cons.mp hn) ?_;intro h1 h2
 unfold stored
 by_cases h:kv.1=k
 ·simp only[List.any_cons,h,decide_true,Bool.true_or,if_true,List.map_cons]
  congr 1
  rw[List.map_congr_left (g:=id)]
  ·simp
  ·intro a ha
   have:a.1≠k:=λz=>h1 (by show kv.1∈_;rw[h,←z];exact List.mem_map_of_mem ha)
   simp[this]
 ·simp only[List.any_cons,h,decide_false,Bool.false_or,if_false,List.map_cons]
  split<;>rfl
theorem qdm{x:List Nat}{v:SV}{u:Value}(hx:x.length≤4096)(hv:VR W v u){es:List (List Nat×SV)}{kvs:List (Str×Value)}(H:All2 (q5f W) es kvs)(hn:(kvs.map (·.1)).Nodup):All2 (q5f W) (putS x v es) (stored kvs ⟨x.toArray⟩ u):=by
 induction H with
 |nil=>exact .cons ⟨rfl,hx,hv⟩ .nil
 |@cons p q es kvs hp hr ih=>
  rw[q3x _ _ _ _ hn,putS,hp.1]
  by_cases h:p.1=x
  ·rw[if_pos h,if_pos (by rw[h])]
   exact .cons ⟨rfl,hx,hv⟩ hr
  ·rw[if_neg h,if_neg (λz=>h (q3w.mp z))]
   exact .cons hp (ih (List.nodup_cons.mp hn).2)
theorem q97{x:Int}{v:SV}{u:Value}(hx:x.natAbs<2305843009213693952)(hv:VR W v u){es:List (Int×SV)}{kvs:List (Int×Value)}(H:All2 (q5g W) es kvs)(hn:(kvs.map (·.1)).Nodup):All2 (q5g W) (putI x v es) (stored kvs x u):=by
 induction H with
 |nil=>exact .cons ⟨rfl,hx,hv⟩ .nil
 |@cons p q es kvs hp hr ih=>
  rw[q3x _ _ _ _ hn,putI,hp.1]
  by_cases h:p.1=x
  ·rw[if_pos h,if_pos h]
   exact .cons ⟨rfl,hx,hv⟩ hr
  ·rw[if_neg h,if_neg h]
   exact .cons hp (ih (List.nodup_cons.mp hn).2)
theorem q80(R:Rel B W fs σ s){A:Around}{E:Value→Shared→Prop}{o i v:SV}{u iv vv:Value}{f:KN}(h:Mine.Internal.setItem σ o i v f=true)(ho:VR W o u)(hi:VR W i iv)(hv:VR W v vv) :
  wpAny (model B.prog B.w) A (PySem.setItem u iv vv) (PQ B W fs (QU f)) E s:=by
 refine q00 h ?_;intro j h1 h2
 refine q00 h2 ?_;intro q h3 h4
 rw[q0L h1] at ho
 refine X1x2 ho ?_;clear ho;intro p hp o1;subst o1
 have hob:=R.objs _ _ _ h3 hp
 cases q with
 |list l=>
  refine q00 (show oB (iOf i) (λi=>oB (q2j i) (λn=>bi (Nat.blt n (len l)) (q75 l v n (λl=>σ.putLK j l f)) false))=true from h4) ?_;intro x h5 h6
  refine q00 h6 ?_;intro n h7 h8
  refine q06 h8 ?_;intro h9 h10
  have h9:=Nat.blt_eq.mp h9
  rw[q0o] at h9
  rw[q8Y] at h10
  rw[q0c h5] at hi
  refine q0d hi ?_;intro t o1 hb;subst o1
  have hxn:=q1o h7
  refine X2x3 hob ?_;clear hob;intro vs m e1 e2 e3
  have hf:=(q2V hb).2
  have h0:0≤x:=by rw[hxn];exact Int.natCast_nonneg n
  refine X1x2 (q2P (t:=s.toks) (g:=λxs=>xs.setIfInBounds n vv) R h10 h3 hp e1 (e2.set n hv) (q8X vs n vv)) ?_;intro τ R' h11
  have hj:n<vs.toArray.size:=by simpa[e2.length] using h9
  unfold PySem.setItem
  try with_reducible refine wpAny_holding ?_
  first|refine Z0 (Z3 ?_)|skip
  refine Z0 (wpAny_sequenceKey (q0b e1).typeIs (by decide) ?_)
  refine Z0 (wpAny_callSpecial?_slot (name:=Str.ofString "__setitem__") (q0b e1).typeIs slot_list_setitem
   (wpAny_call_entry slot_list_setitem (q0b e1).typeIs entry_list_setitem ?_ (args_list_setitem _ _ _)))
  show wpAny _ _ (Builtin.List.listSubscript? (.int x t)>>=_) _ _ s
  refine Z0 (wpAny_listSubscript_int (fitsIndex_of h0 hf) ?_)
  clear hf h0 hb
  subst hxn
  have hx':vs.toArray[n]?=some vs.toArray[n]:=Array.getElem?_eq_getElem hj
  show wpAny _ _ ((seqItemAt p.a n>>=λr=>pure (r.map (n,·)))>>=_) _ _ s
  refine Z0 (Z0 (wpAny_seqItemAt e1 rfl (Z3 ?_)))
  rw[hx']
  show wpAny _ _ (setSeqItemAt p.a n vv>>=_) _ _ s
  refine Z0 (wpAny_setSeqItemAt e1 rfl ?_)
  have fin:PQ B W fs (QU f) () {s with heap:=s.heap.update p.a (Obj.mapSeq (·.setIfInBounds n vv))}:=PQ.here R' h11
  first
   |exact Z0 (Z3 (Z3 ⟨.none,rfl,Z3 fin⟩))
   |exact Z3 ⟨.none,rfl,Z3 fin⟩
 |dictS es=>
  refine X2x3 hob ?_;clear hob;intro kvs ep e1 e2 e3
  have hsz:kvs.length≤sizeLine:=by rw[e2.length];exact q0i e3
  refine Z4 (q0f (show oE (sOf i) (bi (q0s es) (oB (iOf i) (λi=>σ.putIK j [(i,v)] f)) false) (λs=>putSK s v es (λes=>σ.putSK j es f))=true from h4)) (λo2=>X0x2 o2 λ_ h5=>?_) λo1=>X1x2 o1 λx h5 h6=>?_
  ·refine q06 h5 ?_;intro h6 h7
   refine q00 h7 ?_;intro x h8 h9
   rw[q0c h8] at hi
   refine q0d hi ?_;intro t o1 hb;subst o1
   cases es with
   |cons _ _=>exact zF h6
   |nil=>
    cases e2
    exact wpAny_setItem_pairs (k:=x) q1p (emptyDict e1).dictOf (λh' hd hs=>by
     refine X1x2 (q3f (t:=s.toks+1) R h9 h3 hp hd hs (q97 (x:=x) hb hv .nil (by simp))) ?_;intro τ R' h11
     exact PQ.here R' h11) hsz
  ·rw[q0X h5] at hi
   refine X1x2 hi ?_;clear hi;intro t o1 hlen;subst o1
   rw[qb5] at h6
   exact wpAny_setItem_pairs (k:=⟨x.toArray⟩) q1S e1.dictOf (λh' hd hs=>by
    refine X1x2 (q4R (t:=s.toks+1) R h6 h3 hp hd hs (qdm hlen hv e2 e1.nodup)) ?_;intro τ R' h11
    exact PQ.here R' h11) hsz
 |dictI es=>
  refine X2x3 hob ?_;clear hob;intro kvs ep e1 e2 e3
  have hsz:kvs.length≤sizeLine:=by rw[e2.length];exact q0i e3
  refine q00 (show oB (iOf i) (λi=>putIK i v es (λes=>σ.putIK j es f))=true from h4) ?_;intro x h5 h6
  rw[q0c h5] at hi
  refine q0d hi ?_;intro t o1 hb;subst o1
  rw[qb6] at h6
  exact wpAny_setItem_pairs (k:=x) q1p e1.dictOf (λh' hd hs=>by
   refine X1x2 (q3f (t:=s.toks+1) R h6 h3 hp hd hs (q97 hb hv e2 e1.nodup)) ?_;intro τ R' h11
   exact PQ.here R' h11) hsz
 |_=>exact zF h4
end
section
variable{B:Base}{sc:Scope}
theorem qfa{x i:XC}{o e:Expr}{pos:Pos}(hx:SX B sc x o)(hi:SX B sc i e)(ha:∀env v,assign (.Subscript o e pos) env v=(do
  let ov ←holding [v] (eval o env)
  let iv ←holding [v,ov] (eval e env)
  standAt pos
  holding [v,ov,iv] (PySem.setItem ov iv v)
  release [v,ov,iv] [])):SA B sc (aSub x i) (.Subscript o e pos):=λn W fs c X σ s y v k O R hv h=>by
 rw[ha]
 refine q01 (q04 (q0D (hx n W fs c X σ s _ O R h) λa W₁ σ₁ s₁ l₁ R₁ oY2x0=>?_))
 refine oY2x0.kE3 ?_;clear oY2x0;intro xa ha h₁
 refine q01 (q04 (q05 (hi n W₁ fs c X σ₁ s₁ _ (O.mono l₁) R₁ h₁) (λb s₂ oY1x0=>?_) λ_ _ z=>z.weaken l₁))
 refine oY1x0.kE7 ?_;clear oY1x0;intro W₂ σ₂ l₂ R₂ xb hb h₂
 exact q01 (q07 (toG (Z0 (wpAny_holding (wpAny_mono (q80 R₂ h₂ (ha.mono l₂) hb (hv.mono (l₁.trans l₂))) (λ_ s₃ h₃=>wpAny_release (h₃.weaken (l₁.trans l₂))) λ_ _ z=>z)))))
end
end
section
open PySem PySem.W PyProof.Rows
variable{B:Base}{W W':Wd}{fs:List Nat}{σ τ:S}{s s':Shared}
theorem q9E(R:Rel B W fs σ s){x:SV}{u:Value}{m:Nat}{xs:List SV}{kv:KV}(hk:q1h σ x=some 0)(hx:VR W x u)(h:meth σ x m xs kv=true) :
  ∃j p l vs n,σ.get j=some (.list l)∧W.ρ[j]?=some p∧u=.ref p.a∧s.heap.get? p.a=some (q09 vs n)∧VRs W l vs∧l.length≤4096∧qfW σ j m xs kv l=true:=by
 cases x with
 |own j=>
  refine q00 (show oB (σ.get j) (mObj σ j m xs kv)=true from h) ?_;intro o h1 h2
  refine q02 (show oO (σ.get j) q3I=some 0 from hk) ?_;intro o' h3 h4
  rw[h1] at h3;(refine zI h3 ?_;clear h3;rintro rfl)
  refine X1x2 hx ?_;clear hx;intro p hp o1;subst o1
  have ho:=R.objs _ _ _ h1 hp
  cases o with
  |list l=>
   refine X2x3 ho ?_;clear ho;intro vs n e1 e2 e3
   exact⟨j,p,l,vs,n,h1,hp,rfl,e1,e2,e3,h2⟩
  |dictS _=>cases h4
  |dictI _=>cases h4
  |_=>exact zN h4
 |str _=>cases hk
 |bytes _=>cases hk
 |_=>exact zN hk
theorem q2J{W:Wd}{xs:List SV}{vs:List Value}{f:SV→Bool}{g:SV→SV→Bool}(h:args xs f g=true)(ha:VRs W xs vs) :
  (∃x v,xs=[x]∧vs=[v]∧VR W x v∧f x=true)∨∃x y v w,xs=[x,y]∧vs=[v,w]∧VR W x v∧VR W y w∧g x y=true:=by
 cases ha with
 |nil=>exact zF h
 |@cons x v l l' hx hl=>
  cases hl with
  |nil=>exact .inl ⟨x,v,rfl,rfl,hx,h⟩
  |@cons y w m m' hy hr=>
   cases hr with
   |nil=>exact .inr ⟨x,y,v,w,rfl,rfl,hx,hy,h⟩
   |cons _ _=>exact zF h
theorem q43{xs:List SV}{f:SV→SV→Bool}{vs:List Value}(h:arg2 xs f=true)(ha:VRs W xs vs):∃x y v w,xs=[x,y]∧vs=[v,w]∧VR W x v∧VR W y w∧f x y=true:=by
 refine Z4 (q2J h ha) (λo1=>X2x4 o1 λ_ _ _ _ _ z=>?_) λz=>?_
 ·exact(Bool.false_ne_true z).elim
 ·exact z
theorem q0S{xs:List SV}{f:SV→Bool}{vs:List Value}(h:arg1 xs f=true)(ha:VRs W xs vs):∃x v,xs=[x]∧vs=[v]∧VR W x v∧f x=true:=by
 refine Z4 (q2J h ha) (λz=>?_) λo1=>X4x5 o1 λ_ _ _ _ _ _ _ _ z=>?_
 ·exact z
 ·exact(Bool.false_ne_true z).elim
theorem q44{xs:List SV}{b:Bool}{vs:List Value}(h:arg0 xs b=true)(ha:VRs W xs vs):xs=[]∧vs=[]∧b=true:=by
 cases ha with
 |nil=>exact⟨rfl,rfl,h⟩
 |cons _ _=>exact zF h
section
variable{n:Nat}{A:Around}{E:Value→Shared→Prop}{x:SV}{xs:List SV}{u:Value}{vs:List Value}{kv:KV}
theorem q7k(R:Rel B W fs σ s)(hk:q1h σ x=some 0)(hx:VR W x u)(ha:VRs W xs vs)(h:meth σ x 0 xs kv=true):wpAny (model B.prog B.w) A (call (.builtin "list.append") (u::vs)) (PQ B W fs (QV kv)) E s:=by
 refine X5x7 (q9E R hk hx h) ?_;intro j p l ws m e0 hp o1 e1 e2 e3 h;subst o1
 refine X2x4 (q0S (show arg1 xs (λv=>catK l [v] (λl=>σ.putLK j l (λσ=>kv .none σ)))=true from h) ha) ?_;intro y v o1 o2 hy h1;subst o1;subst o2
 rw[q1b] at h1
 refine X1x2 (q2P (t:=s.toks) (g:=λxs=>xs.push v) R h1 e0 hp e1 (e2.app (.cons hy .nil)) (by simp)) ?_;intro τ R' h2
 exact call_meets PySem.F.slot_list_append ⟨_,e1,rfl⟩ PySem.F.entry_list_append (PySem.F.args_list_append_2 _ _) (list_append p.a ws.toArray m v (by simp only[List.size_toArray,e2.length];exact q0i e3))
  ⟨e1,PQ.here R' (qv q1I h2)⟩
theorem qbk(R:Rel B W fs σ s)(hk:q1h σ x=some 0)(hx:VR W x u)(ha:VRs W xs vs)(h:meth σ x 1 xs kv=true):wpAny (model B.prog B.w) A (call (.builtin "list.extend") (u::vs)) (PQ B W fs (QV kv)) E s:=by
 refine X5x7 (q9E R hk hx h) ?_;intro j p l ws m e0 hp o1 e1 e2 e3 h;subst o1
 refine X2x4 (q0S (show arg1 xs (λv=>oB (wOf v) (λi=>bi (Nat.beq i j) false (oB (oO (σ.get i) lOf) (λr=>catK l r (λl=>σ.putLK j l (λσ=>kv .none σ))))))=true from h) ha) ?_;intro y v o1 o2 hy h1;subst o1;subst o2
 refine q00 h1 ?_;intro i h2 h3
 have h4:Nat.beq i j=false∧oB (oO (σ.get i) lOf) (λr=>catK l r (λl=>σ.putLK j l (λσ=>kv .none σ)))=true:=by
  refine Z4 (q1c h3) (λz=>?_) λz=>?_
  ·cases z.2
  ·exact z
 refine q00 h4.2 ?_;intro r h5 h6
 refine q02 h5 ?_;intro o h7 h8
 rw[q25 h8] at h7
 rw[q0L h2] at hy
 refine X1x2 hy ?_;clear hy;intro q hq o1;subst o1
 refine X2x3 (R.objs _ _ _ h7 hq) ?_;intro ys m' f1 f2 f3
 rw[q1b] at h6
 refine X1x2 (q2P (t:=s.toks) (g:=λxs=>xs++ys.toArray) R h6 e0 hp e1 (e2.app f2) (by simp)) ?_;intro τ R' h9
 have hs1:ws.toArray.size=l.length:=by simp[e2.length]
 have hs2:ys.toArray.size=r.length:=by simp[f2.length]
 have hline:sizeLine=16777216:=rfl
 exact call_meets PySem.F.slot_list_extend ⟨_,e1,rfl⟩ PySem.F.entry_list_extend (PySem.F.args_list_extend_2 _ _) (AutoSeq1.list_extend_list_list_0 p.a ws.toArray m q.a ys.toArray m' (extend_door (by rw[hs1,hs2];lia)) (by rw[hs1];lia) (by rw[hs1,hs2];lia))
  ⟨e1,f1,PQ.here R' (qv q1I h9)⟩
theorem qdF(R:Rel B W fs σ s)(hk:q1h σ x=some 0)(hx:VR W x u)(ha:VRs W xs vs)(h:meth σ x 4 xs kv=true):wpAny (model B.prog B.w) A (call (.builtin "list.clear") (u::vs)) (PQ B W fs (QV kv)) E s:=by
 refine X5x7 (q9E R hk hx h) ?_;intro j p l ws m e0 hp o1 e1 e2 e3 h;subst o1
 refine X0x3 (q44 (show arg0 xs (σ.putLK j [] (λσ=>kv .none σ))=true from h) ha) ?_;intro o1 o2 h1;subst o1;subst o2
 refine X1x2 (q2P (t:=s.toks) (g:=λ_=>#[]) (ws:=[]) R h1 e0 hp e1 .nil rfl) ?_;intro τ R' h2
 exact call_meets PySem.F.slot_list_clear ⟨_,e1,rfl⟩ PySem.F.entry_list_clear (PySem.F.args_list_clear_1 _) (AutoSeq1.list_clear_list_0 p.a ws.toArray m (by simp only[List.size_toArray,e2.length];exact q0i e3))
  ⟨e1,PQ.here R' (qv q1I h2)⟩
theorem qhg(R:Rel B W fs σ s)(hk:q1h σ x=some 0)(hx:VR W x u)(ha:VRs W xs vs)(h:meth σ x 2 xs kv=true):wpAny (model B.prog B.w) A (call (.builtin "list.pop") (u::vs)) (PQ B W fs (QV kv)) E s:=by
 refine X5x7 (q9E R hk hx h) ?_;intro j p l ws m e0 hp o1 e1 e2 e3 h;subst o1
 have hsz:ws.toArray.size≤sizeLine:=by simp only[List.size_toArray,e2.length];exact q0i e3
 have hlen:ws.toArray.size=l.length:=by simp[e2.length]
 cases ha with
 |nil=>
  refine q00 (show oB (nth l (Nat.sub (len l) 1)) (λv=>q4y l (Nat.sub (len l) 1) (λl=>σ.putLK j l (λσ=>kv v σ)))=true from h) ?_;intro y h1 h2
  rw[q31,q0o] at h1
  rw[q5X,q0o] at h2
  refine X1x2 (e2.get h1) ?_;intro v hv hr
  refine X1x2 (q2P (t:=s.toks) (g:=λxs=>xs.eraseIdxIfInBounds (l.length-1)) R h2 e0 hp e1 (e2.erase _) (q5U _ _)) ?_;intro τ R' h3
  have hM:=MeetsSeq.list_pop_last p.a ws.toArray m v (by rw[hlen];simpa using hv) hsz
  rw[hlen] at hM
  exact call_meets PySem.F.slot_list_pop ⟨_,e1,rfl⟩ PySem.F.entry_list_pop (PySem.F.args_list_pop_1 _) hM ⟨e1,PQ.here R' (qv hr h3)⟩
 |@cons y v ys vs' hy hr=>
  refine X2x4 (q0S (show arg1 (y::ys) (λ_=>oB (iOf y) (λi=>oB (idx (len l) i) (λn=>oB (nth l n) (λv=>q4y l n (λl=>σ.putLK j l (λσ=>kv v σ))))))=true from h) (.cons hy hr)) ?_;intro y' v' hxs hvs hy' h1
  cases hxs
  cases hvs
  refine q00 h1 ?_;intro i h2 h3
  refine q00 h3 ?_;intro k h4 h5
  refine q00 h5 ?_;intro z h6 h7
  rw[q0o] at h4
  rw[q31] at h6
  rw[q5X] at h7
  rw[q0c h2] at hy
  refine q0d hy ?_;intro t o1 hb;subst o1
  refine X0x2 (q5N h4) ?_;intro h8 h9
  refine X1x2 (e2.get h6) ?_;intro w hw hrz
  have hf:=q2V hb
  refine X1x2 (q2P (t:=s.toks) (g:=λxs=>xs.eraseIdxIfInBounds k) R h7 e0 hp e1 (e2.erase _) (q5U _ _)) ?_;intro τ R' h10
  exact call_meets PySem.F.slot_list_pop ⟨_,e1,rfl⟩ PySem.F.entry_list_pop (PySem.F.args_list_pop_2 _ _) (MeetsSeq.list_pop_at p.a ws.toArray m i t k w (by simp[Builtin.List.listFitsIndex];lia) (by rw[hlen];exact h8) (by simpa using hw) hsz)
   ⟨e1,PQ.here R' (qv hrz h10)⟩
theorem q5B:∀{l:List SV}{ns:List Int},nsOf l=some ns→l=ns.map (λi=>.int (.lit i))
 |[],ns,h=>by
  have h:some []=some ns:=h
  (refine zI h ?_;clear h;rintro rfl);rfl
 |v::l,ns,h=>by
  refine q02 (show oO (iOf v) (λa=>oO (nsOf l) (λr=>some (a::r)))=some ns from h) ?_;intro a h1 h2
  refine q02 h2 ?_;intro r h3 h4
  refine zI h4 ?_;clear h4;rintro rfl
  rw[q0c h1,q5B h3];rfl
theorem qdS{ns:List Int}{vs:List Value}(h:VRs W (ns.map (λi=>.int (.lit i))) vs):IntsAre vs ns:=by
 induction ns generalizing vs with
 |nil=>cases h;exact .nil
 |cons n ns ih=>
  cases h with
  |cons h r=>
   refine q0d h ?_;intro t o1 _;subst o1
   exact .cons n t (ih r)
theorem q99{x:Int}:∀{ns:List Int}{i n:Nat},posI x ns i=some n→x∈ns∧n=i+ns.idxOf x
 |[],i,n,h=>by exact zN h
 |a::ns,i,n,h=>by
  have h:bi (iEq a x) (some i) (posI x ns (i+1))=some n:=h
  rw[q2b] at h
  by_cases e:a=x
  ·simp only[e,decide_true] at h
   have h:i=n:=Z6 h
   rw[e]
   exact⟨.head _,by simp[h]⟩
  ·simp only[decide_eq_false e] at h
   refine X0x2 (q99 h) ?_;intro h1 h2
   refine⟨.tail _ h1,?_⟩
   rw[List.idxOf_cons]
   have:(a==x)=false:=beq_eq_false_iff_ne.mpr e
   simp only[this,cond_false]
   lia
theorem qdE(R:Rel B W fs σ s)(hk:q1h σ x=some 0)(hx:VR W x u)(ha:VRs W xs vs)(h:meth σ x 3 xs kv=true):wpAny (model B.prog B.w) A (call (.builtin "list.index") (u::vs)) (PQ B W fs (QV kv)) E s:=by
 refine X5x7 (q9E R hk hx h) ?_;intro j p l ws m e0 hp o1 e1 e2 e3 h;subst o1
 refine X2x4 (q0S (show arg1 xs (λv=>oB (iOf v) (λx=>oB (nsOf l) (λns=>oB (posI x ns 0) (λn=>kv (.int (.lit (.ofNat n))) σ))))=true from h) ha) ?_;intro y v o1 o2 hy h1;subst o1;subst o2
 refine q00 h1 ?_;intro i h2 h3
 refine q00 h3 ?_;intro ns h4 h5
 refine q00 h5 ?_;intro k h6 h7
 rw[q0c h2] at hy
 refine q0d hy ?_;intro t o1 _;subst o1
 rw[q5B h4] at e2 e3
 have hi:=qdS e2
 refine X0x2 (q99 h6) ?_;intro h8 h9
 have hlen:=hi.length
 have hj:ns.idxOf i<ns.length:=List.idxOf_lt_length_iff.mpr h8
 have e3:ns.length≤4096:=by simpa using e3
 have h9:k=ns.idxOf i:=by lia
 refine call_meets PySem.F.slot_list_index ⟨_,e1,rfl⟩ PySem.F.entry_list_index (PySem.F.args_list_index_2 _ _)
  (SeqAt.list_indexAt p.a ws.toArray m none #[] (.int i t) (PyProof.Rows.isInt i) (ns.idxOf i) (by simpa[hlen] using hj) (by lia) ?_ ?_) ⟨e1,λy hy=>(eq_isInt i t hi y (by simpa using hy)).at _ _,?_⟩
 ·show PyProof.Rows.isInt i ws[ns.idxOf i]=true
  rw[isInt_at i hi _ (by lia) hj]
  simpa using List.getElem_idxOf hj
 ·intro j hjs hlt
  show PyProof.Rows.isInt i ws[j]=false
  rw[isInt_at i hi j (by simpa using hjs) (by lia)]
  exact ne_of_lt_idxOf hlt _
 ·rw[←h9]
  refine PQ.tok R (qv (q13 ?_) h7)
  show k<2305843009213693952
  lia
theorem qdM(R:Rel B W fs σ s){m:Nat}(hk:q1h σ x=some 1)(hx:VR W x u)(h:meth σ x m xs kv=true):∃j p,W.ρ[j]?=some p∧u=.ref p.a∧
  ((∃es kvs ep,σ.get j=some (.dictS es)∧s.heap.DictAt (strKind B.prog B.w) p.a kvs ep∧All2 (q5f W) es kvs∧es.length≤4096∧qcg σ j m xs kv es=true)∨
   (∃es kvs ep,σ.get j=some (.dictI es)∧s.heap.DictAt (intKind B.prog B.w) p.a kvs ep∧All2 (q5g W) es kvs∧es.length≤4096∧qch σ j m xs kv es=true)):=by
 cases x with
 |own j=>
  refine q00 (show oB (σ.get j) (mObj σ j m xs kv)=true from h) ?_;intro o h1 h2
  refine q02 (show oO (σ.get j) q3I=some 1 from hk) ?_;intro o' h3 h4
  rw[h1] at h3;(refine zI h3 ?_;clear h3;rintro rfl)
  refine X1x2 hx ?_;clear hx;intro p hp o1;subst o1
  have ho:=R.objs _ _ _ h1 hp
  cases o with
  |dictS es=>
   refine X2x3 ho ?_;clear ho;intro kvs ep e1 e2 e3
   exact⟨j,p,hp,rfl,.inl ⟨es,kvs,ep,h1,e1,e2,e3,h2⟩⟩
  |dictI es=>
   refine X2x3 ho ?_;clear ho;intro kvs ep e1 e2 e3
   exact⟨j,p,hp,rfl,.inr ⟨es,kvs,ep,h1,e1,e2,e3,h2⟩⟩
  |_=>first|(cases h4)|(exact zN h4)
 |str _=>cases hk
 |bytes _=>cases hk
 |_=>exact zN hk
theorem qbn(R:Rel B W fs σ s)(hk:q1h σ x=some 1)(hx:VR W x u)(ha:VRs W xs vs)(h:meth σ x 4 xs kv=true):wpAny (model B.prog B.w) A (call (.builtin "dict.clear") (u::vs)) (PQ B W fs (QV kv)) E s:=by
 refine X2x3 (qdM R hk hx h) ?_;intro j p hp o1 o2;subst o1;rcases o2 with ⟨es,kvs,ep,e0,e1,e2,e3,h⟩|⟨es,kvs,ep,e0,e1,e2,e3,h⟩
 ·refine X0x3 (q44 (show arg0 xs (σ.putSK j [] (λσ=>kv .none σ))=true from h) ha) ?_;intro o1 o2 h1;subst o1;subst o2
  refine call_meetsIn PySem.F.slot_dict_clear e1.dictOf.typeIs PySem.F.entry_dict_clear (PySem.F.args_dict_clear_1 _) (meets_dict_clear (strKind B.prog B.w) p.a) ⟨kvs,e1.dictOf,by rw[e2.length];exact q0i e3,λh' hd hs=>?_⟩
  refine X1x2 (q4R (t:=s.toks) R h1 e0 hp hd hs .nil) ?_;intro τ R' h2
  exact PQ.here R' (qv q1I h2)
 ·refine X0x3 (q44 (show arg0 xs (σ.putIK j [] (λσ=>kv .none σ))=true from h) ha) ?_;intro o1 o2 h1;subst o1;subst o2
  refine call_meetsIn PySem.F.slot_dict_clear e1.dictOf.typeIs PySem.F.entry_dict_clear (PySem.F.args_dict_clear_1 _) (meets_dict_clear (intKind B.prog B.w) p.a) ⟨kvs,e1.dictOf,by rw[e2.length];exact q0i e3,λh' hd hs=>?_⟩
  refine X1x2 (q3f (t:=s.toks) R h1 e0 hp hd hs .nil) ?_;intro τ R' h2
  exact PQ.here R' (qv q1I h2)
theorem qhh(R:Rel B W fs σ s)(hk:q1h σ x=some 1)(hx:VR W x u)(ha:VRs W xs vs)(h:meth σ x 5 xs kv=true):wpAny (model B.prog B.w) A (call (.builtin "dict.get") (u::vs)) (PQ B W fs (QV kv)) E s:=by
 refine X2x3 (qdM R hk hx h) ?_;intro j p hp o1 o2;subst o1;rcases o2 with ⟨es,kvs,ep,e0,e1,e2,e3,h⟩|⟨es,kvs,ep,e0,e1,e2,e3,h⟩
 ·refine X4x5 (q43 (show arg2 xs (λs d=>oB (sOf s) (λs=>oE (keyS s es) (kv d σ) (λv=>kv v σ)))=true from h) ha) ?_;intro y d v w o1 o2 hy hd h1;subst o1;subst o2
  refine q00 h1 ?_;intro z h2 h3
  rw[q0X h2] at hy
  refine X1x2 hy ?_;clear hy;intro t o1 _;subst o1
  refine call_meetsIn PySem.F.slot_dict_get e1.dictOf.typeIs PySem.F.entry_dict_get (PySem.F.args_dict_get_3 _ _ _) (meets_dict_get_default (k:=⟨z.toArray⟩) (strKind B.prog B.w) p.a q1S (R.notMods hp) w) ⟨_,e1.dictOf.mapOf,?_⟩
  have hkS:=q6v (x:=z) e2
  refine Z4 (q0f h3) (λo2=>X0x2 o2 λh4 h5=>?_) λo1=>X1x2 o1 λq h4 h5=>?_
  ·rw[h4] at hkS
   have hkS:valueAt kvs ⟨z.toArray⟩=none:=hkS
   rw[hkS]
   exact PQ.tok R (qv hd h5)
  ·rw[h4] at hkS
   refine X1x2 hkS ?_;clear hkS;intro r hr1 hr2
   rw[hr1]
   exact PQ.tok R (qv hr2 h5)
 ·exact zF h
noncomputable def q8h(x:Int):List (Int×SV)→List (Int×SV)
 |[]=>[]
 |p::r=>if p.1=x then r else p::q8h x r
theorem qa2(x:Int)(l:List (Int×SV))(k:List (Int×SV)→Bool):q7D x l k=k (q8h x l):=by
 induction l generalizing k with
 |nil=>rfl
 |cons p r ih=>
  show bi (iEq p.1 x) (k r) (q7D x r (λr=>k (p::r)))=_
  rw[q2b,ih,show q8h x (p::r)=if p.1=x then r else p::q8h x r from rfl]
  by_cases h:p.1=x
  ·simp only[h,decide_true,if_true]
  ·simp only[h,decide_false,if_false]
theorem qbJ{x:Int}{es:List (Int×SV)}{kvs:List (Int×Value)}(H:All2 (q5g W) es kvs)(hn:(kvs.map (·.1)).Nodup):All2 (q5g W) (q8h x es) (without kvs x):=by
 induction H with
 |nil=>exact .nil
 |@cons p q es kvs hp hr ih=>
  refine X0x2 (List.nodup_cons.mp hn) ?_;intro n1 n2
  have ih:=ih n2
  unfold without at ih⊢
  rw[q8h,List.filter_cons,hp.1]
  by_cases h:p.1=x
  ·rw[if_pos h,if_neg (by simp[h])]
   have:kvs.filter (λkv=>decide (kv.1≠x))=kvs:=by
    rw[List.filter_eq_self]
    intro a ha
    refine decide_eq_true λz=>n1 ?_
    show q.1∈_
    rw[hp.1,h,←z]
    exact List.mem_map_of_mem ha
   rw[this];exact hr
  ·rw[if_neg h,if_pos (by simp[h])]
   exact .cons hp ih
theorem qfR(R:Rel B W fs σ s)(hk:q1h σ x=some 1)(hx:VR W x u)(ha:VRs W xs vs)(h:meth σ x 2 xs kv=true):wpAny (model B.prog B.w) A (call (.builtin "dict.pop") (u::vs)) (PQ B W fs (QV kv)) E s:=by
 refine X2x3 (qdM R hk hx h) ?_;intro j p hp o1 o2;subst o1;rcases o2 with ⟨es,kvs,ep,e0,e1,e2,e3,h⟩|⟨es,kvs,ep,e0,e1,e2,e3,h⟩
 ·exact zF h
 ·refine X2x4 (q0S (show arg1 xs (λi=>oB (iOf i) (λi=>oB (keyI i es) (λv=>q7D i es (λes=>σ.putIK j es (λσ=>kv v σ)))))=true from h) ha) ?_;intro y v o1 o2 hy h1;subst o1;subst o2
  refine q00 h1 ?_;intro i h2 h3
  refine q00 h3 ?_;intro z h4 h5
  rw[q0c h2] at hy
  refine q0d hy ?_;intro t o1 _;subst o1
  rw[qa2] at h5
  have hkI:=q6w (x:=i) e2
  rw[h4] at hkI
  refine X1x2 hkI ?_;clear hkI;intro r hr1 hr2
  refine call_meetsIn PySem.F.slot_dict_pop e1.dictOf.typeIs PySem.F.entry_dict_pop (PySem.F.args_dict_pop_2 _ _) (meets_dict_pop_there (k:=i) (intKind B.prog B.w) p.a q1p [] (.inl rfl) rfl) ⟨kvs,r,e1.dictOf,by rw[e2.length];exact q0i e3,hr1,λh' hd hs=>?_⟩
  refine X1x2 (q3f (t:=s.toks+1) R h5 e0 hp hd hs (qbJ e2 e1.nodup)) ?_;intro τ R' h6
  exact PQ.here R' (qv hr2 h6)
end
end
section
open PySem PySem.W PyProof.Rows
noncomputable def q2D(o:Obj):Bool:=o.cls==.type "code"
noncomputable def FreeAt(B:Base)(W:Wd)(h:Heap)(gs:List (Addr×Obj)):Prop:=∀g∈gs,h.get? g.1=some g.2∧B.h₀.objs.size≤g.1∧(∀p:Fp,p∈W.ρ→g.1∉p.all)∧(∀x∈W.γ,x.1≠g.1)∧q2D g.2=false
noncomputable def ItR(B:Base)(W:Wd):It→Value→List (Addr×Obj)→List (Nat×Nat×Nat)→Prop
 |.lst k i,iv,gs,ds=>∃I o p,iv=.ref I∧W.ρ[k]?=some p∧gs=[(I,o)]∧o.cls=.type "list_iterator"∧o.data=.fields #[.ref p.a,.int i 0]∧ds=[]
 |.tup v i,iv,gs,ds=>∃I o a,iv=.ref I∧VR W v (.ref a)∧gs=[(I,o)]∧o.cls=.type "tuple_iterator"∧o.data=.fields #[.ref a,.int i 0]∧ds=[]
 |.rng a n,iv,gs,ds=>∃I o,iv=.ref I∧gs=[(I,o)]∧o=⟨.type "range_iterator",none,.fields #[rawInt a,rawInt n,rawInt 1],#[]⟩∧(-2305843009213693952<a∧(0<n→a+n<2305843009213693952))∧ds=[]
 |.dct k i n c,iv,gs,ds=>∃(I:Addr)(o:Obj)(p:Fp)(ep:Nat),iv=.ref I∧W.ρ[k]?=some p∧gs=[(I,o)]∧o.cls=.type "dict_keyiterator"∧o.data=.fields #[.ref p.a,.int i 0,.int n 0,.int ep 0]∧ds=[(k,c,ep)]
 |.enu j k i,iv,gs,ds=>∃e I oe o p old,iv=.ref e∧W.ρ[k]?=some p∧gs=[(e,oe),(I,o)]∧oe=⟨.type "enumerate",none,.fields #[.none,.bool false,.ref I,rawInt (j:Nat),.none,old],#[]⟩∧o.cls=.type "list_iterator"∧o.data=.fields #[.ref p.a,.int i 0]∧j=i∧e≠I∧ds=[]
 |.byt l i,iv,gs,ds=>∃I o b t,iv=.ref I∧gs=[(I,o)]∧o.cls=.type "bytes_iterator"∧o.data=.fields #[.bytes b t,.int i 0]∧All2 (q3d W) l b.toList∧ds=[]
theorem ItR.mono{B:Base}{W W':Wd}(h:W.le W'){it:It}{iv:Value}{gs:List (Addr×Obj)}{ds:List (Nat×Nat×Nat)}(H:ItR B W it iv gs ds):ItR B W' it iv gs ds:=by
 cases it with
 |lst _ _=>(refine X3x3 H ?_;clear H;intro I o p a b c);exact⟨I,o,p,a,q0a h.ρ b,c⟩
 |tup _ _=>(refine X3x3 H ?_;clear H;intro I o a b c d);exact⟨I,o,a,b,c.mono h,d⟩
 |rng _ _=>exact H
 |dct _ _ _ _=>(refine X4x3 H ?_;clear H;intro I o p ep a b c);exact⟨I,o,p,ep,a,q0a h.ρ b,c⟩
 |enu _ _ _=>(refine X6x3 H ?_;clear H;intro e I oe o p old a b c);exact⟨e,I,oe,o,p,old,a,q0a h.ρ b,c⟩
 |byt _ _=>(refine X4x6 H ?_;clear H;intro I o b t a c d e f g);exact⟨I,o,b,t,a,c,d,e,f.mono λ_ _ z=>SI.is.mono h.ν z,g⟩
section
variable{B:Base}{W W':Wd}{fs:List Nat}{σ τ:S}{s s':Shared}
theorem FreeAt.still{g:Addr×Obj}{gs:List (Addr×Obj)}(R:Rel B W fs σ s)(F:FreeAt B W s.heap gs)(hg:g∈gs):∀x∈W.still,x.1≠g.1:=λx hx e=>by
 refine X0x5 (F g hg) ?_;intro a _ _ c d
 refine Z4 (List.mem_append.mp hx) (λy=>?_) λy=>?_
 ·refine X1x2 (List.mem_map.mp y) ?_;intro z hz o1;subst o1
  have:=(R.fz _ hx).1
  have e:z.1=g.1:=e
  rw[e,a] at this
  have:g.2=q6I z.2:=Z6 this
  rw[this] at d
  exact zT d
 ·exact c x y e
theorem Rel.iter(R:Rel B W fs σ s){gs:List (Addr×Obj)}{g:Addr×Obj}{h':Heap}{t:Tok}(F:FreeAt B W s.heap gs)(hg:g∈gs)(hs:Heap.ExtBut g.1 s.heap h'):Rel B W fs σ {s with heap:=h',toks:=t}:=
 (R.toks (t:=t)).ext (s':={s with heap:=h',toks:=t}) hs (F g hg).2.1 (F g hg).2.2.1 (λx hx=>FreeAt.still R F hg x hx) rfl rfl
theorem FreeAt.turn1{I:Addr}{o o':Obj}{h h':Heap}(F:FreeAt B W h [(I,o)])(e:h'.get? I=some o')(c:q2D o'=false):FreeAt B W h' [(I,o')]:=λg hg=>by
 rw[List.mem_singleton.mp hg]
 refine X0x5 (F (I,o) (.head _)) ?_;intro _ b c' d _
 exact⟨e,b,c',d,c⟩
theorem q1O{α:Type}{l:List α}{i:Nat}{e:Bool}{k:α→Bool}(h:nxAt l i e k=true):(l[i]?=none∧e=true)∨∃x,l[i]?=some x∧k x=true:=by
 refine Z4 (q0f (show oE (nth l i) e k=true from h)) (λo2=>X0x2 o2 λa b=>?_) λo1=>X1x2 o1 λx a b=>?_
 ·rw[q31] at a;exact .inl ⟨a,b⟩
 ·rw[q31] at a;exact .inr ⟨x,a,b⟩
theorem q3i{α β:Type}{P:α→β→Prop}{l:List α}{l':List β}(h:All2 P l l'){i:Nat}(e:l[i]?=none):l'.toArray[i]?=none:=by
 have h1:=List.getElem?_eq_none_iff.mp e
 simp[h.length,h1]
theorem Rel.adopt(R:Rel B W fs σ s){o:SO}(A:Add σ o τ){p:Fp}(hp:∀u∈p.all,B.h₀.objs.size≤u∧(∃o,s.heap.get? u=some o)∧(∀q:Fp,q∈W.ρ→u∉q.all)∧∀x∈W.still,x.1≠u)(ho:OR B (W.add p) s.heap p o):Rel B (W.add p) fs τ s:=by
 refine⟨by simp[Wd.add,A.n,R.len],by rw[A.nv];exact R.lenv,λk o' e=>?_,λk o' q e1 e2=>?_,λj k q r e1 e2 hne u hu hu'=>?_,λq hq u hu=>?_,R.old.mono (W.le_add p),R.lim,R.vars,R.gens,R.os,by rw[A.frs];exact R.fids,
  λq hq=>R.mono_frs (W.le_add p) (A.frs▸hq) λ_ _ _ _ _ e=>e,λq hq=>?_,R.fnd,λx hx=>⟨(R.fz x hx).1,(R.fz x hx).2.1,λq hq=>?_⟩,
  λq hq=>⟨by rw[A.n];exact Nat.lt_succ_of_lt (R.epn q hq).1,(R.epn q hq).2⟩,λq hq=>?_⟩
 ·rw[A.n]
  refine Z4 (A.get k o' e) (λo2=>X0x2 o2 λe _=>?_) λo1=>X0x2 o1 λ_ e=>?_
  ·rw[e];exact Nat.lt_succ_self _
  ·exact Nat.lt_succ_of_lt (R.bound k o' e)
 ·refine Z4 (A.get k o' e1) ?_ (λo1=>X0x2 o1 λhne e=>?_);intro o2;refine X0x2 o2 ?_;clear o2;intro o3 o4;subst o3;subst o4
  ·rw[R.add_at p] at e2;(refine zI e2 ?_;clear e2;rintro rfl);exact ho
  ·refine Z4 (q1s e2) (λe2=>?_) λo1=>X0x2 o1 λe2 _=>?_
   ·exact(R.objs k o' q e e2).mono (W.le_add p) λ_ _ _ z=>z
   ·exact absurd (e2.trans R.len) hne
 ·refine Z4 (q1s e1) (λf1=>?_) λo1=>X0x2 o1 λf1 g1=>?_<;>refine Z4 (q1s e2) (λf2=>?_) λo1=>X0x2 o1 λf2 g2=>?_
  ·exact R.sep j k q r f1 f2 hne u hu hu'
  ·rw[g2] at hu';exact(hp u hu').2.2.1 q (Zd f1) hu
  ·rw[g1] at hu;exact(hp u hu).2.2.1 r (Zd f2) hu'
  ·exact hne (f1.trans f2.symm)
 ·focus (refine Z4 (q1g hq) ?_ ?_;rotate_left;rintro rfl;rotate_right;intro hq)
  ·exact R.own q hq u hu
  ·exact⟨(hp u hu).1,(hp u hu).2.1⟩
 ·cases e:τ.get q with
  |none=>rfl
  |some o'=>
   refine Z4 (A.get q o' e) (λo2=>X0x2 o2 λa _=>?_) λo1=>X0x2 o1 λ_ b=>?_
   ·exfalso
    rw[←R.fids] at hq
    refine X1x2 (List.mem_map.mp hq) ?_;intro q' hq' e'
    refine X2x2 (R.frs q' hq') ?_;intro L f z _
    have:=(List.getElem?_eq_some_iff.mp z).1
    rw[R.len] at this
    have e':q'.1=q:=e'
    lia
   ·rw[R.frn q hq] at b;exact zN b
 ·focus (refine Z4 (q1g hq) ?_ ?_;rotate_left;rintro rfl;rotate_right;intro hq)
  ·exact(R.fz x hx).2.2 q hq
  ·exact λhu=>(hp _ hu).2.2.2 x hx rfl
 ·rw[A.kc]
  exact⟨(R.eps q hq).1,λe=>by(refine X3x3 ((R.eps q hq).2 e) ?_;intro p' o es a b c);exact⟨p',o,es,q0a (W.le_add p).ρ a,b,c⟩⟩
theorem q50{α β:Type}(f:α→β)(l:List α):mapL f l=l.map f:=by
 induction l with
 |nil=>rfl
 |cons a r ih=>show _::mapL f r=_;rw[ih];rfl
noncomputable def ItO(B:Base)(W:Wd)(it:It)(iv v:Value)(gs:List (Addr×Obj))(ds:List (Nat×Nat×Nat)):Prop:=match it with
 |.enu j k i=>∃e I oe o p a item,iv=.ref e∧v=.ref a∧W.ρ[k]?=some p∧gs=[(e,oe),(I,o)]∧oe=⟨.type "enumerate",none,.fields #[rawInt (a:Nat),.bool false,.ref I,rawInt (j:Nat),.none,item],#[]⟩∧o.cls=.type "list_iterator"∧o.data=.fields #[.ref p.a,.int i 0]∧j=i∧e≠I∧ds=[]
 |it=>ItR B W it iv gs ds
noncomputable def DsOk(W:Wd)(σ:S)(h:Heap)(fs:List Nat)(ds:List (Nat×Nat×Nat)):Prop:=∀q∈ds,(q.1<σ.n∧q.1∉fs)∧q.2.1≤σ.kc∧(σ.kc=q.2.1→∃p o es,W.ρ[q.1]?=some p∧h.get? p.a=some o∧o.data=.dict es q.2.2)
noncomputable def q2C:It→Bool
 |.enu ..=>true
 |_=>false
inductive QNs(B:Base)(W:Wd)(fs:List Nat)(iv:Value)(ds:List (Nat×Nat×Nat))(en:Bool)(k:KI)(v:Value)(s:Shared):Prop
 |mk (W':Wd) (σ':S) (it:It) (x:SV) (gs:List (Addr×Obj)) (l:W.le W') (R:Rel B W' fs σ' s) (h₁:VR W' x v) (h₂:ItO B W' it iv v gs ds) (h₃:FreeAt B W' s.heap gs) (h₄:DsOk W' σ' s.heap fs ds) (h₅:q2C it=en) (h₆:k x it σ'=true):QNs B W fs iv ds en k v s
noncomputable def QN(B:Base)(W:Wd)(fs:List Nat)(σ:S)(iv:Value)(ds:List (Nat×Nat×Nat))(en:Bool)(e:Bool)(k:KI):Option Value→Shared→Prop:=λr s=>match r with
 |none=>e=true∧Rel B W fs σ s
 |some v=>QNs B W fs iv ds en k v s
theorem q7h{X K:Type}[DecidableEq K]{knd:PySem.KeyKind B.prog B.w K}{P:X→K×Value→Prop}{l:List X}{g:X→SV}{kvs:List (K×Value)}{p:Fp}{ep j m i c:Nat}{I:Addr}{o:Obj}{e:Bool}{k:KI}(R:Rel B W fs σ s){A:Around}{E:Value→Shared→Prop}(hA:A.handled=none)
  (hp:W.ρ[j]?=some p) (e1:s.heap.DictAt knd p.a kvs ep) (e2:All2 P l kvs) (F:FreeAt B W s.heap [(I,o)]) (hc:o.cls=.type "dict_keyiterator") (hd':o.data=.fields #[.ref p.a,.int i 0,.int m 0,.int ep 0]) (hm:l.length=m)
  (D:∀h',Heap.SameBut I s.heap h'→DsOk W σ h' fs [(j,c,ep)]) (hk:∀x kv key,P x kv→knd.is kv.1 key=true→VR W (g x) key) (h:nxAt (l.map g) i e (λv=>k v (.dct j (i+1) m c) σ)=true) :
  wpAny (model B.prog B.w) A (pyNext (.ref I)) (QN B W fs σ (.ref I) [(j,c,ep)] (q2C (.dct j i m c)) e k) E s:=by
 have hlen:kvs.length=m:=e2.length.trans hm
 have hit:s.heap.IsKeyIter I p.a i kvs.length ep:=⟨o,(F (I,o) (.head _)).1,hc,by rw[hlen];exact hd'⟩
 refine Z4 (q1O h) (λo2=>X0x2 o2 λh1 h2=>?_) λo1=>X1x2 o1 λx h1 h2=>?_
 ·have:kvs[i]?=none:=by
   have:=List.getElem?_eq_none_iff.mp h1
   rw[List.length_map] at this
   rw[List.getElem?_eq_none_iff,e2.length];exact this
  exact wpAny_pyNext_dict_end hA hit e1 this λh' hs=>⟨h2,R.iter F (.head _) hs⟩
 ·rw[List.getElem?_map] at h1
  refine X1x2 (Option.map_eq_some_iff.mp h1) ?_;intro pr hdi hx
  refine X1x2 (e2.get hdi) ?_;intro kv hkv hr
  refine wpAny_pyNext_dict_item (k:=kv.1) (v:=kv.2) hit e1 hkv λkey h' hkey hit' hs=>?_
  refine X1x3 hit' ?_;clear hit';intro o₂ f1 f2 f3
  rw[hlen] at f3
  exact⟨W,σ,.dct j (i+1) m c,x,[(I,o₂)],.refl W,R.iter F (.head _) hs.extBut,hx▸hk _ _ _ hr hkey,⟨I,o₂,p,ep,rfl,hp,rfl,f2,f3,rfl⟩,F.turn1 f1 (by unfold q2D;rw[f2];rfl),D h' hs,rfl,h2⟩
theorem q9q(R:Rel B W fs σ s){A:Around}{E:Value→Shared→Prop}(hA:A.handled=none){it:It}{iv:Value}{gs:List (Addr×Obj)}{ds:List (Nat×Nat×Nat)}{e:Bool}{k:KI}(I:ItR B W it iv gs ds)(F:FreeAt B W s.heap gs)
  (hd:DsOk W σ s.heap fs ds) (h:q5E tb σ it e k=true):wpAny (model B.prog B.w) A (pyNext iv) (QN B W fs σ iv ds (q2C it) e k) E s:=by
 cases it with
 |lst j i=>
  refine X3x6 I ?_;clear I;intro I o p o1 hp o2 hc hd' o3;subst o1;subst o2;subst o3
  refine q00 (show oB (oO (σ.get j) lOf) (λl=>nxAt l i e (λv=>k v (.lst j (Nat.add i 1)) σ))=true from h) ?_;intro l h1 h2
  refine q02 h1 ?_;intro o' h3 h4
  rw[q25 h4] at h3
  refine X2x3 (R.objs _ _ _ h3 hp) ?_;intro vs n e1 e2 e3
  have hI:=(F (I,o) (.head _)).1
  refine Z4 (q1O h2) (λo2=>X0x2 o2 λh5 h6=>?_) λo1=>X1x2 o1 λx h5 h6=>?_
  ·exact wpAny_pyNext_list_end hA ⟨o,hI,hc,hd'⟩ (q0b e1) (q3i e2 h5) λh' hs=>⟨h6,R.iter F (.head _) hs⟩
  ·refine X1x2 (e2.get h5) ?_;intro v hv hr
   refine wpAny_pyNext_list_item (x:=v) ⟨o,hI,hc,hd'⟩ (q0b e1) (by simpa using hv) λh' hit hs=>?_
   refine X1x3 hit ?_;clear hit;intro o₂ f1 f2 f3
   exact⟨W,σ,.lst j (i+1),x,[(I,o₂)],.refl W,R.iter F (.head _) hs.extBut,hr,⟨I,o₂,p,rfl,hp,rfl,f2,f3,rfl⟩,F.turn1 f1 (by unfold q2D;rw[f2];rfl),(λq hq=>by cases hq),rfl,h6⟩
 |tup u i=>
  refine X3x6 I ?_;clear I;intro I o a o1 hu o2 hc hd' o3;subst o1;subst o2;subst o3
  refine q00 (show oB (q0C tb σ u) (λl=>nxAt l i e (λv=>k v (.tup u (Nat.add i 1)) σ))=true from h) ?_;intro l h1 h2
  refine R.tup_E7 h1 hu ?_;intro a' vs n ha e1 e2 e3
  cases ha
  have hI:=(F (I,o) (.head _)).1
  refine Z4 (q1O h2) (λo2=>X0x2 o2 λh5 h6=>?_) λo1=>X1x2 o1 λx h5 h6=>?_
  ·exact wpAny_pyNext_tuple_end hA ⟨o,hI,hc,hd'⟩ (q0l e1) (q3i e2 h5) λh' hs=>⟨h6,R.iter F (.head _) hs⟩
  ·refine X1x2 (e2.get h5) ?_;intro v hv hr
   refine wpAny_pyNext_tuple_item (x:=v) ⟨o,hI,hc,hd'⟩ (q0l e1) (by simpa using hv) λh' hit hs=>?_
   refine X1x3 hit ?_;clear hit;intro o₂ f1 f2 f3
   exact⟨W,σ,.tup u (i+1),x,[(I,o₂)],.refl W,R.iter F (.head _) hs.extBut,hr,⟨I,o₂,a,rfl,hu,rfl,f2,f3,rfl⟩,F.turn1 f1 (by unfold q2D;rw[f2];rfl),(λq hq=>by cases hq),rfl,h6⟩
 |rng a n=>
  refine X2x5 I ?_;clear I;intro I o o1 o2 o3 hb o4;subst o1;subst o2;subst o3;subst o4
  have hI:=(F _ (.head _)).1
  cases n with
  |zero=>exact wpAny_pyNext_range_end hA hI (by simp) λh' hs=>⟨h,R.iter F (.head _) hs⟩
  |succ n=>
   have h:k (.int (.lit a)) (.rng (iAdd a 1) n) σ=true:=h
   rw[q54] at h
   refine wpAny_pyNext_range_item hI (Int.ofNat_lt.mpr (Nat.succ_pos n)) λh' hit hs=>?_
   have e1:((n+1:Nat):Int)-1=(n:Int):=show (n:Int)+1-1=n from Int.add_sub_cancel _ _
   have hit:h'.get? I=some ⟨.type "range_iterator",none,.fields #[rawInt (a+1),rawInt (((n+1:Nat):Int)-1),rawInt 1],#[]⟩:=hit
   rw[e1] at hit
   exact⟨W,σ,.rng (a+1) n,.int (.lit a),[(I,_)],.refl W,R.iter F (.head _) hs.extBut,q13 (q9t hb.1 (hb.2 (Nat.succ_pos n))),⟨I,_,rfl,rfl,rfl,⟨Int.lt_trans hb.1 (Int.lt_add_one_of_le (Int.le_refl _)),λ_=>by have:=hb.2 (by lia);lia⟩,rfl⟩,F.turn1 hit rfl,(λq hq=>by cases hq),rfl,h⟩
 |dct j i m c=>
  refine X4x6 I ?_;clear I;intro I o p ep o1 hp o2 hc hd' o3;subst o1;subst o2;subst o3
  refine q06 (show bi (Nat.beq c σ.kc) (oB (oO (σ.get j) q5I) (λl=>bi (Nat.beq (len l) m) (nxAt l i e (λv=>k v (.dct j (Nat.add i 1) m c) σ)) false)) false=true from h) ?_;intro h1 h2
  have h1:c=σ.kc:=Z9 h1
  refine q00 h2 ?_;intro l h3 h4
  refine q06 h4 ?_;intro h5 h6
  have h5:=Z9 h5
  rw[q0o] at h5
  refine q02 h3 ?_;intro q h7 h8
  have hob:=R.objs _ _ _ h7 hp
  refine X3x3 ((hd (j,c,ep) (.head _)).2.2 h1.symm) ?_;intro p' ob es g1 g2 g3
  have g1:W.ρ[j]?=some p':=g1
  rw[hp] at g1;(refine zI g1 ?_;clear g1;rintro rfl)
  have hI:=(F (I,o) (.head _)).1
  have dsD:∀h':Heap,Heap.SameBut I s.heap h'→DsOk W σ h' fs [(j,c,ep)]:=λh' hs q hq=>by
   rw[List.mem_singleton.mp hq]
   have D:=hd (j,c,ep) (.head _)
   refine⟨D.1,D.2.1,λ_=>⟨p,ob,es,hp,(hs.2 p.a λz=>?_).trans g2,g3⟩⟩
   exact(F (I,o) (.head _)).2.2.1 p (Zd hp) (z▸.head _)
  refine Z4 (q0f (show oE (dsOf q) (oO (diOf q) (λes=>some (mapL (λp=>.int (.lit p.1)) es))) (λes=>some (mapL (λp=>.str p.1) es))=some l from h8)) (λo2=>X0x2 o2 λ_ h9=>?_) λo1=>X1x2 o1 λds' h9 h10=>?_
  ·refine q02 h9 ?_;intro di h10 h11
   refine zI h11 ?_;clear h11;rintro rfl
   rw[q3U h10] at hob
   refine X2x3 hob ?_;clear hob;intro kvs ep' e1 e2 e3
   have hm:mapL (λp:Int×SV=>SV.int (.lit p.1)) di=di.map (λp=>.int (.lit p.1)):=q50 _ _
   rw[hm] at h5 h6
   have hep:ep'=ep:=by
    refine X2x4 e1 ?_;clear e1;intro o1 es1 k1 _ k2 _
    rw[g2] at k1;(refine zI k1 ?_;clear k1;rintro rfl)
    rw[g3] at k2;cases k2;rfl
   subst hep
   refine q7h R hA hp e1 e2 F hc hd' (by rw[←h5,List.length_map]) dsD (λx kv key hr hkey=>?_) h6
   refine X1x1 (Value.isInt_shape hkey) ?_;intro t o1;subst o1
   rw[hr.1]
   exact q13 hr.2.1
  ·refine zI h10 ?_;clear h10;rintro rfl
   rw[q1q h9] at hob
   refine X2x3 hob ?_;clear hob;intro kvs ep' e1 e2 e3
   have hm:mapL (λp:List Nat×SV=>SV.str p.1) ds'=ds'.map (λp=>.str p.1):=q50 _ _
   rw[hm] at h5 h6
   have hep:ep'=ep:=by
    refine X2x4 e1 ?_;clear e1;intro o1 es1 k1 _ k2 _
    rw[g2] at k1;(refine zI k1 ?_;clear k1;rintro rfl)
    rw[g3] at k2;cases k2;rfl
   subst hep
   refine q7h R hA hp e1 e2 F hc hd' (by rw[←h5,List.length_map]) dsD (λx kv key hr hkey=>?_) h6
   refine X1x1 (Value.isStrOf_shape hkey) ?_;intro t o1;subst o1
   rw[hr.1]
   exact q3r hr.2.1
 |enu j k' i=>
  refine X6x9 I ?_;clear I;intro ee I oe o p old o1 hp o2 o3 hc hd' o4 hne o5;subst o1;subst o2;subst o3;subst o4;subst o5
  refine q00 (show oB (oO (σ.get k') lOf) (λl=>nxAt l j e (λv=>σ.addTK [.int (.lit (.ofNat j)),v] (λt σ=>k (.own t) (.enu (Nat.add j 1) k' (Nat.add j 1)) σ)))=true from h) ?_;intro l h1 h2
  refine q02 h1 ?_;intro o' h3 h4
  rw[q25 h4] at h3
  refine X2x3 (R.objs _ _ _ h3 hp) ?_;intro vs n e1 e2 e3
  have hE:=(F _ (.head _)).1
  have hI:=(F (I,o) (.tail _ (.head _))).1
  refine Z4 (q1O h2) (λo2=>X0x2 o2 λh5 h6=>?_) λo1=>X1x2 o1 λx h5 h6=>?_
  ·exact wpAny_pyNext_enum_end hA hE ⟨o,hI,hc,hd'⟩ (q0b e1) (q3i e2 h5) λh' hs=>⟨h6,R.iter F (.tail _ (.head _)) hs⟩
  ·refine X1x2 (e2.get h5) ?_;intro v hv hr
   have hjl:j<4096:=by have:=(List.getElem?_eq_some_iff.mp h5).1;lia
   refine wpAny_pyNext_enum_item (x:=v) hE ⟨o,hI,hc,hd'⟩ (q0b e1) (by simpa using hv) hne λh' f1 f2 f3 f4 f5=>?_
   refine X1x3 f2 ?_;clear f2;intro o₂ g1 g2 g3
   have h6':bi (small [SV.int (.lit (.ofNat j)),x]) (σ.addK (.tuple [SV.int (.lit (.ofNat j)),x]) (λt σ=>k (.own t) (.enu (Nat.add j 1) k' (Nat.add j 1)) σ)) false=true:=h6
   refine q06 h6' ?_;intro h7 h8
   refine S.addK_true_E3 h8 ?_;intro τ A' h9
   have hnE:∀x∈W.still,x.1≠ee:=FreeAt.still R F (.head _)
   have hnI:∀x∈W.still,x.1≠I:=FreeAt.still R F (.tail _ (.head _))
   have kE:=F _ (.head _)
   have kI:=F (I,o) (.tail _ (.head _))
   have R₁:Rel B W fs σ {s with heap:=h',toks:=s.toks+1}:=(R.toks (t:=s.toks+1)).heap (s':={s with heap:=h',toks:=s.toks+1}) (λu ob hu eu=>f5 u ob (λz=>by
     focus (refine Z4 hu ?_ ?_;rotate_left;clear hu;intro o1;refine Z4 o1 (λo3=>X1x2 o3 λq hq y=>?_) λo2=>X1x2 o2 λg hg y=>?_;rotate_right;clear hu;intro y)
     ·exact absurd y (Nat.not_lt.mpr (z▸kE.2.1))
     ·exact kE.2.2.1 q hq (z▸y)
     ·exact hnE g hg (y.trans z)) (λz=>by
     focus (refine Z4 hu ?_ ?_;rotate_left;clear hu;intro o1;refine Z4 o1 (λo3=>X1x2 o3 λq hq y=>?_) λo2=>X1x2 o2 λg hg y=>?_;rotate_right;clear hu;intro y)
     ·exact absurd y (Nat.not_lt.mpr (z▸kI.2.1))
     ·exact kI.2.2.1 q hq (z▸y)
     ·exact hnI g hg (y.trans z)) eu) rfl rfl
   have hfresh:∀q:Fp,q∈W.ρ→s.heap.objs.size∉q.all:=λq hq hu=>by
    refine X0x2 (R.own q hq _ hu) ?_;intro _ o1;refine X1x1 o1 ?_;clear o1;intro ob eo
    exact Nat.lt_irrefl _ (Z7 eo)
   have R₂:=R₁.adopt A' (p:=⟨s.heap.objs.size,[]⟩) (λu hu=>by
    refine Z4 (List.mem_cons.mp hu) ?_ (λz=>?_);rintro rfl
    ·exact⟨R.le,⟨_,f3⟩,hfresh,λx hx z=>by have:=(R.fz x hx).1;rw[z] at this;exact Nat.lt_irrefl _ (Z7 this)⟩
    ·cases z) ⟨[.int j s.toks,v],0,f3,.cons (q13 (by simp;lia)) (.cons (hr.mono (W.le_add _)) .nil),by simp⟩
   refine⟨_,τ,.enu (j+1) k' (j+1),.own σ.n,[(ee,_),(I,o₂)],W.le_add _,R₂,q12 (R.add_at ⟨s.heap.objs.size,[]⟩),⟨ee,I,_,o₂,p,s.heap.objs.size,v,rfl,rfl,q0a (W.le_add _).ρ hp,rfl,rfl,g2,g3,rfl,hne,rfl⟩,λg hg=>?_,(λq hq=>by cases hq),rfl,h9⟩
   have hnew:∀a:Addr,(∃ob,s.heap.get? a=some ob)→∀q:Fp,q∈(W.add ⟨s.heap.objs.size,[]⟩).ρ→(∀q:Fp,q∈W.ρ→a∉q.all)→a∉q.all:=λa ha q hq hold=>by
    focus (refine Z4 (q1g hq) ?_ ?_;rotate_left;rintro rfl;rotate_right;intro hq)
    ·exact hold q hq
    ·intro z
     refine Z4 (List.mem_cons.mp z) ?_ (λz=>?_);rintro rfl
     ·(refine X1x1 ha ?_;clear ha;intro ob eo);exact Nat.lt_irrefl _ (Z7 eo)
     ·cases z
   refine Z4 (List.mem_cons.mp hg) ?_ (λhg=>?_);rintro rfl
   ·exact⟨f1,kE.2.1,λq hq=>hnew ee ⟨_,hE⟩ q hq kE.2.2.1,kE.2.2.2.1,rfl⟩
   ·rw[List.mem_singleton.mp hg]
    exact⟨g1,kI.2.1,λq hq=>hnew I ⟨_,hI⟩ q hq kI.2.2.1,kI.2.2.2.1,by unfold q2D;rw[g2];rfl⟩
 |byt l i=>
  refine X4x6 I ?_;clear I;intro I o b t o1 o2 hc hd' hb o3;subst o1;subst o2;subst o3
  have hI:=(F (I,o) (.head _)).1
  refine Z4 (q1O (show nxAt l i e (λv=>k (.int v) (.byt l (Nat.add i 1)) σ)=true from h)) (λo2=>X0x2 o2 λh5 h6=>?_) λo1=>X1x2 o1 λx h5 h6=>?_
  ·exact KBw.next_end hA ⟨o,hI,hc,hd'⟩ (by simpa using q3i hb h5) λh' hs=>⟨h6,R.iter F (.head _) hs⟩
  ·refine X1x2 (hb.get h5) ?_;intro c hv hr
   refine KBw.next_item (c:=c) ⟨o,hI,hc,hd'⟩ (by simpa using hv) λh' hit hs=>?_
   refine X1x3 hit ?_;clear hit;intro o₂ f1 f2 f3
   have:=c.toNat_lt
   exact⟨W,σ,.byt l (i+1),.int x,[(I,o₂)],.refl W,R.iter F (.head _) hs.extBut,⟨_,_,rfl,hr,nabn c.toNat_lt⟩,⟨I,o₂,b,t,rfl,rfl,f2,f3,hb,rfl⟩,F.turn1 f1 (by unfold q2D;rw[f2];rfl),(λq hq=>by cases hq),rfl,h6⟩
noncomputable def ownL:List String:=["enumerate","zip","dict_itemiterator","dict_reverseitemiterator","odict_iterator","itertools.zip_longest","itertools.pairwise"]
theorem ItR.owns{it:It}{iv:Value}{gs:List (Addr×Obj)}{ds:List (Nat×Nat×Nat)}(h:ItR B W it iv gs ds)(he:q2C it=false):∃I o n,iv=.ref I∧(I,o)∈gs∧o.cls=.type n∧ownL.contains n=false:=by
 cases it with
 |lst _ _=>(refine X3x5 h ?_;clear h;intro I o p a b o1 c d;subst o1);exact⟨I,o,_,a,.head _,c,by decide⟩
 |tup _ _=>(refine X3x5 h ?_;clear h;intro I o p a b o1 c d;subst o1);exact⟨I,o,_,a,.head _,c,by decide⟩
 |rng _ _=>(refine X2x4 h ?_;clear h;intro I o a o1 o2 d;subst o1;subst o2);exact⟨I,_,_,a,.head _,rfl,by decide⟩
 |dct _ _ _ _=>(refine X4x5 h ?_;clear h;intro I o p ep a b o1 c d;subst o1);exact⟨I,o,_,a,.head _,c,by decide⟩
 |enu _ _ _=>exact nomatch he
 |byt _ _=>(refine X4x4 h ?_;clear h;intro I o b t a o1 c d;subst o1);exact⟨I,o,_,a,.head _,c,by decide⟩
theorem q7n(R:Rel B W fs σ s){A:Around}{E:Value→Shared→Prop}{it:It}{iv v:Value}{target:Expr}{gs:List (Addr×Obj)}{ds:List (Nat×Nat×Nat)}(ht:q2C it=true→q2B target=true)(h:ItO B W it iv v gs ds)(F:FreeAt B W s.heap gs)(D:DsOk W σ s.heap fs ds) :
  wpAny (model B.prog B.w) A (letOwnedTupleGo target iv v) (λ_ s'=>∃gs',Rel B W fs σ s'∧ItR B W it iv gs' ds∧FreeAt B W s'.heap gs'∧DsOk W σ s'.heap fs ds) E s:=by
 have plain:ItR B W it iv gs ds→q2C it=false→wpAny (model B.prog B.w) A (letOwnedTupleGo target iv v) (λ_ s'=>∃gs',Rel B W fs σ s'∧ItR B W it iv gs' ds∧FreeAt B W s'.heap gs'∧DsOk W σ s'.heap fs ds) E s:=λh hn=>by
  refine X3x4 (h.owns hn) ?_;intro I o n o1 hg hc hcon;subst o1
  have done:wpAny (model B.prog B.w) A (pure ()) (λ_ s'=>∃gs',Rel B W fs σ s'∧ItR B W it (.ref I) gs' ds∧FreeAt B W s'.heap gs'∧DsOk W σ s'.heap fs ds) E s:=Z3 ⟨gs,R,h,F,D⟩
  have hL:=(F _ hg).1
  clear h F D R hg ht
  obtain⟨cl,dd,dt,sl⟩:=o
  have hc:cl=.type n:=hc
  subst hc
  have key:∀a,wpAny (model B.prog B.w) A (letOwnedTupleGo (.List [] ⟨0,0,0,0⟩) (.ref I) (.ref a)) (λ_ s'=>∃gs',Rel B W fs σ s'∧ItR B W it (.ref I) gs' ds∧FreeAt B W s'.heap gs'∧DsOk W σ s'.heap fs ds) E s:=λa=>by
   refine Z0 (wpAny_load hL ?_)
   cases dt with
   |fields vs=>exact qbz (Bool.and_eq_false_imp.mpr λz=>nomatch hcon.symm.trans z) done
   |_=>exact done
  cases target with
  |Tuple|List=>cases v with
   |ref a=>exact key a
   |_=>exact done
  |_=>exact done
 cases it with
 |enu j k i=>
  refine X1x1 h ?_;clear h;intro e o1;refine X1x1 o1 ?_;clear o1;intro I o2;refine X1x1 o2 ?_;clear o2;intro oe o3;refine X1x1 o3 ?_;clear o3;intro o o4;refine qgP o4 ?_;clear o4;intro p a item o5 o6 hp o7 o8 hc hd o9 hne o10;subst o5;subst o6;subst o7;subst o8;subst o9;subst o10
  have kE:=F _ (.head _)
  have kI:=F (I,o) (.tail _ (.head _))
  have ht:=ht rfl
  cases target with
  |Tuple elts x1 pos=>
   refine wpAny_letOwnedTupleGo_enum (it:=I) (i:=(j:Int)) (item:=item) kE.1 λh' f1 hs=>⟨[(e,_),(I,o)],R.iter F (.head _) hs.extBut,⟨e,I,_,o,p,item,rfl,hp,rfl,rfl,hc,hd,rfl,hne,rfl⟩,λg hg=>?_,λq hq=>by cases hq⟩
   refine Z4 (List.mem_cons.mp hg) ?_ (λhg=>?_);rintro rfl
   ·exact⟨f1,kE.2.1,kE.2.2.1,kE.2.2.2.1,rfl⟩
   ·rw[List.mem_singleton.mp hg]
    exact⟨(hs.2 I (Ne.symm hne)).trans kI.1,kI.2⟩
  |_=>exact zF ht
 |lst _ _=>exact plain h rfl
 |tup _ _=>exact plain h rfl
 |rng _ _=>exact plain h rfl
 |dct _ _ _ _=>exact plain h rfl
 |byt _ _=>exact plain h rfl
end
end
section
open PySem PySem.W PyProof.Rows
variable{B:Base}{W W':Wd}{fs:List Nat}{σ τ:S}{s s':Shared}
theorem q27(R:Rel B W fs σ s){o:Obj}{h':Heap}(e:h'.get? s.heap.objs.size=some o)(hc:q2D o=false):FreeAt B W h' [(s.heap.objs.size,o)]:=λg hg=>by
 rw[List.mem_singleton.mp hg]
 refine⟨e,R.le,λq hq hu=>?_,λx hx z=>?_,hc⟩
 ·refine X0x2 (R.own q hq _ hu) ?_;intro _ o1;refine X1x1 o1 ?_;clear o1;intro ob eo
  exact Nat.lt_irrefl _ (Z7 eo)
 ·have:=(R.fz x (List.mem_append_right _ hx)).1
  have z:x.1=s.heap.objs.size:=z
  rw[z] at this
  exact Nat.lt_irrefl _ (Z7 this)
inductive QI(B:Base)(W:Wd)(fs:List Nat)(σ:S)(it:It)(iv:Value)(s:Shared):Prop
 |mk (gs:List (Addr×Obj)) (ds:List (Nat×Nat×Nat)) (R:Rel B W fs σ s) (I:ItR B W it iv gs ds) (F:FreeAt B W s.heap gs) (D:DsOk W σ s.heap fs ds):QI B W fs σ it iv s
theorem q6k(a b:Int):((rlen a b:Nat):Int)=Builtin.Range.rangeSize a b 1:=by
 unfold rlen Builtin.Range.rangeSize
 rw[q6y]
 simp only[show (1:Int)>0 by decide,if_true]
 refine Z4 (Int.lt_or_le a b) (λh=>?_) λh=>?_
 ·rw[if_pos h,Int.ediv_one]
  refine X1x1 (Int.eq_ofNat_of_zero_le (show 0≤b-a by lia)) ?_;intro n hn
  rw[hn]
  show (n:Int)=_
  lia
 ·rw[if_neg (by lia)]
  cases hb:b-a with
  |ofNat n=>
   have:n=0:=by
    have:(Int.ofNat n)≤0:=by lia
    simpa using this
   subst this;rfl
  |negSucc n=>rfl
theorem q77(a b:Int):Builtin.Range.rangeSize a b 1=if a<b then b-a else 0:=by
 unfold Builtin.Range.rangeSize
 simp only[show (1:Int)>0 by decide,if_true,Int.ediv_one]
 by_cases h:a<b
 ·rw[if_pos h,if_pos h];lia
 ·rw[if_neg h,if_neg h]
theorem q3z{i:Int}(h:i.natAbs<4611686018427387905):Builtin.Range.rangeFitsLong i=true:=by
 unfold Builtin.Range.rangeFitsLong
 simp only[Bool.and_eq_true,decide_eq_true_eq]
 exact qfN h
theorem q5u{a b:Int}(ha:a.natAbs<2305843009213693952)(hb:b.natAbs<2305843009213693952):Builtin.Range.small a b 1=true:=by
 unfold Builtin.Range.small
 rw[q3z (q7i ha),q3z (q7i hb),q3z (by decide),q3z (i:=Builtin.Range.rangeSize a b 1) (by rw[q77];exact q2A (P:=λx:Int=>x.natAbs<4611686018427387905) (qbh ha hb) (by decide))]
 simp only[show (1:Int)>0 by decide,if_true,show (1:Int)-1=0 by decide,Int.add_zero,q3z (q7i hb),Bool.or_true,Bool.and_true]
theorem q93{a b:Int}(ha:a.natAbs<2305843009213693952)(hb:b.natAbs<2305843009213693952):a+(rlen a b:Nat)<2305843009213693952:=by
 rw[q6k,q77]
 exact q2A (P:=λx:Int=>a+x<2305843009213693952) (by rw[Int.add_comm,Int.sub_add_cancel];exact(nab.mp hb).2) (by rw[Int.add_zero];exact(nab.mp ha).2)
theorem q9J(R:Rel B W fs σ s){A:Around}{E:Value→Shared→Prop}{v:SV}{u:Value}{it:It}(h:q7s tb σ v=some it)(hv:VR W v u):wpAny (model B.prog B.w) A (pyIter u) (QI B W fs σ it) E s:=by
 cases v with
 |bytes l=>
  refine q0n hv ?_;intro b t o1 hb _;subst o1
  have h:some (It.byt l 0)=some it:=h
  refine zI h ?_;clear h;rintro rfl
  exact KBw.pyIter_bytes ⟨_,[],R.pushAny _,⟨_,_,b,t,rfl,rfl,rfl,rfl,hb,rfl⟩,q27 R (Zb _ rfl) rfl,λq hq=>by cases hq⟩
 |old a=>
  refine q02 (show oO (tb.tp a) (λ_=>some (It.tup (.old a) 0))=some it from h) ?_;intro l h1 h2
  refine zI h2 ?_;clear h2;rintro rfl
  refine R.tup_E7 (v:=.old a) h1 hv ?_;intro a' vs n o1 e1 e2 e3;subst o1
  exact wpAny_pyIter_tuple (q0l e1) ⟨_,[],R.pushAny _,⟨_,_,a',rfl,hv,rfl,rfl,rfl,rfl⟩,q27 R (Zb _ rfl) rfl,λq hq=>by cases hq⟩
 |own k=>
  refine q02 (show oO (σ.get k) (q52 σ.kc k)=some it from h) ?_;intro o h1 h2
  refine X1x2 hv ?_;clear hv;intro p hp o1;subst o1
  have ho:=R.objs _ _ _ h1 hp
  have dct:∀{K:Type}[DecidableEq K]{knd:PySem.KeyKind B.prog B.w K}{kvs:List (K×Value)}{ep m:Nat},s.heap.DictAt knd p.a kvs ep→kvs.length=m→wpAny (model B.prog B.w) A (pyIter (.ref p.a)) (QI B W fs σ (.dct k 0 m σ.kc)) E s:=λ{K} _ {knd} {kvs} {ep} {m} e hl=>by
   refine wpAny_pyIter_dict (R.notMods hp) e ⟨_,[(k,σ.kc,ep)],R.pushAny _,⟨_,_,p,ep,rfl,hp,rfl,rfl,by rw[hl];rfl,rfl⟩,q27 R (Zb _ rfl) rfl,λq hq=>?_⟩
   rw[List.mem_singleton.mp hq]
   refine⟨⟨R.bound k o h1,λhf=>?_⟩,Nat.le_refl _,λ_=>?_⟩
   ·rw[R.frn k hf] at h1;exact zN h1
   ·refine X2x4 e ?_;clear e;intro ob es k1 _ k2 _
    exact⟨p,ob,es,hp,Z5 _ k1,k2⟩
  cases o with
  |list xs=>
   have h2:some (It.lst k 0)=some it:=h2
   refine zI h2 ?_;clear h2;rintro rfl
   refine X2x3 ho ?_;clear ho;intro vs m e1 e2 e3
   exact wpAny_pyIter_list (q0b e1) ⟨_,[],R.pushAny _,⟨_,_,p,rfl,hp,rfl,rfl,rfl,rfl⟩,q27 R (Zb _ rfl) rfl,λq hq=>by cases hq⟩
  |tuple xs=>
   have h2:some (It.tup (.own k) 0)=some it:=h2
   refine zI h2 ?_;clear h2;rintro rfl
   refine X2x3 ho ?_;clear ho;intro vs m e1 e2 e3
   exact wpAny_pyIter_tuple (q0l e1) ⟨_,[],R.pushAny _,⟨_,_,p.a,rfl,q12 hp,rfl,rfl,rfl,rfl⟩,q27 R (Zb _ rfl) rfl,λq hq=>by cases hq⟩
  |dictS es=>
   have h2:some (It.dct k 0 (len es) σ.kc)=some it:=h2
   refine zI h2 ?_;clear h2;rintro rfl
   refine X2x3 ho ?_;clear ho;intro kvs ep e1 e2 e3
   exact dct e1 (by rw[e2.length,q0o])
  |dictI es=>
   have h2:some (It.dct k 0 (len es) σ.kc)=some it:=h2
   refine zI h2 ?_;clear h2;rintro rfl
   refine X2x3 ho ?_;clear ho;intro kvs ep e1 e2 e3
   exact dct e1 (by rw[e2.length,q0o])
  |rng a b=>
   have h2:some (It.rng a (rlen a b))=some it:=h2
   refine zI h2 ?_;clear h2;rintro rfl
   refine X3x3 ho ?_;clear ho;intro t₁ t₂ t₃ e1 ha hb
   have hrl:=q6k a b
   refine wpAny_pyIter_range e1 ?_ ⟨_,[],R.pushAny _,⟨_,_,rfl,rfl,by rw[hrl],?_,rfl⟩,q27 R (Zb _ rfl) rfl,λq hq=>by cases hq⟩
   ·exact q5u ha hb
   ·exact⟨(nab.mp ha).1,λ_=>q93 ha hb⟩
  |_=>exact zN h2
 |_=>exact zN h
end
section
open PySem PySem.W PyProof.Rows
noncomputable def q5h(B:Base):Prop:=∀(n:Nat)(sc:Scope)(W:Wd)(fs:List Nat)(c:Cx)(X:Fx)(kx:KX)(e:Value)(s:Shared),Ok B n sc W fs c X→QE B W fs X.fa kx e s→
 notedBy (model B.prog B.w) X.A X.env (cameBackBy (model B.prog B.w) X.A X.env (QE B W fs X.fa kx)) e s
section
variable{B:Base}{W W' V:Wd}{fs:List Nat}{σ τ:S}{s s':Shared}{sc:Scope}{n:Nat}{c:Cx}{X:Fx}
theorem Ok.its(O:Ok B n sc W fs c X)(g:List (Addr×Obj))(d:List (Nat×Nat×Nat)):Ok B n sc (W.its g d) fs c X:=
 ⟨O.esc,O.kind,O.glo,O.bui,O.frame,O.loc,O.fao,⟨O.around.handled,O.around.depth,O.around.units,O.around.guards,O.around.frames⟩,O.top,O.cells,O.cod,O.call⟩
theorem q7C(R:Rel B W fs σ s){gs:List (Addr×Obj)}{ds:List (Nat×Nat×Nat)}(F:FreeAt B W s.heap gs)(D:DsOk W σ s.heap fs ds):Rel B (W.its gs ds) fs σ s:=
 R.still rfl rfl rfl (λx hx=>by
   refine Z4 (List.mem_append.mp hx) (λhx=>?_) λhx=>?_
   ·(refine X0x4 (F x hx) ?_;intro a b c _);exact⟨a,b,c⟩
   ·exact R.fz x (List.mem_append_right _ hx)) (λq hq=>by
   refine Z4 (List.mem_append.mp hq) (λhq=>?_) λhq=>?_
   ·exact(D q hq).1
   ·exact R.epn q hq) (λq hq=>by
   refine Z4 (List.mem_append.mp hq) (λhq=>?_) λhq=>?_
   ·exact(D q hq).2
   ·exact R.eps q hq)
theorem q5x{gs:List (Addr×Obj)}{ds:List (Nat×Nat×Nat)}(l:W.le W')(l':(W'.its gs ds).le V):W.le (V.out W):=⟨l.ρ.trans l'.ρ,l.ν.trans l'.ν,λg h=>l'.κ g (l.κ g h),rfl,rfl⟩
theorem q3C{gs:List (Addr×Obj)}{ds:List (Nat×Nat×Nat)}(l:W.le W')(l':(W'.its gs ds).le V)(R:Rel B V fs σ s):Rel B (V.out W) fs σ s:=by
 have hγ:V.γ=gs++W.γ:=by rw[l'.γ];show gs++W'.γ=_;rw[l.γ]
 have hδ:V.δ=ds++W.δ:=by rw[l'.δ];show ds++W'.δ=_;rw[l.δ]
 exact R.still rfl rfl rfl (λx hx=>R.fz x (List.mem_append_right _ (by rw[hγ];exact List.mem_append_right _ hx))) (λq hq=>R.epn q (by rw[hδ];exact List.mem_append_right _ hq)) (λq hq=>R.eps q (by rw[hδ];exact List.mem_append_right _ hq))
theorem q4V{gs:List (Addr×Obj)}{ds:List (Nat×Nat×Nat)}{h:Heap}(l:W.le W')(l':(W'.its gs ds).le V)(F:FreeAt B W' h gs)(R:Rel B V fs σ s):FreeAt B (V.out W) s.heap gs:=λg hg=>by
 have hγ:V.γ=gs++W.γ:=by rw[l'.γ];show gs++W'.γ=_;rw[l.γ]
 refine X0x3 (R.fz g (List.mem_append_right _ (by rw[hγ];exact List.mem_append_left _ hg))) ?_;intro a b d
 refine X0x5 (F g hg) ?_;intro _ _ _ e f
 exact⟨a,b,d,λx hx=>e x (by rw[l.γ];exact hx),f⟩
theorem q9g{gs:List (Addr×Obj)}{ds:List (Nat×Nat×Nat)}(l':(W'.its gs ds).le V)(R:Rel B V fs σ s):DsOk (V.out W) σ s.heap fs ds:=λq hq=>by
 have hq':q∈V.δ:=by rw[l'.δ];exact List.mem_append_left _ hq
 exact⟨R.epn q hq',R.eps q hq'⟩
theorem q9f{gs:List (Addr×Obj)}{ds:List (Nat×Nat×Nat)}{it:It}{iv:Value}(l':(W'.its gs ds).le V)(I:ItR B W' it iv gs ds):ItR B (V.out W) it iv gs ds:=by
 have:W'.le ⟨V.ρ,V.ν,V.κ,W'.γ,W'.δ⟩:=⟨l'.ρ,l'.ν,l'.κ,rfl,rfl⟩
 have:=I.mono this
 cases it<;>exact this
theorem qce{gs:List (Addr×Obj)}{ds:List (Nat×Nat×Nat)}{fa:Addr}{kx:KX}{e:Value}(l:W.le W')(h:QE B (W'.its gs ds) fs fa kx e s):QE B W fs fa kx e s:=by
 refine h.kE13 ?_;clear h;intro V σ j p C l' R h1 h2 h3 h4 o1 h6;refine o1.kE8 ?_;clear o1;intro o vs t f1 f2 f3 f4 f5
 have hst:∀g∈(V.out W).still,g∈V.still:=λg hg=>by
  refine Z4 (List.mem_append.mp hg) (λx=>?_) λx=>?_
  ·exact List.mem_append_left _ x
  ·refine List.mem_append_right _ ?_
   rw[l'.γ]
   exact List.mem_append_right _ (by rw[l.γ];exact x)
 refine⟨V.out W,σ,j,p,C,q5x l l',q3C l l' R,h1,h2,h3,h4,⟨o,vs,t,f1,f2,f3,f4,?_⟩,h6⟩
 refine Z4 f5 (λf5=>?_) λo1=>X3x6 o1 λT oT ts g1 g2 g3 g4 g5 g6=>?_
 ·exact .inl f5
 ·exact .inr ⟨T,oT,ts,g1,g2,g3,g4,λg hg=>g5 g (hst g hg),g6⟩
noncomputable def q9U(B:Base)(X:Fx)(W:Wd)(fs:List Nat)(kx:KX)(kr:KV)(kn:KN):Result→Shared→Prop:=λr s'=>match r with
 |.ok f=>PQ B W fs (QF kr kn) f s'
 |.error e=>cameBackBy (model B.prog B.w) X.A X.env (QE B W fs X.fa kx) e s'
inductive LoopAt(B:Base)(W:Wd)(fs:List Nat)(iv:Value)(ds:List (Nat×Nat×Nat))(b:Bool)(k:It→S→Bool)(s:Shared):Prop
 |mk (W':Wd) (σ:S) (it:It) (gs:List (Addr×Obj)) (l:W.le W') (R:Rel B W' fs σ s) (I:ItR B W' it iv gs ds) (F:FreeAt B W' s.heap gs) (D:DsOk W' σ s.heap fs ds) (hT:q2C it=true→b=true) (h:k it σ=true):LoopAt B W fs iv ds b k s
theorem q7w(hN:q5h B){t:AC}{b:SC}{target:Expr}{body:List Stmt}(ht:SA B sc t target)(hb:SSs B sc b body)(O:Ok B n sc W fs c X){kr:KV}{kn:KN}{it:It}{iv:Value}{gs:List (Addr×Obj)}{ds:List (Nat×Nat×Nat)}{N:Nat}(hT:q2C it=true→q2B target=true)
  (R:Rel B W fs σ s) (I:ItR B W it iv gs ds) (F:FreeAt B W s.heap gs) (D:DsOk W σ s.heap fs ds) (h:q8d tb t b N it c σ kr kn=true):q0E (model B.prog B.w) X.A (.forLoop target iv body [] X.env) (q9U B X W fs c.kx kr kn) s:=by
 refine q1y (λm s=>LoopAt B W fs iv ds (q2B target) (λit σ=>q8d tb t b m it c σ kr kn) s) ?_ N
  ⟨W,σ,it,gs,.refl W,R,I,F,D,hT,h⟩
 intro m s oP
 obtain⟨W₁,σ₁,it₁,gs₁,l₁,R₁,I₁,F₁,D₁,hT₁,h₁⟩:=oP
 have noted:∀{V:Wd}{gs':List (Addr×Obj)}{W':Wd}(e:Value)(s:Shared),W.le W'→QE B (W'.its gs' ds) fs X.fa c.kx e s→notedBy (model B.prog B.w) X.A X.env (λe s'=>q9U B X W fs c.kx kr kn (.error e) s') e s:=
  λ{V}{gs'}{W'} e s l q=>hN n sc W fs c X c.kx e s O (qce l q)
 cases m with
 |zero=>exact zF h₁
 |succ m=>
  have h₁:q5E tb σ₁ it₁ (kn σ₁) (λv it σ=>t v c σ (λσ=>b c σ kr (λσ=>q8d tb t b m it c σ kr kn)))=true:=h₁
  refine q05 (toG (q9q R₁ (E:=λ_ _=>False) O.around.handled I₁ F₁ D₁ h₁)) (λr s₂ h₂=>?_) λ_ _ z=>z.elim
  cases r with
  |none=>exact q0p ⟨W₁,σ₁,l₁,h₂.2,h₂.1⟩
  |some v=>
   obtain⟨W₂,σ₂,it₂,x,gs₂,l₂,R₂,hx,I₂,F₂,D₂,hen,h₃⟩:=h₂
   have hT₂:q2C it₂=true→q2B target=true:=λz=>hT₁ (hen▸z)
   refine q05 (toG (q7n R₂ hT₂ I₂ F₂ D₂)) (λ_ s₃ oY7x0=>?_) (λ_ _ z=>z)
   refine X1x4 oY7x0 ?_;clear oY7x0;intro gs₃ R₃ I₃ F₃ D₃
   have l02:=l₁.trans l₂
   have RV:=q7C R₃ F₃ D₃
   have OV:=(O.mono l02).its gs₃ ds
   refine q05 (ht n (W₂.its gs₃ ds) fs c X σ₂ s₃ x v _ OV RV (VR.its.mpr hx) h₃) (λ_ s₄ oY6x0=>?_) λe s q=>noted (V:=W) e s l02 q
   refine oY6x0.kE5 ?_;clear oY6x0;intro W₄ σ₄ l₄ R₄ h₄
   refine q05 (hb n W₄ fs c X σ₄ s₄ kr _ (OV.mono l₄) R₄ h₄) (λf s₅ oY5x0=>?_) λe s q=>noted (V:=W) e s l02 (q.weaken l₄)
   refine oY5x0.kE5 ?_;clear oY5x0;intro W₅ σ₅ l₅ R₅ h₅
   have l45:=l₄.trans l₅
   cases f with
   |next=>exact⟨m,Nat.lt_succ_self m,W₅.out W,σ₅,it₂,gs₃,q5x l02 l45,q3C l02 l45 R₅,q9f l45 I₃,q4V l02 l45 F₃ R₅,q9g l45 R₅,hT₂,h₅⟩
   |ret v=>
    refine h₅.kE3 ?_;clear h₅;intro y hy h₆
    exact⟨W₅.out W,σ₅,q5x l02 l45,q3C l02 l45 R₅,y,VR.out.mpr hy,h₆⟩
   |_=>cases h₅
theorem qf5(hN:q5h B){t:AC}{x:XC}{b:SC}{target iter:Expr}{body:List Stmt}{pos:Pos}(ht:SA B sc t target)(hx:SX B sc x iter)(hb:SSs B sc b body)(hf:∀env x,foldedSetIterable iter env x=pure x) :
  SS B sc (sFor tb t x b) (.For target iter body [] pos):=λn W fs c X σ s kr kn O R h=>by
 refine q4J (q0D (hx n W fs c X σ s _ O R h) λa W₁ σ₁ s₁ l₁ R₁ oY4x0=>?_) (hf _)
 refine oY4x0.kE3 ?_;clear oY4x0;intro xa ha h₁
 refine q00 h₁ ?_;intro it h2 h3
 have hne:q2C it=false:=by
  cases xa with
  |bytes l=>have h2:some (It.byt l 0)=some it:=h2;(refine zI h2 ?_;clear h2;rintro rfl);rfl
  |old a=>(refine q02 (show oO (tb.tp a) (λ_=>some (It.tup (.old a) 0))=some it from h2) ?_;intro l _ h4);(refine zI h4 ?_;clear h4;rintro rfl);rfl
  |own k=>
   refine q02 (show oO (σ₁.get k) (q52 σ₁.kc k)=some it from h2) ?_;intro o _ h4
   cases o with
   |list xs=>have h4:some (It.lst k 0)=some it:=h4;(refine zI h4 ?_;clear h4;rintro rfl);rfl
   |tuple xs=>have h4:some (It.tup (.own k) 0)=some it:=h4;(refine zI h4 ?_;clear h4;rintro rfl);rfl
   |dictS es=>have h4:some (It.dct k 0 (len es) σ₁.kc)=some it:=h4;(refine zI h4 ?_;clear h4;rintro rfl);rfl
   |dictI es=>have h4:some (It.dct k 0 (len es) σ₁.kc)=some it:=h4;(refine zI h4 ?_;clear h4;rintro rfl);rfl
   |rng a b=>have h4:some (It.rng a (rlen a b))=some it:=h4;(refine zI h4 ?_;clear h4;rintro rfl);rfl
   |_=>exact zN h4
  |_=>exact zN h2
 refine q05 (toG (q9J R₁ h2 ha)) (λiv s₂ oY3x0=>?_) λ_ _ z=>z
 obtain⟨gs,ds,R₂,I,F,D⟩:=oY3x0
 have L:=q7w hN ht hb (O.mono l₁) (λz=>by rw[hne] at z;exact zF z) R₂ I F D h3
 exact q0V L λr s' z=>by
  cases r with
  |ok f=>exact z.weaken l₁
  |error e=>exact wpAny_mono z (λ_ _ q=>q.weaken l₁) λ_ _ q=>q.weaken l₁
theorem qf1(hN:q5h B){t:TC}{b:SC}{test:Expr}{body:List Stmt}{pos:Pos}(ht:ST B sc t test)(hb:SSs B sc b body):SS B sc (sWhl t b) (.While test body [] pos):=λn W fs c X σ s kr kn O R h=>by
 refine q8F ?_
 have O':Ok B n sc W fs (calm c) X:=⟨O.esc,O.kind,O.glo,O.bui,O.frame,O.loc,O.fao,O.around,O.top,by cases c;exact O.cells,O.cod,by cases c;exact O.call⟩
 have ck:(calm c).kx=λ_ _=>false:=by cases c;rfl
 have noE:∀{W':Wd}{e:Value}{s:Shared},QE B W' fs X.fa (calm c).kx e s→False:=λq=>by
  refine q.kE13 ?_;clear q;intro _ _ _ _ _ _ _ _ _ _ _ _ z
  rw[ck] at z;exact zF z
 refine q3X (λm s=>∃W' σ,W.le W'∧Rel B W' fs σ s∧qcG t b m (calm c) σ kr kn=true) ?_ 60 ⟨W,σ,.refl W,R,h⟩
 intro m s oP
 refine X2x3 oP ?_;clear oP;intro W₁ σ₁ l₁ R₁ h₁
 cases m with
 |zero=>exact zF h₁
 |succ m=>
  have h₁:t (calm c) σ₁ (λσ=>b (calm c) σ kr (λσ=>qcG t b m (calm c) σ kr kn)) kn=true:=h₁
  refine q05 (ht n W₁ fs (calm c) X σ₁ s _ _ (O'.mono l₁) R₁ h₁) (λbb s₂ oY2x0=>?_) λ_ _ z=>(noE z).elim
  refine oY2x0.kE5 ?_;clear oY2x0;intro W₂ σ₂ l₂ R₂ h₂
  cases bb with
  |false=>exact q0p ⟨W₂,σ₂,l₁.trans l₂,R₂,h₂⟩
  |true=>
   refine q05 (hb n W₂ fs (calm c) X σ₂ s₂ kr _ (O'.mono (l₁.trans l₂)) R₂ h₂) (λf s₅ oY1x0=>?_) λ_ _ z=>(noE z).elim
   refine oY1x0.kE5 ?_;clear oY1x0;intro W₅ σ₅ l₅ R₅ h₅
   cases f with
   |next=>exact⟨m,Nat.lt_succ_self m,W₅,σ₅,(l₁.trans l₂).trans l₅,R₅,h₅⟩
   |ret v=>
    refine h₅.kE3 ?_;clear h₅;intro y hy h₆
    exact⟨W₅,σ₅,(l₁.trans l₂).trans l₅,R₅,y,hy,h₆⟩
   |_=>cases h₅
theorem qeL{i:Nat}{y:SV}{x:Str}{pos:Pos}(hk:sc.names.lookup x=some .globalImplicit)(hy:alook glo i=some y)(hx:nm i=x)(hd:(x==("__debug__":Str))=false):SX B sc (cC y) (.Name x pos):=λn W fs c X σ s kv O R e=>by
 refine X1x2 (B.ld i y hy) ?_;intro v hv hl
 subst hx
 exact toG<|Calls.Name_function_global (by rw[O.esc];exact O.kind) (by unfold Env.kindOf;rw[O.esc];exact hk) (hl X.A _ _ X.env s R.old.k O.glo O.bui (PQ.here R (qv (hv W) e))) hd
end
theorem q3j:∀{ps:List Nat}{as ds:List SV}{k:Lo→Bool},zipK ps as ds k=true→
  as.length≤ps.length∧ps.length≤as.length+ds.length∧k (ps.zip (as++ds.drop (as.length+ds.length-ps.length)))=true:=by
 intro ps
 induction ps with
 |nil=>
  intro as ds k h
  have h:bi (q0s as) (k []) false=true:=h
  refine q06 h ?_;intro h1 h2
  cases as with
  |nil=>exact⟨Nat.le_refl _,Nat.zero_le _,by simpa using h2⟩
  |cons _ _=>exact zF h1
 |cons p r ih=>intro as ds k h;cases as with
  |cons a q=>
  have h:zipK r q ds (λm=>k ((p,a)::m))=true:=h
  refine X0x3 (ih h) ?_;intro h1 h2 h3
  refine⟨by simpa using h1,by simp;lia,?_⟩
  have e:(a::q).length+ds.length-(p::r).length=q.length+ds.length-r.length:=by simp;lia
  rw[e,List.cons_append,List.zip_cons_cons]
  exact h3
  |nil=>
  have h:bi (Nat.ble (Nat.succ (len r)) (len ds)) (drK ds (Nat.sub (len ds) (Nat.succ (len r))) (λd=>@List.rec SV (λ_=>Bool) false (λa _ _=>zipK r [] ds (λm=>k ((p,a)::m))) d)) false=true:=h
  refine q06 h ?_;intro h1 h2
  rw[q0o,q0o] at h1 h2
  have h1:=Z8 h1
  rw[qa3] at h2
  have h2:@List.rec SV (λ_=>Bool) false (λa _ _=>zipK r [] ds (λm=>k ((p,a)::m))) (ds.drop (ds.length-(r.length+1)))=true:=h2
  cases hd:ds.drop (ds.length-(r.length+1)) with
  |nil=>rw[hd] at h2;exact zF h2
  |cons a d=>
   rw[hd] at h2
   have h2:zipK r [] ds (λm=>k ((p,a)::m))=true:=h2
   refine X0x3 (ih h2) ?_;intro _ h4 h5
   refine⟨by simp,by simp at h4⊢;lia,?_⟩
   have e:ds.length-r.length=(ds.length-(r.length+1))+1:=by lia
   have hd':ds.drop (ds.length-r.length)=d:=by
    rw[e,←List.drop_drop,hd];rfl
   simp only[List.length_nil,Nat.zero_add,List.nil_append,List.length_cons] at h5⊢
   rw[hd'] at h5
   rw[hd,List.zip_cons_cons]
   exact h5
theorem q4K{cs:List Nat}{l:Lo}{k:Lo→Bool}(h:q3e cs l k=true):k (l.filter λp=>!(nmem p.1 cs))=true:=by
 cases cs with
 |nil=>
  have h:k l=true:=h
  have e:(l.filter λp=>!(nmem p.1 []))=l:=List.filter_eq_self.mpr λ_ _=>rfl
  rw[e];exact h
 |cons c r=>
  have gen:∀(l:Lo)(k:Lo→Bool),@List.rec (Nat×SV) (λ_=>(Lo→Bool)→Bool) (λk=>k []) (λp _ ih k=>bi (nmem p.1 (c::r)) (ih k) (ih (λr=>k (p::r)))) l k=true→k (l.filter λp=>!(nmem p.1 (c::r)))=true:=by
   intro l
   induction l with
   |nil=>intro k h;exact h
   |cons p q ih=>
    intro k h
    refine Z4 (q1c h) (λo2=>X0x2 o2 λe h=>?_) λo1=>X0x2 o1 λe h=>?_
    ·rw[List.filter_cons_of_neg (by simp[e])];exact ih k h
    ·rw[List.filter_cons_of_pos (by simp[e])];exact ih _ h
  exact gen l k h
theorem q1r{α:Type}{l:List (Nat×α)}{i:Nat}{a:α}(h:alook l i=some a):(i,a)∈l:=by
 induction l with
 |nil=>exact zN h
 |cons p r ih=>
  have h:bi (Nat.beq p.1 i) (some p.2) (alook r i)=some a:=h
  rw[q0g] at h
  by_cases e:p.1=i
  ·simp only[decide_eq_true e] at h
   refine zI h ?_;clear h;rintro rfl
   rw[←e];exact .head _
  ·simp only[decide_eq_false e] at h
   exact .tail _ (ih h)
section
variable{W:Wd}
noncomputable def q6P(W:Wd)(p:Nat×SV)(b:Str×Value):Prop:=b.1=nm p.1∧VR W p.2 b.2
theorem q4q{l:Lo}{i:Nat}{v:SV}(h:i∉l.map (·.1)):q1e l i v=l++[(i,v)]:=by
 induction l with
 |nil=>rfl
 |cons p r ih=>
  rw[List.map_cons] at h
  have h1:¬p.1=i:=λe=>h (e▸.head _)
  rw[q2h,q0g,decide_eq_false h1]
  show p::q1e r i v=_
  rw[ih λhm=>h (.tail _ hm)];rfl
theorem qbT{kindOf:Str→Option NameKind}{cs:List Nat}{bs:Lo}{binds:List (Str×Value)}{lo:Lo}{m:Str→Option Value}(H:All2 (q6P W) bs binds)(hk:∀p∈bs,(nmem p.1 cs=false↔kindOf (nm p.1)=some .local))
  (hn:(bs.map (·.1)).Nodup) (hd:∀p∈bs,p.1∉lo.map (·.1)) (h:NsR W lo m):NsR W (lo++bs.filter λp=>!(nmem p.1 cs)) (bindL kindOf binds m):=by
 induction H generalizing lo m with
 |nil=>simpa[bindL] using h
 |@cons a b r q e hr ih=>
  refine X0x2 e ?_;clear e;intro e hx
  obtain⟨i,x⟩:=a
  obtain⟨n,v⟩:=b
  have e:n=nm i:=e
  subst e
  have hn:=List.nodup_cons.mp hn
  unfold bindL
  by_cases hl:kindOf (nm i)=some .local
  ·have hc:=(hk _ (.head _)).mpr hl
   rw[if_pos hl,List.filter_cons_of_pos (by simp[hc])]
   have:=ih (λp hp=>hk p (.tail _ hp)) hn.2 (lo:=q1e lo i x) (λp hp hm=>?_) (h.put hx)
   ·rw[q4q (hd _ (.head _))] at this
    simpa using this
   ·rw[q4q (hd _ (.head _)),List.map_append] at hm
    refine Z4 (List.mem_append.mp hm) (λhm=>?_) λhm=>?_
    ·exact hd p (.tail _ hp) hm
    ·have e:p.1=i:=by simpa using hm
     exact hn.1 (List.mem_map.mpr ⟨p,hp,e⟩)
  ·have hc:nmem i cs=true:=by
    cases e:nmem i cs with
    |true=>rfl
    |false=>exact absurd ((hk _ (.head _)).mp e) hl
   rw[if_neg hl,List.filter_cons_of_neg (by simp[hc])]
   exact ih (λp hp=>hk p (.tail _ hp)) hn.2 (λp hp=>hd p (.tail _ hp)) h
theorem q8r{kindOf:Str→Option NameKind}{i:Nat}{bs:Lo}{binds:List (Str×Value)}{m:Str→Option Value}(H:All2 (q6P W) bs binds)(hi:i∉bs.map (·.1)):bindC kindOf binds m (nm i)=m (nm i):=by
 induction H generalizing m with
 |nil=>rfl
 |@cons a b r q e hr ih=>
  refine X0x2 e ?_;clear e;intro e hx
  obtain⟨n,v⟩:=b
  have hj:nm i≠n:=λz=>hi (q1n _ _ (z.trans e)▸.head _)
  unfold bindC
  rw[ih λhm=>hi (.tail _ hm)]
  by_cases hk:kindOf n=some .local
  ·rw[if_pos hk]
  ·rw[if_neg hk];exact if_neg hj
theorem qbU{kindOf:Str→Option NameKind}{i:Nat}(hi:kindOf (nm i)≠some .local){bs:Lo}{binds:List (Str×Value)}{m:Str→Option Value}(H:All2 (q6P W) bs binds)(hn:(bs.map (·.1)).Nodup)(h:m (nm i)=none):OptR W (alook bs i) (bindC kindOf binds m (nm i)):=by
 induction H generalizing m with
 |nil=>exact h
 |@cons a b r q e hr ih=>
  refine X0x2 e ?_;clear e;intro e hx
  obtain⟨j,x⟩:=a
  obtain⟨n,v⟩:=b
  have e:n=nm j:=e
  subst e
  have hn:=List.nodup_cons.mp hn
  unfold bindC
  show OptR W (bi (Nat.beq j i) (some x) (alook r i)) _
  rw[q0g]
  by_cases hj:j=i
  ·subst hj
   rw[decide_eq_true rfl,if_neg hi,q8r hr hn.1,if_pos rfl]
   exact⟨v,rfl,hx⟩
  ·rw[decide_eq_false hj]
   refine ih hn.2 ?_
   by_cases hk:kindOf (nm j)=some .local
   ·rw[if_pos hk];exact h
   ·rw[if_neg hk];exact(if_neg (λe=>hj (q1n _ _ e).symm)).trans h
end
section
variable{B:Base}{fs:List Nat}{s:Shared}
theorem qac{bs:Lo}{cells:List (Str×Addr)}:∀(l:List Nat){W:Wd}{σ:S}{k:List (Nat×Nat)→S→Bool},q4D bs l σ k=true→Rel B W fs σ s→l.Nodup→
  (∀i∈l,∃c,cells.lookup (nm i)=some c∧B.h₀.objs.size≤c∧(∀q:Fp,q∈W.ρ→c∉q.all)∧(∀x∈W.still,x.1≠c)∧∃o u,s.heap.get? c=some o∧o.data=.cell u∧OptR W (alook bs i) u)→
  (∀i j c,i∈l→j∈l→cells.lookup (nm i)=some c→cells.lookup (nm j)=some c→i=j)→
  ∃W' τ cs,W.le W'∧Rel B W' fs τ s∧k cs τ=true∧∀i∈l,∃a q,alook cs i=some a∧W'.ρ[a]?=some q∧cells.lookup (nm i)=some q.a:=by
 intro l
 induction l with
 |nil=>exact λ{W σ k} h R _ _ _=>⟨W,σ,[],.refl W,R,h,λi hi=>by cases hi⟩
 |cons i r ih=>
  intro W σ k h R hn hc hd
  have h:σ.addK (.cell (alook bs i)) (λn σ=>q4D bs r σ (λcs σ=>k ((i,n)::cs) σ))=true:=h
  refine S.addK_true_E3 h ?_;intro τ A h
  have hn:=List.nodup_cons.mp hn
  refine X1x1 (hc i (.head _)) ?_;intro c o1;refine X0x2 o1 ?_;clear o1;intro c1 o2;refine X0x2 o2 ?_;clear o2;intro c2 o3;refine X0x2 o3 ?_;clear o3;intro c3 o4;refine X0x2 o4 ?_;clear o4;intro c4 o5;refine X2x3 o5 ?_;clear o5;intro o u c5 c6 c7
  have R':Rel B (W.add ⟨c,[]⟩) fs τ s:=R.adopt A (p:=⟨c,[]⟩) (λx hx=>by
   refine Z4 (List.mem_cons.mp hx) ?_ (λhx=>?_);rintro rfl
   ·exact⟨c2,⟨o,c5⟩,c3,c4⟩
   ·cases hx) ⟨o,u,c5,c6,c7.mono (W.le_add _)⟩
  refine X3x4 (ih h R' hn.2 (λj hj=>by
   refine X1x1 (hc j (.tail _ hj)) ?_;intro d o1;refine X0x2 o1 ?_;clear o1;intro d1 o2;refine X0x2 o2 ?_;clear o2;intro d2 o3;refine X0x2 o3 ?_;clear o3;intro d3 o4;refine X0x2 o4 ?_;clear o4;intro d4 o5;refine X2x3 o5 ?_;clear o5;intro o' u' d5 d6 d7
   refine⟨d,d1,d2,λq hq hm=>?_,d4,o',u',d5,d6,d7.mono (W.le_add _)⟩
   focus (refine Z4 (q1g hq) ?_ ?_;rotate_left;rintro rfl;rotate_right;intro hq)
   ·exact d3 q hq hm
   ·refine Z4 (List.mem_cons.mp hm) (λe=>?_) λhm=>?_
    ·have e:d=c:=e
     subst e
     exact hn.1 (hd i j d (.head _) (.tail _ hj) c1 d1▸hj)
    ·cases hm) (λa b c ha hb=>hd a b c (.tail _ ha) (.tail _ hb))) ?_;intro W' τ' cs l' R'' hk hall
  refine⟨W',τ',(i,σ.n)::cs,(W.le_add _).trans l',R'',hk,λj hj=>?_⟩
  by_cases e:i=j
  ·subst e
   refine⟨σ.n,⟨c,[]⟩,?_,q0a l'.ρ (R.add_at _),c1⟩
   show bi (Nat.beq i i) (some σ.n) (alook cs i)=_
   rw[q0g,decide_eq_true rfl]
  ·refine Z4 (List.mem_cons.mp hj) (λhj=>?_) λhj=>?_
   ·exact absurd hj.symm e
   ·refine X2x3 (hall j hj) ?_;intro a q h1 h2 h3
    refine⟨a,q,?_,h2,h3⟩
    show bi (Nat.beq i j) (some σ.n) (alook cs j)=_
    rw[q0g,decide_eq_false e];exact h1
end
noncomputable def qaC(B:Base)(f:Fn)(fd:FuncData):Prop:=(∃b,fd.body=.stmts b∧SSs B fd.scope f.body b)∨∃e x,fd.body=.expr e∧f.body=sRet x∧SX B fd.scope x e
structure FdOk(B:Base)(f:Fn)(fd:FuncData):Prop where
 pos:fd.params.posonlyargs=[]
 kwo:fd.params.kwonlyargs=[]
 var:fd.params.vararg=none
 kwa:fd.params.kwarg=none
 args:fd.params.args.map (·.arg)=f.params.map nm
 nodup:f.params.Nodup
 co:fd.scope.isCoroutine=false
 gen:fd.scope.isGenerator=false
 kind:fd.scope.kind=.function
 glo:fd.globals=mainGlobals
 bui:fd.builtins=builtinsNs
 cod:∀a,scode fd.scope=some a→fd.code=.ref a∧fd.qualname=squal a
 body:qaC B f fd
 dflt:∃ds,VRs ⟨[],[],[],[],[]⟩ f.dflt ds∧((fd.defaults=.none∧ds=[])∨∃T n,fd.defaults=.ref T∧B.K.lookup T=some (q0J ds n))
 dlen:f.dflt.length≤f.params.length
 parm:∀i∈f.params,(nmem i f.cells=false↔fd.scope.names.lookup (nm i)=some .local)
structure FnOk(B:Base)(f:Fn)(fd:FuncData):Prop extends FdOk B f fd where
 clo:fd.closure=[]
 parc:∀i∈f.params,nmem i f.cells=true→fd.scope.names.lookup (nm i)=some .cell
 cnod:f.cells.Nodup
 celc:∀i∈f.cells,fd.scope.names.lookup (nm i)=some .cell
 cell:∀i,fd.scope.names.lookup (nm i)=some .cell∨fd.scope.names.lookup (nm i)=some .free→i∈f.cells
 cfr:∀L i,i∈f.cells→((cellsFrom L fd.scope.names []).lookup (nm i)).isSome=true
section
variable{B:Base}{W:Wd}{fs:List Nat}{σ:S}{s:Shared}
noncomputable def qbY(B:Base)(W:Wd)(fs:List Nat)(σ:S)(sc:Scope)(k:List (Nat×Nat)→S→Bool)(env:Env)(s:Shared):Prop:=
 ∃W' τ cs,W.le W'∧Rel B W' (σ.n::fs) τ s∧k cs τ=true∧env.scope=sc∧env.globals=mainGlobals∧env.builtins=builtinsNs∧env.frame=some env.locals∧W'.ρ[σ.n]?=some ⟨env.locals,[]⟩∧(∀a,scode sc=some a→env.code=.ref a∧env.qual=squal a++".<locals>.")∧
  ∀i,sc.names.lookup (nm i)=some .cell∨sc.names.lookup (nm i)=some .free→∃a q,alook cs i=some a∧W'.ρ[a]?=some q∧env.cells.lookup (nm i)=some q.a
theorem q2i{l:List Nat}(h:l.Nodup):(l.map nm).Nodup:=by
 induction l with
 |nil=>exact List.nodup_nil
 |cons a r ih=>
  have h:=List.nodup_cons.mp h
  rw[List.map_cons]
  exact List.nodup_cons.mpr ⟨λhm=>by
   refine X1x2 (List.mem_map.mp hm) ?_;intro b hb e
   exact h.1 (q1n _ _ e▸hb),ih h.2⟩
theorem q6Q{W:Wd}{ps:List Nat}:∀{as:List SV}{vs:List Value},VRs W as vs→All2 (q6P W) (ps.zip as) ((ps.map nm).zip vs):=by
 induction ps with
 |nil=>exact λ_=>.nil
 |cons p r ih=>
  intro as vs h
  cases h with
  |nil=>exact .nil
  |cons h t=>exact .cons ⟨rfl,h⟩ (ih t)
theorem qgw(R:Rel B W fs σ s){M:Model}{A:Around}{E:Value→Shared→Prop}{f:Fn}{fd:FuncData}(F:FnOk B f fd){a:Addr}{as:List SV}{vs:List Value}{k:List (Nat×Nat)→S→Bool}(hv:VRs W as vs)
  (h:σ.pushK ((f.params.zip as).filter λp=>!(nmem p.1 f.cells)) (λσ=>q4D (f.params.zip as) f.cells σ k)=true) :
  wpAny M A (newFunctionEnv fd.scope fd.globals fd.closure ((f.params.map nm).zip vs) (fd.qualname++".<locals>.") (some a) fd.code none fd.builtins) (qbY B W fs σ fd.scope k) E s:=by
 refine X1x2 (S.pushK_true h) ?_;intro τ Z h
 rw[F.clo]
 have hb:=q6Q (ps:=f.params) hv
 refine wpAny_newFunctionEnv_cells F.kind (λx hx=>?_) λenv he s' X=>?_
 ·refine X1x2 (List.mem_map.mp (List.of_mem_zip hx).1) ?_;intro i hi e
  rw[←e]
  cases hc:nmem i f.cells with
  |false=>exact .inl ((F.parm i hi).mp hc)
  |true=>exact .inr ⟨F.parc i hi hc,F.cfr _ i (q22 hc)⟩
 ·have hsc:env.scope=fd.scope:=by rw[he];rfl
  have hce:env.cells=cellsFrom (s.heap.objs.size+1) fd.scope.names []:=by rw[he];rfl
  have hkd:∀y,env.kindOf y=fd.scope.names.lookup y:=λy=>by unfold Env.kindOf;rw[hsc]
  have hnd:((f.params.zip as).map (·.1)).Nodup:=q1m F.nodup
  have hmem:∀p∈f.params.zip as,p.1∈f.params:=λp hp=>(List.of_mem_zip (a:=p.1) (b:=p.2) hp).1
  have hN:NsR W ([]++(f.params.zip as).filter λp=>!(nmem p.1 f.cells)) (bindL env.kindOf ((f.params.map nm).zip vs) λ_=>none):=
   qbT hb (λp hp=>by rw[hkd];exact F.parm p.1 (hmem p hp)) hnd (λp _ hm=>by cases hm) (λi=>rfl)
  rw[List.nil_append] at hN
  refine X2x1 X.toInCall.same ?_;intro h' tk o1;subst o1
  refine X3x2 (id X.toInCall.ns) ?_;intro on es ep hL _
  have R1:=R.push Z ⟨X.toInCall.keep⟩ X.toInCall.fresh ⟨_,hL⟩ X.toInCall.ns hN rfl rfl
  have hold:∀i c,env.cells.lookup (nm i)=some c→env.locals<c:=λi c e=>X.above _ _ (mem_of_lookup e)
  refine X3x4 (qac f.cells h R1 F.cnod (cells:=env.cells) (λi hi=>by
   refine X1x1 (Option.isSome_iff_exists.mp (F.cfr (s.heap.objs.size+1) i hi)) ?_;intro c hc
   rw[←hce] at hc
   have hlt:env.locals<c:=hold i c hc
   have hfr:s.heap.objs.size<c:=Nat.lt_of_le_of_lt X.toInCall.fresh hlt
   refine⟨c,hc,Nat.le_trans R.le (Nat.le_of_lt hfr),λq hq hm=>?_,λx hx e=>?_,?_⟩
   ·focus (refine Z4 (q1g hq) ?_ ?_;rotate_left;rintro rfl;rotate_right;intro hq)
    ·refine X0x2 (R.own q hq c hm) ?_;intro _ o1;refine X1x1 o1 ?_;clear o1;intro o e
     exact absurd (Nat.lt_trans hfr (Z7 e)) (Nat.lt_irrefl _)
    ·refine Z4 (List.mem_cons.mp hm) (λe=>?_) λhm=>?_
     ·have e:c=env.locals:=e
      rw[e] at hlt
      exact Nat.lt_irrefl _ hlt
     ·cases hm
   ·have:=Z7 (R.fz x hx).1
    rw[e] at this
    exact absurd (Nat.lt_trans hfr this) (Nat.lt_irrefl _)
   ·refine X1x2 (X.cell _ _ hc) ?_;intro o e1 e2
    refine⟨o,_,e1,e2,(qbU (kindOf:=env.kindOf) (i:=i) ?_ hb hnd rfl).mono (W.le_add _)⟩
    rw[hkd,F.celc i hi]
    exact λe=>by cases e) (λi j c hi hj e1 e2=>by
   have:=name_of_addr X.apart (mem_of_lookup e1) (mem_of_lookup e2)
   exact q1n _ _ this)) ?_;intro W' τ' cs l' R2 hk hall
  refine⟨W',τ',cs,(W.le_add _).trans l',R2,hk,hsc,by rw[he];exact F.glo,by rw[he];exact F.bui,by rw[he];rfl,q0a l'.ρ (R.add_at _),λa ha=>by rw[he];exact⟨(F.cod a ha).1,by rw[←(F.cod a ha).2];rfl⟩,λi hi=>hall i (F.cell i hi)⟩
end
noncomputable def q2n(B:Base):Prop:=∀(n:Nat)(sc:Scope)(W W₀:Wd)(fr:Nat)(fs:List Nat)(c:Cx)(X:Fx)(kx:KX)(fa:Addr)(e:Value)(s:Shared),W₀.le W→Ok B n sc W (fr::fs) c X→X.fa=X.env.locals→QE B W (fr::fs) X.fa (λC σ=>σ.popK (λσ=>kx C σ)) e s→
 wpAny (model B.prog B.w) X.A (leaving X.env e) (λ_ s'=>QE B W₀ fs fa kx e s') (λ_ _=>False) s
inductive CodeAt(B:Base)(fd:FuncData):Prop
 |mk (c:_) (oc:_) (vs:_) (t:_) (h0_:fd.code=.ref c) (h1_:c≠cStatics) (h2_:B.h₀.get? c=some oc) (h3_:oc.data=.fields vs) (h4_:vs[1]?=some (.str fd.qualname t)):CodeAt B fd
theorem CodeAt.kE9{B:Base}{fd:FuncData}{X_:Prop}(h_:CodeAt B fd)(k_:∀(c:_)(oc:_)(vs:_)(t:_)(h0_:fd.code=.ref c)(h1_:c≠cStatics)(h2_:B.h₀.get? c=some oc)(h3_:oc.data=.fields vs) (h4_:vs[1]?=some (.str fd.qualname t)),X_):X_:=CodeAt.rec (motive:=λ_=>X_) k_ h_
section
variable{B:Base}{W:Wd}{fs:List Nat}{σ:S}{s:Shared}
theorem Rel.code(R:Rel B W fs σ s){fd:FuncData}(h:CodeAt B fd):s.heap.CodeRec fd.code fd.qualname:=by
 refine h.kE9 ?_;clear h;intro c oc vs t h1 h2 h3 h4 h5
 focus (refine Z4 (R.old.k.old c oc h3) ?_ ?_;rotate_left;intro o1;refine Z4 o1 ?_ ?_;rotate_left;clear o1;intro o2;refine X0x2 o2 ?_;clear o2;intro o3 _;subst o3;rotate_right;clear o1;intro o4;refine X0x2 o4 ?_;clear o4;intro _ o5;refine X0x2 o5 ?_;clear o5;intro hc o6;refine X2x2 o6 ?_;clear o6;intro vs' more hv x;rotate_right;intro x)
 ·exact⟨c,oc,vs,t,h1,x,h4,h5⟩
 ·rw[h4] at hv
  injection hv with hv
  subst hv
  refine⟨c,_,vs++more,t,h1,x,rfl,?_⟩
  rw[Array.getElem?_append_left (Array.getElem?_eq_some_iff.mp h5).1]
  exact h5
 ·exact absurd rfl h2
theorem qa4(R:Rel B W fs σ s){f:Fn}{fd:FuncData}(F:FdOk B f fd):∃ds,VRs W f.dflt ds∧∀(M:Model)(A:Around)(E:Value→Shared→Prop)(Q:Option (Array Value)→Shared→Prop),(∀r,r.getD #[]=ds.toArray→Q r s)→wpAny M A (seqItems? fd.defaults) Q E s:=by
 refine X1x2 F.dflt ?_;intro ds h1 h2
 refine⟨ds,h1.base W,λM A E Q hq=>?_⟩
 refine Z4 h2 ?_ (λo1=>X2x2 o1 λT n h2 h3=>?_);clear h2;intro o2;refine X0x2 o2 ?_;clear o2;intro h2 o3;subst o3
 ·rw[h2]
  show wpAny M A (notAStandIn .none>>=λ_=>pure none) Q E s
  exact Z0 (Z3 (Z3 (hq _ rfl)))
 ·rw[h2]
  exact wpAny_seqItems (R.kin T _ h3) rfl (hq _ rfl)
theorem qby{n:Nat}{call:q1A}(hC:q38 B n call){f:Fn}{fd:FuncData}(F:FdOk B f fd){A:Around}(O:AOk B (n+1) W fs A){kx:KX}{kv:KV}{env:Env}{W':Wd}{cs:List (Nat×Nat)}{τ:S}(l:W.le W')
  (e1:env.scope=fd.scope) (e2:env.globals=mainGlobals) (e3:env.builtins=builtinsNs) (e4:env.frame=some env.locals) (e5:W'.ρ[σ.n]?=some ⟨env.locals,[]⟩) (e7:∀a,scode fd.scope=some a→env.code=.ref a∧env.qual=squal a++".<locals>.")
  (e6:∀i,fd.scope.names.lookup (nm i)=some .cell∨fd.scope.names.lookup (nm i)=some .free→∃a q,alook cs i=some a∧W'.ρ[a]?=some q∧env.cells.lookup (nm i)=some q.a) :
  Ok B n fd.scope W' (σ.n::fs) ⟨call,cs,λj σ=>σ.popK (λσ=>kx j σ)⟩ ⟨A.deeper env,env,env.locals⟩:=by
 refine X1x2 O.frames ?_;intro FE hFE hfe
 have hA:AOk B n W' (σ.n::fs) (A.deeper env):=by
  refine⟨O.handled,?_,?_,O.guards,env::FE,?_,λe he=>?_⟩
  ·show A.depth+1+2*n≤900
   have:=O.depth;lia
  ·show A.units+3+20*n≤9000
   have:=O.units;lia
  ·show A.frames.map (env::·)=_
   rw[hFE];rfl
  ·refine Z4 (List.mem_cons.mp he) ?_ (λhe=>?_);rintro rfl
   ·exact⟨by rw[e1,F.kind];decide,σ.n,.head _,_,e5,e4⟩
   ·refine X0x2 (hfe e he) ?_;intro k1 o1;refine X1x1 o1 ?_;clear o1;intro i o2;refine X0x2 o2 ?_;clear o2;intro hi o3;refine X1x2 o3 ?_;clear o3;intro g k2 k3
    exact⟨k1,i,.tail _ hi,g,q0a l.ρ k2,k3⟩
 exact⟨e1,F.kind,e2,e3,e4,⟨σ.n,fs,rfl,e5⟩,⟨σ.n,.head _,e5⟩,hA,⟨env,FE,by show A.frames.map (env::·)=_;rw[hFE];rfl,e4⟩,e6,e7,hC⟩
noncomputable def q4Q(B:Base)(W:Wd)(fs:List Nat)(fa:Addr)(kx:KX)(kv:KV):Result→Shared→Prop:=λr s'=>match r with|.ok (.ret v)=>PQ B W fs (QV kv) v s'|.ok _=>False|.error e=>QE B W fs fa kx e s'
theorem q8m{prog:Program}{w:World}{A:Around}{R:Result→Shared→Prop}{s:Shared}{e:Expr}{env:Env}
  (h:wpG (model prog w) (A.deeper env) (eval e env) (λv s'=>R (.ok (.ret v)) s') (λe' s'=>wpAny (model prog w) (A.deeper env) (leaving env e') (λ_ s''=>R (.error e') s'') (λe'' s''=>R (.error e'') s'') s') s) :
  q0E (model prog w) A (.expr e env) R s:=by
 refine q0k rfl ?_
 show wpG _ (A.deeper env) (do point;ret (←(eval e env).onRaise (leaving env))) _ _ s
 exact q01 (q3m (q01 (q0T (q05 h (λv s' h'=>q03 h') λ_ _ h'=>toG h'))))
theorem q9a{W₂:Wd}{σ₂:S}{kv:KV}{fr:Nat}{fs:List Nat}(R₂:Rel B W₂ (fr::fs) σ₂ s)(l:W.le W₂){x:SV}{v:Value}(hx:VR W₂ x v)(hp:σ₂.popK (λσ=>kv x σ)=true):PQ B W fs (QV kv) v s:=by
 refine X3x3 (S.popK_true hp) ?_;intro q r σ₃ e Z h₃
 exact⟨W₂,σ₃,l,R₂.pop e Z,qv hx h₃⟩
theorem q66(hL:q2n B){n:Nat}{call:q1A}(hC:q38 B n call){f:Fn}{fd:FuncData}(F:FdOk B f fd){A:Around}(O:AOk B (n+1) W fs A)(R:Rel B W fs σ s){a:Addr}{o:Obj}(ho:s.heap.get? a=some o)(hd:o.data=.func fd)(hcd:s.heap.CodeRec fd.code fd.qualname)
  {vs:List Value} {bs:List (Str×Value)} {kx:KX} {kv:KV} {fa:Addr}
  (hbind:∀(M:Model)(A:Around)(E:Value→Shared→Prop)(Q:List (Str×Value)→Shared→Prop),Q bs s→wpAny M A (bindArgs fd ⟨vs,[]⟩) Q E s)
  (henv:∀(M:Model)(A:Around)(E:Value→Shared→Prop),wpAny M A (newFunctionEnv fd.scope fd.globals fd.closure bs (fd.qualname++".<locals>.") (some a) fd.code none fd.builtins) (qbY B W fs σ fd.scope (λcs σ=>q1X call f.body cs σ kx kv)) E s) :
  q0E (model B.prog B.w) A (.call (.ref a) ⟨vs,[]⟩) (q4Q B W fs fa kx kv) s:=by
 have hroom:A.depth<recursionLimit:=by
  have:=O.depth
  have e:recursionLimit=1000:=rfl
  lia
 have leave:∀{W' W₂:Wd}{cs:List (Nat×Nat)}{env:Env}{s':Shared}{e:Value},W.le W'→Ok B n fd.scope W' (σ.n::fs) ⟨call,cs,λj σ=>σ.popK (λσ=>kx j σ)⟩ ⟨A.deeper env,env,env.locals⟩→QE B W' (σ.n::fs) env.locals (λj σ=>σ.popK (λσ=>kx j σ)) e s'→
   wpAny (model B.prog B.w) (A.deeper env) (leaving env e) (λ_ s''=>q4Q B W fs fa kx kv (.error e) s'') (λe' s''=>q4Q B W fs fa kx kv (.error e') s'') s':=λ{W'}{W₂}{cs}{env}{s'}{e} l O' q=>by
  have Q:=hL n fd.scope W' W σ.n fs _ ⟨A.deeper env,env,env.locals⟩ kx fa e s' l O' rfl q
  exact wpAny_mono Q (λ_ _ z=>z) λ_ _ z=>z.elim
 have body:∀{env:Env}{s₂:Shared},qbY B W fs σ fd.scope (λcs σ=>q1X call f.body cs σ kx kv) env s₂→s₂.heap.NoLimit∧∀c:Code,qcE fd.body env c→q0E (model B.prog B.w) A c (q4Q B W fs fa kx kv) s₂:=λ{env}{s₂} hE=>by
  refine qgP hE ?_;clear hE;intro W' τ cs l R' hk e1 e2 e3 e4 e5 e7 e6
  refine⟨R'.lim,λc hc=>?_⟩
  have O':=qby (kx:=kx) (kv:=kv) (σ:=σ) (τ:=τ) hC F O l e1 e2 e3 e4 e5 e7 e6
  have hk:f.body ⟨call,cs,λj σ=>σ.popK (λσ=>kx j σ)⟩ τ (λv σ=>σ.popK (λσ=>kv v σ)) (λσ=>σ.popK (λσ=>kv .none σ))=true:=hk
  refine Z4 F.body (λo2=>X1x2 o2 λb hb hS=>?_) λo1=>X2x3 o1 λe x hb hf hS=>?_
  ·rw[hb] at hc
   have hc:c=.func b env:=hc
   subst hc
   refine q4A (q05 (hS n W' (σ.n::fs) _ ⟨A.deeper env,env,env.locals⟩ τ s₂ _ _ O' R' hk) (λfl s' oY3x0=>?_) λe s' q=>leave (W₂:=W') l O' q)
   refine oY3x0.kE5 ?_;clear oY3x0;intro W₂ σ₂ l₂ R₂ h₂
   cases fl with
   |ret v=>(refine h₂.kE3 ?_;clear h₂;intro x hx hp);exact q9a R₂ (l.trans l₂) hx hp
   |next=>exact q9a (x:=.none) R₂ (l.trans l₂) rfl h₂
   |_=>cases h₂
  ·rw[hb] at hc
   have hc:c=.expr e env:=hc
   subst hc
   rw[hf] at hk
   refine q8m (q05 (hS n W' (σ.n::fs) _ ⟨A.deeper env,env,env.locals⟩ τ s₂ _ O' R' hk) (λv s' oY2x0=>?_) λe s' q=>leave (W₂:=W') l O' q)
   refine oY2x0.kE7 ?_;clear oY2x0;intro W₂ σ₂ l₂ R₂ y hy hp
   exact q9a R₂ (l.trans l₂) hy hp
 exact q1a hroom ho hd F.co F.gen hcd (hbind _ _ _ _ (wpAny_mono (henv _ _ _) (λenv s₂ hE=>body hE) λe s' z=>z))
theorem q6D(hL:q2n B){n:Nat}{call:q1A}(hC:q38 B n call){f:Fn}{fd:FuncData}(F:FnOk B f fd)(hc:CodeAt B fd){a:Addr}{o:Obj}(ha:B.K.lookup a=some o)(hd:o.data=.func fd){A:Around}(O:AOk B (n+1) W fs A)(R:Rel B W fs σ s)
  {as:List SV} {vs:List Value} (hv:VRs W as vs) {kx:KX} {kv:KV} {fa:Addr} (h:q4F call f as σ kx kv=true):q0E (model B.prog B.w) A (.call (.ref a) ⟨vs,[]⟩) (λr s'=>match r with|.ok (.ret v)=>PQ B W fs (QV kv) v s'|.ok _=>False|.error e=>QE B W fs fa kx e s') s:=by
 refine X1x2 (qa4 R F.toFdOk) ?_;intro ds hds hdo
 obtain⟨ps,dflt,body,cells⟩:=f
 have h:zipK ps as dflt (λbs=>q3e cells bs (λlo=>σ.pushK lo (λσ=>q4D bs cells σ (λcs σ=>q1X call body cs σ kx kv))))=true:=h
 refine X0x3 (q3j h) ?_;intro l1 l2 h
 have h:=q4K h
 have hvl:=hv.length
 have hdl:=hds.length
 have hdn:=F.dlen
 have hdn:dflt.length≤ps.length:=hdn
 have hbind:=q5c (s:=s) (fd:=fd) (vals:=vs) (ds:=ds) F.pos F.args F.kwo F.var F.kwa hdo (q2i F.nodup) (by rw[List.length_map,hvl];exact l1) (by rw[List.length_map,hvl,hdl];exact l2) (by rw[List.length_map,hdl];exact hdn)
 rw[List.length_map,hvl,hdl] at hbind
 exact q66 hL hC F.toFdOk O R (R.kin a o ha) hd (R.code hc) (λM A E Q hq=>hbind M A E Q hq) (λM A E=>qgw R F (hv.app (hds.drop _)) h)
theorem qhm(hL:q2n B){n:Nat}{call:q1A}(hC:q38 B n call){f:Fn}{fd:FuncData}(F:FnOk B f fd)(hc:CodeAt B fd){a:Addr}{o:Obj}(ha:B.K.lookup a=some o)(hd:o.data=.func fd){A:Around}(O:AOk B (n+1) W fs A)(R:Rel B W fs σ s)
  {as:List SV} {vs:List Value} (hv:VRs W as vs) {kx:KX} {kv:KV} {fa:Addr} (h:q4F call f as σ kx kv=true):wpG (model B.prog B.w) A (PySem.call (.ref a) vs) (PQ B W fs (QV kv)) (QE B W fs fa kx) s:=
 q0W (q6D hL hC F hc ha hd O R hv h)
end
structure TmOk(B:Base)(f:Fn)(fd:FuncData):Prop extends FdOk B f fd where
 noc:∀x∈fd.scope.names,x.2≠.cell
 noc':∀i,fd.scope.names.lookup (nm i)≠some .cell
 loc:∀i∈f.params,fd.scope.names.lookup (nm i)=some .local
section
variable{B:Base}{W:Wd}{fs:List Nat}{σ:S}{s:Shared}
theorem qbR{bs:Lo}{binds:List (Str×Value)}{i:Nat}{x:SV}(H:All2 (q6P W) bs binds)(hm:(i,x)∈bs):∃v,(nm i,v)∈binds∧VR W x v:=by
 induction H with
 |nil=>exact nomatch hm
 |@cons a b r q e t ih=>
  refine Z4 (List.mem_cons.mp hm) (λhm=>?_) λhm=>?_
  ·subst hm
   exact⟨b.2,by rw[←show b.1=nm i from e.1];exact .head _,e.2⟩
  ·refine X1x2 (ih hm) ?_;intro v h1 h2
   exact⟨v,.tail _ h1,h2⟩
theorem qak{bs:Lo}{binds:List (Str×Value)}(H:All2 (q6P W) bs binds):binds.map (·.1)=(bs.map (·.1)).map nm:=by
 induction H with
 |nil=>rfl
 |cons e t ih=>rw[List.map_cons,List.map_cons,List.map_cons,ih,e.1]
theorem q86{l:Lo}{i:Nat}{v:SV}(h:q0K l i=some v):(i,v)∈l:=by
 induction l with
 |nil=>exact zN h
 |cons p r ih=>
  rw[q0w,q0g] at h
  by_cases e:p.1=i
  ·simp only[decide_eq_true e] at h
   refine zI h ?_;clear h;rintro rfl
   rw[←e];exact .head _
  ·simp only[decide_eq_false e] at h
   exact .tail _ (ih h)
theorem q6q{l:Lo}{i:Nat}(h:q0K l i=none):i∉l.map (·.1):=by
 induction l with
 |nil=>simp
 |cons p r ih=>
  rw[q0w,q0g] at h
  by_cases e:p.1=i
  ·simp only[decide_eq_true e] at h;exact zS h
  ·simp only[decide_eq_false e] at h
   rw[List.map_cons]
   intro hm
   refine Z4 (List.mem_cons.mp hm) (λz=>?_) λz=>?_
   ·exact e z.symm
   ·exact ih h z
theorem qek{bs:Lo}{binds:List (Str×Value)}(h:All2 (q6P W) bs binds)(hn:(bs.map (·.1)).Nodup):NsR W bs (λy=>binds.reverse.lookup y):=λi=>by
 have hk:=qak h
 have hnd:(binds.reverse.map (·.1)).Nodup:=by
  rw[List.map_reverse,hk]
  exact(List.pairwise_reverse.mpr ((q2i hn).imp λh=>Ne.symm h))
 cases e:q0K bs i with
 |none=>
  show binds.reverse.lookup (nm i)=none
  refine q2a λx hx z=>q6q e ?_
  have:x.1∈binds.map (·.1):=List.mem_map.mpr ⟨x,List.mem_reverse.mp hx,rfl⟩
  rw[hk,z] at this
  refine X1x2 (List.mem_map.mp this) ?_;intro j hj ej
  exact q1n _ _ ej▸hj
 |some v=>
  refine X1x2 (qbR h (q86 e)) ?_;intro u h1 h2
  exact⟨u,q0Y hnd (List.mem_reverse.mpr h1),h2⟩
theorem qgv(R:Rel B W fs σ s){M:Model}{A:Around}{E:Value→Shared→Prop}{f:Fn}{fd:FuncData}(F:TmOk B f fd){a:Addr}{as:List SV}{vs:List Value}{k:List (Nat×Nat)→S→Bool}{cs:List (Nat×Nat)}(hv:VRs W as vs)
  (hcl:∀j,fd.scope.names.lookup (nm j)=some .free→∃a q,alook cs j=some a∧W.ρ[a]?=some q∧fd.closure.lookup (nm j)=some q.a)
  (h:σ.pushK (f.params.zip as) (λσ=>k cs σ)=true) :
  wpAny M A (newFunctionEnv fd.scope fd.globals fd.closure ((f.params.map nm).zip vs) (fd.qualname++".<locals>.") (some a) fd.code none fd.builtins) (qbY B W fs σ fd.scope k) E s:=by
 refine X1x2 (S.pushK_true h) ?_;intro τ Z h
 have hb:=q6Q (ps:=f.params) hv
 refine wpAny_newFunctionEnv F.noc (λx hx=>?_) (λh' hns hsb=>?_) F.kind
 ·refine X1x2 (List.mem_map.mp (List.of_mem_zip hx).1) ?_;intro i hi e
  rw[←e];exact F.loc i hi
 ·have hnd:((f.params.zip as).map (·.1)).Nodup:=q1m F.nodup
  have hk:∀b o,s.heap.get? b=some o→h'.get? b=some o:=λb o e=>hsb.extBut b o (Nat.ne_of_lt (Z7 e)) (Z5 _ e)
  refine X3x2 (id hns) ?_;intro on es ep hL _
  have R1:=R.push (s':={s with heap:=h',toks:=s.toks+((f.params.map nm).zip vs).length}) Z ⟨hk⟩ (Nat.le_refl _) ⟨_,hL⟩ hns (qek hb hnd) rfl rfl
  refine⟨W.add ⟨s.heap.objs.size,[]⟩,τ,cs,W.le_add _,R1,h,rfl,F.glo,F.bui,rfl,R.add_at _,λa ha=>⟨(F.cod a ha).1,by rw[←(F.cod a ha).2];rfl⟩,λi hi=>?_⟩
  refine Z4 hi (λhi=>?_) λhi=>?_
  ·exact absurd hi (F.noc' i)
  ·refine X2x3 (hcl i hi) ?_;intro a' q h1 h2 h3
   exact⟨a',q,h1,q0a (W.le_add _).ρ h2,h3⟩
theorem qgS(hL:q2n B){n:Nat}{call:q1A}(hC:q38 B n call){f:Fn}{i j:Nat}{cs:List (Nat×Nat)}(hF:∀fd,B.fnOk i fd→TmOk B f fd){A:Around}(O:AOk B (n+1) W fs A)(R:Rel B W fs σ s)(hj:σ.get j=some (.fn i cs)){u:Value}(hu:VR W (.own j) u)
  {as:List SV} {vs:List Value} (hv:VRs W as vs) {kx:KX} {kv:KV} {fa:Addr} (h:qae call cs as σ kx kv f=true):wpG (model B.prog B.w) A (PySem.call u vs) (PQ B W fs (QV kv)) (QE B W fs fa kx) s:=by
 refine X1x2 hu ?_;clear hu;intro p hp o1;subst o1
 refine X2x6 (R.objs _ _ _ hj hp) ?_;intro o fd e1 e2 e3 e4 o1 hcl;refine X4x4 o1 ?_;clear o1;intro cc oc ws t c1 c2 c3 c4
 have F:=hF fd e4
 refine X1x2 (qa4 R F.toFdOk) ?_;intro ds hds hdo
 obtain⟨ps,dflt,body,cells⟩:=f
 have h:zipK ps as dflt (λbs=>σ.pushK bs (λσ=>q1X call body cs σ kx kv))=true:=h
 refine X0x3 (q3j h) ?_;intro l1 l2 h
 have hvl:=hv.length
 have hdl:=hds.length
 have hdn:dflt.length≤ps.length:=F.dlen
 have hbind:=q5c (s:=s) (fd:=fd) (vals:=vs) (ds:=ds) F.pos F.args F.kwo F.var F.kwa hdo (q2i F.nodup) (by rw[List.length_map,hvl];exact l1) (by rw[List.length_map,hvl,hdl];exact l2) (by rw[List.length_map,hdl];exact hdn)
 rw[List.length_map,hvl,hdl] at hbind
 have hroom:A.depth<recursionLimit:=by
  have:=O.depth
  have e:recursionLimit=1000:=rfl
  lia
 have hcode:s.heap.CodeRec fd.code fd.qualname:=by
  have:=(R.fz (cc,q6I oc) (List.mem_append_left _ (List.mem_map.mpr ⟨_,c2,rfl⟩))).1
  exact⟨cc,q6I oc,ws,t,c1,this,c3,c4⟩
 exact q0W (q66 hL hC F.toFdOk O R e1 e3 hcode (λM A E Q hq=>hbind M A E Q hq) (λM A E=>qgv R F (k:=λcs σ=>q1X call body cs σ kx kv) (hv.app (hds.drop _)) hcl h))
end
end
section
open PySem PySem.W PyProof.Rows
variable{prog:Program}{w:World}{A:Around}{E:Value→Shared→Prop}{R:Result→Shared→Prop}{s:Shared}
theorem q0v{id:String}{args:Args}{b:Builtin}(hq:(Code.builtin id args).quiet=true)(hdec:q5K (.builtin id args)=false)(hb:entryFor table id=some b)
  (h:wpAny (model prog w) A.in1 (checkBuiltinCall id args) (λ_ s₁=>wpG (model prog w) (A.under (.builtin id args)) (b args)
   (λfin s'=>match fin with|.done f=>R (.ok f) s'|.again c'=>c'.quiet=true∧q0E (model prog w) A c' R s') (λe s'=>R (.error e) s') s₁)
   (λe s'=>R (.error e) s') s):q0E (model prog w) A (.call (.builtin id) args) R s:=by
 refine q0k rfl ?_
 show wpG _ A.in1 (do checkBuiltinCall id args;again (.builtin id args)) _ _ s
 refine q0e (toG h) λ_ s₁ h₁=>q03 ⟨hq,q0k hdec ?_⟩
 show wpG _ _ (match entryFor table id with|some b=>b args|none=>unsupported ((withoutEnding? id "#data").getD id)) _ _ s₁
 rw[hb];exact h₁
variable{h:Heap}{g:Array GenState}{d:Drawn}{t:Nat}{os:OsState}{C:Addr}
theorem qhf{rest:List Value}{init:Value}(Y:Makes (model prog w) h C)(hi:Looks (model prog w) h (typeLookup (.ref C) "__init__") (some init))
  (hb:∀self,Looks (model prog w) h (bindSpecial init self) (init,[self])) (hne:(some init != some (Value.builtin "object.__init__"))=true)
  (hq:q0E (model prog w) (A.under (.builtin "type.__call__" ⟨.ref C::rest,[]⟩)) (.call init ⟨.ref (h.objs.size+1)::rest,[]⟩) (InitBack (h.objs.size+1) R) ⟨(h.push PySem.W.emptyDict).push (instObj C h.objs.size),g,d,t,os⟩) :
  q0E (model prog w) A (.call (.ref C) ⟨rest,[]⟩) R ⟨h,g,d,t,os⟩:=by
 have Y':=Y
 obtain⟨⟨oc,od,cd,sl,hC,e1,e2,e4⟩,made,base,self,top,call,typ⟩:=Y
 refine q0k rfl ?_
 show wpG _ _ (callAny (.ref C) _) _ _ _
 refine q01 (toG (wpAny_load hC ?_))
 show wpG _ _ (callAny.viaDunder (.ref C) _) _ _ _
 unfold callAny.viaDunder
 refine q01 (toG (call.at ?_))
 dsimp only
 rw[tc_bind]
 refine q01 (q03 (q01 (q03 ?_)))
 refine q03 (a:=Fin.again (.call (.builtin "type.__call__") ⟨.ref C::rest,[]⟩)) (And.intro rfl ?_)
 refine q0v (Code.quiet_builtin _ (by decide +kernel)) (show Builtin.Bytes.decodersThatHold.contains "type.__call__"=false by decide +kernel) entry_typeCall ?_
 with_reducible refine check_slot tc_kind tc_split typ (tc_args _ _ _) ?_
 unfold Builtin.«type.__call__»
 have hm:Looks (model prog w) h (mroOf (.ref C)) cd.mro:=((Looks.ld (part:=none) hC).andThen .now).andThen .now
 dsimp only
 refine q01 (toG (hm.at ?_))
 simp only[e4,Bool.false_eq_true,if_false]
 refine q01 (toG (made.at ?_))
 dsimp only
 refine q01 (q03 (q01 (q04 (toG (wpAny_call (new_K Y' hi (.inl hne) ?_))))))
 have k:∀b o,h.get? b=some o→((h.push PySem.W.emptyDict).push (instObj C h.objs.size)).get? b=some o:=λb o e=>Z5 _ (Z5 _ e)
 have hx:((h.push PySem.W.emptyDict).push (instObj C h.objs.size)).get? (h.objs.size+1)=some (instObj C h.objs.size):=by heap_get
 have t1:Looks (model prog w) ((h.push PySem.W.emptyDict).push (instObj C h.objs.size)) (typeOf (.ref (h.objs.size+1))) (.ref C):=(Looks.ld hx).andThen .now
 have s1:=self.keeps k
 have i1:=hi.keeps k
 have b1:=(hb (.ref (h.objs.size+1))).keeps k
 unfold isInstance callSpecial? specialOf
 dsimp only
 refine q01 (toG (Z0 (t1.at (s1.at ?_))))
 simp only[Bool.not_true,Bool.false_eq_true,if_false]
 refine q01 (q04 (q01 (toG (Z0 (t1.at (i1.at ?_))))))
 dsimp only
 refine q04 (q01 (toG (b1.at ?_)))
 dsimp only
 refine q01 (q0W (q0V hq λr s' z=>?_))
 rcases r with e|(v|_|_|_)<;>first|exact z|exact z.elim|skip
 refine X0x2 z ?_;clear z;intro o1 z;subst o1
 exact q03 (q03 z)
end
section
open PySem PySem.W PyProof.Rows
variable{B:Base}{W W':Wd}{fs:List Nat}{σ τ:S}{s s':Shared}
theorem Rel.loose(R:Rel B W fs σ s)(k1:∀u o,s.heap.get? u=some o→(u<B.h₀.objs.size∨(∃k p ob,σ.get k=some ob∧W.ρ[k]?=some p∧u∈p.all)∨∃g∈W.still,g.1=u)→s'.heap.get? u=some o)
  (k2:∀u o,s.heap.get? u=some o→∃o',s'.heap.get? u=some o'∧∀es n,o.data=.dict es n→o'.data=o.data) (hg:s'.gens=s.gens) (ho:s'.os=s.os):Rel B W fs σ s':=by
 have kold:∀b o,b<B.h₀.objs.size→s.heap.get? b=some o→s'.heap.get? b=some o:=λb o hb e=>k1 b o e (.inl hb)
 refine⟨R.len,R.lenv,R.bound,λk o p e1 e2=>(R.objs k o p e1 e2).mono (Wd.le.refl W) λu hu ob e=>k1 u ob e (.inr (.inl ⟨k,p,o,e1,e2,hu⟩)),R.sep,
  λp hp u hu=>(by(refine X0x2 (R.own p hp u hu) ?_;intro a o1;refine X1x1 o1 ?_;clear o1;intro o e);exact by(refine X1x2 (k2 u o e) ?_;intro o' e' _);exact⟨a,o',e'⟩),R.old.keepAt kold,
  R.lim.at λo e=>kold _ o (Za (by decide:cStatics<20) B.low) e,R.vars,hg.trans R.gens,ho.trans R.os,R.fids,λq hq=>?_,R.frn,R.fnd,
  λx hx=>⟨k1 _ _ (R.fz x hx).1 (.inr (.inr ⟨x,hx,rfl⟩)),(R.fz x hx).2⟩,R.epn,λq hq=>⟨(R.eps q hq).1,λe=>?_⟩⟩
 ·refine X2x3 (R.frs q hq) ?_;intro L f a o1 e;refine X3x3 o1 ?_;clear o1;intro o es ep b c d
  refine X1x2 (k2 L o b) ?_;intro o' b' c'
  exact⟨L,f,a,⟨o',es,ep,b',(c' es ep c).trans c,d⟩,e⟩
 ·refine X3x3 ((R.eps q hq).2 e) ?_;intro p o es a b c
  refine X1x2 (k2 _ o b) ?_;intro o' b' c'
  exact⟨p,o',es,a,b',(c' es _ c).trans c⟩
theorem Rel.lost(R:Rel B W fs σ s){j:Nat}{p:Fp}{a:Addr}{oe oe':Obj}(hp:W.ρ[j]?=some p)(hn:σ.get j=none)(ha:a∈p.all)(hs:Heap.SameBut a s.heap s'.heap)(he:s.heap.get? a=some oe)(he':s'.heap.get? a=some oe')
  (hd:∀es n,oe.data=.dict es n→oe'.data=oe.data) (hg:s'.gens=s.gens) (ho:s'.os=s.os):Rel B W fs σ s':=by
 refine R.loose (λu o e h=>?_) (λu o e=>?_) hg ho
 ·have:u≠a:=λz=>by
   subst z
   focus (refine Z4 h ?_ ?_;rotate_left;clear h;intro o1;refine Z4 o1 (λo3=>X3x3 o3 λk q ob h1 h2 h3=>?_) λo2=>X1x2 o2 λg h1 h2=>?_;rotate_right;clear h;intro h)
   ·exact absurd h (Nat.not_lt.mpr (R.own' hp u ha).1)
   ·have hjk:j≠k:=λz=>by rw[z,h1] at hn;exact zS hn
    exact R.sep j k p q hp h2 hjk u ha h3
   ·exact(R.fz g h1).2.2 p (Zd hp) (h2▸ha)
  exact(hs.2 u this).trans e
 ·by_cases z:u=a
  ·subst z;rw[he] at e;(refine zI e ?_;clear e;rintro rfl);exact⟨oe',he',hd⟩
  ·exact⟨o,(hs.2 u z).trans e,λ_ _ _=>rfl⟩
theorem Rel.slots(R:Rel B W fs σ s){l:List Addr}(hs:Heap.SlotsOnly l s.heap s'.heap)(hl:∀a∈l,∃i∈fs,W.ρ[i]?=some ⟨a,[]⟩)(hg:s'.gens=s.gens)(ho:s'.os=s.os):Rel B W fs σ s':=by
 refine R.loose (λu o e h=>?_) (λu o e=>?_) hg ho
 ·have:u∉l:=λz=>by
   refine X1x2 (hl u z) ?_;intro i hi hr
   have hu:u∈(⟨u,[]⟩:Fp).all:=.head _
   focus (refine Z4 h ?_ ?_;rotate_left;clear h;intro o1;refine Z4 o1 (λo3=>X3x3 o3 λk q ob h1 h2 h3=>?_) λo2=>X1x2 o2 λg h1 h2=>?_;rotate_right;clear h;intro h)
   ·exact absurd h (Nat.not_lt.mpr (R.own' hr u hu).1)
   ·have hjk:i≠k:=λz=>by rw[←z,R.frn i hi] at h1;exact zN h1
    exact R.sep i k _ q hr h2 hjk u hu h3
   ·exact(R.fz g h1).2.2 _ (Zd hr) (h2▸hu)
  exact(hs.2.1 u this).trans e
 ·refine X1x1 (hs.2.2 u o e) ?_;intro sl e'
  exact⟨_,e',λ_ _ _=>rfl⟩
inductive FlyAt(B:Base)(W:Wd)(h:Heap)(e C:Addr)(fl:Value):Prop
 |mk (o:_) (vs:_) (t:_) (T:_) (oT:_) (ts:_) (h0_:h.get? e=some o) (h1_:o.cls=.ref C) (h2_:o.data=.fields vs) (h3_:vs[0]?=some t) (h4_:vs[1]?=some (.ref T)) (h5_:T≠e) (h6_:B.h₀.objs.size≤T) (h7_:(∀p:Fp,p∈W.ρ→T∉p.all)) (h8_:(∀g∈W.still,g.1≠T)) (h9_:h.get? T=some oT) (h10_:oT.data=.fields ts) (h11_:ts[3]?=some fl):FlyAt B W h e C fl
theorem FlyAt.kE18{B:Base}{W:Wd}{h:Heap}{e C:Addr}{fl:Value}{X_:Prop}(h_:FlyAt B W h e C fl)(k_:∀(o:_)(vs:_)(t:_)(T:_)(oT:_)(ts:_)(h0_:h.get? e=some o)(h1_:o.cls=.ref C)(h2_:o.data=.fields vs) (h3_:vs[0]?=some t) (h4_:vs[1]?=some (.ref T)) (h5_:T≠e) (h6_:B.h₀.objs.size≤T) (h7_:(∀p:Fp,p∈W.ρ→T∉p.all)) (h8_:(∀g∈W.still,g.1≠T)) (h9_:h.get? T=some oT) (h10_:oT.data=.fields ts) (h11_:ts[3]?=some fl),X_):X_:=FlyAt.rec (motive:=λ_=>X_) k_ h_
theorem FlyAt.fly{h:Heap}{e C fa:Addr}{fl:Value}(x:FlyAt B W h e C fl)(hf:fl=.none∨fl=rawInt fa):Fly B W h e fa C:=by
 refine x.kE18 ?_;clear x;intro o vs t T oT ts a b c d e1 e2 e3 e4 e5 e6 e7 e8
 refine⟨o,vs,t,a,b,c,d,.inr ⟨T,oT,ts,e1,e2,e3,e4,e5,e6,e7,?_⟩⟩
 focus (refine Z4 hf ?_ ?_;rotate_left;clear hf;rintro rfl;rotate_right;clear hf;rintro rfl)
 ·exact .inl e8
 ·exact .inr e8
end
section
open PySem PySem.W PyProof.Rows
variable{B:Base}{W W':Wd}{fs:List Nat}{σ τ:S}{s s':Shared}{sc:Scope}{n:Nat}{c:Cx}{X:Fx}
theorem AOk.funs(O:AOk B n W fs X.A)(R:Rel B W fs σ s){FE:List Env}(h:X.A.frames=some FE):s.heap.FunFrames ({}:Heap) FE∧∀a∈FE.filterMap (·.frame),∃i∈fs,W.ρ[i]?=some ⟨a,[]⟩:=by
 refine X1x2 O.frames ?_;intro FE' h1 h2
 rw[h] at h1;(refine zI h1 ?_;clear h1;rintro rfl)
 clear h
 induction FE with
 |nil=>exact⟨trivial,λa ha=>by simp at ha⟩
 |cons e r ih=>
  refine X0x2 (h2 e (.head _)) ?_;intro k o1;refine X1x1 o1 ?_;clear o1;intro i o2;refine X0x2 o2 ?_;clear o2;intro hi o3;refine X1x2 o3 ?_;clear o3;intro f hr hf
  refine X0x2 (ih λe he=>h2 e (.tail _ he)) ?_;intro x y
  have:∃q∈σ.frs,q.1=i:=by
   rw[←R.fids] at hi
   refine X1x2 (List.mem_map.mp hi) ?_;intro q hq e
   exact⟨q,hq,e⟩
  refine X1x2 this ?_;clear this;intro q hq o1;subst o1
  refine X2x3 (R.frs q hq) ?_;intro L g z1 o1 _;refine X3x3 o1 ?_;clear o1;intro o es ep z2 z3 _
  rw[hr] at z1;cases z1
  refine⟨⟨k,⟨f,o,hf,rfl,z2,λvs q=>by rw[z3] at q;cases q⟩,x⟩,λa ha=>?_⟩
  rw[List.filterMap_cons,hf] at ha
  refine Z4 (List.mem_cons.mp ha) ?_ (λha=>?_);rintro rfl
  ·exact⟨q.1,hi,hr⟩
  ·exact y a ha
theorem q4Z{e:Value}{x y:Env}(h:x.frame=y.frame):noteFrame e x=noteFrame e y:=by
 unfold noteFrame PySem.frameOf
 rw[h]
theorem Rel.fresh(R:Rel B W fs σ s){a:Addr}(h:s.heap.objs.size≤a):(∀p:Fp,p∈W.ρ→a∉p.all)∧∀g∈W.still,g.1≠a:=
 ⟨λp hp hm=>by(refine X0x2 (R.own p hp a hm) ?_;intro _ o1;refine X1x1 o1 ?_;clear o1;intro o e);exact absurd (Z7 e) (Nat.not_lt.mpr h),λg hg e=>by have:=Z7 (R.fz g hg).1;rw[e] at this;exact absurd this (Nat.not_lt.mpr h)⟩
theorem q7B(O:AOk B n W fs X.A)(R:Rel B W fs σ s){e₀:Env}{FE:List Env}(h1:X.A.frames=some (e₀::FE))(h2:e₀.frame=some X.fa){j:Nat}{p:Fp}(hp:W.ρ[j]?=some p)(hj:σ.get j=none)(hjf:j∉fs){E:Value→Shared→Prop}
  {oe:Obj} {vs:Array Value} {t head:Value} {C:Addr} {hadNext:Bool} (he:s.heap.get? p.a=some oe) (hc:oe.cls=.ref C) (hd:oe.data=.fields vs) (h0:vs[0]?=some t) (hsz:1<vs.size) :
  wpAny (model B.prog B.w) X.A (do let a ←PySem.frameOf e₀;let pl ←entryPlaceOf X.fa hadNext;let b ←EntryCells.newEntry head a .none (rawInt X.fa) .none pl;setField (.ref p.a) 1 b) (λ_ s'=>Rel B W fs σ s'∧FlyAt B W s'.heap p.a C (rawInt X.fa)) E s:=by
 refine X0x2 (O.funs R h1) ?_;intro hF hL
 refine Z0 (wpAny_frameOf_fun h1 hF h2 λh₁ hs₁=>?_)
 have R₁:Rel B W fs σ {s with heap:=h₁}:=R.slots (s':={s with heap:=h₁}) hs₁ hL rfl rfl
 have hene:p.a∉(e₀::FE).filterMap (·.frame):=λhm=>by
  refine X1x2 (hL _ hm) ?_;intro i hi hr
  have hij:i≠j:=λz=>hjf (z▸hi)
  exact R.sep i j _ p hr hp hij p.a (.head _) (.head _)
 have he₁:h₁.get? p.a=some oe:=(hs₁.2.1 _ hene).trans he
 refine Z0 (wpAny_entryPlaceOf λpl hpl=>?_)
 unfold EntryCells.newEntry newFields
 refine Z0 (wpAny_newObj_type ?_ (hpl.sizeOk5 _ _ _ _ _))
 have he₂:=Z5 (h:=h₁) {cls:=.type "traceback",dict:=none,data:=.fields ([head,.ref X.fa,.none,rawInt X.fa,.none]++(if pl.isEmpty then List.replicate 6 Value.none else pl)).toArray} he₁
 refine wpAny_setField he₂ hd hsz ?_
 have hTe:h₁.objs.size≠p.a:=Nat.ne_of_gt (Z7 he₁)
 have hd₃:=Obj.data_mapFields hd (·.setIfInBounds 1 (Value.ref h₁.objs.size))
 have he₃:=Zc (Obj.mapFields (·.setIfInBounds 1 (Value.ref h₁.objs.size))) he₂ (Obj.isFreed_of_fields hd₃)
 have hT₃:=(Heap.get?_update_other (h₁.push {cls:=.type "traceback",dict:=none,data:=.fields ([head,.ref X.fa,.none,rawInt X.fa,.none]++(if pl.isEmpty then List.replicate 6 Value.none else pl)).toArray})
  (Obj.mapFields (·.setIfInBounds 1 (Value.ref h₁.objs.size))) (Ne.symm hTe)).trans (Zb h₁ rfl)
 have R₂:=R₁.pushAny {cls:=.type "traceback",dict:=none,data:=.fields ([head,.ref X.fa,.none,rawInt X.fa,.none]++(if pl.isEmpty then List.replicate 6 Value.none else pl)).toArray}
 have hfr:=R₁.fresh (a:=h₁.objs.size) (Nat.le_refl _)
 refine⟨R₂.lost hp hj (.head _) (Heap.SameBut.update _ _ _) he₂ he₃ (λes m z=>by rw[hd] at z;cases z) rfl rfl,?_⟩
 exact⟨_,_,t,h₁.objs.size,_,_,he₃,(Obj.cls_mapFields _ _).trans hc,hd₃,by rw[Array.getElem?_setIfInBounds_ne (by decide)];exact h0,by simp[hsz],hTe,R₁.le,hfr.1,hfr.2,hT₃,rfl,by
  first|(simp;done)|(rcases hpl with rfl|⟨_,_,_,_,_,_,_,rfl⟩<;>simp)⟩
theorem Rel.trace(R:Rel B W fs σ s){T:Addr}(h1:B.h₀.objs.size≤T)(h2:∀p:Fp,p∈W.ρ→T∉p.all)(h3:∀g∈W.still,g.1≠T)(f:Obj→Obj):Rel B W fs σ {s with heap:=s.heap.update T f}:=
 R.ext (s':={s with heap:=s.heap.update T f}) (Heap.SameBut.update _ _ _).extBut h1 h2 h3 rfl rfl
theorem q4Y(O:AOk B n W fs X.A)(R:Rel B W fs σ s)(ht:∃e FE,X.A.frames=some (e::FE)∧e.frame=some X.fa)(hf:X.env.frame=some X.fa){j:Nat}{p:Fp}(hp:W.ρ[j]?=some p)(hj:σ.get j=none)(hjf:j∉fs){E:Value→Shared→Prop}{C:Addr}
  (h:Fly B W s.heap p.a X.fa C):wpAny (model B.prog B.w) X.A (noteFrame (.ref p.a) X.env) (λ_ s'=>Rel B W fs σ s'∧FlyAt B W s'.heap p.a C (rawInt X.fa)) E s:=by
 refine X2x2 ht ?_;clear ht;intro e₀ FE h1 h2
 rw[q4Z (hf.trans h2.symm)]
 refine h.kE8 ?_;clear h;intro oe vs t he hc hd h0 hh
 unfold noteFrame
 simp only[h2]
 refine Z4 hh (λh3=>?_) λo1=>X3x8 o1 λT oT ts h3 hTe hT0 hTr hTs hT hdT h4=>?_
 ·refine Z0 (wpAny_field he hd h3 ?_)
  rw[if_neg (by decide)]
  exact q7B O R h1 h2 hp hj hjf he hc hd h0 (Array.getElem?_eq_some_iff.mp h3).1
 ·refine Z0 (wpAny_field he hd h3 ?_)
  rw[if_pos (show (Value.ref T != Value.none)=true from by simp)]
  refine Z4 h4 (λh4=>?_) λh4=>?_
  ·refine Z0 (wpAny_field hT hdT h4 ?_)
   rw[if_neg (show ¬((Value.none==rawInt X.fa)=true) from by simp[rawInt])]
   refine Z0 (wpAny_setField hT hdT (Array.getElem?_eq_some_iff.mp h4).1 ?_)
   have R':=R.trace hT0 hTr hTs (Obj.mapFields (·.setIfInBounds 3 Value.none))
   exact q7B O R' h1 h2 hp hj hjf ((Heap.get?_update_other _ _ hTe).trans he) hc hd h0 (Array.getElem?_eq_some_iff.mp h3).1
  ·refine Z0 (wpAny_field hT hdT h4 ?_)
   rw[if_pos (show (rawInt X.fa==rawInt X.fa)=true from by simp)]
   exact Z3 ⟨R,oe,vs,t,T,oT,ts,he,hc,hd,h0,h3,hTe,hT0,hTr,hTs,hT,hdT,h4⟩
theorem q1V(R:Rel B W fs σ s){M:Model}{A:Around}{E:Value→Shared→Prop}{e C:Addr}{fl:Value}{f:Option Addr}(h:FlyAt B W s.heap e C fl) :
  wpAny M A (setFlight (.ref e) f) (λ_ s'=>Rel B W fs σ s'∧FlyAt B W s'.heap e C (f.elim .none λa=>rawInt a)) E s:=by
 refine h.kE18 ?_;clear h;intro oe vs t T oT ts he hc hd h0 h3 hTe hT0 hTr hTs hT hdT h4
 unfold setFlight
 refine Z0 (wpAny_field he hd h3 ?_)
 rw[if_pos (show (Value.ref T != Value.none)=true from by simp)]
 have hsz:=(Array.getElem?_eq_some_iff.mp h4).1
 refine wpAny_setField hT hdT hsz ⟨R.trace hT0 hTr hTs _,oe,vs,t,T,_,_,(Heap.get?_update_other _ _ hTe).trans he,hc,hd,h0,h3,hTe,hT0,hTr,hTs,Zc _ hT (Obj.isFreed_of_fields (Obj.data_mapFields hdT _)),Obj.data_mapFields hdT _,by simp[hsz]⟩
theorem q4X:q5h B:=λn sc W fs c X kx e s O oY6x0=>by
 refine oY6x0.kE13 ?_;clear oY6x0;intro W' σ j p C l R hp hj hjf hev hfl hk
 subst hev
 refine wpAny_mono (q4Y (O.mono l).around R O.top O.frame hp hj hjf hfl) (λ_ s₁ oY5x0=>?_) λ_ _ z=>z
 refine X0x2 oY5x0 ?_;clear oY5x0;intro R₁ h₁
 show wpAny _ _ (do
  if (←field (.ref p.a) 1)==.none then unsupported "frame.own-activation:exception-without-traceback"
  setFlight (.ref p.a) X.env.frame) _ _ _
 obtain⟨oe,vs,t,T,oT,ts,he,hc,hd,h0,h3,hr⟩:=id h₁
 refine Z0 (wpAny_field he hd h3 ?_)
 rw[if_neg (by simp)]
 rw[O.frame]
 exact wpAny_mono (q1V R₁ h₁) (λ_ s₂ oY4x0=>by(refine X0x2 oY4x0 ?_;clear oY4x0;intro R₂ h₂);exact⟨W',σ,j,p,C,l,R₂,hp,hj,hjf,rfl,h₂.fly (.inr rfl),hk⟩) λ_ _ z=>z
theorem qbq:q2n B:=λn sc W W₀ fr fs c X kx fa e s l₀ O hloc oY3x0=>by
 refine oY3x0.kE13 ?_;clear oY3x0;intro W' σ j p C l R hp hj hjf he hfl hk
 subst he
 unfold leaving
 refine Z0 (wpAny_mono (q4Y (O.mono l).around R O.top O.frame hp hj hjf hfl) (λ_ s₁ oY2x0=>?_) λ_ _ z=>z)
 refine X0x2 oY2x0 ?_;clear oY2x0;intro R₁ h₁
 refine wpAny_mono (q1V R₁ h₁) (λ_ s₂ oY1x0=>?_) λ_ _ z=>z
 refine X0x2 oY1x0 ?_;clear oY1x0;intro R₂ h₂
 refine X3x3 (S.popK_true hk) ?_;intro q r τ e Z h₃
 exact⟨W',τ,j,p,C,l₀.trans l,R₂.pop e Z,hp,by rw[Z.get];exact hj,λh=>hjf (.tail _ h),rfl,h₂.fly (.inl rfl),h₃⟩
end
section
open PySem PySem.W PyProof.Rows
theorem q0H{T:String}{l:List Value}(h:q11 l=true):l.contains (.type T)=[Value.type "Exception",.type "BaseException",.type "object"].contains (.type T):=
 q3Q (P:=λl=>l.contains (.type T)=[Value.type "Exception",.type "BaseException",.type "object"].contains (.type T)) rfl (λa r h=>by rw[List.contains_cons,h];rfl) h
section
variable{M:Model}{A:Around}{E:Value→Shared→Prop}{h:Heap}{g:Array GenState}{d:Drawn}{t:Nat}{os:OsState}
variable{nm q:Str}{C N:Addr}{bs bm:List Value}{hdct:Bool}{sn:List Str}{sub:List Value}{ab:Bool}{col:Option Bool}{dd:Option Addr}{k0 k1 k2 k3 k5:Option Value}
theorem q9Z{rest:List Value}{Q:Unit→Shared→Prop}(hC:h.get? C=some (excClassObj nm q C N bs bm hdct sn sub ab col dd k0 k1 k2 k3 k5 "Exception.__new__"))(T:q11 bm=true)(hq:Q () ⟨h,g,d,t,os⟩) :
  wpAny M A (checkBuiltinCall "Exception.__new__" ⟨.ref C::rest,[]⟩) Q E ⟨h,g,d,t,os⟩:=by
 have F:=PySem.F.excBase_Exception
 have hcont:(Value.ref C::bm).contains (.type "Exception")=true:=by rw[List.contains_cons,q0H T];rfl
 have hstar:=F.noStar
 simp only[checkBuiltinCall,F.newKind,F.newSplit,F.newRow]
 repeat (first|refine wpAny_loadPart_at hC ?_|(refine wpAny_isSubtype_exc hC ?_;rw[hcont])|refine wpAny_staticBase_exc hC ?_|refine wpAny_madeBy_exc hC ?_|simp only[bne_self_eq_false,Bool.false_eq_true,if_false]|wp_step)
 exact hq
end
section
variable{prog:Program}{w:World}{A:Around}{R:Result→Shared→Prop}{h:Heap}{g:Array GenState}{d:Drawn}{t:Nat}{os:OsState}
variable{nm q:Str}{C N:Addr}{bs bm:List Value}{hdct:Bool}{sn:List Str}{sub:List Value}{ab:Bool}{col:Option Bool}{dd:Option Addr}{k0 k1 k2 k3 k5:Option Value}
noncomputable abbrev q1f(C t:Addr):Obj:={cls:=.ref C,data:=.fields #[.ref t,.none,.none,.none,.bool false,.none]}
noncomputable abbrev q1C(vs:List Value):Obj:={cls:=.type "tuple",data:=.seq vs.toArray}
theorem qe4{rest:List Value}(hC:h.get? C=some (excClassObj nm q C N bs bm hdct sn sub ab col dd k0 k1 k2 k3 k5 "Exception.__new__"))(T:q11 bm=true)
  (hq:R (.ok (.ret (.ref (h.objs.size+1)))) ⟨(h.push (q1C rest)).push (q1f C h.objs.size),g,d,t,os⟩) (hrest:rest.length≤sizeLine) :
  codeAny (model prog w) A (.builtin "Exception.__new__" ⟨.ref C::rest,[]⟩) R ⟨h,g,d,t,os⟩:=by
 have F:=PySem.F.excBase_Exception
 have hends:=F.ends
 have hcB:(Value.ref C::bm).contains (.type "Exception")=true:=by rw[List.contains_cons,q0H T];rfl
 have hcA:(Value.ref C::bm).contains (.type "AttributeError")=false:=by rw[List.contains_cons,q0H T];rfl
 have hcN:(Value.ref C::bm).contains (.type "NameError")=false:=by rw[List.contains_cons,q0H T];rfl
 refine codeAny_builtinAt F.entry ?_
 unfold Builtin.«BaseException.__new__»
 refine PySem.wpAt_bind ?_
 show PySem.wpAt _ _ _ (stack>>=_) _ _ _
 refine PySem.wpAt_bind (PySem.wpAt_stack λp below=>PySem.wpAt_of_wpAny ?_)
 wp_walk
 refine PySem.wpAt_of_wpAny ?_
 rw[F.owner]
 repeat (first|with_reducible refine wpAny_madeHere_exc F.canon hC ?_|with_reducible refine wpAny_loadPart_at hC ?_|(with_reducible refine wpAny_isSubtype_exc hC ?_;first|rw[hcB]|rw[hcA]|rw[hcN])|wp_step)
 show R _ _
 rw[Heap.size_push]
 exact hq
end
section
variable{prog:Program}{w:World}{A:Around}{K:Frag}{C:Addr}{c:Cls}{R:Result→Shared→Prop}{h:Heap}{g:Array GenState}{d:Drawn}{t:Nat}{os:OsState}
theorem excG{rest:List Value}(X:K.In h)(Y:ExcF K C c)(hrest:rest.length≤sizeLine)
  (hq:q0E (model prog w) (A.under (.builtin "type.__call__" ⟨.ref C::rest,[]⟩)) (.call (.ref c.init) ⟨.ref (h.objs.size+1)::rest,[]⟩) (InitBack (h.objs.size+1) R) ⟨(h.push (q1C rest)).push (q1f C h.objs.size),g,d,t,os⟩) :
  q0E (model prog w) A (.call (.ref C) ⟨rest,[]⟩) R ⟨h,g,d,t,os⟩:=by
 refine Y.obj.kE18 ?_;intro nm q N bs bm sn sub ab col dd k0 k1 k2 k3 k5 hK o1 hT;subst o1
 have hC:=X _ _ hK
 have call:Looks (model prog w) h (specialOf (.ref C) "__call__") (some (.builtin "type.__call__")):=looks_specialIn X Y.call
 have typ:Looks (model prog w) h (isInstance (.ref C) (.type "type")) true:=(Looks.ld (part:=some headPart) hC).andThen (Looks.of_pure tc_sub)
 refine q0k rfl ?_
 show wpG _ _ (callAny (.ref C) _) _ _ _
 refine q01 (toG (wpAny_load hC ?_))
 show wpG _ _ (callAny.viaDunder (.ref C) _) _ _ _
 unfold callAny.viaDunder
 refine q01 (toG (call.at ?_))
 dsimp only
 rw[tc_bind]
 refine q01 (q03 (q01 (q03 ?_)))
 refine q03 (a:=Fin.again (.call (.builtin "type.__call__") ⟨.ref C::rest,[]⟩)) (And.intro rfl ?_)
 refine q0v (Code.quiet_builtin _ (by decide +kernel)) (show Builtin.Bytes.decodersThatHold.contains "type.__call__"=false by decide +kernel) entry_typeCall (check_slot tc_kind tc_split typ (tc_args _ _ _) ?_)
 unfold Builtin.«type.__call__»
 have hm:Looks (model prog w) h (mroOf (.ref C)) (.ref C::bm):=((Looks.ld (part:=none) hC).andThen .now).andThen .now
 dsimp only
 refine q01 (toG (hm.at ?_))
 simp only[List.isEmpty_cons,Bool.false_eq_true,if_false]
 refine q01 (toG (wpAny_madeBy_exc hC ?_))
 dsimp only
 refine q01 (q03 (q01 (q04 (toG (wpAny_call (codeAny_call_builtin_code (Code.quiet_builtin _ PySem.F.excBase_Exception.quiet) (q9Z hC hT (qe4 hC hT ?_ hrest))))))))
 have k:∀b o,h.get? b=some o→((h.push (q1C rest)).push (q1f C h.objs.size)).get? b=some o:=λb o e=>Z5 _ (Z5 _ e)
 have X':K.In ((h.push (q1C rest)).push (q1f C h.objs.size)):=λa o e=>k _ _ (X a o e)
 have hx:((h.push (q1C rest)).push (q1f C h.objs.size)).get? (h.objs.size+1)=some (q1f C h.objs.size):=by heap_get
 have t1:Looks (model prog w) ((h.push (q1C rest)).push (q1f C h.objs.size)) (typeOf (.ref (h.objs.size+1))) (.ref C):=(Looks.ld hx).andThen .now
 have s1:Looks (model prog w) ((h.push (q1C rest)).push (q1f C h.objs.size)) (isSubtype (.ref C) (.ref C)) true:=looks_mroIn X' (by
  unfold mroIn clsIn
  rw[hK]
  show (if (Value.ref C::bm).isEmpty=true then none else some ((Value.ref C::bm).contains (.ref C)))=some true
  rw[if_neg (by simp)];simp)
 have i1:Looks (model prog w) ((h.push (q1C rest)).push (q1f C h.objs.size)) (typeLookup (.ref C) "__init__") (some (.ref c.init)):=looks_findIn X' Y.init
 have b1:Looks (model prog w) ((h.push (q1C rest)).push (q1f C h.objs.size)) (bindSpecial (.ref c.init) (.ref (h.objs.size+1))) (.ref c.init,[.ref (h.objs.size+1)]):=bind_fn X' _ (by
  have:=Y.initFn
  unfold isFn at this
  simpa using this)
 unfold isInstance callSpecial? specialOf
 dsimp only
 refine q01 (toG (Z0 (t1.at (s1.at ?_))))
 simp only[Bool.not_true,Bool.false_eq_true,if_false]
 refine q01 (q04 (q01 (toG (Z0 (t1.at (i1.at ?_))))))
 dsimp only
 refine q04 (q01 (toG (b1.at ?_)))
 dsimp only
 refine q01 (q0W (q0V hq λr s' z=>?_))
 rcases r with e|(v|_|_|_)<;>first|exact z|exact z.elim|skip
 refine X0x2 z ?_;clear z;intro o1 z;subst o1
 exact q03 (q03 z)
end
end
section
open PySem PySem.W PyProof.Rows
variable{B:Base}{W W':Wd}{fs:List Nat}{σ τ:S}{s s':Shared}{sc:Scope}
theorem Rel.del(R:Rel B W fs σ s){k:Nat}(D:Del σ k τ):Rel B W fs τ s:=
 ⟨by rw[D.n];exact R.len,by rw[D.nv];exact R.lenv,λj o e=>by rw[D.n];exact R.bound j o (D.get j o e).2,λj o p e=>R.objs j o p (D.get j o e).2,R.sep,R.own,R.old,R.lim,R.vars,R.gens,R.os,by rw[D.frs];exact R.fids,
  λq hq=>R.frs q (by rw[←D.frs];exact hq),λq hq=>(by
   cases e:τ.get q with
   |none=>rfl
   |some o=>(have:=(D.get q o e).2;rw[R.frn q hq] at this;exact zN this)),R.fnd,R.fz,λq hq=>by rw[D.n];exact R.epn q hq,by rw[D.kc];exact R.eps⟩
theorem Del.gone{k:Nat}(D:Del σ k τ):τ.get k=none:=by
 cases e:τ.get k with
 |none=>rfl
 |some o=>exact absurd rfl (D.get k o e).1
theorem q9m(R:Rel B W fs σ s){j:Nat}{o:SO}(h:σ.get j=some o):j∉fs:=λhf=>by rw[R.frn j hf] at h;exact zN h
theorem q24{α:Type}{l:List α}{n:Nat}(h:l.length=n+1):∃x r,l=x::r∧r.length=n:=by
 cases l with
 |nil=>exact nomatch h
 |cons x r=>exact⟨x,r,rfl,Nat.succ.inj h⟩
theorem arr6{vs:Array Value}{a:Value}(hz:vs.size=6)(h0:vs[0]?=some a)(h1:vs[1]?=some .none):∃b c d e,vs=#[a,.none,b,c,d,e]:=by
 obtain⟨l⟩:=vs
 have hz:l.length=6:=hz
 have h0:l[0]?=some a:=by simpa using h0
 have h1:l[1]?=some .none:=by simpa using h1
 refine X2x2 (q24 hz) ?_;intro x l1 e1 z1
 refine X2x2 (q24 z1) ?_;intro y l2 e2 z2
 refine X2x2 (q24 z2) ?_;intro b l3 e3 z3
 refine X2x2 (q24 z3) ?_;intro c l4 e4 z4
 refine X2x2 (q24 z4) ?_;intro d l5 e5 z5
 refine X2x2 (q24 z5) ?_;intro e l6 e6 z6
 have z6:=List.length_eq_zero_iff.mp z6
 subst z6 e6 e5 e4 e3 e2 e1
 refine zI h0 ?_;clear h0;rintro rfl
 refine zI h1 ?_;clear h1;rintro rfl
 exact⟨b,c,d,e,rfl⟩
theorem qf4{x:XC}{e:Expr}{pos:Pos}(hx:SX B sc x e):SS B sc (sRai x) (.Raise (some e) none pos):=λn W fs c X σ s kr kn O R h=>by
 rw[arm_exec_Raise]
 show wpG _ _ (do standAt pos;raiseStmt X.env (some (do let v ←eval e X.env;standAt pos;pure v)) none) _ _ s
 refine q01 (q07 ?_)
 unfold raiseStmt
 dsimp only
 refine q01 (q01 (q0D (hx n W fs c X σ s _ O R h) λv W₁ σ₁ s₁ l₁ R₁ oP=>q01 (q07 (q03 ?_))))
 refine oP.kE3 ?_;clear oP;intro y hy h₁
 refine q00 h₁ ?_;intro j h2 h3
 refine q00 h3 ?_;intro C h4 h5
 refine q02 h4 ?_;intro o h6 h7
 refine X1x1 (q5S h7) ?_;intro d o1;subst o1
 refine X1x2 (S.delK_true h5) ?_;intro τ D h8
 rw[q0L h2] at hy
 refine X1x2 hy ?_;clear hy;intro p hp o1;subst o1
 refine X4x6 (R₁.objs _ _ _ h6 hp) ?_;intro t vs sl dct o1 he hz hv0 hv1 _;refine X1x2 o1 ?_;clear o1;intro cc hcl hex
 refine ((B.exc C cc hcl hex).obj).kE18 ?_;intro nm' q' N bs bm sn sub ab col dd k0 k1 k2 k3 k5 hK hab hT
 have hC:=R₁.kin _ _ hK
 have hA:=O.around.handled
 have fin:QE B W fs X.fa c.kx (.ref p.a) s₁:=⟨W₁,τ,j,p,C,l₁,R₁.del D,hp,D.gone,q9m R₁ h6,rfl,⟨_,vs,_,he,rfl,rfl,hv0,.inl hv1⟩,by rw[Cx.x_eq] at h8;exact h8⟩
 refine X4x1 (arr6 hz hv0 hv1) ?_;intro a2 a3 a4 a5 o1;subst o1
 have hcB:(Value.ref C::bm).contains (.type "BaseException")=true:=by rw[List.contains_cons,q0H hT];rfl
 refine toG ?_
 obtain⟨hp',g,d',tk,os⟩:=s₁
 repeat (first|with_reducible refine wpAny_loadPart_at he ?_|with_reducible refine wpAny_loadPart_at hC ?_|(with_reducible refine wpAny_isSubtype_exc hC ?_;rw[hcB])|wp_step)
 exact wpAny_raiseNew_none hA fin
theorem q47{A:Around}{env:Env}{E:Value→Shared→Prop}{body orelse:List Stmt}{h₀:ExceptHandler}{hs:List ExceptHandler}{pos:Pos}{Q:Flow→Shared→Prop}
  (h:wpG (model B.prog B.w) A (execs body env) (λf s₁=>match f with|.next=>wpG (model B.prog B.w) A (execs orelse env) Q E s₁|f=>Q f s₁)
   (λe s₁=>wpAny (model B.prog B.w) A (noteFrame e env) (λ_ s₂=>wpAny (model B.prog B.w) A (setFlight e none) (λ_ s₃=>wpAny (model B.prog B.w) A (handleBy e env (h₀::hs)) Q E s₃) E s₂) E s₁) s) :
  wpG (model B.prog B.w) A (exec (.Try body (h₀::hs) orelse [] pos) env) Q E s:=by
 rw[arm_exec_Try]
 refine q01 (q07 ?_)
 unfold tryStmt
 refine q6d rfl (q01 (q3n (q05 h (λf s₁ h₁=>?_) λe s₁ h₁=>?_)))
 ·cases f with
  |next=>exact h₁
  |_=>exact q03 h₁
 ·refine q01 (toG (wpAny_mono h₁ (λ_ s₂ h₂=>?_) λ_ _ x=>x))
  refine q1G rfl ?_
  refine q01 (toG (wpAny_mono h₂ (λ_ s₃ h₃=>?_) λ_ _ x=>x))
  refine q1G rfl (q1G rfl (toG h₃))
theorem qf2{b:SC}{C:Addr}{l:List Nat}{i:Nat}{x z:Str}{body:List Stmt}{np p1 p2 p3 pos:Pos}{kk:Nat}(hb:SSs B sc b body)(hk:sc.names.lookup x=some .globalImplicit)(hy:alook glo i=some (.old C))(hx:nm i=x)
  (hc:∃c,tb.cl C=some c∧c.isExc=true) (hz:z=⟨l.toArray⟩) (hlen:l.length≤4096) (hd:(x==("__debug__":Str))=false) :
  SS B sc (sTri b C (.str l)) (.Try body [.ExceptHandler (some (.Name x np)) none [.Return (some (.Constant (.str z) kk p1)) p2] p3] [] [] pos):=λn W fs c X σ s kr kn O R h=>by
 have O':Ok B n sc W fs ⟨c.call,c.cells,λD σ=>bi (Nat.beq C D) (kr (.str l) σ) false⟩ X:=⟨O.esc,O.kind,O.glo,O.bui,O.frame,O.loc,O.fao,O.around,O.top,O.cells,O.cod,O.call⟩
 have h:b ⟨c.call,c.cells,λD σ=>bi (Nat.beq C D) (kr (.str l) σ) false⟩ σ kr kn=true:=h
 refine q47 (q05 (hb n W fs _ X σ s kr kn O' R h) (λf s₁ oP=>?_) λe s₁ oQ=>?_)
 ·refine oP.kE5 ?_;clear oP;intro W₁ σ₁ l₁ R₁ h₁
  cases f with
  |next=>exact q0p ⟨W₁,σ₁,l₁,R₁,h₁⟩
  |ret v=>exact⟨W₁,σ₁,l₁,R₁,h₁⟩
  |_=>cases h₁
 ·refine oQ.kE13 ?_;clear oQ;intro W₁ σ₁ j p D l₁ R₁ hp hj hjf he hfl hkx
  subst he
  refine q06 (show bi (Nat.beq C D) (kr (.str l) σ₁) false=true from hkx) ?_;intro hCD hkr
  have hCD:=Z9 hCD
  subst hCD
  refine wpAny_mono (q4Y (O.mono l₁).around R₁ O.top O.frame hp hj hjf hfl) (λ_ s₂ oY3x0=>?_) λ_ _ z=>z
  refine X0x2 oY3x0 ?_;clear oY3x0;intro R₂ h₂
  refine wpAny_mono (q1V R₂ h₂) (λ_ s₃ oY2x0=>?_) λ_ _ z=>z
  refine X0x2 oY2x0 ?_;clear oY2x0;intro R₃ h₃
  refine X1x2 hc ?_;clear hc;intro cc hcl hex
  refine ((B.exc C cc hcl hex).obj).kE18 ?_;intro nm' q' N bs bm sn sub ab col dd k0 k1 k2 k3 k5 hK hab hT
  refine X1x2 (B.ld i _ hy) ?_;intro v hv hl
  have hv:v=.ref C:=hv W
  subst hv hx
  refine wpAny_handleBy_cons (codeAny_handlers_test ?_) (by intro q;cases q)
  refine Calls.Name_function_global (by rw[O.esc];exact O.kind) (by unfold Env.kindOf;rw[O.esc];exact hk) (hl _ _ _ X.env s₃ R₃.old.k O.glo O.bui ?_) hd
  have hC:=R₃.kin _ _ hK
  have h₃':=h₃
  obtain⟨oe,vs,t,T,oT,ts,f1,f2,f3,f4,f5,f6⟩:=h₃
  refine wpAny_excMatches_sub_self hC f1 f2 (by rw[q0H hT];rfl) (codeAny_handlers_suite ?_)
  refine wpAny_mono (q1V R₃ h₃') (λ_ s₄ oY1x0=>?_) λ_ _ z=>z
  refine X0x2 oY1x0 ?_;clear oY1x0;intro R₄ h₄
  refine wpAny_execs_cons (wpAny_Return_some (wpAny_Constant_str ?_))
  show PQ B W fs (QF kr kn) (.ret (.str z s₄.toks)) {s₄ with toks:=s₄.toks+1}
  exact⟨W₁,σ₁,l₁,R₄.toks,.str l,hz▸q3r hlen,hkr⟩
end
section
open PySem PySem.W PyProof.Rows
theorem qbD(K:Frag):findCls K (.type "Exception") (.type "type") "__init__"=some (.val (.builtin "Exception.__init__")):=by kernel_rfl
theorem qct(K:Frag):findIn K (.type "type") "__getattribute__"=some (some (.builtin "type.__getattribute__")):=type_tga
section
variable{M:Model}{A:Around}{E:Value→Shared→Prop}{h:Heap}{g:Array GenState}{d:Drawn}{t:Nat}{os:OsState}
variable{nm q:Str}{C N:Addr}{bs bm:List Value}{hdct:Bool}{sn:List Str}{sub:List Value}{ab:Bool}{col:Option Bool}{dd:Option Addr}{k0 k1 k2 k3 k5:Option Value}
theorem q9X{e:Addr}{oe:Obj}{rest:List Value}{Q:Unit→Shared→Prop}(hC:h.get? C=some (excClassObj nm q C N bs bm hdct sn sub ab col dd k0 k1 k2 k3 k5 "Exception.__new__"))(T:q11 bm=true)(he:h.get? e=some oe)(hcls:oe.cls=.ref C)
  (hq:Q () ⟨h,g,d,t,os⟩):wpAny M A (checkBuiltinCall "Exception.__init__" ⟨.ref e::rest,[]⟩) Q E ⟨h,g,d,t,os⟩:=by
 have F:=PySem.F.excBase_Exception
 have hcB:(Value.ref C::bm).contains (.type "Exception")=true:=by rw[List.contains_cons,q0H T];rfl
 have hshort:=F.noStar
 simp only[checkBuiltinCall,F.initKind,F.initSplit,F.initRow]
 repeat (first|(with_reducible refine wpAny_loadPart_at he ?_;rw[hcls])|with_reducible refine wpAny_loadPart_at hC ?_|(with_reducible refine wpAny_isSubtype_exc hC ?_;rw[hcB])|wp_step)
 refine wpAny_onRaise ?_
 rw[show ∀(a b:String)(n:Nat),Bind.check ⟨.positional,"*","Exception",.self,[⟨"args",.varPos,false⟩]⟩ a b n (List.map (λx=>x.fst) ({pos:=Value.ref e::rest}:Args).kw)=pure () from
  λa b n=>check_star_args _ _ _ _ _ _]
 exact Z3 hq
end
section
variable{B:Base}{W W':Wd}{fs:List Nat}{σ τ:S}{s s':Shared}{sc:Scope}
set_option maxHeartbeats 1000000 in
theorem q8f{A:Around}{E:Value→Shared→Prop}{pl:Sem Bool}{Q:Value×List Value→Shared→Prop}(h:Q (.builtin "Exception.__init__",[]) {s with toks:=s.toks+1})(X:B.K.In s.heap) :
  wpAny (model B.prog B.w) A (getMethod (.type "Exception") "__init__" pl) Q E s:=by
 have L0:Looks (model B.prog B.w) s.heap (typeOf (.type "Exception")) (.type "type"):=Looks.of_pure (by kernel_rfl)
 have hstub:opaqueClassAbove (.type "Exception")=pure none:=by unfold opaqueClassAbove;dsimp only;rw[show Manifest.isStub "Exception"=false by decide +kernel];rfl
 have LO:Looks (model B.prog B.w) s.heap (opaqueClassAbove (.type "Exception")) none:=Looks.of_pure hstub
 unfold getMethod specialOf
 refine Z0 (Z0 (L0.here ((looks_findIn X (qct B.K)).here ?_)))
 dsimp only
 rw[if_pos canon_tga]
 refine Z0 ?_
 refine cls_open X LO L0 (qct B.K) (looks_hook X (r:=none) (by rfl)) (by show subIn B.K _ _=_;rfl) (qbD B.K) ?_
 exact Z3 (handed_on rfl (Z3 h))
theorem Put.self{k:Nat}{o:SO}(e:σ.get k=some o):Put σ k o σ:=⟨λj o' e'=>by
 by_cases h:j=k
 ·subst h;rw[e] at e';(refine zI e' ?_;clear e';rintro rfl);exact .inl ⟨rfl,rfl⟩
 ·exact .inr ⟨h,e'⟩,rfl,rfl,rfl,rfl⟩
set_option maxHeartbeats 1000000 in
theorem qbE(R:Rel B W fs σ s){A:Around}{E:Value→Shared→Prop}{j:Nat}{C:Addr}{d:Option Nat}{p:Fp}{v:Value}{Q:Value→Shared→Prop}(hj:σ.get j=some (.exc C d))(hp:W.ρ[j]?=some p)(h:∀h',Rel B W fs σ {s with heap:=h'}→Q .none {s with heap:=h'}) :
  wpAny (model B.prog B.w) A (call (.builtin "Exception.__init__") [.ref p.a,v]) Q E s:=by
 refine X4x6 (R.objs _ _ _ hj hp) ?_;intro t vs sl dct o1 he hz hv0 hv1 hr;refine X1x2 o1 ?_;clear o1;intro cc hcl hex
 refine ((B.exc C cc hcl hex).obj).kE18 ?_;intro nm' q' N bs bm sn sub ab col dd k0 k1 k2 k3 k5 hK hab hT
 have F:=PySem.F.excBase_Exception
 have hC:=R.kin _ _ hK
 obtain⟨hh,g,dr,tk,os⟩:=s
 refine wpAny_call (codeAny_call_builtin F.init.plain F.initEntry (q9X hC hT he rfl ?_))
 unfold Builtin.«BaseException.__init__»
 dsimp only
 rw[if_neg (by simp)]
 unfold newTuple Builtin.BaseException.bexcPut
 have hsz:0<vs.size:=by rw[hz];decide
 have he₁:=Z5 (h:=hh) {cls:=.type "tuple",data:=.seq [v].toArray} he
 refine Z0 (wpAny_newObj_type (Z0 (Z0 (wpAny_field he₁ rfl hv0 (Z0 (wpAny_setField he₁ rfl hsz ?_))))) (by show [v].toArray.size≤sizeLine;rw[sizeLine_eq];show 1≤_;decide))
 refine wpAny_letGo (Z3 (h _ ?_))
 have R₁:=R.pushAny {cls:=.type "tuple",data:=.seq [v].toArray}
 have he₂:=Zc (Obj.mapFields (·.setIfInBounds 0 (.ref hh.objs.size))) he₁ rfl
 exact R₁.upd (Put.self hj) hj hp (.head _) (Heap.SameBut.update _ _ _) ⟨_,he₂⟩ ⟨hh.objs.size,vs.setIfInBounds 0 (.ref hh.objs.size),sl,dct,⟨cc,hcl,hex⟩,he₂,by simp[hz],by simp[hz],by rw[Array.getElem?_setIfInBounds_ne (by decide)];exact hv1,hr⟩
  (λob es m ho z=>by have:=he₁.symm.trans ho;(refine zI this ?_;clear this;rintro rfl);cases z) rfl rfl
theorem qeM{x y:XC}{e1 e2:Expr}{np ap pos:Pos}(hx:SX B sc x e1)(hy:SX B sc y e2)(hk:sc.names.lookup ("Exception":Str)=some .globalImplicit){i:Nat}(hg:alook glo i=some (.ty 10))(hn:nm i="Exception")
  (hp:Plain [e1,e2]) (hline:(ap.endLine==pos.line)=true) (hxx:∀env,starEach [e1,e2] env=(false,eval e1 env)::starEach [e2] env) (hyy:∀env,starEach [e2] env=(false,eval e2 env)::starEach [] env) (hb:∀env whole,attributeBase (.Name "Exception" np) "__init__" env whole=whole) :
  SX B sc (qgE x y) (.Call (.Attribute (.Name "Exception" np) "__init__" ap) [e1,e2] [] pos):=λn W fs c X σ s kv O R h=>by
 refine X1x2 (B.ld i _ hg) ?_;intro v hv hl
 have hv:v=.type (tyNm 10):=hv W
 have hv:v=.type "Exception":=hv
 subst hv
 rw[hn] at hl
 rw[arm_eval_Call,hb]
 have hl':(backTo pos (starEach [e1,e2] X.env)).any (·.1)=false:=q0z (hp X.env)
 have hform:methodCallForm ([e1,e2].length+([]:List Keyword).length) (backTo pos (starEach [e1,e2] X.env)) (backToKw pos (keywordEach [] X.env))=true:=by
  unfold methodCallForm
  have h1:(backTo pos (starEach [e1,e2] X.env)).all (λx=>!x.1)=true:=by
   rw[List.all_eq_true]
   intro a ha
   rw[List.any_eq_false] at hl'
   have:=hl' a ha
   simpa using this
  rw[h1]
  rfl
 have hpos:methodCallPos true (.Name "Exception" np) X.env ap pos=pure pos:=by unfold methodCallPos;simp[hline]
 refine q01 (toG (Calls.Name_function_global (by rw[O.esc];exact O.kind) (by unfold Env.kindOf;rw[O.esc];exact hk) (hl _ _ _ X.env s R.old.k O.glo O.bui ?_) (by decide)))
 refine q01 (q07 ?_)
 unfold methodCall
 rw[hform]
 refine q01 (q04 (toG (q8f ?_ R.kin)))
 refine q0y hpos ?_
 refine q0q O.around.handled hl' ?_
 have h:(q4H x (q4H y xNil)) c σ (λl σ=>match l with|[o,t]=>oB (ats σ o exOf) (λ_=>oB (sOf t) (λ_=>kv .none σ))|_=>false)=true:=h
 refine q05 (q14 hx (q14 hy q2N hyy) hxx n W fs c X σ _ _ pos O R.toks h) (λvs s₂ oY1x0=>?_) λ_ _ z=>z
 obtain⟨W₂,σ₂,l₂,R₂,xs,hxs,h₂⟩:=oY1x0
 refine⟨q15,?_⟩
 refine X4x5 (q43 (f:=λo t=>oB (ats σ₂ o exOf) (λ_=>oB (sOf t) (λ_=>kv .none σ₂))) (xs:=xs) (by cases xs with|nil=>exact h₂|cons x r=>cases r with|nil=>exact h₂|cons y q=>cases q<;>exact h₂) hxs) ?_;intro o t a b o1 o2 ho ht h₂;subst o1;subst o2
 refine q00 (show oB (ats σ₂ o exOf) (λ_=>oB (sOf t) (λ_=>kv .none σ₂))=true from h₂) ?_;intro C h3 h4
 refine q00 h4 ?_;intro z h5 h6
 refine q0I h3 ?_;intro j ob h7 h8 h9
 subst h7
 refine X1x1 (q5S h9) ?_;intro d hd
 rw[hd] at h8
 refine X1x2 ho ?_;clear ho;intro p hp' he
 subst he
 exact toG (qbE R₂ h8 hp' λh' R'=>⟨W₂,σ₂,l₂,R',qv q1I h6⟩)
end
end
section
open PySem PySem.W PyProof.Rows Builtin Builtin.ObjectAttr
theorem q82(self:Value){l:List Value}(h:q11 l=true):refuseLoop self "__setattr__" l=pure ():=
 q3Q (P:=λl=>refuseLoop self "__setattr__" l=pure ()) (PySem.F.store_Exception.passes self) (λa r h=>by rw[refuseLoop_ref];exact h) h
section
variable{prog:Program}{w:World}{A:Around}{E:Value→Shared→Prop}{s:Shared}{K:Frag}{C x:Addr}{c:Cls}{R:Result→Shared→Prop}
theorem q9Y{ox:Obj}{od:Option Obj}{name:Str}{tk:Tok}{v:Value}(X:K.In s.heap)(Y:ExcF K C c)(I:InstAt s.heap x ox C od)(ht:findIn K (.ref C) name=some none)
  (h:wpAny (model prog w) A.in1 (storeInOwnDict (.ref x) (.ref C) (.str name tk) name v false)
   (λfin s'=>match fin with|.done f=>R (.ok f) s'|.again c'=>c'.quiet=true∧codeAny (model prog w) A c' R s') (λe s'=>R (.error e) s') s) :
  codeAny (model prog w) A (.call (.builtin "object.__setattr__") ⟨[.ref x,.str name tk,v],[]⟩) R s:=by
 have SF:=PySem.F.store_object
 refine Y.obj.kE18 ?_;intro nm q N bs bm sn sub ab col dd k0 k1 k2 k3 k5 hK hab hT
 have hC:=X _ _ hK
 have sub':Looks (model prog w) s.heap (isInstance (.ref x) (.type "object")) true:=I.type.andThen (looks_mroIn X (by
  unfold mroIn clsIn
  rw[hK]
  show (if (Value.ref C::bm).isEmpty=true then none else some ((Value.ref C::bm).contains (.type "object")))=some true
  rw[if_neg (by simp),List.contains_cons,q0H hT];rfl))
 refine codeAny_call_builtin SF.slot.plain SF.entry (@check_slot (model prog w) _ _ s "object.__setattr__" "object" "__setattr__" (.ref x) [.str name tk,v] [] _ SF.kind SF.split sub' (SF.args (.ref x) (.str name tk) v) ?_)
 have hm:Looks (model prog w) s.heap (mroOf (.ref C)) (.ref C::bm):=((Looks.ld (part:=none) hC).andThen .now).andThen .now
 rw[osa_eq,refuse_eq]
 refine Z0 (Z0 (I.type.here (Z0 (hm.here ?_))))
 rw[q82 _ (q5R C hT)]
 refine Z3 (Z0 (I.type.here (Z0 ((looks_findIn X ht).here (Z0 (Z3 ?_))))))
 exact h
end
section
variable{B:Base}{A:Around}{E:Value→Shared→Prop}{s:Shared}
theorem q6l(name:Str)(hs:Int)(key v:Value):∀(ds:List DictEntry),(putL name hs key v ds).length≤ds.length+1
 |[]=>Nat.le_refl _
 |e::r=>by unfold putL;split<;>simp only[List.length_cons]<;>have:=q6l name hs key v r<;>lia
theorem q7a(name:Str)(hs:Int)(t:Tok)(v:Value):∀(ds:List DictEntry),(∀e∈ds,∃x t,e.key=.str x t)→∀e∈putL name hs (.str name t) v ds,∃x t,e.key=.str x t
 |[],_,e,he=>by
  unfold putL at he
  rw[List.mem_singleton.mp he];exact⟨_,_,rfl⟩
 |d::r,h,e,he=>by
  unfold putL at he
  split at he
  ·refine Z4 (List.mem_cons.mp he) ?_ (λhe=>?_);rintro rfl
   ·exact h d (.head _)
   ·exact h e (.tail _ he)
  ·refine Z4 (List.mem_cons.mp he) ?_ (λhe=>?_);rintro rfl
   ·exact h _ (.head _)
   ·exact q7a name hs t v r (λe he=>h e (.tail _ he)) e he
theorem q73{dx:Addr}{ds:List DictEntry}{ep:Nat}{name:Str}{tk:Tok}{v:Value}{Q:Fin→Shared→Prop}(hdx:s.heap.get? dx=some (q0u ds ep))(hk:∀e∈ds,∃x t,e.key=.str x t)(hl:ds.length≤900)
  (h:∀h' ds' ep' tk',h'.get? dx=some (q0u ds' ep')→Heap.SameBut dx s.heap h'→(∀e∈ds',∃x t,e.key=.str x t)→ds'.length≤ds.length+1→Q (.done (.ret .none)) {s with heap:=h',toks:=tk'}) :
  wpAny (model B.prog B.w) A (storeInDict dx (.str name tk) name v) Q E s:=by
 unfold storeInDict newKeyGuard
 refine Z0 (Z3 (Z0 ?_))
 unfold nsSet
 refine Z0 (Z0 (wpAny_askSetting (Z3 (Z0 (wpAny_mkText (Z0 (wpAny_loadPart hdx ?_)))))))
 have hany:(!ds.toArray.any (·.key.isStr name)&&ds.toArray.any (·.refKey))=false:=by
  have:ds.toArray.any (·.refKey)=false:=by
   rw[←Array.any_toList,List.any_eq_false]
   intro e he
   refine X2x1 (hk e (by simpa using he)) ?_;intro x t hx
   simp[DictEntry.refKey,hx]
  rw[this,Bool.and_false]
 dsimp only[q0u]
 rw[aRefKeyMayBeTheName_at,hany]
 have D':∀key hs,(s.heap.update dx (Obj.putName name hs key v)).get? dx=some (dictOf (putL name hs key v ds) (putN name ds ep)):=λkey hs=>by
  rw[Zc (Obj.putName name hs key v) hdx (by rw[show q0u ds ep=dictOf ds ep from rfl,putName_dict];rfl),show q0u ds ep=dictOf ds ep from rfl,putName_dict]
 refine wpAny_updatePart hdx ?_
 refine Z0 (wpAny_lookBehind (D' _ _) (by exact pastItsLine_dict (by rw[List.size_toArray,sizeLine_eq];exact Nat.le_trans (q6l _ _ _ _ ds) (by lia))) ?_)
 exact Z3 (h _ _ _ _ (D' _ _) (Heap.SameBut.update ..) (q7a _ _ _ _ ds hk) (q6l _ _ _ _ ds))
variable{W:Wd}{fs:List Nat}{σ:S}
theorem qe3:qcD B:=λn W fs A σ s y u v i E j C d f O R hj hu hv h=>by
 refine q00 (show oB (tb.cl C) (λc=>bi c.isExc (bi (nmem i c.data) (oE d (σ.addK (.xd 1) (λn σ=>oB (oO (σ.get j) edOf) (λ_=>σ.putK j (.exc C (some n)) f)))
  (λn=>oB (oO (σ.get n) xdOf) (λm=>bi (Nat.ble m 50) (natK (Nat.add m 1) (λm=>σ.turnK (λσ=>σ.putK n (.xd m) f))) false))) false) false)=true from h) ?_;intro c hc h
 refine q06 h ?_;intro hex h
 refine q06 h ?_;intro hdat h
 refine X1x2 hu ?_;clear hu;intro p hp o1;subst o1
 refine X4x6 (R.objs _ _ _ hj hp) ?_;intro t vs sl dct hcc he hz hv0 hv1 hd
 have Y:=B.exc C c hc hex
 have hfind:=Y.data i hdat
 refine Y.obj.kE18 ?_;intro nm' q' N bs bm sn sub ab col dd k0 k1 k2 k3 k5 hK hab hT
 have hcl:clsIn B.K C=some {name:=nm',bases:=bs,mro:=.ref C::bm,ns:=N,qualname:=q',hasDict:=true,slotNames:=sn,subclasses:=sub,abstract:=ab,collection:=col,hasDel:=false}:=by unfold clsIn;rw[hK]
 obtain⟨hh,g,dr,tk,os⟩:=s
 cases d with
 |none=>
  have hd:dct=none:=hd
  subst hd
  have I:InstAt hh p.a ⟨.ref C,none,.fields vs,sl⟩ C none:=⟨he,rfl,rfl,trivial⟩
  refine set_plain R.kin I Y.seta (q9Y (s:=⟨hh,g,dr,tk+1,os⟩) R.kin Y I hfind ?_)
  refine Z0 (Z3 (Z0 (Z0 (wpAny_loadPart he (Z0 ((looks_clsIn R.kin hcl).here (s:=⟨hh,g,dr,tk+1,os⟩) ?_))))))
  have he₁:(hh.push (q0u [] 0)).get? p.a=some ⟨.ref C,none,.fields vs,sl⟩:=Z5 _ he
  have hne:p.a≠hh.objs.size:=Nat.ne_of_lt (Z7 he)
  have he₂:=Zc (λo:Obj=>{cls:=o.cls,dict:=some hh.objs.size,data:=o.data,slots:=o.slots}) he₁ rfl
  have hdx:((hh.push (q0u [] 0)).update p.a λo:Obj=>{cls:=o.cls,dict:=some hh.objs.size,data:=o.data,slots:=o.slots}).get? hh.objs.size=some (q0u [] 0):=
   (Heap.get?_update_other _ _ hne).trans (Zb _ rfl)
  show wpAny _ _ (do
   let d ←alloc (q0u [] 0)
   update p.a λo=>{o with dict:=some d}
   dictMade (.ref C) p.a d) _ _ _
  refine Z0 (wpAny_alloc (Z0 (wpAny_update he₁ (Z3 ?_))))
  refine Z0 (Z3 ?_)
  refine q73 (tk:=tk) (s:=⟨(hh.push (q0u [] 0)).update p.a λo:Obj=>{cls:=o.cls,dict:=some hh.objs.size,data:=o.data,slots:=o.slots},g,dr,tk+1,os⟩) hdx (λe he=>by cases he) (by decide) λh' ds' ep' tk' g1 g2 g3 g4=>?_
  refine S.addK_true_E3 (show σ.addK (.xd 1) (λn σ=>oB (oO (σ.get j) edOf) (λ_=>σ.putK j (.exc C (some n)) f))=true from h) ?_;intro τ₁ A₁ h8
  refine q00 h8 ?_;intro ed h9 h10
  refine q02 h9 ?_;intro o₁ h11 _
  refine S.putK_true_E3 h10 ?_;intro τ₂ P h12
  have hep:h'.get? p.a=some ⟨.ref C,some hh.objs.size,.fields vs,sl⟩:=(g2.2 p.a hne).trans he₂
  have hB:=Zc (λ_:Obj=>(⟨.ref C,none,.fields vs,sl⟩:Obj)) hep rfl
  have hBo:∀b,b≠p.a→(h'.update p.a λ_:Obj=>(⟨.ref C,none,.fields vs,sl⟩:Obj)).get? b=h'.get? b:=λb hb=>Heap.get?_update_other _ _ (Ne.symm hb)
  have R₀:Rel B W fs σ {heap:=hh,gens:=g,drawn:=dr,toks:=tk',os:=os}:=R.toks
  have hdx':(h'.update p.a λ_:Obj=>(⟨.ref C,none,.fields vs,sl⟩:Obj)).get? hh.objs.size=some (q0u ds' ep'):=(hBo _ (Ne.symm hne)).trans g1
  have R₁:=R₀.new1 (s':={heap:=h'.update p.a λ_:Obj=>(⟨.ref C,none,.fields vs,sl⟩:Obj),gens:=g,drawn:=dr,toks:=tk',os:=os}) A₁ (a:=hh.objs.size) ⟨λb o e=>by
    by_cases hb:b=p.a
    ·subst hb;rw[hB,←e];exact he.symm
    ·exact(hBo b hb).trans ((g2.2 b (Nat.ne_of_lt (Z7 e))).trans ((Heap.get?_update_other _ _ (Ne.symm hb)).trans (Z5 _ e)))⟩ (Nat.le_refl _) ⟨_,hdx'⟩
   ⟨ds',ep',hdx',g3,by simpa using g4,by decide⟩ rfl rfl
  have R₂:=R₁.upd (s':={heap:=h',gens:=g,drawn:=dr,toks:=tk',os:=os}) P h11 (q0a (W.le_add _).ρ hp) (.head _) ⟨(Heap.size_after_update _ _ _).symm,λb hb=>(hBo b hb).symm⟩ ⟨_,hep⟩
   ⟨t,vs,sl,some hh.objs.size,hcc,hep,hz,hv0,hv1,⟨hh.objs.size,[]⟩,R₀.add_at _,rfl,Ne.symm hne⟩ (λob es m ho z=>by have:=hB.symm.trans ho;(refine zI this ?_;clear this;rintro rfl);cases z) rfl rfl
  exact⟨_,τ₂,W.le_add _,R₂,h12⟩
 |some k=>
  refine q00 (show oB (oO (σ.get k) xdOf) (λm=>bi (Nat.ble m 50) (natK (Nat.add m 1) (λm=>σ.turnK (λσ=>σ.putK k (.xd m) f))) false)=true from h) ?_;intro m h1 h2
  refine q02 h1 ?_;intro ob h3 h4
  rw[q8z h4] at h3
  refine q06 h2 ?_;intro h5 h6
  have h5:=Z8 h5
  rw[q1R] at h6
  refine S.putK_true_E3 (S.turnK_true h6) ?_;intro τ P h7
  refine X1x3 hd ?_;clear hd;intro q hq o1 hne;subst o1
  refine X2x4 (R.objs _ _ _ h3 hq) ?_;intro ds ep hdx hks hlen hm
  have I:InstAt hh p.a ⟨.ref C,some q.a,.fields vs,sl⟩ C (some (q0u ds ep)):=⟨he,rfl,rfl,hdx⟩
  refine set_plain R.kin I Y.seta (q9Y (s:=⟨hh,g,dr,tk+1,os⟩) R.kin Y I hfind ?_)
  refine Z0 (Z3 (Z0 (Z0 (wpAny_loadPart he (Z0 ((looks_clsIn R.kin hcl).here (s:=⟨hh,g,dr,tk+1,os⟩) ?_))))))
  refine Z3 (a:=some q.a) (Z0 (Z3 ?_))
  refine q73 (tk:=tk) (s:=⟨hh,g,dr,tk+1,os⟩) hdx hks (by lia) λh' ds' ep' tk' g1 g2 g3 g4=>?_
  have R':Rel B W fs σ {heap:=hh,gens:=g,drawn:=dr,toks:=tk',os:=os}:=R.toks
  exact PQ.here (s:={heap:=h',gens:=g,drawn:=dr,toks:=tk',os:=os}) (R'.updD P h3 hq g2 ⟨_,g1⟩ ⟨ds',ep',g1,g3,by show ds'.length≤m+1;lia,by show m+1≤60;lia⟩ rfl rfl) h7
end
end
section
open PySem PySem.W PyProof.Rows
variable{B:Base}{W W':Wd}{fs:List Nat}{σ τ:S}{s s':Shared}
theorem Rel.popL(R:Rel B W fs σ s){q:Nat×Lo}{r:List (Nat×Lo)}(e:σ.frs=q::r)(Z:Same σ τ σ.n σ.nv r){L:Addr}{h':Heap}(hL:W.ρ[q.1]?=some ⟨L,[]⟩)(hs:Heap.SameBut L s.heap h')(hn:∃o,h'.get? L=some o) :
  Rel B W fs.tail τ {s with heap:=h'}:=by
 have hf:fs=q.1::r.map (·.1):=by rw[←R.fids,e];rfl
 have R':=R.pop e Z
 have nd:q.1∉fs.tail:=by have:=R.fnd;rw[hf] at this⊢;exact(List.nodup_cons.mp this).1
 have hg:τ.get q.1=none:=by rw[Z.get];exact R.frn q.1 (by rw[hf];exact .head _)
 have ne:∀{j:Nat}{p:Fp},W.ρ[j]?=some p→j≠q.1→∀x∈p.all,x≠L:=λej hj x hx z=>R.sep _ _ _ _ ej hL hj x hx (z▸.head _)
 have hb:=R.own' hL L (.head _)
 refine⟨R'.len,R'.lenv,R'.bound,λk o p h hp=>?_,R'.sep,λp hp x hx=>?_,R'.old.step_same hb.1 hs,R'.lim.sameBut hs ?_,R'.vars,R'.gens,R'.os,R'.fids,λx hx=>?_,R'.frn,R'.fnd,
  λx hx=>⟨(hs.2 _ λz=>(R.fz x hx).2.2 _ (Zd hL) (z▸.head _)).trans (R'.fz x hx).1,(R'.fz x hx).2⟩,R'.epn,λy hy=>⟨(R'.eps y hy).1,λh=>?_⟩⟩
 ·have hk:k≠q.1:=λz=>by rw[z,hg] at h;exact zN h
  exact(R'.objs k o p h hp).mono (Wd.le.refl W) λx hx _ z=>(hs.2 x (ne hp hk x hx)).trans z
 ·refine X0x2 (R'.own p hp x hx) ?_;intro c o1;refine X1x1 o1 ?_;clear o1;intro o' e'
  refine⟨c,?_⟩
  by_cases z:x=L
  ·rw[z];exact hn
  ·exact⟨o',(hs.2 x z).trans e'⟩
 ·intro z
  have h1:=B.low
  have h2:cStatics<20:=by decide
  rw[z] at h2
  exact absurd (Za h2 (Nat.le_trans h1 hb.1)) (Nat.lt_irrefl _)
 ·refine X2x3 (R'.frs x hx) ?_;intro L' f' a o1 d;refine X3x2 o1 ?_;clear o1;intro o es ep b c
  have hx':x.1≠q.1:=λz=>nd (by rw[←z,←R'.fids];exact List.mem_map_of_mem hx)
  exact⟨L',f',a,⟨o,es,ep,(hs.2 L' (ne a hx' _ (.head _))).trans b,c⟩,d⟩
 ·refine X3x3 ((R'.eps y hy).2 h) ?_;intro p o es a b c
  have hk:y.1≠q.1:=λz=>(R.epn y hy).2 (by rw[hf,z];exact .head _)
  exact⟨p,o,es,a,(hs.2 p.a (ne a hk _ (.head _))).trans b,c⟩
theorem q8n{env:Env}{f:(Str×NameKind)→List (Str×Addr)→Sem (ForInStep (List (Str×Addr)))}(hf:∀x c,f x c=if (x.2==NameKind.free)=true then(do let a ←cellOf env x.1;pure (.yield ((x.1,a)::c))) else pure (.yield c)) :
  ∀{l:List (Str×NameKind)}{c:List (Str×Addr)},(∀x∈l,x.2=.free→∃a,env.cells.lookup x.1=some a)→
   ∃cl,forIn l c f=pure cl∧(∀y a,c.lookup y=some a→env.cells.lookup y=some a→cl.lookup y=some a)∧∀x∈l,x.2=.free→cl.lookup x.1=env.cells.lookup x.1:=by
 intro l
 induction l with
 |nil=>exact λ{c} _=>⟨c,rfl,λ_ _ h _=>h,λx hx=>by cases hx⟩
 |cons x r ih=>
  intro c h
  obtain⟨n,k⟩:=x
  rw[List.forIn_cons,hf]
  by_cases hk:k=.free
  ·subst hk
   refine X1x1 (h (n,.free) (.head _) rfl) ?_;intro a ha
   have hc:cellOf env n=pure a:=by unfold cellOf;rw[ha]
   simp only[beq_self_eq_true,if_true,hc,pure_bind]
   refine X1x3 (ih (c:=(n,a)::c) λx hx=>h x (.tail _ hx)) ?_;intro cl h1 h2 h3
   refine⟨cl,h1,λy b hy hb=>h2 y b ?_ hb,λx hx hxf=>?_⟩
   ·rw[List.lookup_cons]
    cases q:y==n with
    |true=>have:=beq_iff_eq.mp q;subst this;rw[ha] at hb;(refine zI hb ?_;clear hb;rintro rfl);rfl
    |false=>exact hy
   ·refine Z4 (List.mem_cons.mp hx) ?_ (λhx=>?_);rintro rfl
    ·rw[ha];exact h2 n a (by rw[List.lookup_cons];simp) ha
    ·exact h3 x hx hxf
  ·have hb:(k==NameKind.free)=false:=by simpa using hk
   simp only[hb,Bool.false_eq_true,if_false,pure_bind]
   refine X1x3 (ih (c:=c) λx hx=>h x (.tail _ hx)) ?_;intro cl h1 h2 h3
   exact⟨cl,h1,h2,λx hx hxf=>by
    refine Z4 (List.mem_cons.mp hx) ?_ (λhx=>?_);rintro rfl
    ·exact absurd hxf hk
    ·exact h3 x hx hxf⟩
theorem q4C{env:Env}{scope:Scope}(h:∀x∈scope.names,x.2=.free→∃a,env.cells.lookup x.1=some a):∃cl,closureFor scope env=pure cl∧∀x∈scope.names,x.2=.free→cl.lookup x.1=env.cells.lookup x.1:=by
 refine X1x3 (q8n (env:=env) (f:=λx r=>if (x.2==NameKind.free)=true then(do let a ←cellOf env x.1;pure (.yield ((x.1,a)::r))) else pure (.yield r)) (λ_ _=>rfl) (l:=scope.names) (c:=[]) h) ?_;intro cl h1 _ h3
 refine⟨cl,?_,h3⟩
 simp only[closureFor]
 rw[show forIn scope.names ([]:List (Str×Addr)) _=pure cl from h1]
 rfl
noncomputable def q60(M:Model)(A:Around)(E:Value→Shared→Prop)(use:Option (Value→Sem Unit))(Q:Value→Shared→Prop)(acc:Value)(cenv:Env)(r:Result)(s':Shared):Prop:=match r with
 |.error x=>∃m,s'.heap.Ns cenv.locals m∧∀h' m',h'.Ns cenv.locals m'→Heap.SameBut cenv.locals s'.heap h'→wpAny M A (passOn "comprehension.variables-let-go" x cenv:Sem Value) Q E {s' with heap:=h'}
 |.ok _=>match use with
  |none=>∃m,s'.heap.Ns cenv.locals m∧∀h' m',h'.Ns cenv.locals m'→Heap.SameBut cenv.locals s'.heap h'→Q acc {s' with heap:=h'}
  |some u=>wpG M A (u acc) (λ_ s''=>∃m,s''.heap.Ns cenv.locals m∧∀h' m',h'.Ns cenv.locals m'→Heap.SameBut cenv.locals s''.heap h'→Q .none {s'' with heap:=h'}) E s'
theorem q6t{M:Model}{A:Around}{E:Value→Shared→Prop}{cenv:Env}{cellsOf:List (Str×NameKind)→List Value}(hkind:cenv.scope.kind=.function){Q:Unit→Shared→Prop} :
  ∀(vs:List (Str×NameKind))(s:Shared)(m:Str→Option Value),(∀x∈vs,x.2=.local→cenv.kindOf x.1=some .local)→s.heap.Ns cenv.locals m→
   (∀h' m',h'.Ns cenv.locals m'→Heap.SameBut cenv.locals s.heap h'→Q () {s with heap:=h'})→wpG M A (comprehension.letGo cenv cellsOf vs) Q E s:=λvs s m h1 h2 h3=>toG (wpAny_comp_letGo hkind vs s m h1 h2 h3)
section
variable{M:Model}{A:Around}{E:Value→Shared→Prop}{s:Shared}{env:Env}
theorem q2M{e:Expr}{scope:Scope}{pos:Pos}{newAcc first:Sem Value}{g:Comprehension}{gs:List Comprehension}{cl:List (Str×Addr)}{use:Option (Value→Sem Unit)}{Q:Value→Shared→Prop}
  (hcl:clausesOf e=g::gs) (hs:∀x,foldedSetIterable g.iter env x=pure x) (hclos:closureFor scope env=pure cl) (hkind:scope.kind=.function) (hnames:∀x∈scope.names,x.2=.local→scope.names.lookup x.1=some .local)
  (h:wpG M A first (λx s₁=>wpG M A (pyIter x) (λit s₂=>wpG M A newAcc (λacc s₃=>
   wpG M A (newFunctionEnv scope env.globals cl [] env.qual none .none (some env)) (λcenv s₄=>
    q0E M A (.compStart e 0 it acc {cenv with scope:=relabel scope env}) (q60 M A E use Q acc {cenv with scope:=relabel scope env}) s₄) E s₃) E s₂) E s₁) E s) :
  wpG M A (comprehension e scope env pos newAcc false first use) Q E s:=by
 unfold comprehension
 rw[hclos,hcl]
 have sif:∀{α:Type}{k:PUnit→Sem α}{Q':α→Shared→Prop}{s':Shared}{b:Bool}{p:Pos},wpG M A (k ()) Q' E s'→wpG M A (if b=true then(standAt p>>=k) else k ()) Q' E s':=λh'=>by
  split
  ·exact q01 (q07 h')
  ·exact h'
 refine q0e h λx s₁ h₁=>q01 (q07 (q0y (hs x) ?_))
 refine q01 (q04 (q05 h₁ (λit s₂ h₂=>sif (q0e h₂ λacc s₃ h₃=>?_)) λ_ _ z=>z))
 refine q01 (q03 (q0e h₃ λcenv s₄ h₄=>?_))
 dsimp only
 have hv:∀x∈(scope.names.filter λx=>(x.2==.local||x.2==.cell)&&x.1 != (".0":Str)).reverse,x.2=.local→Env.kindOf {cenv with scope:=relabel scope env} x.1=some .local:=
  λx hx hl=>lookup_relabel_local (hnames x (List.mem_filter.mp (List.mem_reverse.mp hx)).1 hl)
 have hv':∀x∈(scope.names.filter λx=>(x.2==.local||x.2==.cell)&&x.1 != (".0":Str)).reverse.drop 1++(scope.names.filter λx=>(x.2==.local||x.2==.cell)&&x.1 != (".0":Str)).reverse.take 1,
   x.2=.local→Env.kindOf {cenv with scope:=relabel scope env} x.1=some .local:=λx hx hl=>by
  refine Z4 (List.mem_append.mp hx) (λh1=>?_) λh1=>?_
  ·exact hv x (List.mem_of_mem_drop h1) hl
  ·exact hv x (List.mem_of_mem_take h1) hl
 refine q04 (q01 (q3n (q04 (q8D (q0V h₄ λr s' hr=>?_) nofun))))
 cases r with
 |ok f=>
  cases use with
  |none=>
   refine X1x2 hr ?_;clear hr;intro m hn hr
   exact q01 (q04 (q6t (cenv:={cenv with scope:=relabel scope env}) hkind _ s' m hv hn λh' m' hn' hs'=>q03 (hr h' m' hn' hs')))
  |some u=>
   refine q01 (q2o (q01 (q04 (q05 hr (λ_ s'' hr'=>?_) λ_ _ h'=>h'))))
   refine X1x2 hr' ?_;clear hr';intro m hn hr'
   exact q01 (q6t (cenv:={cenv with scope:=relabel scope env}) hkind _ s'' m hv' hn λh' m' hn' hs'=>q03 (hr' h' m' hn' hs'))
 |error x=>
  refine X1x2 hr ?_;clear hr;intro m hn hr
  exact q01 (q04 (q6t (cenv:={cenv with scope:=relabel scope env}) hkind _ s' m hv hn λh' m' hn' hs'=>toG (hr h' m' hn' hs')))
end
end
section
open PySem PySem.W PyProof.Rows
section
variable{prog:Program}{w:World}{A:Around}{env:Env}{E:Value→Shared→Prop}{R:Result→Shared→Prop}{s:Shared}
theorem q6e{α:Type}{m:Sem α}{pos:Pos}{Q:α→Shared→Prop}(h:wpG (model prog w) A m Q (notedBy (model prog w) A env E) s):wpG (model prog w) A (m.onRaise λx=>do noteFrame x env;standAt pos) Q E s:=
 q0T (q05 h (λ_ _ q=>q) λ_ _ hx=>toG (Z0 (wpAny_mono hx (λ_ _ e=>wpAny_standAt e) λ_ _ e=>e)))
theorem q3Y{elt target iter:Expr}{ifs:List Expr}{scope:Scope}{pos:Pos}{it acc:Value}(h:q0E (model prog w) A (.compLoop (.ListComp elt [⟨target,iter,ifs,0⟩] scope pos) 0 it acc env) R s)
  (hself:∀(Q:Value→Shared→Prop)(E:Value→Shared→Prop),Q it s→wpAny (model prog w) A (pyIter it) Q E s):q0E (model prog w) A (.compStart (.ListComp elt [⟨target,iter,ifs,0⟩] scope pos) 0 it acc env) R s:=by
 refine q0k rfl ?_
 show wpG _ _ ((compStart (.ListComp elt [⟨target,iter,ifs,0⟩] scope pos) 0 it acc env).onRaise (λx=>do noteFrame x env;standAt theWindowsPlace)) _ _ s
 refine q6e ?_
 unfold compStart
 refine toG (show wpAny _ _ (ask>>=_) _ _ s from ?_)
 refine Z0 (wpAny_askSetting (wpAny_ite ?_))
 split
 ·first
   |exact Z0 (Z3 (Z3 (And.intro rfl h)))
   |exact Z3 (And.intro rfl h)
 ·first
   |exact Z0 (wpAny_rule (Z0 (wpAny_standAt (Z0 (hself _ _ (Z3 (And.intro rfl h)))))))
   |(refine Z0 (wpAny_rule ?_);show wpAny _ _ (standAt iter.pos>>=_) _ _ s;exact Z0 (wpAny_standAt (Z0 (hself _ _ (Z3 (And.intro rfl h))))))
noncomputable def q7K(elt target iter:Expr)(ifs:List Expr)(test:Env→Sem Bool):Prop:=∀(scope:Scope)(pos:Pos)(it acc:Value)(env:Env),compTurn (.ListComp elt [⟨target,iter,ifs,0⟩] scope pos) 0 it acc env=(standAt iter.pos>>=λ_=>pyNext it>>=λr=>match r with
   |none=>pure (.done .next)
   |some v=>letOwnedTupleGo target it v>>=λ_=>assign target env v>>=λ_=>test env>>=λok=>
    if ok=true then(eval elt env>>=λx=>call (.builtin "list.append") [acc,x]>>=λ_=>pure ())>>=λ_=>again (.compLoop (.ListComp elt [⟨target,iter,ifs,0⟩] scope pos) 0 it acc env)
    else again (.compLoop (.ListComp elt [⟨target,iter,ifs,0⟩] scope pos) 0 it acc env))
theorem qgR(elt target iter:Expr):q7K elt target iter [] (λ_=>pure true):=λ_ _ _ _ _=>rfl
theorem turn1(elt target iter c:Expr):q7K elt target iter [c] (λenv=>isTrue c env (eval c env)):=λscope pos it acc env=>by
 unfold compTurn
 simp only[List.forIn_cons,List.forIn_nil,bind_assoc,pure_bind,if_true,List.getElem?_cons_zero]
 rfl
theorem q4e{elt target iter:Expr}{ifs:List Expr}{test:Env→Sem Bool}(hturn:q7K elt target iter ifs test){scope:Scope}{pos:Pos}{it acc:Value}(I:Nat→Shared→Prop)
  (turn:∀n s,I n s→wpAny (model prog w) A (pyNext it) (λr s₁=>match r with
   |none=>R (.ok .next) s₁
   |some v=>wpAny (model prog w) A (letOwnedTupleGo target it v) (λ_ s₁'=>wpG (model prog w) A (assign target env v) (λ_ s₂=>wpG (model prog w) A (test env) (λok s₃=>if ok=true then
     wpG (model prog w) A (eval elt env) (λx s₄=>wpAny (model prog w) A (call (.builtin "list.append") [acc,x]) (λ_ s₅=>∃m,m<n∧I m s₅) (notedBy (model prog w) A env λe s'=>R (.error e) s') s₄)
      (notedBy (model prog w) A env λe s'=>R (.error e) s') s₃ else ∃m,m<n∧I m s₃) (notedBy (model prog w) A env λe s'=>R (.error e) s') s₂) (notedBy (model prog w) A env λe s'=>R (.error e) s') s₁')
     (notedBy (model prog w) A env λe s'=>R (.error e) s') s₁) (notedBy (model prog w) A env λe s'=>R (.error e) s') s)
  (n:Nat) (h:I n s):q0E (model prog w) A (.compLoop (.ListComp elt [⟨target,iter,ifs,0⟩] scope pos) 0 it acc env) R s:=by
 refine q2X rfl rfl I (λn s hI=>?_) n h
 show wpG _ _ ((compTurn (.ListComp elt [⟨target,iter,ifs,0⟩] scope pos) 0 it acc env).onRaise (λx=>do noteFrame x env;theTreesLotGoes x)) _ _ s
 refine q2p ?_
 rw[hturn]
 refine q01 (q07 (q01 (toG (wpAny_mono (turn n s hI) (λr s₁ h₁=>?_) λ_ _ h'=>h'))))
 cases r with
 |none=>exact q03 h₁
 |some v=>
  refine q01 (toG (wpAny_mono h₁ (λ_ s₁' h₁'=>?_) λ_ _ h'=>h'))
  refine q0e h₁' λ_ s₂ h₂=>q0e h₂ λok s₃ h₃=>?_
  cases ok with
  |true=>
   rw[if_pos rfl] at h₃⊢
   exact q01 (q0e h₃ λx s₄ h₄=>q01 (toG (wpAny_mono h₄ (λ_ s₅ h₅=>q03 (q03 (.inl ⟨rfl,h₅⟩))) λ_ _ h'=>h')))
  |false=>
   rw[if_neg (by decide)] at h₃⊢
   exact q03 (.inl ⟨rfl,h₃⟩)
end
noncomputable def q8u(B:Base)(sc:Scope)(f:TC)(ifs:List Expr):Prop:=(ifs=[]∧f=tT)∨∃c,ifs=[c]∧ST B sc f c
section
variable{B:Base}{W W' V:Wd}{fs:List Nat}{σ τ:S}{s s':Shared}{sc:Scope}{n:Nat}{c:Cx}{X:Fx}
theorem qbL{elt:XC}{t:AC}{f:TC}{eltE target iter:Expr}{ifs:List Expr}(ht:SA B sc t target)(hx:SX B sc elt eltE)(hf:q8u B sc f ifs)(O:Ok B n sc W fs c X){k:KN}{it:It}{iv:Value}{gs:List (Addr×Obj)}{ds:List (Nat×Nat×Nat)}{N acc:Nat}{pa:Fp}{scope:Scope}{pos:Pos}
  (hacc:W.ρ[acc]?=some pa) (hT:q2C it=true→q2B target=true) (R:Rel B W fs σ s) (I:ItR B W it iv gs ds) (F:FreeAt B W s.heap gs) (D:DsOk W σ s.heap fs ds) (h:q8l tb elt t f acc N it c σ k=true) {RR:Result→Shared→Prop}
  (hok:∀W' σ' s',W.le W'→Rel B W' fs σ' s'→k σ'=true→RR (.ok .next) s') (herr:∀W' e s',W.le W'→QE B W' fs X.fa c.kx e s'→notedBy (model B.prog B.w) X.A X.env (λe s''=>RR (.error e) s'') e s') :
  q0E (model B.prog B.w) X.A (.compLoop (.ListComp eltE [⟨target,iter,ifs,0⟩] scope pos) 0 iv (.ref pa.a) X.env) RR s:=by
 have key:∀(test:Env→Sem Bool),q7K eltE target iter ifs test→(∀(W:Wd)(σ:S)(s:Shared)(kt kf:KN),Ok B n sc W fs c X→Rel B W fs σ s→f c σ kt kf=true→wpG (model B.prog B.w) X.A (test X.env) (PQ B W fs (QB kt kf)) (QE B W fs X.fa c.kx) s)→
   q0E (model B.prog B.w) X.A (.compLoop (.ListComp eltE [⟨target,iter,ifs,0⟩] scope pos) 0 iv (.ref pa.a) X.env) RR s:=by
  intro test hturn htest
  refine q4e hturn (λm s=>LoopAt B W fs iv ds (q2B target) (λit σ=>q8l tb elt t f acc m it c σ k) s) ?_ N
   ⟨W,σ,it,gs,.refl W,R,I,F,D,hT,h⟩
  intro m s oP
  obtain⟨W₁,σ₁,it₁,gs₁,l₁,R₁,I₁,F₁,D₁,hT₁,h₁⟩:=oP
  have noted:∀{gs':List (Addr×Obj)}{W':Wd}(e:Value)(s:Shared),W.le W'→QE B (W'.its gs' ds) fs X.fa c.kx e s→notedBy (model B.prog B.w) X.A X.env (λe s'=>RR (.error e) s') e s:=
   λ{gs'}{W'} e s l q=>herr W e s (.refl W) (qce l q)
  cases m with
  |zero=>exact zF h₁
  |succ m=>
   have h₁:q5E tb σ₁ it₁ (k σ₁) (λv it σ=>t v c σ (λσ=>f c σ (λσ=>elt c σ (λv σ=>oB (oO (σ.get acc) lOf) (λl=>catK l [v] (λl=>σ.putLK acc l (λσ=>q8l tb elt t f acc m it c σ k))))) (λσ=>q8l tb elt t f acc m it c σ k)))=true:=h₁
   refine wpAny_mono (q9q R₁ (E:=λ_ _=>False) O.around.handled I₁ F₁ D₁ h₁) (λr s₂ h₂=>?_) λ_ _ z=>z.elim
   cases r with
   |none=>exact hok W₁ σ₁ s₂ l₁ h₂.2 h₂.1
   |some v=>
    obtain⟨W₂,σ₂,it₂,x,gs₂,l₂,R₂,hx',I₂,F₂,D₂,hen,h₃⟩:=h₂
    have hT₂:q2C it₂=true→q2B target=true:=λz=>hT₁ (hen▸z)
    refine wpAny_mono (q7n R₂ hT₂ I₂ F₂ D₂) (λ_ s₃ oY5x0=>?_) (λ_ _ z=>z)
    refine X1x4 oY5x0 ?_;clear oY5x0;intro gs₃ R₃ I₃ F₃ D₃
    have l02:=l₁.trans l₂
    have RV:=q7C R₃ F₃ D₃
    have OV:=(O.mono l02).its gs₃ ds
    refine q05 (ht n (W₂.its gs₃ ds) fs c X σ₂ s₃ x v _ OV RV (VR.its.mpr hx') h₃) (λ_ s₄ oY4x0=>?_) λe s q=>noted e s l02 q
    refine oY4x0.kE5 ?_;clear oY4x0;intro W₄ σ₄ l₄ R₄ h₄
    refine q05 (htest W₄ σ₄ s₄ _ _ (OV.mono l₄) R₄ h₄) (λok s₅ oY3x0=>?_) λe s q=>noted e s l02 (q.weaken l₄)
    refine oY3x0.kE5 ?_;clear oY3x0;intro W₅ σ₅ l₅ R₅ h₅
    have l45:=l₄.trans l₅
    cases ok with
    |false=>exact⟨m,Nat.lt_succ_self m,W₅.out W,σ₅,it₂,gs₃,q5x l02 l45,q3C l02 l45 R₅,q9f l45 I₃,q4V l02 l45 F₃ R₅,q9g l45 R₅,hT₂,h₅⟩
    |true=>
     rw[if_pos rfl]
     refine q05 (hx n W₅ fs c X σ₅ s₅ _ (OV.mono l45) R₅ h₅) (λy s₆ oY2x0=>?_) λe s q=>noted e s l02 (q.weaken l45)
     refine oY2x0.kE7 ?_;clear oY2x0;intro W₆ σ₆ l₆ R₆ yy hy h₆
     have l46:=l45.trans l₆
     refine q00 h₆ ?_;intro l h7 h8
     refine q02 h7 ?_;intro o h9 h10
     rw[q25 h10] at h9
     have hp₆:W₆.ρ[acc]?=some pa:=q0a l46.ρ (q0a l02.ρ hacc)
     refine wpAny_mono (q7k (kv:=λ_ σ=>q8l tb elt t f acc m it₂ c σ k) (x:=.own acc) (xs:=[yy]) (E:=λ_ _=>False) R₆ ?_ (q12 hp₆) (.cons hy .nil) ?_) (λr s₇ oP=>?_) λ_ _ z=>z.elim
     ·show oO (σ₆.get acc) q3I=some 0
      rw[h9];rfl
     ·show oB (σ₆.get acc) (mObj σ₆ acc 0 [yy] _)=true
      rw[h9]
      exact h8
     ·refine oP.kE7 ?_;clear oP;intro W₇ σ₇ l₇ R₇ _ _ h11
      have l47:=l46.trans l₇
      exact⟨m,Nat.lt_succ_self m,W₇.out W,σ₇,it₂,gs₃,q5x l02 l47,q3C l02 l47 R₇,q9f l47 I₃,q4V l02 l47 F₃ R₇,q9g l47 R₇,hT₂,h11⟩
 focus (refine Z4 hf ?_ ?_;rotate_left;clear hf;intro o1;refine X1x2 o1 ?_;clear o1;intro cE o2 hc;subst o2;rotate_right;clear hf;intro o3;refine X0x2 o3 ?_;clear o3;intro o4 o5;subst o4;subst o5)
 ·exact key _ (qgR _ _ _) λW σ s kt kf O R h=>q03 (PQ.here R h)
 ·exact key _ (turn1 _ _ _ _) λW σ s kt kf O R h=>hc n W fs c X σ s kt kf O R h
end
theorem qdj{scope:Scope}{env:Env}{sc:Scope}(h:env.scope=sc):relabel scope env=relS scope sc:=by subst h;rfl
structure CompSc(sc scope:Scope):Prop where
 kind:scope.kind=.function
 noc:∀x∈scope.names,x.2≠.cell
 loc:∀x∈scope.names,x.2=.local→scope.names.lookup x.1=some .local
 free:∀x∈scope.names,x.2=.free→∃i,x.1=nm i∧(sc.names.lookup (nm i)=some .cell∨sc.names.lookup (nm i)=some .free)
theorem q5Z{is:List Nat}{sc scope:Scope}(h:q4z is sc scope=true):CompSc sc scope:=by
 unfold q4z at h
 simp only[Bool.and_eq_true,beq_iff_eq,List.all_eq_true,bne_iff_ne,Bool.or_eq_true,List.any_eq_true] at h
 refine X0x2 h ?_;clear h;intro h1 h2
 refine⟨h1,λx hx=>(h2 x hx).1.1,λx hx hl=>?_,λx hx hf=>?_⟩
 ·refine Z4 ((h2 x hx).1.2) (λh=>?_) λh=>?_
  ·exact absurd hl h
  ·exact h
 ·refine Z4 ((h2 x hx).2) (λh=>?_) λo1=>X1x3 o1 λi _ h3 h4=>?_
  ·exact absurd hf h
  ·exact⟨i,h3,h4⟩
theorem q4l{scope sc:Scope}(S:CompSc sc scope){y:Str}{k:NameKind}(h:(relS scope sc).names.lookup y=some k)(hk:k=.cell∨k=.free):(y,NameKind.free)∈scope.names:=by
 have:∀{l:List (Str×NameKind)},(∀x∈l,x.2≠.cell)→(l.map λ(n,k)=>if (k==.free&&sc.kind==.function&&sc.names.lookup n==some .cell) then(n,NameKind.cell) else(n,k)).lookup y=some k→(y,NameKind.free)∈l:=by
  intro l
  induction l with
  |nil=>intro _ h;exact zN h
  |cons p r ih=>
   obtain⟨n,kk⟩:=p
   intro hn h
   have hr:=ih λx hx=>hn x (.tail _ hx)
   rw[List.map_cons] at h
   by_cases hc:(kk==NameKind.free&&sc.kind==.function&&sc.names.lookup n==some .cell)=true
   ·simp only[hc,if_true] at h
    rw[List.lookup_cons] at h
    cases q:y==n with
    |true=>
     have:=beq_iff_eq.mp q
     subst this
     simp only[Bool.and_eq_true,beq_iff_eq] at hc
     rw[hc.1.1];exact .head _
    |false=>rw[q] at h;exact .tail _ (hr h)
   ·rw[Bool.not_eq_true] at hc
    simp only[hc,Bool.false_eq_true,if_false] at h
    rw[List.lookup_cons] at h
    cases q:y==n with
    |true=>
     have:=beq_iff_eq.mp q
     subst this
     rw[q] at h
     have h:some kk=some k:=h
     refine zI h ?_;clear h;rintro rfl
     focus (refine Z4 hk ?_ ?_;rotate_left;clear hk;rintro rfl;rotate_right;clear hk;rintro rfl)
     ·exact absurd rfl (hn _ (.head _))
     ·exact .head _
    |false=>rw[q] at h;exact .tail _ (hr h)
 exact this S.noc h
section
variable{B:Base}{W W' V:Wd}{fs:List Nat}{σ τ:S}{s s':Shared}{sc:Scope}{n:Nat}{c:Cx}{X:Fx}
theorem q9K{xa:SV}{it:It}(h2:q7s tb σ xa=some it):q2C it=false:=by
 cases xa with
 |bytes l=>have h2:some (It.byt l 0)=some it:=h2;(refine zI h2 ?_;clear h2;rintro rfl);rfl
 |old a=>(refine q02 (show oO (tb.tp a) (λ_=>some (It.tup (.old a) 0))=some it from h2) ?_;intro l _ h4);(refine zI h4 ?_;clear h4;rintro rfl);rfl
 |own k=>
  refine q02 (show oO (σ.get k) (q52 σ.kc k)=some it from h2) ?_;intro o _ h4
  cases o with
  |list xs=>have h4:some (It.lst k 0)=some it:=h4;(refine zI h4 ?_;clear h4;rintro rfl);rfl
  |tuple xs=>have h4:some (It.tup (.own k) 0)=some it:=h4;(refine zI h4 ?_;clear h4;rintro rfl);rfl
  |dictS es=>have h4:some (It.dct k 0 (len es) σ.kc)=some it:=h4;(refine zI h4 ?_;clear h4;rintro rfl);rfl
  |dictI es=>have h4:some (It.dct k 0 (len es) σ.kc)=some it:=h4;(refine zI h4 ?_;clear h4;rintro rfl);rfl
  |rng a b=>have h4:some (It.rng a (rlen a b))=some it:=h4;(refine zI h4 ?_;clear h4;rintro rfl);rfl
  |_=>exact zN h4
 |_=>exact zN h2
theorem ItR.self{it:It}{iv:Value}{gs:List (Addr×Obj)}{ds:List (Nat×Nat×Nat)}(hn:q2C it=false)(I:ItR B W it iv gs ds)(F:FreeAt B V s.heap gs){A:Around}{Q:Value→Shared→Prop}{E:Value→Shared→Prop}(h:Q iv s):wpAny (model B.prog B.w) A (pyIter iv) Q E s:=by
 cases it with
 |lst j i=>
  refine X3x6 I ?_;clear I;intro I o p o1 hp o2 hc hd' o3;subst o1;subst o2;subst o3
  exact wpAny_pyIter_listiter ⟨o,(F (I,o) (.head _)).1,hc,hd'⟩ h
 |tup u i=>
  refine X3x6 I ?_;clear I;intro I o a o1 hu o2 hc hd' o3;subst o1;subst o2;subst o3
  exact wpAny_pyIter_tupleiter ⟨o,(F (I,o) (.head _)).1,hc,hd'⟩ h
 |rng a n=>
  refine X2x5 I ?_;clear I;intro I o o1 o2 o3 hb o4;subst o1;subst o2;subst o3;subst o4
  exact wpAny_pyIter_rangeiter (F _ (.head _)).1 h
 |dct j i m cc=>
  refine X4x6 I ?_;clear I;intro I o p ep o1 hp o2 hc hd' o3;subst o1;subst o2;subst o3
  exact wpAny_pyIter_keyiter ⟨o,(F (I,o) (.head _)).1,hc,hd'⟩ h
 |enu j k i=>exact zT hn
 |byt l i=>
  refine X4x6 I ?_;clear I;intro I o b t o1 o2 hc hd' hb o3;subst o1;subst o2;subst o3
  exact KBw.pyIter_self ⟨o,(F (I,o) (.head _)).1,hc,hd'⟩ h
theorem FlyAt.keep{h h':Heap}{e C L:Addr}{fl:Value}(x:FlyAt B W h e C fl)(hs:Heap.SameBut L h h')(h1:e≠L)(h2:∃p:Fp,p∈W.ρ∧L∈p.all):FlyAt B W h' e C fl:=by
 refine x.kE18 ?_;clear x;intro o vs t T oT ts a b c d e1 e2 e3 e4 e5 e6 e7 e8
 refine X1x2 h2 ?_;clear h2;intro p hp hL
 have hT:T≠L:=λz=>e4 p hp (z▸hL)
 exact⟨o,vs,t,T,oT,ts,(hs.2 e h1).trans a,b,c,d,e1,e2,e3,e4,e5,(hs.2 T hT).trans e6,e7,e8⟩
theorem FreeAt.more{gs:List (Addr×Obj)}{h h':Heap}{p:Fp}(F:FreeAt B W h gs)(g:Grows h h')(hp:∀u∈p.all,h.objs.size≤u):FreeAt B (W.add p) h' gs:=λx hx=>by
 refine X0x5 (F x hx) ?_;intro a b c d e
 refine⟨g.keep _ _ a,b,λq hq hu=>?_,d,e⟩
 focus (refine Z4 (q1g hq) ?_ ?_;rotate_left;rintro rfl;rotate_right;intro hq)
 ·exact c q hq hu
 ·exact absurd (Z7 a) (Nat.not_lt.mpr (hp _ hu))
theorem DsOk.more{ds:List (Nat×Nat×Nat)}{h h':Heap}{p:Fp}{fs':List Nat}(D:DsOk W σ h fs ds)(g:Grows h h')(hn:σ.n≤τ.n)(hk:τ.kc=σ.kc)(hf:∀x∈fs',x∈fs∨σ.n≤x):DsOk (W.add p) τ h' fs' ds:=λq hq=>by
 refine X0x3 (D q hq) ?_;intro o1 c d;refine X0x2 o1 ?_;clear o1;intro a b
 refine⟨⟨Za a hn,λhx=>?_⟩,by rw[hk];exact c,λe=>?_⟩
 ·refine Z4 (hf _ hx) (λhx=>?_) λhx=>?_
  ·exact b hx
  ·lia
 ·refine X3x3 (d (by rw[←hk];exact e)) ?_;intro p' o es x y z
  exact⟨p',o,es,q0a (W.le_add p).ρ x,g.keep _ _ y,z⟩
theorem q5Y{elt:XC}{t:AC}{f:TC}{x:XC}{eltE target iter:Expr}{ifs:List Expr}{scope:Scope}{pos pos':Pos}(S:CompSc sc scope)(hcod:scode (relS scope sc)=none)(ht:SA B (relS scope sc) t target)(hx:SX B (relS scope sc) elt eltE)(hf:q8u B (relS scope sc) f ifs)(hit:SX B sc x iter)
  (hs:∀env x,foldedSetIterable iter env x=pure x) (use:Option (Value→Sem Unit)) (O:Ok B n sc W fs c X) (R:Rel B W fs σ s) {kv:KV} (h:cCom tb elt t x f c σ kv=true) {P:Value→Shared→Prop}
  (hend:∀(W':Wd)(σ' τ:Mine.Internal.S)(s':Shared)(q:Nat×Lo)(r:List (Nat×Lo))(k acc:Nat)(pa:Fp)(cenv:Env),W.le W'→Rel B W' (k::fs) σ' s'→σ'.frs=q::r→Same σ' τ σ'.n σ'.nv r→W'.ρ[q.1]?=some ⟨cenv.locals,[]⟩→W'.ρ[acc]?=some pa→kv (.own acc) τ=true→
   q60 (model B.prog B.w) X.A (QE B W fs X.fa c.kx) use P (.ref pa.a) cenv (.ok .next) s') :
  wpG (model B.prog B.w) X.A (comprehension (.ListComp eltE [⟨target,iter,ifs,0⟩] scope pos) scope X.env pos' (newList []) false (eval iter X.env) use) P (QE B W fs X.fa c.kx) s:=by
 refine X1x2 (q4C (env:=X.env) (scope:=scope) λy hy hfr=>by
  refine X1x2 (S.free y hy hfr) ?_;intro i e hk
  refine X2x3 (O.cells i hk) ?_;intro a q _ _ h3
  exact⟨q.a,by rw[e];exact h3⟩) ?_;intro cl hclos hcl
 refine q2M (g:=⟨target,iter,ifs,0⟩) (gs:=[]) rfl (hs _) hclos S.kind S.loc ?_
 refine q0D (hit n W fs c X σ s _ O R h) λa W₁ σ₁ s₁ l₁ R₁ oY4x0=>?_
 refine oY4x0.kE3 ?_;clear oY4x0;intro xa ha h₁
 refine q00 h₁ ?_;intro it h2 h3
 refine Mine.Internal.S.addK_true_E3 h3 ?_;intro τ A1 h4
 refine X1x2 (Mine.Internal.S.pushK_true h4) ?_;intro τ' Z h5
 have hne:=q9K h2
 refine toG (wpAny_mono (q9J R₁ h2 ha) (λiv s₂ oY3x0=>?_) λ_ _ z=>z)
 obtain⟨gs,ds,R₂,I,F,D⟩:=oY3x0
 have g3:Grows s₂.heap (s₂.heap.push (q09 [] 0)):=Grows.push _ _
 have R₃:Rel B (W₁.add ⟨s₂.heap.objs.size,[]⟩) fs τ {s₂ with heap:=s₂.heap.push (q09 [] 0),toks:=s₂.toks}:=R₂.push1 A1 rfl λh' e=>⟨[],0,e,.nil,by decide⟩
 refine toG (wpAny_newObj_type (toG (wpAny_newFunctionEnv S.noc (λy hy=>by cases hy) (λh' hns hsb=>?_) S.kind)) (by show ([]:List Value).toArray.size≤sizeLine;rw[sizeLine_eq];decide))
 have hk:∀b o,(s₂.heap.push (q09 [] 0)).get? b=some o→h'.get? b=some o:=λb o e=>hsb.extBut b o (Nat.ne_of_lt (Z7 e)) (Z5 _ e)
 refine X3x2 (id hns) ?_;intro on es ep hL _
 have R₄:=R₃.push (s':={s₂ with heap:=h',toks:=s₂.toks+0}) Z ⟨hk⟩ (Nat.le_refl _) ⟨_,hL⟩ hns (λi=>by show OptR _ (q0K [] i) _;rfl) rfl rfl
 have F₃:FreeAt B (W₁.add ⟨s₂.heap.objs.size,[]⟩) (s₂.heap.push (q09 [] 0)) gs:=F.more g3 λu hu=>by
  refine Z4 (List.mem_cons.mp hu) ?_ (λhu=>?_);rintro rfl
  ·exact Nat.le_refl _
  ·cases hu
 have F₄:FreeAt B ((W₁.add ⟨s₂.heap.objs.size,[]⟩).add ⟨(s₂.heap.push (q09 [] 0)).objs.size,[]⟩) h' gs:=F₃.more ⟨hk⟩ λu hu=>by
  refine Z4 (List.mem_cons.mp hu) ?_ (λhu=>?_);rintro rfl
  ·exact Nat.le_refl _
  ·cases hu
 have D₃:DsOk (W₁.add ⟨s₂.heap.objs.size,[]⟩) τ (s₂.heap.push (q09 [] 0)) fs ds:=D.more g3 (by rw[A1.n];exact Nat.le_succ _) A1.kc λx hx=>.inl hx
 have D₄:DsOk ((W₁.add ⟨s₂.heap.objs.size,[]⟩).add ⟨(s₂.heap.push (q09 [] 0)).objs.size,[]⟩) τ' h' (τ.n::fs) ds:=D₃.more ⟨hk⟩ (by rw[Z.n];exact Nat.le_succ _) Z.kc λx hx=>by
  refine Z4 (List.mem_cons.mp hx) ?_ (λhx=>?_);rintro rfl
  ·exact .inr (Nat.le_refl _)
  ·exact .inl hx
 have lW:W₁.le ((W₁.add ⟨s₂.heap.objs.size,[]⟩).add ⟨(s₂.heap.push (q09 [] 0)).objs.size,[]⟩):=(W₁.le_add _).trans (Wd.le_add _ _)
 have I₄:=I.mono lW
 have O₁:=(O.mono l₁).mono lW
 have hρacc:((W₁.add ⟨s₂.heap.objs.size,[]⟩).add ⟨(s₂.heap.push (q09 [] 0)).objs.size,[]⟩).ρ[σ₁.n]?=some ⟨s₂.heap.objs.size,[]⟩:=q0a (Wd.le_add _ _).ρ (R₂.add_at _)
 have hρloc:((W₁.add ⟨s₂.heap.objs.size,[]⟩).add ⟨(s₂.heap.push (q09 [] 0)).objs.size,[]⟩).ρ[τ.n]?=some ⟨(s₂.heap.push (q09 [] 0)).objs.size,[]⟩:=R₃.add_at _
 refine X2x2 O₁.top ?_;intro e₀ FE hfr he₀
 refine X1x2 O₁.around.frames ?_;intro FE' hfr' hfe
 have OX:Ok B n (relS scope sc) ((W₁.add ⟨s₂.heap.objs.size,[]⟩).add ⟨(s₂.heap.push (q09 [] 0)).objs.size,[]⟩) (τ.n::fs) ⟨c.call,c.cells,λj σ=>σ.popK (λσ=>c.x j σ)⟩
   ⟨X.A,compEnvC scope cl (s₂.heap.push (q09 [] 0)).objs.size X.env,X.fa⟩:=by
  refine⟨by show relabel scope X.env=_;exact qdj O.esc,S.kind,O.glo,O.bui,O.frame,⟨τ.n,fs,rfl,hρloc⟩,(by(refine X1x2 O₁.fao ?_;intro i hi b);exact⟨i,.tail _ hi,b⟩),⟨O₁.around.handled,O₁.around.depth,O₁.around.units,O₁.around.guards,FE',hfr',λe he=>?_⟩,⟨e₀,FE,hfr,he₀⟩,λi hi=>?_,(λa ha=>by rw[hcod] at ha;exact zN ha),O.call⟩
  ·refine X0x2 (hfe e he) ?_;intro k1 o1;refine X1x1 o1 ?_;clear o1;intro i o2;refine X0x2 o2 ?_;clear o2;intro hi o3;refine X1x2 o3 ?_;clear o3;intro g k2 k3
   exact⟨k1,i,.tail _ hi,g,k2,k3⟩
  ·have hmem:(nm i,NameKind.free)∈scope.names:=by
    refine Z4 hi (λhi=>?_) λhi=>?_
    ·exact q4l S hi (.inl rfl)
    ·exact q4l S hi (.inr rfl)
   refine X1x2 (S.free _ hmem rfl) ?_;intro i' e hk'
   have e:=q1n _ _ e
   subst e
   refine X2x3 (O₁.cells i hk') ?_;intro a' q q1 q2 q3
   exact⟨a',q,q1,q2,by show cl.lookup (nm i)=_;rw[hcl _ hmem rfl];exact q3⟩
 refine q3Y (qbL (X:=⟨X.A,compEnvC scope cl (s₂.heap.push (q09 [] 0)).objs.size X.env,X.fa⟩) ht hx hf OX hρacc (λz=>by rw[hne] at z;exact zF z) R₄ I₄ F₄ D₄ h5 (λW' σ' s' l' R' hk'=>?_) (λW' e s' l' q=>?_)) λQ E hq=>I₄.self hne F₄ hq
 ·refine X3x3 (Mine.Internal.S.popK_true hk') ?_;intro q r τ₂ e1 Z2 h6
  refine X1x2 (R'.head e1) ?_;intro fs2 e2 _
  have hq:q.1=τ.n:=(List.cons.inj e2).1.symm
  exact hend W' σ' τ₂ s' q r τ.n σ₁.n ⟨s₂.heap.objs.size,[]⟩ (compEnvC scope cl (s₂.heap.push (q09 [] 0)).objs.size X.env) ((l₁.trans lW).trans l') R' e1 Z2 (by rw[hq];exact q0a l'.ρ hρloc) (q0a l'.ρ hρacc) h6
 ·refine q.kE13 ?_;clear q;intro W₅ σ₅ j p C l₅ R₅ hp hj hjf he hfl hk'
  subst he
  refine wpAny_mono (q4Y ((OX.mono l').mono l₅).around R₅ ⟨e₀,FE,hfr,he₀⟩ O.frame hp hj hjf hfl) (λ_ s₆ oY2x0=>?_) λ_ _ z=>z
  refine X0x2 oY2x0 ?_;clear oY2x0;intro R₆ h₆
  refine X3x3 (Mine.Internal.S.popK_true hk') ?_;intro q r τ₂ e1 Z2 h7
  refine X1x2 (R₆.head e1) ?_;intro fs2 e2 _
  have hq:q.1=τ.n:=(List.cons.inj e2).1.symm
  have hL₅:W₅.ρ[q.1]?=some ⟨(s₂.heap.push (q09 [] 0)).objs.size,[]⟩:=by rw[hq];exact q0a l₅.ρ (q0a l'.ρ hρloc)
  refine X2x3 (R₆.frame e1) ?_;intro L' f' k1 k2 _
  rw[hL₅] at k1;cases k1
  refine⟨f',k2,λh'' m' hn'' hs''=>?_⟩
  refine X3x2 hn'' ?_;clear hn'';intro o'' _ _ ho'' _
  have R₇:Rel B W₅ fs τ₂ {s₆ with heap:=h''}:=R₆.popL e1 Z2 hL₅ hs'' ⟨o'',ho''⟩
  have hne':p.a≠(s₂.heap.push (q09 [] 0)).objs.size:=λz=>by
   have hjq:j≠q.1:=λz=>hjf (by rw[z,hq];exact .head _)
   exact R₆.sep j q.1 p _ hp hL₅ hjq p.a (.head _) (z▸.head _)
  have h₇:=h₆.keep hs'' hne' ⟨_,Zd hL₅,.head _⟩
  unfold PySem.passOn
  obtain⟨oe,vs,t',T,oT,ts,f1,f2,f3,f4,f5,f6⟩:=id h₇
  refine Z0 (wpAny_field (s:={s₆ with heap:=h''}) f1 f3 f5 ?_)
  rw[if_neg (by simp)]
  refine Z0 ?_
  show wpAny _ _ (setFlight (.ref p.a) X.env.frame) _ _ _
  rw[O.frame]
  refine wpAny_mono (q1V R₇ h₇) (λ_ s₈ oP=>wpAny_throw ?_) λ_ _ z=>z
  refine X0x2 oP ?_;clear oP;intro R₈ h₈
  exact⟨W₅,τ₂,j,p,C,((l₁.trans lW).trans l').trans l₅,R₈,hp,by rw[Z2.get];exact hj,λhf=>hjf (.tail _ hf),rfl,h₈.fly (.inr rfl),by rw[Cx.x_eq] at h7;exact h7⟩
theorem qeO{elt:XC}{t:AC}{f:TC}{x:XC}{eltE target iter:Expr}{ifs:List Expr}{scope:Scope}{pos:Pos}(is:List Nat)(S:q4z is sc scope=true)(hcod:scode (relS scope sc)=none)(ht:SA B (relS scope sc) t target)(hx:SX B (relS scope sc) elt eltE)(hf:q8u B (relS scope sc) f ifs)(hit:SX B sc x iter)
  (hs:∀env x,foldedSetIterable iter env x=pure x):SX B sc (cCom tb elt t x f) (.ListComp eltE [⟨target,iter,ifs,0⟩] scope pos):=λn W fs c X σ s kv O R h=>by
 rw[eval_ListComp]
 show wpG _ _ (comprehension (.ListComp eltE [⟨target,iter,ifs,0⟩] scope pos) scope X.env _ (newList []) false (eval iter X.env)) _ _ s
 refine q5Y (q5Z S) hcod ht hx hf hit hs none O R h λW' σ' τ s' q r k acc pa cenv l R' e Z hL ha hk=>?_
 refine X2x3 (R'.frame e) ?_;intro L' f' k1 k2 _
 rw[hL] at k1;cases k1
 exact⟨f',k2,λh'' m' hn'' hs''=>by
  refine X3x2 hn'' ?_;clear hn'';intro o'' _ _ ho'' _
  exact⟨W',τ,l,R'.popL e Z hL hs'' ⟨o'',ho''⟩,.own acc,q12 ha,hk⟩⟩
end
end
section
open PySem PySem.W PyProof.Rows
variable{B:Base}{W W' V:Wd}{fs:List Nat}{σ τ:S}{s s':Shared}{sc:Scope}{n:Nat}{c:Cx}{X:Fx}
theorem Rel.lostD(R:Rel B W fs σ s){k:Nat}{L:Addr}{h':Heap}(hL:W.ρ[k]?=some ⟨L,[]⟩)(hg:σ.get k=none)(nd:k∉fs)(hδ:∀q∈W.δ,q.1≠k)(hs:Heap.SameBut L s.heap h')(hn:∃o,h'.get? L=some o):Rel B W fs σ {s with heap:=h'}:=by
 have ne:∀{j:Nat}{p:Fp},W.ρ[j]?=some p→j≠k→∀x∈p.all,x≠L:=λej hj x hx z=>R.sep _ _ _ _ ej hL hj x hx (z▸.head _)
 have hb:=R.own' hL L (.head _)
 refine⟨R.len,R.lenv,R.bound,λj o p h hp=>?_,R.sep,λp hp x hx=>?_,R.old.step_same hb.1 hs,R.lim.sameBut hs ?_,R.vars,R.gens,R.os,R.fids,λx hx=>?_,R.frn,R.fnd,
  λx hx=>⟨(hs.2 _ λz=>(R.fz x hx).2.2 _ (Zd hL) (z▸.head _)).trans (R.fz x hx).1,(R.fz x hx).2⟩,R.epn,λy hy=>⟨(R.eps y hy).1,λh=>?_⟩⟩
 ·have hk:j≠k:=λz=>by rw[z,hg] at h;exact zN h
  exact(R.objs j o p h hp).mono (Wd.le.refl W) λx hx _ z=>(hs.2 x (ne hp hk x hx)).trans z
 ·refine X0x2 (R.own p hp x hx) ?_;intro c o1;refine X1x1 o1 ?_;clear o1;intro o' e'
  refine⟨c,?_⟩
  by_cases z:x=L
  ·rw[z];exact hn
  ·exact⟨o',(hs.2 x z).trans e'⟩
 ·intro z
  have h1:=B.low
  have h2:cStatics<20:=by decide
  rw[z] at h2
  exact absurd (Za h2 (Nat.le_trans h1 hb.1)) (Nat.lt_irrefl _)
 ·refine X2x3 (R.frs x hx) ?_;intro L' f' a o1 d;refine X3x2 o1 ?_;clear o1;intro o es ep b c
  have hx':x.1≠k:=λz=>nd (by rw[←z,←R.fids];exact List.mem_map_of_mem hx)
  exact⟨L',f',a,⟨o,es,ep,(hs.2 L' (ne a hx' _ (.head _))).trans b,c⟩,d⟩
 ·refine X3x3 ((R.eps y hy).2 h) ?_;intro p o es a b c
  exact⟨p,o,es,a,(hs.2 p.a (ne a (hδ y hy) _ (.head _))).trans b,c⟩
theorem qd5{i:Nat}{x:Str}{np:Pos}{elt:XC}{t:AC}{f:TC}{y:XC}{eltE target iter:Expr}{ifs:List Expr}{scope:Scope}{pos cpos:Pos}(is:List Nat)(S:q4z is sc scope=true)(hcod:scode (relS scope sc)=none)(ht:SA B (relS scope sc) t target)(hx:SX B (relS scope sc) elt eltE)(hf:q8u B (relS scope sc) f ifs)(hit:SX B sc y iter)
  (hl:sc.names.lookup x=some .local) (hxn:nm i=x) (hline:(np.line==cpos.line)=true) (hno:(scope.names.any λ(n,k)=>n==x&&(k==.local||k==.cell))=false) (hs:∀env x,foldedSetIterable iter env x=pure x) :
  SS B sc (sAsg (aLoc i) (cCom tb elt t y f)) (.Assign [.Name x np] (.ListComp eltE [⟨target,iter,ifs,0⟩] scope cpos) pos):=λn W fs c X σ s kr kn O R h=>by
 have hsw:swapsWithSole [.Name x np] (.ListComp eltE [⟨target,iter,ifs,0⟩] scope cpos) pos.line X.env=pure true:=by
  show (pure (X.env.blockKind==.function&&X.env.kindOf x==some .local&&np.line==cpos.line&&!(scope.names.any λ(n,k)=>n==x&&(k==.local||k==.cell))):Sem Bool)=pure true
  have h1:X.env.blockKind=.function:=by unfold Env.blockKind;rw[O.esc,O.kind];rfl
  have h2:X.env.kindOf x=some .local:=by unfold Env.kindOf;rw[O.esc];exact hl
  rw[h1,h2,hline,hno];rfl
 rw[exec_Assign_arm]
 refine q01 (q07 ?_)
 rw[hsw]
 refine q01 (q03 ?_)
 rw[if_pos rfl]
 show wpG _ _ ((comprehension (.ListComp eltE [⟨target,iter,ifs,0⟩] scope cpos) scope X.env _ (newList []) false (eval iter X.env) (some λv=>assign (.Name x np) X.env v)>>=λ_=>pure ())>>=λ_=>pure Flow.next) _ _ s
 refine q01 (q01 (q05 (q5Y (P:=λ_ s'=>PQ B W fs (QF kr kn) .next s') (q5Z S) hcod ht hx hf hit hs (some λv=>assign (.Name x np) X.env v) O R h λW' σ' τ s' q r k acc pa cenv l R' e Z hL ha hk=>?_) (λ_ s' z=>q03 (q03 z)) λ_ _ z=>z))
 have hk:aLoc i (.own acc) c τ kn=true:=hk
 refine X4x3 (Mine.Internal.S.setLocK_true hk) ?_;intro a m r₁ τ₂ e1 Z1 h1
 have Rp:=R'.pop e Z
 refine X2x3 (Rp.frame e1) ?_;intro L₁ f₁ h5 h6 h7
 refine X2x2 O.loc ?_;intro fr fs' h8 h9
 refine X1x2 (Rp.head e1) ?_;intro fs'' h10 _
 have h10:fs=a::fs'':=h10
 have:a=fr:=by rw[h8] at h10;exact(List.cons.inj h10).1.symm
 subst this
 have h5':=h5
 rw[q0a l.ρ h9] at h5'
 cases h5'
 refine X2x3 (R'.frame e) ?_;intro Lc fc hc5 hc6 _
 rw[hL] at hc5;cases hc5
 have hkk:k=q.1:=by(refine X1x2 (R'.head e) ?_;intro _ z _);exact(List.cons.inj z).1
 have nd:q.1∉fs:=by have:=R'.fnd;rw[hkk] at this;exact(List.nodup_cons.mp this).1
 have haq:a≠q.1:=λz=>nd (by rw[h8,←z];exact .head _)
 have hne:X.env.locals≠cenv.locals:=λz=>R'.sep a q.1 _ _ h5 hL haq X.env.locals (.head _) (z▸.head _)
 show wpG _ _ (do standAt np;bindName X.env x (.ref pa.a)) _ _ _
 refine toG<|Z0 (wpAny_standAt (wpAny_bindName (wpAny_storeName_local (by unfold Env.kindOf;rw[O.esc];exact hl) h6 (λh' hn hsb=>?_) (by rw[O.esc,O.kind];rfl))))
 have hnc:h'.Ns cenv.locals fc:=by
  refine X3x2 hc6 ?_;clear hc6;intro o es ep z1 z2
  exact⟨o,es,ep,(hsb.2 _ (Ne.symm hne)).trans z1,z2⟩
 refine⟨fc,hnc,λh'' m' hn'' hs''=>?_⟩
 refine X3x2 hn'' ?_;clear hn'';intro o'' _ _ ho'' _
 have R₂:Rel B W' fs τ₂ {s' with heap:=h',toks:=s'.toks+1}:=(Rp.toks (t:=s'.toks+1)).setLoc (s':={s' with heap:=h',toks:=s'.toks+1}) e1 Z1 h5 h7 (q12 ha) (by rw[hxn];exact hn) hsb rfl rfl
 have hg:τ₂.get q.1=none:=by rw[Z1.get,Z.get];exact R'.frn q.1 (by rw[hkk];exact .head _)
 exact⟨W',τ₂,l,R₂.lostD hL hg nd (λy hy z=>(R'.epn y hy).2 (by rw[z,hkk];exact .head _)) hs'' ⟨o'',ho''⟩,h1⟩
end
section
open PySem PySem.W PyProof.Rows
variable{B:Base}{W W' V:Wd}{fs:List Nat}{σ τ:S}{s s':Shared}{sc:Scope}{n:Nat}{c:Cx}{X:Fx}
theorem q0U{T:String}:Keeps B (.type T) s:=λA Q E hA h=>by
 unfold keeperOf
 exact Z3 (h _)
noncomputable def on1(k:SV→Bool):List SV→Bool
 |[v]=>k v
 |_=>false
noncomputable def on2(k:SV→SV→Bool):List SV→Bool
 |[v,w]=>k v w
 |_=>false
theorem qdw{k:SV→Bool}{xs:List SV}(h:on1 k xs=true):arg1 xs k=true:=by
 cases xs with
 |nil=>exact h
 |cons a r=>cases r with
  |nil=>exact h
  |cons b q=>cases q<;>exact h
theorem qdv{k:SV→SV→Bool}{xs:List SV}(h:on2 k xs=true):arg2 xs k=true:=by
 cases xs with
 |nil=>exact h
 |cons a r=>cases r with
  |nil=>exact h
  |cons b q=>cases q<;>exact h
theorem qdu{xs:List SV}{vs:List Value}{k:SV→Bool}(h:VRs W xs vs)(e:on1 k xs=true):∃x v,xs=[x]∧vs=[v]∧VR W x v∧k x=true:=q0S (qdw e) h
theorem q6V{xs:List SV}{vs:List Value}{k:SV→SV→Bool}(h:VRs W xs vs)(e:on2 k xs=true):∃x y v w,xs=[x,y]∧vs=[v,w]∧VR W x v∧VR W y w∧k x y=true:=q43 (qdv e) h
theorem qd2{t:AC}{x:XC}{b:SC}{target xE:Expr}{body:List Stmt}{np cpos pos:Pos}{i:Nat}(ht:SA B sc t target)(hx:SX B sc x xE)(hb:SSs B sc b body)(hk:sc.names.lookup ("enumerate":Str)=some .globalImplicit)(htt:q2B target=true)
  (hg:alook glo i=some (.ty 7)) (hn:nm i="enumerate") (hf:∀env x,foldedSetIterable (.Call (.Name "enumerate" np) [xE] [] cpos) env x=pure x) (hp:Plain [xE])
  (he:∀env,eval (.Call (.Name "enumerate" np) [xE] [] cpos) env=(do callWith cpos (←eval (.Name "enumerate" np) env) [] (backTo cpos (starEach [xE] env)) [])) (hs1:∀env,starEach [xE] env=(false,eval xE env)::starEach [] env) :
  SS B sc (qfp tb t x b) (.For target (.Call (.Name "enumerate" np) [xE] [] cpos) body [] pos):=λn W fs c X σ s kr kn O R h=>by
 refine X1x2 (B.ld i _ hg) ?_;intro v hv hl
 have hv:v=.type (tyNm 7):=hv W
 have hv:v=.type "enumerate":=hv
 subst hv
 rw[hn] at hl
 refine q4J ?_ (hf _)
 rw[he]
 refine q01 (toG (Calls.Name_function_global (by rw[O.esc];exact O.kind) (by unfold Env.kindOf;rw[O.esc];exact hk) (hl _ _ _ X.env s R.old.k O.glo O.bui ?_) (by decide)))
 refine q0q O.around.handled (q0z (hp _)) ?_
 have h:(q4H x xNil) c σ (λl σ=>on1 (λv=>oB (wOf v) (λj=>oB (oO (σ.get j) lOf) (λ_=>q8d tb t b 60 (.enu 0 j 0) c σ kr kn))) l)=true:=h
 refine q0D (q14 hx q2N hs1 n W fs c X σ s _ cpos O R h) λvs W₁ σ₁ s₁ l₁ R₁ oP=>⟨q0U,?_⟩
 refine oP.kE3 ?_;clear oP;intro xs hxs h₁
 refine X2x4 (qdu hxs h₁) ?_;intro xa a o1 o2 ha h₁;subst o1;subst o2
 refine q00 h₁ ?_;intro j h2 h3
 refine q00 h3 ?_;intro l h4 h5
 refine q02 h4 ?_;intro o h6 h7
 rw[q25 h7] at h6
 rw[q0L h2] at ha
 refine X1x2 ha ?_;clear ha;intro p hp' o1;subst o1
 refine X2x3 (R₁.objs _ _ _ h6 hp') ?_;intro ws m e1 e2 e3
 refine toG (call_enumerate_1 (items:=ws.toArray) (n:=m) e1 λh' hE hI hsz hkeep=>?_)
 refine toG (wpAny_pyIter_enum hE ?_)
 have R₂:Rel B W₁ fs σ₁ {s₁ with heap:=h'}:=R₁.grow (s':={s₁ with heap:=h'}) ⟨hkeep⟩ rfl rfl
 refine X1x3 hI ?_;clear hI;intro oI i1 i2 i3
 have fr:∀u,s₁.heap.objs.size≤u→(∀q:Fp,q∈W₁.ρ→u∉q.all)∧∀y∈W₁.γ,y.1≠u:=λu hu=>⟨λq hq hm=>by(refine X0x2 (R₁.own q hq u hm) ?_;intro _ o1;refine X1x1 o1 ?_;clear o1;intro o e);exact absurd (Z7 e) (Nat.not_lt.mpr hu),λy hy z=>by
  have:=Z7 (R₁.fz y (List.mem_append_right _ hy)).1
  rw[z] at this;exact absurd this (Nat.not_lt.mpr hu)⟩
 have F:FreeAt B W₁ h' [(s₁.heap.objs.size+1,⟨.type "enumerate",none,.fields #[.none,.bool false,.ref s₁.heap.objs.size,rawInt 0,.none,.none],#[]⟩),(s₁.heap.objs.size,oI)]:=λg hg=>by
  refine Z4 (List.mem_cons.mp hg) ?_ (λhg=>?_);rintro rfl
  ·exact⟨hE,Nat.le_trans R₁.le (Nat.le_succ _),(fr _ (Nat.le_succ _)).1,(fr _ (Nat.le_succ _)).2,rfl⟩
  ·rw[List.mem_singleton.mp hg]
   exact⟨i1,R₁.le,(fr _ (Nat.le_refl _)).1,(fr _ (Nat.le_refl _)).2,by unfold q2D;rw[i2];rfl⟩
 have L:=q7w q4X ht hb (O.mono l₁) (λ_=>htt) R₂ (it:=.enu 0 j 0) (iv:=.ref (s₁.heap.objs.size+1)) (ds:=[])
  ⟨s₁.heap.objs.size+1,s₁.heap.objs.size,_,oI,p,.none,rfl,hp',rfl,rfl,i2,i3,rfl,Nat.succ_ne_self _,rfl⟩ F (λq hq=>by cases hq) h5
 exact q0V L λr s' z=>by
  cases r with
  |ok f=>exact z.weaken l₁
  |error e=>exact wpAny_mono z (λ_ _ q=>q.weaken l₁) λ_ _ q=>q.weaken l₁
end
section
open PySem PySem.W PyProof.Rows
theorem q6R{N a b:Nat}(h1:a<N)(h2:b<N):ZipApart (N+4) (N+2) (N+3) N (N+1) a b:=by
 constructor<;>first|exact Nat.ne_of_lt (by lia)|exact Nat.ne_of_gt (by lia)
section
variable{B:Base}{W W' V:Wd}{fs:List Nat}{σ τ:S}{s s':Shared}{sc:Scope}{n:Nat}{c:Cx}{X:Fx}
theorem qd1{x y:XC}{target xE yE:Expr}{body:List Stmt}{np cpos pos:Pos}{i:Nat}(hx:SX B sc x xE)(hy:SX B sc y yE)(hk:sc.names.lookup ("zip":Str)=some .globalImplicit)
  (hg:alook glo i=some (.ty 5)) (hn:nm i="zip") (hf:∀env x,foldedSetIterable (.Call (.Name "zip" np) [xE,yE] [] cpos) env x=pure x) (hp:Plain [xE,yE])
  (he:∀env,eval (.Call (.Name "zip" np) [xE,yE] [] cpos) env=(do callWith cpos (←eval (.Name "zip" np) env) [] (backTo cpos (starEach [xE,yE] env)) []))
  (hs1:∀env,starEach [xE,yE] env=(false,eval xE env)::starEach [yE] env) (hs2:∀env,starEach [yE] env=(false,eval yE env)::starEach [] env) :
  SS B sc (qfo x y) (.For target (.Call (.Name "zip" np) [xE,yE] [] cpos) body [] pos):=λn W fs c X σ s kr kn O R h=>by
 refine X1x2 (B.ld i _ hg) ?_;intro v hv hl
 have hv:v=.type (tyNm 5):=hv W
 have hv:v=.type "zip":=hv
 subst hv
 rw[hn] at hl
 refine q4J ?_ (hf _)
 rw[he]
 refine q01 (toG (Calls.Name_function_global (by rw[O.esc];exact O.kind) (by unfold Env.kindOf;rw[O.esc];exact hk) (hl _ _ _ X.env s R.old.k O.glo O.bui ?_) (by decide)))
 refine q0q O.around.handled (q0z (hp _)) ?_
 have h:(q4H x (q4H y xNil)) c σ (λl σ=>on2 (λv u=>oB (q0N σ v) (λl=>oB (q0N σ u) (λ_=>bi (q0s l) (kn σ) false))) l)=true:=h
 refine q0D (q14 hx (q14 hy q2N hs2) hs1 n W fs c X σ s _ cpos O R h) λvs W₁ σ₁ s₁ l₁ R₁ oP=>⟨q0U,?_⟩
 refine oP.kE3 ?_;clear oP;intro xs hxs h₁
 refine X4x5 (q6V hxs h₁) ?_;intro xa xb a b o1 o2 ha hb h₁;subst o1;subst o2
 refine q00 h₁ ?_;intro l h2 h3
 refine q00 h3 ?_;intro l' h4 h5
 refine q06 h5 ?_;intro h6 h7
 refine R₁.lst_E11 h2 ha ?_;intro k p vs m _ _ hp1 o1 e1 e2 _;subst o1
 refine R₁.lst_E11 h4 hb ?_;intro k' p' vs' m' _ _ hp2 o1 e1' e2' _;subst o1
 have hnil:vs=[]:=by
  cases l with
  |nil=>cases e2;rfl
  |cons _ _=>exact zF h6
 subst hnil
 refine toG (call_zip_2 (xs:=([]:List Value).toArray) (ys:=vs'.toArray) (q0b e1) (q0b e1') λh' z1 z2 z3 z4 z5 z6 z7=>?_)
 refine toG (wpAny_pyIter_zip z1 ?_)
 have lt1:=Z7 e1
 have lt2:=Z7 e1'
 have R₂:Rel B W₁ fs σ₁ {s₁ with heap:=h'}:=R₁.grow (s':={s₁ with heap:=h'}) ⟨z7⟩ rfl rfl
 refine q1y (λm s'=>m=0∧s'={s₁ with heap:=h'}) ?_ 0 ⟨rfl,rfl⟩
 intro m s' oP
 refine X0x2 oP ?_;clear oP;intro o1 o2;subst o1;subst o2
 refine toG (wpAny_pyNext_zip_end (xs:=([]:List Value).toArray) (ys:=vs'.toArray) O.around.handled (q6R lt1 lt2) z1 z2 z3 z4 z5 ⟨_,z7 _ _ e1,rfl,_,rfl⟩ ⟨_,z7 _ _ e1',rfl,_,rfl⟩ (.inl rfl) λh'' hk'=>?_)
 refine q0p ⟨W₁,σ₁,l₁,R₂.heap (s':={s₁ with heap:=h''}) (λu o hu e=>?_) rfl rfl,h7⟩
 have hlt:u<s₁.heap.objs.size:=by
  focus (refine Z4 hu ?_ ?_;rotate_left;clear hu;intro o1;refine Z4 o1 ?_ ?_;rotate_left;clear o1;intro o2;refine X1x2 o2 ?_;clear o2;intro g hg o3;subst o3;rotate_right;clear o1;intro o4;refine X1x2 o4 ?_;clear o4;intro q hq hu;rotate_right;clear hu;intro hu)
  ·exact Za hu R₁.le
  ·refine X0x2 (R₁.own q hq u hu) ?_;intro _ o1;refine X1x1 o1 ?_;clear o1;intro ob eo
   exact Z7 eo
  ·exact Z7 (R₁.fz g hg).1
 exact hk' u o (Nat.ne_of_lt (Za hlt (Nat.le_add_right _ _))) (Nat.ne_of_lt (Za hlt (Nat.le_add_right _ _))) (Nat.ne_of_lt hlt) (Nat.ne_of_lt (Za hlt (Nat.le_add_right _ _))) e
theorem qcO{pos:Pos}:SX B sc qgF (.Dict [] [] pos):=λn W fs c X σ s kv O R h=>by
 refine S.addK_true_E3 (show σ.addK (.dictS []) (λn σ=>kv (.own n) σ)=true from h) ?_;intro τ A h
 refine toG (wpAny_Dict_empty ?_)
 exact PQ.new1 (t:=s.toks) R A (o:=.dictS []) (ob:={cls:=.type "dict",data:=.dict #[]}) rfl (λh' e=>⟨[],0,⟨_,#[],e,⟨rfl,rfl,rfl⟩,rfl,(by intro i hi;simp at hi),.nil,List.nodup_nil⟩,.nil,by decide⟩) h
noncomputable def QVd(ks:List (List Nat))(k:List (List Nat×SV)→S→Bool):List (Value×Value)→Wd→S→Prop:=λvs W σ=>∃es kvs,es.map (·.1)=ks∧All2 (q5f W) es kvs∧(∀B:Base,Carries (strKind B.prog B.w) vs kvs)∧k es σ=true
noncomputable def q1N(keys:List (Option Expr))(values:List Expr)(env:Env)(pos:Pos):List (Sem Value×Sem Value):=match keys,values with
 |some k::ks,v::vs=>(eval k env,do let x ←eval v env;standAt pos;pure x)::q1N ks vs env pos
 |_,_=>[]
noncomputable def SXd(B:Base)(sc:Scope)(x:XdC)(ks:List (List Nat))(keys:List (Option Expr))(values:List Expr):Prop:=∀(n:Nat)(W:Wd)(fs:List Nat)(c:Cx)(X:Fx)(σ:S)(s:Shared)(kv:List (List Nat×SV)→S→Bool)(pos:Pos),Ok B n sc W fs c X→Rel B W fs σ s→x c σ kv=true→
 wpG (model B.prog B.w) X.A (evalPairs (q1N keys values X.env pos)) (PQ B W fs (QVd ks kv)) (QE B W fs X.fa c.kx) s
theorem qcM:SXd B sc dNil [] [] []:=λn W fs c X σ s kv pos O R h=>q03 (PQ.here R ⟨[],[],rfl,.nil,λ_=>trivial,h⟩)
theorem qaT{l:List Nat}{z:Str}{kk:Nat}{kp:Pos}{x:XC}{r:XdC}{e:Expr}{ks:List (List Nat)}{keys:List (Option Expr)}{values:List Expr}(hx:SX B sc x e)(hr:SXd B sc r ks keys values)(hz:z=⟨l.toArray⟩)(hl:l.length≤4096) :
  SXd B sc (qgz l x r) (l::ks) (some (.Constant (.str z) kk kp)::keys) (e::values):=λn W fs c X σ s kv pos O R h=>by
 show wpG _ _ (evalPairs ((eval (.Constant (.str z) kk kp) X.env,do let x ←eval e X.env;standAt pos;pure x)::q1N keys values X.env pos)) _ _ s
 rw[evalPairs]
 refine q01 (toG (wpAny_Constant_str ?_))
 refine q01 (q04 (q01 (q0D (hx n W fs c X σ _ _ O R.toks h) λv W₁ σ₁ s₁ l₁ R₁ oP=>q01 (q07 (q03 ?_)))))
 refine oP.kE3 ?_;clear oP;intro y hy h₁
 refine q01 (q04 (q05 (hr n W₁ fs c X σ₁ s₁ _ pos (O.mono l₁) R₁ h₁) (λvs s₂ oP=>q03 ?_) λ_ _ q=>q.weaken l₁))
 obtain⟨W₂,σ₂,l₂,R₂,es,kvs,e1,e2,e3,h₂⟩:=oP
 exact⟨W₂,σ₂,l₁.trans l₂,R₂,(l,y)::es,(z,v)::kvs,by rw[List.map_cons,e1],.cons ⟨hz,hl,hy.mono l₂⟩ e2,λB'=>⟨q1S,rfl,e3 B'⟩,h₂⟩
theorem q33:∀{kvs acc:List (Str×Value)},(acc.map (·.1)++kvs.map (·.1)).Nodup→merged acc kvs=acc++kvs
 |[],acc,_=>by simp[merged]
 |(k,v)::r,acc,h=>by
  have hs:stored acc k v=acc++[(k,v)]:=by
   have hk:k∉acc.map (·.1):=λhm=>by
    rw[List.nodup_append] at h
    exact h.2.2 k hm k (by simp) rfl
   unfold stored
   rw[if_neg]
   simp only[List.any_eq_true,decide_eq_true_eq,not_exists,not_and]
   intro p hp e
   exact hk (e▸List.mem_map_of_mem hp)
  show merged (stored acc k v) r=_
  rw[hs,q33]
  ·simp
  ·simpa[List.append_assoc] using h
theorem qeN{d:XdC}{ks:List (List Nat)}{keys:List (Option Expr)}{values:List Expr}{pos:Pos}(hd:SXd B sc d ks keys values)(hn:ks.Nodup)(h0:keys≠[])(hlen:keys.length≤15)
  (hsh:∀env,(evalEachOpt keys env).zip ((evalEach values env).map λv=>do let x ←v;standAt pos;pure x)=(q1N keys values env pos).map λp=>(some p.1,p.2)) (hpl:∀env,(q1N keys values env pos).length=keys.length) :
  SX B sc (cDic d) (.Dict keys values pos):=λn W fs c X σ s kv O R h=>by
 refine S.addK_true_E3 (show σ.addK (.dictS []) (λn σ=>d c σ (λes σ=>oB (oO (σ.get n) dsOf) (λl=>bi (q0s l) (σ.putSK n es (λσ=>kv (.own n) σ)) false)))=true from h) ?_;intro τ A h
 rw[arm_eval_Dict,hsh]
 have hp0:q1N keys values X.env pos≠[]:=λz=>h0 (List.length_eq_zero_iff.mp (by rw[←hpl X.env,z];rfl))
 rw[dictDisplay_pairs _ hp0 (by rw[hpl];lia)]
 refine q01 (q07 (q01 ?_))
 unfold subDict
 refine q01 (toG (wpAny_alloc ?_))
 refine q01 (q04 ?_)
 rw[if_pos (by rw[hpl];exact hlen)]
 have R₁:Rel B (W.add ⟨s.heap.objs.size,[]⟩) fs τ {s with heap:=s.heap.push {cls:=.type "dict",data:=.dict #[]},toks:=s.toks}:=R.push1 A (o:=.dictS []) rfl λh' e=>⟨[],0,⟨_,#[],e,⟨rfl,rfl,rfl⟩,rfl,(by intro i hi;simp at hi),.nil,List.nodup_nil⟩,.nil,by decide⟩
 refine q01 (q05 (hd n (W.add ⟨s.heap.objs.size,[]⟩) fs c X τ _ _ pos (O.mono (W.le_add _)) R₁ h) (λvs s₂ oY1x0=>?_) λ_ _ q=>q.weaken (W.le_add _))
 obtain⟨W₂,σ₂,l₂,R₂,es,kvs,e1,e2,e3,h₂⟩:=oY1x0
 refine q00 h₂ ?_;intro l h3 h4
 refine q02 h3 ?_;intro o h5 h6
 rw[q1q h6] at h5
 refine q06 h4 ?_;intro h7 h8
 have hl:l=[]:=by cases l with|nil=>rfl|cons _ _=>exact zF h7
 subst hl
 have hp₂:W₂.ρ[σ.n]?=some ⟨s.heap.objs.size,[]⟩:=q0a l₂.ρ (R.add_at _)
 refine X2x3 (R₂.objs _ _ _ h5 hp₂) ?_;intro kvs0 ep hat hz _
 cases hz
 refine q04 ?_
 have hks:es.length=ks.length:=by rw[←e1];simp
 have hnd:(kvs.map (·.1)).Nodup:=by
  have hn':(es.map (·.1)).Nodup:=by rw[e1];exact hn
  clear h₂ h8 e1 hks e3 h4
  induction e2 with
  |nil=>exact List.nodup_nil
  |@cons a b l l' hp hr ih=>
   rw[List.map_cons,List.nodup_cons] at hn'⊢
   refine⟨λhm=>hn'.1 ?_,ih hn'.2⟩
   refine X1x2 (List.mem_map.mp hm) ?_;intro q hq eq
   have:∀{l:List (List Nat×SV)}{l':List (Str×Value)},All2 (q5f W₂) l l'→q∈l'→∃z∈l,q.1=⟨z.1.toArray⟩:=by
    intro l l' h
    induction h with
    |nil=>intro h;cases h
    |cons x y ih=>
     intro h
     refine Z4 (List.mem_cons.mp h) ?_ (λh=>?_);rintro rfl
     ·exact⟨_,.head _,x.1⟩
     ·(refine X1x2 (ih h) ?_;intro z hz ez);exact⟨z,.tail _ hz,ez⟩
   refine X1x2 (this hr hq) ?_;intro z hz ez
   have:a.1=z.1:=q3w.mp (by rw[←hp.1,←ez,eq])
   rw[this];exact List.mem_map_of_mem hz
 have hkl:ks.length≤4096:=by
  refine q06 h8 ?_;intro hsm _
  have:=q0A hsm
  lia
 have hlen2:([]:List (Str×Value)).length+kvs.length≤sizeLine:=by
  have e:=e2.length
  have:=q0i hkl
  simp only[List.length_nil];lia
 refine q01 (toG (wpAny_storeAll (knd:=strKind B.prog B.w) vs kvs [] s₂ _ (e3 B) hat.dictOf hlen2 λh' hm' hs'=>q03 (q03 ?_)))
 rw[q33 (by simpa using hnd),List.nil_append] at hm'
 refine X1x2 (q4R (h':=h') (t:=s₂.toks+vs.length) R₂ h8 h5 hp₂ hm' hs' e2) ?_;intro τ' R' h9
 exact q03 ⟨W₂,τ',(W.le_add _).trans l₂,R',.own σ.n,q12 hp₂,h9⟩
end
theorem q8t{p pos:Pos}(h1:p.line=pos.line)(h2:p.col=pos.col):∀{l:List Value},TriplesOk l→codeAmong p l=codeAmong pos l:=by
 intro l h
 fun_induction TriplesOk l with
 |case1=>rfl
 |case2 i t j u x rest ih=>
  show (if (i==(p.line:Int)&&j==(p.col:Int))=true then some x else codeAmong p rest)=(if (i==(pos.line:Int)&&j==(pos.col:Int))=true then some x else codeAmong pos rest)
  rw[ih h,h1,h2]
 |case3=>exact h.elim
theorem q6O{p pos:Pos}{c:Value}(hp:¬(p.line=pos.line∧p.col=pos.col)):∀{l:List Value},TriplesOk l→codeAmong p (l++[rawInt pos.line,rawInt pos.col,c])=codeAmong p l:=by
 intro l h
 fun_induction TriplesOk l with
 |case1=>
  show (if ((pos.line:Int)==(p.line:Int)&&(pos.col:Int)==(p.col:Int))=true then some c else none)=none
  rw[if_neg]
  simp only[Bool.and_eq_true,beq_iff_eq,not_and]
  intro h1 h2
  exact hp ⟨by lia,by lia⟩
 |case2 i t j u x rest ih=>
  show (if (i==(p.line:Int)&&j==(p.col:Int))=true then some x else codeAmong p (rest++[rawInt pos.line,rawInt pos.col,c]))=(if (i==(p.line:Int)&&j==(p.col:Int))=true then some x else codeAmong p rest)
  rw[ih h]
 |case3=>exact h.elim
section
variable{B:Base}{W W' V:Wd}{fs:List Nat}{σ τ:S}{s s':Shared}{sc:Scope}{n:Nat}{c:Cx}{X:Fx}
theorem q8R:∀q∈tabs,cStatics≠q.2:=by
 intro q hq
 simp only[tabs,List.mem_cons,List.not_mem_nil,or_false] at hq
 focus (refine Z4 hq ?_ ?_;rotate_left;clear hq;intro o1;refine Z4 o1 ?_ ?_;rotate_left;clear o1;rintro rfl;rotate_right;clear o1;rintro rfl;rotate_right;clear hq;rintro rfl)<;>decide
theorem Rel.table(R:Rel B W fs σ s){q:Addr×Addr}(hq:q∈tabs){ps:Array Value}{pos:Pos}{c':Addr}{oc:Obj}{vs:Array Value}{t tk:Tok}{h':Heap}(hx:Heap.ExtBut q.2 s.heap h')(h0:s.heap.get? q.2=some (tabObj ps))(hT:TriplesOk ps.toList)(hnf:codeAmong pos ps.toList=none)
  (hold:∀p cv,codeAmong p ps.toList=some cv→∃c oc vs t,cv=.ref c∧(c,oc)∈W.κ∧oc.data=.fields vs∧vs[1]?=some (.str (tqual q.1 p.line) t))
  (h1:h'.get? q.2=some (tabObj (ps++#[rawInt pos.line,rawInt pos.col,.ref c']))) (hc:h'.get? c'=some (q6I oc)) (hge:s.heap.objs.size≤c') (hd:oc.data=.fields vs) (hv:vs[1]?=some (.str (tqual q.1 pos.line) t)) :
  Rel B (W.fz [(c',oc)]) fs σ {s with heap:=h',toks:=tk}:=by
 refine X0x4 (B.tabk q hq) ?_;intro hC _ _ hP0
 have hPlt:=Z7 hP0
 have ne:∀{u:Addr},B.h₀.objs.size≤u→u≠q.2:=λh=>Nat.ne_of_gt (Za hPlt h)
 have le:=W.le_fz [(c',oc)]
 have keep:∀{p:Fp},p∈W.ρ→∀u∈p.all,∀o,s.heap.get? u=some o→h'.get? u=some o:=λhp u hu o e=>hx u o (ne (R.own _ hp u hu).1) e
 have fr:=R.fresh hge
 refine⟨R.len,R.lenv,R.bound,λk o p e1 e2=>(R.objs k o p e1 e2).mono le (keep (Zd e2)),R.sep,λp hp u hu=>(by(refine X0x2 (R.own p hp u hu) ?_;intro a o1;refine X1x1 o1 ?_;clear o1;intro o e);exact⟨a,o,keep hp u hu o e⟩),⟨⟨λb o e=>?_,λb o e=>?_⟩,λq' hq'=>?_⟩,
  R.lim.at λo e=>hx _ o (q8R q hq) e,R.vars,R.gens,R.os,R.fids,λx hx'=>R.mono_frs le hx' λp hp u hu o e=>keep hp u hu o e,R.frn,R.fnd,λx hx'=>?_,R.epn,λy hy=>⟨(R.eps y hy).1,λh=>?_⟩⟩
 ·by_cases hb:b=q.2
  ·subst hb
   rw[hP0] at e;(refine zI e ?_;clear e;rintro rfl)
   exact .inr (.inl ⟨(hC.tab hP0).isCodeTable,rfl,#[],ps++#[rawInt pos.line,rawInt pos.col,.ref c'],rfl,by rw[h1];simp⟩)
  ·focus (refine Z4 (R.old.k.old b o e) ?_ ?_;rotate_left;intro o1;refine Z4 o1 ?_ ?_;rotate_left;clear o1;intro o2;refine X0x4 o2 ?_;clear o2;intro o3 hc o4 z;subst o3;refine X3x2 o4 ?_;clear o4;intro o' es n ho' r;rotate_right;clear o1;intro o5;refine X0x2 o5 ?_;clear o5;intro t o6;refine X0x2 o6 ?_;clear o6;intro hc o7;refine X2x2 o7 ?_;clear o7;intro vs more hv x;rotate_right;intro x)
   ·exact .inl (hx _ _ hb x)
   ·exact .inr (.inl ⟨t,hc,vs,more,hv,hx _ _ hb x⟩)
   ·exact .inr (.inr ⟨rfl,hc,⟨o',es,n,hx _ _ hb ho',r⟩,λkey=>by rw[OldK.staticOf_congr ((hx _ _ hb ho').trans ho'.symm) key];exact z key⟩)
 ·refine X1x1 (R.old.k.there b o e) ?_;intro o' e'
  by_cases hb:b=q.2
  ·exact⟨_,hb▸h1⟩
  ·exact⟨o',hx _ _ hb e'⟩
 ·by_cases hb:q'.2=q.2
  ·have hqq:q'=q:=by
    simp only[tabs,List.mem_cons,List.not_mem_nil,or_false] at hq hq'
    focus (refine Z4 hq ?_ ?_;rotate_left;clear hq;intro o1;refine Z4 o1 ?_ ?_;rotate_left;clear o1;rintro rfl;rotate_right;clear o1;rintro rfl;rotate_right;clear hq;rintro rfl)<;>focus (refine Z4 hq' ?_ ?_;rotate_left;clear hq';intro o1;refine Z4 o1 ?_ ?_;rotate_left;clear o1;rintro rfl;rotate_right;clear o1;rintro rfl;rotate_right;clear hq';rintro rfl)<;>first|rfl|exact absurd hb (by decide)
   subst hqq
   refine⟨_,h1,?_,λp cv e=>?_⟩
   ·have:=TriplesOk_snoc pos.line pos.col (.ref c') ps.toList hT
    simpa using this
   ·rw[Array.toList_append] at e
    by_cases hp:p.line=pos.line∧p.col=pos.col
    ·have hp':codeAmong p (ps.toList++[rawInt pos.line,rawInt pos.col,.ref c'])=some (.ref c'):=by
      have hn:codeAmong p ps.toList=none:=(q8t hp.1 hp.2 hT).trans hnf
      have:=codeAmong_snoc (pos:=p) (c:=.ref c') ps.toList hT hn
      rw[hp.1,hp.2] at this
      exact this
     have e:codeAmong p (ps.toList++[rawInt pos.line,rawInt pos.col,.ref c'])=some cv:=by simpa using e
     rw[hp'] at e;(refine zI e ?_;clear e;rintro rfl)
     exact⟨c',oc,vs,t,rfl,List.mem_append_left _ (.head _),hd,by rw[hp.1];exact hv⟩
    ·have hn:=λl hl=>q6O (p:=p) (pos:=pos) (c:=.ref c') hp (l:=l) hl
     have e:codeAmong p (ps.toList++[rawInt pos.line,rawInt pos.col,.ref c'])=some cv:=by simpa using e
     rw[hn _ hT] at e
     refine X4x3 (hold p cv e) ?_;intro c2 oc2 vs2 t2 z1 z2 z3
     exact⟨c2,oc2,vs2,t2,z1,List.mem_append_right _ z2,z3⟩
  ·refine X1x3 (R.old.tab q' hq') ?_;intro ps' a b d
   exact⟨ps',hx _ _ hb a,b,λp cv e=>by(refine X4x3 (d p cv e) ?_;intro c' oc vs t z1 z2 z3);exact⟨c',oc,vs,t,z1,List.mem_append_right _ z2,z3⟩⟩
 ·refine Z4 (List.mem_append.mp hx') (λhx'=>?_) λhx'=>?_
  ·refine X1x2 (List.mem_map.mp hx') ?_;intro y hy o1;subst o1
   refine Z4 (List.mem_append.mp hy) (λhy=>?_) λhy=>?_
   ·rw[List.mem_singleton.mp hy]
    exact⟨hc,Nat.le_trans R.le hge,fr.1⟩
   ·have z:=R.fz (y.1,q6I y.2) (List.mem_append_left _ (List.mem_map.mpr ⟨y,hy,rfl⟩))
    exact⟨hx _ _ (ne z.2.1) z.1,z.2⟩
  ·have z:=R.fz x (List.mem_append_right _ hx')
   exact⟨hx _ _ (ne z.2.1) z.1,z.2⟩
 ·refine X3x3 ((R.eps y hy).2 h) ?_;intro p o es a b d
  exact⟨p,o,es,a,keep (Zd a) _ (.head _) _ b,d⟩
inductive MadeFn(B:Base)(W:Wd)(fs:List Nat)(σ:S)(params:Arguments)(body:FuncBody)(scope:Scope)(clos:List (Str×Addr))(v:Value)(s':Shared):Prop
 |mk (W':_) (f:_) (fd:_) (h0_:W.le W') (h1_:Rel B W' fs σ s') (h2_:v=.ref f) (h3_:s'.heap.get? f=some {cls:=.type "function",data:=.func fd}) (h4_:fd.params=params) (h5_:fd.body=body) (h6_:fd.scope=scope) (h7_:fd.globals=mainGlobals) (h8_:fd.builtins=builtinsNs) (h9_:fd.defaults=.none) (h10_:fd.closure=clos) (h11_:B.h₀.objs.size≤f) (h12_:(∀p:Fp,p∈W'.ρ→f∉p.all)) (h13_:(∀x∈W'.still,x.1≠f)) (h14_:∃c oc vs t,fd.code=.ref c∧(c,oc)∈W'.κ∧oc.data=.fields vs∧vs[1]?=some (.str fd.qualname t)):MadeFn B W fs σ params body scope clos v s'
theorem MadeFn.kE18{B:Base}{W:Wd}{fs:List Nat}{σ:S}{params:Arguments}{body:FuncBody}{scope:Scope}{clos:List (Str×Addr)}{v:Value}{s':Shared}{X_:Prop}(h_:MadeFn B W fs σ params body scope clos v s')(k_:∀(W':_)(f:_)(fd:_)(h0_:W.le W')(h1_:Rel B W' fs σ s')(h2_:v=.ref f) (h3_:s'.heap.get? f=some {cls:=.type "function",data:=.func fd}) (h4_:fd.params=params) (h5_:fd.body=body) (h6_:fd.scope=scope) (h7_:fd.globals=mainGlobals) (h8_:fd.builtins=builtinsNs) (h9_:fd.defaults=.none) (h10_:fd.closure=clos) (h11_:B.h₀.objs.size≤f) (h12_:(∀p:Fp,p∈W'.ρ→f∉p.all)) (h13_:(∀x∈W'.still,x.1≠f)) (h14_:∃c oc vs t,fd.code=.ref c∧(c,oc)∈W'.κ∧oc.data=.fields vs∧vs[1]?=some (.str fd.qualname t)),X_):X_:=MadeFn.rec (motive:=λ_=>X_) k_ h_
theorem q9y(R:Rel B W fs σ s){M:Model}{A:Around}{E:Value→Shared→Prop}{q:Addr×Addr}(hq:q∈tabs){env:Env}{name qual:Str}{params:Arguments}{body:FuncBody}{scope:Scope}{pos:Pos}{firstLine:Nat}{clos:List (Str×Addr)}
  (hcode:env.code=.ref q.1) (hglo:env.globals=mainGlobals) (hcl:closureFor scope env=pure clos) (hqual:qual=tqual q.1 pos.line) :
  wpAny M A (makeTail name qual params body scope env .none .none none pos firstLine) (MadeFn B W fs σ params body scope clos) E s:=by
 refine X0x4 (B.tabk q hq) ?_;intro hC₀ hB₀ hgP hP₀
 have key:∀(ctv:Value)(s:Shared),Rel B W fs σ s→wpAny M A (do
   let fd:FuncData:={name,qualname:=qual,params,body,scope,globals:=env.globals,closure:=clos,closureTuple:=ctv,code:=←functionCode env pos firstLine name qual params scope body,builtins:=←builtinsFor env.globals env.builtins,defaults:=.none,kwdefaults:=.none,annotations:=none,pyModule:=(←nsGet env.globals "__name__").getD .none,doc:=(←match body with|.stmts b=>(match docOf b with|some s=>mkText s|none=>pure .none)|.expr _=>pure .none)}
   newObj (.type "function") (.func fd)) (MadeFn B W fs σ params body scope clos) E s:=by
  intro ctv s R
  have old:∀{b:Addr}{o:Obj},B.h₀.get? b=some o→o.cls≠.none→s.heap.get? b=some o:=λe hc=>R.old.k.get_of_cls e hc
  have hC:CodeHd s.heap q.1 q.2:=by
   refine X1x1 hC₀ ?_;clear hC₀;intro o o1;refine X1x1 o1 ?_;clear o1;intro vs o2;refine X7x3 o2 ?_;clear o2;intro file tf flags tg inF text tt e hc r
   exact⟨o,vs,file,tf,flags,tg,inF,text,tt,old e (by rw[hc];nofun),hc,r⟩
  have hG:s.heap.Ns mainGlobals B.mg:=by
   refine X3x2 B.mgN ?_;intro o es ep e r
   exact⟨o,es,ep,old e (B.mgc o e),r⟩
  refine X2x8 hB₀ ?_;clear hB₀;intro bm ob hbm hne0 _ hneP hbo hcls hdict hdata
  have hbo:=old hbo (by rw[hcls];nofun)
  refine X1x3 (R.old.tab q hq) ?_;intro ps h0 hT hold
  rw[hglo]
  have rest:∀{cv:Value}{s₁:Shared}{W₁:Wd},W.le W₁→Rel B W₁ fs σ s₁→s₁.heap.Ns mainGlobals B.mg→s₁.heap.get? bm=some ob→(∃c oc vs t,cv=.ref c∧(c,oc)∈W₁.κ∧oc.data=.fields vs∧vs[1]?=some (.str qual t))→
    wpAny M A (do
     let b ←builtinsFor mainGlobals env.builtins
     let y ←nsGet mainGlobals "__name__"
     let doc ←match body with
      |.stmts b=>(match docOf b with|some s=>mkText s|none=>pure .none)
      |.expr _=>pure .none
     newObj (.type "function") (.func {name,qualname:=qual,params,body,scope,globals:=mainGlobals,closure:=clos,closureTuple:=ctv,code:=cv,builtins:=b,defaults:=.none,kwdefaults:=.none,annotations:=none,pyModule:=y.getD .none,doc:=doc})) (MadeFn B W fs σ params body scope clos) E s₁:=by
   intro cv s₁ W₁ l R₁ hG₁ hb₁ hcv
   refine Z0 (wpAny_builtinsFor hG₁ hbm hne0 hb₁ hcls hdict hdata (Z0 (wpAny_nsGet hG₁ ?_)))
   have fin:∀(doc:Value)(s₂:Shared),Rel B W₁ fs σ s₂→wpAny M A (newObj (.type "function") (.func {name,qualname:=qual,params,body,scope,globals:=mainGlobals,closure:=clos,closureTuple:=ctv,code:=cv,builtins:=builtinsNs,defaults:=.none,kwdefaults:=.none,annotations:=none,pyModule:=(B.mg "__name__").getD .none,doc:=doc})) (MadeFn B W fs σ params body scope clos) E s₂:=by
    intro doc s₂ R₂
    refine wpAny_newObj_type ?_ (by size_fits)
    have fr:=R₂.fresh (Nat.le_refl s₂.heap.objs.size)
    exact⟨W₁,s₂.heap.objs.size,_,l,R₂.pushAny _,rfl,Zb _ rfl,rfl,rfl,rfl,rfl,rfl,rfl,rfl,R₂.le,fr.1,fr.2,hcv⟩
   cases body with
   |expr e=>exact Z0 (Z3 (fin _ _ R₁))
   |stmts b=>
    dsimp only
    cases hd:docOf b with
    |none=>exact Z0 (Z3 (fin _ _ R₁))
    |some t=>exact Z0 (wpAny_mkText (fin _ _ R₁.toks))
  cases hf:codeAmong pos ps.toList with
  |some cv=>
   refine X4x4 (hold pos cv hf) ?_;intro c oc vs t z1 z2 z3 z4
   exact Z0 (wpAny_functionCode_hit hcode (hC.code h0 hT) hf (rest (.refl W) R hG hbo ⟨c,oc,vs,t,z1,z2,z3,by rw[hqual];exact z4⟩))
  |none=>
   refine Z0 (wpAny_functionCodeX hcode (hC.code h0 hT) (hC.tab h0) hf λc' h' tk hx hge hlt _ hrec htb oY1x0=>?_)
   refine X1x3 oY1x0 ?_;clear oY1x0;intro P' _ _ ht2
   refine X4x4 hrec ?_;clear hrec;intro c2 oc vs t z1 z2 z3 z4
   cases z1
   refine X0x2 ht2 ?_;clear ht2;intro o1 _;refine X2x3 o1 ?_;clear o1;intro oc' vs' y1 y2 _
   rw[z2] at y1;(refine zI y1 ?_;clear y1;rintro rfl)
   have hco:q6I oc=oc:=by obtain⟨a,b,c,d⟩:=oc;have y2:a=.type "code":=y2;subst y2;rfl
   have R':=R.table (tk:=tk) (c':=c') (oc:=oc) hq hx h0 hT hf hold htb.2 (by rw[hco];exact z2) hge z3 (by rw[←hqual];exact z4)
   exact rest (W.le_fz _) R' (hG.extBut hx hgP) (hx _ _ hneP hbo) ⟨c',oc,vs,t,rfl,List.mem_append_left _ (.head _),z3,z4⟩
 unfold makeTail
 rw[hcl]
 refine Z0 (Z3 ?_)
 cases clos with
 |nil=>
  simp only[List.isEmpty_nil,if_true]
  exact Z0 (Z3 (key _ _ R))
 |cons y r=>
  simp only[List.isEmpty_cons,Bool.false_eq_true,if_false]
  exact Z0 (wpAny_newTextTuple (key _ _ (R.pushAny _)))
end
theorem q5Q{is:List Nat}{sc scope:Scope}(h:q36 is sc scope=true):∀x∈scope.names,x.2=.free→∃i,x.1=nm i∧(sc.names.lookup (nm i)=some .cell∨sc.names.lookup (nm i)=some .free):=by
 unfold q36 at h
 simp only[Bool.and_eq_true,beq_iff_eq,List.all_eq_true,bne_iff_ne,Bool.or_eq_true,List.any_eq_true] at h
 intro x hx hf
 refine Z4 (h x hx) (λh=>?_) λo1=>X1x3 o1 λi _ h3 h4=>?_
 ·exact absurd hf h
 ·exact⟨i,h3,h4⟩
section
variable{B:Base}{W W' V:Wd}{fs:List Nat}{σ τ:S}{s s':Shared}{sc:Scope}{n:Nat}{c:Cx}{X:Fx}
theorem q7j(is:List Nat){i:Nat}{params:Arguments}{body:FuncBody}{scope:Scope}{clos:List (Str×Addr)}{v:Value}(S:q36 is sc scope=true)(O:Ok B n sc W fs c X)(hcl:∀x∈scope.names,x.2=.free→clos.lookup x.1=X.env.cells.lookup x.1)
  (hfn:∀fd:FuncData,fd.params=params→fd.body=body→fd.scope=scope→fd.globals=mainGlobals→fd.builtins=builtinsNs→fd.defaults=.none→B.fnOk i fd) (h:MadeFn B W fs σ params body scope clos v s) {kv:KV}
  (hk:σ.addK (.fn i c.cells) (λn σ=>kv (.own n) σ)=true):PQ B W fs (QV kv) v s:=by
 refine h.kE18 ?_;clear h;intro W₁ f fd l R o1 hf f1 f2 f3 f4 f5 f6 f7 f8 f9 f10 f11;subst o1
 refine Mine.Internal.S.addK_true_E3 hk ?_;intro τ A hk
 have R':=R.adopt A (p:=⟨f,[]⟩) (λu hu=>by
  refine Z4 (List.mem_cons.mp hu) ?_ (λhu=>?_);rintro rfl
  ·exact⟨f8,⟨_,hf⟩,f9,f10⟩
  ·cases hu) ⟨_,fd,hf,rfl,rfl,hfn fd f1 f2 f3 f4 f5 f6,f11,λj hj=>by
   rw[f3] at hj
   have hm:=mem_of_lookup hj
   refine X1x2 (q5Q S _ hm rfl) ?_;intro i' e hk'
   have e:=q1n _ _ e
   subst e
   refine X2x3 (O.cells j hk') ?_;intro a q q1 q2 q3
   exact⟨a,q,q1,q0a (W₁.le_add _).ρ (q0a l.ρ q2),by rw[f7,hcl _ hm rfl];exact q3⟩⟩
 exact⟨_,τ,l.trans (W₁.le_add _),R',.own σ.n,q12 (R.add_at ⟨f,[]⟩),hk⟩
theorem qab(is:List Nat){scope:Scope}(S:q36 is sc scope=true)(O:Ok B n sc W fs c X):∃cl,closureFor scope X.env=pure cl∧∀x∈scope.names,x.2=.free→cl.lookup x.1=X.env.cells.lookup x.1:=
 q4C λy hy hfr=>by
  refine X1x2 (q5Q S y hy hfr) ?_;intro i e hk
  refine X2x3 (O.cells i hk) ?_;intro a q _ _ h3
  exact⟨q.a,by rw[e];exact h3⟩
theorem qeJ(is:List Nat){i:Nat}{args:Arguments}{body:Expr}{scope:Scope}{pos:Pos}{q:Addr×Addr}(S:q36 is sc scope=true)(hq:q∈tabs)(hsc:scode sc=some q.1)
  (hfn:∀fd:FuncData,fd.params=args→fd.body=.expr body→fd.scope=scope→fd.globals=mainGlobals→fd.builtins=builtinsNs→fd.defaults=.none→B.fnOk i fd) (hqual:squal q.1++".<locals>."++("<lambda>":Str)=tqual q.1 pos.line)
  (he:∀env,eval (.Lambda args body scope pos) env=(do let kd ←holding [] (pure ([]:List (Option Value)));makeFunction "<lambda>" (env.qual++"<lambda>") args (.expr body) scope env [] kd [] pos pos.line)):SX B sc (cLam i) (.Lambda args body scope pos):=λn W fs c X σ s kv O R h=>by
 rw[he]
 refine q01 (q04 (q03 ?_))
 rw[makeFunction_eq]
 simp only[List.zip_nil_right,List.filterMap_nil,List.isEmpty_nil,if_true,pure_bind]
 refine X1x2 (qab is S O) ?_;intro cl h1 h2
 refine X0x2 (O.cod _ hsc) ?_;intro c1 c2
 exact toG (wpAny_mono (q9y R hq c1 O.glo h1 (by rw[c2];exact hqual)) (λv s' hv=>q7j is S O h2 hfn hv h) λ_ _ z=>z)
theorem qbS{i:Nat}{x:Str}(hl:sc.names.lookup x=some .local)(hx:nm i=x)(O:Ok B n sc W fs c X)(R:Rel B W fs σ s){y:SV}{v:Value}{k:KN}(hv:VR W y v)(h:aLoc i y c σ k=true):wpG (model B.prog B.w) X.A (bindName X.env x v) (PQ B W fs (QU k)) (QE B W fs X.fa c.kx) s:=λΓ p hΓ hc=>by
 have hp:∀pos,(do standAt pos;bindName X.env x v:Sem Unit)=assign (.Name x pos) X.env v:=λ_=>rfl
 have:=q90 (B:=B) (pos:=p) hl hx n W fs c X σ s y v _ O R hv h Γ p hΓ hc
 simp only[←hp,Sem.wp_bind',Sem.wp_cmd_standAt] at this
 rw[Sem.wp_bindName] at this⊢
 exact this
theorem qf6(is:List Nat){i j:Nat}{name bind:Str}{args:Arguments}{body:List Stmt}{scope:Scope}{pos:Pos}{q:Addr×Addr}(S:q36 is sc scope=true)(hq:q∈tabs)(hsc:scode sc=some q.1)(hl:sc.names.lookup bind=some .local)(hn:nm j=bind)
  (hfn:∀fd:FuncData,fd.params=args→fd.body=.stmts body→fd.scope=scope→fd.globals=mainGlobals→fd.builtins=builtinsNs→fd.defaults=.none→B.fnOk i fd) (hqual:squal q.1++".<locals>."++name=tqual q.1 pos.line)
  (he:∀env,exec (.FunctionDef name args body [] none [] scope none bind pos) env=(do
   standAt pos
   let f ←holding ([]:List Value) (do
    let kd ←holding ([]:List Value) (pure ([]:List (Option Value)))
    holding ([]++kd.filterMap id) (do
     let ann ←(pure []:Sem (List (Str×Value)))
     makeFunction name (qualnameIn env name bind) args (.stmts body) scope env [] kd ann pos pos.line))
   let f ←decorate [] f
   standAt pos
   bindName env bind f
   pure .next)):SS B sc (sDef i (aLoc j)) (.FunctionDef name args body [] none [] scope none bind pos):=λn W fs c X σ s kr kn O R h=>by
 rw[he]
 refine q01 (q07 (q01 (q04 (q01 (q04 (q03 (q04 (q01 (q03 ?_)))))))))
 rw[makeFunction_eq]
 simp only[List.zip_nil_right,List.filterMap_nil,List.isEmpty_nil,if_true,pure_bind]
 refine X1x2 (qab is S O) ?_;intro cl h1 h2
 refine X0x2 (O.cod _ hsc) ?_;intro c1 c2
 have hqn:qualnameIn X.env name bind=tqual q.1 pos.line:=by
  unfold qualnameIn Env.kindOf
  rw[O.esc,hl,if_neg (by decide),c2];exact hqual
 refine toG (wpAny_mono (q9y R hq c1 O.glo h1 hqn) (λv s' hv=>?_) λ_ _ z=>z)
 refine (q7j (kv:=λv σ=>aLoc j v c σ kn) is S O h2 hfn hv h).kE7 ?_;intro W₁ σ₁ l₁ R₁ y hy h₁
 refine (show wpG _ _ ((pure v:Sem Value)>>=λf=>standAt pos>>=λ_=>bindName X.env bind f>>=λ_=>pure Flow.next) _ _ _ from ?_)
 refine q01 (q03 (q01 (q07 (q01 (q05 (qbS hl hn (O.mono l₁) R₁ hy h₁) (λ_ s₂ oY3x0=>by(refine oY3x0.kE5 ?_;clear oY3x0;intro W₂ σ₂ l₂ R₂ h₂);exact q03 ⟨W₂,σ₂,l₁.trans l₂,R₂,h₂⟩) λ_ _ z=>z.weaken l₁)))))
def isM1(v:SV):Bool:=match iOf v with
 |some i=>i==-1
 |none=>false
theorem qeF{x:XC}{value st:Expr}{p pos:Pos}(hx:SX B sc x value)(hst:SX B sc (cNeg (cC (.int (.lit 1)))) st):SX B sc (cRev x) (.Subscript value (.Slice none none (some st) p) pos):=λn W fs c X σ s kv O R h=>by
 rw[eval_Subscript]
 refine q01 (q0D (hx n W fs c X σ s _ O R h) λa W₁ σ₁ s₁ l₁ R₁ oY2x0=>?_)
 refine oY2x0.kE3 ?_;clear oY2x0;intro xa ha h₁
 refine q01 (q04 (q2q ?_))
 rw[evalPart_none]
 refine q03 (q03 ?_)
 rw[evalPart_some]
 refine q05 (hst n W₁ fs c X σ₁ s₁ (λv σ=>bi (isM1 v) (revd σ xa kv) false) (O.mono l₁) R₁ h₁) (λsv s₃ oY1x0=>?_) λ_ _ z=>z.weaken l₁
 refine oY1x0.kE7 ?_;clear oY1x0;intro W₃ σ₃ l₃ R₃ xs hsv h₃
 refine q06 h₃ ?_;intro h4 h5
 have hm:xs=.int (.lit (-1)):=by
  unfold isM1 at h4
  split at h4
  ·rename_i i hi;rw[q0c hi,beq_iff_eq.mp h4]
  ·exact zF h4
 subst hm
 refine q0d hsv ?_;intro t o1 _;subst o1
 have l13:=l₁.trans l₃
 refine q01 (q07 ?_)
 have ha:=ha.mono l₃
 refine q00 (show oB (q0N σ₃ xa) (λl=>revK l [] (λl=>σ₃.addLK l (λn σ=>kv (.own n) σ)))=true from h5) ?_;intro l h6 h7
 rw[q95,List.append_nil] at h7
 refine R₃.lst_E11 h6 ha ?_;intro k q vs m e0 e1 e2 o1 e3 hvs hlen;subst o1
 have hs:=Heap.IsSliceOf.new s₃.heap .none .none (.int (-1) t)
 have R₄:=R₃.pushAny {cls:=.type "slice",data:=.fields #[.none,.none,.int (-1) t]}
 refine toG (q1K (λ_ _=>.inl rfl) ⟨"list",_,list_getitem_lookup,⟨_,Z5 _ e3,rfl⟩⟩ (wpAny_getItem_list_slice (q0b (Z5 _ e3)) hs .none .none (.int _ _) (by decide) ?_ (by simp only[List.size_toArray,hvs.length];exact q0i hlen)))
 rw[krv_pick]
 have:=(PQ.newList (t:=s₃.toks) R₄ hvs.rev h7).2
 exact this.weaken l13
end
end
section
set_option backward.match.sparseCases false
open PySem PySem.W PySem.W.Fast
theorem qe9(tb:String→Option Builtin):denX tb=tw11892475500146522536 tb:=by
 funext c
 cases c with
 |body s e=>exact((dbT tb).2 s e).symm
 |_=>rfl
end
section
open PySem PySem.W PySem.Calls PyProof.Rows
abbrev qhp:=PySem.W.Fast.tw11892475500146522536
section
variable{R:Type}{z:R}
theorem q2k(m:Nat)(k:Nat→R):natC m k=k m:=by cases m<;>rfl
theorem q51{α:Type}(l:List α)(k:List α→R):qbp l k=k l:=by
 induction l generalizing k with
 |nil=>rfl
 |cons a r ih=>exact ih _
theorem qas{α:Type}(a:Array α)(k:Array α→R):arrC a k=k a:=by
 obtain⟨l⟩:=a;exact q51 l _
theorem qbI(l:List DictEntry)(k:List DictEntry→R):qgx l k=k l:=by
 induction l generalizing k with
 |nil=>rfl
 |cons a r ih=>obtain⟨h,b,c⟩:=a;exact ih _
theorem qbK(d:Data)(k:Data→R):qa5 d k=k d:=by
 cases d with
 |seq xs n=>unfold qa5;simp only[qas,q2k]
 |dict es n=>obtain⟨l⟩:=es;unfold qa5;simp only[qbI,q2k]
 |fields vs=>unfold qa5;simp only[qas]
 |_=>rfl
theorem q9j(o:Obj)(k:Obj→R):objC o k=k o:=by
 obtain⟨c,d,dt,sl⟩:=o;unfold objC;simp only[qbK]
theorem q98(t:BT):∀(i:Nat)(o:Obj)(k:BT→R),putC t i o k=k (t.ins i o):=by
 induction t with
 |nil=>intro i o k;rfl
 |node v l r il ir=>
  intro i o k
  show @Bool.rec (λ_=>R) (@Bool.rec (λ_=>R) (putC r (i/2-1) o (λr=>k (.node v l r))) (putC l (i/2) o (λl=>k (.node v l r))) (Nat.beq (i%2) 1)) (k (.node o l r)) (Nat.beq i 0)=_
  rw[BT.ins_node,BT.beq_eq,BT.beq_eq,il,ir]
  by_cases h:i=0
  ·simp[h]
  ·by_cases q:i%2=1<;>simp[h,q]
theorem q2I{t:BT}:∀{i:Nat}{k:Obj→R}{r:R},getC z t i k=r→r≠z→∃o,t.get i=some o∧k o=r:=by
 induction t with
 |nil=>intro i k r h hr;exact absurd h.symm hr
 |node v l r il ir=>
  intro i k x h hx
  have h:@Bool.rec (λ_=>R) (@Bool.rec (λ_=>R) (getC z r (i/2-1) k) (getC z l (i/2) k) (Nat.beq (i%2) 1)) (k v) (Nat.beq i 0)=x:=h
  rw[BT.get_node]
  rw[BT.beq_eq,BT.beq_eq] at h
  by_cases h0:i=0
  ·simp only[h0,decide_true] at h⊢;exact⟨v,rfl,h⟩
  ·by_cases q:i%2=1
   ·simp only[h0,q,decide_true,decide_false,if_true,if_false] at h⊢;exact il h hx
   ·simp only[h0,q,decide_false,if_false] at h⊢;exact ir h hx
theorem q2F{b:Bool}{t r:R}(h:ifC z b t=r)(hr:r≠z):b=true∧t=r:=by
 cases b
 ·exact absurd h.symm hr
 ·exact⟨rfl,h⟩
theorem q2m{o:Obj}{t r:R}(h:qav z o t=r)(hr:r≠z):alive o=some o∧t=r:=by
 obtain⟨c,d,dt,sl⟩:=o
 cases dt<;>first|exact⟨rfl,h⟩|exact absurd h.symm hr
theorem q5F{T:BT}{n:Nat}{o:Obj}{k:BT→R}{r:R}(h:newC z T n o k=r)(hr:r≠z):((T.ins n o).get n).isSome=true∧k (T.ins n o)=r:=by
 have h:putC T n o (λT=>getC z T n (λ_=>k T))=r:=h
 rw[q98] at h
 refine X1x2 (q2I h hr) ?_;intro o' e h
 exact⟨by rw[e];rfl,h⟩
theorem qdU{o:Obj}{f:Obj→Obj}:∀{T:BT}{a:Nat},T.get a=some o→T.ins a (f o)=T.set a f:=by
 intro T
 induction T with
 |nil=>exact λe=>by exact zN e
 |node v l r ihl ihr=>
  intro a e
  rw[BT.get_node] at e
  rw[BT.ins_node,BT.set_node]
  by_cases h0:a=0
  ·simp only[h0,if_true] at e⊢;(refine zI e ?_;clear e;rintro rfl);rfl
  ·by_cases q:a%2=1
   ·rw[if_neg h0,if_pos q] at e;rw[if_neg h0,if_neg h0,if_pos q,if_pos q,ihl e]
   ·rw[if_neg h0,if_neg q] at e;rw[if_neg h0,if_neg h0,if_neg q,if_neg q,ihr e]
theorem q7d{life:Life}:∀{l l₀:List Obj}{i:Nat}{t:BT}{k:BT→Nat→R}{r:R},ofC z l i t k=r→r≠z→absHeap t i life=⟨l₀.toArray,life⟩→∃T,absHeap T (i+l.length) life=⟨(l₀++l).toArray,life⟩∧k T (i+l.length)=r:=by
 intro l
 induction l with
 |nil=>exact λ{l₀ i t k r} h hr e=>⟨t,by simpa using e,h⟩
 |cons o l ih=>
  intro l₀ i t k r h hr e
  have h:newC z t i o (λt=>natC (i+1) (λi=>ofC z l i t k))=r:=h
  refine X0x2 (q5F h hr) ?_;intro hs h
  rw[q2k] at h
  refine X1x2 (ih (l₀:=l₀++[o]) h hr (by rw[absHeap_ins hs,e];show Heap.mk _ _=_;simp)) ?_;intro T a b
  exact⟨T,by rw[show i+(o::l).length=i+1+l.length by simp only[List.length_cons];lia,a];simp,by rw[show i+(o::l).length=i+1+l.length by simp only[List.length_cons];lia];exact b⟩
inductive Ends(p:Program)(w:World)(life:Life)(m₀:Nat)(ann:Option Value)(fin:BT→Nat→Array GenState→Drawn→Nat→OsState→R)(N:Nat)(T:BT)(n:Nat)(gens:Array GenState)(drawn:Drawn)(toks:Nat)(os:OsState)(t:Thread)(r:R):Prop
 |mk (T₁:BT) (n₁:Nat) (g₁:Array GenState) (d₁:Drawn) (k₁:Nat) (os₁:OsState) (h:topRun treeTable p w m₀ ann N ⟨absHeap T n life,gens,drawn,toks,os⟩ t=some ⟨absHeap T₁ n₁ life,g₁,d₁,k₁,os₁⟩) (hf:fin T₁ n₁ g₁ d₁ k₁ os₁=r):Ends p w life m₀ ann fin N T n gens drawn toks os t r
theorem mid{p:Program}{w:World}{life:Life}{m₀:Nat}{ann:Option Value}{fin:BT→Nat→Array GenState→Drawn→Nat→OsState→R}{N:Nat}{T:BT}{n:Nat}{gens:Array GenState}{drawn:Drawn}{toks:Nat}{os:OsState}{t t':Thread}{r:R}
  {T':BT} {n':Nat} {g':Array GenState} {d':Drawn} {k':Nat} {os':OsState} (h1:through t=false) (h2:stepOk m₀ ann t=true) (h3:stepT (denote treeTable) p w ⟨T,n,life,gens,drawn,toks,os⟩ t=some (⟨T',n',life,g',d',k',os'⟩,t'))
  (h:Ends p w life m₀ ann fin N T' n' g' d' k' os' t' r) :
  Ends p w life m₀ ann fin (N+1) T n gens drawn toks os t r:=by
 obtain⟨T₁,n₁,g₁,d₁,k₁,os₁,h,hf⟩:=h
 refine⟨T₁,n₁,g₁,d₁,k₁,os₁,?_,hf⟩
 unfold topRun
 rw[h1,h2]
 have e:step (denote treeTable) p w ⟨absHeap T n life,gens,drawn,toks,os⟩ t=.go ⟨absHeap T' n' life,g',d',k',os'⟩ t':=stepT_spec h3
 show (match step (denote treeTable) p w ⟨absHeap T n life,gens,drawn,toks,os⟩ t with|.go s' t'=>topRun treeTable p w m₀ ann N s' t'|.halt _ _=>none)=_
 rw[e]
 exact h
set_option backward.match.sparseCases false in
noncomputable def qgh(s:Sem PySem.Fin):Bool:=match s with|.pure f=>(match f with|.done _=>true|.again _=>false)|_=>false
theorem thr{cur:Sem PySem.Fin}{code:Code}{pos:Pos}{stack:List Frame}(h:qgh cur=false):through ⟨cur,code,pos,stack⟩=false:=by
 cases cur with
 |pure f=>cases f with
  |done f=>exact nomatch h
  |again c=>exact Bool.and_false stack.isEmpty
 |_=>exact Bool.and_false stack.isEmpty
theorem q7u{p:Program}{w:World}{life:Life}{m₀:Nat}{ann:Option Value}{fin:BT→Nat→Array GenState→Drawn→Nat→OsState→R}:∀{N:Nat}{T:BT}{n:Nat}{gens:Array GenState}{drawn:Drawn}{toks:Nat}{os:OsState}{cur:Sem PySem.Fin}{code:Code}{pos:Pos}{stack:List Frame}{r:R},
  goC z p w m₀ ann fin N T n gens drawn toks os cur code pos stack=r→r≠z→Ends p w life m₀ ann fin N T n gens drawn toks os ⟨cur,code,pos,stack⟩ r:=by
 intro N
 induction N with
 |zero=>exact λh hr=>absurd h.symm hr
 |succ N ih=>
  intro T n gens drawn toks os cur code pos stack r h hr
  have h:actC z cur p w m₀ ann fin (goC z p w m₀ ann fin N) T n gens drawn toks os code pos stack=r:=h
  have E:∀{P:Prop},mEnd z p w m₀ ann fin (goC z p w m₀ ann fin N) T n gens drawn toks os code pos stack=r→P:=λe=>absurd e.symm hr
  have eq1:denX q6Z=denote treeTable:=by
   rw[qe9]
   show PySem.W.Fast.tw11892475500146522536 PySem.W.Fast.tw14364793385576792824=_
   rw[←PySem.W.Fast.te11892475500146522536,←PySem.W.Fast.te14364793385576792824]
  have eq2:qeW (denX q6Z)=step (denote treeTable):=by
   rw[eq1]
   show PySem.W.Fast.tw8437177126325714943 _=_
   rw[←PySem.W.Fast.te8437177126325714943]
  cases cur with
  |pure f=>cases f with
   |done f=>
    cases stack with
    |nil=>exact⟨T,n,gens,drawn,toks,os,rfl,h⟩
    |cons fr rest=>cases fr with
     |ret k h1 h2 h3 c p' h4=>exact mid (by unfold through;simp) rfl rfl (ih h hr)
     |gen=>exact absurd h.symm hr
   |again c=>
    have h:qdG z (.again c) p w m₀ ann fin (goC z p w m₀ ann fin N) T n gens drawn toks os code pos stack=r:=h
    unfold qdG at h
    refine X0x2 (q2F (z:=z) h hr) ?_;intro h1 h
    have h1:stepOk m₀ ann ⟨.pure (.again c),code,pos,stack⟩=true:=by
     rw[PySem.W.Fast.te6613529449190102663];exact h1
    rw[eq2] at h
    cases q:step (denote treeTable) p w ⟨{},gens,drawn,toks,os⟩ ⟨.pure (.again c),code,pos,stack⟩ with
    |halt o s'=>rw[q] at h;exact absurd h.symm hr
    |go s' t'=>
     rw[q] at h
     obtain⟨H,g',d',k',os'⟩:=s'
     obtain⟨c',cd',p',st'⟩:=t'
     dsimp only at h
     rw[q2k] at h
     exact mid (thr rfl) h1 (by simp only[stepT];rw[q]) (ih h hr)
  |raise e=>
   cases stack with
   |nil=>exact absurd h.symm hr
   |cons fr rest=>cases fr with
    |ret k h1 h2 h3 c p' h4=>exact mid (thr rfl) rfl rfl (ih h hr)
    |gen=>exact absurd h.symm hr
  |rule t k=>exact mid (thr rfl) rfl rfl (ih h hr)
  |«at» q k=>exact mid (thr rfl) rfl rfl (ih h hr)
  |point l k=>exact mid (thr rfl) rfl rfl (ih h hr)
  |ask k=>exact mid (thr rfl) rfl rfl (ih h hr)
  |handled o k=>exact mid (thr rfl) rfl rfl (ih h hr)
  |stack k=>exact mid (thr rfl) rfl rfl (ih h hr)
  |fresh k=>
   have h:natC (toks+1) (λm=>goC z p w m₀ ann fin N T n gens drawn m os (k toks) code pos stack)=r:=h
   rw[q2k] at h
   exact mid (thr rfl) rfl rfl (ih h hr)
  |call c h1 g l k=>
   have h:qdH c h1 g l k p w m₀ ann fin (goC z p w m₀ ann fin N) T n gens drawn toks os code pos stack=r:=h
   unfold qdH at h
   rw[eq1] at h
   exact mid (thr rfl) rfl rfl (ih h hr)
  |load a q k=>
   refine X0x2 (q2F (z:=z) h hr) ?_;intro h1 h
   refine X1x2 (q2I h hr) ?_;intro o h2 h
   refine X0x2 (q2m h hr) ?_;intro h3 h
   exact mid (thr rfl) rfl (by simp only[stepT,h1,h2,h3]) (ih h hr)
  |update a q f k=>
   refine X0x2 (q2F (z:=z) h hr) ?_;intro h0 h
   refine X0x2 (q2F (z:=z) h hr) ?_;intro h1 h
   refine X1x2 (q2I h hr) ?_;intro o h2 h
   refine X0x2 (q2m h hr) ?_;intro h3 h
   rw[q9j,q98,qdU h2] at h
   exact mid (thr rfl) (by unfold stepOk;simp only[h0,Bool.and_true];rfl) (by simp only[stepT,h1,h2,h3]) (ih h hr)
  |alloc o k=>
   have h:objC o (λo=>newC z T n o (λT=>natC (n+1) (λm=>goC z p w m₀ ann fin N T m gens drawn toks os (k n) code pos stack)))=r:=h
   rw[q9j] at h
   refine X0x2 (q5F h hr) ?_;intro h1 h
   rw[q2k] at h
   exact mid (thr rfl) rfl (by simp only[stepT,h1]) (ih h hr)
  |loadIfAlive a k=>
   refine X0x2 (q2F (z:=z) h hr) ?_;intro h1 h
   refine X1x2 (q2I h hr) ?_;intro o h2 h
   refine X0x2 (q2m h hr) ?_;intro h3 h
   exact mid (thr rfl) rfl (by simp only[stepT,h1,h2,h3]) (ih h hr)
  |_=>exact E h
end
theorem q8b{p:Program}{w:World}{N:Nat}{os:OsState}{α:Type}{f:Shared→Option α}{r:α}(h:qdZ none p w N (boot_heap w.params) os f=some r) :
  ∃s,topRun treeTable p w (boot_heap w.params).objs.size ((boot_heap w.params).nsMap mainGlobals "__annotations__") N ⟨boot_heap w.params,Array.mk [],boot_drawn,boot_toks,os⟩ (topStub p)=some s∧f s=some r:=by
 refine X1x2 (q7d (life:=(boot_heap w.params).life) (l₀:=[]) h (by intro q;exact zS q) rfl) ?_;intro T a b
 rw[Nat.zero_add] at a b
 obtain⟨T',n',g',d',k',os',c,f⟩:=q7u (life:=(boot_heap w.params).life) b (by intro q;exact zS q)
 rw[q51] at f
 have hh:absHeap T (boot_heap w.params).objs.toList.length (boot_heap w.params).life=boot_heap w.params:=by rw[a];rfl
 rw[hh] at c
 exact⟨_,c,f⟩
theorem qdX{p q:Program}{loose:List Str}{Xt:Shared→Bool}{α:Type}{Yf:Shared→α}{Ya:World→α}{N:Nat}(e:opening p=plainProg p.main.scope.names)(hN:Nat.ble 600 N=true)(hf:∀s,fenceModules? p s=some s)
  (hm:∀P:Params,(boot_heap P).isNs mainGlobals=true)
  {β:Type} {f:World→Shared→Option β} {r:World→β} (run:∀(w:World)(os:OsState),qdZ none p w N (boot_heap w.params) os (f w)=some (r w))
  (look:∀(w:World)(s:Shared),f w s=some (r w)→(staticsOk (importedModules p.main.body) (boot_heap w.params) s.heap&&namesBound p s.heap&&gensDone s&&laidKept (boot_heap w.params) s.heap)=true∧(openSeen q loose (importedModules p.main.body) Xt true s,Yf s)=(openGood q loose,Ya w)) :
  LeftO p q loose Xt Yf Ya N:=λw=>by
 refine X1x2 (Option.map_eq_some_iff.mp (boot_open e hN hf w)) ?_;intro o1 e1 e2;obtain⟨h,gs,d,k,os⟩:=o1
 obtain⟨rfl,rfl,rfl,rfl⟩:h=boot_heap w.params∧gs=Array.mk []∧d=boot_drawn∧k=boot_toks:=by simpa using e2
 refine X1x2 (q8b (run w os)) ?_;intro s c f0
 refine X0x2 (look w s f0) ?_;intro f1 f2
 unfold openEnds
 rw[e1]
 show (topFrom treeTable p w N ⟨boot_heap w.params,Array.mk [],boot_drawn,boot_toks,os⟩).map _=_
 unfold topFrom
 have hg:(((⟨boot_heap w.params,Array.mk [],boot_drawn,boot_toks,os⟩:Shared).heap.isNs mainGlobals&&(⟨boot_heap w.params,Array.mk [],boot_drawn,boot_toks,os⟩:Shared).gens.size==0))=true:=by
  show ((boot_heap w.params).isNs mainGlobals&&true)=true
  rw[hm];rfl
 rw[hg]
 dsimp only
 rw[c]
 show ((match staticsOk (importedModules p.main.body) (boot_heap w.params) s.heap&&namesBound p s.heap&&gensDone s&&laidKept (boot_heap w.params) s.heap with|true=>_|false=>_):Option Shared).map _=_
 rw[f1]
 exact congrArg some f2
end
section
set_option backward.match.sparseCases false
open PySem PySem.W
theorem q1k{a b:Str}(h:sEq a b=true):a=b:=PySem.W.Fast.sEq_iff.mp h
theorem bF{P:Prop}(h:false=true):P:=(Bool.false_ne_true h).elim
theorem oEl{α:Type}{o:Option α}{P:α→Prop}{a:α}(H:oE o True P)(h:o=some a):P a:=by rw[h] at H;exact H
theorem q6A{α:Type}{b:Bool}{o:Option α}{a:α}(h:gO b o=some a):b=true∧o=some a:=by cases b with|true=>exact⟨rfl,h⟩|false=>exact oN h
theorem q0O{α:Type}{b:Bool}{o:Option α}{a:α}{X:Prop}(h:gO b o=some a)(g:b=true→o=some a→X):X:=g (q6A h).1 (q6A h).2
noncomputable def XK.is(e:Expr)(k:XK):Prop:=match k with
 |.nam x p=>e=.Name x p
 |.con k n p=>e=.Constant k n p
 |.cal f a k p=>e=.Call f a k p
 |.tup a k p=>e=.Tuple a k p
 |.com a g s p=>e=.ListComp a g s p
 |.sli a b d p=>e=.Slice a b d p
 |.una o x p=>e=.UnaryOp o x p
 |_=>True
theorem q6c(e:Expr):(xk e).is e:=by
 cases e with
 |UnaryOp|Name|Constant|Call|Tuple|ListComp|Slice=>exact rfl
 |_=>exact trivial
theorem q21{α:Type}{l:List α}{a:α}(h:one? l=some a):l=[a]:=by
 cases l with
 |nil=>exact oN h
 |cons b r=>cases r with
  |nil=>rw[Z6 h]
  |cons=>exact oN h
theorem q20{e:Expr}{n:Str×Pos}(h:q3l e=some n):e=.Name n.1 n.2:=oEl (P:=λn=>e=.Name n.1 n.2) (by unfold q3l;have g:=q6c e;revert g;cases xk e with|nam=>exact λg=>g|_=>exact λ_=>trivial) h
theorem q9G{k:Const}{z:Str}(h:qg8 k=some z):k=.str z:=oEl (P:=λz=>k=.str z) (by cases k with|str=>exact rfl|_=>exact trivial) h
theorem q5l{e:Expr}{n:Const×Nat×Pos}(h:qaF e=some n):e=.Constant n.1 n.2.1 n.2.2:=oEl (P:=λn=>e=.Constant n.1 n.2.1 n.2.2) (by unfold qaF;have g:=q6c e;revert g;cases xk e with|con=>exact λg=>g|_=>exact λ_=>trivial) h
theorem q5i{e:Expr}{n:Str×Nat×Pos}(h:qaE e=some n):e=.Constant (.str n.1) n.2.1 n.2.2:=by
 refine q02 h ?_;intro r h1 h
 refine q02 h ?_;intro z h2 h
 rw[q5l h1,q9G h2,←Z6 h]
theorem q7P{e:Expr}{n:Expr×List Expr×List Keyword×Pos}(h:q8C e=some n):e=.Call n.1 n.2.1 n.2.2.1 n.2.2.2:=oEl (P:=λn=>e=.Call n.1 n.2.1 n.2.2.1 n.2.2.2) (by unfold q8C;have g:=q6c e;revert g;cases xk e with|cal=>exact λg=>g|_=>exact λ_=>trivial) h
theorem q4E{e:Expr}{n:Str×Pos×List Expr×Pos}(h:q7H e=some n):e=.Call (.Name n.1 n.2.1) n.2.2.1 [] n.2.2.2:=by
 refine q02 h ?_;intro r h1 h
 refine q02 h ?_;intro z h2 h
 refine q0O h ?_;intro h3 h
 rw[q7P h1,q20 h2,List.isEmpty_iff.mp h3,←Z6 h]
theorem q3k{e:Expr}{n:List Expr×Nat×Pos}(h:q39 e=some n):e=.Tuple n.1 n.2.1 n.2.2:=oEl (P:=λn=>e=.Tuple n.1 n.2.1 n.2.2) (by unfold q39;have g:=q6c e;revert g;cases xk e with|tup=>exact λg=>g|_=>exact λ_=>trivial) h
theorem q8B{e:Expr}{n:Expr×List Comprehension×Scope×Pos}(h:qaG e=some n):e=.ListComp n.1 n.2.1 n.2.2.1 n.2.2.2:=oEl (P:=λn=>e=.ListComp n.1 n.2.1 n.2.2.1 n.2.2.2) (by unfold qaG;have g:=q6c e;revert g;cases xk e with|com=>exact λg=>g|_=>exact λ_=>trivial) h
theorem q5j{e:Expr}{n:Option Expr×Option Expr×Option Expr×Pos}(h:q5k e=some n):e=.Slice n.1 n.2.1 n.2.2.1 n.2.2.2:=oEl (P:=λn=>e=.Slice n.1 n.2.1 n.2.2.1 n.2.2.2) (by unfold q5k;have g:=q6c e;revert g;cases xk e with|sli=>exact λg=>g|_=>exact λ_=>trivial) h
theorem qb2{s:Stmt}{n:Expr×Pos}(h:sRe? s=some n):s=.Return (some n.1) n.2:=oEl (P:=λn=>s=.Return (some n.1) n.2) (by cases s with|Return o p=>(cases o with|none=>exact trivial|some e=>exact rfl)|_=>exact trivial) h
theorem qbF{x:ExceptHandler}{n:Expr×List Stmt×Pos}(h:exH? x=some n):x=.ExceptHandler (some n.1) none n.2.1 n.2.2:=by
 cases x with
 |ExceptHandler t m b p=>cases t with
  |none=>exact oN h
  |some e=>cases m with
   |none=>rw[←Z6 h]
   |some=>exact oN h
theorem q4j{v:SV}{C:Addr}(h:q8U v=some C):v=.old C:=oEl (P:=λC=>v=.old C) (by cases v with|old=>exact rfl|_=>exact trivial) h
section
variable(c:Comp)
theorem qg4{k:NameKind}(h:kdL k=true):k=.local:=by cases k<;>first|rfl|exact bF h
theorem qg5{k:NameKind}(h:kdG k=true):k=.globalImplicit:=by cases k<;>first|rfl|exact bF h
theorem qg6{k:NameKind}(h:kdC k=true):k=.cell:=by cases k<;>first|rfl|exact bF h
theorem q68{b:FuncBody}{l:List Stmt}(h:q6N b=some l):b=.stmts l:=oEl (P:=λl=>b=.stmts l) (by cases b with|stmts=>exact rfl|_=>exact trivial) h
theorem q7l{α β:Type}[BEq α][LawfulBEq α]{a:α}{b:β}{l:List (α×β)}(e:l.lookup a=some b):(a,b)∈l:=by
 induction l with
 |nil=>exact oN e
 |cons p r ih=>
  obtain⟨k,x⟩:=p
  rw[List.lookup_cons] at e
  cases q:a==k with
  |true=>rw[q] at e;rw[beq_iff_eq.mp q,←Z6 (show some x=some b from e)];exact .head _
  |false=>rw[q] at e;exact .tail _ (ih e)
theorem q9I{k:Const}{z:Int}(h:qga k=some z):k=.int z:=oEl (P:=λz=>k=.int z) (by cases k with|int=>exact rfl|_=>exact trivial) h
theorem q8A{e:Expr}{n:Expr×Pos}(h:qcF e=some n):e=.UnaryOp .USub n.1 n.2:=oEl (P:=λn=>e=.UnaryOp .USub n.1 n.2) (by unfold qcF;have g:=q6c e;revert g;cases xk e with|una o x p=>(cases o with|USub=>exact λg=>g|_=>exact λ_=>trivial)|_=>exact λ_=>trivial) h
end
end
section
open PySem PySem.W
open PyProof PyProof.Rows
noncomputable def GtAt(A:Around)(s:Shared)(u v:Value)(r:Bool):Prop:=∀(prog:Program)(w:World)(E:Value→Shared→Prop)(Q:Value→Shared→Prop),Q (.bool r) s→wpAny (model prog w) A (richCompare .Gt u v) Q E s
noncomputable def GtGo(A:Around)(s:Shared)(fin r:Bool):List (Value×Value)→Prop
 |[]=>r=fin
 |p::l=>∃e,SeqAt.EqAt A s p.1 p.2 e∧(e=true→GtGo A s fin r l)∧(e=false→GtAt A s p.1 p.2 r)
theorem q7Q(l b:Addr)(items items2:Array Value)(n n2:Nat)(dd dd2:Option Addr)(sl sl2:Array (Option Value))(r:Bool) :
  Meets (Builtin.«tuple.__gt__» ⟨[.ref l,.ref b],[]⟩)
   (λA R s=>s.heap.get? l=some {cls:=.type "tuple",dict:=dd,data:=.seq items n,slots:=sl}∧s.heap.get? b=some {cls:=.type "tuple",dict:=dd2,data:=.seq items2 n2,slots:=sl2}∧
    GtGo A.in1 s (decide (items.size>items2.size)) r (items.toList.zip items2.toList)∧R (.ok (.ret (.bool r))) s):=
 .of_wp λprog w A R s h=>by
  obtain⟨hp,g,d,tk,os⟩:=s;(refine X0x4 h ?_;clear h;intro hl hb he h)
  have f2:=AutoSeq1.sub_tuple_tuple
  wp_walk using wpAny_loadPart' hl,wpAny_loadPart' hb,wpAny_forIn_list _ (λrest b s'=>b.1=none∧s'=⟨hp,g,d,tk,os⟩∧GtGo A.in1 ⟨hp,g,d,tk,os⟩ (decide (items.size>items2.size)) r rest) _
  case turn=>
   intro yx rest b s' oP
   obtain⟨y,x⟩:=yx
   refine X0x2 oP ?_;clear oP;intro hb' o1;refine X0x2 o1 ?_;clear o1;intro o2 o3;subst o2;refine X1x3 o3 ?_;clear o3;intro e h1 h2 h3
   refine Z0 (h1 prog w _ _ ?_)
   cases e with
   |true=>
    wp_walk
    exact⟨rfl,rfl,h2 rfl⟩
   |false=>
    have h3:=h3 rfl
    have h3:GtAt A.in1 ⟨hp,g,d,tk,os⟩ y x r:=h3
    simp only[Bool.not_false,if_true]
    refine Z0 (wpAny_rule ?_)
    refine Z0 (h3 prog w _ _ ?_)
    wp_walk
    exact⟨_,rfl,h⟩
  case fin=>
   intro bb s' oP
   obtain⟨b1,b2⟩:=bb
   refine X0x3 oP ?_;clear oP;intro hb' o1 hR;subst o1
   simp only at hb'
   subst hb'
   have hR:r=_:=hR
   subst hR
   wp_walk
   exact⟨_,rfl,by simpa[Builtin.Tuple.tupleCompareSizes] using h⟩
  case h=>
   exact⟨rfl,rfl,he⟩
theorem GtAt.int{A:Around}{s:Shared}{x y:Int}{t u:Tok}:GtAt A s (.int x t) (.int y u) (decide (y<x)):=λprog w E Q h=>P.gt_int h
theorem q4P:Slot "bytes" (cmpInfo .Gt).2.1 "bytes.__gt__":=
 .of (owner:="bytes") (n:="__gt__") (by rw[typeLookup_type,builtinLookup_eq_fast];kernel_rfl) (by decide +kernel) (by decide +kernel) (by decide +kernel)
  (by first|exact .inl (by decide +kernel)|exact .inr (by decide +kernel)) (by rw[isSubtype_type];kernel_rfl)
theorem q4d:entryFor table "bytes.__gt__"=some Builtin.«bytes.__gt__»:=entryFor_of_tree (by kernel_rfl)
theorem q5e(a b:Value):argsOk "bytes.__gt__" ⟨[a,b],[]⟩:=by
 unfold argsOk;rw[signature?_of (id:="bytes.__gt__") (n:=['_','_','t','g','_','_']) (o:=['s','e','t','y','b']) (by kernel_rfl) PySem.W.FB.owner_bytes];kernel_rfl
theorem q4b(b c:Array UInt8)(t u:Tok):Gives (Builtin.«bytes.__gt__» ⟨[.bytes b t,.bytes c u],[]⟩) (.val (.bool (Builtin.Bytes.order b.toList c.toList==.gt))):=by
 refine .of_wp λM A E s Q hq=>?_
 show wpAny M A (isInstance (.bytes c u) (.type "bytes")>>=λr=>_) _ E s
 refine Z0 (wpAny_isInstance (typeIs_bytes s c u) PySem.F.sub_bytes_bytes ?_)
 exact Z3 ⟨_,rfl,hq⟩
theorem q1t:Slot "bytes" (cmpInfo .Lt).2.1 "bytes.__lt__":=
 .of (owner:="bytes") (n:="__lt__") (by rw[typeLookup_type,builtinLookup_eq_fast];kernel_rfl) (by decide +kernel) (by decide +kernel) (by decide +kernel)
  (by first|exact .inl (by decide +kernel)|exact .inr (by decide +kernel)) (by rw[isSubtype_type];kernel_rfl)
theorem q2d:entryFor table "bytes.__lt__"=some Builtin.«bytes.__lt__»:=entryFor_of_tree (by kernel_rfl)
theorem q2K(a b:Value):argsOk "bytes.__lt__" ⟨[a,b],[]⟩:=by
 unfold argsOk;rw[signature?_of (id:="bytes.__lt__") (n:=['_','_','t','l','_','_']) (o:=['s','e','t','y','b']) (by kernel_rfl) PySem.W.FB.owner_bytes];kernel_rfl
theorem q2c(b c:Array UInt8)(t u:Tok):Gives (Builtin.«bytes.__lt__» ⟨[.bytes b t,.bytes c u],[]⟩) (.val (.bool (Builtin.Bytes.order b.toList c.toList==.lt))):=by
 refine .of_wp λM A E s Q hq=>?_
 show wpAny M A (isInstance (.bytes c u) (.type "bytes")>>=λr=>_) _ E s
 refine Z0 (wpAny_isInstance (typeIs_bytes s c u) PySem.F.sub_bytes_bytes ?_)
 exact Z3 ⟨_,rfl,hq⟩
theorem q4p:∀x y:List UInt8,(Builtin.Bytes.order y x==.lt)=(Builtin.Bytes.order x y==.gt)
 |[],[]=>rfl
 |[],_::_=>rfl
 |_::_,[]=>rfl
 |a::x,b::y=>by
  simp only[Builtin.Bytes.order]
  by_cases h1:a<b
  ·have h2:¬a>b:=λz=>by rw[gt_iff_lt,UInt8.lt_iff_toNat_lt] at z;rw[UInt8.lt_iff_toNat_lt] at h1;lia
   have h3:b>a:=h1
   have h4:¬b<a:=h2
   rw[if_pos h1,if_neg h4,if_pos h3];rfl
  ·by_cases h2:b<a
   ·have h3:a>b:=h2
    rw[if_pos h2,if_neg h1,if_pos h3];rfl
   ·have h3:¬a>b:=h2
    have h4:¬b>a:=h1
    rw[if_neg h1,if_neg h2,if_neg h3,if_neg h4]
    exact q4p x y
theorem GtAt.bytes{A:Around}{s:Shared}{x y:Array UInt8}{t u:Tok}:GtAt A s (.bytes x t) (.bytes y u) (Builtin.Bytes.order x.toList y.toList==.gt):=λprog w E Q h=>
 compareOp_gives (op:=.Gt) (typeIs_bytes s x t) (typeIs_bytes s y u) q4P q4d (q5e _ _) (q4b x y t u) (λe=>nomatch e) h
section
variable{B:Base}{W W':Wd}{fs:List Nat}{σ τ:S}{s s':Shared}
theorem qgl{A:Around}{a b:SV}{u v:Value}{r:Bool}(h:gt1 a b=some r)(ha:VR W a u)(hb:VR W b v):GtAt A s u v r:=by
 refine Z4 (q0f h) (λo2=>X0x2 o2 λ_ h2=>?_) λo1=>X1x2 o1 λi h1 h2=>?_
 ·refine q02 h2 ?_;intro i h1 h3
  refine q02 h3 ?_;intro j h4 h5
  rw[q0x h1] at ha;rw[q0x h4] at hb
  refine q0n ha ?_;intro x t o1 hx _;subst o1
  refine q0n hb ?_;intro y t' o1 hy _;subst o1
  have:=q2Y h5 hy hx
  simp only[Bool.false_eq_true,if_false] at this
  rw[q4p] at this
  subst this
  exact .bytes
 ·refine q02 h2 ?_;intro j h3 h4
  refine zI h4 ?_;clear h4;rintro rfl
  rw[q0c h1] at ha;rw[q0c h3] at hb
  refine q0d ha ?_;intro t o1 _;subst o1
  refine q0d hb ?_;intro t' o1 _;subst o1
  rw[q3M]
  exact .int
theorem qgk(R:Rel B W fs σ s){A:Around}(hu:A.units+4<cLine){x y:List SV}{xs ys:List Value}{r:Bool}(h:gtL (eqS tb σ 2) gt1 x y=some r)(hx:VRs W x xs)(hy:VRs W y ys):GtGo A.in1 s (decide (xs.length>ys.length)) r (xs.zip ys):=by
 induction hx generalizing y ys with
 |nil=>
  have h:some false=some r:=h
  refine zI h ?_;clear h;rintro rfl
  show false=decide (0>_)
  simp
 |@cons a u x xs ha hx ih=>
  cases hy with
  |nil=>
   have h:some true=some r:=h
   refine zI h ?_;clear h;rintro rfl
   show true=decide (_>0)
   simp
  |@cons b v y ys hb hy=>
   refine q02 (show oO (eqS tb σ 2 a b) (λe=>bi e (gtL (eqS tb σ 2) gt1 x y) (gt1 a b))=some r from h) ?_;intro e h1 h2
   have K:=q5V R 2 a b u v e A.in1 h1 ha hb (by show A.units+1+2<cLine;lia)
   refine⟨e,q3S K.eq K.same λx t y t' z=>absurd z (q1j ha x t),λq=>?_,λq=>?_⟩
   ·subst q
    have:=ih h2 hy
    simp only[List.length_cons,gt_iff_lt,Nat.add_lt_add_iff_right]
    exact this
   ·subst q
    exact qgl h2 ha hb
theorem qfz:CmpS B (qGt tb) .Gt:=λn W fs A σ s x y a b r E O R ha hb h=>by
 refine Z4 (q0f h) (λo2=>X0x2 o2 λ_ h2=>?_) λo1=>X1x2 o1 λi h1 h2=>?_
 ·refine q02 h2 ?_;intro l h1 h3
  refine q02 h3 ?_;intro m h4 h5
  refine R.tup_E7 h1 ha ?_;intro p vs c o1 e1 hvs _;subst o1
  refine R.tup_E7 h4 hb ?_;intro q ws d o1 e2 hws _;subst o1
  have key:=qgk R (A:=A) (O.room (by decide)) h5 hvs hws
  exact richCompare_meets_room (op:=.Gt) ⟨_,e1,rfl⟩ ⟨_,e2,rfl⟩ F.slot_tuple_gt F.entry_tuple_gt (F.args_tuple_gt_2 _ _) (q7Q p q vs.toArray ws.toArray c d none none #[] #[] r)
   ⟨e1,e2,by simpa using key,show Value.bool r≠Value.notImplemented∧_ from⟨(λx=>nomatch x),rfl,R⟩⟩ (O.room (m:=0) (by decide))
 ·refine q02 h2 ?_;intro j h3 h4
  refine zI h4 ?_;clear h4;rintro rfl
  rw[q0c h1] at ha;rw[q0c h3] at hb
  refine q0d ha ?_;intro t o1 _;subst o1
  refine q0d hb ?_;intro t' o1 _;subst o1
  exact P.gt_int ⟨by rw[q3M],R⟩
end
theorem q6j{α:Type}{cmp:Nat→Nat→(Bool→Shared→Prop)→Shared→Prop}{lt:Nat→Nat→Option Bool}{s:Shared}(hc:∀i j b,lt i j=some b→∀C:Bool→Shared→Prop,C b s→cmp i j C s){Q:α→Shared→Prop} :
  ∀{t:KasT α}{a:α},runT lt t=some a→Q a s→t.kasWp cmp Q s
 |.ret a,b,h,q=>by
  have h:some a=some b:=h
  (refine zI h ?_;clear h;rintro rfl);exact q
 |.ask i j k,a,h,q=>by
  refine q02 (show oO (lt i j) (λb=>runT lt (k b))=some a from h) ?_;intro b h1 h2
  exact hc i j b h1 _ (q6j hc h2 q)
theorem q4o{l:List SV}:∀{p:List Nat}{k:List SV→Bool},qdo l p k=true→∃r,All2 (λi x=>l[i]?=some x) p r∧k r=true
 |[],k,h=>⟨[],.nil,h⟩
 |i::p,k,h=>by
  refine q00 (show oB (nth l i) (λv=>qdo l p (λr=>k (v::r)))=true from h) ?_;intro v h1 h2
  refine X1x2 (q4o h2) ?_;intro r h3 h4
  rw[q31] at h1
  exact⟨v::r,.cons h1 h3,h4⟩
theorem picked{W:Wd}{l:List SV}{vs:List Value}(h:VRs W l vs){p:List Nat}{r:List SV}(H:All2 (λi x=>l[i]?=some x) p r):VRs W r (p.map λi=>vs.getD i Value.none):=by
 induction H with
 |nil=>exact .nil
 |cons e t ih=>
  refine .cons ?_ ih
  refine X1x2 (h.get e) ?_;intro v hv hr
  show VR W _ (vs.getD _ _)
  rw[List.getD_eq_getElem?_getD,hv];exact hr
noncomputable def q3b(h:Heap)(a:Addr)(vs:List Value):Heap:=((h.update a (Obj.mapSeq λ_=>#[])).push (seqObj "tuple" vs.toArray 0)).push (seqObj "list" #[] 0)
section
variable{prog:Program}{w:World}{A:Around}{E:Value→Shared→Prop}{s:Shared}
theorem q4U{a:Addr}{vs out:List Value}{n:Nat}{P:PySem.Fin→Shared→Prop}(ho:s.heap.get? a=some (seqObj "list" vs.toArray n))(h64:vs.length<64)
  (h1:vs.length<2→out=vs)
  (h2:2≤vs.length→wpAny (model prog w) A (keyKind' vs.toArray) (λκ s'=>(kas_sort vs.length).kasWp (kas_ask prog w A κ vs) (λp s''=>s''={s with heap:=q3b s.heap a vs}∧(p.toList.map λi=>vs.getD i Value.none)=out) s') (λ_ _=>False) {s with heap:=q3b s.heap a vs})
  (hP:P (.done (.ret .none)) {s with heap:=sortedHeap s.heap a vs out.toArray}) :
  wpAny (model prog w) A (Builtin.«list.sort» ⟨[.ref a],[]⟩) P E s:=by
 rw[list_sort_plain]
 have ha:a<s.heap.objs.size:=Z7 ho
 refine Z0 (listItems_at ho rfl ?_)
 refine Z0 (listUpdate_at ho rfl ?_ (by rw[List.size_toArray,sizeLine_eq];lia) (Nat.zero_le _))
 obtain⟨e1,ho1⟩:∃e1,(s.heap.update a (Obj.mapSeq λ_=>#[])).get? a=some (seqObj "list" #[] e1):=⟨_,get?_update_seq ho (λ_=>#[])⟩
 refine Z0 (seqEpoch_at ho1 rfl ?_)
 refine Z0 (wpAny_newTuple ?_)
 refine Z0 (wpAny_newList ?_)
 refine wpAny_holding ?_
 have ho6:(q3b s.heap a vs).get? a=some (seqObj "list" #[] e1):=by
  unfold q3b
  rw[Heap.get?_push_ne _ _ _ (by rw[size_push',Heap.size_update];exact Nat.ne_of_lt (Nat.lt_succ_of_lt ha)),Heap.get?_push_ne _ _ _ (by rw[Heap.size_update];exact Nat.ne_of_lt ha)]
  exact ho1
 show wpAny (model prog w) A _ P E {s with heap:=q3b s.heap a vs}
 dsimp only
 have hsz:vs.toArray.size=vs.length:=by simp
 by_cases hlt:vs.toArray.size<2
 ·rw[if_pos hlt,if_pos hlt]
  have e:=h1 (hsz▸hlt)
  subst e
  refine Z0 (Z3 ?_)
  rw[StateT.run_pure]
  refine Z0 (Z3 ?_)
  dsimp only
  refine Z0 (seqEpoch_at ho6 rfl ?_)
  have e:(arrOf (SortSt.mk' general' (out.toArray.zip out.toArray) #[] 7 none)).map (·.2)=out.toArray:=by
   show (out.toArray.zip out.toArray).map (·.2)=_
   apply Array.toList_inj.mp
   simp only[Array.toList_map,Array.toList_zip,List.toList_toArray]
   exact List.map_snd_zip (Nat.le_refl _)
  refine Z0 (listUpdate_at ho6 rfl ?_ (hsz2:=by rw[e,sizeLine_eq];lia))
  simp only[bne_self_eq_false,Bool.false_eq_true,if_false]
  rw[e]
  exact Z3 hP
 ·rw[if_neg hlt,if_neg hlt]
  have h3:=h2 (by lia)
  refine Z0 (wpAny_mono h3 (λκ s' hk=>?_) λ_ _ x=>x.elim)
  refine Z0 (wpAny_mono (kat_run (E:=λ_ _=>False) (Q:=λst s'=>s'={s with heap:=q3b s.heap a vs}∧(arrOf st).map (·.2)=out.toArray∧failedOf st=none∧out.length=vs.length) rfl (by lia) h64
   (λp st' s' hp har hf hg=>⟨hg.1,by rw[kat_snds rfl har,hg.2],hf,by rw[←hg.2];simp[hp]⟩) hk) ?_ λ_ _ x=>x.elim)
  rintro⟨⟨⟩,st'⟩ s' ⟨rfl,hp,hf,hs⟩
  dsimp only at hp hf⊢
  refine Z0 (seqEpoch_at ho6 rfl ?_)
  refine Z0 (listUpdate_at ho6 rfl ?_ (hsz2:=by rw[hp,List.size_toArray,sizeLine_eq];lia))
  rw[hf]
  simp only[bne_self_eq_false,Bool.false_eq_true,if_false]
  rw[hp]
  exact Z3 hP
theorem q59{x y:Array UInt8}{t u:Tok}{Q:Value→Shared→Prop}(h:Q (.bool (Builtin.Bytes.order x.toList y.toList==.lt)) s) :
  wpAny (model prog w) A (call (.builtin "bytes.__lt__") [.bytes x t,.bytes y u]) Q E s:=
 call_gives q1t (typeIs_bytes s x t) q2d (q2K _ _) (q2c x y t u) h
theorem q6o{x y:Array UInt8}{t u:Tok}{Q:Bool→Shared→Prop}(h:Q (Builtin.Bytes.order x.toList y.toList==.lt) s):wpAny (model prog w) A (oneLt' true (.bytes x t) (.bytes y u)) Q E s:=by
 rw[oneLt'_eq]
 simp only[if_true]
 refine Z0 (wpAny_cRoomFor_byValue rfl ?_)
 refine Z0 (wpAny_callSpecialIfBound?_slot (typeIs_bytes s x t) q1t (q59 ?_))
 exact wpAny_truthy_bool h
theorem q62{x y:Array UInt8}{t u:Tok}{Q:Value→Shared→Prop}(h:Q (.bool (Builtin.Bytes.order x.toList y.toList==.lt)) s):wpAny (model prog w) A (compareOp .Lt (.bytes x t) (.bytes y u)) Q E s:=
 compareOp_gives (op:=.Lt) (typeIs_bytes s x t) (typeIs_bytes s y u) q1t q2d (q2K _ _) (q2c x y t u) (λe=>nomatch e) h
end
section
variable{B:Base}{W W':Wd}{fs:List Nat}{σ τ:S}{s s':Shared}
theorem q9A{prog:Program}{w:World}{A:Around}{E:Value→Shared→Prop}{a b:SV}{u v:Value}{r o:Bool}{Q:Bool→Shared→Prop}(h:lt1 a b=some r)(ha:VR W a u)(hb:VR W b v)(hq:Q r s) :
  wpAny (model prog w) A (oneLt' o u v) Q E s:=by
 refine Z4 (q0f h) (λo2=>X0x2 o2 λ_ h2=>?_) λo1=>X1x2 o1 λi h1 h2=>?_
 ·refine q02 h2 ?_;intro i h1 h3
  refine q02 h3 ?_;intro j h4 h5
  rw[q0x h1] at ha;rw[q0x h4] at hb
  refine q0n ha ?_;intro x t o1 hx _;subst o1
  refine q0n hb ?_;intro y t' o1 hy _;subst o1
  have:=q2Y h5 hx hy
  simp only[Bool.false_eq_true,if_false] at this
  subst this
  cases o with
  |true=>exact q6o hq
  |false=>exact kat_one _ _ (q62 hq)
 ·refine q02 h2 ?_;intro j h3 h4
  refine zI h4 ?_;clear h4;rintro rfl
  rw[q0c h1] at ha;rw[q0c h3] at hb
  refine q0d ha ?_;intro t o1 _;subst o1
  refine q0d hb ?_;intro t' o1 _;subst o1
  rw[q3M] at hq
  cases o with
  |true=>exact oneLt_int hq
  |false=>exact kat_one _ _ (P.lt_int hq)
theorem qg0(R:Rel B W fs σ s){prog:Program}{w:World}{A:Around}(hu:A.units+4<cLine){fin r b:Bool}{Q:Bool→Shared→Prop}(hq:Q r s){x y:List SV}{xs ys:List Value}{i:Nat}(h:ltL (eqS tb σ 2) lt1 x y=some r)(hx:VRs W x xs)(hy:VRs W y ys)
  (hf:decide (xs.length<ys.length)=fin):KatLex prog w A b fin Q (xs.zip ys) i s:=by
 induction hx generalizing y ys i with
 |nil=>
  have h:some (not' (q0s y))=some r:=h
  have h:not' (q0s y)=r:=by injection h
  have:fin=r:=by
   rw[←hf,←h]
   cases hy with
   |nil=>rfl
   |cons _ _=>rfl
  show Q fin s
  rw[this];exact hq
 |@cons a u x xs ha hx ih=>
  cases hy with
  |nil=>
   have h:some false=some r:=h
   refine zI h ?_;clear h;rintro rfl
   have:fin=false:=by rw[←hf];rfl
   show Q fin s
   rw[this];exact hq
  |@cons b' v y ys hb hy=>
   refine q02 (show oO (eqS tb σ 2 a b') (λe=>bi e (ltL (eqS tb σ 2) lt1 x y) (lt1 a b'))=some r from h) ?_;intro e h1 h2
   have K:=q5V R 2 a b' u v e A h1 ha hb (by lia)
   have E:=q3S K.eq K.same λx t y t' z=>absurd z (q1j ha x t)
   refine kat_cons (E prog w _ _ ?_)
   cases e with
   |true=>exact kat_yes (ih h2 hy (by rw[←hf];simp))
   |false=>exact kat_no (q9A h2 ha hb hq)
theorem qau{l:List SV}{vs:List Value}(h:allI l=true)(H:VRs W l vs):∃ns,IntsAre vs ns:=by
 induction H with
 |nil=>exact⟨[],.nil⟩
 |@cons v u l us hv hl ih=>
  refine Z4 (q0f (show oE (iOf v) false (λ_=>allI l)=true from h)) (λo2=>X0x2 o2 λ_ z=>?_) λo1=>X1x2 o1 λi h1 h2=>?_
  ·exact zF z
  ·refine X1x1 (ih h2) ?_;intro ns hn
   rw[q0c h1] at hv
   refine q0d hv ?_;intro t o1 _;subst o1
   exact⟨i::ns,.cons _ _ hn⟩
theorem qev(R:Rel B W fs σ s){l:List SV}{vs:List Value}(h:allT tb σ l=true)(H:VRs W l vs):∃fs,KatTups s.heap vs fs∧fs.length=vs.length∧∀v∈fs,∃x t,v=.bytes x t:=by
 induction H with
 |nil=>exact⟨[],trivial,rfl,λ_ h=>nomatch h⟩
 |@cons v u l us hv hl ih=>
  refine Z4 (q0f (show oE (oO (q0C tb σ v) (λx=>oO (nth x 0) yOf)) false (λ_=>allT tb σ l)=true from h)) (λo2=>X0x2 o2 λ_ z=>?_) λo1=>X1x2 o1 λy h1 h2=>?_
  ·exact zF z
  ·refine X1x3 (ih h2) ?_;intro fs k1 k2 k3
   refine q02 h1 ?_;intro x h3 h4
   refine q02 h4 ?_;intro z h5 h6
   refine R.tup_E7 h3 hv ?_;intro p ws c o1 e1 hws _;subst o1
   rw[q31] at h5
   refine X1x2 (hws.get h5) ?_;intro f hf hr
   rw[q0x h6] at hr
   refine q0n hr ?_;intro b t o1 _ _;subst o1
   refine⟨.bytes b t::fs,KatTups.cons e1 rfl rfl (by simpa using hf) k1,by simp[k2],λv hv=>?_⟩
   refine Z4 (List.mem_cons.mp hv) ?_ (λhv=>?_);rintro rfl
   ·exact⟨b,t,rfl⟩
   ·exact k3 v hv
theorem q9z(R:Rel B W fs σ s){A:Around}(hu:A.units+4<cLine){l:List SV}{vs:List Value}(hl:VRs W l vs){κ:SortKind}(hk:(allI l=true∧κ=oneType')∨(allT tb σ l=true∧κ=tuples' true))(i j:Nat)(b:Bool)(h:ltAt tb σ l i j=some b)
  (C:Bool→Shared→Prop) (hC:C b s):kas_ask B.prog B.w A κ vs i j C s:=by
 refine q02 (show oO (nth l i) (λx=>oO (nth l j) (λy=>ltS tb σ x y))=some b from h) ?_;intro x h1 h2
 refine q02 h2 ?_;intro y h3 h4
 rw[q31] at h1 h3
 refine X1x2 (hl.get h1) ?_;intro u hu1 hx
 refine X1x2 (hl.get h3) ?_;intro v hv1 hy
 unfold kas_ask
 have e1:vs.getD i Value.none=u:=by simp only[List.getD_eq_getElem?_getD,hu1,Option.getD_some]
 have e2:vs.getD j Value.none=v:=by simp only[List.getD_eq_getElem?_getD,hv1,Option.getD_some]
 rw[e1,e2]
 focus (refine Z4 hk ?_ ?_;rotate_left;clear hk;intro o1;refine X0x2 o1 ?_;clear o1;intro a1 o2;subst o2;rotate_right;clear hk;intro o3;refine X0x2 o3 ?_;clear o3;intro a1 o4;subst o4)
 ·refine X1x1 (qau a1 hl) ?_;intro ns hI
  have hiof:∀{l:List SV}{i:Nat}{x:SV},allI l=true→l[i]?=some x→∃n,iOf x=some n:=by
   intro l
   induction l with
   |nil=>intro i x _ h;simp at h
   |cons y r ih=>
    intro i x h e
    refine Z4 (q0f (show oE (iOf y) false (λ_=>allI r)=true from h)) (λo2=>X0x2 o2 λ_ z=>?_) λo1=>X1x2 o1 λn q1 q2=>?_
    ·exact zF z
    ·cases i with
     |zero=>simp only[List.getElem?_cons_zero,Option.some.injEq] at e;subst e;exact⟨n,q1⟩
     |succ i=>exact ih q2 (by simpa using e)
  refine X1x1 (hiof a1 h1) ?_;intro m hm
  refine X1x1 (hiof a1 h3) ?_;intro k hk
  have h4:oE (lt1 x y) (oO (q0C tb σ x) (λa=>oO (q0C tb σ y) (λb=>ltL (eqS tb σ 2) lt1 a b))) some=some b:=h4
  have e:lt1 x y=some (iLt m k):=by
   show oE (iOf x) _ _=_
   rw[hm];show oO (iOf y) _=_;rw[hk]
  rw[e] at h4
  have h4:some (iLt m k)=some b:=h4
  rw[h4] at e
  rw[keyLt'_oneType]
  exact q9A e hx hy hC
 ·have htof:∀{l:List SV}{i:Nat}{x:SV},allT tb σ l=true→l[i]?=some x→∃a,q0C tb σ x=some a:=by
   intro l
   induction l with
   |nil=>intro i x _ h;simp at h
   |cons y r ih=>
    intro i x h e
    refine Z4 (q0f (show oE (oO (q0C tb σ y) (λx=>oO (nth x 0) yOf)) false (λ_=>allT tb σ r)=true from h)) (λo2=>X0x2 o2 λ_ z=>?_) λo1=>X1x2 o1 λn q1 q2=>?_
    ·exact zF z
    ·cases i with
     |zero=>simp only[List.getElem?_cons_zero,Option.some.injEq] at e;subst e;(refine q02 q1 ?_;intro a q _);exact⟨a,q⟩
     |succ i=>exact ih q2 (by simpa using e)
  refine X1x1 (htof a1 h1) ?_;intro a ha
  refine X1x1 (htof a1 h3) ?_;intro c hc
  refine R.tup_E7 ha hx ?_;intro p xs d o1 f1 hxs _;subst o1
  refine R.tup_E7 hc hy ?_;intro q ys d' o1 f2 hys _;subst o1
  have h4:oE (lt1 x y) (oO (q0C tb σ x) (λa=>oO (q0C tb σ y) (λb=>ltL (eqS tb σ 2) lt1 a b))) some=some b:=h4
  have e:lt1 x y=none:=by
   have hi:iOf x=none:=by cases x<;>first|rfl|exact zN ha
   have hy':yOf x=none:=by cases x<;>first|rfl|exact zN ha
   show oE (iOf x) _ _=_
   rw[hi];show oO (yOf x) _=_;rw[hy']
  rw[e] at h4
  have h4:oO (q0C tb σ x) (λa=>oO (q0C tb σ y) (λb=>ltL (eqS tb σ 2) lt1 a b))=some b:=h4
  rw[ha] at h4
  have h4:oO (q0C tb σ y) (λb=>ltL (eqS tb σ 2) lt1 a b)=some b:=h4
  rw[hc] at h4
  have h4:ltL (eqS tb σ 2) lt1 a c=some b:=h4
  exact kat_lt f1 rfl f2 rfl (by simpa using qg0 R hu hC h4 hxs hys rfl)
end
end
section
open PySem PySem.W
open PyProof PyProof.Rows
variable{B:Base}{W W':Wd}{fs:List Nat}{σ τ:S}{s s':Shared}{A:Around}{E:Value→Shared→Prop}{kv:KV}
theorem q3O{h h':Heap}{a:Addr}{f:Obj→Obj}(g:Grows h h')(ha:h.objs.size≤a):Grows h (h'.update a f):=⟨λb o e=>by
 rw[Heap.get?_update_ne _ _ _ _ (λz=>absurd (Z7 e) (by rw[z];exact Nat.not_lt.mpr ha))];exact g.keep b o e⟩
theorem q4v{h h':Heap}(o:Obj)(g:Grows h h'):Grows h (h'.push o):=g.trans (.push h' o)
theorem q3P{h h':Heap}{a:Addr}{vs:List Value}(g:Grows h h')(ha:h.objs.size≤a):Grows h (q3b h' a vs):=q4v _ (q4v _ (q3O g ha))
theorem q5O{h h':Heap}{a:Addr}{vs:List Value}{out:Array Value}(g:Grows h h')(ha:h.objs.size≤a):Grows h (sortedHeap h' a vs out):=q3O (q3P g ha) ha
theorem q4N{h:Heap}{a:Addr}{vs:List Value}{out:Array Value}{n:Nat}(ho:h.get? a=some (seqObj "list" vs.toArray n)):∃e,(sortedHeap h a vs out).get? a=some (seqObj "list" out e):=by
 have ha:a<h.objs.size:=Z7 ho
 obtain⟨e1,ho1⟩:∃e1,(h.update a (Obj.mapSeq λ_=>#[])).get? a=some (seqObj "list" #[] e1):=⟨_,get?_update_seq ho (λ_=>#[])⟩
 have ho6:(q3b h a vs).get? a=some (seqObj "list" #[] e1):=by
  unfold q3b
  rw[Heap.get?_push_ne _ _ _ (by rw[size_push',Heap.size_update];exact Nat.ne_of_lt (Nat.lt_succ_of_lt ha)),Heap.get?_push_ne _ _ _ (by rw[Heap.size_update];exact Nat.ne_of_lt ha)]
  exact ho1
 exact⟨_,get?_update_seq ho6 (λ_=>out)⟩
theorem qaM{α:Type}{l:List α}(h:2≤l.length):∃a b r,l=a::b::r:=by
 cases l with
 |nil=>exact absurd h (Nat.not_succ_le_zero 1)
 |cons a l=>cases l with
  |nil=>exact absurd h (Nat.not_succ_le_self 1)
  |cons b r=>exact⟨a,b,r,rfl⟩
theorem q2g(R:Rel B W fs σ s)(hu:A.units+9<cLine){l:List SV}{vs:List Value}(h:sorted tb σ kv l=true)(hl:VRs W l vs){P:PySem.Fin→Shared→Prop}(hP:∀v s',PQ B W fs (QV kv) v s'→P (.done (.ret v)) s') :
  wpAny (model B.prog B.w) A (do let l ←newList vs;let _ ←holding [l] (call (.builtin "list.sort") [l]);ret l) P E s:=by
 refine q06 h ?_;intro h1 h2
 have h1:l.length<60:=by
  have:=Nat.lt_of_lt_of_eq (Z8 h1) rfl
  rwa[q0o] at this
 have hvl:vs.length=l.length:=hl.length
 refine Z0 (wpAny_newList ?_ (by rw[sizeLine_eq];lia))
 have ho:(s.heap.push (seqObj "list" vs.toArray 0)).get? s.heap.objs.size=some (seqObj "list" vs.toArray 0):=Zb _ rfl
 show wpAny _ _ _ _ _ {s with heap:=s.heap.push (seqObj "list" vs.toArray 0)}
 have g0:Grows s.heap (s.heap.push (seqObj "list" vs.toArray 0)):=.push _ _
 have R3:Rel B W fs σ {s with heap:=q3b (s.heap.push (seqObj "list" vs.toArray 0)) s.heap.objs.size vs}:=R.grow (q3P g0 (Nat.le_refl _)) rfl rfl
 obtain⟨r,out,hr,ho2,hlt,hge⟩:∃(r:List SV)(out:List Value),VRs W r out∧σ.addLK r (λn σ=>kv (.own n) σ)=true∧(vs.length<2→out=vs)∧
   (2≤vs.length→wpAny (model B.prog B.w) A.in1 (keyKind' vs.toArray) (λκ s'=>(kas_sort vs.length).kasWp (kas_ask B.prog B.w A.in1 κ vs) (λp s''=>s''={s with heap:=q3b (s.heap.push (seqObj "list" vs.toArray 0)) s.heap.objs.size vs}∧(p.toList.map λi=>vs.getD i Value.none)=out) s') (λ_ _=>False) {s with heap:=q3b (s.heap.push (seqObj "list" vs.toArray 0)) s.heap.objs.size vs}):=by
  refine Z4 (q1c h2) (λo2=>X0x2 o2 λh3 h4=>?_) λo1=>X0x2 o1 λh3 h4=>?_
  ·have h3:l.length<2:=by
    have:=Nat.lt_of_lt_of_eq (Z8 h3) rfl
    rwa[q0o] at this
   exact⟨l,vs,hl,h4,λ_=>rfl,λz=>by lia⟩
  ·have h3:¬l.length<2:=λz=>by
    have:Nat.blt (len l) 2=true:=by rw[q0o];exact Nat.ble_eq_true_of_le z
    rw[this] at h3;exact zT h3
   refine q06 h4 ?_;intro h5 h6
   refine q00 h6 ?_;intro p h7 h8
   refine X1x2 (q4o h8) ?_;intro r h9 h10
   refine⟨r,_,picked hl h9,h10,λz=>by lia,λz=>?_⟩
   rw[q0o,←hvl] at h7
   refine Z4 (q1c h5) (λo2=>X0x2 o2 λh11 _=>?_) λo1=>X0x2 o1 λ_ h11=>?_
   ·refine X1x1 (qau h11 hl) ?_;intro ns hI
    refine X3x1 (qaM (l:=vs) (by lia)) ?_;intro v₁ v₂ rest o1;subst o1
    rw[keyKind_ints hI]
    exact Z3 (q6j (q9z R3 (A:=A.in1) (by show A.units+1+4<cLine;lia) hl (.inl ⟨h11,rfl⟩)) h7 ⟨rfl,rfl⟩)
   ·refine X1x3 (qev R3 h11 hl) ?_;intro fs' k1 k2 k3
    refine kat_kind (T:=.type "bytes") k1 (by lia) (λv hv=>?_) rfl ?_
    ·refine X2x1 (k3 v hv) ?_;intro x t o1;subst o1
     exact .now
    ·exact q6j (q9z R3 (A:=A.in1) (by show A.units+1+4<cLine;lia) hl (.inr ⟨h11,rfl⟩)) h7 ⟨rfl,rfl⟩
 refine Z0 (wpAny_holding (wpAny_call_entry slot_list_sort ⟨_,ho,rfl⟩ entry_list_sort (q4U (s:={s with heap:=s.heap.push (seqObj "list" vs.toArray 0)}) (out:=out) ho (by lia) hlt hge ⟨_,rfl,?_⟩) (args_list_sort _)))
 refine Z3 (hP _ _ ?_)
 refine q06 ho2 ?_;intro h11 h12
 refine S.addK_true_E3 h12 ?_;intro τ AA e
 have hlr:=q0A h11
 refine X1x1 (q4N (out:=out.toArray) ho) ?_;intro ep hat
 exact⟨_,τ,W.le_add ⟨s.heap.objs.size,[]⟩,R.new1 AA (q5O g0 (Nat.le_refl _) :) (Nat.le_refl _) ⟨_,hat⟩ ⟨out,ep,hat,hr.mono (W.le_add _),hlr⟩ rfl rfl,qv (q12 (R.add_at ⟨s.heap.objs.size,[]⟩)) e⟩
theorem qcV{W:Wd}{es:List (List Nat×SV)}{kvs:List (Str×Value)}{vs:List Value}(H:All2 (q5f W) es kvs)(hl:vs.length=kvs.length)(h:∀(j:Nat)(v:Value),vs[j]?=some v→∃(k:Str)(x:Value),kvs[j]?=some (k,x)∧(∃t:Tok,v=Value.str k t)):VRs W (es.map (λp=>SV.str p.1)) vs:=by
 induction H generalizing vs with
 |nil=>cases vs with
  |nil=>exact .nil
  |cons=>exact nomatch hl
 |cons p t ih=>cases vs with
  |nil=>exact nomatch hl
  |cons v vs=>
   refine X1x1 (h 0 v rfl) ?_;intro k o1;refine X1x1 o1 ?_;clear o1;intro x o2;refine X0x2 o2 ?_;clear o2;intro h1 o3;refine X1x1 o3 ?_;clear o3;intro t' h2
   have q:=p.1
   rw[Z6 h1] at q
   refine .cons ?_ (ih (Nat.succ.inj hl) λj v e=>h (j+1) v e)
   rw[h2,show k=_ from q]
   exact q3r p.2.1
theorem qdT{W:Wd}{es:List (Int×SV)}{kvs:List (Int×Value)}{vs:List Value}(H:All2 (q5g W) es kvs)(hl:vs.length=kvs.length)(h:∀(j:Nat)(v:Value),vs[j]?=some v→∃(k:Int)(x:Value),kvs[j]?=some (k,x)∧(∃t:Tok,v=Value.int k t)):VRs W (es.map (λp=>SV.int (.lit p.1))) vs:=by
 induction H generalizing vs with
 |nil=>cases vs with
  |nil=>exact .nil
  |cons=>exact nomatch hl
 |cons p t ih=>cases vs with
  |nil=>exact nomatch hl
  |cons v vs=>
   refine X1x1 (h 0 v rfl) ?_;intro k o1;refine X1x1 o1 ?_;clear o1;intro x o2;refine X0x2 o2 ?_;clear o2;intro h1 o3;refine X1x1 o3 ?_;clear o3;intro t' h2
   have q:=p.1
   rw[Z6 h1] at q
   refine .cons ?_ (ih (Nat.succ.inj hl) λj v e=>h (j+1) v e)
   rw[h2,show k=_ from q]
   exact q13 p.2.1
theorem qam(R:Rel B W fs σ s)(hA:A.handled=none)(hu:A.units+12<cLine){x:SV}{u:Value}(hx:VR W x u)(h:oE (q0N σ x) (oB (ats σ x q5I) (sorted tb σ kv)) (sorted tb σ kv)=true) :
  wpAny (model B.prog B.w) A (call (.builtin "sorted") [u]) (PQ B W fs (QV kv)) E s:=by
 refine Calls.call_function_entry kind_sorted plain_sorted entry_sorted (args_sorted1 _) ?_
 unfold Builtin.«sorted»
 refine Z0 (m:=checkCount "sorted" 1 1 _) (Z3 ?_)
 refine Z4 (q0f h) (λo2=>X0x2 o2 λ_ h2=>?_) λo1=>X1x2 o1 λl h1 h2=>?_
 ·refine q00 h2 ?_;intro l h3 h4
  cases x with
  |own j=>
   refine q02 (show oO (σ.get j) q5I=some l from h3) ?_;intro o h5 h6
   refine X1x2 hx ?_;clear hx;intro p hp o1;subst o1
   have hob:=R.objs _ _ _ h5 hp
   have hn:=R.notMods hp
   refine Z4 (q0f (show oE (dsOf o) (oO (diOf o) (λes=>some (mapL (λp=>.int (.lit p.1)) es))) (λes=>some (mapL (λp=>.str p.1) es))=some l from h6)) (λo2=>X0x2 o2 λ_ h7=>?_) λo1=>X1x2 o1 λes h7 h8=>?_
   ·refine q02 h7 ?_;intro es h8 h9
    rw[q3U h8] at hob
    refine X2x3 hob ?_;clear hob;intro kvs ep e1 e2 e3
    have hm:mapL (λp:Int×SV=>SV.int (.lit p.1)) es=es.map (λp=>.int (.lit p.1)):=q50 _ _
    rw[hm] at h9
    refine zI h9 ?_;clear h9;rintro rfl
    refine Z0 (kdu_collect (kdl_dict (kvs:=kvs) (ep:=ep) hn) hA e1 (by rw[e2.length];exact q0i e3) λh' tk acc hk hacc=>?_)
    refine q2g (s:={s with heap:=h',toks:=tk}) (R.grow ⟨hk⟩ rfl rfl) (by show A.units+1+9<cLine;lia) h4 (qdT e2 (by rw[Array.length_toList];exact hacc.1) λj v e=>?_) λv s' z=>⟨_,rfl,z⟩
    refine X2x2 (hacc.2 j v (by rw[←Array.getElem?_toList];exact e)) ?_;intro k x q1 q2
    exact⟨k,x,q1,Value.isInt_shape q2⟩
   ·refine zI h8 ?_;clear h8;rintro rfl
    rw[q1q h7] at hob
    refine X2x3 hob ?_;clear hob;intro kvs ep e1 e2 e3
    have hm:mapL (λp:List Nat×SV=>SV.str p.1) es=es.map (λp=>.str p.1):=q50 _ _
    rw[hm] at h4
    refine Z0 (kdu_collect (kdl_dict (kvs:=kvs) (ep:=ep) hn) hA e1 (by rw[e2.length];exact q0i e3) λh' tk acc hk hacc=>?_)
    refine q2g (s:={s with heap:=h',toks:=tk}) (R.grow ⟨hk⟩ rfl rfl) (by show A.units+1+9<cLine;lia) h4 (qcV e2 (by rw[Array.length_toList];exact hacc.1) λj v e=>?_) λv s' z=>⟨_,rfl,z⟩
    refine X2x2 (hacc.2 j v (by rw[←Array.getElem?_toList];exact e)) ?_;intro k x q1 q2
    exact⟨k,x,q1,Value.isStrOf_shape q2⟩
  |_=>exact zN h3
 ·refine R.lst_E11 h1 hx ?_;intro k q vs m e0 e1 e2 o1 e3 hvs hlen;subst o1
  refine Z0 (collect_list (q0b e3) ?_ (by rw[hvs.length];exact q0i hlen))
  exact q2g (s:={s with heap:=(s.heap.push (seqObj "list" #[] 0)).update s.heap.objs.size (Obj.mapSeq (·++vs.toArray))}) (R.grow (q3O (.push _ _) (Nat.le_refl _)) rfl rfl) (by show A.units+1+9<cLine;lia) h2 hvs λv s' z=>⟨_,rfl,z⟩
end
section
open PySem PySem.W
open PyProof PyProof.Rows
namespace FA
theorem owner_ba:Manifest.owners.lookup (String.ofList ['y','a','r','r','a','e','t','y','b'].reverse)=some Manifest.sig_bytearray:=by kernel_rfl
theorem slot_len:Slot "bytearray" "__len__" "bytearray.__len__":=
 .of (owner:="bytearray") (n:="__len__") (by rw[typeLookup_type,builtinLookup_eq_fast];kernel_rfl) (by decide +kernel) (by decide +kernel) (by decide +kernel)
  (by first|exact .inl (by decide +kernel)|exact .inr (by decide +kernel)) (by rw[isSubtype_type];kernel_rfl)
theorem entry_len:entryFor table "bytearray.__len__"=some Builtin.«bytearray.__len__»:=entryFor_of_tree (by kernel_rfl)
theorem args_len(a:Value):argsOk "bytearray.__len__" ⟨[a],[]⟩:=by
 unfold argsOk;rw[signature?_of (id:="bytearray.__len__") (n:=['_','_','n','e','l','_','_']) (o:=['y','a','r','r','a','e','t','y','b']) (by kernel_rfl) owner_ba];kernel_rfl
end FA
section
variable{M:Model}{A:Around}{E:Value→Shared→Prop}{s:Shared}
theorem q1l{a:Addr}{l:List UInt8}{Q:Array UInt8→Shared→Prop}(h:s.heap.get? a=some (q0j l))(hq:Q l.toArray s):wpAny M A (Builtin.Bytes.payload (.ref a)) Q E s:=by
 unfold Builtin.Bytes.payload Builtin.Bytes.payload?
 refine Z0 (Z0 (wpAny_load h ?_))
 exact Z3 (Z3 hq)
end
theorem qgN(a:Addr)(l:List UInt8):Meets (Builtin.«bytearray.__len__» ⟨[.ref a],[]⟩) (λ_ R s=>s.heap.get? a=some (q0j l)∧R (.ok (.ret (.int l.length s.toks))) {s with toks:=s.toks+1}):=
 .of_wp λprog w A R s oY1x0=>by
  refine X0x2 oY1x0 ?_;clear oY1x0;intro h hR
  unfold Builtin.«bytearray.__len__»
  refine Z0 (Z3 ?_)
  dsimp only
  refine Z0 (q1l h ?_)
  unfold retInt
  refine Z0 (wpAny_mkInt (Z3 ⟨_,rfl,?_⟩))
  simpa using hR
section
variable{B:Base}{W W':Wd}{fs:List Nat}{σ τ:S}{s s':Shared}{A:Around}{E:Value→Shared→Prop}{kv:KV}
theorem q9r{n:Nat}{k:Nat→Bool}(h:natK n k=true):k n=true:=by rw[q1R] at h;exact h
theorem qaI{n:Nat}{t:Tok}(h:n≤4096):VR W (.int (.lit (.ofNat n))) (.int n t):=q13 (by show n<_;lia)
theorem qgH(R:Rel B W fs σ s){x:SV}{u:Value}(hx:VR W x u)(h:oB (lenS tb σ x) (λn=>natK n (λn=>kv (.int (.lit (.ofNat n))) σ))=true) :
  wpAny (model B.prog B.w) A (call (.builtin "len") [u]) (PQ B W fs (QV kv)) E s:=by
 refine q00 h ?_;intro n h1 h2
 have h2:=q9r h2
 have fin:∀(m:Nat)(t:Tok)(tk:Nat),m=n→m≤4096→PQ B W fs (QV kv) (.int (m:Nat) t) {s with toks:=tk}:=λm t tk e hm=>by
  subst e;exact PQ.tok R (qv (qaI hm) h2)
 cases x with
 |str l=>
  refine X1x2 hx ?_;clear hx;intro t o1 hl;subst o1
  have h1:some (len l)=some n:=h1
  rw[q0o] at h1
  have h1:l.length=n:=by injection h1
  have e:(⟨l.toArray⟩:Str).length=l.length:=by simp[Str.length]
  refine len_str ?_ ?_
  ·rw[e];lia
  ·rw[e];exact fin _ _ _ h1 hl
 |bytes b=>
  refine q0n hx ?_;intro a t o1 hb hl;subst o1
  have h1:some (len b)=some n:=h1
  rw[q0o] at h1
  have h1:b.length=n:=by injection h1
  have e:a.size=b.length:=by rw[←Array.length_toList];exact hb.length
  refine len_bytes (by lia) ?_
  rw[e];exact fin _ _ _ h1 hl
 |old a=>
  refine q02 (show oO (tb.tp a) (λl=>some (len l))=some n from h1) ?_;intro l h3 h4
  refine R.tup_E7 (v:=.old a) h3 hx ?_;intro p vs c o1 e1 hvs hlen;subst o1
  rw[q0o] at h4
  have h4:l.length=n:=by injection h4
  have e:vs.toArray.size=l.length:=by simp[hvs.length]
  refine len_tuple ⟨_,e1,rfl,_,rfl⟩ (by rw[e];lia) ?_
  rw[e];exact fin _ _ _ h4 hlen
 |own j=>
  refine q02 (show oO (σ.get j) qcj=some n from h1) ?_;intro o h3 h4
  refine X1x2 hx ?_;clear hx;intro p hp o1;subst o1
  have hob:=R.objs _ _ _ h3 hp
  have hn:=R.notMods hp
  cases o with
  |list l=>
   refine X2x3 hob ?_;clear hob;intro vs c e1 hvs hlen
   have h4:some (len l)=some n:=h4
   rw[q0o] at h4
   have h4:l.length=n:=by injection h4
   have e:vs.toArray.size=l.length:=by simp[hvs.length]
   refine len_list (q0b e1) (by rw[e];lia) ?_
   rw[e];exact fin _ _ _ h4 hlen
  |tuple l=>
   refine X2x3 hob ?_;clear hob;intro vs c e1 hvs hlen
   have h4:some (len l)=some n:=h4
   rw[q0o] at h4
   have h4:l.length=n:=by injection h4
   have e:vs.toArray.size=l.length:=by simp[hvs.length]
   refine len_tuple ⟨_,e1,rfl,_,rfl⟩ (by rw[e];lia) ?_
   rw[e];exact fin _ _ _ h4 hlen
  |dictS l=>
   refine X2x3 hob ?_;clear hob;intro kvs ep e1 hvs hlen
   have h4:some (len l)=some n:=h4
   rw[q0o] at h4
   have h4:l.length=n:=by injection h4
   have e:kvs.length=l.length:=hvs.length
   refine call_len_dict hn e1.dictOf (by rw[e];lia) ?_
   rw[e];exact fin _ _ _ h4 hlen
  |dictI l=>
   refine X2x3 hob ?_;clear hob;intro kvs ep e1 hvs hlen
   have h4:some (len l)=some n:=h4
   rw[q0o] at h4
   have h4:l.length=n:=by injection h4
   have e:kvs.length=l.length:=hvs.length
   refine call_len_dict hn e1.dictOf (by rw[e];lia) ?_
   rw[e];exact fin _ _ _ h4 hlen
  |barr l=>
   refine X1x3 hob ?_;clear hob;intro b e1 hvs hlen
   have h4:some (len l)=some n:=h4
   rw[q0o] at h4
   have h4:l.length=n:=by injection h4
   have e:b.length=l.length:=hvs.length
   refine call_len_meets (n:=(b.length:Nat)) (T:="bytearray") ⟨_,e1,rfl⟩ FA.slot_len FA.entry_len (FA.args_len _) (qgN p.a b) (by lia) (by lia) (λQ' hq=>⟨e1,hq⟩) ?_
   rw[e];exact fin _ _ _ h4 hlen
  |_=>exact zN h4
 |_=>exact zN h1
theorem qaw(i:Int):absI i=if i<0 then -i else i:=by
 cases i with
 |ofNat n=>
  rw[if_neg (by show ¬(Int.ofNat n)<0;simp)];rfl
 |negSucc n=>
  rw[if_pos (Int.negSucc_lt_zero n)]
  show Int.ofNat (Nat.add n 1)=_
  rw[Int.neg_negSucc];rfl
theorem qgJ(R:Rel B W fs σ s){x:SV}{u:Value}(hx:VR W x u)(h:oB (iOf x) (λi=>kv (.int (.lit (absI i))) σ)=true) :
  wpAny (model B.prog B.w) A (call (.builtin "abs") [u]) (PQ B W fs (QV kv)) E s:=by
 refine q00 h ?_;intro i h1 h2
 rw[q0c h1] at hx
 refine q0d hx ?_;intro t o1 hb;subst o1
 refine call_abs_int λt tk=>?_
 rw[←qaw]
 exact PQ.tok R (qv (q13 (by rw[qaw];exact q2A (P:=λx:Int=>x.natAbs<2305843009213693952) (by rw[Int.natAbs_neg];exact hb) hb)) h2)
theorem q9x{l:List SV}{vs:List Value}{m M:Int}(h:maxS l m=some M)(H:VRs W l vs):∃ns,IntsAre vs ns∧(M=m∨M∈ns)∧m≤M∧(∀a∈ns,a≤M)∧(∀a∈ns,a.natAbs<2305843009213693952):=by
 induction H generalizing m with
 |nil=>
  have h:=Z6 h
  exact⟨[],.nil,.inl h.symm,Int.le_of_eq h,(λ_ h=>absurd h List.not_mem_nil),(λ_ h=>absurd h List.not_mem_nil)⟩
 |@cons v u l us hv hl ih=>
  refine q02 (show oO (iOf v) (λi=>maxS l (bi (iLt m i) i m))=some M from h) ?_;intro i h1 h2
  refine X1x5 (ih h2) ?_;intro ns k1 k2 k3 k4 k5
  rw[q0c h1] at hv
  refine q0d hv ?_;intro t o1 hb;subst o1
  have hm:bi (iLt m i) i m=max m i:=by
   rw[q3M]
   by_cases hlt:m<i
   ·rw[decide_eq_true hlt];exact(Int.max_eq_right (Int.le_of_lt hlt)).symm
   ·rw[decide_eq_false hlt];exact(Int.max_eq_left (Int.not_lt.mp hlt)).symm
  rw[hm] at k2 k3
  refine⟨i::ns,.cons _ _ k1,?_,Int.le_trans (Int.le_max_left _ _) k3,λa ha=>?_,λa ha=>?_⟩
  ·refine Z4 k2 (λk2=>?_) λk2=>?_
   ·refine Z4 (Int.le_total m i) (λz=>?_) λz=>?_
    ·exact .inr (List.mem_cons.mpr (.inl (k2.trans (Int.max_eq_right z))))
    ·exact .inl (k2.trans (Int.max_eq_left z))
   ·exact .inr (.tail _ k2)
  ·refine Z4 (List.mem_cons.mp ha) ?_ (λha=>?_);rintro rfl
   ·exact Int.le_trans (Int.le_max_right _ _) k3
   ·exact k4 a ha
  ·refine Z4 (List.mem_cons.mp ha) ?_ (λha=>?_);rintro rfl
   ·exact hb
   ·exact k5 a ha
theorem qbj{l:Addr}{vs:List Value}{ns:List Int}{prog:Program}{w:World}{Q:Value→Shared→Prop}(hh:A.handled=none)
  (hl:s.heap.IsList l vs.toArray) (hi:IntsAre vs ns) (hne:0<ns.length)
  (h:∀h' M (t:Tok) tk,(∀b o,s.heap.get? b=some o→h'.get? b=some o)→M∈ns→(∀a,a∈ns→a≤M)→Q (.int M t) {s with heap:=h',toks:=tk}) :
  wpAny (model prog w) A (call (.builtin "max") [.ref l]) Q E s:=by
 refine X1x1 hi.allInts.items ?_;intro xs e
 have hns:ns=xs.toList.map (·.1):=by
  rw[←hi.numsOf,←nums_intItems,←e]
 have hsz:0<xs.size:=by
  have h3:=hne;rw[hns,List.length_map,Array.length_toList] at h3;exact h3
 rw[e] at hl
 refine max_intList hh hl hsz λv h' tk hv hk=>?_
 refine X1x1 (intItems_at hv) ?_;intro t o1;subst o1
 refine X0x2 (argBest_gt (numAt xs) (xs.size-1)) ?_;intro h1 h2
 refine h _ _ t tk hk ?_ λa ha=>?_
 ·rw[hns,numAt_eq];exact getD_mem (by rw[List.length_map,Array.length_toList];exact Nat.lt_of_le_of_lt h1 (Nat.sub_lt hsz (by decide)))
 ·rw[hns] at ha
  refine X1x2 (mem_getD ha) ?_;intro j hj o1;subst o1
  rw[List.length_map,Array.length_toList] at hj
  rw[←numAt_eq];exact h2 j (Nat.le_sub_one_of_lt hj)
theorem qgG(R:Rel B W fs σ s)(hA:A.handled=none){x:SV}{u:Value}(hx:VR W x u)(h:oB (q0N σ x) (λl=>@List.rec SV (λ_=>Bool) false (λv r _=>oB (iOf v) (λi=>oB (maxS r i) (λm=>kv (.int (.lit m)) σ))) l)=true) :
  wpAny (model B.prog B.w) A (call (.builtin "max") [u]) (PQ B W fs (QV kv)) E s:=by
 refine q00 h ?_;intro l h1 h2
 refine R.lst_E11 h1 hx ?_;intro k q vs m e0 e1 e2 o1 e3 hvs hlen;subst o1
 cases hvs with
 |nil=>exact zF h2
 |@cons v u' l us hv hl=>
  refine q00 (show oB (iOf v) (λi=>oB (maxS l i) (λm=>kv (.int (.lit m)) σ))=true from h2) ?_;intro i h3 h4
  refine q00 h4 ?_;intro M h5 h6
  refine X1x5 (q9x h5 hl) ?_;intro ns k1 k2 k3 k4 k5
  rw[q0c h3] at hv
  refine q0d hv ?_;intro t o1 hb;subst o1
  refine qbj hA (q0b e3) (IntsAre.cons i t k1) (by simp) λh' M' t' tk hk hm hle=>?_
  have:M'=M:=by
   have a1:M≤M':=by
    refine Z4 k2 ?_ (λk2=>?_);clear k2;rintro rfl
    ·exact hle _ (.head _)
    ·exact hle _ (.tail _ k2)
   have a2:M'≤M:=by
    refine Z4 (List.mem_cons.mp hm) ?_ (λhm=>?_);rintro rfl
    ·exact k3
    ·exact k4 _ hm
   lia
  subst this
  have R':Rel B W fs σ {s with heap:=h',toks:=tk}:=R.grow ⟨hk⟩ rfl rfl
  exact PQ.here R' (qv (q13 (by
   refine Z4 k2 ?_ (λk2=>?_);clear k2;rintro rfl
   ·exact hb
   ·exact k5 _ k2)) h6)
theorem qem(R:Rel B W fs σ s)(hA:A.handled=none){x y:SV}{u v:Value}(hx:VR W x u)(hy:VR W y v)(h:oB (iOf x) (λx=>oB (iOf y) (λy=>kv (.int (.lit (bi (iLt x y) y x))) σ))=true) :
  wpAny (model B.prog B.w) A (call (.builtin "max") [u,v]) (PQ B W fs (QV kv)) E s:=by
 refine q00 h ?_;intro i h1 h2
 refine q00 h2 ?_;intro j h3 h4
 rw[q0c h1] at hx
 rw[q0c h3] at hy
 refine q0d hx ?_;intro t o1 hb;subst o1
 refine q0d hy ?_;intro t' o1 hb';subst o1
 rw[q3M] at h4
 refine max_two_ints hA λh' tk hk=>?_
 have R':Rel B W fs σ {s with heap:=h',toks:=tk}:=R.grow ⟨hk⟩ rfl rfl
 by_cases hlt:i<j
 ·rw[if_pos hlt]
  rw[decide_eq_true hlt] at h4
  exact PQ.here R' (qv (q13 hb') h4)
 ·rw[if_neg hlt]
  rw[decide_eq_false hlt] at h4
  exact PQ.here R' (qv (q13 hb) h4)
theorem q92{x:SV}{l:List Nat}(h:sOf x=some l):x=.str l:=by cases x<;>(first|(exact zN h)|(refine zI h ?_;clear h;rintro rfl));rfl
theorem qgI(R:Rel B W fs σ s){x y:SV}{u v:Value}(hx:VR W x u)(hy:VR W y v)(h:oB (tyOf y) (λt=>bi (Nat.beq t 8) (oE (sOf x) (oB (ats σ x tOf) (λ_=>kv (.bool false) σ)) (λ_=>kv (.bool true) σ)) false)=true) :
  wpAny (model B.prog B.w) A (call (.builtin "isinstance") [u,v]) (PQ B W fs (QV kv)) E s:=by
 refine q00 h ?_;intro t h1 h2
 refine q06 h2 ?_;intro h3 h4
 have h3:=Z9 h3
 subst h3
 rw[q8L h1] at hy
 have hy:v=.type "str":=hy
 subst hy
 refine Z4 (q0f h4) (λo2=>X0x2 o2 λ_ h5=>?_) λo1=>X1x2 o1 λl h5 h6=>?_
 ·refine q00 h5 ?_;intro l h6 h7
  cases x with
  |own j=>
   refine q02 (show oO (σ.get j) tOf=some l from h6) ?_;intro o h8 h9
   rw[q70 h9] at h8
   refine X1x2 hx ?_;clear hx;intro p hp o1;subst o1
   refine X2x3 (R.objs _ _ _ h8 hp) ?_;intro vs c e1 hvs hlen
   exact IsiPair.tuple_str e1 rfl (PQ.tok R (qv q3s h7))
  |_=>exact zN h6
 ·rw[q92 h5] at hx
  refine X1x2 hx ?_;clear hx;intro t o1 _;subst o1
  exact IsiPair.str_str (PQ.here R (qv q3s h6))
end
namespace FA
theorem y_bytes:typeLookup (.type "bytes") "__bytes__"=pure (some (.builtin "bytes.__bytes__")):=by rw[typeLookup_type,builtinLookup_eq_fast];kernel_rfl
theorem b_bytes:typeLookup (.type "bytearray") "__bytes__"=pure none:=by rw[typeLookup_type,builtinLookup_eq_fast];kernel_rfl
theorem b_index:typeLookup (.type "bytearray") "__index__"=pure none:=by rw[typeLookup_type,builtinLookup_eq_fast];kernel_rfl
theorem b_buffer:typeLookup (.type "bytearray") "__buffer__"=pure (some (.builtin "bytearray.__buffer__")):=by rw[typeLookup_type,builtinLookup_eq_fast];kernel_rfl
theorem b_release:typeLookup (.type "bytearray") "__release_buffer__"=pure (some (.builtin "bytearray.__release_buffer__")):=by rw[typeLookup_type,builtinLookup_eq_fast];kernel_rfl
theorem b_sub:isSubtype (.type "bytearray") (.type "bytearray")=pure true:=by rw[isSubtype_type];kernel_rfl
theorem y_index:typeLookup (.type "bytes") "__index__"=pure none:=by rw[typeLookup_type,builtinLookup_eq_fast];kernel_rfl
theorem y_buffer:typeLookup (.type "bytes") "__buffer__"=pure (some (.builtin "bytes.__buffer__")):=by rw[typeLookup_type,builtinLookup_eq_fast];kernel_rfl
theorem y_release:typeLookup (.type "bytes") "__release_buffer__"=pure none:=by rw[typeLookup_type,builtinLookup_eq_fast];kernel_rfl
end FA
section
variable{prog:Program}{w:World}{A:Around}{E:Value→Shared→Prop}{s:Shared}
theorem q4k{M:Model}{v:Value}{nm id:String}{Q:Bool→Shared→Prop}(hT:s.TypeIs v "bytearray")(hl:typeLookup (.type "bytearray") nm=pure (some (.builtin id)))(he:id.endsWith ("."++nm)=true)(hd:(id.dropRight (nm.length+1):String)="bytearray")(hq:Q true s) :
  wpAny M A (Builtin.Bytes.slotIsOwn v nm) Q E s:=by
 unfold Builtin.Bytes.slotIsOwn
 refine Z0 (wpAny_specialOf hT hl ?_)
 refine bm_if_false (by rw[he];rfl) ?_
 show wpAny M A (isInstance v (.type (id.dropRight (nm.length+1)))) Q E s
 rw[hd]
 exact wpAny_isInstance hT FA.b_sub hq
theorem q2v{M:Model}{v:Value}{Q:Bool→Shared→Prop}(hT:s.TypeIs v "bytearray")(hq:Q false s):wpAny M A (Builtin.Bytes.ownRelease v) Q E s:=by
 unfold Builtin.Bytes.ownRelease
 exact Z0 (q4k (id:="bytearray.__release_buffer__") hT FA.b_release (by decide +kernel) (by decide +kernel) (Z3 hq))
theorem qah{M:Model}{a:Addr}{l:List UInt8}{id:String}{full:Bool}{Q:Option (Array UInt8)→Shared→Prop}(h:s.heap.get? a=some (q0j l))(hq:Q (some l.toArray) s):wpAny M A (Builtin.Bytes.buffer? id (.ref a) full) Q E s:=by
 have hT:s.TypeIs (.ref a) "bytearray":=⟨_,h,rfl⟩
 unfold Builtin.Bytes.buffer?
 refine Z0 (wpAny_specialOf hT FA.b_buffer ?_)
 refine Z0 (q4k (id:="bytearray.__buffer__") hT FA.b_buffer (by decide +kernel) (by decide +kernel) ?_)
 refine bm_if_false rfl ?_
 refine Z0 (wpAny_specialOf hT FA.b_buffer ?_)
 refine Z0 (q2v hT ?_)
 refine bm_if_false rfl ?_
 exact Z0 (q1l h (Z3 hq))
end
section
variable{prog:Program}{w:World}{A:Around}{E:Value→Shared→Prop}{s:Shared}
theorem q40{b:Array UInt8}{t:Tok}{Q:Value→Shared→Prop}(hq:Q (.bytes b t) s) :
  codeAny (model prog w) A (.call (.builtin "bytes.__new__") ⟨[.type "bytes",.bytes b t],[]⟩) (wants Q E) s:=by
 refine codeAny_of_tree ?_
 show wpAny _ A.in1 (do checkBuiltinCall "bytes.__new__" ⟨[.type "bytes",.bytes b t],[]⟩;again (.builtin "bytes.__new__" ⟨[.type "bytes",.bytes b t],[]⟩)) _ _ s
 refine Z0 (wpAny_of_eq (F.bm_newCall _) (Z3 ⟨plainId_quiet F.bm_plain _,codeAny_builtin F.bm_entry ?_⟩))
 rw[Around.under_plainId F.bm_plain _]
 unfold Builtin.«bytes.__new__»
 refine Z0 (wpAny_of_eq (a:=true) rfl ?_)
 refine bm_if_false rfl ?_
 refine Z0 (wpAny_of_eq F.bm_sub ?_)
 refine bm_if_false rfl ?_
 refine Z0 (wpAny_of_eq (F.bm_bind _) ?_)
 refine Z0 (wpAny_of_eq (a:=()) rfl ?_)
 refine Z0 (wpAny_of_eq (a:=()) rfl ?_)
 refine bm_if_false rfl ?_
 refine Z0 (wpAny_specialOf (typeIs_bytes s b t) FA.y_bytes ?_)
 dsimp only
 refine Z0 (wpAny_rule ?_)
 refine Z0 (wpAny_of_eq (a:=Value.type "bytes") rfl ?_)
 refine bm_if_true (by decide +kernel) ?_
 refine bm_if_true (by decide +kernel) ?_
 first
  |exact Z3 hq
  |exact Z0 (Z3 (Z3 hq))
theorem q3c{b:Array UInt8}{t:Tok}{Q:Value→Shared→Prop}(hq:Q (.bytes b t) s):wpAny (model prog w) A (call (.type "bytes") [.bytes b t]) Q E s:=by
 refine callType_codes (Q₁:=λobj s₁=>s₁.TypeIs obj "bytes"∧Q obj s₁) F.bm_called (F.bm_typeCall _) F.entry_object_init
  (q40 ⟨PySem.W.typeIs_bytes _ _ _,hq⟩) λobj s₁ h₁=>?_
 exact⟨h₁.1,F.args_object_init_2 obj _,object_init_meets F.bm_called.init.lookup F.bm_called.made (by decide) prog w A.in1 _ s₁ ⟨h₁.1,rfl,h₁.2⟩⟩
theorem q67{a:Addr}{l:List UInt8}{Q:Value→Shared→Prop}(h:s.heap.get? a=some (q0j l))(hz:l.length≤sizeLine)(hq:∀t tk,Q (.bytes l.toArray t) {s with toks:=tk}) :
  codeAny (model prog w) A (.call (.builtin "bytes.__new__") ⟨[.type "bytes",.ref a],[]⟩) (wants Q E) s:=by
 have hT:s.TypeIs (.ref a) "bytearray":=⟨_,h,rfl⟩
 refine codeAny_of_tree ?_
 show wpAny _ A.in1 (do checkBuiltinCall "bytes.__new__" ⟨[.type "bytes",.ref a],[]⟩;again (.builtin "bytes.__new__" ⟨[.type "bytes",.ref a],[]⟩)) _ _ s
 refine Z0 (wpAny_of_eq (F.bm_newCall _) (Z3 ⟨plainId_quiet F.bm_plain _,codeAny_builtin F.bm_entry ?_⟩))
 rw[Around.under_plainId F.bm_plain _]
 unfold Builtin.«bytes.__new__»
 refine Z0 (wpAny_of_eq (a:=true) rfl ?_)
 refine bm_if_false rfl ?_
 refine Z0 (wpAny_of_eq F.bm_sub ?_)
 refine bm_if_false rfl ?_
 refine Z0 (wpAny_of_eq (F.bm_bind _) ?_)
 refine Z0 (wpAny_of_eq (a:=()) rfl ?_)
 refine Z0 (wpAny_of_eq (a:=()) rfl ?_)
 refine bm_if_false rfl ?_
 refine Z0 (wpAny_specialOf hT FA.b_bytes ?_)
 refine Z0 (Z0 ?_)
 show wpAny _ _ (load a>>=_) _ _ _
 refine Z0 (wpAny_load h ?_)
 refine Z3 (Z3 ?_)
 refine bm_if_false rfl ?_
 refine Z0 (wpAny_specialOf hT FA.b_index ?_)
 refine bm_if_true rfl ?_
 first
  |show wpAny _ _ (Builtin.Bytes.buffer? "bytes.__new__" (.ref a) true>>=_) _ _ _
  |(refine Z0 ?_;show wpAny _ _ (Builtin.Bytes.buffer? "bytes.__new__" (.ref a) true>>=_) _ _ _)
 refine Z0 (qah h ?_)
 dsimp only
 refine Z0 (wpAny_rule ?_)
 refine Z0 (wpAny_mkBytes ?_ (by simpa using hz))
 first
  |refine Z0 (bm_if_true (by decide +kernel) ?_)
  |refine bm_if_true (by decide +kernel) ?_
 first
  |exact Z3 (hq _ _)
  |exact Z0 (Z3 (Z3 (hq _ _)))
  |exact Z3 (Z3 (hq _ _))
  |exact Z0 (Z3 (Z3 (Z3 (hq _ _))))
theorem q5a{a:Addr}{l:List UInt8}{Q:Value→Shared→Prop}(h:s.heap.get? a=some (q0j l))(hz:l.length≤sizeLine)(hq:∀t tk,Q (.bytes l.toArray t) {s with toks:=tk}):wpAny (model prog w) A (call (.type "bytes") [.ref a]) Q E s:=by
 refine callType_codes (Q₁:=λobj s₁=>s₁.TypeIs obj "bytes"∧Q obj s₁) F.bm_called (F.bm_typeCall _) F.entry_object_init
  (q67 h hz λt tk=>⟨PySem.W.typeIs_bytes _ _ _,hq t tk⟩) λobj s₁ h₁=>?_
 exact⟨h₁.1,F.args_object_init_2 obj _,object_init_meets F.bm_called.init.lookup F.bm_called.made (by decide) prog w A.in1 _ s₁ ⟨h₁.1,rfl,h₁.2⟩⟩
end
section
variable{B:Base}{W W':Wd}{fs:List Nat}{σ τ:S}{s s':Shared}{A:Around}{E:Value→Shared→Prop}{kv:KV}
theorem qbw(hν:∀x∈W.ν,0≤x∧x<20){l:List SV}{vs:List Value}{k:List SI→Bool}(h:qbx l k=true)(H:VRs W l vs):∃(b:List SI)(ns:List Int),k b=true∧IntsAre vs ns∧b.length=l.length∧ns.length=l.length∧(∀n∈ns,0≤n∧n<256)∧All2 (λ(i:SI)(n:Int)=>i.is W.ν n) b ns:=by
 induction H generalizing k with
 |nil=>exact⟨[],[],h,.nil,rfl,rfl,(λ_ h=>absurd h List.not_mem_nil),.nil⟩
 |@cons v u l us hv hl ih=>
  refine q00 (show oB (siOf v) (λi=>bi (qcz i) (qbx l (λr=>k (i::r))) false)=true from h) ?_;intro i h1 h2
  refine q06 h2 ?_;intro h3 h4
  refine X2x6 (ih h4) ?_;intro b ns k1 k2 k3 k4 k5 k6
  rw[q3y h1] at hv
  refine X2x3 hv ?_;clear hv;intro x t o1 hx hb;subst o1
  refine⟨i::b,x::ns,k1,.cons _ _ k2,by simp[k3],by simp[k4],λn hn=>?_,.cons hx k6⟩
  refine Z4 (List.mem_cons.mp hn) ?_ (λhn=>?_);rintro rfl
  ·cases i with
   |lit i=>
    have hx:n=i:=hx
    subst hx
    refine Z4 (q0f (show oE (q2j n) false (λn=>Nat.blt n 256)=true from h3)) (λo2=>X0x2 o2 λ_ z=>?_) λo1=>X1x2 o1 λm h5 h6=>?_
    ·exact zF z
    ·cases n with
     |ofNat q=>
      have e5:q=m:=Z6 h5
      have:m<256:=Z8 h6
      exact⟨Int.natCast_nonneg q,Int.ofNat_lt.mpr (e5▸this)⟩
     |negSucc q=>exact zN h5
   |var j c=>
    refine X1x2 hx ?_;clear hx;intro y hy e
    refine Z4 (q0f (show oE (q2j c) false (λn=>Nat.ble (Nat.add n 20) 256)=true from h3)) (λo2=>X0x2 o2 λ_ z=>?_) λo1=>X1x2 o1 λm h5 h6=>?_
    ·exact zF z
    ·have hm:=hν y (Zd hy)
     cases c with
     |ofNat q=>
      have e5:q=m:=Z6 h5
      have:m+20≤256:=Z8 h6
      exact midq hm e e5 this
     |negSucc q=>exact zN h5
  ·exact k5 n hn
theorem q6M{b:List SI}{ns:List Int}(h:All2 (λ(i:SI)(n:Int)=>i.is W.ν n) b ns)(hr:∀n∈ns,0≤n∧n<256):All2 (q3d W) b (ns.map λn=>n.toNat.toUInt8):=by
 induction h with
 |nil=>exact .nil
 |@cons i n l l' hi ht ih=>
  refine .cons ?_ (ih λm hm=>hr m (.tail _ hm))
  have hn:=hr n (.head _)
  have h1:(n.toNat.toUInt8).toNat=n.toNat:=by
   show (UInt8.ofNat n.toNat).toNat=n.toNat
   rw[UInt8.toNat_ofNat'];exact Nat.mod_eq_of_lt ((Int.toNat_lt hn.1).mpr hn.2)
  show i.is W.ν _
  rw[h1,Int.toNat_of_nonneg hn.1]
  exact hi
theorem qhv(R:Rel B W fs σ s){x:SV}{u:Value}{b:List SI}(h:ats σ x baOf=some b)(hx:VR W x u):∃k p l,x=.own k∧σ.get k=some (.barr b)∧W.ρ[k]?=some p∧u=.ref p.a∧s.heap.get? p.a=some (q0j l)∧All2 (q3d W) b l∧b.length≤4096:=by
 cases x with
 |own j=>
  refine q02 (show oO (σ.get j) baOf=some b from h) ?_;intro o h8 h9
  have e:o=.barr b:=by cases o<;>(first|(exact zN h9)|(refine zI h9 ?_;clear h9;rintro rfl));rfl
  subst e
  refine X1x2 hx ?_;clear hx;intro p hp o1;subst o1
  refine X1x3 (R.objs _ _ _ h8 hp) ?_;intro l e1 e2 e3
  exact⟨j,p,l,rfl,h8,hp,rfl,e1,e2,e3⟩
 |_=>exact zN h
theorem q42(R:Rel B W fs σ s){x:SV}{u:Value}{b:List SI}{X:Prop}(h:ats σ x baOf=some b)(hx:VR W x u)(g:∀k p l,x=.own k→σ.get k=some (.barr b)→W.ρ[k]?=some p→u=.ref p.a→s.heap.get? p.a=some (q0j l)→All2 (q3d W) b l→b.length≤4096→X):X:=X3x7 (qhv R h hx) g
theorem qbP(R:Rel B W fs σ s)(hA:A.handled=none){x:SV}{u:Value}(hx:VR W x u)(h:qaf σ x kv=true) :
  wpAny (model B.prog B.w) A (call (.type "bytes") [u]) (PQ B W fs (QV kv)) E s:=by
 refine Z4 (q0f (show oE (yOf x) (oE (ats σ x baOf) (oB (q0N σ x) (λl=>qbx l (λb=>kv (.bytes b) σ))) (λb=>kv (.bytes b) σ)) (λb=>kv (.bytes b) σ)=true from h)) (λo2=>X0x2 o2 λ_ h2=>?_) λo1=>X1x2 o1 λb h1 h2=>?_
 ·refine Z4 (q0f h2) (λo2=>X0x2 o2 λ_ h3=>?_) λo1=>X1x2 o1 λb h3 h4=>?_
  ·refine q00 h3 ?_;intro l h4 h5
   refine R.lst_E11 h4 hx ?_;intro k q vs m e0 e1 e2 o1 e3 hvs hlen;subst o1
   refine X2x6 (qbw R.vars h5 hvs) ?_;intro b ns k1 k2 k3 k4 k5 k6
   refine call_bytes_ints (q0b e3) k2 k5 (by rw[hvs.length];exact q0i hlen) hA λh' t k hk=>?_
   have R':Rel B W fs σ {s with heap:=h',toks:=k}:=R.grow ⟨hk⟩ rfl rfl
   refine PQ.here R' (qv (x:=.bytes b) ⟨_,_,rfl,?_,by lia⟩ k1)
   exact q6M k6 k5
  ·refine q42 R h3 hx ?_;intro k p l e0 e1 e2 o1 e3 e4 e5;subst o1
   refine q5a e3 (by rw[e4.length];exact q0i e5) λt tk=>?_
   exact PQ.tok R (qv (x:=.bytes b) ⟨_,_,rfl,e4,e5⟩ h4)
 ·rw[q0x h1] at hx
  refine q0n hx ?_;intro a t o1 e1 e2;subst o1
  exact q3c (PQ.here R (qv (x:=.bytes b) hx h2))
theorem qaj(R:Rel B W fs σ s){x:SV}{u:Value}(hx:VR W x u)(h:oB (iOf x) (λi=>σ.addK (.rng 0 i) (λn σ=>kv (.own n) σ))=true) :
  wpAny (model B.prog B.w) A (call (.type "range") [u]) (PQ B W fs (QV kv)) E s:=by
 refine q00 h ?_;intro i h1 h2
 rw[q0c h1] at hx
 refine q0d hx ?_;intro t o1 hb;subst o1
 refine S.addK_true_E3 h2 ?_;intro τ AA e
 exact call_range_1 (PQ.new1 R AA rfl (λh' g=>⟨_,_,_,g,by decide,hb⟩) e)
theorem qai(R:Rel B W fs σ s){x y:SV}{u v:Value}(hx:VR W x u)(hy:VR W y v)(h:oB (iOf x) (λx=>oB (iOf y) (λy=>σ.addK (.rng x y) (λn σ=>kv (.own n) σ)))=true) :
  wpAny (model B.prog B.w) A (call (.type "range") [u,v]) (PQ B W fs (QV kv)) E s:=by
 refine q00 h ?_;intro i h1 h2
 refine q00 h2 ?_;intro j h3 h4
 rw[q0c h1] at hx
 rw[q0c h3] at hy
 refine q0d hx ?_;intro t o1 hb;subst o1
 refine q0d hy ?_;intro t' o1 hb';subst o1
 refine S.addK_true_E3 h4 ?_;intro τ AA e
 exact call_range_2 (PQ.new1 R AA rfl (λh' g=>⟨_,_,_,g,hb,hb'⟩) e)
theorem qbO(R:Rel B W fs σ s){x:SV}{u:Value}(hx:VR W x u)(h:oB (q0N σ x) (λl=>σ.addTK l (λn σ=>kv (.own n) σ))=true) :
  wpAny (model B.prog B.w) A (call (.type "tuple") [u]) (PQ B W fs (QV kv)) E s:=by
 refine q00 h ?_;intro l h1 h2
 refine R.lst_E11 h1 hx ?_;intro k q vs m e0 e1 e2 o1 e3 hvs hlen;subst o1
 refine call_tuple_list (q0b e3) (λh' hk=>?_) (by rw[List.size_toArray,hvs.length];exact q0i hlen)
 have R':Rel B W fs σ {s with heap:=h'}:=R.grow ⟨hk⟩ rfl rfl
 exact(PQ.newTuple (t:=s.toks) R' hvs h2).2
theorem q7m(R:Rel B W fs σ s){l:List SV}{vs:List Value}(hvs:VRs W l vs)(h:σ.addLK l (λn σ=>kv (.own n) σ)=true){h':Heap}{c:Nat}{tk:Tok}(hk:∀b o,s.heap.get? b=some o→h'.get? b=some o)
  (ha:h'.get? s.heap.objs.size=some {cls:=.type "list",dict:=none,data:=.seq vs.toArray c,slots:=#[]}):PQ B W fs (QV kv) (.ref s.heap.objs.size) {s with heap:=h',toks:=tk}:=by
 refine q06 h ?_;intro h11 h12
 refine S.addK_true_E3 h12 ?_;intro τ AA e
 have hlr:=q0A h11
 exact⟨_,τ,W.le_add ⟨s.heap.objs.size,[]⟩,R.new1 AA ⟨hk⟩ (Nat.le_refl _) ⟨_,ha⟩ ⟨vs,c,ha,hvs.mono (W.le_add _),hlr⟩ rfl rfl,qv (q12 (R.add_at ⟨s.heap.objs.size,[]⟩)) e⟩
theorem qei(R:Rel B W fs σ s){x:SV}{u:Value}(hx:VR W x u)(h:oE (q0N σ x) (oB (q0C tb σ x) (λl=>σ.addLK l (λn σ=>kv (.own n) σ))) (λl=>σ.addLK l (λn σ=>kv (.own n) σ))=true) :
  wpAny (model B.prog B.w) A (call (.type "list") [u]) (PQ B W fs (QV kv)) E s:=by
 refine Z4 (q0f h) (λo2=>X0x2 o2 λ_ h2=>?_) λo1=>X1x2 o1 λl h1 h2=>?_
 ·refine q00 h2 ?_;intro l h3 h4
  refine R.tup_E7 h3 hx ?_;intro p vs c o1 e1 hvs hlen;subst o1
  exact call_list_seq p (.inr rfl) e1 rfl rfl (λh' c' hk ha=>q7m (tk:=s.toks) R hvs h4 hk ha) (by rw[List.size_toArray,hvs.length];exact q0i hlen)
 ·refine R.lst_E11 h1 hx ?_;intro k q vs m e0 e1 e2 o1 e3 hvs hlen;subst o1
  exact call_list_seq q.a (.inl rfl) e3 rfl rfl (λh' c' hk ha=>q7m (tk:=s.toks) R hvs h2 hk ha) (by rw[List.size_toArray,hvs.length];exact q0i hlen)
end
section
variable{α:Type}{M:Model}{A:Around}{E:Value→Shared→Prop}{s:Shared}
theorem q5W{α:Type}{c:Prop}[Decidable c]{a:c→α}{b:¬c→α}{r:α}(h:¬c)(e:b h=r):dite c a b=r:=by rw[dif_neg h];exact e
theorem q6E{v:Value}{Q:Bool→Shared→Prop}(hg:A.guards=some [])(hq:Q false s):wpG M A (Builtin.Bytes.exported v) Q E s:=λΓ p hΓ hc=>by
 have h0:guardsOf ((Γ.code,p)::Γ.below)=[]:=by rw[guardsOf_cons];exact hΓ.2.2.2.1 [] hg
 have hall:∀x∈(Γ.code,p)::Γ.below,x.1.isGuard=false∧q5K x.1=false:=λx hx=>by
  refine⟨?_,?_⟩
  ·cases hgd:x.1.isGuard with
   |false=>rfl
   |true=>
    have:x.1∈guardsOf ((Γ.code,p)::Γ.below):=List.mem_filter.mpr ⟨List.mem_map_of_mem hx,hgd⟩
    rw[h0] at this;cases this
  ·refine Z4 (List.mem_cons.mp hx) ?_ (λhx=>?_);rintro rfl
   ·exact hc.2
   ·exact hc.1 x hx
 unfold Builtin.Bytes.exported
 rw[Sem.wp_bind']
 unfold stack
 rw[Sem.wp_stack]
 generalize (Γ.code,p)::Γ.below=st at hall
 rw[Sem.wp_pure]
 have:∀f:Code×Pos→Bool,(∀x,x.1.isGuard=false→q5K x.1=false→f x=false)→st.any f=false:=λf hf=>by
  rw[List.any_eq_false]
  intro x hx
  rw[hf x (hall x hx).1 (hall x hx).2];exact Bool.false_ne_true
 rw[this _ ?_]
 ·exact hq
 ·rintro⟨c,q⟩ h1 h2
  cases c with
  |builtin id args=>
   have h1:guardIds.contains id=false:=h1
   have h3:Builtin.Bytes.decodersThatHold.contains id=false:=h2
   have g:∀{z:String},guardIds.contains z=true→¬id=z:=λhz e=>by rw[←e,h1] at hz;exact zF hz
   delta Builtin.Bytes.exported.match_1
   refine q5W (g (z:="bytearray.__contains__") (by decide +kernel)) ?_
   refine q5W (g (z:="bytearray.__mod__") (by decide +kernel)) ?_
   refine q5W (g (z:="bytearray.__rmod__") (by decide +kernel)) ?_
   refine q5W (g (z:="_struct.pack_into.held") (by decide +kernel)) ?_
   refine q5W (g (z:="bytearray.find.held") (by decide +kernel)) ?_
   obtain⟨ps,kw⟩:=args
   cases ps with
   |nil=>rfl
   |cons v r=>
    show (Builtin.Bytes.sameRef v _&&Builtin.Bytes.decodersThatHold.contains id)=false
    rw[h3,Bool.and_false]
  |_=>rfl
theorem q4I{a:Addr}{l m:List UInt8}{f:Array UInt8→Array UInt8}{Q:Unit→Shared→Prop}(h:s.heap.get? a=some (q0j l))(hf:f l.toArray=m.toArray)(hz:m.length≤sizeLine)
  (hq:(s.heap.update a (Obj.mapBytearray f)).get? a=some (q0j m)→Q () {s with heap:=s.heap.update a (Obj.mapBytearray f)}):wpAny M A (Builtin.Bytes.write (.ref a) f) Q E s:=by
 have hS₂:(s.heap.update a (Obj.mapBytearray f)).get? a=some (q0j m):=by
  have:=Zc (Obj.mapBytearray f) h (show (Obj.mapBytearray f (q0j l)).isFreed=false from rfl)
  rw[this]
  show some {(q0j l) with data:=.bytearray (f l.toArray) 0}=_
  rw[hf];rfl
 show wpAny _ _ (updateBytearray a f) _ _ _
 unfold updateBytearray
 refine Z0 (wpAny_load h ?_)
 show wpAny _ _ (update a (Obj.mapBytearray f)>>=λ_=>lookBehind a) _ _ _
 refine Z0 (wpAny_update h ?_)
 refine wpAny_lookBehind hS₂ ?_ (hq hS₂)
 show (if m.toArray.size>sizeLine then some "bytearray:memory" else none)=none
 rw[if_neg (by rw[List.size_toArray];lia)]
end
namespace FA
theorem y_sub:isSubtype (.type "bytes") (.type "bytes")=pure true:=by rw[isSubtype_type];kernel_rfl
theorem bindO(v:Value):Builtin.Bytes.bindOptional "bytearray.__init__" "bytearray" ["source","encoding","errors"] [v] []=pure [some v,none,none]:=by kernel_rfl
end FA
section
variable{prog:Program}{w:World}{A:Around}{E:Value→Shared→Prop}{s:Shared}
theorem q8W{M:Model}{v:Value}{nm id:String}{Q:Bool→Shared→Prop}(hT:s.TypeIs v "bytes")(hl:typeLookup (.type "bytes") nm=pure (some (.builtin id)))(he:id.endsWith ("."++nm)=true)(hd:(id.dropRight (nm.length+1):String)="bytes")(hq:Q true s) :
  wpAny M A (Builtin.Bytes.slotIsOwn v nm) Q E s:=by
 unfold Builtin.Bytes.slotIsOwn
 refine Z0 (wpAny_specialOf hT hl ?_)
 refine bm_if_false (by rw[he];rfl) ?_
 show wpAny M A (isInstance v (.type (id.dropRight (nm.length+1)))) Q E s
 rw[hd]
 exact wpAny_isInstance hT FA.y_sub hq
theorem qbN{M:Model}{b:Array UInt8}{t:Tok}{id:String}{full:Bool}{Q:Option (Array UInt8)→Shared→Prop}(hq:Q (some b) s):wpAny M A (Builtin.Bytes.buffer? id (.bytes b t) full) Q E s:=by
 have hT:=typeIs_bytes s b t
 unfold Builtin.Bytes.buffer?
 refine Z0 (wpAny_specialOf hT FA.y_buffer ?_)
 refine Z0 (q8W (id:="bytes.__buffer__") hT FA.y_buffer (by decide +kernel) (by decide +kernel) ?_)
 refine bm_if_false rfl ?_
 refine Z0 (wpAny_specialOf hT FA.y_buffer ?_)
 refine Z0 ?_
 unfold Builtin.Bytes.ownRelease Builtin.Bytes.slotIsOwn
 refine Z0 (Z0 (wpAny_specialOf hT FA.y_release ?_))
 refine Z3 (Z3 ?_)
 refine bm_if_false rfl ?_
 exact Z0 (Z3 (Z3 hq))
theorem qen{a:Addr}{l:List UInt8}{b:Array UInt8}{t:Tok}{P:PySem.Fin→Shared→Prop}(hg:A.guards=some [])(h:s.heap.get? a=some (q0j l))(hz:b.size≤sizeLine)
  (hq:∀h':Heap,Heap.SameBut a s.heap h'→h'.get? a=some (q0j b.toList)→P (.done (.ret .none)) {s with heap:=h'}) :
  wpG (model prog w) A (Builtin.«bytearray.__init__» ⟨[.ref a,.bytes b t],[]⟩) P E s:=by
 have hT:s.TypeIs (.ref a) "bytearray":=⟨_,h,rfl⟩
 unfold Builtin.«bytearray.__init__»
 refine q01 (toG (q2v hT ?_))
 refine q1G rfl ?_
 refine q0y (FA.bindO _) ?_
 refine q01 (q03 ?_)
 refine q01 (q03 ?_)
 refine q01 ?_
 refine q01 (q6E hg ?_)
 refine q01 (q01 (toG (wpAny_load h ?_)))
 refine q03 ?_
 refine q03 ?_
 refine q1G rfl ?_
 refine q01 (toG (q4I (m:=[]) h rfl (Nat.zero_le _) λh1=>?_))
 refine q01 (q03 ?_)
 refine q1G rfl ?_
 refine q01 (q1G rfl (q1G rfl (q03 ?_)))
 refine q01 (toG (wpAny_specialOf (typeIs_bytes _ b t) FA.y_index ?_))
 refine q1G rfl ?_
 refine q01 (toG (qbN ?_))
 refine q01 (q2o ?_)
 refine q01 (toG (q4I (m:=b.toList) h1 (by simp) (by simpa using hz) λh2=>?_))
 refine q03 (hq _ ?_ h2)
 exact(Heap.SameBut.update _ _ _).trans (Heap.SameBut.update _ _ _)
theorem FA.newCall(a:Value):checkBuiltinCall "bytearray.__new__" ⟨[.type "bytearray",a],[]⟩=pure ():=by kernel_rfl
theorem FA.plain_new:plainId "bytearray.__new__"=true:=by decide +kernel
theorem FA.entry_new:entryFor table "bytearray.__new__"=some Builtin.«list.__new__»:=entryFor_alias (id':="list.__new__") (by kernel_rfl) (by decide +kernel) (by decide +kernel) (by kernel_rfl)
set_option maxRecDepth 1000000 in
set_option maxHeartbeats 4000000 in
theorem FA.owner_new:("bytearray.__new__".splitOn ".__new__").headD ""="bytearray":=by simp +decide [String.splitOn,String.splitOnAux]
theorem qgM(a:Value){Q₁:Value→Shared→Prop}
  (h:Q₁ (.ref s.heap.objs.size) {s with heap:=s.heap.push {cls:=.type "bytearray",data:=.bytearray #[]}}) :
  codeAny (model prog w) A (.call (.builtin "bytearray.__new__") ⟨[.type "bytearray",a],[]⟩) (wants Q₁ E) s:=by
 refine codeAny_of_tree ?_
 show wpAny _ A.in1 (do checkBuiltinCall "bytearray.__new__" ⟨[.type "bytearray",a],[]⟩;again (.builtin "bytearray.__new__" ⟨[.type "bytearray",a],[]⟩)) _ _ s
 refine Z0 (wpAny_of_eq (FA.newCall a) (Z3 ⟨plainId_quiet FA.plain_new _,codeAny_builtin_stack FA.entry_new rfl λp st=>?_⟩))
 rw[Around.under_plainId FA.plain_new _]
 have hsub:=FA.b_sub
 have hown:=FA.owner_new
 obtain⟨hp,g,d,tk,os⟩:=s
 simp only[hown]
 wp_walk
 exact h
theorem FA.mro:mroOf (.type "bytearray")=pure [.type "bytearray",.type "object"]:=by rw[mroOf_type];kernel_rfl
theorem FA.lookup_new:typeLookup (.type "bytearray") "__new__"=pure (some (.builtin "bytearray.__new__")):=by rw[typeLookup_type,builtinLookup_eq_fast];kernel_rfl
theorem FA.slot_init:Slot "bytearray" "__init__" "bytearray.__init__":=
 .of (owner:="bytearray") (n:="__init__") (by rw[typeLookup_type,builtinLookup_eq_fast];kernel_rfl) (by decide +kernel) (by decide +kernel) (by decide +kernel)
  (by first|exact .inl (by decide +kernel)|exact .inr (by decide +kernel)) (by rw[isSubtype_type];kernel_rfl)
theorem FA.called:TypeCalled "bytearray" "bytearray.__new__" "bytearray.__init__":=
 ⟨by decide +kernel,by decide +kernel,⟨_,_,FA.mro⟩,madeBy_type FA.mro FA.lookup_new (by decide +kernel),by decide +kernel,by rw[isSubtype_type];kernel_rfl,FA.slot_init⟩
theorem FA.typeCall(a:Value):checkTypeCall "bytearray" ⟨[a],[]⟩=pure ():=by kernel_rfl
theorem FA.entry_init:entryFor table "bytearray.__init__"=some Builtin.«bytearray.__init__»:=entryFor_of_tree (by kernel_rfl)
theorem FA.args_init(a b:Value):argsOk "bytearray.__init__" ⟨[a,b],[]⟩:=by
 unfold argsOk;rw[signature?_of (id:="bytearray.__init__") (n:=['_','_','t','i','n','i','_','_']) (o:=['y','a','r','r','a','e','t','y','b']) (by kernel_rfl) FA.owner_ba];kernel_rfl
theorem q57{id:String}{args:Args}{bi:Builtin}{R:Result→Shared→Prop}(hdec:q5K (.builtin id args)=false)(hb:entryFor table id=some bi)
  (h:wpG (model prog w) (A.under (.builtin id args)) (bi args) (λfin s'=>match fin with|.done f=>R (.ok f) s'|.again c'=>c'.quiet=true∧q0E (model prog w) A c' R s') (λe s'=>R (.error e) s') s) :
  q0E (model prog w) A (.builtin id args) R s:=by
 refine q0k hdec ?_
 show wpG _ _ (match entryFor table id with|some b=>b args|none=>unsupported ((withoutEnding? id "#data").getD id)) _ _ s
 rw[hb];exact h
end
end
section
open PySem PySem.W
open PyProof PyProof.Rows
variable{prog:Program}{w:World}{A:Around}{E:Value→Shared→Prop}{s:Shared}
theorem qad{b:Array UInt8}{t:Tok}{Q:Value→Shared→Prop}(hg:A.guards=some [])(hz:b.size≤sizeLine)
  (hq:∀h':Heap,(∀a o,s.heap.get? a=some o→h'.get? a=some o)→h'.get? s.heap.objs.size=some (q0j b.toList)→Q (.ref s.heap.objs.size) {s with heap:=h'}) :
  wpG (model prog w) A (call (.type "bytearray") [.bytes b t]) Q E s:=by
 refine X2x1 FA.called.mro ?_;intro c tl hmro
 have hmade:=FA.called.made
 have hsub:=FA.called.sub
 refine q0W (q0k rfl ?_)
 show wpG _ _ (callAny (.type "bytearray") _) _ _ _
 refine q03 ⟨Code.quiet_builtin _ (by decide +kernel),q57 (show Builtin.Bytes.decodersThatHold.contains "type.__call__"=false by decide +kernel) F.entry_type_call ?_⟩
 rw[Around.under_plain (weight_type_call_type "bytearray" [.bytes b t] []) rfl]
 have h1:=FA.called.notType
 have h2:=FA.called.canCreate
 unfold Builtin.«type.__call__»
 dsimp only
 simp only[h1,h2,Bool.false_eq_true,if_false]
 refine q0y (FA.typeCall _) ?_
 refine q0y hmro ?_
 simp only[List.isEmpty_cons,Bool.false_eq_true,if_false]
 refine q0y hmade ?_
 dsimp only
 refine q01 (q03 ?_)
 refine q01 (q04 (toG (wpAny_call ?_)))
 refine codeAny_mono (qgM (E:=E) (Q₁:=λv s₁=>v=.ref s.heap.objs.size∧s₁={s with heap:=s.heap.push {cls:=.type "bytearray",data:=.bytearray #[]}}) _ ⟨rfl,rfl⟩) λr s₁ hr=>?_
 rcases r with e|(v|_|_|_)<;>first|exact hr|exact hr.elim|skip
 refine X0x2 hr ?_;clear hr;intro o1 o2;subst o1;subst o2
 have hx:(s.heap.push {cls:=.type "bytearray",data:=.bytearray #[]}).get? s.heap.objs.size=some (q0j []):=Zb _ rfl
 have hT:({s with heap:=s.heap.push {cls:=.type "bytearray",data:=.bytearray #[]}}:Shared).TypeIs (.ref s.heap.objs.size) "bytearray":=⟨_,hx,rfl⟩
 refine q01 (toG (wpAny_isInstance hT FA.b_sub ?_))
 simp only[Bool.not_true,Bool.false_eq_true,if_false]
 refine q01 (q04 ?_)
 unfold callSpecial?
 refine q01 (toG (wpAny_specialOf hT FA.called.init.lookup ?_))
 dsimp only
 refine q04 ?_
 refine q0y (FA.called.init.bind _) ?_
 dsimp only
 refine q01 (q0W ?_)
 refine q0v (Code.quiet_builtin _ (by decide +kernel)) (show Builtin.Bytes.decodersThatHold.contains "bytearray.__init__"=false by decide +kernel) FA.entry_init ?_
 refine FA.called.init.check _ _ _ _ _ _ _ _ hT (FA.args_init _ _) ?_
 refine q05 (qen (P:=λfin s'=>∃h',fin=.done (.ret .none)∧s'={s with heap:=h'}∧(∀a o,s.heap.get? a=some o→h'.get? a=some o)∧h'.get? s.heap.objs.size=some (q0j b.toList)) ?_ hx hz λh' hs hb=>⟨h',rfl,rfl,λa o e=>?_,hb⟩) (λfin s' z=>?_) λ_ _ z=>z
 ·exact hg
 ·have hne:a≠s.heap.objs.size:=λq=>Nat.lt_irrefl _ (q▸Z7 e)
  exact(hs.2 a hne).trans (Z5 _ e)
 ·refine X1x4 z ?_;clear z;intro h' o1 o2 hk hb;subst o1;subst o2
  exact q03 (q03 (hq h' hk hb))
end
section
open PySem PySem.W
open PyProof PyProof.Rows
section
variable{prog:Program}{w:World}{A:Around}{E:Value→Shared→Prop}{s:Shared}
theorem q4T{M:Model}{sl:Addr}{l u:Value}{lo hi:Option Int}{Q:Value×Value×Value→Shared→Prop}(hs:s.heap.IsSliceOf sl l u .none)(hl:IsPart l lo)(hu:IsPart u hi)(hq:Q (rawPart lo,rawPart hi,rawPart none) s) :
  wpAny M A (Builtin.Bytes.sliceParts (.ref sl)) Q E s:=by
 refine X1x3 hs ?_;clear hs;intro o ho hc hd
 unfold Builtin.Bytes.sliceParts
 refine Z0 (wpAny_field (x:=.none) ho hd rfl ?_)
 kby_none
 refine wpAny_ite (KBy.ite_no (show ¬((Value.none==rawInt 0)=true) from Bool.false_ne_true) ?_)
 refine Z0 (wpAny_field (x:=l) ho hd rfl ?_)
 cases hl<;>cases hu<;>(first
  |(kby_none;(refine Z0 (wpAny_field (x:=.none) ho hd rfl ?_));kby_none)
  |(kby_none;(refine Z0 (wpAny_field (x:=.int _ _) ho hd rfl ?_));kby_int)
  |(kby_int;(refine Z0 (wpAny_field (x:=.none) ho hd rfl ?_));kby_none)
  |(kby_int;(refine Z0 (wpAny_field (x:=.int _ _) ho hd rfl ?_));kby_int))<;>exact Z3 hq
theorem q32{M:Model}{v:Value}{Q:Option Int→Shared→Prop}(hT:s.TypeIs v "slice")(hq:Q none s):wpAny M A (Builtin.Bytes.subscript? v) Q E s:=by
 unfold Builtin.Bytes.subscript?
 exact Z0 (wpAny_specialOf hT slice_no_index (Z3 hq))
theorem qhc{M:Model}{b:Array UInt8}{Q:Value→Shared→Prop}(hz:b.size≤sizeLine)(hq:Q (.ref s.heap.objs.size) {s with heap:=s.heap.push {cls:=.type "bytearray",data:=.bytearray b}}):wpAny M A (Builtin.Bytes.newBytearray b) Q E s:=by
 unfold Builtin.Bytes.newBytearray
 wp_walk
 exact hq
end
namespace FA
theorem slot_get:Slot "bytearray" "__getitem__" "bytearray.__getitem__":=
 .of (owner:="bytearray") (n:="__getitem__") (by rw[typeLookup_type,builtinLookup_eq_fast];kernel_rfl) (by decide +kernel) (by decide +kernel) (by decide +kernel)
  (by first|exact .inl (by decide +kernel)|exact .inr (by decide +kernel)) (by rw[isSubtype_type];kernel_rfl)
theorem entry_get:entryFor table "bytearray.__getitem__"=some Builtin.«bytearray.__getitem__»:=entryFor_of_tree (by kernel_rfl)
theorem args_get(a b:Value):argsOk "bytearray.__getitem__" ⟨[a,b],[]⟩:=by
 unfold argsOk;rw[signature?_of (id:="bytearray.__getitem__") (n:=['_','_','m','e','t','i','t','e','g','_','_']) (o:=['y','a','r','r','a','e','t','y','b']) (by kernel_rfl) FA.owner_ba];kernel_rfl
theorem slot_set:Slot "bytearray" "__setitem__" "bytearray.__setitem__":=
 .of (owner:="bytearray") (n:="__setitem__") (by rw[typeLookup_type,builtinLookup_eq_fast];kernel_rfl) (by decide +kernel) (by decide +kernel) (by decide +kernel)
  (by first|exact .inl (by decide +kernel)|exact .inr (by decide +kernel)) (by rw[isSubtype_type];kernel_rfl)
theorem entry_set:entryFor table "bytearray.__setitem__"=some Builtin.«bytearray.__setitem__»:=entryFor_of_tree (by kernel_rfl)
theorem args_set(a b c:Value):argsOk "bytearray.__setitem__" ⟨[a,b,c],[]⟩:=by
 unfold argsOk;rw[signature?_of (id:="bytearray.__setitem__") (n:=['_','_','m','e','t','i','t','e','s','_','_']) (o:=['y','a','r','r','a','e','t','y','b']) (by kernel_rfl) FA.owner_ba];kernel_rfl
end FA
theorem q5G(a sl:Addr)(bs:List UInt8){l u:Value}{lo hi:Option Int}(hl:IsPart l lo)(hu:IsPart u hi) :
  Meets (Builtin.«bytearray.__getitem__» ⟨[.ref a,.ref sl],[]⟩) (λ_ R s=>s.heap.get? a=some (q0j bs)∧s.heap.IsSliceOf sl l u .none∧(KBy.picked bs.toArray lo hi).size≤sizeLine∧
   R (.ok (.ret (.ref s.heap.objs.size))) {s with heap:=s.heap.push {cls:=.type "bytearray",data:=.bytearray (KBy.picked bs.toArray lo hi)}}):=by
 refine .of_wp λprog w A R s hS=>?_
 refine X0x4 hS ?_;clear hS;intro ha hs hsz h
 have hT:s.TypeIs (.ref sl) "slice":=by(refine X1x3 hs ?_;clear hs;intro o ho hc _);exact⟨o,ho,hc⟩
 unfold Builtin.«bytearray.__getitem__»
 show wpAny _ _ (Builtin.Bytes.subscript? (.ref sl)>>=λr=>_) _ _ s
 refine Z0 (q32 hT ?_)
 refine Z0 (wpAny_typeOf hT ?_)
 show wpAny _ _ (Builtin.Bytes.sliceParts (.ref sl)>>=λr=>_) _ _ s
 refine Z0 (q4T hs hl hu ?_)
 refine Z0 (q1l ha ?_)
 refine Z0 (wpAny_of_eq (sliceIndices_raw lo hi none _ (λe=>nomatch e)) ?_)
 refine Z0 (qhc hsz ?_)
 exact Z3 ⟨_,rfl,h⟩
namespace FA
theorem y_no_int:typeLookup (.type "bytes") "__int__"=pure none:=by rw[typeLookup_type,builtinLookup_eq_fast];kernel_rfl
theorem y_no_float:typeLookup (.type "bytes") "__float__"=pure none:=by rw[typeLookup_type,builtinLookup_eq_fast];kernel_rfl
theorem y_not_ba:isSubtype (.type "bytes") (.type "bytearray")=pure false:=by rw[isSubtype_type];kernel_rfl
theorem y_not_complex:isSubtype (.type "bytes") (.type "complex")=pure false:=by rw[isSubtype_type];kernel_rfl
end FA
section
variable{prog:Program}{w:World}{A:Around}{E:Value→Shared→Prop}{s:Shared}
theorem qgL{a sl:Addr}{bs:List UInt8}{l u:Value}{lo hi:Option Int}{c:Array UInt8}{t:Tok}{P:PySem.Fin→Shared→Prop}(hg:A.guards=some [])(ha:s.heap.get? a=some (q0j bs))(hs:s.heap.IsSliceOf sl l u .none)(hl:IsPart l lo)(hu:IsPart u hi)
  (h1:c.size≤sizeLine) (h2:bs.length≤sizeLine) (h3:lo.elim 0 (clipAt bs.length)+c.size=hi.elim bs.length (clipAt bs.length))
  (hq:∀h₁ h':Heap,(∀u o,s.heap.get? u=some o→h₁.get? u=some o)→Heap.SameBut a h₁ h'→h'.get? a=some (q0j (bs.take (lo.elim 0 (clipAt bs.length))++c.toList++bs.drop (hi.elim bs.length (clipAt bs.length))))→P (.done (.ret .none)) {s with heap:=h'}) :
  wpG (model prog w) A (Builtin.«bytearray.__setitem__» ⟨[.ref a,.ref sl,.bytes c t],[]⟩) P E s:=by
 have hT:s.TypeIs (.ref sl) "slice":=by(refine X1x3 hs ?_;clear hs;intro o ho hc _);exact⟨o,ho,hc⟩
 have hY:s.TypeIs (.bytes c t) "bytes":=typeIs_bytes _ _ _
 unfold Builtin.«bytearray.__setitem__»
 show wpG _ _ (Builtin.Bytes.subscript? (.ref sl)>>=λr=>_) _ _ s
 refine q01 (toG (q32 hT ?_))
 refine q01 (toG (wpAny_typeOf hT ?_))
 show wpG _ _ (Builtin.Bytes.sliceParts (.ref sl)>>=λr=>_) _ _ s
 refine q01 (toG (q4T hs hl hu ?_))
 refine q01 (toG (wpAny_isInstance hY FA.y_not_ba ?_))
 refine q6d rfl ?_
 have or1:∀{x y:Sem Bool}{Q:Bool→Shared→Prop},wpAny (model prog w) A x (λb s'=>b=false∧wpAny (model prog w) A y Q E s') E s→wpAny (model prog w) A (x <||> y) Q E s:=λh=>by
  show wpAny _ _ (_>>=λb=>_) _ _ _
  refine Z0 (wpAny_mono h (λb s' z=>?_) λ_ _ z=>z)
  rw[z.1];exact z.2
 refine q01 (toG (or1 (Z0 (wpAny_specialOf hY FA.y_index (Z3 ⟨rfl,?_⟩)))))
 refine or1 (Z0 (wpAny_specialOf hY FA.y_no_int (Z3 ⟨rfl,?_⟩)))
 refine or1 (Z0 (wpAny_specialOf hY FA.y_no_float (Z3 ⟨rfl,?_⟩)))
 refine wpAny_isInstance hY FA.y_not_complex ?_
 refine q01 (toG (wpAny_of_eq (a:=none) rfl ?_))
 refine q1G rfl ?_
 refine q01 (q2o ?_)
 refine q01 (qad hg h1 λh' hk hb=>?_)
 refine q01 (q04 (toG (q4T (lo:=lo) (hi:=hi) (l:=l) (u:=u) ?_ hl hu ?_)))
 ·refine X1x3 hs ?_;clear hs;intro o ho hc hd
  exact⟨o,hk _ _ ho,hc,hd⟩
 refine q01 (toG (q1l hb ?_))
 have ha':=hk _ _ ha
 refine q01 (toG (q1l ha' ?_))
 refine q01 (toG (wpAny_of_eq (sliceIndices_raw lo hi none _ (λe=>nomatch e)) ?_))
 rw[sliceBounds_plain]
 rw[List.size_toArray,List.size_toArray]
 refine q6d rfl ?_
 refine q01 (q2o ?_)
 have hup:hi.elim bs.length (clipAt bs.length)≤bs.length:=by
  cases hi with
  |none=>exact Nat.le_refl _
  |some q=>
   exact q6K _ _
 generalize lo.elim 0 (clipAt bs.length)=p at *
 generalize hi.elim bs.length (clipAt bs.length)=q at *
 have hm:max (p:Int) (q:Int)=(q:Int):=Int.max_eq_right (Int.ofNat_le.mpr (h3▸Nat.le_add_right p c.size))
 rw[hm]
 have hcl:c.toList.length=c.size:=Array.length_toList
 have hn:((c.toList.length:Int) != (q:Int)-(p:Int))=false:=by
  rw[hcl];simp only[bne_eq_false_iff_eq];rw[←h3,Int.natCast_add,Int.add_comm,Int.add_sub_cancel]
 rw[hn]
 refine q1G rfl ?_
 refine q01 (toG (q4I (m:=bs.take p++c.toList++bs.drop q) ha' ?_ ?_ λh₂=>?_))
 ·simp only[Int.toNat_natCast,List.extract_toArray,List.extract_eq_take_drop,List.append_toArray,List.size_toArray,List.drop_zero,Nat.sub_zero]
  rw[List.take_of_length_le (i:=bs.length-q) (by simp)]
 ·rw[List.length_append,List.length_append,List.length_take,List.length_drop,hcl,qcy hup h3];exact h2
 ·exact q03 (hq h' _ hk (Heap.SameBut.update _ _ _) h₂)
end
section
variable{B:Base}{W:Wd}{fs:List Nat}{σ τ:S}{s:Shared}{A:Around}{E:Value→Shared→Prop}{kv:KV}
theorem qhw:qew B:=λn W fs A σ s b o u lv uv lo hi sl kv E O R h ho pl pu hs e=>by
 refine q42 R h ho ?_;intro k p l o1 e1 e2 o2 e3 hb hlen;subst o1;subst o2
 have hT:s.TypeIs (.ref p.a) "bytearray":=⟨_,e3,rfl⟩
 refine⟨⟨"bytearray",_,FA.slot_get.lookup,hT⟩,?_⟩
 have el:l.toArray.size=b.length:=by simp[hb.length]
 refine getItem_meets hT (by decide) FA.slot_get FA.entry_get (FA.args_get _ _) (q5G p.a sl l pl pu) ⟨e3,hs,Nat.le_trans (KBc.size_picked_le l.toArray lo hi) (by rw[el];exact q0i hlen),?_⟩
 refine S.addK_true_E3 e ?_;intro τ AA e
 refine PQ.new1 (t:=s.toks) R AA rfl (λh' g=>⟨(KBy.picked l.toArray lo hi).toList,?_,?_,?_⟩) e
 ·simpa[q0j] using g
 ·rw[KBc.picked_eq,el]
  exact(All2.mono (λ_ _ z=>SI.is.mono (Wd.le_add W _).ν z) (((hb.drop _).take _)))
 ·exact q6H hlen
theorem qej(R:Rel B W fs σ s)(hg:A.guards=some []){x:SV}{u:Value}(hx:VR W x u)(h:oB (yOf x) (λb=>σ.addK (.barr b) (λn σ=>kv (.own n) σ))=true) :
  wpG (model B.prog B.w) A (call (.type "bytearray") [u]) (PQ B W fs (QV kv)) E s:=by
 refine q00 h ?_;intro b h1 h2
 rw[q0x h1] at hx
 refine q0n hx ?_;intro c t o1 hb hlen;subst o1
 have el:c.size=b.length:=by simpa using hb.length
 refine qad hg (by rw[el];exact q0i hlen) λh' hk h3=>?_
 refine S.addK_true_E3 h2 ?_;intro τ AA e
 refine⟨_,τ,W.le_add ⟨s.heap.objs.size,[]⟩,R.new1 AA ⟨hk⟩ (Nat.le_refl _) ⟨_,h3⟩ ⟨_,h3,?_,hlen⟩ rfl rfl,qv (q12 (R.add_at ⟨s.heap.objs.size,[]⟩)) e⟩
 exact All2.mono (λ_ _ z=>SI.is.mono (Wd.le_add W _).ν z) hb
theorem q6i(R:Rel B W fs σ s)(hg:A.guards=some []){o l u v:SV}{a lv uv vv:Value}{sl:Addr}{f:KN}(hs:s.heap.IsSliceOf sl lv uv .none)(h:q74 σ o l u v f=true)(ho:VR W o a)(hl:VR W l lv)(hu:VR W u uv)(hv:VR W v vv) :
  wpG (model B.prog B.w) A (PySem.setItem a (.ref sl) vv) (PQ B W fs (QU f)) E s:=by
 refine q00 h ?_;intro j h1 h2
 refine q00 h2 ?_;intro b h3 h4
 refine q00 h4 ?_;intro w h5 h6
 refine q00 h6 ?_;intro p h7 h8
 refine q00 h8 ?_;intro q h9 h10
 refine q06 h10 ?_;intro h11 h12
 refine q06 h12 ?_;intro h13 h14
 rw[qc1,qa3,q1b,q1b] at h14
 have hat:ats σ o baOf=some b:=by rw[q0L h1];exact h3
 refine q42 R hat ho ?_;intro k fp bs o1 e1 e2 o2 e3 hb hlen;subst o1;subst o2
 have hj:SV.own k=.own j:=q0L h1
 cases hj
 rw[q0o] at h7 h9 h13
 refine X1x2 (q7F h7 hl) ?_;intro lo p1 o1;subst o1
 refine X1x2 (q7F h9 hu) ?_;intro hi p2 o1;subst o1
 have h11:=Nat.ble_eq.mp h11
 have h13:=Z9 h13
 rw[q0x h5] at hv
 refine q0n hv ?_;intro c t o1 hc hclen;subst o1
 have ec:c.size=w.length:=by simpa using hc.length
 have eb:bs.length=b.length:=hb.length
 have hT:s.TypeIs (.ref fp.a) "bytearray":=⟨_,e3,rfl⟩
 unfold PySem.setItem
 refine q04 ?_
 refine q01 (toG (wpAny_sequenceKey hT (by decide) ?_))
 unfold callSpecial?
 refine q01 (q01 (toG (wpAny_specialOf hT FA.slot_set.lookup ?_)))
 dsimp only
 refine q04 ?_
 refine q0y (FA.slot_set.bind _) ?_
 dsimp only
 refine q01 (q0W ?_)
 refine q0v (Code.quiet_builtin _ (by decide +kernel)) (show Builtin.Bytes.decodersThatHold.contains "bytearray.__setitem__"=false by decide +kernel) FA.entry_set ?_
 refine FA.slot_set.check _ _ _ _ _ _ _ _ hT (FA.args_set _ _ _) ?_
 refine qgL (lo:=lo) (hi:=hi) ?_ e3 hs p1 p2 (by rw[ec];exact q0i hclen) (by rw[eb];exact q0i hlen) ?_ λh₁ h' hk hsb h3=>?_
 ·exact hg
 ·rw[ec,eb]
  have h11:lo.elim 0 (clipAt b.length)≤hi.elim b.length (clipAt b.length):=h11
  have h13:hi.elim b.length (clipAt b.length)-lo.elim 0 (clipAt b.length)=w.length:=h13
  rw[←h13];exact Nat.add_sub_cancel' h11
 ·refine q03 (q03 ?_)
  rw[eb] at h3
  refine S.putK_true_E3 h14 ?_;intro τ P h15
  have R₁:Rel B W fs σ {s with heap:=h₁}:=R.grow ⟨hk⟩ rfl rfl
  have R₂:Rel B W fs τ {s with heap:=h'}:=R₁.upd P e1 e2 (.head _) hsb ⟨_,h3⟩ ⟨_,h3,?_,?_⟩ (λo es n e q=>?_) rfl rfl
  ·exact PQ.here R₂ h15
  ·rw[List.append_assoc]
   exact(hb.take _).app ((hc).app (hb.drop _))
  ·have h11:lo.elim 0 (clipAt b.length)≤hi.elim b.length (clipAt b.length):=h11
   have h13:hi.elim b.length (clipAt b.length)-lo.elim 0 (clipAt b.length)=w.length:=h13
   have hup:hi.elim b.length (clipAt b.length)≤b.length:=by
    cases hi with
    |none=>exact Nat.le_refl _
    |some q=>
     exact q6K _ _
   simp only[List.length_append,List.length_take,List.length_drop]
   clear h7 h9 h10 h12 h14 h8 P h3
   rw[←Nat.add_assoc,qcy hup (by rw[←h13];exact Nat.add_sub_cancel' h11)];exact hlen
  ·have e4:h₁.get? fp.a=some (q0j bs):=hk _ _ e3
   have e:h₁.get? fp.a=some o:=e
   rw[e4] at e;(refine zI e ?_;clear e;rintro rfl);cases q
end
section
variable{B:Base}{sc:Scope}
theorem qfb{x l u:XC}{value:Expr}{lower upper:Option Expr}{p pos:Pos}(hx:SX B sc x value)(hl:SXo B sc l lower)(hu:SXo B sc u upper)(ha:∀env v,assign (.Subscript value (.Slice lower upper none p) pos) env v=(do
  let ov ←holding [v] (eval value env)
  let iv ←holding [v,ov] (eval (.Slice lower upper none p) env)
  standAt pos
  holding [v,ov,iv] (PySem.setItem ov iv v)
  release [iv,v,ov] [])):SA B sc (aSli x l u) (.Subscript value (.Slice lower upper none p) pos):=λn W fs c X σ s y v k O R hv h=>by
 rw[ha]
 refine q01 (q04 (q0D (hx n W fs c X σ s _ O R h) λa W₁ σ₁ s₁ l₁ R₁ oY3x0=>?_))
 refine oY3x0.kE3 ?_;clear oY3x0;intro xa hva h₁
 refine q01 (q04 (q2q ?_))
 refine q05 (hl n W₁ fs c X σ₁ s₁ _ (O.mono l₁) R₁ h₁) (λlv s₂ oY2x0=>?_) λ_ _ z=>z.weaken l₁
 refine oY2x0.kE7 ?_;clear oY2x0;intro W₂ σ₂ l₂ R₂ xl hlv h₂
 refine q05 (hu n W₂ fs c X σ₂ s₂ _ (O.mono (l₁.trans l₂)) R₂ h₂) (λuv s₃ oY1x0=>?_) λ_ _ z=>z.weaken (l₁.trans l₂)
 refine oY1x0.kE7 ?_;clear oY1x0;intro W₃ σ₃ l₃ R₃ xu huv h₃
 have l13:=(l₁.trans l₂).trans l₃
 rw[evalPart_none]
 refine q03 (q01 (q07 ?_))
 refine q01 (q04 (q05 (q6i (R₃.pushAny _) (O.mono l13).around.guards (Heap.IsSliceOf.new s₃.heap lv uv .none) h₃ (hva.mono (l₂.trans l₃)) (hlv.mono l₃) huv (hv.mono l13)) (λ_ s₄ h₄=>toG (wpAny_release (h₄.weaken l13))) λ_ _ z=>z))
end
end
section
open PySem PySem.W
open PyProof PyProof.Rows
variable{prog:Program}{w:World}{A:Around}{E:Value→Shared→Prop}{s:Shared}
theorem q1Q{it:Addr}{x left step:Int}{Q:Value→Shared→Prop}(hit:IsRangeIter s.heap it x left step)(hleft:0<left)
  (hQ:∀h',IsRangeIter h' it (x+step) (left-1) step→Heap.SameBut it s.heap h'→Q (.int x s.toks) {s with heap:=h',toks:=s.toks+1}) :
  wpAny (model prog w) A (Builtin.SmallTypes.nextOf (.ref it)) Q E s:=by
 have hT:s.TypeIs (.ref it) "range_iterator":=⟨_,hit,rfl⟩
 unfold Builtin.SmallTypes.nextOf
 refine Z0 (wpAny_callSpecial?_slot (name:=Str.ofString "__next__") hT F.slot_range_iterator_next (call_meets F.slot_range_iterator_next hT F.entry_range_iterator_next (F.args_range_iterator_next_1 _)
  (AutoRange.range_iterator___next___range_iterator_1 it x left step (by lia)) ⟨hit,?_⟩))
 exact Z3 (hQ _ (Zc _ (Zc _ hit rfl) rfl) ((Heap.SameBut.update ..).trans (Heap.SameBut.update ..)))
theorem q3q{M:Model}{a:Addr}{o:Option Obj}{Q:Option Obj→Shared→Prop}(h:s.heap.get? a=o)(hq:Q o s):wpAny M A (loadIfAlive a) Q E s:=λΓ p hΓ=>by
 subst h
 unfold loadIfAlive
 rw[Sem.wp_loadIfAlive]
 rw[Sem.wp_pure]
 exact hq
noncomputable def IsZ(h:Heap)(z TI TO:Addr)(f0 f1:Value):Prop:=h.get? z=some {cls:=.type "zip",dict:=none,data:=.fields #[f0,f1,.bool false,.ref TI,.ref TO],slots:=#[]}
theorem q7M{z TI TO i1 i2 l T:Addr}{x left:Int}{k2:Nat}{ys:Array Value}{y f1:Value}{oT:Obj}{Q:Value→Shared→Prop}(D:ZipApart z TI TO i1 i2 l l)
  (hz:IsZ s.heap z TI TO (rawInt T) f1) (hTI:IsPair s.heap TI (.ref i1) (.ref i2)) (hT:s.heap.get? T=some oT)
  (h1:IsRangeIter s.heap i1 x left 1) (h2:s.heap.IsListIter i2 l k2) (hl:s.heap.IsList l ys) (hleft:0<left) (hy:ys[k2]?=some y)
  (hQ:∀h',IsZ h' z TI TO (rawInt T) (.bool true)→IsRangeIter h' i1 (x+1) (left-1) 1→h'.IsListIter i2 l (k2+1)→IsPair h' s.heap.objs.size (.int x s.toks) y→h'.objs.size=s.heap.objs.size+1→
   (∀c o,c≠z→c≠i1→c≠i2→s.heap.get? c=some o→h'.get? c=some o)→Q (.ref s.heap.objs.size) {s with heap:=h',toks:=s.toks+1}) :
  wpAny (model prog w) A (Builtin.«zip.__next__» ⟨[.ref z],[]⟩) (λfin s'=>∃v,fin=.done (.ret v)∧Q v s') E s:=by
 show wpAny _ _ (field (.ref z) 2>>=_) _ _ _
 refine Z0 (wpAny_field hz rfl (x:=.bool false) rfl ?_)
 show wpAny _ _ (field (.ref z) 3>>=_) _ _ _
 refine Z0 (wpAny_field hz rfl (x:=.ref TI) rfl ?_)
 refine Z0 (wpAny_seqItems hTI rfl ?_)
 show wpAny _ _ (Builtin.SmallTypes.ownedTupleIsFree (.ref z)>>=_) _ _ _
 refine Z0 ?_
 unfold Builtin.SmallTypes.ownedTupleIsFree
 refine Z0 (wpAny_field hz rfl (x:=rawInt T) rfl ?_)
 dsimp only[rawInt]
 refine Z0 (q3q (o:=some oT) (by simpa using hT) ?_)
 simp only[Option.isNone_some,Bool.false_eq_true,if_false]
 have key:∀(P:Bool→Shared→Prop),(∀h₁,IsZ h₁ z TI TO (rawInt T) (.bool true)→Heap.SameBut z s.heap h₁→P false {s with heap:=h₁})→wpAny (model prog w) A (do
     let zl ←field (Value.ref z) 1
     if (zl != Value.bool true)=true then do
       setField (Value.ref z) 1 (Value.bool true)
       pure false
      else pure false) P E s:=λP h=>by
  refine Z0 (wpAny_field hz rfl (x:=f1) rfl ?_)
  by_cases hf:(f1 != Value.bool true)=true
  ·rw[if_pos hf]
   refine Z0 (wpAny_setField_rec hz (by simp) λh₁ hz₁ hs₁=>Z3 (h h₁ hz₁ hs₁))
  ·rw[if_neg hf]
   have:f1=.bool true:=by simpa using hf
   subst this
   exact Z3 (h _ hz ⟨rfl,λ_ _=>rfl⟩)
 refine key _ λh₁ hz₁ hs₁=>?_
 simp only[Bool.false_eq_true,if_false]
 refine Z0 ?_
 simp only[List.forIn_toArray,List.forIn_cons,List.forIn_nil]
 refine Z0 (Z0 (wpAny_holding ?_))
 show wpAny _ _ (Builtin.SmallTypes.nextOf (.ref i1)>>=_) _ _ _
 have h1₁:IsRangeIter h₁ i1 x left 1:=hs₁.extBut _ _ D.i1z h1
 refine Z0 (q1Q h1₁ hleft λh₂ h1₂ hs₂=>Z3 (Z3 ?_))
 dsimp only
 refine Z0 (Z0 (wpAny_holding ?_))
 show wpAny _ _ (Builtin.SmallTypes.nextOf (.ref i2)>>=_) _ _ _
 refine Z0 (wpAny_nextOf_list_item ((h2.extBut hs₁.extBut D.i2z).extBut hs₂.extBut D.i12.symm) ((hl.extBut hs₁.extBut D.l2z).extBut hs₂.extBut D.l2i1) hy λh₃ h2₃ hs₃=>Z3 (Z3 (Z3 ?_)))
 dsimp only
 refine Z0 (wpAny_newTuple (hsz:=by show 2≤sizeLine;decide) ?_)
 have hsz:h₃.objs.size=s.heap.objs.size:=by rw[hs₃.1,hs₂.1,hs₁.1]
 have hk:∀c o,c≠z→c≠i1→c≠i2→s.heap.get? c=some o→h₃.get? c=some o:=λc o c1 c2 c3 e=>hs₃.extBut _ _ c3 (hs₂.extBut _ _ c2 (hs₁.extBut _ _ c1 e))
 have hz₃:IsZ h₃ z TI TO (rawInt T) (.bool true):=hs₃.extBut _ _ D.i2z.symm (hs₂.extBut _ _ D.i1z.symm hz₁)
 refine Z3 ⟨_,rfl,?_⟩
 show Q (.ref h₃.objs.size) _
 rw[hsz]
 refine hQ _ (Z5 _ hz₃) (Z5 _ (hs₃.extBut _ _ D.i12 h1₂)) (h2₃.at λo e=>Z5 _ e) ?_ (by show (h₃.push _).objs.size=_;rw[Heap.size_push,hsz]) λc o c1 c2 c3 e=>Z5 _ (hk c o c1 c2 c3 e)
 rw[←hsz]
 exact Zb _ rfl
theorem q8w{z TI TO i1 i2 l T:Addr}{x left:Int}{k2:Nat}{ys:Array Value}{f1:Value}{oT:Obj}{Q:PySem.Fin→Shared→Prop}(hh:A.handled=none)(D:ZipApart z TI TO i1 i2 l l)
  (hz:IsZ s.heap z TI TO (rawInt T) f1) (hTI:IsPair s.heap TI (.ref i1) (.ref i2)) (hT:s.heap.get? T=some oT)
  (h1:IsRangeIter s.heap i1 x left 1) (h2:s.heap.IsListIter i2 l k2) (hl:s.heap.IsList l ys) (hleft:0<left) (hy:ys[k2]?=none)
  (hE:∀h' e,(∀c o,c≠z→c≠i1→c≠i2→s.heap.get? c=some o→h'.get? c=some o)→(∃o,h'.get? e=some o∧o.cls=.type "StopIteration")→E (.ref e) {s with heap:=h',toks:=s.toks+1}) :
  wpAny (model prog w) A (Builtin.«zip.__next__» ⟨[.ref z],[]⟩) Q E s:=by
 show wpAny _ _ (field (.ref z) 2>>=_) _ _ _
 refine Z0 (wpAny_field hz rfl (x:=.bool false) rfl ?_)
 show wpAny _ _ (field (.ref z) 3>>=_) _ _ _
 refine Z0 (wpAny_field hz rfl (x:=.ref TI) rfl ?_)
 refine Z0 (wpAny_seqItems hTI rfl ?_)
 show wpAny _ _ (Builtin.SmallTypes.ownedTupleIsFree (.ref z)>>=_) _ _ _
 refine Z0 ?_
 unfold Builtin.SmallTypes.ownedTupleIsFree
 refine Z0 (wpAny_field hz rfl (x:=rawInt T) rfl ?_)
 dsimp only[rawInt]
 refine Z0 (q3q (o:=some oT) (by simpa using hT) ?_)
 simp only[Option.isNone_some,Bool.false_eq_true,if_false]
 have key:∀(P:Bool→Shared→Prop),(∀h₁,IsZ h₁ z TI TO (rawInt T) (.bool true)→Heap.SameBut z s.heap h₁→P false {s with heap:=h₁})→wpAny (model prog w) A (do
     let zl ←field (Value.ref z) 1
     if (zl != Value.bool true)=true then do
       setField (Value.ref z) 1 (Value.bool true)
       pure false
      else pure false) P E s:=λP h=>by
  refine Z0 (wpAny_field hz rfl (x:=f1) rfl ?_)
  by_cases hf:(f1 != Value.bool true)=true
  ·rw[if_pos hf]
   refine Z0 (wpAny_setField_rec hz (by simp) λh₁ hz₁ hs₁=>Z3 (h h₁ hz₁ hs₁))
  ·rw[if_neg hf]
   have:f1=.bool true:=by simpa using hf
   subst this
   exact Z3 (h _ hz ⟨rfl,λ_ _=>rfl⟩)
 refine key _ λh₁ hz₁ hs₁=>?_
 simp only[Bool.false_eq_true,if_false]
 refine Z0 ?_
 simp only[List.forIn_toArray,List.forIn_cons,List.forIn_nil]
 refine Z0 (Z0 (wpAny_holding ?_))
 show wpAny _ _ (Builtin.SmallTypes.nextOf (.ref i1)>>=_) _ _ _
 have h1₁:IsRangeIter h₁ i1 x left 1:=hs₁.extBut _ _ D.i1z h1
 refine Z0 (q1Q h1₁ hleft λh₂ h1₂ hs₂=>Z3 (Z3 ?_))
 dsimp only
 refine Z0 (Z0 (wpAny_holding ?_))
 show wpAny _ _ (Builtin.SmallTypes.nextOf (.ref i2)>>=_) _ _ _
 refine Z0 (wpAny_nextOf_list_end hh ((h2.extBut hs₁.extBut D.i2z).extBut hs₂.extBut D.i12.symm) ((hl.extBut hs₁.extBut D.l2z).extBut hs₂.extBut D.l2i1) hy λh₃ e hs₃ he=>?_)
 exact hE h₃ e (λc o c1 c2 c3 x=>hs₃ _ _ c3 (hs₂.extBut _ _ c2 (hs₁.extBut _ _ c1 x))) he
theorem q7N{z TI TO i1 i2 l:Addr}{x left:Int}{k2:Nat}{ys:Array Value}{y a b:Value}{Q:Value→Shared→Prop}(D:ZipApart z TI TO i1 i2 l l)
  (hz:IsZ s.heap z TI TO .none (.bool false)) (hTI:IsPair s.heap TI (.ref i1) (.ref i2)) (hTO:IsPair s.heap TO a b)
  (h1:IsRangeIter s.heap i1 x left 1) (h2:s.heap.IsListIter i2 l k2) (hl:s.heap.IsList l ys) (hleft:0<left) (hy:ys[k2]?=some y)
  (hQ:∀h',IsZ h' z TI TO (rawInt s.heap.objs.size) (.bool false)→IsRangeIter h' i1 (x+1) (left-1) 1→h'.IsListIter i2 l (k2+1)→IsPair h' s.heap.objs.size (.int x s.toks) y→h'.objs.size=s.heap.objs.size+1→
   (∀c o,c≠z→c≠TO→c≠i1→c≠i2→s.heap.get? c=some o→h'.get? c=some o)→Q (.ref s.heap.objs.size) {s with heap:=h',toks:=s.toks+1}) :
  wpAny (model prog w) A (Builtin.«zip.__next__» ⟨[.ref z],[]⟩) (λfin s'=>∃v,fin=.done (.ret v)∧Q v s') E s:=by
 show wpAny _ _ (field (.ref z) 2>>=_) _ _ _
 refine Z0 (wpAny_field hz rfl (x:=.bool false) rfl ?_)
 show wpAny _ _ (field (.ref z) 3>>=_) _ _ _
 refine Z0 (wpAny_field hz rfl (x:=.ref TI) rfl ?_)
 refine Z0 (wpAny_seqItems hTI rfl ?_)
 show wpAny _ _ (Builtin.SmallTypes.ownedTupleIsFree (.ref z)>>=_) _ _ _
 refine Z0 ?_
 unfold Builtin.SmallTypes.ownedTupleIsFree
 refine Z0 (wpAny_field hz rfl (x:=.none) rfl (Z3 ?_))
 simp only[if_true]
 refine Z0 (wpAny_rule ?_)
 refine Z0 (wpAny_field hz rfl (x:=.ref TO) rfl ?_)
 refine Z0 (wpAny_setField_rec hz (by simp) λh₁ hz₁ hs₁=>?_)
 replace hz₁:IsZ h₁ z TI TO .ellipsis (.bool false):=hz₁
 refine Z0 ?_
 simp only[List.zipIdx_cons,List.zipIdx_nil,List.forIn_cons,List.forIn_nil]
 refine Z0 (Z0 (wpAny_onRaise ?_))
 show wpAny _ _ (Builtin.SmallTypes.nextOf (.ref i1)>>=_) _ _ _
 have h1₁:IsRangeIter h₁ i1 x left 1:=hs₁.extBut _ _ D.i1z h1
 refine Z0 (q1Q h1₁ hleft λh₂ h1₂ hs₂=>Z3 ?_)
 have hTO₂:IsPair h₂ TO a b:=hs₂.extBut _ _ D.TOi1 (hs₁.extBut _ _ D.TOz hTO)
 refine Z0 (wpAny_seqItems hTO₂ rfl ?_)
 refine Z0 (wpAny_updateSeq_pair hTO₂ λh₃ hTO₃ hs₃=>?_)
 replace hTO₃:IsPair h₃ TO (.int x s.toks) b:=hTO₃
 refine Z0 (wpAny_letGo (Z3 ?_))
 refine Z0 (Z0 (wpAny_onRaise ?_))
 show wpAny _ _ (Builtin.SmallTypes.nextOf (.ref i2)>>=_) _ _ _
 refine Z0 (wpAny_nextOf_list_item (((h2.extBut hs₁.extBut D.i2z).extBut hs₂.extBut D.i12.symm).extBut hs₃.extBut D.TOi2.symm)
  (((hl.extBut hs₁.extBut D.l2z).extBut hs₂.extBut D.l2i1).extBut hs₃.extBut D.l2TO) hy λh₄ h2₄ hs₄=>Z3 ?_)
 have hTO₄:IsPair h₄ TO (.int x s.toks) b:=hs₄.extBut _ _ D.TOi2 hTO₃
 refine Z0 (wpAny_seqItems hTO₄ rfl ?_)
 refine Z0 (wpAny_updateSeq_pair hTO₄ λh₅ hTO₅ hs₅=>?_)
 replace hTO₅:IsPair h₅ TO (.int x s.toks) y:=hTO₅
 refine Z0 (wpAny_letGo (Z3 (Z3 ?_)))
 refine Z0 (wpAny_seqItems hTO₅ rfl ?_)
 refine Z0 (wpAny_newTuple ?_)
 have hsz:h₅.objs.size=s.heap.objs.size:=by rw[hs₅.1,hs₄.1,hs₃.1,hs₂.1,hs₁.1]
 have hz₅:IsZ h₅ z TI TO .ellipsis (.bool false):=hs₅.extBut _ _ D.TOz.symm (hs₄.extBut _ _ D.i2z.symm (hs₃.extBut _ _ D.TOz.symm (hs₂.extBut _ _ D.i1z.symm hz₁)))
 have hk₅:∀c o,c≠z→c≠TO→c≠i1→c≠i2→s.heap.get? c=some o→h₅.get? c=some o:=λc o c1 c2 c3 c4 e=>
  hs₅.extBut _ _ c2 (hs₄.extBut _ _ c4 (hs₃.extBut _ _ c2 (hs₂.extBut _ _ c3 (hs₁.extBut _ _ c1 e))))
 have h1₅:IsRangeIter h₅ i1 (x+1) (left-1) 1:=hs₅.extBut _ _ D.TOi1.symm (hs₄.extBut _ _ D.i12 (hs₃.extBut _ _ D.TOi1.symm h1₂))
 have h2₅:h₅.IsListIter i2 l (k2+1):=h2₄.extBut hs₅.extBut D.TOi2.symm
 have hzlt:z<h₅.objs.size:=Z7 hz₅
 have hi1lt:i1<h₅.objs.size:=Z7 h1₅
 show wpAny _ _ (Builtin.SmallTypes.ownedTupleHandOut (.ref z) (.ref h₅.objs.size)>>=_) _ _ _
 refine Z0 ?_
 unfold Builtin.SmallTypes.ownedTupleHandOut
 have hz₆:IsZ (h₅.push {cls:=.type "tuple",data:=.seq #[.int x s.toks,y]}) z TI TO .ellipsis (.bool false):=Z5 _ hz₅
 refine Z0 (wpAny_setField_rec hz₆ (by simp) λh₇ hz₇ hs₇=>?_)
 replace hz₇:IsZ h₇ z TI TO (rawInt h₅.objs.size) (.bool false):=hz₇
 refine wpAny_setField_rec hz₇ (by simp) λh₈ hz₈ hs₈=>?_
 replace hz₈:IsZ h₈ z TI TO (rawInt h₅.objs.size) (.bool false):=hz₈
 have up:∀c o,c≠z→h₅.get? c=some o→h₈.get? c=some o:=λc o c1 e=>hs₈.extBut _ _ c1 (hs₇.extBut _ _ c1 (Z5 _ e))
 have hT₈:IsPair h₈ h₅.objs.size (.int x s.toks) y:=hs₈.extBut _ _ (Nat.ne_of_gt hzlt) (hs₇.extBut _ _ (Nat.ne_of_gt hzlt) (Zb _ rfl))
 have hz8:h₈.objs.size=h₅.objs.size+1:=by rw[hs₈.1,hs₇.1,Heap.size_push]
 rw[hsz] at hz₈ hT₈ hz8
 refine Z3 ⟨_,rfl,?_⟩
 show Q (.ref h₅.objs.size) _
 rw[hsz]
 exact hQ h₈ hz₈ (up _ _ D.i1z h1₅) (h2₅.at λo e=>up _ o D.i2z e) hT₈ hz8 λc o c1 c2 c3 c4 e=>up c o c1 (hk₅ c o c1 c2 c3 c4 e)
end
section
open PySem PySem.W
open PyProof PyProof.Rows
inductive ZRows(h:Heap):Int→List Addr→List Value→Prop
 |nil {x:Int}:ZRows h x [] []
 |cons {x:Int} {T:Addr} {t:Tok} {y:Value} {Ts:List Addr} {ys:List Value}:IsPair h T (.int x t) y→ZRows h (x+1) Ts ys→ZRows h x (T::Ts) (y::ys)
noncomputable def Incr:Nat→List Addr→Prop
 |_,[]=>True
 |n,a::r=>n≤a∧Incr (a+1) r
section
variable{prog:Program}{w:World}{A:Around}{E:Value→Shared→Prop}{s:Shared}{R:Result→Shared→Prop}
theorem q4m{z:Addr}{Q:Option Value→Shared→Prop}(hT:s.TypeIs (.ref z) "zip")(h:∀E':Value→Shared→Prop,wpAny (model prog w) A.in1 (Builtin.«zip.__next__» ⟨[.ref z],[]⟩) (λfin s'=>∃v,fin=.done (.ret v)∧Q (some v) s') E' s) :
  wpAny (model prog w) A (pyNext (.ref z)) Q E s:=by
 unfold pyNext
 exact Z0 (wpAny_attempt (wpAny_callSpecial?_slot (name:=Str.ofString "__next__") hT F.slot_zip_next
  (wpAny_call_entry F.slot_zip_next hT F.entry_zip_next (wpAny_mono (h _) (λfin s' oY1x0=>by(refine X1x2 oY1x0 ?_;clear oY1x0;intro v e q);exact⟨v,e,Z3 q⟩) λ_ _ z=>z) (F.args_zip_next_1 _))))
theorem q49{z:Addr}{Q:Option Value→Shared→Prop}(hT:s.TypeIs (.ref z) "zip")
  (h:∀(Q':PySem.Fin→Shared→Prop)(E':Value→Shared→Prop),(∀s' e,(∃o,s'.heap.get? e=some o∧o.cls=.type "StopIteration")→Q none s'→E' (.ref e) s')→wpAny (model prog w) A.in1 (Builtin.«zip.__next__» ⟨[.ref z],[]⟩) Q' E' s) :
  wpAny (model prog w) A (pyNext (.ref z)) Q E s:=by
 unfold pyNext
 refine Z0 (wpAny_attempt (wpAny_callSpecial?_slot (name:=Str.ofString "__next__") hT F.slot_zip_next
  (wpAny_call_entry F.slot_zip_next hT F.entry_zip_next (h _ _ λs' e he hq=>?_) (F.args_zip_next_1 _))))
 refine X1x2 he ?_;clear he;intro o ho hc
 refine Z0 (wpAny_isInstance (T:="StopIteration") (b:=true) ⟨o,ho,hc⟩ isSubtype_stop ?_)
 exact Z3 hq
theorem qaD{S z TI TO i1 i2 l:Addr}{res:Value}(hh:A.handled=none)(D:ZipApart z TI TO i1 i2 l l)(Sz:S≠z)(S1:S≠i1)(S2:S≠i2)(ST:S≠TI)(Sl:S≠l):∀(ys' pre:List Value)(x left:Int)(s:Shared)(acc:List Value)(c:Nat)(T:Addr)(f1:Value)(oT:Obj),
  T≠S→T≠z→T≠i1→T≠i2→IsZ s.heap z TI TO (rawInt T) f1→IsPair s.heap TI (.ref i1) (.ref i2)→s.heap.get? T=some oT→IsRangeIter s.heap i1 x left 1→s.heap.IsListIter i2 l pre.length→s.heap.IsList l (pre++ys').toArray→(ys'.length:Int)<left→
  s.heap.get? S=some {cls:=.type "list",dict:=none,data:=.seq acc.toArray c,slots:=#[]}→acc.length+ys'.length≤4096→
  (∀h' tk Ts c',ZRows h' x Ts ys'→Incr s.heap.objs.size Ts→(∀u o,u≠S→u≠z→u≠i1→u≠i2→s.heap.get? u=some o→h'.get? u=some o)→
   h'.get? S=some {cls:=.type "list",dict:=none,data:=.seq (acc++Ts.map Value.ref).toArray c',slots:=#[]}→R (.ok (.ret res)) {s with heap:=h',toks:=tk})→
  codeAny (model prog w) A (.builtin "list.extend.loop" ⟨[.ref S,.ref z,res],[]⟩) R s:=by
 intro ys'
 induction ys' with
 |nil=>
  intro pre x left s acc c T f1 oT TS Tz T1 T2 hz hTI hT h1 h2 hl hlt hS hsz hR
  refine codeAny_builtin F.entry_extend_loop ?_
  rw[Around.under_plainId F.plain_extend_loop _]
  show wpAny _ A.in1 (pyNext (.ref z)>>=_) _ _ s
  refine Z0 (q49 ⟨_,hz,rfl⟩ λQ' E' hE=>?_)
  refine q8w (oT:=oT) hh D hz hTI hT h1 h2 hl (by simp only[List.length_nil] at hlt;exact hlt) (by simp) λh' e hk he=>hE _ _ he ?_
  refine Z3 (hR h' _ [] c .nil trivial (λu o _ a b d x=>hk u o a b d x) ?_)
  simpa using hk S _ Sz S1 S2 hS
 |cons y ys' ih=>
  intro pre x left s acc c T f1 oT TS Tz T1 T2 hz hTI hT h1 h2 hl hlt hS hsz hR
  refine codeAny_builtin F.entry_extend_loop ?_
  rw[Around.under_plainId F.plain_extend_loop _]
  show wpAny _ A.in1 (pyNext (.ref z)>>=_) _ _ s
  simp only[List.length_cons] at hlt hsz
  refine Z0 (q4m ⟨_,hz,rfl⟩ λE'=>?_)
  refine q7M (oT:=oT) (y:=y) D hz hTI hT h1 h2 hl (by lia) (by simp) λh₁ z₁ r₁ l₁ p₁ n₁ k₁=>?_
  have hS₁:=k₁ S _ Sz S1 S2 hS
  have ltS:=Z7 hS
  have ltz:=Z7 hz
  have lt1:=Z7 h1
  have lt2:i2<s.heap.objs.size:=by(refine X1x2 h2 ?_;clear h2;intro _ e _);exact Z7 e
  show wpAny _ A.in1 (updateSeq S (·.push (.ref s.heap.objs.size))>>=_) _ _ _
  refine Z0 ?_
  have hS₂:=Zc (Obj.mapSeq (·.push (Value.ref s.heap.objs.size))) hS₁ rfl
  have oth:∀b o,b≠S→h₁.get? b=some o→(h₁.update S (Obj.mapSeq (·.push (Value.ref s.heap.objs.size)))).get? b=some o:=λb o hb e=>(Heap.get?_update_other _ _ (Ne.symm hb)).trans e
  refine wpAny_updateSeq hS₁ rfl (Z3 ⟨plainId_quiet F.plain_extend_loop _,?_⟩) (by have:=q0i (n:=4096) (Nat.le_refl _);simp only[List.size_toArray];lia) (by have:=q0i (n:=4096) (Nat.le_refl _);show (acc.toArray.push _).size≤sizeLine+1;simp only[Array.size_push,List.size_toArray];lia)
  have hN:∀u,u<s.heap.objs.size→s.heap.objs.size≠u:=λu h=>Nat.ne_of_gt h
  refine ih (pre++[y]) (x+1) (left-1) _ (acc++[.ref s.heap.objs.size]) _ T (.bool true) oT TS Tz T1 T2 (oth _ _ Sz.symm z₁) (oth _ _ ST.symm (k₁ _ _ D.TIz D.TIi1 D.TIi2 hTI)) (oth _ _ TS (k₁ _ _ Tz T1 T2 hT)) (oth _ _ S1.symm r₁)
   ?_ ?_ (by lia) (hS₂.trans (by rw[←List.push_toArray];rfl)) (by simp only[List.length_append,List.length_singleton];lia) λh' tk Ts c' hr hi hk hS'=>?_
  ·rw[List.length_append,List.length_singleton]
   exact l₁.at λo e=>oth _ o S2.symm e
  ·rw[List.append_assoc]
   exact hl.at λo e=>oth _ o Sl.symm (k₁ _ o D.l2z D.l2i1 D.l2i2 e)
  ·have hsz₁:(h₁.update S (Obj.mapSeq (·.push (Value.ref s.heap.objs.size)))).objs.size=s.heap.objs.size+1:=by rw[(Heap.SameBut.update _ _ _).1,n₁]
   have hi:Incr (s.heap.objs.size+1) Ts:=by rw[←hsz₁];exact hi
   refine hR h' tk (s.heap.objs.size::Ts) c' (.cons (t:=s.toks) (hk _ _ (hN _ ltS) (hN _ ltz) (hN _ lt1) (hN _ lt2) (oth _ _ (hN _ ltS) p₁)) hr) ⟨Nat.le_refl _,hi⟩ (λu o a b d e x=>hk u o a b d e (oth _ _ a (k₁ _ _ b d e x))) ?_
   simpa using hS'
end
namespace FA
theorem zip_no_len:typeLookup (.type "zip") "__len__"=pure none:=by rw[typeLookup_type,builtinLookup_eq_fast];kernel_rfl
theorem zip_no_hint:typeLookup (.type "zip") "__length_hint__"=pure none:=by rw[typeLookup_type,builtinLookup_eq_fast];kernel_rfl
end FA
section
variable{prog:Program}{w:World}{A:Around}{E:Value→Shared→Prop}{s:Shared}{R:Result→Shared→Prop}
theorem qb4{z TI TO:Addr}{f0 f1:Value}{Q:Value→Shared→Prop}(hz:IsZ s.heap z TI TO f0 f1)(h:Q (.ref z) s):wpAny (model prog w) A (pyIter (.ref z)) Q E s:=by
 have hT:s.TypeIs (.ref z) "zip":=⟨_,hz,rfl⟩
 refine wpAny_pyIter_slot hT F.slot_zip_iter (wpAny_call_entry F.slot_zip_iter hT F.entry_zip_iter ?_ (F.args_zip_iter_1 _))
 show wpAny _ _ (ret (.ref z)) _ _ s
 exact Z3 ⟨_,rfl,"zip",_,hT,F.slot_zip_next.lookup,h⟩
theorem q8v{S z TI TO i1 i2 l:Addr}{res a b y:Value}{ys':List Value}{x left:Int}{c:Nat}(hh:A.handled=none)(D:ZipApart z TI TO i1 i2 l l)(Sz:S≠z)(S1:S≠i1)(S2:S≠i2)(ST:S≠TI)(SO:S≠TO)(Sl:S≠l)
  (hz:IsZ s.heap z TI TO .none (.bool false)) (hTI:IsPair s.heap TI (.ref i1) (.ref i2)) (hTO:IsPair s.heap TO a b) (h1:IsRangeIter s.heap i1 x left 1) (h2:s.heap.IsListIter i2 l 0) (hl:s.heap.IsList l (y::ys').toArray) (hlt:(ys'.length:Int)+1<left)
  (hS:s.heap.get? S=some {cls:=.type "list",dict:=none,data:=.seq #[] c,slots:=#[]}) (hsz:ys'.length+1≤4096)
  (hR:∀h' tk Ts c',ZRows h' x Ts (y::ys')→Incr s.heap.objs.size Ts→(∀u o,u≠S→u≠z→u≠TO→u≠i1→u≠i2→s.heap.get? u=some o→h'.get? u=some o)→
   h'.get? S=some {cls:=.type "list",dict:=none,data:=.seq (Ts.map Value.ref).toArray c',slots:=#[]}→R (.ok (.ret res)) {s with heap:=h',toks:=tk}) :
  codeAny (model prog w) A (.builtin "list.extend.loop" ⟨[.ref S,.ref z,res],[]⟩) R s:=by
 refine codeAny_builtin F.entry_extend_loop ?_
 rw[Around.under_plainId F.plain_extend_loop _]
 show wpAny _ A.in1 (pyNext (.ref z)>>=_) _ _ s
 refine Z0 (q4m ⟨_,hz,rfl⟩ λE'=>?_)
 refine q7N (y:=y) D hz hTI hTO h1 h2 hl (by lia) (by simp) λh₁ z₁ r₁ l₁ p₁ n₁ k₁=>?_
 have hS₁:=k₁ S _ Sz SO S1 S2 hS
 have ltS:=Z7 hS
 have ltz:=Z7 hz
 have lt1:=Z7 h1
 have lt2:i2<s.heap.objs.size:=by(refine X1x2 h2 ?_;clear h2;intro _ e _);exact Z7 e
 show wpAny _ A.in1 (updateSeq S (·.push (.ref s.heap.objs.size))>>=_) _ _ _
 refine Z0 ?_
 have hS₂:=Zc (Obj.mapSeq (·.push (Value.ref s.heap.objs.size))) hS₁ rfl
 have oth:∀b o,b≠S→h₁.get? b=some o→(h₁.update S (Obj.mapSeq (·.push (Value.ref s.heap.objs.size)))).get? b=some o:=λb o hb e=>(Heap.get?_update_other _ _ (Ne.symm hb)).trans e
 refine wpAny_updateSeq hS₁ rfl (Z3 ⟨plainId_quiet F.plain_extend_loop _,?_⟩) (by decide) (by show 1≤sizeLine+1;decide)
 have hN:∀u,u<s.heap.objs.size→s.heap.objs.size≠u:=λu h=>Nat.ne_of_gt h
 refine qaD hh D Sz S1 S2 ST Sl ys' [y] (x+1) (left-1) _ [.ref s.heap.objs.size] _ s.heap.objs.size (.bool false) {cls:=.type "tuple",data:=.seq #[.int x s.toks,y]} (hN _ ltS) (hN _ ltz) (hN _ lt1) (hN _ lt2) (oth _ _ Sz.symm z₁) (oth _ _ ST.symm (k₁ _ _ D.TIz D.TITO D.TIi1 D.TIi2 hTI)) (oth _ _ (hN _ ltS) p₁) (oth _ _ S1.symm r₁)
  ?_ ?_ (by lia) (hS₂.trans (by rfl)) (by simp only[List.length_singleton];lia) λh' tk Ts c' hr hi hk hS'=>?_
 ·exact l₁.at λo e=>oth _ o S2.symm e
 ·exact hl.at λo e=>oth _ o Sl.symm (k₁ _ o D.l2z D.l2TO D.l2i1 D.l2i2 e)
 ·have hsz₁:(h₁.update S (Obj.mapSeq (·.push (Value.ref s.heap.objs.size)))).objs.size=s.heap.objs.size+1:=by rw[(Heap.SameBut.update _ _ _).1,n₁]
  have hi:Incr (s.heap.objs.size+1) Ts:=by rw[←hsz₁];exact hi
  refine hR h' tk (s.heap.objs.size::Ts) c' (.cons (t:=s.toks) (hk _ _ (hN _ ltS) (hN _ ltz) (hN _ lt1) (hN _ lt2) (oth _ _ (hN _ ltS) p₁)) hr) ⟨Nat.le_refl _,hi⟩ (λu o a b d e f x=>hk u o a b e f (oth _ _ a (k₁ _ _ b d e f x))) ?_
  simpa using hS'
theorem q58{z TI TO i1 i2 l:Addr}{a b y:Value}{ys':List Value}{x left:Int}{Q:Value→Shared→Prop}(hh:A.handled=none)(D:ZipApart z TI TO i1 i2 l l)
  (hz:IsZ s.heap z TI TO .none (.bool false)) (hTI:IsPair s.heap TI (.ref i1) (.ref i2)) (hTO:IsPair s.heap TO a b) (h1:IsRangeIter s.heap i1 x left 1) (h2:s.heap.IsListIter i2 l 0) (hl:s.heap.IsList l (y::ys').toArray) (hlt:(ys'.length:Int)+1<left)
  (hsz:ys'.length+1≤4096)
  (hQ:∀h' tk Ts c',ZRows h' x Ts (y::ys')→Incr (s.heap.objs.size+1) Ts→(∀u o,u≠z→u≠TO→u≠i1→u≠i2→s.heap.get? u=some o→h'.get? u=some o)→
   h'.get? s.heap.objs.size=some {cls:=.type "list",dict:=none,data:=.seq (Ts.map Value.ref).toArray c',slots:=#[]}→Q (.ref s.heap.objs.size) {s with heap:=h',toks:=tk}) :
  wpAny (model prog w) A (call (.type "list") [.ref z]) Q E s:=by
 have ltz:=Z7 hz
 have ltTI:=Z7 hTI
 have ltTO:=Z7 hTO
 have lt1:=Z7 h1
 have lt2:i2<s.heap.objs.size:=by(refine X1x2 h2 ?_;clear h2;intro _ e _);exact Z7 e
 have ltl:l<s.heap.objs.size:=by(refine X1x2 hl ?_;clear hl;intro _ e _);exact Z7 e
 have hN:∀u,u<s.heap.objs.size→s.heap.objs.size≠u:=λu h=>Nat.ne_of_gt h
 refine callType_codes (Q₁:=λobj s₁=>obj=.ref s.heap.objs.size∧s₁={s with heap:=s.heap.push {cls:=.type "list",data:=.seq #[]}}) F.called_list (F.typeCall_list_1 _) F.entry_list_init
  (code_list_new _ ⟨rfl,rfl⟩) λobj s₁ h₁=>?_
 refine X0x2 h₁ ?_;clear h₁;intro o1 o2;subst o1;subst o2
 have hS:(s.heap.push {cls:=.type "list",data:=.seq #[]}).get? s.heap.objs.size=some {cls:=.type "list",data:=.seq #[]}:=Zb _ rfl
 refine⟨⟨_,hS,rfl⟩,F.args_list_init_2 _ _,?_⟩
 show wpAny _ A.in1.in1 (do let old ←Builtin.List.listItems (.ref s.heap.objs.size);Builtin.List.listUpdate (.ref s.heap.objs.size) (λ_=>#[]);letGo old.toList.reverse;Builtin.List.listExtendWith (.ref s.heap.objs.size) (.ref z) .none) _ _ _
 refine Z0 ?_
 unfold Builtin.List.listItems
 refine Z0 (wpAny_seqItems hS rfl (Z3 ?_))
 show wpAny _ A.in1.in1 (updateSeq s.heap.objs.size (λ_=>#[])>>=λ_=>letGo (#[]:Array Value).toList.reverse>>=λ_=>Builtin.List.listExtendWith (.ref s.heap.objs.size) (.ref z) .none) _ _ _
 refine Z0 (wpAny_updateSeq hS rfl ?_)
 have hS₂:=Zc (Obj.mapSeq (λ_=>(#[]:Array Value))) hS rfl
 refine Z0 (wpAny_letGo ?_)
 have oth₂:∀b o,b≠s.heap.objs.size→s.heap.get? b=some o→((s.heap.push {cls:=.type "list",data:=.seq #[]}).update s.heap.objs.size (Obj.mapSeq (λ_=>(#[]:Array Value)))).get? b=some o:=
  λb o hb e=>(Heap.get?_update_other _ _ (Ne.symm hb)).trans (Z5 _ e)
 have n₂:((s.heap.push {cls:=.type "list",data:=.seq #[]}).update s.heap.objs.size (Obj.mapSeq (λ_=>(#[]:Array Value)))).objs.size=s.heap.objs.size+1:=by rw[(Heap.SameBut.update _ _ _).1,Heap.size_push]
 generalize (s.heap.push {cls:=.type "list",data:=.seq #[]}).update s.heap.objs.size (Obj.mapSeq (λ_=>(#[]:Array Value)))=H at *
 have hz₂:IsZ H z TI TO .none (.bool false):=oth₂ _ _ (hN _ ltz).symm hz
 unfold Builtin.List.listExtendWith
 refine Z0 (wpAny_typeOf (T:="zip") ⟨_,hz₂,rfl⟩ ?_)
 have e1:Builtin.List.listSameRef (.ref s.heap.objs.size) (.ref z)=false:=by simp[Builtin.List.listSameRef,hN _ ltz]
 have e2:(Value.type "zip"==Value.type "list")=false:=by decide
 have e3:(Value.type "zip"==Value.type "tuple")=false:=by decide
 simp only[e1,e2,e3,Bool.or_false,Bool.false_eq_true,if_false]
 refine Z0 (qb4 hz₂ ?_)
 refine Z0 (wpAny_holding ?_)
 unfold Builtin.List.listLengthHint
 refine Z0 (wpAny_specialOf (T:="zip") ⟨_,hz₂,rfl⟩ FA.zip_no_len ?_)
 show wpAny _ A.in1.in1 (specialOf (Value.ref z) (Str.ofString "__length_hint__")>>=_) _ _ _
 refine Z0 (wpAny_specialOf (T:="zip") ⟨_,hz₂,rfl⟩ FA.zip_no_hint ?_)
 refine Z3 ?_
 have go:∀H':Heap,(∀b o,b≠s.heap.objs.size→H.get? b=some o→H'.get? b=some o)→(∃c,H'.get? s.heap.objs.size=some {cls:=.type "list",dict:=none,data:=.seq #[] c,slots:=#[]})→H'.objs.size=s.heap.objs.size+1→
   codeAny (model prog w) A.in1 (.builtin "list.extend.loop" ⟨[.ref s.heap.objs.size,.ref z,.none],[]⟩) (wants (λr s₂=>r=.none∧Q (.ref s.heap.objs.size) s₂) E) {s with heap:=H'}:=λH' hk oY1x0 hn=>by
  refine X1x1 oY1x0 ?_;clear oY1x0;intro c hc
  have k':∀b o,b<s.heap.objs.size→s.heap.get? b=some o→H'.get? b=some o:=λb o hb e=>hk b o (hN _ hb).symm (oth₂ b o (hN _ hb).symm e)
  refine q8v (s:={s with heap:=H'}) hh D (hN _ ltz) (hN _ lt1) (hN _ lt2) (hN _ ltTI) (hN _ ltTO) (hN _ ltl) (k' _ _ ltz hz) (k' _ _ ltTI hTI) (k' _ _ ltTO hTO) (k' _ _ lt1 h1) (h2.at λo e=>k' _ o lt2 e) (hl.at λo e=>k' _ o ltl e) hlt hc hsz
   λh' tk Ts c' hr hi hk' hS'=>⟨rfl,hQ h' tk Ts c' hr (by rw[←hn];exact hi) (λu o a b d e x=>?_) hS'⟩
  have:=Z7 x
  exact hk' u o (hN _ this).symm a b d e (k' _ _ this x)
 show wpAny _ A.in1.in1 (rule "list.extend.makes-room">>=λ_=>Builtin.List.listTouch (.ref s.heap.objs.size)>>=λ_=>again (.builtin "list.extend.loop" ⟨[.ref s.heap.objs.size,.ref z,.none],[]⟩)) _ _ _
 refine Z0 (wpAny_rule ?_)
 refine Z0 ?_
 show wpAny _ A.in1.in1 (updateSeq s.heap.objs.size (·.push .none)>>=λ_=>updateSeq s.heap.objs.size (·.pop)) _ _ _
 refine Z0 (wpAny_updateSeq hS₂ rfl ?_)
 have hS₃:=Zc (Obj.mapSeq (·.push Value.none)) hS₂ rfl
 refine wpAny_updateSeq (hz:=by seq_fits) hS₃ rfl ?_
 have hS₄:=Zc (Obj.mapSeq (·.pop)) hS₃ rfl
 refine Z3 ⟨plainId_quiet F.plain_extend_loop _,go _ (λb o hb e=>?_) ⟨_,hS₄.trans rfl⟩ ?_⟩
 ·exact(Heap.get?_update_other _ _ (Ne.symm hb)).trans ((Heap.get?_update_other _ _ (Ne.symm hb)).trans e)
 ·rw[(Heap.SameBut.update _ _ _).1,(Heap.SameBut.update _ _ _).1,n₂]
noncomputable abbrev zh1(h:Heap)(a n:Int):Heap:=h.push {cls:=.type "range_iterator",data:=.fields #[rawInt a,rawInt n,rawInt 1]}
noncomputable abbrev zh2(h:Heap)(a n:Int)(l2:Addr):Heap:=(zh1 h a n).push {cls:=.type "list_iterator",data:=.fields #[.ref l2,.int 0 0]}
noncomputable abbrev zh3(h:Heap)(a n:Int)(l2:Addr):Heap:=(zh2 h a n l2).push {cls:=.type "tuple",data:=.seq #[.ref h.objs.size,.ref (zh1 h a n).objs.size]}
noncomputable abbrev zh4(h:Heap)(a n:Int)(l2:Addr):Heap:=(zh3 h a n l2).push {cls:=.type "tuple",data:=.seq #[.none,.none]}
noncomputable abbrev zh5(h:Heap)(a n:Int)(l2:Addr):Heap:=(zh4 h a n l2).push {cls:=.type "zip",data:=.fields #[.none,.bool false,.bool false,.ref (zh2 h a n l2).objs.size,.ref (zh3 h a n l2).objs.size]}
theorem q6r(r l2:Addr)(a b:Int)(t u v:Tok)(ys:Array Value)(hsmall:Builtin.Range.small a b 1=true) :
  Meets (Builtin.«zip.__new__» ⟨[.type "zip",.ref r,.ref l2],[]⟩) (λ_ R s=>IsRange s.heap r a b 1 t u v∧s.heap.IsList l2 ys∧
   R (.ok (.ret (.ref (zh4 s.heap a (Builtin.Range.rangeSize a b 1) l2).objs.size))) {s with heap:=zh5 s.heap a (Builtin.Range.rangeSize a b 1) l2}):=
 .of_wp λprog w A R s h=>by
  obtain⟨hp,g,d,tk,os⟩:=s;(refine X0x3 h ?_;clear h;intro hl1 hl2 h)
  have hsub:=sub_zip
  have hL1:IsRange (Shared.heap ⟨hp,g,d,tk,os⟩) r a b 1 t u v:=hl1
  have hL2:Heap.IsList (Shared.heap ⟨hp.push {cls:=.type "range_iterator",data:=.fields #[rawInt a,rawInt (Builtin.Range.rangeSize a b 1),rawInt 1]},g,d,tk,os⟩) l2 ys:=Heap.IsList.push hl2 _
  wp_walk using wpAny_pyIter_range hL1 hsmall,wpAny_pyIter_list hL2
  exact⟨_,rfl,h⟩
theorem q8p{r l2:Addr}{a b:Int}{t u v:Tok}{ys:Array Value}{Q:Value→Shared→Prop}(hsmall:Builtin.Range.small a b 1=true)(hl1:IsRange s.heap r a b 1 t u v)(hl2:s.heap.IsList l2 ys)
  (h:∀h',IsZ h' (s.heap.objs.size+4) (s.heap.objs.size+2) (s.heap.objs.size+3) .none (.bool false)→IsPair h' (s.heap.objs.size+2) (.ref s.heap.objs.size) (.ref (s.heap.objs.size+1))→
   IsPair h' (s.heap.objs.size+3) .none .none→IsRangeIter h' s.heap.objs.size a (Builtin.Range.rangeSize a b 1) 1→h'.IsListIter (s.heap.objs.size+1) l2 0→h'.objs.size=s.heap.objs.size+5→
   (∀c o,s.heap.get? c=some o→h'.get? c=some o)→Q (.ref (s.heap.objs.size+4)) {s with heap:=h'}) :
  wpAny (model prog w) A (call (.type "zip") [.ref r,.ref l2]) Q E s:=by
 refine callType_new F.called_zip (by decide) (F.typeCall_zip_2 _ _) (F.newCall_zip_2 _ _) (λobj=>F.args_object_init_3 obj _ _) F.entry_zip_new
  (q6r r l2 a b t u v ys hsmall) ⟨hl1,hl2,?_⟩
 generalize Builtin.Range.rangeSize a b 1=n at *
 have z1:(zh1 s.heap a n).objs.size=s.heap.objs.size+1:=Heap.size_push ..
 have z2:(zh2 s.heap a n l2).objs.size=s.heap.objs.size+2:=by rw[Heap.size_push,z1]
 have z3:(zh3 s.heap a n l2).objs.size=s.heap.objs.size+3:=by rw[Heap.size_push,z2]
 have z4:(zh4 s.heap a n l2).objs.size=s.heap.objs.size+4:=by rw[Heap.size_push,z3]
 have z5:(zh5 s.heap a n l2).objs.size=s.heap.objs.size+5:=by rw[Heap.size_push,z4]
 have g5:(zh5 s.heap a n l2).get? (zh4 s.heap a n l2).objs.size=some _:=Zb _ rfl
 have g4:(zh5 s.heap a n l2).get? (zh3 s.heap a n l2).objs.size=some _:=Z5 _ (Zb _ rfl)
 have g3:(zh5 s.heap a n l2).get? (zh2 s.heap a n l2).objs.size=some _:=Z5 _ (Z5 _ (Zb _ rfl))
 have g2:(zh5 s.heap a n l2).get? (zh1 s.heap a n).objs.size=some _:=Z5 _ (Z5 _ (Z5 _ (Zb _ rfl)))
 have g1:(zh5 s.heap a n l2).get? s.heap.objs.size=some _:=Z5 _ (Z5 _ (Z5 _ (Z5 _ (Zb _ rfl))))
 show _∧_
 rw[z2,z3,z4] at g5
 rw[z1,z2] at g3
 rw[z3] at g4
 rw[z1] at g2
 rw[z4]
 exact⟨⟨_,g5,rfl⟩,h _ g5 g3 g4 g1 ⟨_,g2,rfl,rfl⟩ z5 λc o x=>
  Z5 _ (Z5 _ (Z5 _ (Z5 _ (Z5 _ x))))⟩
end
theorem q8y(v:SV)(r:List SV)(a:Int)(n:Nat)(σ:S)(k:List SV→S→Bool):zipR (v::r) a (n+1) σ k=σ.addTK [.int (.lit a),v] (λt σ=>zipR r (iAdd a 1) n σ (λr σ=>k (.own t::r) σ)):=rfl
section
variable{B:Base}{fs:List Nat}{s:Shared}
theorem q8x{l:List SV}{ys:List Value}{W₀:Wd}(hl:VRs W₀ l ys):∀{Ts:List Addr}{x:Int}{n m:Nat}{σ:S}{W:Wd}{k:List SV→S→Bool},W₀.le W→Rel B W fs σ s→ZRows s.heap x Ts ys→Incr m Ts→(∀p∈W.ρ,∀u∈p.all,u<m)→(∀g∈W.still,g.1<m)→B.h₀.objs.size≤m→
  -2305843009213693952<x→x+n<2305843009213693952→l.length≤n→zipR l x n σ k=true→
  ∃W' τ xs,W.le W'∧Rel B W' fs τ s∧VRs W' xs (Ts.map Value.ref)∧(∀p∈W'.ρ,∀u∈p.all,(∃q∈W.ρ,u∈q.all)∨m≤u)∧(∀g∈W'.still,g∈W.still)∧k xs τ=true:=by
 induction hl with
 |nil=>
  intro Ts x n m σ W k l₀ R hz _ _ _ _ _ _ _ h
  cases hz
  exact⟨W,σ,[],.refl W,R,.nil,λp hp u hu=>.inl ⟨p,hp,hu⟩,λg hg=>hg,by cases n<;>exact h⟩
 |@cons v y l ys hv hl ih=>
  intro Ts x n m σ W k l₀ R hz hi hf hs hb h0 h1 hn h
  cases hz with
  |@cons _ T t _ Ts _ hp hr=>
  refine X0x2 hi ?_;clear hi;intro hm hi
  cases n with
  |zero=>simp at hn
  |succ n=>
  rw[q8y] at h
  unfold S.addTK at h
  refine q06 h ?_;intro h2 h3
  refine S.addK_true_E3 h3 ?_;intro τ AA e
  rw[q54] at e
  have hfit:x.natAbs<2305843009213693952:=q9t h0 h1
  have hv:=hv.mono l₀
  have R₁:Rel B (W.add ⟨T,[]⟩) fs τ s:=R.adopt AA (p:=⟨T,[]⟩) (λu hu=>by
   refine Z4 (List.mem_cons.mp hu) ?_ (λz=>?_);rintro rfl
   ·exact⟨Nat.le_trans hb hm,⟨_,hp⟩,λq hq hu=>absurd (hf q hq _ hu) (Nat.not_lt.mpr hm),λg hg z=>absurd (z▸hs g hg) (Nat.not_lt.mpr hm)⟩
   ·cases z) ⟨[_,y],0,hp,.cons (q13 hfit) (.cons (hv.mono (W.le_add _)) .nil),by simp⟩
  refine X3x6 (ih (m:=T+1) (l₀.trans (W.le_add ⟨T,[]⟩)) R₁ hr hi (λp hp u hu=>by
   focus (refine Z4 (q1g hp) ?_ ?_;rotate_left;rintro rfl;rotate_right;intro hp)
   ·exact Za (hf p hp u hu) (Nat.le_succ_of_le hm)
   ·refine Z4 (List.mem_cons.mp hu) ?_ (λz=>?_);rintro rfl
    ·exact Nat.lt_succ_self _
    ·cases z) (λg hg=>Za (hs g hg) (Nat.le_succ_of_le hm)) (Nat.le_trans hb (Nat.le_succ_of_le hm)) (by lia) (by lia) (by simp only[List.length_cons] at hn;lia) e) ?_;intro W' τ' xs l' R' hx hq hw e'
  refine⟨W',τ',.own σ.n::xs,(W.le_add _).trans l',R',.cons ((q12 (R.add_at ⟨T,[]⟩)).mono l') hx,λp hp u hu=>?_,hw,e'⟩
  refine Z4 (hq p hp u hu) (λo1=>X1x2 o1 λq hq hu=>?_) λh=>?_
  ·focus (refine Z4 (q1g hq) ?_ ?_;rotate_left;rintro rfl;rotate_right;intro hq)
   ·exact .inl ⟨q,hq,hu⟩
   ·refine Z4 (List.mem_cons.mp hu) ?_ (λz=>?_);rintro rfl
    ·exact .inr hm
    ·cases z
  ·exact .inr (Nat.le_trans (Nat.le_succ_of_le hm) h)
end
section
variable{B:Base}{sc:Scope}
theorem qgW{r x:XC}{rE xE:Expr}{np zp p2 pos:Pos}{i j:Nat}(hr:SX B sc r rE)(hx:SX B sc x xE)(hk:sc.names.lookup ("list":Str)=some .globalImplicit)(hk2:sc.names.lookup ("zip":Str)=some .globalImplicit)
  (hg:alook glo i=some (.ty 3)) (hn:nm i="list") (hg2:alook glo j=some (.ty 5)) (hn2:nm j="zip")
  (hp:Plain [.Call (.Name "zip" zp) [rE,xE] [] p2]) (hp2:Plain [rE,xE])
  (he:∀env,eval (.Call (.Name "list" np) [.Call (.Name "zip" zp) [rE,xE] [] p2] [] pos) env=(do callWith pos (←eval (.Name "list" np) env) [] (backTo pos (starEach [.Call (.Name "zip" zp) [rE,xE] [] p2] env)) []))
  (he2:∀env,eval (.Call (.Name "zip" zp) [rE,xE] [] p2) env=(do callWith p2 (←eval (.Name "zip" zp) env) [] (backTo p2 (starEach [rE,xE] env)) []))
  (hs0:∀env,starEach [.Call (.Name "zip" zp) [rE,xE] [] p2] env=(false,eval (.Call (.Name "zip" zp) [rE,xE] [] p2) env)::starEach [] env)
  (hs1:∀env,starEach [rE,xE] env=(false,eval rE env)::starEach [xE] env) (hs2:∀env,starEach [xE] env=(false,eval xE env)::starEach [] env) :
  SX B sc (cLZ r x) (.Call (.Name "list" np) [.Call (.Name "zip" zp) [rE,xE] [] p2] [] pos):=λn W fs c X σ s kv O R h=>by
 refine X1x2 (B.ld i _ hg) ?_;intro v hv hl
 have hv:v=.type (tyNm 3):=hv W
 have hv:v=.type "list":=hv
 subst hv
 rw[hn] at hl
 refine X1x2 (B.ld j _ hg2) ?_;intro v2 hv2 hl2
 have hv2:v2=.type (tyNm 5):=hv2 W
 have hv2:v2=.type "zip":=hv2
 subst hv2
 rw[hn2] at hl2
 rw[he]
 refine q01 (toG (Calls.Name_function_global (by rw[O.esc];exact O.kind) (by unfold Env.kindOf;rw[O.esc];exact hk) (hl _ _ _ X.env s R.old.k O.glo O.bui ?_) (by decide)))
 refine q0q O.around.handled (q0z (hp _)) ?_
 refine q0F (hs0 _) ?_
 rw[he2]
 refine q01 (toG (Calls.Name_function_global (by rw[O.esc];exact O.kind) (by unfold Env.kindOf;rw[O.esc];exact hk2) (hl2 _ _ _ X.env s R.old.k O.glo O.bui ?_) (by decide)))
 refine q0q O.around.handled (q0z (hp2 _)) ?_
 have h:(q4H r (q4H x xNil)) c σ (λl σ=>on2 (λrv v=>oB (ats σ rv rgOf) (λp=>@Prod.rec Int Int (λ_=>Bool) (λa b=>oB (q0N σ v) (λl=>bi (q0s l) false
  (bi (Nat.blt (len l) (rlen a b)) (zipR l a (rlen a b) σ (λl σ=>σ.addLK l (λn σ=>kv (.own n) σ))) false))) p)) l)=true:=h
 refine q0D (q14 hr (q14 hx q2N hs2) hs1 n W fs c X σ s _ p2 O R h) λvs W₁ σ₁ s₁ l₁ R₁ oP=>⟨q0U,?_⟩
 refine oP.kE3 ?_;clear oP;intro xs hxs h₁
 refine X4x5 (q6V hxs h₁) ?_;intro xa xb a b o1 o2 ha hb h₁;subst o1;subst o2
 refine q00 h₁ ?_;intro o1 h2 h3;obtain⟨x0,x1⟩:=o1
 refine q00 h3 ?_;intro l h4 h5
 obtain⟨h6,h7⟩:q0s l=false∧_:=by
  refine Z4 (q1c h5) (λo2=>X0x2 o2 λ_ z=>?_) λo1=>X0x2 o1 λz z'=>?_
  ·exact zF z
  ·exact⟨z,z'⟩
 refine q06 h7 ?_;intro h8 h9
 have h8:=Nat.blt_eq.mp h8
 rw[q0o] at h8
 refine R₁.lst_E11 h4 hb ?_;intro k' p' ws m' _ _ hp2' o1 e1' e2' hlen;subst o1
 have hrg:∃q t₁ t₂ t₃,a=.ref q∧IsRange s₁.heap q x0 x1 1 t₁ t₂ t₃∧x0.natAbs<2305843009213693952∧x1.natAbs<2305843009213693952:=by
  cases xa with
  |own j=>
   refine q02 (show oO (σ₁.get j) rgOf=some (x0,x1) from h2) ?_;intro o h8 h9
   have e:o=.rng x0 x1:=q94 h9
   subst e
   refine X1x2 ha ?_;clear ha;intro p hp o1;subst o1
   refine X3x3 (R₁.objs _ _ _ h8 hp) ?_;intro t₁ t₂ t₃ e1 e2 e3
   exact⟨p.a,t₁,t₂,t₃,rfl,e1,e2,e3⟩
  |_=>exact zN h2
 refine X4x4 hrg ?_;clear hrg;intro q t₁ t₂ t₃ o1 eR b0 b1;subst o1
 have hrl:=q6k x0 x1
 have hsmall:=q5u b0 b1
 have lt2:=Z7 e1'
 refine toG (q8p (ys:=ws.toArray) hsmall eR (q0b e1') λh' z1 z2 z3 z4 z5 z6 z7=>?_)
 refine q0P ⟨q0U,?_⟩
 have D:=q6R lt2 lt2
 obtain⟨y0,ys',rfl⟩:∃y r,ws=y::r:=by
  cases e2' with
  |nil=>exact zT h6
  |cons _ _=>exact⟨_,_,rfl⟩
 have hws:=e2'.length
 simp only[List.length_cons] at hws
 have lt1:=Z7 eR
 refine toG (q58 (s:={s₁ with heap:=h'}) O.around.handled D z1 z2 z3 z4 z5 ⟨_,z7 _ _ e1',rfl,_,rfl⟩ (by lia) (by lia) λh'' tk Ts c' hr hi hk hS=>?_)
 have g1:Grows s₁.heap h'':=⟨λu o e=>by
  have hu:=Z7 e
  exact hk u o (Nat.ne_of_lt (Nat.lt_add_right 4 hu)) (Nat.ne_of_lt (Nat.lt_add_right 3 hu)) (Nat.ne_of_lt hu) (Nat.ne_of_lt (Nat.lt_add_right 1 hu)) (z7 u o e)⟩
 have R₂:Rel B W₁ fs σ₁ {s₁ with heap:=h'',toks:=tk}:=(R₁.toks (t:=tk)).grow (s':={s₁ with heap:=h'',toks:=tk}) g1 rfl rfl
 have ln:h'.objs.size=s₁.heap.objs.size+5:=z6
 have fo:∀p∈W₁.ρ,∀u∈p.all,u<s₁.heap.objs.size:=λp hp u hu=>by(refine X0x2 (R₁.own p hp u hu) ?_;intro _ o1;refine X1x1 o1 ?_;clear o1;intro _ e);exact Z7 e
 have fz:∀g∈W₁.still,g.1<s₁.heap.objs.size:=λg hg=>Z7 (R₁.fz g hg).1
 have l0:s₁.heap.objs.size≤h'.objs.size:=by rw[ln];exact Nat.le_add_right _ _
 have ls:s₁.heap.objs.size≤h'.objs.size+1:=Nat.le_succ_of_le l0
 refine X3x6 (q8x e2' (.refl W₁) R₂ hr hi (λp hp u hu=>Za (fo p hp u hu) ls) (λg hg=>Za (fz g hg) ls)
  (Nat.le_trans R₁.le ls) (nab.mp b0).1 (q93 b0 b1) (Nat.le_of_lt h8) h9) ?_;intro W' τ xs l' R' hx hq hw e'
 refine q06 e' ?_;intro h10 h11
 refine S.addK_true_E3 h11 ?_;intro τ' AA e''
 have R'':=R'.adopt AA (p:=⟨h'.objs.size,[]⟩) (λu hu=>by
  refine Z4 (List.mem_cons.mp hu) ?_ (λz=>?_);rintro rfl
  ·refine⟨Nat.le_trans R₁.le l0,⟨_,hS⟩,λq hq' hu=>?_,λg hg z=>?_⟩
   ·refine Z4 (hq q hq' _ hu) (λo1=>X1x2 o1 λq' h1 h2=>?_) λh=>?_
    ·exact absurd (fo q' h1 _ h2) (Nat.not_lt.mpr l0)
    ·exact absurd h (Nat.not_succ_le_self _)
   ·have z:g.1=h'.objs.size:=z
    exact absurd (z▸fz g (hw g hg)) (Nat.not_lt.mpr l0)
  ·cases z) ⟨Ts.map Value.ref,c',hS,hx.mono (W'.le_add _),q0A h10⟩
 exact⟨_,τ',(l₁.trans l').trans (W'.le_add _),R'',qv (q12 (R'.add_at _)) e''⟩
end
namespace FA
open Builtin Builtin._codecs
theorem digC{P:Nat→Prop}(h0:P 48)(h1:P 49)(h2:P 50)(h3:P 51)(h4:P 52)(h5:P 53)(h6:P 54)(h7:P 55)(h8:P 56)(h9:P 57){a:Nat}(h:dig a=true):P a:=by
 refine q06 (show bi (Nat.ble 48 a) (Nat.blt a 58) false=true from h) ?_;intro k1 k2
 have k1:=Z8 k1
 have k2:=Nat.blt_eq.mp k2
 focus (refine Z4 ((by decide +kernel:∀a,a<58→48≤a→a=48∨a=49∨a=50∨a=51∨a=52∨a=53∨a=54∨a=55∨a=56∨a=57) a k2 k1) ?_ ?_;rotate_left;intro o1;refine Z4 o1 ?_ ?_;rotate_left;clear o1;intro o2;refine Z4 o2 ?_ ?_;rotate_left;clear o2;intro o3;refine Z4 o3 ?_ ?_;rotate_left;clear o3;intro o4;refine Z4 o4 ?_ ?_;rotate_left;clear o4;intro o5;refine Z4 o5 ?_ ?_;rotate_left;clear o5;intro o6;refine Z4 o6 ?_ ?_;rotate_left;clear o6;intro o7;refine Z4 o7 ?_ ?_;rotate_left;clear o7;intro o8;refine Z4 o8 ?_ ?_;rotate_left;clear o8;rintro rfl;rotate_right;clear o8;rintro rfl;rotate_right;clear o7;rintro rfl;rotate_right;clear o6;rintro rfl;rotate_right;clear o5;rintro rfl;rotate_right;clear o4;rintro rfl;rotate_right;clear o3;rintro rfl;rotate_right;clear o2;rintro rfl;rotate_right;clear o1;rintro rfl;rotate_right;rintro rfl)<;>assumption
theorem enc2{id:String}{self:Value}{a b:Nat}(ha:dig a=true)(hb:dig b=true):encodeNarrow id asciiCodec none self ⟨#[a,b]⟩=pure #[a.toUInt8,b.toUInt8]:=by
 refine digC (P:=λa=>encodeNarrow id asciiCodec none self ⟨#[a,b]⟩=pure #[a.toUInt8,b.toUInt8]) ?_ ?_ ?_ ?_ ?_ ?_ ?_ ?_ ?_ ?_ ha<;>
 refine digC (P:=λb=>encodeNarrow id asciiCodec none self ⟨#[_,b]⟩=pure #[Nat.toUInt8 _,b.toUInt8]) ?_ ?_ ?_ ?_ ?_ ?_ ?_ ?_ ?_ ?_ hb<;>kernel_rfl
theorem dec2{id:String}{a b:UInt8}(ha:dig a.toNat=true)(hb:dig b.toNat=true):runDecoder id asciiDecoder none true #[a,b] 0 []=pure (#[a.toNat,b.toNat],2):=by
 have key:∀{a b:Nat},dig a=true→dig b=true→runDecoder id asciiDecoder none true #[UInt8.ofNat a,UInt8.ofNat b] 0 []=pure (#[a,b],2):=λ{a b} ha hb=>by
  refine digC (P:=λa=>runDecoder id asciiDecoder none true #[UInt8.ofNat a,UInt8.ofNat b] 0 []=pure (#[a,b],2)) ?_ ?_ ?_ ?_ ?_ ?_ ?_ ?_ ?_ ?_ ha<;>
  refine digC (P:=λb=>runDecoder id asciiDecoder none true #[UInt8.ofNat _,UInt8.ofNat b] 0 []=pure (#[_,b],2)) ?_ ?_ ?_ ?_ ?_ ?_ ?_ ?_ ?_ ?_ hb<;>kernel_rfl
 have:=key ha hb
 rwa[UInt8.ofNat_toNat,UInt8.ofNat_toNat] at this
theorem enc_tree(x:Str)(t u:Tok):«str.encode» ⟨[.str x t,.str ⟨#[97,115,99,105,105]⟩ u],[]⟩=(do ret (←encodeRoad "str.encode" (.str x t) x ⟨#[97,115,99,105,105]⟩ none)):=by kernel_rfl
theorem road_enc{id:String}{self:Value}{x:Str}{e:Option Str}:encodeRoad id self x ⟨#[97,115,99,105,105]⟩ e=(do mkBytes (←encodeNarrow id asciiCodec e self x)):=by kernel_rfl
theorem meets_enc{a b:Nat}(ha:dig a=true)(hb:dig b=true)(t u:Tok):Meets («str.encode» ⟨[.str ⟨#[a,b]⟩ t,.str ⟨#[97,115,99,105,105]⟩ u],[]⟩) (λ_ R s=>R (.ok (.ret (.bytes #[a.toUInt8,b.toUInt8] s.toks))) {s with toks:=s.toks+1}):=by
 refine .of_wp λprog w A R s h=>?_
 rw[enc_tree,road_enc,enc2 ha hb]
 exact Z0 (Z0 (Z3 (wpAny_mkBytes (Z3 ⟨_,rfl,h⟩) (show 2≤sizeLine by decide))))
theorem road_dec{id:String}{b:Array UInt8}:decodeRoad id b ⟨#[97,115,99,105,105]⟩ none []=(runDecoder id asciiDecoder none true b 0 []>>=λr=>mkStr ⟨r.1⟩):=by kernel_rfl
theorem meets_dtext{a b:UInt8}{t t1 t2:Tok}{d:Str}(ha:dig a.toNat=true)(hb:dig b.toNat=true) :
  Meets («_codecs.decode.text» ⟨[.bytes #[a,b] t,.str ⟨#[97,115,99,105,105]⟩ t1,.none,.str d t2],[]⟩) (λ_ R s=>R (.ok (.ret (.str ⟨#[a.toNat,b.toNat]⟩ s.toks))) {s with toks:=s.toks+1}):=by
 refine .of_wp λprog w A R s h=>?_
 show wpAny _ _ (Bytes.bytesLike _ (.bytes #[a,b] t)>>=λr=>_) _ _ s
 refine Z0 (wpAny_of_eq KBd.like_eq ?_)
 refine Z0 (wpAny_of_eq KBd.held_eq ?_)
 show wpAny _ _ (_codecs.decodeRoad _ #[a,b] ⟨#[97,115,99,105,105]⟩ none []>>=λv=>_) _ _ s
 rw[road_dec,dec2 ha hb]
 refine Z0 (Z0 (Z3 ?_))
 exact wpAny_mkStr (Z3 ⟨_,rfl,h⟩) (show 2≤sizeLine by decide)
theorem dec_tree(a b:UInt8)(t u:Tok):«bytes.decode» ⟨[.bytes #[a,b] t,.str ⟨#[97,115,99,105,105]⟩ u],[]⟩=(mkStr (Str.ofString "utf-8")>>=λ_=>mkStr ⟨#[97,115,99,105,105]⟩>>=λe=>mkStr (Str.ofString "bytes.decode")>>=λd=>
  call (.builtin "_codecs.decode.text") [.bytes #[a,b] t,e,.none,d]>>=λv=>ret v):=by kernel_rfl
theorem meets_dec{a b:UInt8}(ha:dig a.toNat=true)(hb:dig b.toNat=true)(t u:Tok):Meets («bytes.decode» ⟨[.bytes #[a,b] t,.str ⟨#[97,115,99,105,105]⟩ u],[]⟩) (λ_ R s=>∀t' k,R (.ok (.ret (.str ⟨#[a.toNat,b.toNat]⟩ t'))) {s with toks:=k}):=by
 refine .of_wp λprog w A R s h=>?_
 rw[dec_tree]
 refine Z0 (wpAny_mkStr ?_ (by decide))
 refine Z0 (wpAny_mkStr ?_ (by decide))
 refine Z0 (wpAny_mkStr ?_ (by decide))
 exact Z0 (call_function_meets KBd.kind_text KBd.plain_text KBd.entry_text (KBd.args_text _ _ _ _) (meets_dtext ha hb) (Z3 ⟨_,rfl,h _ _⟩))
theorem take_eq{id:String}{b:Array UInt8}{t:Tok}:Bytes.takeBufferQuiet? id (.bytes b t) 0=pure (some (b,none)):=by
 unfold Bytes.takeBufferQuiet? Bytes.takeBuffer?
 have e:((0:Int)==Bytes.fullReadOnly)=false:=by decide
 rw[e,KBy.special_eq KBy.look_buffer,KBy.own_buffer,KBy.buffer_eq]
 kernel_rfl
theorem meets_join{p:Addr}{x y:Array UInt8}{t0 t u:Tok}{n:Nat}:Meets («bytes.join» ⟨[.bytes #[] t0,.ref p],[]⟩) (λ_ R s=>s.heap.get? p=some (q09 [.bytes x t,.bytes y u] n)∧x.size+y.size≤sizeLine∧∀t' k,R (.ok (.ret (.bytes (x++y) t'))) {s with toks:=k}):=by
 refine .of_wp λprog w A R s h=>?_
 refine X0x3 h ?_;clear h;intro hp hz h
 have hT:s.TypeIs (.ref p) "list":=⟨_,hp,rfl⟩
 show wpAny _ _ (Bytes.joinItems (.ref p)>>=λr=>_) _ _ s
 unfold Bytes.joinItems
 refine Z0 (Z0 (wpAny_typeOf hT ?_))
 refine wpAny_ite (KBc.ite_yes (by decide) ?_)
 refine Z3 ?_
 refine Z0 (wpAny_seqItems hp rfl ?_)
 show wpAny _ _ (forIn (Std.Legacy.Range.mk 0 2 1 (by decide)) _ _>>=_) _ _ s
 rw[Std.Legacy.Range.forIn_eq_forIn_range']
 refine Z0 ?_
 show wpAny _ _ (forIn [0,1] _ _) _ _ s
 rw[List.forIn_cons]
 refine Z0 ?_
 refine Z0 (wpAny_seqItems hp rfl ?_)
 show wpAny _ _ (holding _ (Bytes.takeBufferQuiet? _ (.bytes x t) 0)>>=_) _ _ s
 refine Z0 (wpAny_holding (wpAny_of_eq take_eq ?_))
 refine Z0 (wpAny_seqItems hp rfl ?_)
 refine wpAny_ite (KBy.ite_no (by show ¬((2:Nat) != 2)=true;decide) ?_)
 refine Z3 ?_
 show wpAny _ _ (forIn [1] _ _) _ _ s
 rw[List.forIn_cons]
 refine Z0 ?_
 refine Z0 (wpAny_seqItems hp rfl ?_)
 show wpAny _ _ (holding _ (Bytes.takeBufferQuiet? _ (.bytes y u) 0)>>=_) _ _ s
 refine Z0 (wpAny_holding (wpAny_of_eq take_eq ?_))
 refine Z0 (wpAny_seqItems hp rfl ?_)
 refine wpAny_ite (KBy.ite_no (by show ¬((2:Nat) != 2)=true;decide) ?_)
 refine Z3 ?_
 show wpAny _ _ (pure _) _ _ s
 refine Z3 ?_
 show wpAny _ _ (Bytes.payload (.bytes #[] t0)>>=_) _ _ s
 refine Z0 (wpAny_of_eq (a:=#[]) rfl ?_)
 refine wpAny_ite (KBy.ite_no ?_ ?_)
 ·show ¬(Bytes.tooLong (0+x.size+y.size)=true)
  unfold Bytes.tooLong
  rw[decide_eq_false (by lia)]
  exact Bool.false_ne_true
 have ej:Bytes.joined #[] [x,y]=x++y:=by
  simp[Bytes.joined]
 show wpAny _ _ (Bytes.Kind.bytes.new (Bytes.joined #[] [x,y])>>=_) _ _ s
 rw[ej]
 show wpAny _ _ (mkBytes (x++y)>>=_) _ _ s
 refine Z0 (wpAny_mkBytes ?_ (by rw[Array.size_append];exact hz))
 refine Z0 (wpAny_holding (wpAny_point ?_))
 show wpAny _ _ (Bytes.joinLetGo [(.bytes x t,none),(.bytes y u,none)] [.bytes (x++y) s.toks]>>=_) _ _ _
 refine Z0 ?_
 show wpAny _ _ (do letGo _ _;Bytes.joinLetGo _ _) _ _ _
 refine Z0 (wpAny_letGo ?_)
 show wpAny _ _ (do letGo _ _;Bytes.joinLetGo _ _) _ _ _
 refine Z0 (wpAny_letGo ?_)
 show wpAny _ _ (pure ()) _ _ _
 exact Z3 (Z3 ⟨_,rfl,h _ _⟩)
end FA
namespace FA
theorem owner_y:Manifest.owners.lookup (String.ofList ['s','e','t','y','b'].reverse)=some Manifest.sig_bytes:=by kernel_rfl
theorem args_dec2(a b:Value):argsOk "bytes.decode" ⟨[a,b],[]⟩:=by
 unfold argsOk;rw[signature?_of (id:="bytes.decode") (n:=['e','d','o','c','e','d']) (o:=['s','e','t','y','b']) (by kernel_rfl) owner_y];kernel_rfl
theorem args_join(a b:Value):argsOk "bytes.join" ⟨[a,b],[]⟩:=by
 unfold argsOk;rw[signature?_of (id:="bytes.join") (n:=['n','i','o','j']) (o:=['s','e','t','y','b']) (by kernel_rfl) owner_y];kernel_rfl
theorem entry_join:entryFor table "bytes.join"=some Builtin.«bytes.join»:=entryFor_of_tree (by kernel_rfl)
end FA
theorem q6u{α:Type}{l:List α}(h:Nat.beq (len l) 2=true):∃a b,l=[a,b]:=by
 have h:=Z9 h
 rw[q0o] at h
 cases l with
 |nil=>exact nomatch h
 |cons a l=>cases l with
  |nil=>exact nomatch h
  |cons b l=>cases l with
   |nil=>exact⟨a,b,rfl⟩
   |cons=>exact nomatch h
section
variable{B:Base}{W:Wd}{fs:List Nat}{σ τ:S}{s:Shared}{A:Around}{E:Value→Shared→Prop}{kv:KV}{x:SV}{xs:List SV}{u:Value}{vs:List Value}
theorem qbu(hk:q1h σ x=some 2):∃l,x=.str l:=by
 cases x with
 |str l=>exact⟨l,rfl⟩
 |own j=>
  refine q02 (show oO (σ.get j) q3I=some 2 from hk) ?_;intro o _ h
  cases o<;>first|(cases h)|(exact zN h)
 |_=>first|(exact zN hk)|(cases hk)
theorem q7p(hk:q1h σ x=some 3):∃l,x=.bytes l:=by
 cases x with
 |bytes l=>exact⟨l,rfl⟩
 |own j=>
  refine q02 (show oO (σ.get j) q3I=some 3 from hk) ?_;intro o _ h
  cases o<;>first|(cases h)|(exact zN h)
 |_=>first|(exact zN hk)|(cases hk)
theorem q69{e:List Nat}{v:Value}(h:nlEq e q1Z=true)(hv:VR W (.str e) v):∃t,v=.str ⟨#[97,115,99,105,105]⟩ t:=by
 rw[q2T] at h
 have h:=of_decide_eq_true h
 subst h
 refine X1x2 hv ?_;clear hv;intro t o1 _;subst o1
 exact⟨t,rfl⟩
theorem qbl(R:Rel B W fs σ s)(hk:q1h σ x=some 2)(hx:VR W x u)(ha:VRs W xs vs)(h:meth σ x 6 xs kv=true):wpAny (model B.prog B.w) A (call (.builtin "str.encode") (u::vs)) (PQ B W fs (QV kv)) E s:=by
 refine X1x1 (qbu hk) ?_;intro l o1;subst o1
 refine X2x4 (q0S (show arg1 xs (λe=>oB (sOf e) (λe=>bi (nlEq e q1Z) (bi (Nat.beq (len l) 2) (qaq l (λb=>kv (.bytes b) σ)) false) false))=true from h) ha) ?_;intro e v o1 o2 he h1;subst o1;subst o2
 refine q00 h1 ?_;intro w h2 h3
 refine q06 h3 ?_;intro h4 h5
 refine q06 h5 ?_;intro h6 h7
 refine X2x1 (q6u h6) ?_;intro a b o1;subst o1
 rw[q0X h2] at he
 refine X1x1 (q69 h4 he) ?_;intro t o1;subst o1
 refine X1x2 hx ?_;clear hx;intro t' o1 _;subst o1
 refine q06 (show bi (dig a) (bi (dig b) (kv (.bytes [.lit (.ofNat a),.lit (.ofNat b)]) σ) false) false=true from h7) ?_;intro h8 h9
 refine q06 h9 ?_;intro h10 h11
 have d8:=FA.digC (P:=λn=>n<128) (by decide) (by decide) (by decide) (by decide) (by decide) (by decide) (by decide) (by decide) (by decide) (by decide) h8
 have d10:=FA.digC (P:=λn=>n<128) (by decide) (by decide) (by decide) (by decide) (by decide) (by decide) (by decide) (by decide) (by decide) (by decide) h10
 refine call_meets PySem.F.slot_str_encode (typeIs_str _ _ _) PySem.F.entry_str_encode (PySem.F.args_str_encode_2 _ _) (FA.meets_enc h8 h10 t' t) ?_
 refine PQ.tok R (qv (x:=.bytes [.lit (.ofNat a),.lit (.ofNat b)]) ⟨_,_,rfl,.cons ?_ (.cons ?_ .nil),show 2≤4096 by decide⟩ h11)
 ·show ((a.toUInt8.toNat:Nat):Int)=(a:Int)
  simp only[Nat.toUInt8,UInt8.toNat_ofNat'];lia
 ·show ((b.toUInt8.toNat:Nat):Int)=(b:Int)
  simp only[Nat.toUInt8,UInt8.toNat_ofNat'];lia
theorem qbm(R:Rel B W fs σ s)(hk:q1h σ x=some 3)(hx:VR W x u)(ha:VRs W xs vs)(h:meth σ x 7 xs kv=true):wpAny (model B.prog B.w) A (call (.builtin "bytes.decode") (u::vs)) (PQ B W fs (QV kv)) E s:=by
 refine X1x1 (q7p hk) ?_;intro l o1;subst o1
 refine X2x4 (q0S (show arg1 xs (λe=>oB (sOf e) (λe=>bi (nlEq e q1Z) (bi (Nat.beq (len l) 2) (qap l (λb=>kv (.str b) σ)) false) false))=true from h) ha) ?_;intro e v o1 o2 he h1;subst o1;subst o2
 refine q00 h1 ?_;intro w h2 h3
 refine q06 h3 ?_;intro h4 h5
 refine q06 h5 ?_;intro h6 h7
 refine X2x1 (q6u h6) ?_;intro a b o1;subst o1
 rw[q0X h2] at he
 refine X1x1 (q69 h4 he) ?_;intro t o1;subst o1
 refine X2x3 hx ?_;clear hx;intro q t' o1 hq _;subst o1
 refine q00 (show oB (oO (q48 a) q2j) (λc=>bi (dig c) (oB (oO (q48 b) q2j) (λd=>bi (dig d) (kv (.str [c,d]) σ) false)) false)=true from h7) ?_;intro c h8 h9
 refine q06 h9 ?_;intro h10 h11
 refine q00 h11 ?_;intro d h12 h13
 refine q06 h13 ?_;intro h14 h15
 have lit:∀{i:SI}{n:Nat}{y:UInt8},oO (q48 i) q2j=some n→i.is W.ν (y.toNat:Int)→y.toNat=n:=λ{i n y} h hi=>by
  refine q02 h ?_;intro z k1 k2
  have k2:=q1o k2
  cases i with
  |lit z'=>
   have k1:z'=z:=Z6 k1
   have hi:(y.toNat:Int)=z':=hi
   lia
  |var _ _=>exact zN k1
 obtain⟨q⟩:=q
 refine X2x3 hq.two ?_;intro y1 y2 eq hy1 hy2
 have eq:q=[y1,y2]:=eq
 subst eq
 have e1:=lit h8 hy1
 have e2:=lit h12 hy2
 subst e1 e2
 exact call_meets FB.slot_bytes_decode (typeIs_bytes _ _ _) FB.entry_bytes_decode (FA.args_dec2 _ _) (FA.meets_dec h10 h14 t' t) λt' k=>PQ.tok R (qv (x:=.str [y1.toNat,y2.toNat]) ⟨_,rfl,show 2≤4096 by decide⟩ h15)
theorem qfQ(R:Rel B W fs σ s)(hk:q1h σ x=some 3)(hx:VR W x u)(ha:VRs W xs vs)(h:meth σ x 8 xs kv=true):wpAny (model B.prog B.w) A (call (.builtin "bytes.join") (u::vs)) (PQ B W fs (QV kv)) E s:=by
 refine X1x1 (q7p hk) ?_;intro l o1;subst o1
 refine q06 (show bi (q0s l) (arg1 xs (λv=>oB (q0N σ v) (λl=>bi (Nat.beq (len l) 2) (qge l (λb=>q6z kv σ b)) false))) false=true from h) ?_;intro h0 h'
 refine X2x4 (q0S h' ha) ?_;intro e v o1 o2 he h1;subst o1;subst o2
 refine q00 h1 ?_;intro m h2 h3
 refine q06 h3 ?_;intro h4 h5
 refine R.lst_E11 h2 he ?_;intro k p ws n _ e1 e2 o1 e3 hws _;subst o1
 refine X2x1 (q6u h4) ?_;intro a b o1;subst o1
 refine q00 (show oB (yOf a) (λx=>oB (yOf b) (λy=>catK y [] (λr=>catK x r (λb=>q6z kv σ b))))=true from h5) ?_;intro ya h6 h7
 refine q00 h7 ?_;intro yb h8 h9
 rw[q1b,q1b,List.append_nil] at h9
 refine q06 h9 ?_;intro h10 h11
 rw[q0x h6,q0x h8] at hws
 refine X2x3 hws.two ?_;intro va vb o1 ha' hb';subst o1
 refine X2x3 ha' ?_;clear ha';intro qa ta o1 ka _;subst o1
 refine X2x3 hb' ?_;clear hb';intro qb t2 o1 kb _;subst o1
 refine X2x3 hx ?_;clear hx;intro q0 t0 o1 k0 _;subst o1
 have hl:l=[]:=by cases l with|nil=>rfl|cons _ _=>exact zF h0
 subst hl
 have hq0:q0=#[]:=by
  obtain⟨q0⟩:=q0
  cases k0;rfl
 subst hq0
 have hsz:=q0A h10
 have sa:qa.size=ya.length:=by simpa using ka.length
 have sb:qb.size=yb.length:=by simpa using kb.length
 refine call_meets q1L (typeIs_bytes _ _ _) FA.entry_join (FA.args_join _ _) (FA.meets_join (n:=n)) ⟨e3,by rw[sa,sb];rw[List.length_append] at hsz;exact q0i hsz,λt' k=>PQ.tok R (qv (x:=.bytes (ya++yb)) ⟨_,_,rfl,?_,hsz⟩ h11)⟩
 rw[Array.toList_append]
 exact ka.app kb
end
theorem qhd{B:Base}:qgQ B:=λt i n W fs A σ s x xs u vs kv E hb O R hk hx ha h=>by
 refine q06 hb ?_;intro h1 h2
 have h1:=Nat.blt_eq.mp h1
 have h2:=q22 h2
 have h2:t*16+i∈[0,1,2,3,4,21,18,20,38,55,56]:=h2
 simp only[List.mem_cons,List.not_mem_nil,or_false] at h2
 focus (refine Z4 h2 ?_ ?_;rotate_left;clear h2;intro o1;refine Z4 o1 ?_ ?_;rotate_left;clear o1;intro o2;refine Z4 o2 ?_ ?_;rotate_left;clear o2;intro o3;refine Z4 o3 ?_ ?_;rotate_left;clear o3;intro o4;refine Z4 o4 ?_ ?_;rotate_left;clear o4;intro o5;refine Z4 o5 ?_ ?_;rotate_left;clear o5;intro o6;refine Z4 o6 ?_ ?_;rotate_left;clear o6;intro o7;refine Z4 o7 ?_ ?_;rotate_left;clear o7;intro o8;refine Z4 o8 ?_ ?_;rotate_left;clear o8;intro o9;refine Z4 o9 (λh2=>?_) λh2=>?_;rotate_right;clear o8;intro h2;rotate_right;clear o7;intro h2;rotate_right;clear o6;intro h2;rotate_right;clear o5;intro h2;rotate_right;clear o4;intro h2;rotate_right;clear o3;intro h2;rotate_right;clear o2;intro h2;rotate_right;clear o1;intro h2;rotate_right;clear h2;intro h2)
 ·obtain⟨rfl,rfl⟩:t=0∧i=0:=dm h2 h1
  exact q7k R hk hx ha h
 ·obtain⟨rfl,rfl⟩:t=0∧i=1:=dm h2 h1
  exact qbk R hk hx ha h
 ·obtain⟨rfl,rfl⟩:t=0∧i=2:=dm h2 h1
  exact qhg R hk hx ha h
 ·obtain⟨rfl,rfl⟩:t=0∧i=3:=dm h2 h1
  exact qdE R hk hx ha h
 ·obtain⟨rfl,rfl⟩:t=0∧i=4:=dm h2 h1
  exact qdF R hk hx ha h
 ·obtain⟨rfl,rfl⟩:t=1∧i=5:=dm h2 h1
  exact qhh R hk hx ha h
 ·obtain⟨rfl,rfl⟩:t=1∧i=2:=dm h2 h1
  exact qfR R hk hx ha h
 ·obtain⟨rfl,rfl⟩:t=1∧i=4:=dm h2 h1
  exact qbn R hk hx ha h
 ·obtain⟨rfl,rfl⟩:t=2∧i=6:=dm h2 h1
  exact qbl R hk hx ha h
 ·obtain⟨rfl,rfl⟩:t=3∧i=7:=dm h2 h1
  exact qbm R hk hx ha h
 ·obtain⟨rfl,rfl⟩:t=3∧i=8:=dm h2 h1
  exact qfQ R hk hx ha h
section
variable{B:Base}{n:Nat}{W:Wd}{fs:List Nat}{σ:S}{s:Shared}{A:Around}{E:Value→Shared→Prop}{kv:KV}{xs:List SV}{vs:List Value}
theorem q1E{a b:Nat}{t f:Bool}(h:bi (Nat.beq a b) t f=true):(a=b∧t=true)∨f=true:=by
 refine Z4 (q1c h) (λo2=>X0x2 o2 λe h=>?_) λo1=>X0x2 o1 λ_ h=>?_
 ·exact .inl ⟨Z9 e,h⟩
 ·exact .inr h
theorem qel{id:Nat}(O:AOk B n W fs A)(R:Rel B W fs σ s)(ha:VRs W xs vs)(h:bfun tb σ id xs kv=true):wpG (model B.prog B.w) A (call (.builtin (biNm id)) vs) (PQ B W fs (QV kv)) E s:=by
 have hA:=O.handled
 focus (refine Z4 (q2J h ha) ?_ ?_;rotate_left;intro o1;refine X4x5 o1 ?_;clear o1;intro x y v w o2 o3 hx hy h;subst o2;subst o3;rotate_right;intro o4;refine X2x4 o4 ?_;clear o4;intro x v o5 o6 hx h;subst o5;subst o6)
 ·refine Z4 (q1E h) ?_ (λh=>?_);intro o1;refine X0x2 o1 ?_;clear o1;intro o2 h;subst o2
  ·exact toG (qgH R hx h)
  refine Z4 (q1E h) ?_ (λh=>?_);intro o1;refine X0x2 o1 ?_;clear o1;intro o2 h;subst o2
  ·exact toG (qgJ R hx h)
  refine Z4 (q1E h) ?_ (λh=>?_);intro o1;refine X0x2 o1 ?_;clear o1;intro o2 h;subst o2
  ·exact toG (qam R hA (by have:=O.units;have e:cLine=9900:=rfl;lia) hx h)
  refine Z4 (q1E h) ?_ (λh=>?_);intro o1;refine X0x2 o1 ?_;clear o1;intro o2 h;subst o2
  ·exact toG (qgG R hA hx h)
  ·exact zF h
 ·refine Z4 (q1E h) ?_ (λh=>?_);intro o1;refine X0x2 o1 ?_;clear o1;intro o2 h;subst o2
  ·exact toG (qem R hA hx hy h)
  refine Z4 (q1E h) ?_ (λh=>?_);intro o1;refine X0x2 o1 ?_;clear o1;intro o2 h;subst o2
  ·exact toG (qgI R hx hy h)
  ·exact zF h
theorem qeh{id:Nat}(O:AOk B n W fs A)(R:Rel B W fs σ s)(ha:VRs W xs vs)(h:btyp tb σ id xs kv=true):wpG (model B.prog B.w) A (call (.type (tyNm id)) vs) (PQ B W fs (QV kv)) E s:=by
 have hA:=O.handled
 focus (refine Z4 (q2J h ha) ?_ ?_;rotate_left;intro o1;refine X4x5 o1 ?_;clear o1;intro x y v w o2 o3 hx hy h;subst o2;subst o3;rotate_right;intro o4;refine X2x4 o4 ?_;clear o4;intro x v o5 o6 hx h;subst o5;subst o6)
 ·refine Z4 (q1E h) ?_ (λh=>?_);intro o1;refine X0x2 o1 ?_;clear o1;intro o2 h;subst o2
  ·exact toG (qbP R hA hx h)
  refine Z4 (q1E h) ?_ (λh=>?_);intro o1;refine X0x2 o1 ?_;clear o1;intro o2 h;subst o2
  ·exact toG (qaj R hx h)
  refine Z4 (q1E h) ?_ (λh=>?_);intro o1;refine X0x2 o1 ?_;clear o1;intro o2 h;subst o2
  ·exact toG (qbO R hx h)
  refine Z4 (q1E h) ?_ (λh=>?_);intro o1;refine X0x2 o1 ?_;clear o1;intro o2 h;subst o2
  ·exact toG (qei R hx h)
  refine Z4 (q1E h) ?_ (λh=>?_);intro o1;refine X0x2 o1 ?_;clear o1;intro o2 h;subst o2
  ·exact qej R O.guards hx h
  ·exact zF h
 ·refine Z4 (q1E h) ?_ (λh=>?_);intro o1;refine X0x2 o1 ?_;clear o1;intro o2 h;subst o2
  ·exact toG (qai R hx hy h)
  ·exact zF h
end
structure Facts(B:Base):Prop where
 fn:∀a f,funs.fn.get a=some f→∃fd o,FnOk B f fd∧CodeAt B fd∧B.K.lookup a=some o∧o.data=.func fd∧f.params.length≤60
 tm:∀i f,funs.tm.get i=some f→∀fd,B.fnOk i fd→TmOk B f fd
 cls:∀C c,tb.cl C=some c→c.isExc=false→makesIn B.K C=true∧findIn B.K (.ref C) "__init__"=some (some (.ref c.init))∧isFn B.K (.ref c.init)=true
 ini:∀C c,tb.cl C=some c→∃f,funs.fn.get c.init=some f
 keep:∀a,((∃f,funs.fn.get a=some f)∨∃c,tb.cl a=some c)→keepIn B.K (.ref a)=true
section
variable{B:Base}{n:Nat}{W:Wd}{fs:List Nat}{σ:S}{s:Shared}{A:Around}
theorem q7q(R:Rel B W fs σ s){f:Value}(h:keepIn B.K f=true):Keeps B f s:=λA Q E hA hq=>by
 refine X1x2 (looks_keep (M:=model B.prog B.w) h R.kin) ?_;intro k _ L
 exact L.at (hq k)
theorem q9F(R:Rel B W fs σ s){j i:Nat}{cs:List (Nat×Nat)}(hj:σ.get j=some (.fn i cs)){u:Value}(hu:VR W (.own j) u):Keeps B u s:=λA Q E hA hq=>by
 refine X1x2 hu ?_;clear hu;intro p hp o1;subst o1
 refine X2x4 (R.objs _ _ _ hj hp) ?_;intro o fd e1 e2 e3 _
 unfold keeperOf
 refine Z0 (wpAny_load e1 ?_)
 rw[e3]
 exact Z3 (hq _)
noncomputable abbrev q29(C:Addr)(vs:List Value):Code:=.builtin "type.__call__" ⟨.ref C::vs,[]⟩
theorem q8P(C:Addr)(vs:List Value):(q29 C vs).weight=1:=by kernel_rfl
theorem qaP(C:Addr)(vs:List Value):(q29 C vs).cUnits=1:=by kernel_rfl
theorem q8Q(C:Addr)(vs:List Value):(q29 C vs).guards=[]:=by kernel_rfl
theorem qcJ(C:Addr)(vs:List Value):(q29 C vs).envs=[]:=by kernel_rfl
theorem qaL{C:Addr}{vs:List Value}(O:AOk B (n+1) W fs A):AOk B n W fs (A.under (q29 C vs)):=by
 have:=O.depth
 have:=O.units
 refine⟨O.handled,?_,?_,?_,?_⟩
 ·show A.depth+(q29 C vs).weight+2*n≤900
  rw[q8P];lia
 ·show A.units+(q29 C vs).cUnits+20*n≤9000
  rw[qaP];lia
 ·show pushGuards (q29 C vs).guards A.guards=some []
  rw[q8Q];exact O.guards
 ·show ∃FE,pushEnvs (q29 C vs).envs A.frames=some FE∧_
  rw[qcJ];exact O.frames
theorem qgA(F:Facts B)(hL:q2n B){m:Nat}{call:q1A}(hC:q38 B m call)(hcl:call=q16 tb funs m){C:Addr}{c:Cls}(hc:tb.cl C=some c)(O:AOk B (m+2) W fs A)(R:Rel B W fs σ s){as:List SV}{vs:List Value}(ha:VRs W as vs){kx:KX}{kv:KV}{fa:Addr}
  (h:q6L (q16 tb funs (m+1)) C as σ kx kv c=true):wpG (model B.prog B.w) A (PySem.call (.ref C) vs) (PQ B W fs (QV kv)) (QE B W fs fa kx) s:=by
 subst hcl
 obtain⟨i0,ms0,dt0,ex0⟩:=c
 refine X1x1 (F.ini C _ hc) ?_;intro f hf
 replace h:σ.addK (bi ex0 (.exc C none) (.inst C [])) (λn σ=>qed tb funs (q16 tb funs m) (.old i0) (.own n::as) σ kx (λv σ=>bi (isNone v) (kv (.own n) σ) false))=true:=h
 refine S.addK_true_E3 h ?_;intro τ AA h
 replace h:oE (funs.fn.get i0) _ (λf=>q4F (q16 tb funs m) f (.own σ.n::as) τ kx (λv σ'=>bi (isNone v) (kv (.own σ.n) σ') false))=true:=h
 have hf:funs.fn.get i0=some f:=hf
 rw[hf] at h
 have hcall:q4F (q16 tb funs m) f (.own σ.n::as) τ kx (λv σ'=>bi (isNone v) (kv (.own σ.n) σ') false)=true:=h
 clear h
 refine X2x5 (F.fn _ _ hf) ?_;intro fd o hF hcode hK hd hps
 have O':∀{W':Wd}{vs:List Value},W.le W'→AOk B (m+1) W' fs (A.under (q29 C vs)):=λl=>AOk.mono l (qaL O)
 have hlen:vs.length≤sizeLine:=by
  obtain⟨ps,dflt,body,cells⟩:=f
  refine X0x3 (q3j (show zipK ps (.own σ.n::as) dflt (λbs=>q3e cells bs (λlo=>τ.pushK lo (λσ'=>q4D bs cells σ' (λcs σ'=>q1X (q16 tb funs m) body cs σ' kx (λv σ'=>bi (isNone v) (kv (.own σ.n) σ') false)))))=true from hcall)) ?_;intro l1 _ _
  have hps:ps.length≤60:=hps
  simp only[List.length_cons] at l1
  rw[ha.length]
  exact q0i (by lia)
 have fin:∀{W₁:Wd}{x:Addr}{r:Result}{s':Shared},W.le W₁→W₁.ρ[σ.n]?=some ⟨x,[]⟩∨(∃y,W₁.ρ[σ.n]?=some ⟨x,y⟩)→(match r with|.ok (.ret v)=>PQ B W₁ fs (QV λv σ'=>bi (isNone v) (kv (.own σ.n) σ') false) v s'|.ok _=>False|.error e=>QE B W₁ fs fa kx e s')→
   InitBack x (λr s'=>match r with|.ok (.ret v)=>PQ B W fs (QV kv) v s'|.ok _=>False|.error e=>QE B W fs fa kx e s') r s':=λ{W₁}{x}{r}{s'} l hp z=>by
  have hp:∃y,W₁.ρ[σ.n]?=some ⟨x,y⟩:=hp.elim (λh=>⟨_,h⟩) id
  refine X1x1 hp ?_;clear hp;intro y hp
  rcases r with e|(v|_|_|_)
  ·exact QE.weaken l z
  ·exact z.elim
  ·exact z.elim
  ·exact z.elim
  ·refine z.kE7 ?_;clear z;intro W₂ σ₂ l₂ R₂ x' hx h₂
   refine q06 h₂ ?_;intro h3 h4
   rw[q1w h3] at hx
   exact⟨hx,W₂,σ₂,l.trans l₂,R₂,qv (q12 (p:=⟨x,y⟩) (q0a l₂.ρ hp)) h4⟩
 obtain⟨hp,g,d,tk,os⟩:=s
 cases ex0 with
 |false=>
  refine X0x3 (F.cls C _ hc rfl) ?_;intro hm hi hfn
  have gr:Grows hp ((hp.push PySem.W.emptyDict).push (instObj C hp.objs.size)):=⟨λb o e=>Z5 _ (Z5 _ e)⟩
  have g1:((hp.push PySem.W.emptyDict).push (instObj C hp.objs.size)).get? (hp.objs.size+1)=some (instObj C hp.objs.size):=by heap_get
  have g2:((hp.push PySem.W.emptyDict).push (instObj C hp.objs.size)).get? hp.objs.size=some PySem.W.emptyDict:=Z5 _ (Zb _ rfl)
  have R':Rel B (W.add ⟨hp.objs.size+1,[hp.objs.size]⟩) fs τ ⟨(hp.push PySem.W.emptyDict).push (instObj C hp.objs.size),g,d,tk,os⟩:=R.new AA gr (λu hu=>by
   refine Z4 (List.mem_cons.mp hu) ?_ (λhu=>?_);rintro rfl
   ·exact⟨Nat.le_succ _,_,g1⟩
   ·rw[List.mem_singleton.mp hu];exact⟨Nat.le_refl _,_,g2⟩) ⟨hp.objs.size,[],0,⟨_,hc,rfl⟩,rfl,g1,g2,.nil,by decide⟩ rfl rfl
  refine q0W (qhf (makes_of R.kin hm) (looks_findIn R.kin hi) (λself=>bind_fn R.kin self (by unfold isFn at hfn;simpa using hfn)) (by rfl) ?_)
  exact q0V (q6D hL hC hF hcode hK hd (O' (W.le_add _)) R' (.cons (q12 (R.add_at _)) (VRs.mono (W.le_add _) ha)) hcall) λr s' z=>fin (W.le_add _) (.inr ⟨_,R.add_at _⟩) z
 |true=>
  have gr:Grows hp ((hp.push (q1C vs)).push (q1f C hp.objs.size)):=⟨λb o e=>Z5 _ (Z5 _ e)⟩
  have g1:((hp.push (q1C vs)).push (q1f C hp.objs.size)).get? (hp.objs.size+1)=some (q1f C hp.objs.size):=by heap_get
  have R':Rel B (W.add ⟨hp.objs.size+1,[]⟩) fs τ ⟨(hp.push (q1C vs)).push (q1f C hp.objs.size),g,d,tk,os⟩:=R.new AA gr (λu hu=>by
   refine Z4 (List.mem_cons.mp hu) ?_ (λhu=>?_);rintro rfl
   ·exact⟨Nat.le_succ _,_,g1⟩
   ·cases hu) ⟨_,_,_,none,⟨_,hc,rfl⟩,g1,rfl,rfl,rfl,rfl⟩ rfl rfl
  refine q0W (excG R.kin (B.exc C _ hc rfl) hlen ?_)
  exact q0V (q6D hL hC hF hcode hK hd (O' (W.le_add _)) R' (.cons (q12 (R.add_at _)) (VRs.mono (W.le_add _) ha)) hcall) λr s' z=>fin (W.le_add _) (.inl (R.add_at _)) z
theorem q5b(F:Facts B)(hL:q2n B):∀n,q38 B n (q16 tb funs n)
 |0=>λf xs σ kx kv W fs A fv vs s fa O R hf ha h=>by exact zF h
 |m+1=>λf xs σ kx kv W fs A fv vs s fa O R hf ha h=>by
  have ih:=q5b F hL m
  have h:qed tb funs (q16 tb funs m) f xs σ kx kv=true:=h
  cases f with
  |ty id=>
   have hf:fv=.type (tyNm id):=hf
   subst hf
   exact⟨q0U,qeh O R ha h⟩
  |bi id=>
   have hf:fv=.builtin (biNm id):=hf
   subst hf
   exact⟨q15,qel O R ha h⟩
  |old a=>
   have hf:fv=.ref a:=hf
   subst hf
   refine Z4 (q0f (show oE (funs.fn.get a) (oB (tb.cl a) (q6L (q16 tb funs m) a xs σ kx kv)) (λf=>q4F (q16 tb funs m) f xs σ kx kv)=true from h)) (λo2=>X0x2 o2 λ_ h=>?_) λo1=>X1x2 o1 λf hf h=>?_
   ·refine q00 h ?_;intro c hc h
    refine⟨q7q R (F.keep a (.inr ⟨c,hc⟩)),?_⟩
    cases m with
    |zero=>
     obtain⟨i0,ms0,dt0,ex0⟩:=c
     have h:σ.addK (bi ex0 (.exc a none) (.inst a [])) (λn σ=>false)=true:=h
     refine S.addK_true_E3 h ?_;intro _ _ h
     exact zF h
    |succ m=>exact qgA F hL (q5b F hL m) rfl hc O R ha h
   ·refine X2x5 (F.fn _ _ hf) ?_;intro fd o hF hcode hK hd _
    exact⟨q7q R (F.keep a (.inl ⟨f,hf⟩)),qhm hL ih hF hcode hK hd O R ha h⟩
  |own j=>
   refine q00 (show oB (oO (σ.get j) fnOf) (λp=>@Prod.rec Nat (List (Nat×Nat)) (λ_=>Bool) (λi cs=>oB (funs.tm.get i) (qae (q16 tb funs m) cs xs σ kx kv)) p)=true from h) ?_;intro o1 hp h;obtain⟨i,cs⟩:=o1
   refine q02 hp ?_;intro o hj h2
   rw[q9V h2] at hj
   refine q00 h ?_;intro f hf' h
   exact⟨q9F R hj hf,qgS hL ih (F.tm i f hf') O R hj hf ha h⟩
  |_=>exact zF h
end
end
section
open PySem PySem.W
open PyProof PyProof.Rows
variable{B:Base}{A:Around}{env:Env}{E:Value→Shared→Prop}{s:Shared}{f:Str→Option Value}
theorem q2z{x:Str}{u:Value}{pos:Pos}{Q:Value→Shared→Prop}(hk:env.scope.kind=.function)(hl:env.scope.names.lookup x=some .local)(hn:s.heap.Ns env.locals f)(hu:f x=some u)(hq:Q u s)(hd:(x==("__debug__":Str))=false) :
  wpAny (model B.prog B.w) A (eval (.Name x pos) env) Q E s:=
 wpAny_Name (wpAny_loadName_local hk (by unfold Env.kindOf;exact hl) hn hu hq) hd
theorem qcd{x:Str}{a:Addr}{vs:List Value}{m:Nat}{j:Nat}{u:Value}{np cp pos:Pos}{k:Nat}{Q:Value→Shared→Prop}(hk:env.scope.kind=.function)(hl:env.scope.names.lookup x=some .local)(hn:s.heap.Ns env.locals f)(hu:f x=some (.ref a))
  (ha:s.heap.get? a=some (q09 vs m)) (hj:vs[j]?=some u) (hsm:j<1000) (hq:∀t,Q u {s with toks:=t}) (hd:(x==("__debug__":Str))=false) :
  wpAny (model B.prog B.w) A (eval (.Subscript (.Name x np) (.Constant (.int j) k cp) pos) env) Q E s:=by
 rw[eval_Subscript]
 refine Z0 (q2z hk hl hn hu ?_ hd)
 refine Z0 (wpAny_holding (wpAny_Constant_int ?_))
 refine Z0 (wpAny_standAt ?_)
 refine q1K (λo i=>.inl rfl) ⟨"list",_,list_getitem_lookup,⟨_,ha,rfl⟩⟩ ?_
 exact wpAny_getItem_list (q0b ha) (by lia) (by lia) (by simpa using hj) (hq _)
theorem q8s{o:Expr}{i:Int}{k:Nat}{cp pos:Pos}{env:Env}{v:Value}:assign (.Subscript o (.Constant (.int i) k cp) pos) env v=(do
  let ov ←holding [v] (eval o env)
  let iv ←holding [v,ov] (eval (.Constant (.int i) k cp) env)
  standAt pos
  holding [v,ov,iv] (PySem.setItem ov iv v)
  release [v,ov,iv] []):=rfl
theorem qaZ{s:Shared}{a:Addr}{vs:List Value}{m:Nat}{i:Int}{j:Nat}{v:Value}{t:Tok}{Q:Unit→Shared→Prop}(ha:s.heap.get? a=some (q09 vs m))(hi:i=(j:Int))(hj:j<vs.length)(hsm:Builtin.List.listFitsIndex i=true)
  (hq:∀h' n',Heap.SameBut a s.heap h'→h'.get? a=some (q09 (vs.set j v) n')→Q () {s with heap:=h'}):wpAny (model B.prog B.w) A (PySem.setItem (.ref a) (.int i t) v) Q E s:=by
 unfold PySem.setItem
 try with_reducible refine wpAny_holding ?_
 first|refine Z0 (Z3 ?_)|skip
 refine Z0 (wpAny_sequenceKey (q0b ha).typeIs (by decide) ?_)
 refine Z0 (wpAny_callSpecial?_slot (name:=Str.ofString "__setitem__") (q0b ha).typeIs slot_list_setitem
  (wpAny_call_entry slot_list_setitem (q0b ha).typeIs entry_list_setitem ?_ (args_list_setitem _ _ _)))
 show wpAny _ _ (Builtin.List.listSubscript? (.int i t)>>=_) _ _ s
 refine Z0 (wpAny_listSubscript_int hsm ?_)
 clear hsm
 subst hi
 have hj':j<vs.toArray.size:=by simpa using hj
 have hx':vs.toArray[j]?=some vs.toArray[j]:=Array.getElem?_eq_getElem hj'
 show wpAny _ _ ((seqItemAt a j>>=λr=>pure (r.map (j,·)))>>=_) _ _ s
 refine Z0 (Z0 (wpAny_seqItemAt ha rfl (Z3 ?_)))
 rw[hx']
 show wpAny _ _ (setSeqItemAt a j v>>=_) _ _ s
 refine Z0 (wpAny_setSeqItemAt ha rfl ?_)
 have fin:Q () {s with heap:=s.heap.update a (Obj.mapSeq (·.setIfInBounds j v))}:=hq _ _ (Heap.SameBut.update _ _ _) ((Zc _ ha rfl).trans (by
  show some (Obj.mapSeq (·.setIfInBounds j v) (q09 vs m))=some (q09 (vs.set j v) _)
  unfold q09 Obj.mapSeq
  simp only[List.setIfInBounds_toArray]
  rfl))
 first
  |exact Z0 (Z3 (Z3 ⟨.none,rfl,Z3 fin⟩))
  |exact Z3 ⟨.none,rfl,Z3 fin⟩
theorem qdq{x:Str}{a:Addr}{vs:List Value}{m:Nat}{i:Int}{j:Nat}{v:Value}{np cp pos:Pos}{k:Nat}{Q:Unit→Shared→Prop}(hk:env.scope.kind=.function)(hl:env.scope.names.lookup x=some .local)(hn:s.heap.Ns env.locals f)(hu:f x=some (.ref a))
  (ha:s.heap.get? a=some (q09 vs m)) (hi:i=(j:Int)) (hj:j<vs.length) (hsm:Builtin.List.listFitsIndex i=true) (hq:∀h' t n',Heap.SameBut a s.heap h'→h'.get? a=some (q09 (vs.set j v) n')→Q () {s with heap:=h',toks:=t}) (hd:(x==("__debug__":Str))=false) :
  wpAny (model B.prog B.w) A (assign (.Subscript (.Name x np) (.Constant (.int i) k cp) pos) env v) Q E s:=by
 rw[q8s]
 refine Z0 (wpAny_holding (q2z hk hl hn hu ?_ hd))
 refine Z0 (wpAny_holding (wpAny_Constant_int ?_))
 refine Z0 (wpAny_standAt (Z0 (wpAny_holding ?_)))
 refine wpAny_mono (qaZ (s:={s with toks:=s.toks+1}) ha hi hj hsm λh' n' hs hg=>hq h' _ n' hs hg) (λ_ s₃ h₃=>wpAny_release h₃) λ_ _ z=>z
end
section
open PySem PySem.W
noncomputable def GoodL(l:Ob):Prop:=∀q∈l,funs.tm.get q.1=some q.2
noncomputable def Snd{α:Type}(P:α→Prop)(r:Ou α):Prop:=∀a l,r=some (a,l)→GoodL l→P a
theorem GoodL.app{l m:Ob}(h:GoodL (l++m)):GoodL l∧GoodL m:=⟨λq hq=>h q (List.mem_append_left _ hq),λq hq=>h q (List.mem_append_right _ hq)⟩
namespace Snd
variable{α β γ δ ε:Type}{P:α→Prop}{P₂:β→Prop}{P₃:γ→Prop}{P₄:δ→Prop}
theorem no{P:α→Prop}:Snd P none:=λ_ _ e=>by exact zN e
theorem u0{a:α}(h:P a):Snd P (Mine.Internal.u0 a):=λb l e _=>by
 have e:some (a,([]:Ob))=some (b,l):=e
 cases e;exact h
theorem u1{Q:β→Prop}{o:Ou α}{f:α→β}(h:Snd P o)(k:∀a,P a→Q (f a)):Snd Q (Mine.Internal.u1 o f):=λb l e g=>by
 cases o with
 |none=>exact zN e
 |some r=>obtain⟨a,m⟩:=r;cases e;exact k a (h a _ rfl g)
theorem u2{Q:γ→Prop}{o:Ou α}{p:Ou β}{f:α→β→γ}(h:Snd P o)(h₂:Snd P₂ p)(k:∀a b,P a→P₂ b→Q (f a b)):Snd Q (Mine.Internal.u2 o p f):=λb l e g=>by
 cases o with
 |none=>exact zN e
 |some r=>cases p with
  |none=>exact zN e
  |some r'=>
   obtain⟨a,m⟩:=r
   obtain⟨b',m'⟩:=r'
   cases e
   exact k a b' (h a _ rfl g.app.1) (h₂ b' _ rfl g.app.2)
theorem u3{Q:δ→Prop}{o:Ou α}{p:Ou β}{q:Ou γ}{f:α→β→γ→δ}(h:Snd P o)(h₂:Snd P₂ p)(h₃:Snd P₃ q)(k:∀a b c,P a→P₂ b→P₃ c→Q (f a b c)):Snd Q (Mine.Internal.u3 o p q f):=
 u2 (P:=λa:α×β=>P a.1∧P₂ a.2) (u2 h h₂ λa b x y=>⟨x,y⟩) h₃ λa c x y=>k a.1 a.2 c x.1 x.2 y
theorem u4{Q:ε→Prop}{o:Ou α}{p:Ou β}{q:Ou γ}{r:Ou δ}{f:α→β→γ→δ→ε}(h:Snd P o)(h₂:Snd P₂ p)(h₃:Snd P₃ q)(h₄:Snd P₄ r)(k:∀a b c d,P a→P₂ b→P₃ c→P₄ d→Q (f a b c d)):Snd Q (Mine.Internal.u4 o p q r f):=
 u2 (P:=λa:α×β=>P a.1∧P₂ a.2) (P₂:=λa:γ×δ=>P₃ a.1∧P₄ a.2) (u2 h h₂ λa b x y=>⟨x,y⟩) (u2 h₃ h₄ λa b x y=>⟨x,y⟩) λa c x y=>k a.1 a.2 c.1 c.2 x.1 x.2 y.1 y.2
theorem ug{b:Bool}{o:Ou α}(h:b=true→Snd P o):Snd P (Mine.Internal.ug b o):=by
 cases b with
 |false=>exact no
 |true=>exact h rfl
theorem uo{o:Option β}{f:β→Ou α}(h:∀b,o=some b→Snd P (f b)):Snd P (Mine.Internal.uo o f):=by
 cases o with
 |none=>exact no
 |some b=>exact h b rfl
end Snd
theorem and2{a b:Bool}(h:(a&&b)=true):a=true∧b=true:=by simpa using h
theorem q08{a b:Bool}{X:Prop}(h:(a&&b)=true)(g:a=true→b=true→X):X:=g (and2 h).1 (and2 h).2
theorem q4s(l:List (Str×NameKind))(x:Str):lkS l x=l.lookup x:=by
 induction l with
 |nil=>rfl
 |cons p r ih=>
  obtain⟨y,k⟩:=p
  show @Bool.rec (λ_=>Option NameKind) (lkS r x) (some k) (sEq y x)=_
  rw[List.lookup]
  cases h:sEq y x with
  |true=>rw[q1k h];simp
  |false=>
   have:¬x=y:=λe=>by
    have:sEq y x=true:=PySem.W.Fast.sEq_iff.mpr e.symm
    rw[h] at this;exact zF this
   rw[show (x==y)=false from beq_eq_false_iff_ne.mpr this]
   exact ih
theorem qfK:(nmS.all λs=>!(s==("__debug__":Str))&&!(s==("__classdict__":Str)))=true:=by decide +kernel
theorem q9p{c j:Nat}{x:Str}:∀{l:List Str}{i:Nat},nixL c x l i=some j→∃k,j=i+k∧l[k]?=some x:=by
 intro l
 induction l with
 |nil=>intro i h;cases h
 |cons s r ih=>
  intro i h
  have h:@Bool.rec (λ_=>Option Nat) (nixL c x r (Nat.succ i)) (@Bool.rec (λ_=>Option Nat) none (natC (Nat.add i 0) some) (sEq s x)) (Nat.beq (PySem.W.Fast.code s.cps.toList) c)=some j:=h
  cases q:Nat.beq (PySem.W.Fast.code s.cps.toList) c with
  |false=>
   rw[q] at h
   have q:=ih h
   exact q.elim λk q=>⟨k+1,by rw[q.1,Nat.succ_add];rfl,q.2⟩
  |true=>
   rw[q] at h
   cases q:sEq s x with
   |false=>rw[q] at h;exact nomatch h
   |true=>
    rw[q] at h
    have h:natC (Nat.add i 0) some=some j:=h
    rw[q2k] at h
    exact⟨0,(Z6 h).symm,congrArg some (q1k q)⟩
theorem q0R{x:Str}{i:Nat}(h:nix x=some i):nm i=x∧(x==("__debug__":Str))=false∧(x==("__classdict__":Str))=false:=(q9p h).elim λk q=>by
 have e:nmS[i]?=some x:=by rw[q.1,Nat.zero_add];exact q.2
 have:=List.all_eq_true.mp qfK x (Zd e)
 simp only[Bool.and_eq_true,Bool.not_eq_true'] at this
 exact⟨by unfold nm;rw[e],this⟩
theorem q0t{sc:Scope}{x:Str}(h:q1i sc x=true):sc.names.lookup x=some .globalImplicit:=by
 refine q00 h ?_;intro k h1 h2
 rw[←q4s,h1,qg5 h2]
theorem q0m{sc:Scope}{x:Str}(h:q1T sc x=true):sc.names.lookup x=some .local:=by
 refine q00 h ?_;intro k h1 h2
 rw[←q4s,h1,qg4 h2]
theorem q35{e:Expr}{y:Str}(h:q6x e y=true):∃p,e=.Name y p:=by
 refine q00 h ?_;intro n h1 h2
 exact⟨n.2,by rw[q20 h1,q1k h2]⟩
theorem bFl{b:Bool}{P:Prop}(H:bi b True P)(h:b=false):P:=by rw[h] at H;exact H
theorem notB{b:Bool}(h:(!b)=true):b=false:=by simpa using h
section
variable{B:Base}{c:Comp}
structure Sound(B:Base)(c:Comp):Prop where
 x:∀sc e,Snd (λx=>SX B sc x e) (c.x sc e)
 t:∀sc e,Snd (λx=>ST B sc x e) (c.t sc e)
 a:∀sc e,Snd (λx=>SA B sc x e) (c.a sc e)
 s:∀sc e,Snd (λx=>SS B sc x e) (c.s sc e)
theorem q1d{e:Expr}{es:List Expr}{env:Env}(h:q0Z e=false):starEach (e::es) env=(false,eval e env)::starEach es env:=
 bFl (b:=q0Z e) (by cases e with|Starred=>exact trivial|_=>exact rfl) h
theorem asgE{e:Expr}{es:List Expr}{env:Env}(h:q0Z e=false):assignEach (e::es) env=(false,assign e env)::assignEach es env:=
 bFl (b:=q0Z e) (by cases e with|Starred=>exact trivial|_=>exact rfl) h
variable(Z:Sound B c)
include Z
theorem q91(sc:Scope):∀es,Snd (λas=>SXs B sc as es∧Plain es) (cxs c sc es)
 |[]=>Snd.u0 ⟨q2N,λ_=>rfl⟩
 |e::es=>Snd.ug λh=>Snd.u2 (Z.x sc e) (q91 sc es) λa b ha hb=>⟨q14 ha hb.1 λenv=>q1d (notB h),λenv=>by
  rw[q1d (notB h)];simp only[List.any_cons,Bool.false_or];exact hb.2 env⟩
theorem qfg(sc:Scope)(op:BoolOp):∀es,Snd (λas=>STs B sc as op es) (cts c sc op es)
 |[]=>Snd.u0 (by cases op;exact qaX;exact qcT)
 |e::es=>Snd.u2 (Z.t sc e) (qfg sc op es) λa b ha hb=>by cases op;exact qcU ha hb;exact qeT ha hb
theorem qfi(sc:Scope):∀es,Snd (λas=>SAs B sc as es∧∀env,(assignEach es env).length=es.length∧(assignEach es env).findIdx? (·.1)=none) (cas c sc es)
 |[]=>Snd.u0 ⟨qd8,λ_=>⟨rfl,rfl⟩⟩
 |e::es=>Snd.ug λh=>Snd.u2 (Z.a sc e) (qfi sc es) λa b ha hb=>⟨qb0 ha hb.1 λenv=>asgE (notB h),λenv=>by
  rw[asgE (notB h)]
  refine⟨by simp only[List.length_cons,(hb.2 env).1],?_⟩
  rw[List.findIdx?_cons]
  simp[(hb.2 env).2]⟩
omit Z in
theorem q7O{k:Option Expr}{n:Str×Nat×Pos}(h:oO k qaE=some n):k=some (.Constant (.str n.1) n.2.1 n.2.2):=by
 refine q02 h ?_;intro e h1 h2
 rw[h1,q5i h2]
theorem qh9(sc:Scope)(ks:List (Option Expr)):∀es,Snd (λr=>SXd B sc r.1 r.2 ks es∧∀env pos,(evalEachOpt ks env).zip ((evalEach es env).map λv=>do let x ←v;standAt pos;pure x)=(q1N ks es env pos).map (λp=>(some p.1,p.2))∧(q1N ks es env pos).length=ks.length) (cds c sc ks es):=by
 induction ks with
 |nil=>intro es;cases es with
  |nil=>exact Snd.u0 ⟨qcM,λ_ _=>⟨rfl,rfl⟩⟩
  |cons=>exact Snd.no
 |cons k ks ih=>intro es;cases es with
  |nil=>exact Snd.no
  |cons e es=>
   refine Snd.uo λz hz=>Snd.ug λh=>Snd.u2 (Z.x sc e) (ih es) λa b ha hb=>?_
   rw[q7O hz]
   exact⟨qaT ha hb.1 (by simp) (Z8 h),λenv pos=>⟨congrArg (List.cons _) (hb.2 env pos).1,congrArg (·+1) (hb.2 env pos).2⟩⟩
theorem s_cB(sc:Scope):∀l,Snd (λx=>SSs B sc x l) (cB c sc l)
 |[]=>Snd.u0 qcZ
 |st::l=>Snd.u2 (Z.s sc st) (s_cB sc l) λa b ha hb=>qaY ha hb
theorem s_cO(sc:Scope)(e:Option Expr):Snd (λx=>SXo B sc x e) (cO c sc e):=by
 cases e with
 |none=>exact Snd.u0 qaS
 |some e=>exact λa l h g=>qaR (Z.x sc e a l h g)
omit Z in
theorem qde(sc:Scope)(k:Const)(kk:Nat)(pos:Pos):Snd (λx=>SX B sc x (.Constant k kk pos)) (qcm k):=by
 cases k with
 |none=>exact Snd.u0 qcN
 |bool b=>exact Snd.u0 qcP
 |int i=>exact Snd.ug λh=>Snd.u0 (qc4 (by have:=Z8 h;lia))
 |str s=>exact Snd.ug λh=>Snd.u0 (qeD (by simp) (Z8 h))
 |bytes q=>exact Snd.ug λh=>Snd.u0 (qaV (by
   clear h
   induction q with
   |nil=>rfl
   |cons b r ih=>simp only[List.map_cons,q23,ih,Bool.and_true,decide_eq_true_eq];rfl) (by rw[List.length_map];exact Z8 h))
 |_=>exact Snd.no
omit Z in
theorem qff(sc:Scope)(x:Str)(pos:Pos):Snd (λy=>SX B sc y (.Name x pos)) (qg9 sc x):=Snd.uo λi h=>by
 refine X0x3 (q0R h) ?_;intro h1 h2 h3
 rw[q4s]
 cases e:sc.names.lookup x with
 |none=>exact Snd.no
 |some k=>cases k with
  |«local»=>exact Snd.u0 (qc3 e h1 h2)
  |cell=>exact Snd.u0 (qc5 (.inl e) h1 h2 h3)
  |free=>exact Snd.u0 (qc5 (.inr e) h1 h2 h3)
  |globalImplicit=>exact Snd.uo λy hy=>Snd.u0 (qeL e hy h1 h2)
  |globalExplicit=>exact Snd.no
omit Z in
theorem s_op{op:Operator}{f:S→SV→SV→KV→Bool}(h:opF op=some f):BinS B f op:=by
 cases op<;>(first|(refine zI h ?_;clear h;rintro rfl)|(exact zN h))<;>first|exact qet|exact qeo|exact qeq|exact qes|exact qer|exact qep
omit Z in
theorem s_cm(op:CmpOp):CmpS B (cmF op) op:=by
 cases op<;>first|exact qfB|exact qfu|exact qfv|exact qfw|exact qfz|exact qfA|exact qfx|exact qdk|exact qfy|exact qdl
omit Z in
theorem q9o{op:CmpOp}{r:Expr}(h:q53 r=false):behindInMarks op r=false:=bFl (b:=q53 r) (by cases r with|Set=>exact trivial|_=>exact @rfl _ false) h
omit Z in
theorem q9n{r:Expr}(h:q53 r=false)(env:Env)(x:Value):foldedSetIterable r env x=pure x:=bFl (b:=q53 r) (by cases r with|Set=>exact trivial|_=>exact @rfl _ (pure x)) h
omit Z in
theorem qgK{o:Expr}{a:Str}(h:qan o=true)(env:Env)(whole:Sem Value):attributeBase o a env whole=whole:=by
 cases o with
 |Call f es ks p=>cases f with
  |Name=>cases es with
   |nil=>cases ks with
    |nil=>exact bF h
    |cons=>exact @rfl _ whole
   |cons=>exact @rfl _ whole
  |_=>exact @rfl _ whole
 |_=>exact @rfl _ whole
end
end
section
open PySem PySem.W
variable{B:Base}{c:Comp}
theorem q8I{M:Model}{A:Around}{env:Env}{E:Value→Shared→Prop}{s:Shared}{op:BoolOp}{x y z:Expr}{pos:Pos}{Q:Value→Shared→Prop}(h:wpG M A (eval x env) (λv s₁=>wpG M A (truthy v) (λt s₂=>if t=(op==.And) then wpG M A (eval (.BoolOp op [y,z] pos) env) Q E s₂ else Q v s₂) E s₁) E s) :
  wpG M A (eval (.BoolOp op [x,y,z] pos) env) Q E s:=by
 rw[arm_eval_BoolOp]
 have e:eval (.BoolOp op [y,z] pos) env=boolOp pos op [eval y env,eval z env]:=by rw[arm_eval_BoolOp];rfl
 rw[e] at h
 show wpG M A (eval x env>>=λv=>standAt pos>>=λ_=>holding [v] (truthy v)>>=λt=>match op,t with
  |.And,false|.Or,true=>pure v
  |_,_=>boolOp pos op [eval y env,eval z env]) Q E s
 refine q0e h λv s₁ h₁=>q01 (q07 (q01 (q04 (q05 h₁ (λt s₂ h₂=>?_) λ_ _ x=>x))))
 cases op<;>cases t
 ·exact q03 (by simpa using h₂)
 ·exact(by simpa using h₂:wpG M A (boolOp pos .And [eval y env,eval z env]) Q E s₂)
 ·exact(by simpa using h₂:wpG M A (boolOp pos .Or [eval y env,eval z env]) Q E s₂)
 ·exact q03 (by simpa using h₂)
theorem qcQ{sc:Scope}{x y:XC}{l m r:Expr}{pos:Pos}(hx:SX B sc x l)(hy:SX B sc y (.BoolOp .And [m,r] pos)):SX B sc (cAnd x y) (.BoolOp .And [l,m,r] pos):=λn W fs c X σ s kv O R h=>by
 refine q8I (q0D (hx n W fs c X σ s _ O R h) λa W₁ σ₁ s₁ l₁ R₁ oY2x0=>?_)
 refine oY2x0.kE3 ?_;clear oY2x0;intro xa ha h₁
 refine q0G h₁ ?_;intro t e h₁
 refine q05 (toG (q4h n W₁ fs X.A σ₁ s₁ _ a _ _ (O.mono l₁).around R₁ ha e)) (λb s₃ oY1x0=>?_) λ_ _ z=>z
 refine X0x2 oY1x0 ?_;clear oY1x0;intro e R₃
 subst e
 cases b with
 |true=>exact q05 (hy n W₁ fs c X σ₁ s₃ _ (O.mono l₁) R₃ h₁) (λ_ _ z=>z.weaken l₁) λ_ _ z=>z.weaken l₁
 |false=>exact⟨W₁,σ₁,l₁,R₃,_,ha,h₁⟩
variable(Z:Sound B c)
include Z
theorem qfk(sc:Scope)(op:BoolOp)(es:List Expr)(pos:Pos):Snd (λx=>SX B sc x (.BoolOp op es pos)) (kBoo c sc op es):=by
 rcases es with _|⟨l,_|⟨m,_|⟨r,_|⟨q,t⟩⟩⟩⟩
 ·exact Snd.no
 ·exact Snd.no
 ·cases op
  ·exact Snd.u2 (Z.x sc l) (Z.x sc m) λa b ha hb=>qc7 q4h ha hb
  ·exact Snd.u2 (Z.x sc l) (Z.x sc m) λa b ha hb=>qgV q4h ha hb
 ·cases op
  ·exact Snd.u2 (Z.x sc l) (Snd.u2 (Z.x sc m) (Z.x sc r) (Q:=λx=>SX B sc x (.BoolOp .And [m,r] pos)) λa b ha hb=>qc7 q4h ha hb) λa b ha hb=>qcQ ha hb
  ·exact Snd.no
 ·cases op<;>exact Snd.no
theorem qh8(sc:Scope)(l:Expr)(ops:List CmpOp)(rs:List Expr)(pos:Pos):Snd (λx=>SX B sc x (.Compare l ops rs pos)) (kCmp c sc l ops rs):=by
 rcases ops with _|⟨op,_|⟨oq,t⟩⟩<;>rcases rs with _|⟨r,_|⟨m,t'⟩⟩<;>first
  |exact Snd.no
  |exact Snd.ug λh=>Snd.u2 (Z.x sc l) (Z.x sc r) λa b ha hb=>qeP (s_cm op) ha hb (q9o (notB h))
theorem qfe(sc:Scope)(l:Expr)(ops:List CmpOp)(rs:List Expr)(pos:Pos):Snd (λx=>ST B sc x (.Compare l ops rs pos)) (qg7 c sc l ops rs):=by
 rcases ops with _|⟨op,_|⟨oq,_|⟨o3,t⟩⟩⟩<;>rcases rs with _|⟨r,_|⟨m,_|⟨q,t'⟩⟩⟩<;>first
  |exact Snd.no
  |exact Snd.ug λh=>Snd.u2 (Z.x sc l) (Z.x sc r) λa b ha hb=>qeZ (s_cm op) ha hb (q9o (notB h))
  |exact Snd.ug λh=>Snd.u3 (Z.x sc l) (Z.x sc r) (Z.x sc m) λa b d ha hb hd=>qcX (s_cm op) (s_cm oq) ha hb hd (q9o (notB h))
theorem qh6(sc:Scope)(ks:List (Option Expr))(es:List Expr)(pos:Pos):Snd (λx=>SX B sc x (.Dict ks es pos)) (kDic c sc ks es):=by
 cases ks with
 |nil=>cases es with
  |nil=>exact Snd.u0 qcO
  |cons=>exact Snd.no
 |cons k ks=>
  have key:Snd (λx=>SX B sc x (.Dict (k::ks) es pos)) (uo (cds c sc (k::ks) es) λr=>ug (decide (r.1.2.Nodup)&&Nat.ble (k::ks).length 15) (some (cDic r.1.1,r.2))):=by
   refine Snd.uo λr hr=>Snd.ug λh=>λa l e g=>?_
   refine q08 h ?_;intro h1 h2
   cases e
   have:=qh9 Z sc (k::ks) es r.1 r.2 hr g
   exact qeN this.1 (of_decide_eq_true h1) (by intro h;cases h) (Z8 h2) (λenv=>(this.2 env pos).1) (λenv=>(this.2 env pos).2)
  exact key
omit Z in
theorem q9M{e:Expr}(h:qgg e=true):∃k q p,e=.UnaryOp .USub (.Constant (.int 1) k q) p:=by
 refine q00 h ?_;intro r h1 h
 refine q00 h ?_;intro k h2 h
 refine q00 h ?_;intro i h3 h
 exact⟨_,_,_,by rw[q8A h1,q5l h2,q9I h3,beq_iff_eq.mp h]⟩
omit Z in
theorem subE{sl:Expr}(h:q5k sl=none)(o i:Value):subscripted sl false o i=operate [o,i] (getItem o i):=by cases sl with|Slice=>exact nomatch h|_=>exact @rfl _ (operate [o,i] (getItem o i))
theorem qgZ(sc:Scope)(v sl:Expr)(pos:Pos):Snd (λx=>SX B sc x (.Subscript v sl pos)) (kSub c sc v sl):=by
 unfold kSub
 cases q:q5k sl with
 |none=>exact Snd.u2 (Z.x sc v) (Z.x sc _) λa b ha hb=>qeC ha hb (subE q)
 |some r=>
  obtain⟨l,u,st,p⟩:=r
  rw[q5j q]
  cases st with
  |none=>exact Snd.u3 (Z.x sc v) (s_cO Z sc l) (s_cO Z sc u) λa b d ha hb hd=>qeE qhw ha hb hd
  |some st=>
   refine Snd.ug λh=>?_
   refine q08 h ?_;intro h1 h2
   refine X3x1 (q9M h1) ?_;intro k q p o1;subst o1
   cases l with
   |some l=>exact bF h2
   |none=>cases u with
    |some u=>exact bF h2
    |none=>exact Snd.u1 (Z.x sc v) λa ha=>qeF ha (qc2 (qc4 (by decide)))
theorem qdf(sc:Scope)(f:Expr)(es:List Expr)(pos:Pos)(he:∀env,eval (.Call f es [] pos) env=(do callWith pos (←eval f env) [] (backTo pos (starEach es env)) [])):Snd (λx=>SX B sc x (.Call f es [] pos)) (kCal c sc f es):=
 Snd.u2 (Z.x sc f) (q91 Z sc es) λa b ha hb=>qc6 ha hb.1 hb.2 he
theorem qh5(sc:Scope)(np ap pos:Pos)(es:List Expr)(hl:(ap.endLine==pos.line)=true):Snd (λx=>SX B sc x (.Call (.Attribute (.Name "Exception" np) "__init__" ap) es [] pos)) (kExc c sc es):=by
 rcases es with _|⟨a,_|⟨b,_|⟨d,t⟩⟩⟩
 ·exact Snd.no
 ·exact Snd.no
 ·refine Snd.ug λh=>?_
  refine q08 h ?_;intro h h3
  refine q08 h ?_;intro h1 h2
  refine Snd.u2 (Z.x sc a) (Z.x sc b) λx y hx hy=>qeM (i:=329) hx hy (q0t h1) (by rfl) (by rfl) (λenv=>?_) hl (λenv=>q1d (notB h2)) (λenv=>q1d (notB h3)) (λ_ _=>rfl)
  rw[q1d (notB h2),q1d (notB h3)];rfl
 ·exact Snd.no
theorem qh1(sc:Scope)(o:Expr)(name:Str)(ap pos:Pos)(es:List Expr)(hl:(ap.endLine==pos.line)=true):Snd (λx=>SX B sc x (.Call (.Attribute o name ap) es [] pos)) (kMet c sc o name es):=by
 unfold kMet
 split
 ·rename_i h
  refine q08 h ?_;intro h1 h2
  refine X1x1 (q35 h1) ?_;intro p o1;subst o1
  rw[q1k h2]
  exact qh5 Z sc p ap pos es hl
 ·refine Snd.ug λh=>Snd.uo λi hi=>?_
  refine q08 h ?_;intro h1 h2
  exact Snd.u2 (Z.x sc o) (q91 Z sc es) λa b ha hb=>qeH qhd ha hb.1 (q0R hi).1 hb.2 (Z8 h2) hl (qgK h1)
omit Z in
theorem q6b{es:List Expr}{r x:Expr}(h:qbZ es=some (r,x)):∃zp p2,es=[.Call (.Name "zip" zp) [r,x] [] p2]:=by
 refine q02 h ?_;intro e h1 h
 refine q02 h ?_;intro n h2 h
 have e1:es=[.Call (.Name n.1 n.2.1) n.2.2.1 [] n.2.2.2]:=by rw[q21 h1,q4E h2]
 obtain⟨n1,n2,n3,n4⟩:=n
 cases n3 with
 |nil=>exact oN h
 |cons a l=>
  refine q02 h ?_;intro b h3 h
  refine q0O h ?_;intro h4 h
  have h:=Z6 h
  exact⟨n2,n4,by rw[e1,q21 h3,q1k h4,(Prod.mk.inj h).1,(Prod.mk.inj h).2]⟩
theorem qh0(sc:Scope)(x:Str)(p pos:Pos)(es:List Expr):Snd (λy=>SX B sc y (.Call (.Name x p) es [] pos)) (kNam c sc (.Name x p) es):=by
 unfold kNam
 split
 ·rename_i h
  refine X1x1 (q35 h) ?_;intro p' h
  cases h
  split
  ·rename_i r y hz
   refine X2x1 (q6b hz) ?_;intro zp p2 o1;subst o1
   refine Snd.ug λh=>?_
   refine q08 h ?_;intro h h4
   refine q08 h ?_;intro h h3
   refine q08 h ?_;intro h1 h2
   exact Snd.u2 (Z.x sc r) (Z.x sc y) λa b ha hb=>qgW (i:=26) (j:=328) ha hb (q0t h1) (q0t h2) (by rfl) (by rfl) (by rfl) (by rfl) (λenv=>by rw[q1d rfl];rfl) (λenv=>by rw[q1d (notB h3),q1d (notB h4)];rfl)
    (λenv=>rfl) (λenv=>rfl) (λenv=>q1d rfl) (λenv=>q1d (notB h3)) (λenv=>q1d (notB h4))
  ·exact qdf Z sc _ es pos (λenv=>rfl)
 ·exact qdf Z sc _ es pos (λenv=>rfl)
theorem qfj(sc:Scope)(f:Expr)(es:List Expr)(pos:Pos):Snd (λy=>SX B sc y (.Call f es [] pos)) (qgb c sc f es pos):=by
 cases f with
 |Attribute o name ap=>exact Snd.ug λh=>qh1 Z sc o name ap pos es h
 |Name x p=>exact qh0 Z sc x p pos es
 |Call f' es' ks p=>exact qdf Z sc _ es pos (λenv=>rfl)
 |_=>exact Snd.no
omit Z in
theorem q3K{o:Option Addr}(h:isNo o=true):o=none:=by cases o with|none=>rfl|some a=>exact zF h
theorem qh3(sc:Scope)(ifs:List Expr):Snd (λf=>q8u B sc f ifs) (kIfs c sc ifs):=by
 rcases ifs with _|⟨e,_|⟨e',t⟩⟩
 ·exact Snd.u0 (.inl ⟨rfl,rfl⟩)
 ·exact λa l h g=>.inr ⟨e,rfl,Z.t sc e a l h g⟩
 ·exact Snd.no
theorem qfh{sc scope:Scope}{elt target iter:Expr}{ifs:List Expr}{P:XC→Prop}(k:∀(x:XC)(t:AC)(y:XC)(f:TC),q4z (frees scope.names) sc scope=true→scode (relS scope sc)=none→(∀env v,foldedSetIterable iter env v=pure v)→SX B (relS scope sc) x elt→SA B (relS scope sc) t target→SX B sc y iter→q8u B (relS scope sc) f ifs→P (cCom tb x t y f)) :
  Snd P (kCom c sc elt target iter ifs scope):=by
 refine Snd.ug λh=>?_
 refine q08 h ?_;intro h h3
 refine q08 h ?_;intro h1 h2
 exact Snd.u4 (Z.x _ elt) (Z.a _ target) (Z.x sc iter) (qh3 Z _ ifs) λx t y f hx ht hy hf=>k x t y f h1 (q3K h2) (q9n (notB h3)) hx ht hy hf
theorem s_lc(sc:Scope)(elt:Expr)(g:List Comprehension)(scope:Scope)(pos:Pos):Snd (λx=>SX B sc x (.ListComp elt g scope pos)) (kLC c sc elt g scope):=by
 rcases g with _|⟨⟨target,iter,ifs,k⟩,_|⟨g',t⟩⟩
 ·exact Snd.no
 ·rcases k with(_|k)|k
  ·exact qfh Z λx t y f h1 h2 h3 hx ht hy hf=>qeO (frees scope.names) h1 h2 ht hx hf hy h3
  ·exact Snd.no
  ·exact Snd.no
 ·rcases k with(_|k)|k<;>exact Snd.no
end
section
open PySem PySem.W
variable{B:Base}{c:Comp}
theorem iteS{α:Type}{c:Prop}[Decidable c]{a b:Option α}{x y:Sem α}{r:α}(h:(if c then a else b)=some r)(h1:a=some r→x=pure r)(h2:b=some r→y=pure r):(if c then x else y)=pure r:=by
 by_cases q:c
 ·rw[if_pos q] at h⊢;exact h1 h
 ·rw[if_neg q] at h⊢;exact h2 h
theorem q1D{sc:Scope}{ts vs:List Expr}{k k':Nat}{p p':Pos}{r:Option (List Str)}(h:swK sc ts vs=some r)(env:Env)(he:env.scope=sc):swappedStores [.Tuple ts k p] (.Tuple vs k' p') env=pure r:=by
 subst he
 unfold swK at h
 unfold swappedStores
 exact iteS h (λh=>congrArg pure (Z6 h)) λh=>iteS h (λh=>congrArg pure (Z6 h)) λh=>iteS h (λh=>congrArg pure (Z6 h)) λh=>iteS h (λh=>congrArg pure (Z6 h)) λh=>iteS h (λh=>oN h) λh=>congrArg pure (Z6 h)
variable(Z:Sound B c)
include Z
omit Z in
theorem s_ns(sc:Scope):∀xs,Snd (λa=>SAr B sc a xs) (cNs sc xs)
 |[]=>Snd.u0 qd9
 |x::r=>Snd.uo λi hi=>Snd.ug λh=>Snd.u1 (s_ns sc r) λa ha=>qb1 ha (q0m h) (q0R hi).1
theorem qfm(sc:Scope)(x:Str)(np cp pos:Pos)(elt:Expr)(g:List Comprehension)(scope:Scope):Snd (λy=>SS B sc y (.Assign [.Name x np] (.ListComp elt g scope cp) pos)) (qgd c sc x np cp elt g scope):=by
 rcases g with _|⟨⟨target,iter,ifs,k⟩,_|⟨g',t⟩⟩
 ·exact Snd.no
 ·rcases k with(_|k)|k
  ·refine Snd.uo λi hi=>Snd.ug λh=>?_
   refine q08 h ?_;intro h h3
   refine q08 h ?_;intro h1 h2
   exact Snd.u1 (qfh Z (P:=λy=>SS B sc (sAsg (aLoc i) y) (.Assign [.Name x np] (.ListComp elt [⟨target,iter,ifs,0⟩] scope cp) pos)) λy t z f q1 q2 q3 hx ht hy hf=>
    qd5 (frees scope.names) q1 q2 ht hx hf hy (q0m h1) (q0R hi).1 h2 (notB h3) q3) λa ha=>ha
  ·exact Snd.no
  ·exact Snd.no
 ·rcases k with(_|k)|k<;>exact Snd.no
omit Z in
theorem q3G{t e:Expr}(h:(q1U e&&q5J t)=false)(line:Nat)(env:Env):swapsWithSole [t] e line env=pure false:=by
 show swapsWith e (some t) line env=pure false
 refine bFl (b:=q1U e&&q5J t) ?_ h
 cases e with
 |ListComp|SetComp|DictComp=>cases t with|Name=>exact trivial|_=>exact @rfl _ (pure false)
 |_=>exact @rfl _ (pure false)
theorem qcc(sc:Scope)(t e:Expr)(pos:Pos)(h:(!(q1U e&&q5J t)&&!q0Z t)=true)(hw:∀env:Env,env.scope=sc→swappedStores [t] e env=pure none):Snd (λy=>SS B sc y (.Assign [t] e pos)) (u2 (c.a sc t) (c.x sc e) sAsg):=by
 refine q08 h ?_;intro h1 h2
 exact Snd.u2 (Z.a sc t) (Z.x sc e) λa b ha hb=>qf7 ha hb (λenv _=>q3G (notB h1) _ env) hw (λenv=>asgE (notB h2))
omit Z in
theorem qeS{t e:Expr}{env:Env}(h:(q39 t).isSome=true→q39 e=none)(hl:qdR t=false):swappedStores [t] e env=pure none:=by
 cases t with
 |Tuple ts k p=>cases e with
  |Tuple vs k' p'=>exact nomatch h rfl
  |_=>exact @rfl _ (pure none)
 |List ts p=>exact nomatch hl
 |_=>exact @rfl _ (pure none)
theorem qdg(sc:Scope)(t e:Expr)(pos:Pos)(h:(q39 t).isSome=true→q39 e=none)(hl:qdR t=false):Snd (λy=>SS B sc y (.Assign [t] e pos)) (kAs1 c sc t e):=Snd.ug λh'=>qcc Z sc t e pos h' λenv _=>qeS h hl
theorem qhb(sc:Scope)(ts vs:List Expr)(k k':Nat)(p p' pos:Pos):Snd (λy=>SS B sc y (.Assign [.Tuple ts k p] (.Tuple vs k' p') pos)) (kAsT c sc (.Tuple ts k p) (.Tuple vs k' p') (ts,k,p) (vs,k',p')):=by
 refine Snd.uo λr hr=>?_
 cases r with
 |none=>exact qcc Z sc _ _ pos rfl (λenv he=>q1D hr env he)
 |some xs=>exact Snd.u2 (s_ns sc xs.reverse) (Z.x sc _) λa b ha hb=>qd4 ha hb (λenv _=>q3G rfl _ env) (λenv he=>q1D hr env he) rfl
theorem qha(sc:Scope)(t e:Expr)(pos:Pos):Snd (λy=>SS B sc y (.Assign [t] e pos)) (kAsg c sc t e):=by
 unfold kAsg
 cases q:q39 t with
 |some r=>cases q':q39 e with
  |some r'=>rw[q3k q,q3k q'];exact qhb Z sc _ _ _ _ _ _ pos
  |none=>exact qdg Z sc t e pos (λ_=>q') (by rw[q3k q];rfl)
 |none=>
  have nq:(q39 t).isSome=true→q39 e=none:=λh=>by rw[q] at h;exact nomatch h
  refine Snd.ug λh=>?_
  cases g:qaG e with
  |none=>exact qdg Z sc t e pos nq (notB h)
  |some g'=>cases n:q3l t with
   |none=>exact qdg Z sc t e pos nq (notB h)
   |some n'=>rw[q20 n,q8B g];exact qfm Z sc _ _ _ pos _ _ _
theorem qh4(sc:Scope)(t iter:Expr)(b:List Stmt)(pos:Pos):Snd (λy=>SS B sc y (.For t iter b [] pos)) (kFor c sc t iter b):=by
 have plain:Snd (λy=>SS B sc y (.For t iter b [] pos)) (kFo1 c sc t iter b):=Snd.ug λh=>Snd.u3 (Z.a sc t) (Z.x sc iter) (s_cB Z sc b) λx y z hx hy hz=>qf5 q4X hx hy hz (q9n (notB h))
 unfold kFor
 cases q:q7H iter with
 |none=>exact plain
 |some r=>
  have e1:=q4E q
  obtain⟨x,p,es,p2⟩:=r
  cases es with
  |nil=>exact plain
  |cons e l=>cases l with
   |nil=>
    show Snd _ (match sEq x "enumerate" with|true=>_|false=>_)
    cases h:sEq x "enumerate" with
    |false=>exact plain
    |true=>
     refine Snd.ug λh'=>?_
     rw[e1,q1k h]
     refine q08 h' ?_;intro h' h3
     refine q08 h' ?_;intro h1 h2
     exact Snd.u3 (Z.a sc t) (Z.x sc e) (s_cB Z sc b) λx y z hx hy hz=>qd2 (i:=327) hx hy hz (q0t h1) h2 (by rfl) (by rfl) (λenv v=>rfl) (λenv=>by rw[q1d (notB h3)];rfl) (λenv=>rfl) (λenv=>q1d (notB h3))
   |cons e' l=>
    show Snd _ (match sEq x "zip" with|true=>_|false=>_)
    cases h:sEq x "zip" with
    |false=>exact plain
    |true=>
     refine Snd.ug λh'=>?_
     refine q08 h' ?_;intro h' h4
     refine q08 h' ?_;intro h' h3
     refine q08 h' ?_;intro h1 h2
     rw[e1,q1k h,List.isEmpty_iff.mp h4]
     exact Snd.u2 (Z.x sc e) (Z.x sc e') λx y hx hy=>qd1 (i:=328) hx hy (q0t h1) (by rfl) (by rfl) (λenv v=>rfl) (λenv=>by rw[q1d (notB h2),q1d (notB h3)];rfl) (λenv=>rfl) (λenv=>q1d (notB h2)) (λenv=>q1d (notB h3))
omit Z in
theorem q8g{i:Nat}{C:Addr}(h:qgr i=some C):alook glo i=some (.old C)∧∃cl,tb.cl C=some cl∧cl.isExc=true:=by
 refine q02 h ?_;intro v h1 h
 refine q02 h ?_;intro C' h2 h
 refine q02 h ?_;intro cl h3 h
 refine q0O h ?_;intro h4 h
 rw[←Z6 h]
 exact⟨by rw[h1,q4j h2],cl,h3,h4⟩
theorem qgY(sc:Scope)(b:List Stmt)(hs:List ExceptHandler)(pos:Pos):Snd (λy=>SS B sc y (.Try b hs [] [] pos)) (kTry c sc b hs):=
 Snd.uo λh e1=>Snd.uo λq e2=>Snd.uo λn e3=>Snd.uo λst e4=>Snd.uo λr e5=>Snd.uo λz e6=>Snd.uo λi hi=>Snd.uo λC hC=>Snd.ug λh=>by
  have e:hs=[.ExceptHandler (some (.Name n.1 n.2)) none [.Return (some (.Constant (.str z.1) z.2.1 z.2.2)) r.2] q.2.2]:=by rw[q21 e1,qbF e2,q20 e3,q21 e4,qb2 e5,q5i e6]
  rw[e]
  refine q08 h ?_;intro h1 h2
  refine X0x2 (q8g hC) ?_;intro h3 h4
  exact Snd.u1 (s_cB Z sc b) λa ha=>qf2 ha (q0t h1) h3 (q0R hi).1 h4 (by simp) (Z8 h2) (q0R hi).2.1
omit Z in
theorem q2Q{a:Arguments}(h:q3A a=true):a=⟨[],[],none,[],[],none,[]⟩:=by
 obtain⟨p,as,v,k,d,w,e⟩:=a
 refine q08 h ?_;intro h1 h
 refine q08 h ?_;intro h2 h
 refine q08 h ?_;intro h3 h
 refine q08 h ?_;intro h4 h
 refine q08 h ?_;intro h5 h
 refine q08 h ?_;intro h6 h7
 rw[List.isEmpty_iff.mp h1,List.isEmpty_iff.mp h2,Option.isNone_iff_eq_none.mp h3,List.isEmpty_iff.mp h4,List.isEmpty_iff.mp h5,Option.isNone_iff_eq_none.mp h6,List.isEmpty_iff.mp h7]
noncomputable def q2Z(B:Base)(c:Comp):Prop:=∀i f (a:Arguments) (b:FuncBody) (sc:Scope),cTm c a b sc=some f→funs.tm.get i=some f→∀fd:FuncData,fd.params=a→fd.body=b→fd.scope=sc→fd.globals=mainGlobals→fd.builtins=builtinsNs→fd.defaults=.none→B.fnOk i fd
omit Z in
theorem q7r{sc scope:Scope}{a:Arguments}{b:FuncBody}{name:Str}{pos:Pos}{l:List (Nat×Nat)}{r:Nat×Fn}(h:kTm c sc scope a b name pos l=some r):q36 (frees scope.names) sc scope=true∧(∃q,q∈tabs∧scode sc=some q.1∧squal q.1++".<locals>."++name=tqual q.1 pos.line)∧cTm c a b scope=some r.2∧q3A a=true:=by
 refine q0O h ?_;intro h1 h
 refine q02 h ?_;intro q h2 h
 refine q0O h ?_;intro h3 h
 refine q02 h ?_;intro i h4 h
 refine q02 h ?_;intro f h5 h
 rw[←Z6 h]
 refine q02 h2 ?_;intro a' ha h6
 exact⟨h1,⟨q,List.mem_of_find?_eq_some h6,by rw[ha,Z9 (List.find?_some (p:=λq:Addr×Addr=>Nat.beq q.1 a') h6)],q1k h3⟩,h5,(and2 (q6A h5).1).1⟩
omit Z in
theorem qh2(T:q2Z B c)(ix:List (Nat×Nat))(sc scope:Scope)(a:Arguments)(b:Expr)(pos:Pos):Snd (λx=>SX B sc x (.Lambda a b scope pos)) (uo (kTm c sc scope a (.expr b) "<lambda>" pos ix) λr=>some (cLam r.1,[r])):=by
 refine Snd.uo λr hr=>λx l e g=>?_
 cases e
 refine X0x4 (q7r hr) ?_;intro h1 o1 h5 h6;refine X1x3 o1 ?_;clear o1;intro q h2 h3 h4
 have ha:=q2Q h6
 subst ha
 exact qeJ (frees scope.names) h1 h2 h3 (λfd q1 q2 q3 q4 q5 q6=>T r.1 r.2 _ _ _ h5 (g r (.head _)) fd q1 q2 q3 q4 q5 q6) h4 (λenv=>by kernel_rfl)
omit Z in
theorem qh7(T:q2Z B c)(ix:List (Nat×Nat))(sc:Scope)(name:Str)(a:Arguments)(b:List Stmt)(scope:Scope)(bind:Str)(pos:Pos):Snd (λx=>SS B sc x (.FunctionDef name a b [] none [] scope none bind pos)) (kDef c ix sc name a b scope bind pos):=by
 refine Snd.uo λr hr=>Snd.uo λj hj=>Snd.ug λhl=>λx l e g=>?_
 cases e
 refine X0x4 (q7r hr) ?_;intro h1 o1 h5 h6;refine X1x3 o1 ?_;clear o1;intro q h2 h3 h4
 have ha:=q2Q h6
 subst ha
 exact qf6 (frees scope.names) h1 h2 h3 (q0m hl) (q0R hj).1 (λfd q1 q2 q3 q4 q5 q6=>T r.1 r.2 _ _ _ h5 (g r (.head _)) fd q1 q2 q3 q4 q5 q6) h4 (λenv=>by kernel_rfl)
theorem qda(T:q2Z B c)(ix:List (Nat×Nat))(sc:Scope)(e:Expr):Snd (λx=>SX B sc x e) (qeU c ix sc e):=by
 cases e with
 |Constant k kk pos=>exact qde sc k kk pos
 |Name x pos=>exact qff sc x pos
 |BinOp l op r pos=>exact Snd.uo λf hf=>Snd.u2 (Z.x sc l) (Z.x sc r) λa b ha hb=>qeQ (s_op hf) ha hb
 |UnaryOp op e pos=>cases op with
  |Not=>exact Snd.u1 (Z.x sc e) λa ha=>qeG q4h ha
  |USub=>exact Snd.u1 (Z.x sc e) λa ha=>qc2 ha
  |_=>exact Snd.no
 |BoolOp op es pos=>exact qfk Z sc op es pos
 |Compare l ops rs pos=>exact qh8 Z sc l ops rs pos
 |IfExp t a b pos=>exact Snd.u3 (Z.t sc t) (Z.x sc a) (Z.x sc b) λx y z hx hy hz=>qeK hx hy hz
 |Tuple es k pos=>exact Snd.u1 (q91 Z sc es) λa ha=>qeB ha.1
 |List es pos=>exact Snd.u1 (q91 Z sc es) λa ha=>qeI ha.1
 |Dict ks es pos=>exact qh6 Z sc ks es pos
 |Attribute v a pos=>exact Snd.ug λh=>Snd.uo λi hi=>Snd.u1 (Z.x sc v) λx hx=>qeR hx (q0R hi).1 (qgK h)
 |Subscript v sl pos=>exact qgZ Z sc v sl pos
 |Call f es ks pos=>cases ks with
  |nil=>exact qfj Z sc f es pos
  |cons=>exact Snd.no
 |ListComp elt g scope pos=>exact s_lc Z sc elt g scope pos
 |Lambda a b scope pos=>exact qh2 T ix sc scope a b pos
 |_=>exact Snd.no
theorem qdb(sc:Scope)(e:Expr):Snd (λx=>ST B sc x e) (qc9 c sc e):=by
 cases e with
 |UnaryOp op e pos=>cases op with
  |Not=>exact Snd.u1 (Z.t sc e) λa ha=>qeY ha
  |_=>exact Snd.no
 |BoolOp op es pos=>exact λa l h g=>qcY (qfg Z sc op es a l h g)
 |Compare l ops rs pos=>exact qfe Z sc l ops rs pos
 |IfExp t a b pos=>exact Snd.no
 |_=>exact Snd.u1 (Z.x sc _) λa ha=>qf0 q4h ha (λ_ _=>rfl)
omit Z in
theorem qdA{v sl:Expr}{pos:Pos}(h:q5k sl=none)(env:Env)(x:Value):assign (.Subscript v sl pos) env x=(do
  let ov ←holding [x] (eval v env)
  let iv ←holding [x,ov] (eval sl env)
  standAt pos
  holding [x,ov,iv] (PySem.setItem ov iv x)
  release [x,ov,iv] []):=by cases sl with|Slice=>exact nomatch h|_=>rfl
theorem qfl(sc:Scope)(v sl:Expr)(pos:Pos):Snd (λx=>SA B sc x (.Subscript v sl pos)) (qdO c sc v sl):=by
 unfold qdO
 cases q:q5k sl with
 |none=>exact Snd.u2 (Z.x sc v) (Z.x sc _) λa b ha hb=>qfa ha hb (qdA q)
 |some r=>
  obtain⟨l,u,st,p⟩:=r
  rw[q5j q]
  cases st with
  |none=>exact Snd.ug λ_=>Snd.u3 (Z.x sc v) (s_cO Z sc _) (s_cO Z sc _) λa b d ha hb hd=>qfb ha hb hd (λenv v=>rfl)
  |some st=>exact Snd.no
theorem qdd(sc:Scope)(e:Expr):Snd (λx=>SA B sc x e) (qeX c sc e):=by
 cases e with
 |Name x pos=>
  refine Snd.uo λi hi=>?_
  rw[q4s]
  cases h:sc.names.lookup x with
  |none=>exact Snd.no
  |some k=>cases k with
   |«local»=>exact Snd.u0 (q90 h (q0R hi).1)
   |cell=>exact Snd.u0 (qfc h (q0R hi).1)
   |_=>exact Snd.no
 |Attribute v a pos=>exact Snd.uo λi hi=>Snd.u1 (Z.x sc v) λx hx=>qfd qe3 hx (q0R hi).1
 |Subscript v sl pos=>exact qfl Z sc v sl pos
 |Tuple es k pos=>exact Snd.u1 (qfi Z sc es) λa ha=>qf9 ha.1 (λenv=>(ha.2 env).1) (λenv=>(ha.2 env).2)
 |_=>exact Snd.no
omit Z in
theorem q4r{α:Type}{l:List α}(h:q3L l=true):l=[]:=by cases l with|nil=>rfl|cons=>exact zF h
omit Z in
theorem qfJ{e:Expr}(h:q1U e=false)(line:Nat)(env:Env):swapsWith e none line env=pure false:=by
 refine bFl (b:=q1U e) ?_ h
 cases e with
 |ListComp|SetComp|DictComp=>exact trivial
 |_=>exact @rfl _ (pure false)
theorem qdc(T:q2Z B c)(ix:List (Nat×Nat))(sc:Scope)(st:Stmt):Snd (λx=>SS B sc x st) (qeV c ix sc st):=by
 cases st with
 |Expr e pos=>exact Snd.ug λh=>Snd.u1 (Z.x sc e) λa ha=>qd3 ha λenv=>qfJ (notB h) _ env
 |Return o pos=>cases o with
  |none=>exact Snd.u0 qd0
  |some e=>exact Snd.u1 (Z.x sc e) λa ha=>qf3 ha
 |Assign ts e pos=>
  rcases ts with _|⟨t,_|⟨t',r⟩⟩
  ·exact Snd.no
  ·exact qha Z sc t e pos
  ·exact Snd.no
 |If e a b pos=>exact Snd.u3 (Z.t sc e) (s_cB Z sc a) (s_cB Z sc b) λx y z hx hy hz=>qgX hx hy hz
 |For t i b l pos=>exact Snd.ug λh=>by rw[q4r h];exact qh4 Z sc t i b pos
 |While e b l pos=>exact Snd.ug λh=>by rw[q4r h];exact Snd.u2 (Z.t sc e) (s_cB Z sc b) λx y hx hy=>qf1 q4X hx hy
 |Raise o q pos=>cases o with
  |none=>exact Snd.no
  |some e=>cases q with
   |none=>exact Snd.u1 (Z.x sc e) λa ha=>qf4 ha
   |some=>exact Snd.no
 |Try b hs l l' pos=>exact Snd.ug λh=>by rw[q4r (and2 h).1,q4r (and2 h).2];exact qgY Z sc b hs pos
 |FunctionDef name a b dl rt tp scope ts bind pos=>
  refine Snd.ug λh=>?_
  rw[q4r (and2 h).1,q4r (and2 h).2]
  cases rt with
  |some=>exact Snd.no
  |none=>cases ts with
   |some=>exact Snd.no
   |none=>exact qh7 T ix sc name a b scope bind pos
 |_=>exact Snd.no
omit Z in
theorem sound(ix:List (Nat×Nat))(T:∀n,q2Z B (comp ix n)):∀n,Sound B (comp ix n)
 |0=>⟨λ_ _=>Snd.no,λ_ _=>Snd.no,λ_ _=>Snd.no,λ_ _=>Snd.no⟩
 |n+1=>⟨qda (sound ix T n) (T n) ix,qdb (sound ix T n),qdd (sound ix T n),qdc (sound ix T n) (T n) ix⟩
end
section
open PySem PySem.W
open PyProof PyProof.Rows
variable{B:Base}{A:Around}{env:Env}{E:Value→Shared→Prop}{s:Shared}{f:Str→Option Value}
theorem qb7(b y:Nat):((b:Int)^((4:Int)+((y+1:Nat):Int)).toNat)=((b^(4+(y+1)):Nat):Int):=by
 have h:((4:Int)+((y+1:Nat):Int)).toNat=4+(y+1):=rfl
 rw[h]
 exact(Int.natCast_pow b _).symm
theorem q6n{e:Expr}{i:Int}{p q r pos:Pos}{Q:Flow→Shared→Prop}(he:q1U e=false)(hs:swappedStores [ePen i p q r] e env=pure none)
  (h:wpG (model B.prog B.w) A (eval e env) (λv s₁=>wpG (model B.prog B.w) A (assign (ePen i p q r) env v) (λ_ s₂=>Q .next s₂) E s₁) E s):wpG (model B.prog B.w) A (exec (.Assign [ePen i p q r] e pos) env) Q E s:=
 q0r (q05 h (λv s₁ z=>z) λ_ _ z=>z) (q3G (by rw[he];rfl) _ env) hs
inductive PenK(s₀:Shared)(a:Addr)(x y:Nat)(s:Shared):Prop
 |mk (h:_) (tk:_) (t:_) (u:_) (n:_) (h0_:s={s₀ with heap:=h,toks:=tk}) (h1_:Heap.SameBut a s₀.heap h) (h2_:h.get? a=some (q09 [.int x t,.int y u] n)):PenK s₀ a x y s
theorem PenK.kE8{s₀:Shared}{a:Addr}{x y:Nat}{s:Shared}{X_:Prop}(h_:PenK s₀ a x y s)(k_:∀(h:_)(tk:_)(t:_)(u:_)(n:_) (h0_:s={s₀ with heap:=h,toks:=tk}) (h1_:Heap.SameBut a s₀.heap h) (h2_:h.get? a=some (q09 [.int x t,.int y u] n)),X_):X_:=PenK.rec (motive:=λ_=>X_) k_ h_
theorem PenK.toks{s₀:Shared}{a:Addr}{x y:Nat}{s:Shared}{k:Tok}(h:PenK s₀ a x y s):PenK s₀ a x y {s with toks:=k}:=by
 refine h.kE8 ?_;clear h;intro h' tk t u n o1 b c;subst o1
 exact⟨h',k,t,u,n,rfl,b,c⟩
theorem PenK.ns{s₀:Shared}{a L:Addr}{x y:Nat}{s:Shared}(h:PenK s₀ a x y s)(hL:L≠a)(hn:s₀.heap.Ns L f):s.heap.Ns L f:=by
 refine h.kE8 ?_;clear h;intro h' tk t u n o1 b _;subst o1
 refine X3x2 hn ?_;clear hn;intro o es ep c d
 exact⟨o,es,ep,(b.2 L hL).trans c,d⟩
section
variable{s₀:Shared}{a:Addr}(hk:env.scope.kind=.function)(hlp:env.scope.names.lookup ("pen":Str)=some .local)(hlm:env.scope.names.lookup ("many":Str)=some .local)
 (hn:s₀.heap.Ns env.locals f) (hp:f ("pen":Str)=some (.ref a)) (ha:env.locals≠a)
include hk hlp hn hp ha
theorem q2u{x y:Nat}{i:Nat}{v:Nat}{p q r:Pos}{Q:Value→Shared→Prop}(K:PenK s₀ a x y s)(hj:(i=0∧v=x)∨(i=1∧v=y))(h:∀t s',PenK s₀ a x y s'→Q (.int v t) s') :
  wpAny (model B.prog B.w) A (eval (ePen i p q r) env) Q E s:=by
 have hns:=K.ns ha hn
 refine K.kE8 ?_;clear K;intro h' tk t u n o1 b e;subst o1
 focus (refine Z4 hj ?_ ?_;rotate_left;clear hj;intro o1;refine X0x2 o1 ?_;clear o1;intro o2 o3;subst o2;subst o3;rotate_right;clear hj;intro o4;refine X0x2 o4 ?_;clear o4;intro o5 o6;subst o5;subst o6)
 ·exact qcd (j:=0) hk hlp hns hp e rfl (by decide) (λt'=>h t _ ⟨h',t',t,u,n,rfl,b,e⟩) (by decide)
 ·exact qcd (j:=1) hk hlp hns hp e rfl (by decide) (λt'=>h u _ ⟨h',t',t,u,n,rfl,b,e⟩) (by decide)
theorem q3B{x y z:Nat}{i:Nat}{t:Tok}{p q r:Pos}{Q:Unit→Shared→Prop}(K:PenK s₀ a x y s)(hi:i<2)(h:∀s',PenK s₀ a (if i=0 then z else x) (if i=0 then y else z) s'→Q () s') :
  wpAny (model B.prog B.w) A (assign (ePen i p q r) env (.int z t)) Q E s:=by
 have hns:=K.ns ha hn
 refine K.kE8 ?_;clear K;intro h' tk t' u n o1 b e;subst o1
 refine qdq (j:=i) hk hlp hns hp e rfl hi ?_ (λh₂ t₂ n₂ hs hg=>h _ ?_) (by decide)
 ·obtain rfl|rfl:i=0∨i=1:=by lia
  ·decide
  ·decide
 ·obtain rfl|rfl:i=0∨i=1:=by lia
  ·exact⟨h₂,t₂,t,u,n₂,rfl,b.trans hs,hg⟩
  ·exact⟨h₂,t₂,t',t,n₂,rfl,b.trans hs,hg⟩
theorem qfD{x y:Nat}{D:Nat→Pos}{Q:Flow→Shared→Prop}(hy:y≤90)(K:PenK s₀ a x y s)
  (h:∀s',PenK s₀ a (if x=0 then 1000000009^(4+(y+1)) else x) (if x=0 then y+1 else y) s'→Q .next s'):wpG (model B.prog B.w) A (exec (.If (.Compare (ePen 0 (D 0) (D 1) (D 2)) [.Eq] [eI 0 (D 3)] (D 4))
  [.Assign [ePen 1 (D 5) (D 6) (D 7)] (.BinOp (ePen 1 (D 8) (D 9) (D 10)) .Add (eI 1 (D 11)) (D 12)) (D 13),
   .Assign [ePen 0 (D 14) (D 15) (D 16)] (.BinOp (eI 1000000009 (D 17)) .Pow (.BinOp (eI 4 (D 18)) .Add (ePen 1 (D 19) (D 20) (D 21)) (D 22)) (D 23)) (D 24)] [] (D 25)) env) Q E s:=by
 refine qc0 (q18 rfl (toG (q2u hk hlp hn hp ha (i:=0) K (.inl ⟨rfl,rfl⟩) λt s₁ K₁=>toG (wpAny_Constant_int (toG (PyProof.Rows.eq_int (toG (wpAny_truthy_bool ?_))))))))
 have K₁:=K₁.toks (k:=s₁.toks+1)
 by_cases hx:x=0
 ·subst hx
  simp only[if_true] at h
  refine q0h (q6n (by rfl) rfl (q0B (toG (q2u hk hlp hn hp ha (i:=1) K₁ (.inr ⟨rfl,rfl⟩) λt₁ s₂ K₂=>toG (wpAny_Constant_int (toG (P.add_int (toG ?_))))))))
  refine q3B hk hlp hn hp ha (i:=1) (z:=y+1) (K₂.toks (k:=s₂.toks+1) |>.toks) (by decide) λs₃ K₃=>?_
  have K₃:PenK s₀ a 0 (y+1) s₃:=K₃
  refine q0h (q6n (by rfl) rfl (q0B (toG (wpAny_Constant_int (q0B (toG (wpAny_Constant_int (toG (q2u hk hlp hn hp ha (i:=1) K₃.toks (.inr ⟨rfl,rfl⟩) λt₂ s₄ K₄=>toG (P.add_int (toG (PyProof.Rows.pow_int ?_ ?_ (toG ?_)))))))))))))
  ·lia
  ·have h1:Builtin.Int.intBits (1000000009:Int)≤64:=intBits_le_64 (by decide) (by decide)
   have h2:((Builtin.Int.intBits (1000000009:Int):Nat):Int)≤64:=Int.ofNat_le.mpr h1
   have h3:((Builtin.Int.intBits (1000000009:Int):Nat):Int)*(4+((y+1:Nat):Int))≤64*100:=Int.mul_le_mul h2 (by lia) (by lia) (by decide)
   exact Int.le_trans h3 (by decide)
  ·have e:((1000000009:Int)^((4:Int)+((y+1:Nat):Int)).toNat)=((1000000009^(4+(y+1)):Nat):Int):=qb7 1000000009 y
   rw[e]
   refine q3B hk hlp hn hp ha (i:=0) (z:=1000000009^(4+(y+1))) K₄.toks.toks (by decide) λs₅ K₅=>q0p (h s₅ K₅)
 ·have hx':((x:Int)==0)=false:=by simpa using hx
  rw[hx']
  simp only[if_neg hx] at h
  exact q0p (h _ K₁)
end
theorem qbQ(y:Nat)(hy:y≤90):1000000009^(4+(y+1))<2^6000:=by
 have h1:(1000000009:Nat)^(4+(y+1))≤1000000009^95:=Nat.pow_le_pow_right (by decide) (by lia)
 exact Nat.lt_of_le_of_lt h1 (by decide +kernel)
theorem q6B{σ:S}{m:Nat}{fs:List (Nat×Nat)}{x₁ y₁:Nat}{k:SV→List (Nat×Nat)→S→Bool}(h:qcq m σ k fs=true)(hF:Follows x₁ y₁ fs)(hx:x₁≠0) :
  m≠0∧m<100∧∃r,Follows (x₁/m) y₁ r∧(k (.int (.lit (.ofNat (x₁%m)))) r σ=true∨(m=20∧r=[]∧σ.varK (λn σ=>k (.int (.var n 0)) [] σ)=true)):=by
 cases fs with
 |nil=>
  have h:bi (Nat.beq m 0) false (bi (Nat.ble m 8) (qat (λi=>k (.int (.lit (.ofNat i))) [] σ) m) (bi (Nat.beq m 20) (σ.varK (λn σ=>k (.int (.var n 0)) [] σ)) false))=true:=h
  cases e0:Nat.beq m 0 with
  |true=>rw[e0] at h;exact zF h
  |false=>
  have h0:m≠0:=λq=>by rw[q] at e0;exact zT e0
  rw[e0] at h
  have h:bi (Nat.ble m 8) (qat (λi=>k (.int (.lit (.ofNat i))) [] σ) m) (bi (Nat.beq m 20) (σ.varK (λn σ=>k (.int (.var n 0)) [] σ)) false)=true:=h
  refine Z4 (q1c h) (λo2=>X0x2 o2 λh1 h2=>?_) λo1=>X0x2 o1 λh1 h2=>?_
  ·have h1:=Z8 h1
   refine⟨h0,by lia,[],trivial,.inl ?_⟩
   have key:∀n,qat (λi=>k (.int (.lit (.ofNat i))) [] σ) n=true→∀i,i<n→k (.int (.lit (.ofNat i))) [] σ=true:=by
    intro n
    induction n with
    |zero=>intro _ i hi;lia
    |succ n ih=>
     intro hh i hi
     have hh:bi (qat (λi=>k (.int (.lit (.ofNat i))) [] σ) n) (k (.int (.lit (.ofNat n))) [] σ) false=true:=hh
     refine q06 hh ?_;intro a b
     by_cases q:i=n
     ·subst q;exact b
     ·exact ih a i (by lia)
   exact key m h2 _ (Nat.mod_lt _ (by lia))
  ·refine q06 h2 ?_;intro h3 h4
   have h3:=Z9 h3
   exact⟨h0,by lia,[],trivial,.inr ⟨h3,rfl,h4⟩⟩
 |cons f r=>
  have h:bi (Nat.beq f.1 m) (bi (Nat.beq m 0) false (bi (Nat.ble m 8) (k (.int (.lit (.ofNat f.2))) r σ) false)) false=true:=h
  refine q06 h ?_;intro h1 h
  have h1:=Z9 h1
  cases e0:Nat.beq m 0 with
  |true=>rw[e0] at h;exact zF h
  |false=>
  have h0:m≠0:=λq=>by rw[q] at e0;exact zT e0
  rw[e0] at h
  have h:bi (Nat.ble m 8) (k (.int (.lit (.ofNat f.2))) r σ) false=true:=h
  refine q06 h ?_;intro h2 h
  have h2:=Z8 h2
  refine X0x2 hF ?_;clear hF;intro F1 F2
  rw[h1] at F1 F2
  simp only[q1u,if_neg hx] at F1 F2
  exact⟨h0,by lia,r,F2,.inl (by rw[F1];exact h)⟩
theorem q84{σ:S}{v:SV}{k:Nat→Nat→List (Nat×Nat)→Bool}(h:qfF σ v k=true):∃p b fs,v=.own p∧σ.get p=some (.pen b fs)∧k p b fs=true:=by
 refine q00 h ?_;intro p h1 h
 refine q00 h ?_;intro o1 h2 h;obtain⟨b,fs⟩:=o1
 refine q02 h2 ?_;intro o h3 h4
 rw[q9e h4] at h3
 exact⟨p,b,fs,q0L h1,h3,h⟩
end
section
open PySem PySem.W
open PyProof PyProof.Rows
theorem S.putK_get{σ:S}{k:Nat}{o:SO}{f:S→Bool}(h:σ.putK k o f=true):∃τ,Put σ k o τ∧τ.get k=some o∧f τ=true:=by
 obtain⟨T,n,nv,kc,frs⟩:=σ
 have h:Tr.setK T k (some o) (λT=>f ⟨T,n,nv,kc,frs⟩)=true:=h
 refine X1x3 (Tr.setK_get h) ?_;intro T' e gi sp
 refine⟨⟨T',n,nv,kc,frs⟩,⟨λj o' g=>?_,rfl,rfl,rfl,rfl⟩,gi,e⟩
 by_cases a:j=k
 ·subst a;exact .inl ⟨rfl,Z6 (gi.symm.trans g)⟩
 ·exact .inr ⟨a,(sp j a).symm.trans g⟩
theorem Follows.fix{x y:Nat}:∀{fs:List (Nat×Nat)},Follows x y fs→Follows (if x=0 then 1000000009^(4+(y+1)) else x) (if x=0 then y+1 else y) fs
 |[],_=>trivial
 |f::r,h=>by
  by_cases hx:x=0
  ·have hz:(1000000009:Nat)^(4+(y+1))≠0:=Nat.ne_of_gt (Nat.pow_pos (by decide))
   refine X0x2 h ?_;clear h;intro h1 h2
   unfold q1u at h1 h2
   rw[if_pos hx] at h1 h2
   rw[if_pos hx,if_pos hx]
   refine⟨?_,?_⟩
   ·unfold q1u;rw[if_neg hz];exact h1
   ·unfold q1u;rw[if_neg hz];exact h2
  ·rw[if_neg hx,if_neg hx];exact h
section
variable{B:Base}{sc:Scope}
theorem qe7{D:Nat→Pos}(h1:sc.names.lookup ("pen":Str)=some .local)(h2:sc.names.lookup ("many":Str)=some .local)(h3:sc.names.lookup ("found":Str)=some .local){pn mn fn:Nat}
  (e1:nm pn="pen") (e2:nm mn="many") (e3:nm fn="found"):SSs B sc (qfr pn mn fn) (q3T D):=λn W fs c X σ s kr kn O R h=>by
 refine q00 h ?_;intro pv l1 h
 refine q00 h ?_;intro mv l2 h
 refine q00 h ?_;intro m l3 h
 rw[q1v l3] at l2
 refine X3x3 (q84 h) ?_;intro p b gs o1 g1 h';subst o1
 refine q06 h' ?_;intro hb h
 have hb:=Z8 hb
 refine X1x3 (S.putK_get h) ?_;intro τ₁ P₁ gτ h
 refine X2x2 (S.loc_some l1) ?_;intro q r₀ f1 f2
 refine X2x2 (S.loc_some l2) ?_;intro q' r₀' f1' f2'
 rw[f1] at f1';cases f1'
 refine X2x3 (R.frame f1) ?_;intro L f h5 hns h7
 refine X2x2 O.loc ?_;intro fr fs' h8 h9
 refine X1x2 (R.head f1) ?_;intro fs'' h10 _
 have hq:q.1=fr:=by rw[h8] at h10;cases h10;rfl
 have hqf:q.1∈fs:=by rw[h8,hq];exact .head _
 have h5':=h5
 rw[hq,h9] at h5'
 cases h5'
 have vp:=h7 pn
 rw[f2,e1] at vp
 refine X1x1 vp ?_;clear vp;intro up o1;refine X0x2 o1 ?_;clear o1;intro hup o2;refine X1x2 o2 ?_;clear o2;intro fp hρ o3;subst o3
 have vm:=h7 mn
 rw[f2',e2] at vm
 refine X1x2 vm ?_;clear vm;intro um hum hm
 refine q0d hm ?_;intro tm o1 _;subst o1
 refine X5x4 (R.objs _ _ _ g1 hρ) ?_;intro x y t u k ha hy hx hF
 have hLa:X.env.locals≠fp.a:=λz=>by
  have hne:q.1≠p:=λz=>by rw[←z,R.frn q.1 hqf] at g1;exact zN g1
  exact R.sep _ _ _ _ h5 hρ hne _ (.head _) (z▸.head _)
 have hk:X.env.scope.kind=.function:=by rw[O.esc];exact O.kind
 have hlp:X.env.scope.names.lookup ("pen":Str)=some .local:=by rw[O.esc];exact h1
 have hlm:X.env.scope.names.lookup ("many":Str)=some .local:=by rw[O.esc];exact h2
 have hlf:X.env.scope.names.lookup ("found":Str)=some .local:=by rw[O.esc];exact h3
 unfold q3T
 refine q0h (qfD hk hlp hns hup hLa (Nat.le_trans hy hb) ⟨s.heap,s.toks,t,u,k,rfl,Heap.SameBut.refl _ _,ha⟩ λs₁ K₁=>?_)
 have hF₁:=hF.fix
 have hx₁:(if x=0 then 1000000009^(4+(y+1)) else x)<2^6000:=by
  by_cases z:x=0
  ·rw[if_pos z];exact qbQ y (Nat.le_trans hy hb)
  ·rw[if_neg z];exact hx
 have hx0:(if x=0 then 1000000009^(4+(y+1)) else x)≠0:=by
  by_cases z:x=0
  ·rw[if_pos z];exact Nat.ne_of_gt (Nat.pow_pos (by decide))
  ·rw[if_neg z];exact z
 have hy₁:(if x=0 then y+1 else y)≤b+1:=by
  exact q2A (P:=λz=>z≤b+1) (Nat.succ_le_succ hy) (Nat.le_succ_of_le hy)
 generalize (if x=0 then 1000000009^(4+(y+1)) else x)=x₁ at *
 generalize (if x=0 then y+1 else y)=y₁ at *
 have hns₁:=K₁.ns hLa hns
 refine K₁.kE8 ?_;clear K₁;intro hp₁ tk₁ t₁ u₁ k₁ o1 sb₁ ea₁;subst o1
 have R₁:Rel B W fs τ₁ {s with heap:=hp₁,toks:=tk₁}:=R.upd P₁ g1 hρ (.head _) sb₁ ⟨_,ea₁⟩ ⟨x₁,y₁,t₁,u₁,k₁,ea₁,hy₁,hx₁,hF₁⟩ (λo es nn e z=>by rw[ha] at e;(refine zI e ?_;clear e;rintro rfl);cases z) rfl rfl
 refine X0x2 (q6B h hF₁ hx0) ?_;intro hm0 o1;refine X0x2 o1 ?_;clear o1;intro hm100 o2;refine X1x2 o2 ?_;clear o2;intro r hFr h
 have hmod:x₁%m<m:=Nat.mod_lt _ (by lia)
 have key:∃W₁ τ₂ sv,W.le W₁∧W₁.ρ=W.ρ∧Rel B W₁ fs τ₂ {s with heap:=hp₁,toks:=tk₁}∧τ₂.frs=σ.frs∧τ₂.get p=some (.pen (b+1) gs)∧Follows x₁ y₁ gs∧(∀t,VR W₁ sv (.int ((x₁%m:Nat):Int) t))∧
   τ₂.setLocK fn sv (λσ=>σ.putK p (.pen (Nat.succ b) r) (λσ=>kr sv σ))=true:=by
  focus (refine Z4 h ?_ ?_;rotate_left;clear h;intro o1;refine X0x3 o1 ?_;clear o1;intro o2 o3 h9;subst o2;subst o3;rotate_right;clear h;intro h)
  ·exact⟨W,τ₁,_,.refl W,rfl,R₁,P₁.frs,gτ,hF₁,λt=>q13 (by show x₁%m<_;lia),h⟩
  ·refine X1x2 (S.varK_true h9) ?_;intro τ₂ Z h8
   refine⟨⟨W.ρ,W.ν++[((x₁%20:Nat):Int)],W.κ,W.γ,W.δ⟩,τ₂,.int (.var τ₁.nv 0),⟨List.prefix_refl _,List.prefix_append _ _,λ_ h=>h,rfl,rfl⟩,rfl,R₁.var Z (x:=((x₁%20:Nat):Int)) (Int.natCast_nonneg _) (by lia),by rw[Z.frs];exact P₁.frs,by rw[Z.get];exact gτ,hF₁,λt=>?_,h8⟩
   refine⟨_,t,rfl,⟨((x₁%20:Nat):Int),?_,by lia⟩,by lia⟩
   show (W.ν++[((x₁%20:Nat):Int)])[τ₁.nv]?=_
   rw[←R₁.lenv];simp
 refine X3x8 key ?_;clear key;intro W₁ τ₂ sv le hWρ R₂ hfr gτ₂ hFol hsv h
 refine X4x3 (S.setLocK_true h) ?_;intro a₂ m₂ r₂ τ₃ f3 Z₃ h
 refine S.putK_true_E3 h ?_;intro τ₄ P₄ h
 rw[hfr,f1] at f3
 cases f3
 have hnf:∀{z:Str},z≠("found":Str)→∀(g:Str→Option Value)(v:Value),(λy=>if y=("found":Str) then some v else g y) z=g z:=λhz g v=>if_neg hz
 have np:("pen":Str)≠("found":Str):=by decide
 have nmm:("many":Str)≠("found":Str):=by decide
 refine q0h (q0r (q0B (toG (q2u (s₀:={s with heap:=hp₁,toks:=tk₁}) hk hlp hns₁ hup hLa (i:=0) ⟨hp₁,tk₁,t₁,u₁,k₁,rfl,Heap.SameBut.refl _ _,ea₁⟩ (.inl ⟨rfl,rfl⟩) λt₂ s₂ K₂=>?_))) (q3G rfl _ X.env) rfl)
 have hns₂:=K₂.ns hLa hns₁
 refine toG (q2z hk hlm hns₂ hum (toG ?_) (by decide))
 refine PyProof.Rows.mod_int' (by simpa using hm0) ?_
 have em:((x₁:Int).fmod (m:Int))=((x₁%m:Nat):Int):=by rw[Int.fmod_eq_emod_of_nonneg _ (Int.natCast_nonneg m)];rfl
 show wpG (model B.prog B.w) X.A (assign (eN "found" (D 26)) X.env (.int ((x₁:Int).fmod (m:Int)) _)) _ _ _
 rw[em]
 show wpG _ _ (do standAt (D 26);bindName X.env ("found":Str) _) _ _ _
 refine toG<|Z0 (wpAny_standAt (wpAny_bindName (wpAny_storeName_local (by unfold Env.kindOf;exact hlf) hns₂ (λh₃ hn₃ sb₃=>?_) (by rw[hk];rfl))))
 refine K₂.kE8 ?_;clear K₂;intro hp₂ tk₂ t₃ u₃ k₃ o1 sb₂ ea₂;subst o1
 have hρ₁:W₁.ρ[p]?=some fp:=by rw[hWρ];exact hρ
 have hρL:=h5
 rw[←hWρ] at hρL
 have R₃:Rel B W₁ fs τ₂ {s with heap:=hp₂,toks:=tk₂}:=R₂.upd (Put.self gτ₂) gτ₂ hρ₁ (.head _) sb₂ ⟨_,ea₂⟩ ⟨x₁,y₁,t₃,u₃,k₃,ea₂,hy₁,hx₁,hFol⟩ (λo es nn e z=>by rw[ea₁] at e;(refine zI e ?_;clear e;rintro rfl);cases z) rfl rfl
 have ea₃:h₃.get? fp.a=some (q09 [.int x₁ t₃,.int y₁ u₃] k₃):=(sb₃.2 _ (Ne.symm hLa)).trans ea₂
 have hn₃:h₃.Ns X.env.locals (λy=>if y=("found":Str) then some (Value.int ((x₁%m:Nat):Int) tk₂) else f y):=hn₃
 have R₄:Rel B W₁ fs τ₃ {s with heap:=h₃,toks:=tk₂}:=R₃.setLoc (by rw[hfr,f1]) Z₃ hρL (h7.mono le) (hsv tk₂) (by rw[e3];exact hn₃) sb₃ rfl rfl
 have hup₃:(λy=>if y=("found":Str) then some (Value.int ((x₁%m:Nat):Int) tk₂) else f y) ("pen":Str)=some (.ref fp.a):=(hnf np _ _).trans hup
 have hum₃:(λy=>if y=("found":Str) then some (Value.int ((x₁%m:Nat):Int) tk₂) else f y) ("many":Str)=some (.int m tm):=(hnf nmm _ _).trans hum
 have hfo₃:(λy=>if y=("found":Str) then some (Value.int ((x₁%m:Nat):Int) tk₂) else f y) ("found":Str)=some (.int ((x₁%m:Nat):Int) tk₂):=if_pos rfl
 generalize (λy=>if y=("found":Str) then some (Value.int ((x₁%m:Nat):Int) tk₂) else f y)=f₃ at hn₃ hup₃ hum₃ hfo₃
 refine q0h (q6n (by rfl) rfl (q0B (toG (q2u (s₀:={s with heap:=h₃,toks:=tk₂}) hk hlp hn₃ hup₃ hLa (i:=0) ⟨h₃,_,t₃,u₃,k₃,rfl,Heap.SameBut.refl _ _,ea₃⟩ (.inl ⟨rfl,rfl⟩) λt₄ s₄ K₄=>?_))))
 have hn₄:=K₄.ns hLa hn₃
 refine toG (q2z hk hlm hn₄ hum₃ (toG ?_) (by decide))
 have ed:((x₁:Int).fdiv (m:Int))=((x₁/m:Nat):Int):=by rw[Int.fdiv_eq_ediv_of_nonneg _ (Int.natCast_nonneg m)];rfl
 refine AutoIntOps.floordiv_1 (by simpa using hm0) (λz=>?_) ?_
 ·exact q5C (by simpa using hm0) (show m<_ by lia) z
 rw[ed]
 refine toG (q3B hk hlp hn₃ hup₃ hLa (i:=0) (z:=x₁/m) K₄.toks (by decide) λs₅ K₅=>?_)
 have hn₅:=K₅.ns hLa hn₃
 refine q0h (q0Q (toG (q2z hk hlf hn₅ hfo₃ ?_ (by decide))))
 refine K₅.kE8 ?_;clear K₅;intro h₅ tk₅ t₆ u₆ k₆ o1 sb₅ ea₅;subst o1
 have R₅:Rel B W₁ fs τ₄ {s with heap:=h₅,toks:=tk₅}:=R₄.upd P₄ (by rw[Z₃.get];exact gτ₂) hρ₁ (.head _) sb₅ ⟨_,ea₅⟩ ⟨x₁/m,y₁,t₆,u₆,k₆,ea₅,hy₁,Nat.lt_of_le_of_lt (Nat.div_le_self _ _) hx₁,hFr⟩ (λo es nn e z=>by rw[ea₃] at e;(refine zI e ?_;clear e;rintro rfl);cases z) rfl rfl
 exact⟨W₁,τ₄,le,R₅,_,hsv _,h⟩
end
end
section
open PySem PySem.W
open PyProof PyProof.Rows
variable{B:Base}{A:Around}{env:Env}{E:Value→Shared→Prop}{s s₀:Shared}{m:Str→Option Value}
theorem qeg{x:Str}{p q:Pos}{e:Expr}{f:Value}{Q:Value→Shared→Prop}(hA:A.handled=none)(he:q0Z e=false)(hl:∀Q:Value→Shared→Prop,Q f s→wpAny (model B.prog B.w) A (eval (eN x p) env) Q E s)(hk:∀s,Keeps B f s)
  (h:wpG (model B.prog B.w) A (eval e env) (λv s'=>wpG (model B.prog B.w) A (call f [v]) Q E s') E s):wpG (model B.prog B.w) A (eval (.Call (eN x p) [e] [] q) env) Q E s:=by
 show wpG _ A (do callWith q (←eval (eN x p) env) [] (backTo q (starEach [e] env)) []) Q E s
 refine q01 (toG (hl _ ?_))
 refine q0q hA (q0z (by rw[q1d he];rfl)) ?_
 refine q0F (q1d he) (q05 h (λv s₁ h₁=>?_) λ_ _ z=>z)
 exact q0P ⟨hk _,h₁⟩
noncomputable def PenB(k N:Nat):Prop:=N≤10^(31+6*k)
theorem qdr:(10:Int)^(30:Int).toNat≠0:=by decide +kernel
theorem PenB.step{k N:Nat}{c:Int}(h:PenB k N):∃N':Nat,(N:Int)*999979+((2*(if c<0 then -c else c)+(if decide (c<0)=true then 1 else 0)).fmod ((10:Int)^(30:Int).toNat))=(N':Int)∧PenB (k+1) N':=by
 have e:((10:Int)^(30:Int).toNat)=((10^30:Nat):Int):=by decide
 rw[e]
 generalize hx:(2*(if c<0 then -c else c)+(if decide (c<0)=true then 1 else 0):Int)=x
 rw[Int.fmod_eq_emod_of_nonneg _ (Int.natCast_nonneg _)]
 have h1:0≤x%((10^30:Nat):Int):=Int.emod_nonneg _ (by decide)
 have h2:x%((10^30:Nat):Int)<((10^30:Nat):Int):=Int.emod_lt_of_pos _ (by decide)
 refine X1x1 (Int.eq_ofNat_of_zero_le h1) ?_;intro y hy
 rw[hy] at h2⊢
 refine⟨N*999979+y,by rw[Int.natCast_add,Int.natCast_mul];rfl,?_⟩
 have h2:y<10^30:=Int.ofNat_lt.mp h2
 unfold PenB at *
 have e1:(10:Nat)^(31+6*(k+1))=10^(31+6*k)*1000000:=by rw[show 31+6*(k+1)=(31+6*k)+6 from rfl,Nat.pow_add]
 have e2:(10:Nat)^30≤10^(31+6*k):=Nat.pow_le_pow_right (by decide) (Nat.le_trans (by decide) (Nat.le_add_right 31 _))
 rw[e1]
 generalize (10:Nat)^(31+6*k)=b at *
 exact pows x hy h e2
structure PenF(B:Base)(env:Env)(s₀:Shared)(A:Around):Prop where
 kind:env.scope.kind=.function
 num:env.scope.names.lookup ("number":Str)=some .local
 cel:env.scope.names.lookup ("cell":Str)=some .local
 scr:env.scope.names.lookup ("script":Str)=some .local
 abs:env.scope.names.lookup ("abs":Str)=some .globalImplicit
 int:env.scope.names.lookup ("int":Str)=some .globalImplicit
 hd:A.handled=none
 old:OldK B.h₀ s₀.heap
 lab:∀(Q:Value→Shared→Prop)(E:Value→Shared→Prop)(s:Shared),OldK B.h₀ s.heap→Q (.builtin "abs") s→wpAny (model B.prog B.w) A (loadGlobal env ("abs":Str)) Q E s
 lin:∀(Q:Value→Shared→Prop)(E:Value→Shared→Prop)(s:Shared),OldK B.h₀ s.heap→Q (.type "int") s→wpAny (model B.prog B.w) A (loadGlobal env ("int":Str)) Q E s
variable(F:PenF B env s₀ A)
include F
theorem qds{p:Pos}{L:Addr}{Q:Value→Shared→Prop}(I:InCall s₀ L m s)(h:Q (.builtin "abs") s):wpAny (model B.prog B.w) A (eval (eN "abs" p) env) Q E s:=
 Calls.Name_function_global F.kind (by unfold Env.kindOf;exact F.abs) (F.lab Q E s (F.old.step_keeps I.keep) h) (by decide)
theorem q9c{p:Pos}{L:Addr}{Q:Value→Shared→Prop}(I:InCall s₀ L m s)(h:Q (.type "int") s):wpAny (model B.prog B.w) A (eval (eN "int" p) env) Q E s:=
 Calls.Name_function_global F.kind (by unfold Env.kindOf;exact F.int) (F.lin Q E s (F.old.step_keeps I.keep) h) (by decide)
theorem qdp{D:Nat→Pos}{k N:Nat}{c:Int}{t u:Tok}{Q:Value→Shared→Prop}(I:InCall s₀ env.locals m s)(hn:m ("number":Str)=some (.int N t))(hc:m ("cell":Str)=some (.int c u))(hb:PenB k N)
  (h:∀N' t' tk,PenB (k+1) N'→Q (.int N' t') {s with toks:=tk}):wpG (model B.prog B.w) A (eval (q7b D) env) Q E s:=by
 have nm:∀{x:Str}{v:Value}{p:Pos}{s':Shared}{Q:Value→Shared→Prop},env.scope.names.lookup x=some .local→m x=some v→(x==("__debug__":Str))=false→InCall s₀ env.locals m s'→Q v s'→wpAny (model B.prog B.w) A (eval (eN x p) env) Q E s':=
  λhl hv hd I h=>q2z F.kind hl I.ns hv h hd
 refine X1x2 (PenB.step (c:=c) hb) ?_;intro N' hN hb'
 have I₁:=λk=>I.tok k
 unfold q7b
 refine q0B (q0B (toG (nm F.num hn (by decide) I ?_)))
 refine toG (wpAny_Constant_int (toG ?_))
 refine PyProof.Rows.mul_int ?_ (IntMulOk.of_right (intBits_le_64 (by decide) (by decide)))
 refine q0B (q0B (q0B ?_))
 refine toG (wpAny_Constant_int ?_)
 refine qeg F.hd (by rfl) (λQ h=>qds F (I₁ _) h) (λs=>q15) ?_
 refine qeg F.hd (by rfl) (λQ h=>q9c F (I₁ _) h) (λs=>q0U) ?_
 refine toG (nm F.cel hc (by decide) (I₁ _) (toG ?_))
 refine call_int_int (toG ?_)
 refine call_abs_int λt₂ tk₂=>toG ?_
 refine PyProof.Rows.mul_int ?_ (IntMulOk.of_left (intBits_le_64 (by decide) (by decide)))
 refine qeg F.hd (by rfl) (λQ h=>q9c F (I₁ _) h) (λs=>q0U) ?_
 refine q30 rfl (toG (nm F.cel hc (by decide) (I₁ _) ?_))
 refine toG (wpAny_Constant_int (toG ?_))
 refine PyProof.Rows.lt_int (toG ?_)
 refine call_int_bool (toG ?_)
 refine P.add_int ?_
 refine q0B (toG (wpAny_Constant_int ?_))
 refine toG (wpAny_Constant_int (toG ?_))
 refine PyProof.Rows.pow_int (by decide) ?_ (toG ?_)
 ·have h1:Builtin.Int.intBits (10:Int)≤64:=intBits_le_64 (by decide) (by decide)
  have h2:((Builtin.Int.intBits (10:Int):Nat):Int)≤64:=Int.ofNat_le.mpr h1
  have h3:((Builtin.Int.intBits (10:Int):Nat):Int)*30≤64*30:=Int.mul_le_mul h2 (by decide) (by decide) (by decide)
  exact Int.le_trans h3 (by decide)
 refine PyProof.Rows.mod_int' qdr (toG ?_)
 refine P.add_int ?_
 exact cast (congrArg (λz=>Q (.int z _) _) hN.symm) (h N' _ _ hb')
end
section
open PySem PySem.W
open PyProof PyProof.Rows
variable{B:Base}{A:Around}{env:Env}{E:Value→Shared→Prop}{s s₀:Shared}{m:Str→Option Value}
theorem qhl{L:Addr}{m':Str→Option Value}{h':Heap}{tk:Tok}(I:InCall s₀ L m s)(hn:h'.Ns L m')(hs:Heap.ExtBut L s.heap h'):InCall s₀ L m' {s with heap:=h',toks:=tk}:=by
 obtain⟨⟨h,t,rfl⟩,b,c,d⟩:=I
 exact⟨⟨h',tk,rfl⟩,hn,λb o e=>hs b o (Nat.ne_of_lt (Za (Z7 e) d)) (c b o e),d⟩
theorem qgi{L a:Addr}{h':Heap}{tk:Tok}(I:InCall s₀ L m s)(ha:s₀.heap.objs.size≤a)(hL:L≠a)(hs:Heap.ExtBut a s.heap h'):InCall s₀ L m {s with heap:=h',toks:=tk}:=by
 obtain⟨⟨h,t,rfl⟩,⟨o,es,ep,b1,b2⟩,c,d⟩:=I
 exact⟨⟨h',tk,rfl⟩,⟨o,es,ep,hs L o hL b1,b2⟩,λb o e=>hs b o (Nat.ne_of_lt (Za (Z7 e) ha)) (c b o e),d⟩
theorem q9P{L:Addr}{ob:Obj}{tk:Tok}(I:InCall s₀ L m s):InCall s₀ L m {s with heap:=s.heap.push ob,toks:=tk}:=I.pushedS ob tk
theorem icLe{L:Addr}(I:InCall s₀ L m s):s₀.heap.objs.size≤s.heap.objs.size:=by
 obtain⟨_,⟨o,_,_,e,_⟩,_,d⟩:=I
 exact Nat.le_trans d (Nat.le_of_lt (Z7 e))
theorem icLt{L:Addr}(I:InCall s₀ L m s):L<s.heap.objs.size:=by
 obtain⟨_,⟨o,_,_,e,_⟩,_,d⟩:=I
 exact Z7 e
theorem q3g{x:Str}{v:Value}{p:Pos}{Q:Unit→Shared→Prop}(hk:env.scope.kind=.function)(hl:env.scope.names.lookup x=some .local)(I:InCall s₀ env.locals m s)
  (h:∀h',InCall s₀ env.locals (λy=>if y=x then some v else m y) {s with heap:=h',toks:=s.toks+1}→Heap.ExtBut env.locals s.heap h'→Q () {s with heap:=h',toks:=s.toks+1}):wpAny (model B.prog B.w) A (assign (eN x p) env v) Q E s:=by
 show wpAny _ _ (do standAt p;bindName env x v) _ _ _
 refine Z0 (wpAny_standAt (wpAny_bindName (wpAny_storeName_local (by unfold Env.kindOf;exact hl) I.ns (λh' hn hs=>?_) (by rw[hk];rfl))))
 exact h h' (qhl I hn hs.extBut) hs.extBut
noncomputable def qax(s₀:Shared):Flow→Shared→Prop:=λf s'=>∃(l N:Nat)(t u n:Nat),f=.ret (.ref l)∧s₀.heap.objs.size≤l∧s'.heap.get? l=some (q09 [.int N t,.int 0 u] n)∧N<2^6000∧
 (∃h tk,s'={s₀ with heap:=h,toks:=tk})∧∀b o,s₀.heap.get? b=some o→s'.heap.get? b=some o
theorem q9d{k N:Nat}(h:PenB k N)(hk:k≤20):N<2^6000:=by
 have h1:10^(31+6*k)≤10^151:=Nat.pow_le_pow_right (by decide) (by lia)
 exact Nat.lt_of_le_of_lt (Nat.le_trans h h1) (by decide +kernel)
theorem qb8{D:Nat→Pos}{l it:Addr}{items:List Value}{ns:List Int}{R:Result→Shared→Prop}(F:PenF B env s₀ A)(hit:IntsAre items ns)(hsz:items.length≤20)(h1:s₀.heap.objs.size≤l)(h2:s₀.heap.objs.size≤it)(h3:env.locals≠l)(h4:env.locals≠it)(h5:l≠it)
  (hR:∀s m N t,InCall s₀ env.locals m s→m ("number":Str)=some (.int ((N:Nat):Int) t)→N<2^6000→R (.ok .next) s)
  (I:InCall s₀ env.locals m s) {t:Tok} (hm:m ("number":Str)=some (.int (23:Nat) t)) (hl:s.heap.IsList l items.toArray) (hi:s.heap.IsListIter it l 0) :
  q0E (model B.prog B.w) A (.forLoop (eN "cell" (D 3)) (.ref it) [.Assign [eN "number" (D 8)] (q7b D) (D 30)] [] env) R s:=by
 have nc:("number":Str)≠("cell":Str):=by decide
 refine q1y (λn s=>∃k m N t,n+k=items.length∧InCall s₀ env.locals m s∧m ("number":Str)=some (.int ((N:Nat):Int) t)∧PenB k N∧s.heap.IsList l items.toArray∧s.heap.IsListIter it l k) ?_ items.length
  ⟨0,m,23,t,rfl,I,hm,by unfold PenB;decide,hl,hi⟩
 intro n s oP
 refine X4x6 oP ?_;clear oP;intro k m N t hk I hm hb hl hi
 cases e:items[k]? with
 |none=>
  refine toG (wpAny_pyNext_list_end F.hd hi hl (by simpa using e) λh' hs=>?_)
  have hkl:k≤20:=by
   have:=List.getElem?_eq_none_iff.mp e
   lia
  exact q0p (hR _ m N t (qgi I h2 h4 hs) hm (q9d hb hkl))
 |some v=>
  refine X2x2 (hit.at k v e) ?_;intro c u o1 _;subst o1
  have hkl:k<items.length:=(List.getElem?_eq_some_iff.mp e).1
  refine toG (wpAny_pyNext_list_item (x:=.int c u) hi hl (by simpa using e) λh₁ hi₁ hs₁=>?_)
  have I₁:InCall s₀ env.locals m {s with heap:=h₁}:=qgi I h2 h4 hs₁.extBut
  have hl₁:h₁.IsList l items.toArray:=hl.extBut hs₁.extBut h5
  show wpG _ _ (pure ()) _ _ _
  refine q03 (toG (q3g F.kind F.cel I₁ λh₂ I₂ hs₂=>?_))
  have hl₂:h₂.IsList l items.toArray:=hl₁.extBut hs₂ (Ne.symm h3)
  have hi₂:h₂.IsListIter it l (k+1):=by(refine X1x2 hi₁ ?_;clear hi₁;intro o a b);exact⟨o,hs₂ it o (Ne.symm h4) a,b⟩
  refine q0h (q0r ?_ (q3G rfl _ env) rfl)
  refine qdp F I₂ ((if_neg nc).trans hm) (if_pos rfl) hb λN' t' tk hb'=>?_
  refine toG (q3g F.kind F.num (I₂.tok tk) λh₃ I₃ hs₃=>?_)
  refine q0p ⟨n-1,by lia,k+1,_,N',t',by lia,I₃,if_pos rfl,hb',hl₂.extBut hs₃ (Ne.symm h3),?_⟩
  exact by(refine X1x2 hi₂ ?_;clear hi₂;intro o a b);exact⟨o,hs₃ it o (Ne.symm h4) a,b⟩
theorem qba{D:Nat→Pos}{S:Addr}{vs:List Value}{ns:List Int}{n:Nat}(F:PenF B env s₀ A)(I:InCall s₀ env.locals m s)(hS:m ("script":Str)=some (.ref S))(hl:s₀.heap.get? S=some (q09 vs n))(hi:IntsAre vs ns)(hz:vs.length≤4096) :
  wpG (model B.prog B.w) A (execs (q5w D) env) (qax s₀) E s:=by
 have np:("script":Str)≠("number":Str):=by decide
 have nc:("number":Str)≠("cell":Str):=by decide
 unfold q5w
 refine q0h (q0r ?_ (q3G rfl _ env) rfl)
 refine toG (wpAny_Constant_int ?_)
 refine toG (q3g F.kind F.num (I.tok _) λh₁ I₁ _=>?_)
 refine q0h (q4J ?_ (λx=>rfl))
 rw[eval_Subscript]
 refine q01 (toG (q2z F.kind F.scr I₁.ns ((if_neg np).trans hS) ?_ (by decide)))
 refine q01 (q04 (q2q ?_))
 rw[evalPart_none,evalPart_some]
 refine q03 (toG (wpAny_Constant_int ?_))
 refine toG (Z3 ?_)
 have hls:(h₁.push {cls:=.type "slice",data:=.fields #[.none,.int 20 (s.toks+1+1),.none]}).get? S=some (q09 vs n):=Z5 _ (I₁.keep _ _ hl)
 refine q01 (q07 (toG ?_))
 refine q1K (λo i=>.inr rfl) ⟨"list",_,list_getitem_lookup,⟨_,hls,rfl⟩⟩ (wpAny_getItem_list_slice (q0b hls) (Heap.IsSliceOf.new _ _ _ _) .none (.int 20 _) .none (by simp) ?_ (by simp only[List.size_toArray];exact q0i hz))
 rw[q1M]
 obtain⟨items,hits,⟨ns',hit⟩,hsz⟩:∃items:List Value,((vs.toArray.toList.drop ((none:Option Int).elim 0 (clipAt vs.toArray.size))).take ((some (20:Int)).elim vs.toArray.size (clipAt vs.toArray.size)-(none:Option Int).elim 0 (clipAt vs.toArray.size)))=items∧(∃ns',IntsAre items ns')∧items.length≤20:=by
  refine⟨_,rfl,⟨_,(hi.drop _).take _⟩,?_⟩
  rw[List.length_take]
  exact Nat.le_trans (Nat.min_le_left _ _) (qeb _)
 rw[hits]
 refine toG (wpAny_pyIter_list (l:=(h₁.push {cls:=.type "slice",data:=.fields #[.none,.int 20 (s.toks+1+1),.none]}).objs.size) (items:=items.toArray) ⟨_,Zb _ rfl,rfl,_,rfl⟩ ?_)
 have I₂:=q9P (q9P (q9P I₁ (ob:={cls:=.type "slice",data:=.fields #[.none,.int 20 (s.toks+1+1),.none]}) (tk:=s.toks+1+1+1)) (ob:={cls:=.type "list",data:=.seq items.toArray}) (tk:=s.toks+1+1+1))
  (ob:={cls:=.type "list_iterator",data:=.fields #[.ref (h₁.push {cls:=.type "slice",data:=.fields #[.none,.int 20 (s.toks+1+1),.none]}).objs.size,.int 0 0]}) (tk:=s.toks+1+1+1)
 have hb1:=icLt I₁
 have hb2:=icLe I₁
 have hb1:env.locals<h₁.objs.size:=hb1
 have hb2:s₀.heap.objs.size≤h₁.objs.size:=hb2
 have z1:∀ob:Obj,(h₁.push ob).objs.size=h₁.objs.size+1:=λob=>Heap.size_push ..
 have z2:∀ob ob':Obj,((h₁.push ob).push ob').objs.size=h₁.objs.size+2:=λob ob'=>by rw[Heap.size_push,z1]
 refine qb8 F hit hsz ?_ ?_ ?_ ?_ ?_ ?_ I₂ (if_pos rfl) ⟨_,Z5 _ (Zb _ rfl),rfl,_,rfl⟩ ⟨_,Zb _ rfl,rfl,rfl⟩
 ·exact Nat.le_trans hb2 (Nat.le_of_lt (by rw[z1];exact Nat.lt_succ_self _))
 ·show s₀.heap.objs.size≤((h₁.push _).push _).objs.size
  rw[z2];exact Nat.le_trans hb2 (Nat.le_add_right _ _)
 ·rw[z1];exact Nat.ne_of_lt (Nat.lt_succ_of_lt hb1)
 ·show env.locals≠((h₁.push _).push _).objs.size
  rw[z2];exact Nat.ne_of_lt (Za hb1 (Nat.le_add_right _ _))
 ·show (h₁.push _).objs.size≠((h₁.push _).push _).objs.size
  rw[z1,z2];exact Nat.ne_of_lt (Nat.lt_succ_self _)
 intro s₅ m₅ N t I₅ hm₅ hN
 refine q0h (q0Q (q6T ?_))
 refine q0F rfl (toG (q2z F.kind F.num I₅.ns hm₅ ?_ (by decide)))
 refine q0F rfl (toG (wpAny_Constant_int (q0P (toG ?_))))
 refine wpAny_newList ?_ (q0i (by show 2≤4096;decide))
 have hle:=icLe I₅
 obtain⟨⟨h,tk,rfl⟩,c1,c2,c3⟩:=I₅
 exact⟨_,N,_,_,0,rfl,hle,Zb _ rfl,hN,⟨h.push _,tk+1,rfl⟩,λb o e=>Z5 _ (c2 b o e)⟩
end
section
set_option backward.match.sparseCases false
open PySem PySem.W PySem.Calls PyProof.Rows
theorem TT.get_node{α:Type}(v:Option α)(l r:TT α)(i:Nat):(TT.node v l r).get i=if i=0 then v else if i%2=1 then l.get (i/2) else r.get (i/2-1):=by
 show bi (Nat.beq i 0) v (bi (Nat.beq (i%2) 1) (l.get (i/2)) (r.get (i/2-1)))=_
 rw[q0g,q0g]
 by_cases h:i=0
 ·simp[h]
 ·by_cases q:i%2=1<;>simp[h,q]
theorem TT.all_get{α:Type}{p:Nat→α→Bool}{t:TT α}:∀{f:Nat→Nat}{i:Nat}{a:α},t.all p f=true→t.get i=some a→p (f i) a=true:=by
 induction t with
 |nil=>intro f i a _ e;exact oN e
 |node v l r il ir=>
  intro f i a h e
  refine q08 (show (oE v true (p (f 0))&&l.all p (λj=>f (2*j+1))&&r.all p (λj=>f (2*j+2)))=true from h) ?_;intro h h3
  refine q08 h ?_;intro h1 h2
  rw[TT.get_node] at e
  by_cases h0:i=0
  ·subst h0;rw[if_pos rfl] at e;subst e;exact h1
  ·rw[if_neg h0] at e
   by_cases q:i%2=1
   ·rw[if_pos q] at e
    have:=il h2 e
    rwa[od2 q] at this
   ·rw[if_neg q] at e
    have:=ir h3 e
    rwa[ev2 h0 q] at this
theorem TT.map_get{α β:Type}{g:Nat→α→β}{t:TT α}:∀{f:Nat→Nat}{i:Nat},(t.map g f).get i=(t.get i).map (g (f i)):=by
 induction t with
 |nil=>intro f i;rfl
 |node v l r il ir=>
  intro f i
  show (TT.node (v.map (g (f 0))) (l.map g (λj=>f (2*j+1))) (r.map g (λj=>f (2*j+2)))).get i=_
  rw[TT.get_node,TT.get_node]
  by_cases h0:i=0
  ·subst h0;rfl
  ·rw[if_neg h0,if_neg h0]
   by_cases q:i%2=1
   ·rw[if_pos q,if_pos q,il,od2 q]
   ·rw[if_neg q,if_neg q,ir,ev2 h0 q]
theorem q1J{v:Value}{a:Addr}(h:q6g v=some a):v=.ref a:=oEl (P:=λa=>v=.ref a) (by cases v with|ref=>exact rfl|_=>exact trivial) h
theorem q3t{v:Value}{a:Str×Tok}(h:qaJ v=some a):v=.str a.1 a.2:=oEl (P:=λa=>v=.str a.1 a.2) (by cases v with|str=>exact rfl|_=>exact trivial) h
theorem q3u{v:Value}{a:Int×Tok}(h:qaK v=some a):v=.int a.1 a.2:=oEl (P:=λa=>v=.int a.1 a.2) (by cases v with|int=>exact rfl|_=>exact trivial) h
theorem q6h{v:Value}{a:Array UInt8×Tok}(h:q8J v=some a):v=.bytes a.1 a.2:=oEl (P:=λa=>v=.bytes a.1 a.2) (by cases v with|bytes=>exact rfl|_=>exact trivial) h
theorem q4g{v:Value}{a:Bool}(h:q8K v=some a):v=.bool a:=oEl (P:=λa=>v=.bool a) (by cases v with|bool=>exact rfl|_=>exact trivial) h
theorem q2s{v:Value}{a:String}(h:vTy? v=some a):v=.type a:=oEl (P:=λa=>v=.type a) (by cases v with|type=>exact rfl|_=>exact trivial) h
theorem q6U{v:Value}{a:String}(h:vBi? v=some a):v=.builtin a:=oEl (P:=λa=>v=.builtin a) (by cases v with|builtin=>exact rfl|_=>exact trivial) h
theorem q4L{v:Value}(h:vNo v=true):v=.none:=by cases v with|none=>rfl|_=>exact bF h
theorem qa6{v:Data}{a:Array Value×Nat}(h:qgy v=some a):v=.seq a.1 a.2:=oEl (P:=λa=>v=.seq a.1 a.2) (by cases v with|seq=>exact rfl|_=>exact trivial) h
theorem q8j{v:Data}{a:Array DictEntry×Nat}(h:qcx v=some a):v=.dict a.1 a.2:=oEl (P:=λa=>v=.dict a.1 a.2) (by cases v with|dict=>exact rfl|_=>exact trivial) h
theorem q1Y{v:Data}{a:Array Value}(h:q3h v=some a):v=.fields a:=oEl (P:=λa=>v=.fields a) (by cases v with|fields=>exact rfl|_=>exact trivial) h
theorem q8i{v:Data}{a:FuncData}(h:q7E v=some a):v=.func a:=oEl (P:=λa=>v=.func a) (by cases v with|func=>exact rfl|_=>exact trivial) h
theorem qa7{v:Data}{a:ClassData}(h:qea v=some a):v=.cls a:=oEl (P:=λa=>v=.cls a) (by cases v with|cls=>exact rfl|_=>exact trivial) h
theorem q6G{v:Data}(h:qcw v=true):v=.plain:=by cases v with|plain=>rfl|_=>exact bF h
theorem objE{o:Obj}{c:Value}{d:Option Addr}{x:Data}{l:Array (Option Value)}(h1:o.cls=c)(h2:o.dict=d)(h3:o.data=x)(h4:o.slots=l):o=⟨c,d,x,l⟩:=by subst h1 h2 h3 h4;rfl
theorem qar{α:Type}{a:Array α}(h:a.isEmpty=true):a=#[]:=by simpa using h
theorem q7c{α:Type}{a:Option α}(h:a.isNone=true):a=none:=by cases a with|none=>rfl|some b=>exact bF h
theorem qci{α:Type}{a:List α}(h:a.isEmpty=true):a=[]:=by cases a with|nil=>rfl|cons b r=>exact bF h
theorem tyEq{a b:String}(h:(a==b)=true):a=b:=beq_iff_eq.mp h
theorem q4M{x:SV}{v:Value}(h:svIs x v=true)(W:Wd):VR W x v:=by
 cases x with
 |none=>exact q4L h
 |bool b=>(refine q00 h ?_;intro c e h);rw[beq_iff_eq.mp h];exact q4g e
 |int i=>
  cases i with
  |lit i=>
   refine q00 h ?_;intro c e h
   have h1:c.1=i:=of_decide_eq_true (and2 h).1
   exact⟨i,c.2,by rw[←h1];exact q3u e,rfl,Z8 (and2 h).2⟩
  |var _ _=>exact bF h
 |str l=>
  refine q00 h ?_;intro c e h
  have h1:=(and2 h).1
  rw[q2T] at h1
  have h1:l=_:=of_decide_eq_true h1
  exact⟨c.2,by rw[h1];exact q3t e,Z8 (and2 h).2⟩
 |bytes l=>
  refine q00 h ?_;intro c e h
  exact⟨_,_,q6h e,q3J (and2 h).1,Z8 (and2 h).2⟩
 |ty n=>(refine q00 h ?_;intro c e h);rw[tyEq h] at e;exact q2s e
 |bi n=>(refine q00 h ?_;intro c e h);rw[tyEq h] at e;exact q6U e
 |old n=>(refine q00 h ?_;intro c e h);rw[Z9 h];exact q1J e
 |_=>exact bF h
theorem q71{W:Wd}:∀{l:List SV}{q:List Value},qcR l q=true→VRs W l q
 |[],[],_=>.nil
 |x::r,v::q,h=>.cons (q4M (and2 h).1 W) (q71 (and2 h).2)
 |[],_::_,h=>by exact zF h
 |_::_,[],h=>by exact zF h
theorem q5z{α β:Type}{o:Option α}{f:α→List β}{p:β}(h:p∈oE o [] f):∃a,o=some a∧p∈f a:=by
 cases o with
 |none=>exact nomatch h
 |some a=>exact⟨a,rfl,h⟩
section
variable(G:Addr→Option Obj)
theorem q7e{a:Addr}{p:Addr×Obj}(h:p∈qdx G a):G p.1=some p.2:=by
 refine X1x2 (q5z h) ?_;intro o e h
 rw[List.mem_singleton.mp h];exact e
theorem qgc{a:Addr}{p:Addr×Obj}(h:p∈kAt G a):G p.1=some p.2:=by
 refine X1x2 (q5z h) ?_;intro o e h
 refine Z4 (List.mem_cons.mp h) ?_ (λh=>?_);rintro rfl
 ·exact e
 ·refine Z4 (List.mem_append.mp h) (λh=>?_) λh=>?_
  ·refine X1x2 (q5z h) ?_;intro _ _ h
   exact q7e G h
  ·refine X1x2 (q5z h) ?_;intro _ _ h
   refine X1x2 (q5z h) ?_;intro _ _ h
   exact q7e G h
theorem qay{a:Addr}{o:Obj}(e:(Kof G).lookup a=some o):G a=some o:=by
 refine X1x2 (List.mem_flatMap.mp (q7l e)) ?_;intro b _ hb
 exact qgc G hb
theorem qfH(x:Str)(es:Array DictEntry):nsQ x es.toList=nsFind es x:=by
 obtain⟨l⟩:=es
 unfold nsFind findBy
 rw[List.find?_toArray]
 show nsQ x l=_
 induction l with
 |nil=>rfl
 |cons e r ih=>
  rw[List.find?_cons]
  obtain⟨hs,key,val⟩:=e
  cases key with
  |str s t=>
   show @Bool.rec (λ_=>Option Value) (nsQ x r) (some val) (sEq s x)=Option.map _ (match s==x with|true=>some (⟨hs,.str s t,val⟩:DictEntry)|false=>r.find? _)
   cases h:sEq s x with
   |true=>rw[q1k h];simp
   |false=>
    have:¬s=x:=λq=>by
     have:sEq s x=true:=PySem.W.Fast.sEq_iff.mpr q
     rw[h] at this;exact zF this
    rw[show (s==x)=false from beq_eq_false_iff_ne.mpr this]
    exact ih
  |_=>exact ih
set_option backward.match.sparseCases true in
theorem q2x{h:Heap}{a:Addr}{x:Str}{r:Option Value}(hG:∀a o,G a=some o→h.get? a=some o)(e:nsAt G a x=some r):h.nsMap a x=r:=by
 refine q02 e ?_;intro o q e
 refine q02 e ?_;intro p d e
 unfold Heap.nsMap
 rw[hG _ _ q]
 show (match o.data with|.dict es _=>nsFind es x|_=>none)=r
 rw[q8j d]
 exact(qfH x p.1).symm.trans (Z6 e)
theorem q6W{K:Frag}{a:Addr}{xs:List SV}(h:qaO K a xs=true):∃vs n,K.lookup a=some (q0J vs n)∧(∀W,VRs W xs vs)∧xs.length≤4096:=by
 refine q00 h ?_;intro o q h
 refine q00 h ?_;intro t q1 h
 refine q00 h ?_;intro p q2 h
 have q1:=q2s q1
 rw[tyEq (and2 h).1] at q1
 have h:=(and2 h).2
 have h2:=(and2 h).2
 have h3:=(and2 h2).2
 exact⟨p.1.toList,p.2,q.trans (congrArg some (objE q1 (q7c (and2 h).1) (qa6 q2) (qar (and2 h2).1))),λW=>q71 (and2 h3).1,Z8 (and2 h3).2⟩
def fnIs(K:Frag)(a:Addr)(f:Fn):Bool:=(match fdAt K a with|some fd=>fdIs G K f fd|none=>false)&&keepIn K (.ref a)
end
end
section
open PySem PySem.W PySem.Calls PyProof.Rows
def q61(K:Frag)(a:Addr):Option (SC×Ob):=oO (fdAt K a) λfd=>oO (q6N fd.body) λb=>cB (comp tix 60) fd.scope b
def pAt(a:Addr):Option (Scope×List Stmt):=oO (pthT.get a) λq=>fAt q.1 q.2
def lnkB:Bool:=fnT.all (λa _=>oE (alook fnL a) false λq=>oE (pthT.get a) false λr=>Nat.beq r.1 q.1&&Nat.beq r.2 q.2.1) id
theorem q8a{α:Type}{p:Program}{w:World}{N:Nat}{os:OsState}{f:BT→Nat→Option α}{r:α}(h:qdY none p w N (boot_heap w.params) os f=some r) :
  ∃T n g d k os',topRun treeTable p w (boot_heap w.params).objs.size ((boot_heap w.params).nsMap mainGlobals "__annotations__") N ⟨boot_heap w.params,Array.mk [],boot_drawn,boot_toks,os⟩ (topStub p)=some ⟨absHeap T n (boot_heap w.params).life,g,d,k,os'⟩∧f T n=some r:=by
 refine X1x2 (q7d (life:=(boot_heap w.params).life) (l₀:=[]) h (by intro q;exact zS q) rfl) ?_;intro T a b
 rw[Nat.zero_add] at a b
 obtain⟨T',n',g',d',k',os',c,f⟩:=q7u (life:=(boot_heap w.params).life) b (by intro q;exact zS q)
 have hh:absHeap T (boot_heap w.params).objs.toList.length (boot_heap w.params).life=boot_heap w.params:=by rw[a];rfl
 rw[hh] at c
 exact⟨T',n',g',d',k',os',c,f⟩
theorem q5y{p:Program}{w:World}{N:Nat}{s:Shared}(e:opening p=plainProg p.main.scope.names)(hN:Nat.ble 600 N=true)(hf:∀s,fenceModules? p s=some s)(h:openEnds treeTable p w N=some s) :
  ∃os,topRun treeTable p w (boot_heap w.params).objs.size ((boot_heap w.params).nsMap mainGlobals "__annotations__") N ⟨boot_heap w.params,Array.mk [],boot_drawn,boot_toks,os⟩ (topStub p)=some s:=by
 refine X1x2 (Option.map_eq_some_iff.mp (boot_open e hN hf w)) ?_;intro o1 e1 e2;obtain⟨h₀,gs,d,k,os⟩:=o1
 obtain⟨rfl,rfl,rfl,rfl⟩:h₀=boot_heap w.params∧gs=Array.mk []∧d=boot_drawn∧k=boot_toks:=by simpa using e2
 unfold openEnds at h
 rw[e1] at h
 have h:topFrom treeTable p w N ⟨boot_heap w.params,Array.mk [],boot_drawn,boot_toks,os⟩=some s:=h
 unfold topFrom at h
 split at h
 ·refine X1x2 (Option.bind_eq_some_iff.mp h) ?_;intro s' h1 h2
  split at h2
  ·(refine zI h2 ?_;clear h2;rintro rfl);exact⟨os,h1⟩
  ·exact zN h2
 ·exact zN h
noncomputable def q2f(p:Program)(N:Nat)(w:World):Heap:=match openEnds treeTable p w N with|some s=>s.heap|none=>{}
theorem q4i{p:Program}{N:Nat}{w:World}{s:Shared}(h:openEnds treeTable p w N=some s):q2f p N w=s.heap:=by
 unfold q2f
 rw[h]
theorem q5o{p:Program}{N:Nat}{w:World}{α:Type}{f:BT→Nat→Option α}{r:α}(e:opening p=plainProg p.main.scope.names)(hN:Nat.ble 600 N=true)(hf:∀s,fenceModules? p s=some s)(ho:(openEnds treeTable p w N).isSome=true)
  (h:∀os,qdY none p w N (boot_heap w.params) os f=some r):∃T n life,q2f p N w=absHeap T n life∧f T n=some r:=by
 refine X1x1 (Option.isSome_iff_exists.mp ho) ?_;intro s hs
 refine X1x1 (q5y e hN hf hs) ?_;intro os hr
 refine X6x2 (q8a (h os)) ?_;intro T n g d k os' h1 h2
 rw[hr] at h1
 refine⟨T,n,(boot_heap w.params).life,?_,h2⟩
 rw[q4i hs,Z6 h1]
theorem qbB{T:BT}{n:Nat}{life:Life}{a:Addr}{o:Obj}(h:getT T n a=some o):(absHeap T n life).get? a=some o:=by
 unfold getT at h
 cases e:Nat.blt a n with
 |false=>rw[e] at h;exact zN h
 |true=>
  rw[e] at h
  have lt:a<n:=Z8 e
  have h:(match T.get a with|some o=>alive o|none=>none)=some o:=h
  cases q:T.get a with
  |none=>rw[q] at h;exact zN h
  |some o'=>rw[q] at h;rw[abs_get lt q];exact h
end
section
open PySem PySem.W PySem.Calls PyProof.Rows
variable{G:Addr→Option Obj}{K:Frag}{h:Heap}
theorem clsE{cd:ClassData}{C C':Addr}(h:cd.mro.headD .none=.ref C')(h2:C'=C)(h3:cd.hasDict=true)(h4:cd.hasDel=false):cd={cd with mro:=.ref C::cd.mro.tail,hasDict:=true,hasDel:=false}:=by
 obtain⟨a,b,m,c,d,e,f,g,i,j,k⟩:=cd
 cases m with
 |nil=>cases h
 |cons x r=>
  have h:x=.ref C':=h
  have h3:e=true:=h3
  have h4:k=false:=h4
  subst h h2 h3 h4;rfl
theorem q88{α:Type}{l:List α}{n:Nat}(h:l.length=n+1):∃a r,l=a::r∧r.length=n:=by
 cases l with
 |nil=>exact nomatch h
 |cons a r=>exact⟨a,r,rfl,Nat.succ.inj h⟩
theorem six{l:Array (Option Value)}{w:Value}{n m:String}(h:l.size=6)(h1:oO l[4]? id=some w)(h2:w=.builtin n)(h3:n=m):l=#[l[0]!,l[1]!,l[2]!,l[3]!,some (.builtin m),l[5]!]:=by
 obtain⟨l⟩:=l
 refine X2x2 (q88 (n:=5) h) ?_;intro a l1 o1 k1;subst o1
 refine X2x2 (q88 k1) ?_;intro b l2 o1 k2;subst o1
 refine X2x2 (q88 k2) ?_;intro c l3 o1 k3;subst o1
 refine X2x2 (q88 k3) ?_;intro d l4 o1 k4;subst o1
 refine X2x2 (q88 k4) ?_;intro e l5 o1 k5;subst o1
 refine X2x2 (q88 k5) ?_;intro f l6 o1 k6;subst o1
 rw[List.length_eq_zero_iff.mp k6,show e=_ from h1,h2,h3];rfl
theorem q3Z{C:Addr}{c:Cls}(e:q63 K C c=true)(hx:c.isExc=false):ClsF K C c∧makesIn K C=true∧findIn K (.ref C) "__init__"=some (some (.ref c.init))∧isFn K (.ref c.init)=true:=by
 unfold q63 at e
 rw[hx] at e
 simp only[Bool.and_eq_true,beq_iff_eq] at e
 refine X0x2 e ?_;clear e;intro o1 e8;refine X0x2 o1 ?_;clear o1;intro o2 e7;refine X0x2 o2 ?_;clear o2;intro o3 e6;refine X0x2 o3 ?_;clear o3;intro o4 e5;refine X0x2 o4 ?_;clear o4;intro o5 e4;refine X0x2 o5 ?_;clear o5;intro o6 e3;refine X0x2 o6 ?_;clear o6;intro e1 e2
 have e8:q4S K C c=true:=e8
 unfold q4S at e8
 simp only[Bool.and_eq_true] at e8
 refine X0x2 e8 ?_;clear e8;intro o1 g4;refine X0x2 o1 ?_;clear o1;intro o2 g3;refine X0x2 o2 ?_;clear o2;intro g1 g2
 refine⟨⟨λname=>g1,g2,g3,e3,λi hi=>?_,λi f hi=>?_⟩,g4,e1,e2⟩
 ·exact beq_iff_eq.mp (List.all_eq_true.mp e4 i (q22 hi))
 ·have:=List.all_eq_true.mp e5 _ (q1r hi)
  simp only[Bool.and_eq_true,beq_iff_eq] at this
  exact this
theorem qaa{C:Addr}{c:Cls}(e:q63 K C c=true)(hx:c.isExc=true):ExcF K C c:=by
 unfold q63 at e
 rw[hx] at e
 simp only[Bool.and_eq_true,beq_iff_eq] at e
 refine X0x2 e ?_;clear e;intro o1 e8;refine X0x2 o1 ?_;clear o1;intro o2 e7;refine X0x2 o2 ?_;clear o2;intro o3 e6;refine X0x2 o3 ?_;clear o3;intro o4 e5;refine X0x2 o4 ?_;clear o4;intro o5 e4;refine X0x2 o5 ?_;clear o5;intro o6 e3;refine X0x2 o6 ?_;clear o6;intro e1 e2
 have e8:qcu K C=true:=e8
 refine q00 e8 ?_;intro o el e8
 refine q00 e8 ?_;intro t f1 e8
 refine q00 e8 ?_;intro cd f2 e8
 refine q00 e8 ?_;intro C' f3 e8
 refine q08 e8 ?_;intro g1 e8
 refine q08 e8 ?_;intro g2 e8
 refine q08 e8 ?_;intro g3 e8
 refine q08 e8 ?_;intro g4 e8
 refine q08 e8 ?_;intro g5 e8
 refine q08 e8 ?_;intro g6 e8
 refine q08 e8 ?_;intro g7 e8
 refine q08 e8 ?_;intro g8 g9
 refine q00 g7 ?_;intro v g7 g10
 refine q00 g10 ?_;intro n g10 g11
 refine⟨⟨cd.name,cd.qualname,cd.ns,cd.bases,cd.mro.tail,cd.slotNames,cd.subclasses,cd.abstract,cd.collection,o.dict,o.slots[0]!,o.slots[1]!,o.slots[2]!,o.slots[3]!,o.slots[5]!,el.trans (congrArg some (objE ((q2s f1).trans (congrArg _ (tyEq g1))) rfl ((qa7 f2).trans (congrArg _ ?_)) ?_)),notB g4,g6⟩,e1,e2,e3,λi hi=>beq_iff_eq.mp (List.all_eq_true.mp e4 i (q22 hi)),beq_iff_eq.mp g9⟩
 ·exact clsE (q1J f3) (Z9 g2) g3 (notB g5)
 ·exact six (Z9 g8) g7 (q6U g10) (tyEq g11)
theorem q4B{C:Addr}{c:Cls}(e:q63 K C c=true):(∃f,funs.fn.get c.init=some f)∧keepIn K (.ref C)=true:=by
 unfold q63 at e
 simp only[Bool.and_eq_true,beq_iff_eq] at e
 refine X0x2 e ?_;clear e;intro o1 e8;refine X0x2 o1 ?_;clear o1;intro o2 e7;refine X0x2 o2 ?_;clear o2;intro o3 e6;refine X0x2 o3 ?_;clear o3;intro o4 e5;refine X0x2 o4 ?_;clear o4;intro o5 e4;refine X0x2 o5 ?_;clear o5;intro o6 e3;refine X0x2 o6 ?_;clear o6;intro e1 e2
 refine⟨?_,e6⟩
 cases q:funs.fn.get c.init with
 |none=>rw[q] at e7;exact zF e7
 |some f=>exact⟨f,rfl⟩
variable(hG:∀a o,G a=some o→h.get? a=some o)
include hG
theorem q3W{B:Base}(hB:B.h₀=h){fd:FuncData}(e:qa9 G fd.code fd.qualname=true):CodeAt B fd:=by
 refine q00 e ?_;intro c hc e
 refine q08 e ?_;intro e1 e
 refine q00 e ?_;intro o q e
 refine q00 e ?_;intro vs f e
 refine q00 e ?_;intro z hz e
 refine q00 e ?_;intro s hs e
 exact⟨c,o,vs,s.2,q1J hc,(λz=>by rw[z,Nat.beq_refl] at e1;exact zF e1),by rw[hB];exact hG _ _ q,q1Y f,by rw[hz,q3t hs,q1k e]⟩
theorem qaQ{q:Addr×Addr}{mg:Str→Option Value}(hm:mg=h.nsMap mainGlobals)(e:qcK G q=true):CodeHd h q.1 q.2∧h.BuiltinsAt mg q.2∧mainGlobals≠q.2∧h.get? q.2=some (tabObj #[]):=by
 refine q08 e ?_;intro e1 e
 refine q08 e ?_;intro e2 e
 refine q08 e ?_;intro e3 e
 refine q08 e ?_;intro e4 e5
 have nb:∀{a b:Nat},(!Nat.beq a b)=true→a≠b:=λh z=>by rw[z,Nat.beq_refl] at h;exact zF h
 refine⟨?_,?_,nb e3,?_⟩
 ·refine q00 e1 ?_;intro o g e
  refine q00 e ?_;intro t k1 e
  refine q00 e ?_;intro vs k2 e
  refine q00 e ?_;intro x1 g3 e
  refine q00 e ?_;intro x2 g4 e
  refine q00 e ?_;intro x3 g5 e
  refine q00 e ?_;intro x4 g6 e
  refine q08 e ?_;intro g1 g2
  have g2:=beq_iff_eq.mp g2
  exact⟨o,vs,x1.1,x1.2,x2.1,x2.2,x3,x4.1,x4.2,hG _ _ g,(q2s k1).trans (congrArg _ (tyEq g1)),q1Y k2,g2,by rw[Array.getD_eq_getD_getElem?,g2];rfl,q3t g3,q3u g4,q4g g5,q3u g6,nb e2⟩
 ·refine q00 e5 ?_;intro v hb e
  refine q00 e ?_;intro v hv e
  refine q00 e ?_;intro bm k e
  rw[hv,q1J k] at hb
  have hb:=q2x G hG hb
  refine q08 e ?_;intro g1 e
  refine q08 e ?_;intro g2 e
  refine q08 e ?_;intro g3 e
  refine q00 e ?_;intro o g e
  refine q00 e ?_;intro t k1 e
  refine q00 e ?_;intro d k2 e
  refine q08 e ?_;intro k3 e
  refine q08 e ?_;intro k4 k5
  exact⟨bm,o,by rw[hm];exact hb,nb g1,nb g2,nb g3,hG _ _ g,(q2s k1).trans (congrArg _ (tyEq k4)),k2.trans (congrArg some (Z9 k5)),q6G k3⟩
 ·refine q00 e4 ?_;intro o g e
  refine q00 e ?_;intro vs k2 e
  refine q08 e ?_;intro g1 e
  refine q08 e ?_;intro g2 e
  exact(hG _ _ g).trans (congrArg some (objE (q4L g2) (q7c (and2 e).1) ((q1Y k2).trans (congrArg _ (qar g1))) (qar (and2 e).2)))
theorem q2G{x:Str}{y:SV}{prog:Program}{w:World}(e:q19 G x y=true)(hmc:q3N G mainGlobals=true)(hbc:q3N G builtinsNs=true)(hm:h.Ns mainGlobals (h.nsMap mainGlobals))(hb:h.Ns builtinsNs (h.nsMap builtinsNs)) :
  ∃v,(∀W,VR W y v)∧∀(A:Around)(E:Value→Shared→Prop)(Q:Value→Shared→Prop)(env:Env)(s:Shared),OldK h s.heap→env.globals=mainGlobals→env.builtins=builtinsNs→Q v s→wpAny (model prog w) A (loadGlobal env x) (λv s=>Q v s) E s:=by
 have keep:∀{a:Addr}{s:Shared},q3N G a=true→h.Ns a (h.nsMap a)→OldK h s.heap→s.heap.Ns a (h.nsMap a):=λ{a}{s} hc hn O=>by
  refine q00 hc ?_;intro o q hc
  have q:=hG _ _ q
  have hc:o.cls≠.none:=by simpa using hc
  refine X3x4 hn ?_;clear hn;intro o' es ep e1 e2 e3 e4
  rw[q] at e1;(refine zI e1 ?_;clear e1;rintro rfl)
  exact⟨o,es,ep,O.get_of_cls q hc,e2,e3,e4⟩
 refine q00 e ?_;intro o hv e
 have hv:=q2x G hG hv
 cases o with
 |some v=>exact⟨v,q4M e,λA E Q env s O eg eb hq=>loadGlobal_global (by rw[eg];exact keep hmc hm O) hv hq⟩
 |none=>
  refine q00 e ?_;intro b h2 e
  refine q00 e ?_;intro v h3 e
  have h2:=q2x G hG h2
  exact⟨v,q4M e,λA E Q env s O eg eb hq=>loadGlobal_builtin (by rw[eg];exact keep hmc hm O) hv (by rw[eb];exact keep hbc hb O) (h2.trans h3) hq⟩
end
section
open PySem PySem.W PySem.Calls PyProof.Rows
section
variable{G:Addr→Option Obj}{K:Frag}{h:Heap}
theorem q7f:∀{l:List Str}{q:List Nat},qdB l q=true→l=q.map nm
 |[],[],_=>rfl
 |x::r,i::q,e=>by
  refine q08 e ?_;intro e1 e2
  rw[List.map_cons,q1k e1,q7f e2]
 |[],_::_,e=>by exact zF e
 |_::_,[],e=>by exact zF e
theorem q6s{β:Type}{l:List (Str×β)}{x:Str}:(l.lookup x).isSome=true↔x∈l.map (·.1):=by
 induction l with
 |nil=>simp
 |cons p r ih=>
  obtain⟨k,v⟩:=p
  rw[List.lookup_cons]
  by_cases q:x=k
  ·subst q;simp
  ·rw[show (x==k)=false from beq_eq_false_iff_ne.mpr q]
   simp only[List.map_cons,List.mem_cons,q,false_or]
   exact ih
theorem q2U{β:Type}{l:List (Str×β)}{x:Str}{v:β}(e:l.lookup x=some v):(x,v)∈l:=mem_of_lookup e
structure FdFacts(G:Addr→Option Obj)(K:Frag)(f:Fn)(fd:FuncData):Prop where
 args:∃as kd ds,fd.params=⟨[],as,none,[],kd,none,ds⟩∧as.map (·.arg)=f.params.map nm
 nodup:f.params.Nodup
 len:f.params.length≤60
 co:fd.scope.isCoroutine=false
 gen:fd.scope.isGenerator=false
 kind:fd.scope.kind=.function
 glo:fd.globals=mainGlobals
 bui:fd.builtins=builtinsNs
 cod:∀a,scode fd.scope=some a→fd.code=.ref a∧fd.qualname=squal a
 dflt:∃ds,VRs ⟨[],[],[],[],[]⟩ f.dflt ds∧((fd.defaults=.none∧ds=[])∨∃T n,fd.defaults=.ref T∧K.lookup T=some (q0J ds n))
 dlen:f.dflt.length≤f.params.length
 parm:∀i∈f.params,(nmem i f.cells=false↔fd.scope.names.lookup (nm i)=some .local)
 clo:fd.closure=[]
 parc:∀i∈f.params,nmem i f.cells=true→fd.scope.names.lookup (nm i)=some .cell
 cnod:f.cells.Nodup
 celc:∀i∈f.cells,fd.scope.names.lookup (nm i)=some .cell
 cell:∀i,fd.scope.names.lookup (nm i)=some .cell∨fd.scope.names.lookup (nm i)=some .free→i∈f.cells
 cfr:∀L i,i∈f.cells→((cellsFrom L fd.scope.names []).lookup (nm i)).isSome=true
 code:qa9 G fd.code fd.qualname=true
theorem q2W{f:Fn}{fd:FuncData}(e:fdIs G K f fd=true):FdFacts G K f fd:=by
 refine q08 e ?_;intro e1 e
 refine q08 e ?_;intro e2 e
 refine q08 e ?_;intro e3 e
 refine q08 e ?_;intro e4 e
 refine q08 e ?_;intro e5 e
 refine q08 e ?_;intro e6 e
 refine q08 e ?_;intro e7 e
 refine q08 e ?_;intro e8 e
 refine q08 e ?_;intro e9 e
 refine q08 e ?_;intro e10 e
 refine q08 e ?_;intro e11 e
 refine q08 e ?_;intro e12 e
 refine q08 e ?_;intro e13 e
 refine q08 e ?_;intro e14 e
 refine q08 e ?_;intro e15 e
 refine q08 e ?_;intro e16 e17
 unfold fd1 at e1
 unfold fd9 at e9
 unfold fd10 at e10
 unfold fd13 at e13
 have e4:=notB e4
 have e5:=notB e5
 have e6:=beq_iff_eq.mp e6
 have cel:∀i∈f.cells,fd.scope.names.lookup (nm i)=some .cell∧((cellsFrom 0 fd.scope.names []).lookup (nm i)).isSome=true:=λi hi=>by
  have:=List.all_eq_true.mp e15 i hi
  simp only[Bool.and_eq_true] at this
  refine X0x2 this ?_;clear this;intro t1 t2
  refine q00 t1 ?_;intro k q1 q2
  exact⟨by rw[←q4s,q1,qg6 q2],t2⟩
 have par:∀i∈f.params,(fd.scope.names.lookup (nm i)=some .local∧nmem i f.cells=false)∨(fd.scope.names.lookup (nm i)=some .cell∧nmem i f.cells=true):=λi hi=>by
  have:=List.all_eq_true.mp e12 i hi
  rw[q4s] at this
  split at this
  ·rename_i q;exact .inl ⟨q,notB this⟩
  ·rename_i q;exact .inr ⟨q,this⟩
  ·exact zF this
 refine⟨?_,of_decide_eq_true e2,Z8 e3,e4,e5,e6,Z9 e7,Z9 e8,λa ha=>?_,?_,Z8 e11,λi hi=>?_,?_,λi hi hc=>?_,of_decide_eq_true e14,λi hi=>(cel i hi).1,λi hi=>?_,λL i hi=>?_,e17⟩
 ·cases q:fd.params with
  |mk p as v k kd w ds=>
   rw[q] at e1
   refine q08 e1 ?_;intro t1 e1
   refine q08 e1 ?_;intro t2 e1
   refine q08 e1 ?_;intro t3 e1
   refine q08 e1 ?_;intro t4 e1
   exact⟨as,kd,ds,by rw[qci t1,q7c t2,qci t3,q7c t4],q7f e1⟩
 ·rw[ha] at e9
  have e9:(fd.code==.ref a&&sEq fd.qualname (squal a))=true:=e9
  refine q08 e9 ?_;intro q1 q2
  exact⟨beq_iff_eq.mp q1,q1k q2⟩
 ·refine Z4 ((Bool.or_eq_true _ _).mp e10) (λh=>?_) λh=>?_
  ·refine q08 h ?_;intro q h
   rw[q1x] at h
   exact⟨[],by rw[List.isEmpty_iff.mp h];exact .nil,.inl ⟨q4L q,rfl⟩⟩
  ·refine q00 h ?_;intro T q h
   refine X2x3 (q6W h) ?_;intro vs n q1 q2 q3
   exact⟨vs,q2 _,.inr ⟨T,n,q1J q,q1⟩⟩
 ·refine Z4 (par i hi) (λo2=>X0x2 o2 λq1 q2=>?_) λo1=>X0x2 o1 λq1 q2=>?_
  ·rw[q1,q2];simp
  ·rw[q1,q2];simp
 ·rw[q1x] at e13
  exact List.isEmpty_iff.mp e13
 ·refine Z4 (par i hi) (λo2=>X0x2 o2 λq1 q2=>?_) λo1=>X0x2 o1 λq1 q2=>?_
  ·rw[q2] at hc;exact zF hc
  ·exact q1
 ·have key:∀k,(nm i,k)∈fd.scope.names→(k=.cell∨k=.free)→i∈f.cells:=λk hk hkk=>by
   have t:=List.all_eq_true.mp e16 _ hk
   have t:f.cells.any (λj=>sEq (nm j) (nm i))=true:=by
    focus (refine Z4 hkk ?_ ?_;rotate_left;clear hkk;rintro rfl;rotate_right;clear hkk;rintro rfl)<;>exact t
   refine X1x2 (List.any_eq_true.mp t) ?_;intro j hj q
   rw[←q1n _ _ (q1k q)];exact hj
  refine Z4 hi (λhi=>?_) λhi=>?_
  ·exact key _ (q2U hi) (.inl rfl)
  ·exact key _ (q2U hi) (.inr rfl)
 ·have:=(cel i hi).2
  rw[q6s] at this⊢
  rw[cellsFrom_names fd.scope.names L 0 [] [] rfl]
  exact this
theorem FdFacts.ok{f:Fn}{fd:FuncData}{B:Base}(F:FdFacts G K f fd)(hK:B.K=K)(hb:qaC B f fd):FnOk B f fd:=by
 refine X3x2 F.args ?_;intro as kd ds hp ha
 exact {pos:=by rw[hp],kwo:=by rw[hp],var:=by rw[hp],kwa:=by rw[hp],args:=by rw[hp];exact ha,nodup:=F.nodup,co:=F.co,gen:=F.gen,kind:=F.kind,glo:=F.glo,bui:=F.bui,cod:=F.cod,body:=hb,dflt:=by rw[hK];exact F.dflt,dlen:=F.dlen,parm:=F.parm,clo:=F.clo,parc:=F.parc,cnod:=F.cnod,celc:=F.celc,cell:=F.cell,cfr:=F.cfr}
end
noncomputable def q8e(i:Nat)(fd:FuncData):Prop:=∃n f,funs.tm.get i=some f∧cTm (comp tix n) fd.params fd.body fd.scope=some f∧fd.globals=mainGlobals∧fd.builtins=builtinsNs∧fd.defaults=.none
theorem q8N{B:Base}(hB:B.fnOk=q8e)(n:Nat):q2Z B (comp tix n):=λi f a b sc h1 h2 fd q1 q2 q3 q4 q5 q6=>by
 rw[hB]
 exact⟨n,f,h2,by rw[q1,q2,q3];exact h1,q4,q5,q6⟩
theorem tmOk{B:Base}(hB:B.fnOk=q8e){i:Nat}{f:Fn}{fd:FuncData}(hi:funs.tm.get i=some f)(h:B.fnOk i fd):TmOk B f fd:=by
 rw[hB] at h
 refine X2x5 h ?_;clear h;intro n f' h1 h2 h3 h4 h5
 rw[hi] at h1
 refine zI h1 ?_;clear h1;rintro rfl
 refine q0O h2 ?_;intro q h2
 refine q02 h2 ?_;intro o1 hx h2;obtain⟨x,m⟩:=o1
 refine q0O h2 ?_;intro hm h2
 obtain rfl:=Z6 h2
 obtain rfl:=List.isEmpty_iff.mp hm
 refine q08 q ?_;intro q1 q2
 have hp:=q2Q q1
 refine q08 q2 ?_;intro q2 r5
 refine q08 q2 ?_;intro q2 r4
 refine q08 q2 ?_;intro q2 r3
 refine q08 q2 ?_;intro r1 r2
 have r4:=q3K r4
 have Z:=sound (B:=B) tix (q8N hB) n
 refine {pos:=by rw[hp],kwo:=by rw[hp],var:=by rw[hp],kwa:=by rw[hp],args:=by rw[hp];rfl,nodup:=List.nodup_nil,co:=notB r2,gen:=notB r3,kind:=beq_iff_eq.mp r1,glo:=h3,bui:=h4,cod:=λa ha=>(by rw[r4] at ha;exact zN ha),body:=?_,dflt:=⟨[],.nil,.inl ⟨h5,rfl⟩⟩,dlen:=Nat.le_refl _,parm:=λi hi=>(nomatch hi),noc:=λx hx=>by simpa using List.all_eq_true.mp r5 x hx,noc':=λi hi=>?_,loc:=λi hi=>(nomatch hi)}
 ·cases hl:fd.body with
  |stmts l=>
   rw[hl] at hx
   exact .inl ⟨l,hl,s_cB Z _ l x [] hx (λq hq=>(nomatch hq))⟩
  |expr e=>
   rw[hl] at hx
   have hx:u1 ((comp tix n).x fd.scope e) sRet=some (x,[]):=hx
   cases hy:(comp tix n).x fd.scope e with
   |none=>rw[hy] at hx;exact oN hx
   |some y=>
    rw[hy] at hx
    have hx:=Z6 hx
    obtain rfl:=(Prod.mk.inj hx).1
    exact .inr ⟨e,y.1,hl,rfl,Z.x _ _ y.1 [] (by rw[hy,←(Prod.mk.inj hx).2]) (λq hq=>(nomatch hq))⟩
 ·have:=List.all_eq_true.mp r5 _ (q2U hi)
  simp at this
end
section
open PySem PySem.W PySem.Calls PyProof.Rows
variable{G:Addr→Option Obj}{h:Heap}
structure FactsP(G:Addr→Option Obj)(K:Frag):Prop where
 cls:∀C c,tb.cl C=some c→q63 K C c=true
 tup:∀a xs,tb.tp a=some xs→qaO K a xs=true
 glo:∀i y,alook glo i=some y→q19 G (nm i) y=true
 tab:∀q∈tabs,qcK G q=true
 fn:∀a f,funs.fn.get a=some f→fnIs G K a f=true
 kc:∀a o,K.lookup a=some o→o.cls≠.none
 mc:q3N G mainGlobals=true
 bc:q3N G builtinsNs=true
 hand:q7t G K=true
theorem qfL:glo.map (λq=>nmQ q.1)=glo.map (λq=>nm q.1):=by kernel_rfl
theorem qfM{i:Nat}{y:SV}(h:alook glo i=some y):nmQ i=nm i:=(List.map_inj_left (f:=λq:Nat×SV=>nmQ q.1) (g:=λq=>nm q.1)).mp qfL (i,y) (q1r h)
theorem qgm(e:glo.all (λq=>q19 G (nmQ q.1) q.2)=true){i:Nat}{y:SV}(h:alook glo i=some y):q19 G (nm i) y=true:=by
 rw[←qfM h]
 exact(List.all_eq_true (p:=λq:Nat×SV=>q19 G (nmQ q.1) q.2)).mp e (i,y) (q1r h)
theorem qdI:lnkB=true:=by kernel_rfl
theorem q7J{α:Type}(l:List (Nat×α))(i:Nat):alook l i=l.lookup i:=by
 induction l with
 |nil=>rfl
 |cons p r ih=>
  show bi (Nat.beq p.1 i) (some p.2) (alook r i)=_
  rw[ih,q0g,List.lookup_cons]
  by_cases h:p.1=i
  ·rw[decide_eq_true h,h,beq_self_eq_true]
  ·rw[decide_eq_false h,beq_eq_false_iff_ne.mpr (Ne.symm h)]
theorem q1W{K:Frag}{a:Addr}{fd:FuncData}(e:fdAt K a=some fd):∃o,K.lookup a=some o∧o.data=.func fd:=by
 refine q02 e ?_;intro o q e
 exact⟨o,q7J K a▸q,q8i e⟩
theorem qbv{α:Type}{t:TT α}:∀{f:Nat→Nat}{i:Nat}{a:α},t.get i=some a→f i∈t.keys f:=by
 induction t with
 |nil=>intro f i a e;exact zN e
 |node v l r il ir=>
  intro f i a e
  rw[TT.get_node] at e
  show f i∈(match (generalizing:=false) v with|some _=>[f 0]|none=>[])++(l.keys (λj=>f (2*j+1))++r.keys (λj=>f (2*j+2)))
  by_cases h0:i=0
  ·subst h0
   rw[if_pos rfl] at e
   subst e
   exact List.mem_append_left _ (.head _)
  ·rw[if_neg h0] at e
   by_cases q:i%2=1
   ·rw[if_pos q] at e
    have:=il (f:=λj=>f (2*j+1)) e
    rw[od2 q] at this
    exact List.mem_append_right _ (List.mem_append_left _ this)
   ·rw[if_neg q] at e
    have:=ir (f:=λj=>f (2*j+2)) e
    rw[ev2 h0 q] at this
    exact List.mem_append_right _ (List.mem_append_right _ this)
theorem qbt{a:Addr}(ha:a∈q9H):(Kof G).lookup a=G a:=by
 cases e:(Kof G).lookup a with
 |some o=>exact(qay G e).symm
 |none=>
  cases e':G a with
  |none=>rfl
  |some o=>
   have m:(a,o)∈Kof G:=List.mem_flatMap.mpr ⟨a,ha,by unfold kAt;rw[e'];exact .head _⟩
   have:=List.lookup_eq_none_iff.mp e _ m
   simp at this
theorem qcr{a:Addr}{f:Fn}(h:fnT.get a=some f):a∈q9H:=List.mem_append_right _ (List.mem_append_right _ (.tail _ (.tail _ (qbv (f:=id) h))))
theorem qcs{a:Addr}(ha:a∈q9H):fdAt (Kof G) a=fdG G a:=by
 unfold fdAt fdG
 rw[q7J,qbt ha]
theorem qgo{a:Addr}{f:Fn}(ha:a∈q9H)(h:fnQ G (Kof G) a f=true):fnIs G (Kof G) a f=true:=by
 unfold fnQ at h
 rw[←qcs ha] at h
 unfold fnIs
 cases e:fdAt (Kof G) a with
 |none=>rw[e] at h;exact zF h
 |some fd=>
  rw[e] at h
  refine X1x2 (q1W e) ?_;intro o1 q1 q2;obtain⟨oc,od,dt,sl⟩:=o1
  have q2:dt=.func fd:=q2
  subst q2
  unfold keepIn
  dsimp only
  rw[q1]
  show (fdIs G (Kof G) f fd&&true)=true
  rw[show fdIs G (Kof G) f fd=true from h]
  rfl
theorem qgp(e:q7y G (Kof G)=true):FactsP G (Kof G):=by
 unfold q7y at e
 simp only[Bool.and_eq_true] at e
 refine X0x2 e ?_;clear e;intro o1 e9;refine X0x2 o1 ?_;clear o1;intro o2 e8;refine X0x2 o2 ?_;clear o2;intro o3 e7;refine X0x2 o3 ?_;clear o3;intro o4 e6;refine X0x2 o4 ?_;clear o4;intro o5 e5;refine X0x2 o5 ?_;clear o5;intro o6 e4;refine X0x2 o6 ?_;clear o6;intro o7 e3;refine X0x2 o7 ?_;clear o7;intro e1 e2
 refine⟨λC c q=>TT.all_get e1 q,λa xs q=>TT.all_get e2 q,λi y q=>qgm e3 q,λq hq=>List.all_eq_true.mp e4 q hq,λa f q=>qgo (qcr q) (TT.all_get e5 q),λa o q=>?_,e7,e8,e9⟩
 simpa using List.all_eq_true.mp e6 _ (q7l q)
def qfP(w:World)(h:Heap)(os:OsState)(G:Addr→Option Obj)(hG:∀a o,G a=some o→h.get? a=some o)(hm:h.Ns mainGlobals (h.nsMap mainGlobals))(hb:h.Ns builtinsNs (h.nsMap builtinsNs))(F:FactsP G (Kof G))
  (low:20≤h.objs.size) (last:∃o,h.get? (h.objs.size-1)=some o):Base where
 w:=w
 prog:=pw
 h₀:=h
 os:=os
 K:=Kof G
 fnOk:=q8e
 low:=low
 last:=last
 kin:=λa o e=>hG _ _ (qay G e)
 kcls:=F.kc
 ld:=λi y e=>by
  refine X1x2 (q2G (prog:=pw) (w:=w) hG (F.glo i y e) F.mc F.bc hm hb) ?_;intro v h1 h2
  exact⟨v,h1,λA E Q env s O eg eb hq=>h2 A E Q env s O eg eb hq⟩
 cls:=λC c e hx=>(q3Z (F.cls C c e) hx).1
 mg:=h.nsMap mainGlobals
 mgN:=hm
 tabk:=λq hq=>qaQ hG rfl (F.tab q hq)
 mgc:=λo e=>by
  refine q00 F.mc ?_;intro o' q h
  have q:=hG _ _ q
  rw[e] at q;(refine zI q ?_;clear q;rintro rfl)
  simpa using h
 exc:=λC c e hx=>qaa (F.cls C c e) hx
 tup:=λa xs e=>by
  refine X2x3 (q6W (F.tup a xs e)) ?_;intro vs n q1 q2 q3
  exact⟨vs,n,q1,q2 _,q3⟩
variable{B:Base}
theorem qag{α:Type}{a:Addr}(ha:a≠1657){x y:Option α}(e:but a x=but a y):x=y:=by
 have nb:Nat.beq a 1657=false:=by
  cases q:Nat.beq a 1657 with
  |false=>rfl
  |true=>exact absurd (Z9 q) ha
 unfold but at e
 rw[nb] at e
 exact e
theorem q9k{α:Type}{o:Option α}{f:α→Bool}(h:oE o false f=true):∃a,o=some a∧f a=true:=by
 cases o with
 |none=>exact zF h
 |some a=>exact⟨a,rfl,h⟩
theorem qbs:lAll G=fnL.map λq=>but q.1 (txAt G q.1):=by
 unfold lAll
 induction fnL with
 |nil=>rfl
 |cons q r ih=>exact congrArg _ ih
theorem qdK(hE:lAll G=rAll)(hC:cAll=oAll){a:Addr}{f:Fn}(hf:fnT.get a=some f)(ha:a≠1657):q61 (Kof G) a=some (f.body,q4W a):=by
 refine X1x2 (q9k (show oE (alook fnL a) false _=true from TT.all_get qdI hf)) ?_;intro q h1 h2
 refine X1x2 (q9k h2) ?_;intro r h3 h4
 refine q08 h4 ?_;intro h5 h6
 have h7:=List.map_inj_left.mp (qbs.symm.trans hE) _ (q1r h1)
 have e1:txAt G a=pAt a:=by
  rw[qag ha h7]
  unfold pAt
  rw[show pthT.get a=some r from h3]
  show fAt q.1 q.2.1=fAt r.1 r.2
  rw[Z9 h5,Z9 h6]
 have e2:cAt a=some (f.body,q4W a):=by
  have e:=congrArg (λt=>t.get a) hC
  have e:(fnT.map (λa _=>but a (cAt a)) id).get a=(fnT.map (λa f=>but a (some (f.body,q4W a))) id).get a:=e
  rw[TT.map_get,TT.map_get,hf] at e
  exact qag ha (Z6 e)
 have e3:q61 (Kof G) a=oO (txAt G a) λq=>cB (comp tix 60) q.1 q.2:=by
  unfold q61 txAt
  rw[qcs (qcr hf)]
  cases fdG G a with
  |none=>rfl
  |some fd=>
   show oO (q6N fd.body) (λb=>cB (comp tix 60) fd.scope b)=oO (oO (q6N fd.body) λb=>some (fd.scope,b)) λq=>cB (comp tix 60) q.1 q.2
   cases q6N fd.body<;>rfl
 have e4:cAt a=oO (pAt a) λq=>cB (comp tix 60) q.1 q.2:=by
  unfold cAt pAt
  cases pthT.get a with
  |none=>rfl
  |some q=>exact @rfl _ (oO (fAt q.1 q.2) λq=>cB (comp tix 60) q.1 q.2)
 rw[e3,e1,←e4,e2]
theorem qa8{K:Frag}(hB:B.fnOk=q8e){a:Addr}{f:Fn}(e:q61 K a=some (f.body,q4W a)){fd:FuncData}(hfd:fdAt K a=some fd)(hob:GoodL (q4W a)):qaC B f fd:=by
 refine q02 e ?_;intro fd' q e
 cases Z6 (hfd.symm.trans q)
 refine q02 e ?_;intro b hb e
 exact .inl ⟨b,q68 hb,s_cB (sound tix (q8N hB) 60) fd.scope b _ _ e hob⟩
theorem qbb(a:Addr):GoodL (q4W a):=λq hq=>by
 unfold q4W at hq
 split at hq
 ·rename_i l e
  have:=q1r e
  simp only[List.mem_cons,List.not_mem_nil,or_false,Prod.mk.injEq] at this
  focus (refine Z4 this ?_ ?_;rotate_left;clear this;intro o1;refine Z4 o1 ?_ ?_;rotate_left;clear o1;intro o2;refine X0x2 o2 ?_;clear o2;intro _ o3;subst o3;rotate_right;clear o1;intro o4;refine X0x2 o4 ?_;clear o4;intro _ o5;subst o5;rotate_right;clear this;intro o6;refine X0x2 o6 ?_;clear o6;intro _ o7;subst o7)
  ·simp only[List.mem_cons,List.not_mem_nil,or_false] at hq
   focus (refine Z4 hq ?_ ?_;rotate_left;clear hq;intro o1;refine Z4 o1 ?_ ?_;rotate_left;clear o1;intro o2;refine Z4 o2 ?_ ?_;rotate_left;clear o2;rintro rfl;rotate_right;clear o2;rintro rfl;rotate_right;clear o1;rintro rfl;rotate_right;clear hq;rintro rfl)<;>rfl
  ·simp only[List.mem_cons,List.not_mem_nil,or_false] at hq
   focus (refine Z4 hq ?_ ?_;rotate_left;clear hq;intro o1;refine Z4 o1 ?_ ?_;rotate_left;clear o1;intro o2;refine Z4 o2 ?_ ?_;rotate_left;clear o2;intro o3;refine Z4 o3 ?_ ?_;rotate_left;clear o3;intro o4;refine Z4 o4 ?_ ?_;rotate_left;clear o4;rintro rfl;rotate_right;clear o4;rintro rfl;rotate_right;clear o3;rintro rfl;rotate_right;clear o2;rintro rfl;rotate_right;clear o1;rintro rfl;rotate_right;clear hq;rintro rfl)<;>rfl
  ·simp only[List.mem_cons,List.not_mem_nil,or_false] at hq
   focus (refine Z4 hq ?_ ?_;rotate_left;clear hq;intro o1;refine Z4 o1 ?_ ?_;rotate_left;clear o1;rintro rfl;rotate_right;clear o1;rintro rfl;rotate_right;clear hq;rintro rfl)<;>rfl
 ·cases hq
end
section
open PySem PySem.W PySem.Calls PyProof.Rows
variable{G:Addr→Option Obj}{h:Heap}
theorem q1z{o:Option FuncData}{b:List Stmt}(e:q2e o=some b):∃fd,o=some fd∧fd.body=.stmts b:=by
 refine q02 e ?_;intro fd q h
 exact⟨fd,q,q68 h⟩
def qdt(sc:Scope):Bool:=q1T sc "number"&&q1T sc "cell"&&q1T sc "script"&&q1i sc "abs"&&q1i sc "int"&&q5D sc
def qdJ(sc:Scope):Bool:=q1T sc "pen"&&q1T sc "script"&&q1i sc "_law_pen"&&q1i sc "_law_between_right"&&q1i sc "_law_unasked_right"&&q1i sc "_law_whole_right"&&q1i sc "_law_into_right"&&q5D sc&&isNo (scode sc)
structure HandP(G:Addr→Option Obj)(K:Frag):Prop where
 draw:∀fd,fdAt K 1657=some fd→fd.scope.names.lookup ("pen":Str)=some .local∧fd.scope.names.lookup ("many":Str)=some .local∧fd.scope.names.lookup ("found":Str)=some .local
 pen:∀fd,fdAt K 1650=some fd→FdFacts G K q9D fd∧qdt fd.scope=true
 penK:keepIn K (.ref 1650)=true
 law:∀fd,fdAt K 1714=some fd→FdFacts G K q9D fd∧qdJ fd.scope=true
 g:q19 G "_law_pen" (.old 1650)=true∧q19 G "_law_between_right" (.old 1690)=true∧q19 G "_law_unasked_right" (.old 1697)=true∧q19 G "_law_whole_right" (.old 1702)=true∧q19 G "_law_into_right" (.old 1707)=true∧q19 G "law" (.old 1714)=true∧
  q19 G "abs" (.bi 1)=true∧q19 G "int" (.ty 6)=true
theorem qbA{K:Frag}(e:q7t G K=true):HandP G K:=by
 unfold q7t at e
 simp only[Bool.and_eq_true] at e
 refine X0x2 e ?_;clear e;intro o1 e12;refine X0x2 o1 ?_;clear o1;intro o2 e11;refine X0x2 o2 ?_;clear o2;intro o3 e10;refine X0x2 o3 ?_;clear o3;intro o4 e9;refine X0x2 o4 ?_;clear o4;intro o5 e8;refine X0x2 o5 ?_;clear o5;intro o6 e7;refine X0x2 o6 ?_;clear o6;intro o7 e6;refine X0x2 o7 ?_;clear o7;intro o8 e5;refine X0x2 o8 ?_;clear o8;intro o9 e4;refine X0x2 o9 ?_;clear o9;intro o10 e3;refine X0x2 o10 ?_;clear o10;intro e1 e2
 refine⟨λfd q=>?_,λfd q=>?_,e3,λfd q=>?_,e5,e6,e7,e8,e9,e10,e11,e12⟩
 ·rw[q] at e1
  simp only[Bool.and_eq_true] at e1
  exact⟨q0m e1.1.1,q0m e1.1.2,q0m e1.2⟩
 ·rw[q] at e2
  simp only[Bool.and_eq_true] at e2
  refine X0x2 e2 ?_;clear e2;intro o1 q7;refine X0x2 o1 ?_;clear o1;intro o2 q6;refine X0x2 o2 ?_;clear o2;intro o3 q5;refine X0x2 o3 ?_;clear o3;intro o4 q4;refine X0x2 o4 ?_;clear o4;intro o5 q3;refine X0x2 o5 ?_;clear o5;intro q1 q2
  exact⟨q2W q1,by unfold qdt;simp only[q2,q3,q4,q5,q6,q7,Bool.and_true]⟩
 ·rw[q] at e4
  simp only[Bool.and_eq_true] at e4
  refine X0x2 e4 ?_;clear e4;intro o1 q10;refine X0x2 o1 ?_;clear o1;intro o2 q9;refine X0x2 o2 ?_;clear o2;intro o3 q8;refine X0x2 o3 ?_;clear o3;intro o4 q7;refine X0x2 o4 ?_;clear o4;intro o5 q6;refine X0x2 o5 ?_;clear o5;intro o6 q5;refine X0x2 o6 ?_;clear o6;intro o7 q4;refine X0x2 o7 ?_;clear o7;intro o8 q3;refine X0x2 o8 ?_;clear o8;intro q1 q2
  exact⟨q2W q1,by unfold qdJ;simp only[q2,q3,q4,q5,q6,q7,q8,q9,q10,Bool.and_true]⟩
structure TopP(G:Addr→Option Obj):Prop where
 facts:FactsP G (Kof G)
 comp:∀a f,fnT.get a=some f→a≠1657→q61 (Kof G) a=some (f.body,q4W a)
 draw:q2e (fdAt (Kof G) 1657)=some (q3T (posA 1385 qe8))
 pen:q2e (fdAt (Kof G) 1650)=some (q5w (posA 1380 penP))
 law:q2e (fdAt (Kof G) 1714)=some (q7o (posA 1487 lawP))
theorem qbC{B:Base}(hG:∀a o,G a=some o→B.h₀.get? a=some o)(hK:B.K=Kof G)(hB:B.fnOk=q8e)(T:TopP G):Facts B where
 fn:=λa f hf=>by
  have e:=T.facts.fn a f hf
  unfold fnIs at e
  refine q08 e ?_;intro e1 _
  cases hfd:fdAt (Kof G) a with
  |none=>rw[hfd] at e1;exact zF e1
  |some fd=>
   rw[hfd] at e1
   have F:=q2W e1
   refine X1x2 (q1W hfd) ?_;intro o ho hd
   refine⟨fd,o,F.ok hK ?_,q3W hG rfl F.code,by rw[hK];exact ho,hd,F.len⟩
   by_cases ha:a=1657
   ·subst ha
    have hf:funs.fn.get 1657=some f:=hf
    have h7:funs.fn.get 1657=some qgq:=by kernel_rfl
    rw[h7] at hf
    refine zI hf ?_;clear hf;rintro rfl
    refine X1x2 (q1z T.draw) ?_;intro fd' q1 q2
    rw[hfd] at q1;(refine zI q1 ?_;clear q1;rintro rfl)
    refine X0x3 ((qbA T.facts.hand).draw fd hfd) ?_;intro d1 d2 d3
    exact .inl ⟨_,q2,qe7 d1 d2 d3 (by rfl) (by rfl) (by rfl)⟩
   ·exact qa8 hB (T.comp a f hf ha) hfd (qbb a)
 tm:=λi f hi fd hfd=>tmOk hB hi hfd
 cls:=λC c e hx=>by rw[hK];exact(q3Z (T.facts.cls C c e) hx).2
 ini:=λC c e=>(q4B (T.facts.cls C c e)).1
 keep:=λa ha=>by
  rw[hK]
  refine Z4 ha (λo2=>X1x1 o2 λf hf=>?_) λo1=>X1x1 o1 λc hc=>?_
  ·have e:=T.facts.fn a f hf
   unfold fnIs at e
   exact(and2 e).2
  ·exact(q4B (T.facts.cls a c hc)).2
end
section
open PySem PySem.W PySem.Calls PyProof.Rows
variable{B:Base}{G:Addr→Option Obj}{K:Frag}{A:Around}{s:Shared}
theorem q3H:nm 290=("script":Str):=by rfl
theorem q7g:nm 291=("pen":Str):=by rfl
theorem q79{a:Addr}{o:Obj}{fd:FuncData}{b:List Stmt}{v:Value}{P:Value→Shared→Prop}{E:Value→Shared→Prop}(hroom:A.depth<recursionLimit)(ho:s.heap.get? a=some o)(hd:o.data=.func fd)(F:FdFacts G K q9D fd)(hK:K.In s.heap)(hb:fd.body=.stmts b)
  (hcd:s.heap.CodeRec fd.code fd.qualname) (hnc:q5D fd.scope=true) (hl:fd.scope.names.lookup ("script":Str)=some .local) (hlim:s.heap.NoLimit)
  (h:∀env s',env.scope=fd.scope→env.globals=mainGlobals→env.builtins=builtinsNs→env.frame=some env.locals→InCall s env.locals (λx=>if x=("script":Str) then some v else none) s'→
   wpG (model B.prog B.w) (A.deeper env) (execs b env) (λf s''=>∃r,f=.ret r∧P r s'') (λ_ _=>False) s'):wpG (model B.prog B.w) A (PySem.call (.ref a) [v]) P E s:=by
 refine X3x2 F.args ?_;intro as kd dfl hp ha
 refine X1x2 F.dflt ?_;intro ds hds hdo
 have hds:ds=[]:=by cases hds;rfl
 subst hds
 have hdo:∀(M:Model)(A:Around)(E:Value→Shared→Prop)(Q:Option (Array Value)→Shared→Prop),(∀r,r.getD #[]=([]:List Value).toArray→Q r s)→wpAny M A (seqItems? fd.defaults) Q E s:=λM A E Q hq=>by
  refine Z4 hdo (λo2=>X0x2 o2 λh2 _=>?_) λo1=>X2x2 o1 λT n h2 h3=>?_
  ·rw[h2]
   show wpAny M A (notAStandIn .none>>=λ_=>pure none) Q E s
   exact Z0 (Z3 (Z3 (hq _ rfl)))
  ·rw[h2]
   exact wpAny_seqItems (hK T _ h3) rfl (hq _ rfl)
 have hnames:fd.params.args.map (·.arg)=[("script":Str)]:=by rw[hp];exact ha
 have hbind:=q5c (s:=s) (fd:=fd) (vals:=[v]) (ds:=[]) (names:=[("script":Str)]) (by rw[hp]) hnames (by rw[hp]) (by rw[hp]) (by rw[hp]) hdo (by simp) (by simp) (by simp) (by simp)
 refine q0W (q1a hroom ho hd F.co F.gen hcd (hbind _ _ _ _ (wpAny_newFunctionEnv (λx hx=>by simpa using List.all_eq_true.mp hnc x hx) (λx hx=>?_) (λh' hns hsb=>?_) F.kind)))
 ·have hx:x∈[(("script":Str),v)]:=hx
  rw[List.mem_singleton.mp hx];exact hl
 ·have hk:∀b o,s.heap.get? b=some o→h'.get? b=some o:=λb o e=>hsb.extBut b o (Nat.ne_of_lt (Z7 e)) (Z5 _ e)
  have hns:h'.Ns s.heap.objs.size (λx=>if x=("script":Str) then some v else none):=by
   refine X3x4 hns ?_;clear hns;intro o es ep q1 q2 q3 q4
   refine⟨o,es,ep,q1,q2,q3,λx=>(q4 x).trans ?_⟩
   show List.lookup x ([(("script":Str),v)].reverse)=_
   rw[List.reverse_singleton,List.lookup_cons]
   by_cases hx:x=("script":Str)
   ·rw[beq_iff_eq.mpr hx];exact(if_pos hx).symm
   ·rw[beq_eq_false_iff_ne.mpr hx];exact(if_neg hx).symm
  refine⟨hlim.keeps hk,λc hc=>?_⟩
  rw[hb] at hc
  have hc:c=.func b _:=hc
  subst hc
  refine q4A (q05 (h _ _ rfl F.glo F.bui rfl ⟨⟨h',_,rfl⟩,hns,hk,Nat.le_refl _⟩) (λf s'' oY1x0=>?_) λ_ _ z=>z.elim)
  refine X1x2 oY1x0 ?_;clear oY1x0;intro r e hr
  subst e
  exact hr
theorem qhq{env:Env}{E:Value→Shared→Prop}{x:Str}{p q:Pos}{e:Expr}{f:Value}{Q:Value→Shared→Prop}(hA:A.handled=none)(he:q0Z e=false)(hl:∀Q:Value→Shared→Prop,Q f s→wpAny (model B.prog B.w) A (eval (eN x p) env) Q E s)
  (h:wpG (model B.prog B.w) A (eval e env) (λv s'=>Keeps B f s'∧wpG (model B.prog B.w) A (call f [v]) Q E s') E s):wpG (model B.prog B.w) A (eval (.Call (eN x p) [e] [] q) env) Q E s:=by
 show wpG _ A (do callWith q (←eval (eN x p) env) [] (backTo q (starEach [e] env)) []) Q E s
 refine q01 (toG (hl _ ?_))
 refine q0q hA (q0z (by rw[q1d he];rfl)) ?_
 refine q0F (q1d he) (q05 h (λv s₁ h₁=>?_) λ_ _ z=>z)
 exact q0P h₁
theorem Base.kinO(B:Base){h:Heap}(O:OldK B.h₀ h):B.K.In h:=λa o e=>O.get_of_cls (B.kin a o e) (B.kcls a o e)
theorem q7G{fd:FuncData}(h:CodeAt B fd){hp:Heap}(O:OldK B.h₀ hp):hp.CodeRec fd.code fd.qualname:=by
 refine h.kE9 ?_;clear h;intro c oc vs t h1 h2 h3 h4 h5
 focus (refine Z4 (O.old c oc h3) ?_ ?_;rotate_left;intro o1;refine Z4 o1 ?_ ?_;rotate_left;clear o1;intro o2;refine X0x2 o2 ?_;clear o2;intro o3 _;subst o3;rotate_right;clear o1;intro o4;refine X0x2 o4 ?_;clear o4;intro _ o5;refine X0x2 o5 ?_;clear o5;intro hc o6;refine X2x2 o6 ?_;clear o6;intro vs' more hv x;rotate_right;intro x)
 ·exact⟨c,oc,vs,t,h1,x,h4,h5⟩
 ·rw[h4] at hv
  injection hv with hv
  subst hv
  refine⟨c,_,vs++more,t,h1,x,rfl,?_⟩
  rw[Array.getElem?_append_left (Array.getElem?_eq_some_iff.mp h5).1]
  exact h5
 ·exact absurd rfl h2
theorem qb9{E:Value→Shared→Prop}(hG:∀a o,G a=some o→B.h₀.get? a=some o)(hBK:B.K=Kof G)(T:TopP G)(hA:A.handled=none)(hroom:A.depth<recursionLimit)(hm:B.h₀.Ns mainGlobals (B.h₀.nsMap mainGlobals))(hbn:B.h₀.Ns builtinsNs (B.h₀.nsMap builtinsNs))(hp:B.prog=pw)
  (O:OldK B.h₀ s.heap) (hlim:s.heap.NoLimit) {S:Addr} {vs:List Value} {ns:List Int} {n:Nat} (hl:s.heap.get? S=some (q09 vs n)) (hi:IntsAre vs ns) (hz:vs.length≤4096) :
  Keeps B (.ref 1650) s∧wpG (model B.prog B.w) A (PySem.call (.ref 1650) [.ref S]) (λv s'=>qax s (.ret v) s') E s:=by
 have H:=qbA T.facts.hand
 refine X1x2 (q1z T.pen) ?_;intro fd hfd hbody
 refine X0x2 (H.pen fd hfd) ?_;intro F hsc
 refine X1x2 (q1W hfd) ?_;intro o ho hd
 have hK:=B.kinO O
 unfold qdt at hsc
 simp only[Bool.and_eq_true] at hsc
 refine X0x2 hsc ?_;clear hsc;intro o1 c6;refine X0x2 o1 ?_;clear o1;intro o2 c5;refine X0x2 o2 ?_;clear o2;intro o3 c4;refine X0x2 o3 ?_;clear o3;intro o4 c3;refine X0x2 o4 ?_;clear o4;intro c1 c2
 refine⟨λA Q E hA hq=>?_,q79 hroom (hK _ _ (by rw[hBK];exact ho)) hd F (by rw[←hBK];exact hK) hbody (q7G (q3W hG rfl F.code) O) c6 (q0m c3) hlim λenv s' e1 e2 e3 e4 I=>?_⟩
 ·refine X1x2 (looks_keep (M:=model B.prog B.w) (by rw[hBK];exact H.penK) hK) ?_;intro k _ L
  exact L.at (hq k)
 ·refine X0x8 H.g ?_;intro _ _ _ _ _ _ g7 g8
  refine X1x2 (q2G (prog:=B.prog) (w:=B.w) hG g7 T.facts.mc T.facts.bc hm hbn) ?_;intro va ha1 ha2
  refine X1x2 (q2G (prog:=B.prog) (w:=B.w) hG g8 T.facts.mc T.facts.bc hm hbn) ?_;intro vi hi1 hi2
  have ha1:va=.builtin "abs":=ha1 ⟨[],[],[],[],[]⟩
  have hi1:vi=.type "int":=hi1 ⟨[],[],[],[],[]⟩
  subst ha1 hi1
  have PF:PenF B env s (A.deeper env):=⟨by rw[e1];exact F.kind,by rw[e1];exact q0m c1,by rw[e1];exact q0m c2,by rw[e1];exact q0m c3,by rw[e1];exact q0t c4,by rw[e1];exact q0t c5,hA,O,
   λQ E s O hq=>ha2 _ _ _ _ _ O e2 e3 hq,λQ E s O hq=>hi2 _ _ _ _ _ O e2 e3 hq⟩
  refine q05 (qba (E:=λ_ _=>False) PF I (if_pos rfl) hl hi hz) (λf s'' z=>?_) λ_ _ z=>z
  refine X5x2 z ?_;clear z;intro l N t u k o1 r;subst o1
  exact⟨_,rfl,l,N,t,u,k,rfl,r⟩
end
section
open PySem PySem.W PySem.Calls PyProof.Rows
theorem q7X{v:SV}{k:Nat}(h:qc8 v=some k):v=.own k:=oEl (P:=λk=>v=.own k) (by cases v with|own=>exact rfl|_=>exact trivial) h
theorem q7Y{o:SO}{r:Nat×List (Nat×Nat)}(h:qca o=some r):o=.pen r.1 r.2:=oEl (P:=λr=>o=.pen r.1 r.2) (by cases o with|pen=>exact rfl|_=>exact trivial) h
theorem qaW{v:SV}{b:Bool}(h:svB? v=some b):v=.bool b:=oEl (P:=λb=>v=.bool b) (by cases v with|bool=>exact rfl|_=>exact trivial) h
noncomputable def Wl(L l:Addr)(κ:List (Addr×Obj)):Wd:=⟨[⟨L,[]⟩,⟨l,[]⟩],[],κ,[],[]⟩
theorem qhA{L l:Addr}{κ κ':List (Addr×Obj)}(h:∀g∈κ,g∈κ'):(Wl L l κ).le (Wl L l κ'):=⟨List.prefix_refl _,List.prefix_refl _,h,rfl,rfl⟩
theorem q4G{b q k:Nat}{F:List (Nat×Nat)}{o:SO}(h:(σg b q F).get k=some o):k=1∧o=.pen b F:=by
 have h:(Tr.node none (.node (some (.pen b F)) .nil .nil) .nil).get k=some o:=h
 rw[Tr.get_node] at h
 by_cases h0:k=0
 ·simp[h0] at h
 ·by_cases h1:k%2=1
  ·simp only[h0,h1,if_true,if_false] at h
   rw[Tr.get_node] at h
   by_cases h2:k/2=0
   ·simp only[h2,if_true,Option.some.injEq] at h
    exact⟨by lia,h.symm⟩
   ·rw[if_neg h2] at h
    split at h<;>simp[Tr.get_nil] at h
  ·simp only[h0,h1,if_false,Tr.get_nil] at h
   exact zN h
theorem q8c{l:List (Nat×Lo)}{q:Addr}(h:qe1 l=some q):l=[(0,[(290,.old q),(291,.own 1)])]:=by
 refine q02 h ?_;intro o1 h1 h;obtain⟨a,lo⟩:=o1
 cases lo with
 |nil=>exact oN h
 |cons x r=>
  refine q02 h ?_;intro y h2 h
  refine q02 h ?_;intro s h3 h
  refine q02 h ?_;intro k h4 h
  refine q0O h ?_;intro h5 h9
  obtain⟨x1,x2⟩:=x
  obtain⟨y1,y2⟩:=y
  have h3:=q4j h3
  have h4:=q7X h4
  have e1:a=0:=Z9 (and2 h5).1
  have h5:=(and2 h5).2
  have e2:x1=290:=Z9 (and2 h5).1
  have h5:=(and2 h5).2
  have e3:y1=291:=Z9 (and2 h5).1
  have e4:k=1:=Z9 (and2 h5).2
  rw[q21 h1,q21 h2,e1,e2,e3,show x2=_ from h3,show y2=_ from h4,e4,Z6 h9]
theorem q83{o:Option SO}{m:Nat}(h:qfE o m=true):∃b,o=some (.pen b [])∧b≤m:=by
 refine q00 h ?_;intro x h1 h
 refine q00 h ?_;intro r h2 h
 refine q08 h ?_;intro h3 h
 rw[q1x] at h3
 exact⟨r.1,by rw[h1,q7Y h2,List.isEmpty_iff.mp h3],Z8 h⟩
section
variable{B:Base}{s:Shared}{L l:Addr}{κ:List (Addr×Obj)}
theorem qdz{W:Wd}{f:Str→Option Value}{q:Addr}(h1:f ("script":Str)=some (.ref q))(h2:f ("pen":Str)=some (.ref l))(h3:∀i,i≠290→i≠291→f (nm i)=none)(h4:W.ρ[1]?=some ⟨l,[]⟩):NsR W [(290,.old q),(291,.own 1)] f:=λi=>by
 rw[q0w,q0w,q2R,q0g,q0g]
 by_cases e1:290=i
 ·subst e1
  rw[decide_eq_true rfl,q3H,h1]
  exact⟨_,rfl,rfl⟩
 ·rw[decide_eq_false e1]
  by_cases e2:291=i
  ·subst e2
   rw[decide_eq_true rfl,q7g,h2]
   exact⟨_,rfl,⟨l,[]⟩,h4,rfl⟩
  ·rw[decide_eq_false e2]
   exact h3 i (Ne.symm e1) (Ne.symm e2)
theorem q9w{p a b:Fp}(h:p∈[a,b]):p=a∨p=b:=by simpa using h
theorem q96{b q:Nat}{f:Str→Option Value}{x y t u n:Nat}(hL:B.h₀.objs.size≤L)(hl:B.h₀.objs.size≤l)(hne:L≠l)(hns:s.heap.Ns L f)(h1:f ("script":Str)=some (.ref q))(h2:f ("pen":Str)=some (.ref l))(h3:∀i,i≠290→i≠291→f (nm i)=none)
  (hp:s.heap.get? l=some (q09 [.int x t,.int y u] n)) (hy:y≤b) (hx:x<2^6000) (hold:Old B (Wl L l κ) s.heap) (hlim:s.heap.NoLimit) (hg:s.gens=#[]) (hos:s.os=B.os)
  (hz:∀g∈(Wl L l κ).still,s.heap.get? g.1=some g.2∧B.h₀.objs.size≤g.1∧∀p:Fp,p∈(Wl L l κ).ρ→g.1∉p.all):Rel B (Wl L l κ) [0] (σb b q) s where
 len:=rfl
 lenv:=rfl
 bound:=λk o e=>by rw[(q4G e).1];exact Nat.lt_succ_self 1
 objs:=λk o p e hp'=>by
  refine X0x2 (q4G e) ?_;intro o1 o2;subst o1;subst o2
  have hp':some (⟨l,[]⟩:Fp)=some p:=hp'
  refine zI hp' ?_;clear hp';rintro rfl
  exact⟨x,y,t,u,n,hp,hy,hx,trivial⟩
 sep:=λj k p r hj hk hjk v hv hr=>by
  have hj':=(List.getElem?_eq_some_iff.mp hj).1
  have hk':=(List.getElem?_eq_some_iff.mp hk).1
  have hj':j<2:=hj'
  have hk':k<2:=hk'
  obtain rfl|rfl:j=0∨j=1:=by lia
  ·obtain rfl|rfl:k=0∨k=1:=by lia
   ·exact hjk rfl
   ·have hj:some (⟨L,[]⟩:Fp)=some p:=hj
    have hk:some (⟨l,[]⟩:Fp)=some r:=hk
    (refine zI hj ?_;clear hj;rintro rfl);(refine zI hk ?_;clear hk;rintro rfl)
    rw[List.mem_singleton.mp hv] at hr
    exact hne (List.mem_singleton.mp hr)
  ·obtain rfl|rfl:k=0∨k=1:=by lia
   ·have hj:some (⟨l,[]⟩:Fp)=some p:=hj
    have hk:some (⟨L,[]⟩:Fp)=some r:=hk
    (refine zI hj ?_;clear hj;rintro rfl);(refine zI hk ?_;clear hk;rintro rfl)
    rw[List.mem_singleton.mp hv] at hr
    exact hne (List.mem_singleton.mp hr).symm
   ·exact hjk rfl
 own:=λp hp' v hv=>by
  focus (refine Z4 (q9w hp') ?_ ?_;rotate_left;rintro rfl;rotate_right;rintro rfl)
  ·rw[List.mem_singleton.mp hv]
   refine X3x2 hns ?_;clear hns;intro o es ep e _
   exact⟨hL,o,e⟩
  ·rw[List.mem_singleton.mp hv]
   exact⟨hl,_,hp⟩
 old:=hold
 lim:=hlim
 vars:=λx hx=>(nomatch hx)
 gens:=hg
 os:=hos
 fids:=rfl
 frs:=λr hr=>by
  rw[List.mem_singleton.mp hr]
  exact⟨L,f,rfl,hns,qdz h1 h2 h3 rfl⟩
 frn:=λr hr=>by rw[List.mem_singleton.mp hr];rfl
 fnd:=by simp
 fz:=hz
 epn:=λr hr=>(nomatch hr)
 eps:=λr hr=>(nomatch hr)
theorem q78{b q:Nat}(m:Nat)(hm:0<m)(R:Rel B (Wl L l κ) [0] (σb b q) s):∃v,v<m∧Rel B (Wl L l κ) [0] (σg b q [(m,v)]) s:=by
 refine X5x4 (R.objs 1 (.pen b []) ⟨l,[]⟩ rfl rfl) ?_;intro x y t u n h1 h2 h3 _
 refine⟨(q1u x y m).1,?_,R.len,R.lenv,λk o e=>by rw[(q4G e).1];exact Nat.lt_succ_self 1,λk o p e hp=>?_,R.sep,R.own,R.old,R.lim,R.vars,R.gens,R.os,R.fids,R.frs,λr hr=>by rw[List.mem_singleton.mp hr];rfl,R.fnd,R.fz,R.epn,R.eps⟩
 ·unfold q1u
  by_cases z:x=0
  ·rw[if_pos z];exact Nat.mod_lt _ hm
  ·rw[if_neg z];exact Nat.mod_lt _ hm
 ·refine X0x2 (q4G e) ?_;intro o1 o2;subst o1;subst o2
  have hp:some (⟨l,[]⟩:Fp)=some p:=hp
  refine zI hp ?_;clear hp;rintro rfl
  exact⟨x,y,t,u,n,h1,h2,h3,rfl,trivial⟩
theorem qdi{W':Wd}{σ':S}{m:Nat}(hne:L≠l)(R:Rel B W' [0] σ' s)(le:(Wl L l κ).le W')(h:chkS m σ'=true):∃κ' q',(Wl L l κ).le (Wl L l κ')∧Rel B (Wl L l κ') [0] (σb m q') s:=by
 unfold chkS at h
 refine q08 h ?_;intro h1 h2
 refine X1x2 (q83 h2) ?_;intro b hb hbm
 cases e:qe1 σ'.frs with
 |none=>rw[e] at h1;exact zF h1
 |some q=>
  have hf:=q8c e
  have r0:W'.ρ[0]?=some ⟨L,[]⟩:=q0a le.ρ rfl
  have r1:W'.ρ[1]?=some ⟨l,[]⟩:=q0a le.ρ rfl
  refine X2x3 (R.frs _ (by rw[hf];exact .head _)) ?_;intro L' f z1 z2 z3
  rw[r0] at z1;cases z1
  refine X5x4 (R.objs 1 _ _ hb r1) ?_;intro x y t u n hp hy hx _
  have hin:∀p:Fp,p∈(Wl L l W'.κ).ρ→p∈W'.ρ:=λp hp'=>by
   focus (refine Z4 (q9w hp') ?_ ?_;rotate_left;rintro rfl;rotate_right;rintro rfl)
   ·exact Zd r0
   ·exact Zd r1
  have f1:=z3 290
  have f2:=z3 291
  rw[q3H] at f1
  rw[q7g] at f2
  refine X1x2 f1 ?_;clear f1;intro v1 f1 w1
  refine X1x1 f2 ?_;clear f2;intro v2 o1;refine X0x2 o1 ?_;clear o1;intro f2 o2;refine X1x2 o2 ?_;clear o2;intro p2 w2 w3
  have w1:v1=.ref q:=w1
  rw[r1] at w2;(refine zI w2 ?_;clear w2;rintro rfl)
  subst w1 w3
  refine⟨W'.κ,q,qhA le.κ,q96 (f:=f) (R.own _ (Zd r0) L (.head _)).1 (R.own _ (Zd r1) l (.head _)).1 hne z2 f1 f2 (λi hi1 hi2=>?_) hp (Nat.le_trans hy hbm) hx (R.old.of λg hg=>hg) R.lim R.gens R.os λg hg=>?_⟩
  ·have:=z3 i
   have e:q0K [(290,SV.old q),(291,.own 1)] i=none:=by
    rw[q0w,q0w,q2R,q0g,q0g,decide_eq_false (Ne.symm hi1),decide_eq_false (Ne.symm hi2)]
   have this:OptR W' (q0K [(290,SV.old q),(291,.own 1)] i) (f (nm i)):=this
   rw[e] at this
   exact this
  ·refine Z4 (List.mem_append.mp hg) (λhg=>?_) λhg=>?_
   ·refine X0x3 (R.fz g (List.mem_append_left _ hg)) ?_;intro a1 a2 a3
    exact⟨a1,a2,λp hp'=>a3 p (hin p hp')⟩
   ·cases hg
end
end
section
open PySem PySem.W PySem.Calls PyProof.Rows
variable{B:Base}{G:Addr→Option Obj}{M:Model}{A:Around}{env:Env}{s:Shared}
theorem q6f{E:Value→Shared→Prop}{pos:Pos}{x y:Expr}{r:List Expr}{Q:Value→Shared→Prop}(h:wpG M A (eval x env) (λv s₁=>v=.bool true∧wpG M A (boolOp pos .And (evalEach (y::r) env)) Q E s₁) E s):wpG M A (boolOp pos .And (evalEach (x::y::r) env)) Q E s:=by
 show wpG M A (eval x env>>=λv=>standAt pos>>=λ_=>holding [v] (truthy v)>>=λt=>match BoolOp.And,t with
  |.And,false|.Or,true=>pure v
  |_,_=>boolOp pos .And (evalEach (y::r) env)) Q E s
 refine q0e h λv s₁ oY3x0=>?_
 refine X0x2 oY3x0 ?_;clear oY3x0;intro e h₁
 subst e
 exact q01 (q07 (q01 (q04 (toG (wpAny_truthy_bool h₁)))))
theorem qaU(hG:∀a o,G a=some o→B.h₀.get? a=some o)(F:FactsP G (Kof G))(hm:B.h₀.Ns mainGlobals (B.h₀.nsMap mainGlobals))(hbn:B.h₀.Ns builtinsNs (B.h₀.nsMap builtinsNs)){sc:Scope}{x:Str}{y:SV}{pos:Pos}(hg:q19 G x y=true)(hk:sc.names.lookup x=some .globalImplicit)
  (hd:(x==("__debug__":Str))=false):SX B sc (cC y) (.Name x pos):=λn W fs c X σ s kv O R e=>by
 refine X1x2 (q2G (prog:=B.prog) (w:=B.w) hG hg F.mc F.bc hm hbn) ?_;intro v hv hl
 exact toG<|Calls.Name_function_global (by rw[O.esc];exact O.kind) (by unfold Env.kindOf;rw[O.esc];exact hk) (hl X.A _ _ X.env s R.old.k O.glo O.bui (PQ.here R (qv (hv W) e))) hd
theorem q72{sc:Scope}{L l:Addr}{κ:List (Addr×Obj)}{X:Fx}{a b m q:Nat}{F:List (Nat×Nat)}{f:Str}{p₁ p₂ p₃:Pos}(hne:L≠l)(hx:SX B sc (cC (.old a)) (eN f p₁))(hp:sc.names.lookup ("pen":Str)=some .local)
  (ht:q16 tb funs 60 (.old a) [.own 1] (σg b q F) (λ_ _=>false) (kvB m)=true) (O:Ok B 60 sc (Wl L l κ) [0] ⟨q16 tb funs 60,[],λ_ _=>false⟩ X) (R:Rel B (Wl L l κ) [0] (σg b q F) s) :
  wpG (model B.prog B.w) X.A (eval (eC f "pen" p₁ p₂ p₃) X.env) (λv s'=>v=.bool true∧∃κ' q',(Wl L l κ).le (Wl L l κ')∧Rel B (Wl L l κ') [0] (σb m q') s') (λ_ _=>False) s:=by
 have S:=qc6 (pos:=p₃) hx (q14 (qc3 (B:=B) (i:=291) (pos:=p₂) hp q7g (by decide)) q2N (λ_=>rfl)) (λ_=>rfl) (λ_=>rfl)
 refine q05 (S 60 (Wl L l κ) [0] _ X (σg b q F) s (kvB m) O R ht) (λv s' oP=>?_) λe s' oY1x0=>by(refine oY1x0.kE13 ?_;clear oY1x0;intro _ _ _ _ _ _ _ _ _ _ _ _ hk);exact zF hk
 refine oP.kE7 ?_;clear oP;intro W' σ' le R' x hv hk
 refine q06 hk ?_;intro h1 h2
 have hx:x=.bool true:=by
  refine q00 h1 ?_;intro b q h1
  rw[qaW q,show b=true from h1]
 subst hx
 exact⟨hv,qdi hne R' le h2⟩
end
section
open PySem PySem.W
end
section
open PySem PySem.W PySem.Calls PyProof.Rows
theorem q8S(q v:Nat)(h:v<3):q16 tb funs 60 (.old 1697) [.own 1] (σg 10 q [(3,v)]) (λ_ _=>false) (kvB 20)=true:=by
 obtain rfl|rfl|rfl:v=0∨v=1∨v=2:=by lia
 ·exact q7T q
 ·exact q7S q
 ·exact q7R q
theorem q8T(q v:Nat)(h:v<3):q16 tb funs 60 (.old 1690) [.own 1] (σg 0 q [(3,v)]) (λ_ _=>false) (kvB 10)=true:=by
 obtain rfl|rfl|rfl:v=0∨v=1∨v=2:=by lia
 ·exact q7W q
 ·exact q7V q
 ·exact q7U q
section
variable{B:Base}{G:Addr→Option Obj}{s:Shared}
theorem qbr{E:Value→Shared→Prop}(hG:∀a o,G a=some o→B.h₀.get? a=some o)(hBK:B.K=Kof G)(hBf:B.fnOk=q8e)(T:TopP G)(hm:B.h₀.Ns mainGlobals (B.h₀.nsMap mainGlobals))(hbn:B.h₀.Ns builtinsNs (B.h₀.nsMap builtinsNs))(hpw:B.prog=pw)
  (hh:s.heap=B.h₀) (hlim:s.heap.NoLimit) (hgens:s.gens=#[]) (hos:s.os=B.os) {S:Addr} {vs:List Value} {ns:List Int} {n:Nat} (hl:s.heap.get? S=some (q09 vs n)) (hi:IntsAre vs ns) (hz:vs.length≤4096) :
  wpG (model B.prog B.w) callerA (PySem.call (.ref 1714) [.ref S]) (λv s'=>v=.bool true∧OldK B.h₀ s'.heap∧s'.gens=#[]∧s'.os=B.os) E s:=by
 have H:=qbA T.facts.hand
 have FA:=qbC hG hBK hBf T
 refine X1x2 (q1z T.law) ?_;intro fd hfd hbody
 refine X0x2 (H.law fd hfd) ?_;intro F hsc
 refine X1x2 (q1W hfd) ?_;intro o ho hd
 have O:OldK B.h₀ s.heap:=by rw[hh];exact OldK.refl _
 have hK:=B.kinO O
 unfold qdJ at hsc
 simp only[Bool.and_eq_true] at hsc
 refine X0x2 hsc ?_;clear hsc;intro o1 c9;refine X0x2 o1 ?_;clear o1;intro o2 c8;refine X0x2 o2 ?_;clear o2;intro o3 c7;refine X0x2 o3 ?_;clear o3;intro o4 c6;refine X0x2 o4 ?_;clear o4;intro o5 c5;refine X0x2 o5 ?_;clear o5;intro o6 c4;refine X0x2 o6 ?_;clear o6;intro o7 c3;refine X0x2 o7 ?_;clear o7;intro c1 c2
 refine X0x8 H.g ?_;intro g1 g2 g3 g4 g5 g6 g7 g8
 refine q79 (by decide) (hK _ _ (by rw[hBK];exact ho)) hd F (by rw[←hBK];exact hK) hbody (q7G (q3W hG rfl F.code) O) c8 (q0m c2) hlim λenv s' e1 e2 e3 e4 I=>?_
 have hk:env.scope.kind=.function:=by rw[e1];exact F.kind
 have hlp:env.scope.names.lookup ("pen":Str)=some .local:=by rw[e1];exact q0m c1
 have hls:env.scope.names.lookup ("script":Str)=some .local:=by rw[e1];exact q0m c2
 have np:("script":Str)≠("pen":Str):=by decide
 have O':OldK B.h₀ s'.heap:=O.step_keeps I.keep
 refine X1x2 (q2G (prog:=B.prog) (w:=B.w) hG g1 T.facts.mc T.facts.bc hm hbn) ?_;intro vp hp1 hp2
 have hp1:vp=.ref 1650:=hp1 ⟨[],[],[],[],[]⟩
 subst hp1
 unfold q7o
 refine q0h (q0r ?_ (q3G rfl _ env) rfl)
 refine qhq rfl (by rfl) (λQ hq=>Calls.Name_function_global hk (by unfold Env.kindOf;rw[e1];exact q0t c3) (hp2 _ _ _ _ _ O' e2 e3 hq) (by decide)) ?_
 refine toG (q2z hk hls I.ns (if_pos rfl) ?_ (by decide))
 refine X0x2 (qb9 (A:=callerA.deeper env) (E:=λ_ _=>False) hG hBK T rfl (by show callerA.depth+1<recursionLimit;decide) hm hbn hpw O' (hlim.keeps I.keep) (I.keep _ _ hl) hi hz) ?_;intro P1 P2
 refine⟨P1,q05 P2 (λv s₃ oY5x0=>?_) λ_ _ z=>z.elim⟩
 refine X5x6 oY5x0 ?_;clear oY5x0;intro l N t u k ev hl₃ hg₃ hN o1 keep₃;refine X2x1 o1 ?_;clear o1;intro h₃ tk₃ es₃
 cases ev
 have I₃:InCall s env.locals (λx=>if x=("script":Str) then some (.ref S) else none) s₃:=by
  obtain⟨⟨h',tk',rfl⟩,⟨o',es,ep,q1,q2⟩,q3,q4⟩:=I
  exact⟨⟨h₃,tk₃,es₃⟩,⟨o',es,ep,keep₃ _ _ q1,q2⟩,λb o e=>keep₃ _ _ (q3 b o e),q4⟩
 have hlt:env.locals<s'.heap.objs.size:=icLt I
 have hne:env.locals≠l:=Nat.ne_of_lt (Za hlt hl₃)
 have hls₀:B.h₀.objs.size≤l:=by rw[←hh];exact Nat.le_trans (icLe I) hl₃
 have hLs₀:B.h₀.objs.size≤env.locals:=by rw[←hh];exact I.fresh
 show wpG _ _ (assign (eN "pen" _) env (.ref l)) _ _ _
 refine toG (q3g hk hlp I₃ λh₄ I₄ hs₄=>?_)
 have hg₄:h₄.get? l=some (q09 [.int N t,.int 0 u] k):=hs₄ l _ (Ne.symm hne) hg₃
 refine q0h (q0Q ?_)
 have hOk:∀κ,Ok B 60 fd.scope (Wl env.locals l κ) [0] ⟨q16 tb funs 60,[],λ_ _=>false⟩ ⟨callerA.deeper env,env,env.locals⟩:=λκ=>
  {esc:=e1,kind:=F.kind,glo:=e2,bui:=e3,frame:=e4,loc:=⟨0,[],rfl,rfl⟩,fao:=⟨0,.head _,rfl⟩,
   around:=⟨rfl,by show callerA.depth+1+2*60≤900;decide,by show callerA.units+3+20*60≤9000;decide,rfl,[env],rfl,λe he=>by
    rw[List.mem_singleton.mp he]
    exact⟨by rw[hk];decide,0,.head _,env.locals,rfl,e4⟩⟩,
   top:=⟨env,[],rfl,e4⟩,cells:=λi hi=>(nomatch (F.cell i hi)),cod:=λa ha=>(by rw[q3K c9] at ha;exact zN ha),call:=q5b FA qbq 60}
 have R₁:Rel B (Wl env.locals l []) [0] (σb 0 S) {s₃ with heap:=h₄,toks:=s₃.toks+1}:=by
  refine q96 (x:=N) (y:=0) hLs₀ hls₀ hne I₄.ns ((if_neg np).trans (if_pos rfl)) (if_pos rfl) (λi hi1 hi2=>?_) hg₄ (Nat.le_refl _) hN ⟨O.step_keeps I₄.keep,λq hq=>?_⟩ (hlim.keeps I₄.keep) ?_ ?_ (λg hg=>(nomatch hg))
  ·have z1:nm i≠("pen":Str):=λz=>hi2 (q1n _ _ (z.trans q7g.symm))
   have z2:nm i≠("script":Str):=λz=>hi1 (q1n _ _ (z.trans q3H.symm))
   show (if nm i=("pen":Str) then _ else if nm i=("script":Str) then _ else none)=none
   rw[if_neg z1,if_neg z2]
  ·refine X0x4 (B.tabk q hq) ?_;intro _ _ _ q4
   exact⟨#[],I₄.keep _ _ (by rw[hh];exact q4),trivial,λpos cv e=>(nomatch e)⟩
  ·obtain⟨⟨h',tk',rfl⟩,_⟩:=I₃;exact hgens
  ·obtain⟨⟨h',tk',rfl⟩,_⟩:=I₃;exact hos
 rw[arm_eval_BoolOp]
 refine X1x2 (q78 3 (by decide) R₁) ?_;intro w₁ hw₁ R₁
 refine q6f (q05 (q72 hne (qaU hG T.facts hm hbn g2 (q0t c4) (by decide)) (q0m c1) (q8T _ w₁ hw₁) (hOk []) R₁) (λv s₅ oPs₅=>⟨oPs₅.1,?_⟩) λ_ _ z=>z.elim)
 refine X2x2 oPs₅.2 ?_;intro κ₅ q₅ l₅ R₅
 refine X1x2 (q78 3 (by decide) R₅) ?_;intro w₅ hw₅ R₅
 refine q6f (q05 (q72 hne (qaU hG T.facts hm hbn g3 (q0t c5) (by decide)) (q0m c1) (q8S _ w₅ hw₅) (hOk κ₅) R₅) (λv s₆ oPs₆=>⟨oPs₆.1,?_⟩) λ_ _ z=>z.elim)
 refine X2x2 oPs₆.2 ?_;intro κ₆ q₆ l₆ R₆
 refine q6f (q05 (q72 hne (qaU hG T.facts hm hbn g4 (q0t c6) (by decide)) (q0m c1) (qcL _) (hOk κ₆) R₆) (λv s₇ oPs₇=>⟨oPs₇.1,?_⟩) λ_ _ z=>z.elim)
 refine X2x2 oPs₇.2 ?_;intro κ₇ q₇ l₇ R₇
 show wpG _ _ (eval _ env) _ _ _
 refine q05 (q72 hne (qaU hG T.facts hm hbn g5 (q0t c7) (by decide)) (q0m c1) (qez _) (hOk κ₇) R₇) (λv s₈ oY1x0=>?_) λ_ _ z=>z.elim
 refine X0x2 oY1x0 ?_;clear oY1x0;intro ev o1;refine X2x2 o1 ?_;clear o1;intro κ₈ q₈ l₈ R₈
 exact⟨v,rfl,ev,R₈.old.k,R₈.gens,R₈.os⟩
end
theorem qcI{G:Addr→Option Obj}(e:q7y G (Kof G)=true)(c:lAll G=rAll)(cc:cAll=oAll)(d:q2e (fdAt (Kof G) 1657)=some (q3T (posA 1385 qe8)))(p:q2e (fdAt (Kof G) 1650)=some (q5w (posA 1380 penP)))
  (l:q2e (fdAt (Kof G) 1714)=some (q7o (posA 1487 lawP))):TopP G:=⟨qgp e,λ_ _ hf ha=>qdK c cc hf ha,d,p,l⟩
theorem q65:Clear ⟨.builtin "claim.caller" {},none,none,[],none⟩:=⟨λx hx=>(nomatch hx),by decide +kernel⟩
theorem qcS{M:Model}{name:Str}{f:Value}{m:Str→Option Value}{vs:List Value}{s:Shared}{R:Result→Shared→Prop}(hg:s.heap.Ns mainGlobals m)(hf:m name=some f)
  (h:wpG M callerA (PySem.call f vs) (λv s'=>R (.ok (.ret v)) s') (λe s'=>R (.error e) s') s) :
  Sem.wp M ⟨.builtin "claim.caller" {},none,none,[],none⟩ (callStub name vs).cur (Sem.finPost M ⟨.builtin "claim.caller" {},none,none,[],none⟩ R) (λe _ s'=>R (.error e) s') default s:=by
 have t:wpG M callerA (callStub name vs).cur (λfin s'=>∃v,fin=.done (.ret v)∧R (.ok (.ret v)) s') (λe s'=>R (.error e) s') s:=by
  show wpG M callerA (nsGet mainNs name>>=λo=>match o with|some f=>PySem.call f vs>>=λv=>ret v|none=>unsupported "claim.caller:no-such-global") _ _ _
  refine q01 (toG (wpAny_nsGet hg ?_))
  rw[hf]
  exact q01 (q05 h (λv s' q=>q03 ⟨v,rfl,q⟩) λ_ _ q=>q)
 refine Sem.wp_mono M _ _ (λfin p s' q=>?_) (λ_ _ _ q=>q) _ _ (t _ default caller_in q65)
 refine X1x2 q ?_;clear q;intro v o1 q;subst o1
 exact q
theorem q9C{l:OpenLaw}{q:Program}{loose:List Str}{N:Nat}{d:DefRec}{kwd:List (Str×Expr)}(left:LeftO l.prog q loose (λ_=>true) (λs=>s.heap) (q2f l.prog N) N)
  (hdef:defOf q l.name=some (d,kwd)) (hp:l.prog.theDef l.name=some (d.params,d.body,d.scope)) (hk:kwWritten? d.params.kwonlyargs d.params.kw_defaults=some kwd) (hwr:l.writes=false)
  (said:l.row.wellSaid=true) (ok:(chainsOk q&&opensWell l.prog&&PySem.W.frees l.row.toRowW)=true) (hb:l.prog.bare) (hw:l.row.toRowW.promised)
  (call:∀(w:World)(s₀ s₁:Shared),Ground q loose [] (λ_ _=>True) w s₀ (s₀.heap.nsMap mainGlobals) (s₀.heap.nsMap builtinsNs) s₁.heap→s₀.heap=q2f l.prog N w→∀(args:List WData)(vs:List Value)(as:List Addr),l.row.toRowW.claim.pre args=true→WData.layableAll args=true→
   Laid [] w s₀ s₁ args vs as→ReadsAllW [] (classAt s₀.heap) s₁.heap vs args as→WellAll w.params s₁.heap vs args→(∀a∈as,(a==sysModules)=false)→
   (∃f,s₀.heap.nsMap mainGlobals l.name=some f∧wpG (model l.prog w) callerA (PySem.call f vs) (λv s'=>v=.bool true∧OldK s₁.heap s'.heap∧s'.gens=#[]∧s'.os=s₁.os) (λ_ _=>False) s₁)∧
   l.row.toRowW.claim.post args (.bool true) args=true):l.row.Holds:=by
 refine X0x2 (Bool.and_eq_true_iff.mp ok) ?_;intro ok k5
 refine X0x2 (Bool.and_eq_true_iff.mp ok) ?_;intro hch o1
 refine X0x5 (frees_parts k5) ?_;intro hsame hu ha hap _
 refine⟨said,hw,⟨hb,o1,rfl⟩,hw.witness,λw=>?_⟩
 refine X0x2 (left.behind (XP:=λ_ _=>True) (λ_ _=>trivial) hch w) ?_;intro e1 e2
 refine⟨e1,λs' hs'=>?_⟩
 refine X1x1 (e2 s' hs') ?_;intro s₀ o1;refine X0x2 o1 ?_;clear o1;intro f1 o2;refine X0x2 o2 ?_;clear o2;intro f2 o3;refine X1x6 o3 ?_;clear o3;intro s f3 f4 f5 f6 G y
 have hgens:s.gens=#[]:=Array.eq_empty_of_size_eq_zero (beq_iff_eq.mp f5)
 refine⟨s₀,f1,f2,s,f3,λn hn=>?_,λx hx=>(nomatch hx),λx hx=>(nomatch hx),λargs hpre hlay ord hord=>?_⟩
 ·obtain rfl:n=l.name:=List.mem_singleton.mp hn
  exact pinned_of_view f6 G hdef hp hk
 refine X1x1 (Option.isSome_iff_exists.mp (layAllW_isSome (P:=w.params) (ord:=ord) (R:=[]) (cl:=classAt s.heap) (λc hc=>(nomatch hc)) args l.row.args s (pre_splitW hpre).1)) ?_;intro o1 hlaid;obtain⟨vs,s₁⟩:=o1
 have keeps:=layAllW_keeps _ _ _ hlaid
 have rest:=layAllW_rest _ _ _ hlaid
 refine X1x3 (reads_layAllW hord _ _ _ hlaid hlay s₁.heap (λ_ _ e=>e)) ?_;intro as hrd hin hold
 have L:Laid [] w s s₁ args vs as:=⟨⟨ord,hord,hlaid⟩,hrd,hin,hold,keeps,rest.1.trans hgens,rest.2.2.1⟩
 have G₁:=G.keeps (λ_ _ _ _ _=>trivial) keeps
 refine X0x2 (call w s s₁ G₁ y args vs as hpre hlay L L.reads L.well (L.low G.low)) ?_;intro o1 g3;refine X1x2 o1 ?_;clear o1;intro f g1 g2
 have g4:wpG (model l.prog w) callerA (PySem.call f vs) (λv s'=>(∃v',Except.ok (Flow.ret v)=(Except.ok (Flow.ret v'):Result)∧v'=.bool true∧OldK s₁.heap s'.heap∧s'.os=s₁.os)∧leftWithCleanup s'.gens=false)
   (λe s'=>(∃v',Except.error e=(Except.ok (Flow.ret v'):Result)∧v'=.bool true∧OldK s₁.heap s'.heap∧s'.os=s₁.os)∧leftWithCleanup s'.gens=false) s₁:=
  q05 g2 (λv s' oY1x0=>by(refine X0x4 oY1x0 ?_;clear oY1x0;intro x1 x2 x3 x4);exact⟨⟨v,rfl,x1,x2,x4⟩,leftWithCleanup_false_of_bare (AllBare.of_eq x3)⟩) λ_ _ z=>z.elim
 refine X1x1 (wp_halts_full (Shared.asleep_of_life rest.2.2.2 f4) (qcS (M:=model l.prog w) (name:=l.name) (R:=λr s'=>(∃v',r=(Except.ok (Flow.ret v'):Result)∧v'=.bool true∧OldK s₁.heap s'.heap∧s'.os=s₁.os)∧leftWithCleanup s'.gens=false) G₁.T.g g1 g4)) ?_;intro n o1;refine X1x1 o1 ?_;clear o1;intro r o2;refine X1x1 o2 ?_;clear o2;intro s₂ o3;refine X1x1 o3 ?_;clear o3;intro s₃ o4;refine X0x2 o4 ?_;clear o4;intro h1 o5;refine X0x2 o5 ?_;clear o5;intro h2 o6;refine X0x2 o6 ?_;clear o6;intro h3 o7;refine X1x4 o7 ?_;clear o7;intro v o8 o9 h4 h5;subst o8;subst o9
 refine X0x5 (Shared.forget_eq h3) ?_;intro j1 _ _ j2 _
 have O:OldK s₁.heap s₃.heap:=by rw[j1];exact h4
 have W:GoodWG l.row.toRowW.claim (classAt s.heap) (ExcName.means s.heap) args s₁ (.ok (.ret (.bool true))) {s₃ with gens:=#[],os:=s₁.os}:=
  ⟨.inl ⟨_,_,_,rfl,λ_=>rfl,.bool true,g3,λ_=>⟨.nil,λa h=>(nomatch h)⟩⟩,O,rfl,.of_eq rfl⟩
 refine X0x3 (W.laid (c:=l.row.toRowW.claim) hsame rfl (ident_freeW hu ha hap) L) ?_;intro z1 _ _
 refine⟨vs,s₁,hlaid,n,_,s₃,h1,?_,λ_ i x hx=>by rw[hgens] at hx;simp at hx,λz=>?_,?_,?_⟩
 ·refine Z4 z1 (λo2=>X1x6 o2 λv z d1 d2 d3 d4 d5=>?_) λo1=>X3x2 o1 λe ob cls z _=>?_
  ·exact .inl ⟨v,congrArg outcomeOf z,d1,d2,d3,λb o y _=>d4 b o y,d5⟩
  ·cases z
 ·have z:l.writes=true:=z
  rw[hwr] at z;exact zF z
 ·rw[(runN_life _ _ _ h2).trans rest.2.2.2]
 ·exact Shared.rest_eq (j2.trans (h5.trans rest.2.2.1))
theorem qg2{G:Addr→Option Obj}{h:Heap}{mg:Str→Option Value}{a:Addr}(hG:∀a o,G a=some o→h.get? a=some o)(T:TopP G)(hm:mg=h.nsMap mainGlobals)(e:mg ("law":Str)=some (.ref a)):a=1714:=by
 refine X0x7 ((qbA T.facts.hand).g) ?_;intro _ _ _ _ _ g _
 subst hm
 refine q00 g ?_;intro o hv g
 have hv:=q2x G hG hv
 rw[e] at hv
 subst hv
 have z:(Value.ref a)=.ref 1714:=q4M g ⟨[],[],[],[],[]⟩
 injection z
theorem qec{w:World}{s₁:Shared}{G:Addr→Option Obj}{mg mb:Str→Option Value}(hm:s₁.heap.Ns mainGlobals mg)(hb:s₁.heap.Ns builtinsNs mb)(hlim:s₁.heap.NoLimit)(hgens:s₁.gens=#[])(hG:∀a o,G a=some o→s₁.heap.get? a=some o)(T:TopP G)
  {S:Addr} {vs:List Value} {ns:List Int} {n:Nat} (hS:S+1=s₁.heap.objs.size) (hl:s₁.heap.get? S=some (q09 vs n)) (hi:IntsAre vs ns) (hz:vs.length≤4096) {a:Addr} (hf:mg ("law":Str)=some (.ref a)) :
  wpG (model pw w) callerA (PySem.call (.ref a) [.ref S]) (λv s'=>v=.bool true∧OldK s₁.heap s'.heap∧s'.gens=#[]∧s'.os=s₁.os) (λ_ _=>False) s₁:=by
 have em:=hm.eq_nsMap
 have eb:=hb.eq_nsMap
 obtain rfl:=qg2 hG T em hf
 refine X1x2 (q1z T.law) ?_;intro fd hfd _
 refine X1x2 (q1W hfd) ?_;intro o ho _
 have lt:=Z7 (hG _ _ (qay G ho))
 exact qbr (B:=qfP w s₁.heap s₁.os G hG (em▸hm) (eb▸hb) T.facts (Nat.le_trans (by decide) (Nat.le_of_lt lt)) ⟨_,by rw[←hS];exact hl⟩) hG rfl rfl T (em▸hm) (eb▸hb) rfl rfl hlim hgens rfl hl hi hz
noncomputable abbrev rw0:=PySem.Challenge.rw_pq0658_01
theorem qbM{q:Program}{loose:List Str}{w:World}{s₀ s₁:Shared}{G:Addr→Option Obj}{d:DefRec}{kwd:List (Str×Expr)}(hdef:defOf q ("law":Str)=some (d,kwd))(Gr:Ground q loose [] (λ_ _=>True) w s₀ (s₀.heap.nsMap mainGlobals) (s₀.heap.nsMap builtinsNs) s₁.heap)(hG:∀a o,G a=some o→s₀.heap.get? a=some o)(T:TopP G)
  {args:List WData} {vals:List Value} {as:List Addr} (hpre:rw0.row.toRowW.claim.pre args=true) (hlay:WData.layableAll args=true) (L:Laid [] w s₀ s₁ args vals as) (hrd:ReadsAllW [] (classAt s₀.heap) s₁.heap vals args as) (hwl:WellAll w.params s₁.heap vals args) (hlo:∀a∈as,(a==sysModules)=false) :
  (∃f,s₀.heap.nsMap mainGlobals ("law":Str)=some f∧wpG (model pw w) callerA (PySem.call f vals) (λv s'=>v=.bool true∧OldK s₁.heap s'.heap∧s'.gens=#[]∧s'.os=s₁.os) (λ_ _=>False) s₁)∧rw0.row.toRowW.claim.post args (.bool true) args=true:=by
 refine X7x5 (Gr.fn hdef) ?_;intro a o pm cd doc dV kV h1 h2 h3 h4 h5
 wrow_args hpre hlay hrd hwl hlo
 with_reducible rename Heap.IsList _ _ _=>hL
 with_reducible rename IntsAre _ _=>hI
 refine X0x2 (X.script_at L) ?_;intro hat hsz
 have hol:=X.script_obj L hL
 exact⟨⟨.ref a,h1,qec Gr.T.g Gr.T.b Gr.T.nolimit L.gens (λb o' e=>L.keeps _ _ (hG b o' e)) T (by rw[hat,hsz]) hol hI (by have:=hI.length;lia) h1⟩,by wrow_post⟩
theorem qfG:opening pw=plainProg pw.main.scope.names:=by kernel_rfl
theorem n_ok:Nat.ble 600 20000=true:=by decide +kernel
theorem q7x(s:Shared):fenceModules? pw s=some s:=rfl
theorem qcl{k:Str}(h:k∈keyQ):k∈startupNames∨k∈pw.boundNames:=by
 refine Z4 (List.mem_append.mp h) (λh=>?_) λh=>?_
 ·exact .inl h
 ·refine Z4 (List.mem_append.mp h) (λh=>?_) λh=>?_
  ·exact .inr (List.mem_of_mem_take h)
  ·exact .inr (List.mem_of_mem_drop h)
theorem qbf{h:Heap}(hg:h.isNs mainGlobals=true)(hk:h.nsKeys mainGlobals=keyQ):namesBound pw h=true:=by
 unfold namesBound
 rw[hg,hk,Bool.true_and]
 refine List.all_eq_true.mpr λk q=>?_
 refine Z4 (qcl q) (λz=>?_) λz=>?_
 ·rw[List.contains_iff_mem.mpr z,Bool.true_or]
 ·rw[List.contains_iff_mem.mpr z,Bool.or_true]
theorem qdN{h:Heap}{consts clss:List Str}(hk:h.nsKeys mainGlobals=keyQ):h.keysOk (looseW q2r q34) [("law":Str)] consts clss=true:=by
 unfold Heap.keysOk
 rw[hk]
 refine List.all_eq_true.mpr λk q=>?_
 refine Z4 (qcl q) (λz=>?_) λz=>?_
 ·rw[List.contains_iff_mem.mpr z];simp only[Bool.true_or]
 ·by_cases e:k=("law":Str)
  ·subst e
   rw[show ([("law":Str)].contains ("law":Str))=true by decide];simp only[Bool.true_or,Bool.or_true]
  ·have m:k∈looseW q2r q34:=List.mem_append_left _ (List.mem_append_left _ (List.mem_append_left _ (List.mem_filter.mpr ⟨z,by simpa using e⟩)))
   rw[List.contains_iff_mem.mpr m];simp only[Bool.true_or,Bool.or_true]
theorem qb3:(recsOf q2r).map (·.name)=[("law":Str)]:=by kernel_rfl
theorem qg1(h:q7L):LeftO pw q2r q34 (λ_=>true) (λ_=>()) (λ_=>()) 20000:=qdX qfG n_ok q7x (by intro P;kernel_rfl) h λw s e=>by
 have e:some (staticsOk (importedModules pw.main.body) (boot_heap w.params) s.heap&&gensDone s&&laidKept (boot_heap w.params) s.heap&&qdh s,s.heap.nsKeys mainGlobals,qd7 (openSeen q2r q34 (importedModules pw.main.body) (λ_=>true) true s))=some (true,keyQ,qd7 (openGood q2r q34)):=e
 have e:=Z6 e
 have e1:=congrArg (λx=>x.1) e
 have e2:s.heap.nsKeys mainGlobals=keyQ:=congrArg (λx=>x.2.1) e
 have e3:=congrArg (λx=>x.2.2) e
 refine q08 e1 ?_;intro e1 e4
 refine q08 e1 ?_;intro e1 e5
 refine q08 e1 ?_;intro e1 e6
 have hg:s.heap.isNs mainGlobals=true:=by
  unfold qdh at e4
  simp only[Bool.and_eq_true] at e4
  exact e4.1.1.1.1.2
 refine⟨by rw[e1,e5,e6,qbf hg e2];rfl,?_⟩
 refine Prod.ext (Prod.ext (congrArg (λx=>x.1) e3) (Prod.ext (congrArg (λx=>x.2.1) e3) (Prod.ext ?_ (congrArg (λx=>x.2.2) e3)))) rfl
 show (s.heap.keysOk (looseW q2r q34) ((recsOf q2r).map (·.name)) _ _&&s.heap.accountedOkI (importedModules pw.main.body)&&s.heap.isNs mainGlobals&&s.heap.isNs builtinsNs&&tablesOk q2r s.heap&&true&&s.gens.size==0)=true
 rw[qb3,qdN e2,Bool.true_and]
 exact e4
theorem q9B{p q:Program}{loose:List Str}{Xt:Shared→Bool}{N:Nat}(h:LeftO p q loose Xt (λ_=>()) (λ_=>()) N):LeftO p q loose Xt (λs=>s.heap) (q2f p N) N:=λw=>by
 refine X1x2 (Option.map_eq_some_iff.mp (h w)) ?_;intro s e1 e2
 rw[q4i e1,e1]
 exact congrArg (λx=>some (x.1,s.heap)) e2
theorem q9i{p q:Program}{loose:List Str}{Xt:Shared→Bool}{N:Nat}(h:LeftO p q loose Xt (λ_=>()) (λ_=>()) N)(w:World):(openEnds treeTable p w N).isSome=true:=by
 refine X1x2 (Option.map_eq_some_iff.mp (h w)) ?_;intro s e1 _
 rw[e1];rfl
theorem tops(h1:q7L)(h2:qaA)(h3:CodT)(w:World):∃G,(∀a o,G a=some o→(q2f pw 20000 w).get? a=some o)∧TopP G:=by
 refine X3x2 (q5o qfG n_ok q7x (q9i (qg1 h1) w) (λos=>h2 w os)) ?_;intro T n life e1 e2
 rw[q51] at e2
 injection e2 with e4
 have q0:=congrArg (λx=>x.1) e4
 have q1:=congrArg (λx=>x.2.1) e4
 have q2:=congrArg (λx=>x.2.2.1) e4
 have q3:=congrArg (λx=>x.2.2.2.1) e4
 have q4:=congrArg (λx=>x.2.2.2.2) e4
 exact⟨getT T n,λa o h=>by rw[e1];exact qbB h,qcI q0 q1 h3 q2 q3 q4⟩
theorem fin_all(h1:q7L)(h2:qaA)(h3:CodT)(said:rw0.row.wellSaid=true)(hw:rw0.row.toRowW.promised){d:DefRec}{kwd:List (Str×Expr)}(hdef:defOf q2r ("law":Str)=some (d,kwd))
  (hp:pw.theDef ("law":Str)=some (d.params,d.body,d.scope)) (hk:kwWritten? d.params.kwonlyargs d.params.kw_defaults=some kwd) (ok:(chainsOk q2r&&opensWell pw&&PySem.W.frees rw0.row.toRowW)=true) (hb:pw.bare):rw0.row.Holds:=
 q9C (l:=rw0) (q9B (qg1 h1)) hdef hp hk rfl said ok hb hw λw s₀ s₁ Gr y args vs as hpre hlay L hrd hwl hlo=>by
  refine X1x2 (tops h1 h2 h3 w) ?_;intro G g1 T
  exact qbM hdef Gr (λa o e=>by rw[y];exact g1 a o e) T hpre hlay L hrd hwl hlo
end
end Mine.Internal
end
theorem PySem.Challenge.cw_pq0658_01_holds : PySem.Challenge.rw_pq0658_01.Holds := by
  w_on
  refine PySem.W.holds_law Mine.Internal.said0 fun said => ?_
  exact Mine.Internal.fin_all Mine.Internal.looks_run Mine.Internal.facts_run Mine.Internal.comp_run said (show PySem.Challenge.rw_pq0658_01.row.toRowW.promised from by w_witness2) (by rfl) (by rfl) (by rfl) (by decide +kernel) ⟨rfl, rfl, rfl, rfl, rfl, Mine.Internal.tabsW⟩
