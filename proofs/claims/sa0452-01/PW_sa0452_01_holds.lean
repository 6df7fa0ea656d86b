import PyProof.Rows.All
import PySem.Eval
import Open.Boot
import Open.Pieces
import KE.KNest
import Wide.FinOn
import OpenK.AllK
import Wide.All
import Lean
import PySem.Challenge.RW_sa0452_01
set_option Elab.async false
set_option maxRecDepth 100000
set_option genSizeOf false
set_option linter.all false
set_option genInjectivity false
namespace Mine
open PySem PySem.W PySem.Calls PyProof.Rows
abbrev ae:=@Nat.le_of_ble_eq_true
abbrev af:=@wpAny_bind
abbrev ag:=@wpAny_pure
abbrev ah:=@Nat.le_trans
abbrev ai:=@Nat.le_refl
abbrev aj:=@Nat.lt_of_le_of_lt
abbrev ak:=@List.getElem?_eq_getElem
abbrev al:=@List.mem_singleton
abbrev am:=@congrArg
abbrev ao:=@List.getElem?_eq_some_iff
abbrev aq:=@Heap.get?_push_of_some
abbrev ar:=@List.mem_of_getElem?
abbrev av:=@wpAny_holding
abbrev aw:=@Nat.lt_of_lt_of_le
abbrev ax:=@List.prefix_refl
abbrev ay:=@Nat.le_add_right
abbrev az:=@Nat.lt_trans
abbrev aA:=@Option.some.inj
abbrev aB:=@List.mem_cons
abbrev aC:=@Heap.get?_push_size
abbrev aD:=@Bool.and_eq_true_iff
abbrev aE:=@Nat.ne_of_gt
abbrev aH:=@Nat.ne_of_lt
abbrev aI:=@Nat.lt_succ_self
abbrev aK:=@wpAny_call_entry
abbrev aM:=@List.all_eq_true
abbrev aN:=@absurd
abbrev aO:=@Nat.zero_le
abbrev aQ:=@Bool.false_ne_true
abbrev aW:=@Heap.lt_size
abbrev aX:=@Nat.succ_le_succ
abbrev aY:=@List.mem_append
abbrev aZ:=@Option.map_eq_some_iff
abbrev a0:=@Nat.not_lt_zero
abbrev ba:=@List.mem_iff_getElem?
abbrev bf:=@wpAny_standAt
abbrev bo:=@Option.isSome_iff_exists
abbrev bq:=@of_decide_eq_true
abbrev bu:=@List.pairwise_cons
abbrev bB:=@wpAny_isInstance
abbrev bC:=@Nat.le_of_lt_succ
abbrev bD:=@wpAny_truthy_bool
abbrev bF:=@Nat.not_lt
abbrev bG:=@Nat.le_succ
abbrev bI:=@List.mem_map_of_mem
abbrev bL:=@wpAny_specialOf
abbrev bN:=@Nat.lt_succ_of_lt
abbrev bO:=@wpAny_rule
abbrev bP:=@Nat.le_of_lt
abbrev bS:=@Nat.lt_irrefl
abbrev bU:=@wpAny_callSpecial?_slot
abbrev bX:=@Nat.le_of_eq
abbrev bY:=@Nat.lt_of_succ_lt_succ
abbrev b6:=@decide_eq_true
abbrev b9:=@wpAny_field
abbrev ca:=@Nat.add_le_add_left
abbrev cf:=@Heap.get?_update_self
abbrev cj:=@List.length_eq_zero_iff
abbrev cm:=@wpAny_setField_rec
abbrev cn:=@Nat.le_antisymm
abbrev cu:=@Nat.le_of_succ_le_succ
abbrev cy:=@List.mem_range
abbrev cC:=@List.mem_map
abbrev cD:=@Nat.succ_pos
abbrev cI:=@Int.emod_lt_of_pos
abbrev cN:=@wpAny_seqItems
abbrev cS:=@Int.emod_nonneg
abbrev dg:=@wpAny_mono
abbrev di:=@Int.lt_trans
abbrev dj:=@Int.natCast_nonneg
abbrev dz:=@Nat.add_le_add
abbrev dH:=@Nat.add_le_add_right
abbrev dT:=@decide_eq_decide
abbrev eN:=@Bool.and_eq_true
abbrev eO:=@Nat.succ_ne_zero
abbrev eZ:=@Heap.SameBut.update
abbrev fD:=@Bool.eq_iff_iff
abbrev gx:=@Nat.eq_of_beq_eq_true
abbrev gy:=@Nat.ble_eq_true_of_le
abbrev hY:=@Nat.mul_le_mul_right
abbrev hZ:=@Nat.not_succ_le_zero
abbrev jH:=@Nat.lt_of_le_of_ne
abbrev kY:=@wpAny_call
abbrev kZ:=@wpAny_load
abbrev k7:=@Nat.sub_le
abbrev k9:=@Nat.lt_succ_of_le
abbrev mS:=@wpAny_forIn_list
abbrev p9:=@Int.le_of_lt
abbrev wC:=@Int.ofNat_inj
abbrev zg:=@Bool.eq_false_iff
abbrev Ea:=@decide_eq_false
abbrev Eb:=@Nat.min_eq_left
abbrev Ir:=@Value.ref.inj
noncomputable abbrev Jn:=@Option.casesOn
noncomputable abbrev Jo:=@List.casesOn
noncomputable abbrev Jp:=@Bool.casesOn
noncomputable abbrev Jq:=@Nat.casesAuxOn
set_option genInjectivity true in
inductive HV where
 |none
 |bool (b:Bool)
 |int (i:Int)
 |str (k:Nat)
 |t (xs:List HV)
 |w (xs:List Int)
 |uset (xs:List Int)
 |ref (i:Nat)
 |obj (c i:Nat)
 |fn (k:Nat)
 |clo (k:Nat) (caps:List HV)
 |meth (k c i:Nat)
 |cls (c:Nat)
 |rl (xs:List HV)
inductive HO where
 |list (xs:List HV)
 |dict (kvs:List (HV×HV))
 |tab (k:Nat)
noncomputable abbrev aF:=List HO
inductive SV where
 |empty
 |val (v:HV)
 |ro (v:HV)
noncomputable abbrev bc:=List SV
inductive BI where
 |len|max|min|int|sorted|set|frozenset|tuple
inductive CO where
 |eq|ne|lt|le|gt|ge|is_|n|in_|notin
inductive BO where
 |add|sub|mul|fdiv|mod|pow|bor
inductive HT where
 |x (i:Nat)
 |t (ts:List HT)
mutual
inductive HE where
 |x (i:Nat)
 |k (v:HV)
 |t (es:List HE)
 |list (es:List HE)
 |dict (kvs:List (HE×HE))
 |call (f:HE) (args:List HE)
 |m (o:HE) (a:Nat) (args:List HE)
 |bi (b:BI) (args:List HE)
 |listE (x:HE)
 |listR (args:List HE)
 |dictZ (x y:HE)
 |a (o:HE) (a:Nat)
 |sub (o i:HE)
 |slice (o:HE) (lo hi:Option HE)
 |c (op:CO) (l r:HE)
 |cmp2 (op₁ op₂:CO) (l m r:HE)
 |and_ (es:List HE)
 |or_ (es:List HE)
 |not_ (e:HE)
 |ite (c a b:HE)
 |bin (op:BO) (l r:HE)
 |neg (e:HE)
 |comp (nl:Nat) (caps:List Nat) (t:HT) (it:HI) (ifs:List HE) (c:HC)
 |dcomp (nl:Nat) (caps:List Nat) (t:HT) (it:HI) (ifs:List HE) (k v:HE)
 |bad
inductive HI where
 |e (x:HE)
 |rng (args:List HE)
 |enum (x:HE)
 |zip (x y:HE)
inductive HC where
 |elt (e:HE)
 |gen (t:HT) (it:HI) (ifs:List HE) (c:HC)
end
inductive HL where
 |x (i:Nat)
 |t (ts:List HL)
 |a (o:HE) (a:Nat)
 |sub (o i:HE)
inductive HS where
 |g (t:HL) (e:HE)
 |if_ (c:HE) (b₁ b₂:List HS)
 |while_ (c:HE) (b:List HS)
 |for_ (t:HT) (it:HI) (b:List HS)
 |ret (e:Option HE)
 |expr (e:HE)
 |def_ (slot fn cap tab:Nat)
 |bad
structure be where
 nargs:Nat
 nslots:Nat
 ncaps:Nat
 dflts:List HV
 body:List HS
structure xQ where
 init:Nat
 meths:List (Nat×Nat)
mutual
noncomputable def cU:Nat->HV->HV->Option Bool
 |_, .none,y=>match y with| .none=>some true|_=> .none
 |_, .int a,y=>match y with| .int b=>some (decide (a=b))|_=> .none
 |_, .str a,y=>match y with| .str b=>some (Nat.beq a b)|_=> .none
 |n, .t a,y=>match n with
  |0=> .none
  |n+1=>match y with| .t b=>ic n a b|_=> .none
 |_,_,_=> .none
noncomputable def ic:Nat->List HV->List HV->Option Bool
 |_,[],l=>some l.isEmpty
 |n,x::xs,l=>match l with
  |[]=>some false
  |y::ys=>match cU n x y with
   |some true=>ic n xs ys
   |r=>r
end
noncomputable def veq (x y:HV):Bool:=match cU 8 x y with
 |some true=>true
 |_=>false
mutual
noncomputable def dD:Nat->HV->Bool
 |_, .int _=>true
 |_, .str _=>true
 |n+1, .t xs=>gK n xs
 |_,_=>false
noncomputable def gK:Nat->List HV->Bool
 |_,[]=>true
 |n,x::xs=>dD n x&&gK n xs
end
noncomputable def cr:List HV->Option (List Int)
 |[]=>some []
 | .int i::r=>match cr r with
  |some l=>some (i::l)
  | .none=> .none
 |_::_=> .none
noncomputable def El (x:Int):List Int->List Int
 |[]=>[x]
 |y::r=>if x<=y then x::y::r else y::El x r
noncomputable def dW:List Int->List Int
 |[]=>[]
 |x::r=>El x (dW r)
noncomputable def jX (x:Int):List Int->List Int
 |[]=>[x]
 |y::r=>if x<y then x::y::r else if x=y then y::r else y::jX x r
noncomputable def cA:List Int->List Int
 |[]=>[]
 |x::r=>jX x (cA r)
noncomputable def lim:Nat:=2000
noncomputable def eV (i:Int):Bool:=Nat.ble i.natAbs.log2 4194304
noncomputable def getL (V:aF) (i:Nat):Option (List HV):=match V[i]? with
 |some (.list xs)=>some xs
 |_=> .none
noncomputable def place (k:Int) (n:Nat):Option Nat:=match k with
 | .ofNat i=>if i<n then some i else .none
 | .negSucc i=>if i<n then some (n - (i+1)) else .none
noncomputable def Cm (k:Int) (n:Nat):Nat:=match k with
 | .ofNat i=>min i n
 | .negSucc i=>n - (i+1)
noncomputable def f8 (lo hi:Option Int) (xs:List HV):List HV:=
 let a:=match lo with|some k=>Cm k xs.length| .none=>0
 let b:=match hi with|some k=>Cm k xs.length| .none=>xs.length
 (xs.take b).drop a
noncomputable def bA (k:HV):List (HV×HV)->Option HV
 |[]=> .none
 |(x,v)::r=>if veq x k then some v else bA k r
noncomputable def dC (k v:HV):List (HV×HV)->List (HV×HV)
 |[]=>[(k,v)]
 |(x,u)::r=>if veq x k then(x,v)::r else(x,u)::dC k v r
noncomputable def isInt (x:HV):Bool:=Nat.beq x.ctorIdx 2
noncomputable def isStr (x:HV):Bool:=Nat.beq x.ctorIdx 3
noncomputable def bp (k:HV) (kvs:List (HV×HV)):Bool:=match k with
 | .int _=>kvs.all λ p=>isInt p.1
 | .str _=>kvs.all λ p=>isStr p.1
 | .t xs=>dD 8 (.t xs)&&kvs.all λ p=>(cU 8 p.1 (.t xs)).isSome
 |_=>false
noncomputable def ew (k:HV):List HV->Option Bool
 |[]=>some false
 |x::r=>match cU 8 x k,ew k r with
  |some b,some c=>some (b||c)
  |_,_=> .none
noncomputable def kW (k:HV):List HV->Option (Option Nat)
 |[]=>some .none
 |x::r=>match cU 8 x k,kW k r with
  |some true,some _=>some (some 0)
  |some false,some j=>some (j.map (·+1))
  |_,_=> .none
noncomputable def wW (x:HV):Bool:=Nat.beq x.ctorIdx 5
noncomputable def isNone (x:HV):Bool:=Nat.beq x.ctorIdx 0
noncomputable def zu (xs:List HV):Nat->List HV
 |0=>[]
 |n+1=>xs++zu xs n
noncomputable def eF (a b:List Int):List Int:=a.filter λ x=>!b.contains x
inductive MN where
 |append|pop|extend|index|get|setdefault
noncomputable def MN.ofList:MN->Bool
 | .get=>false
 | .setdefault=>false
 |_=>true
inductive gz where
 |static (xs:List HV)
 |l (i:Nat)
 |keys (i n:Nat)
 |enum (i:Nat)
 |zip (xs ys:List HV)
noncomputable def dq (a:Int) (step:Int):Nat->List HV
 |0=>[]
 |n+1=> .int a::dq (a+step) step n
inductive Bm (F:List HV->Prop):List HV->Prop
 |up {n:Nat}:n<2000->F (dq 0 1 n)->Bm F [.int n]
 |dn {n:Nat}:n<2000->F (dq n (-1) (n+1))->Bm F [.int n, .int (-1), .int (-1)]
noncomputable def eH:List HV->List HV->List (HV×HV)->Option (List (HV×HV))
 |k::ks,v::vs,acc=>if bp k acc then eH ks vs (dC k v acc) else .none
 |_,_,acc=>some acc
noncomputable def sC (Y:bc) (i:Nat):Option HV:=match Y[i]? with
 |some (.val v)=>some v
 |some (.ro v)=>some v
 |_=> .none
noncomputable def dS (Y:bc) (i:Nat) (v:HV):Option bc:=match Y[i]? with
 |some (.val _)=>some (Y.set i (.val v))
 |some .empty=>some (Y.set i (.val v))
 |_=> .none
noncomputable def caps (Y:bc):List Nat->Option (List HV)
 |[]=>some []
 |i::r=>match sC Y i,caps Y r with
  |some v,some l=>some (v::l)
  |_,_=> .none
mutual
noncomputable def fP (Y:bc):HT->HV->Option bc
 | .x i,v=>dS Y i v
 | .t ts, .t xs=>jB Y ts xs
 | .t _,_=> .none
noncomputable def jB (Y:bc):List HT->List HV->Option bc
 |[],[]=>some Y
 |t::ts,x::xs=>match fP Y t x with
  |some Y'=>jB Y' ts xs
  | .none=> .none
 |_,_=> .none
end
structure bQ where
 funs:List be
 clss:List xQ
 mns:List (Nat×MN)
 noAttr:List (Nat×Nat)
noncomputable abbrev KV:=HV->aF->Prop
noncomputable abbrev bn:=Nat->List HV->List HV->aF->KV->Prop
noncomputable def oF {X:Type} (o:Option X) (F:X->Prop):Prop:=match o with|some v=>F v| .none=>False
noncomputable def Hq (v:HV) (α:Prop):Prop:=match v with| .bool _=>α|_=>False
noncomputable def yM (v:HV) (A B:Prop):Prop:=match v with| .bool b=>(match b with|true=>A|false=>B)|_=>False
structure eJ (V:aF) (K:KV) (o:HO):Prop where
 h:K (.ref V.length) (V++[o])
inductive Dh (V:aF):HV->HV->Bool->Prop
 |c {a b:HV} {t:Bool}:cU 8 a b=some t->isNone a=false->Dh V a b t
 |fs {a b:List Int}:a.length<=4->b.length<lim->Dh V (.w a) (.w b) (a==b)
 |l {i j:Nat} {xs ys:List HV} {a b:List Int}:V[i]? =some (.list xs)->V[j]? =some (.list ys)->cr xs=some a->cr ys=some b->Dh V (.ref i) (.ref j) (a==b)
inductive r8 (V:aF):HV->HV->Bool->Prop
 |t {x:HV} {ys:List HV} {t:Bool}:ew x ys=some t->r8 V x (.t ys) t
 |l {x:HV} {i:Nat} {ys:List HV} {t:Bool}:V[i]? =some (.list ys)->ew x ys=some t->r8 V x (.ref i) t
 |dct {x:HV} {i:Nat} {kvs:List (HV×HV)}:V[i]? =some (.dict kvs)->bp x kvs=true->r8 V x (.ref i) (bA x kvs).isSome
 |fs {k:Int} {ys:List Int}:ys.length<lim->r8 V (.int k) (.w ys) (ys.contains k)
inductive aS (V:aF) (F:Bool->Prop):CO->HV->HV->Prop
 |eq {a b:HV} {t:Bool}:Dh V a b t->wW a=false->F t->aS V F .eq a b
 |ne {a b:HV} {t:Bool}:Dh V a b t->F (!t)->aS V F .ne a b
 |lt {x y:Int}:F (decide (x<y))->aS V F .lt (.int x) (.int y)
 |le {x y:Int}:F (decide (x<=y))->aS V F .le (.int x) (.int y)
 |gt {x y:Int}:F (decide (y<x))->aS V F .gt (.int x) (.int y)
 |ge {x y:Int}:F (decide (y<=x))->aS V F .ge (.int x) (.int y)
 |is_ {a:HV}:F (isNone a)->aS V F .is_ a .none
 |n {a:HV}:F (!isNone a)->aS V F .n a .none
 |in_ {a b:HV} {t:Bool}:r8 V a b t->F t->aS V F .in_ a b
 |notin {a b:HV} {t:Bool}:r8 V a b t->F (!t)->aS V F .notin a b
inductive dh (V:aF) (K:KV):BO->HV->HV->Prop
 |add {x y:Int}:eV x=true->eV y=true->K (.int (x+y)) V->dh V K .add (.int x) (.int y)
 |sub {x y:Int}:eV x=true->eV y=true->K (.int (x - y)) V->dh V K .sub (.int x) (.int y)
 |mul {x y:Int}:eV x=true->eV y=true->K (.int (x*y)) V->dh V K .mul (.int x) (.int y)
 |fdiv {x y:Int}:eV x=true->eV y=true->y≠0->y.natAbs<1073741824->K (.int (x.fdiv y)) V->dh V K .fdiv (.int x) (.int y)
 |mod {x y:Int}:eV x=true->eV y=true->y≠0->K (.int (x.fmod y)) V->dh V K .mod (.int x) (.int y)
 |pow:K (.int (10^18)) V->dh V K .pow (.int 10) (.int 18)
 |cat {i j:Nat} {xs ys:List HV}:V[i]? =some (.list xs)->V[j]? =some (.list ys)->xs.length+ys.length<lim->K (.ref V.length) (V++[.list (xs++ys)])->dh V K .add (.ref i) (.ref j)
 |rep {i:Nat} {k:Int} {xs:List HV}:V[i]? =some (.list xs)->0<=k->k<100->xs.length<=1->K (.ref V.length) (V++[.list (zu xs k.toNat)])->dh V K .mul (.ref i) (.int k)
 |fsub {a b:List Int}:b.length<lim->a.length<=4->(decide (a.length/4<=b.length)||b.isEmpty)=true->K (.w (eF a b)) V->dh V K .sub (.w a) (.w b)
 |bor {a b:List Int}:a.length+b.length<=4->K (.w (cA (a++b))) V->dh V K .bor (.w a) (.w b)
inductive eU (V:aF) (K:KV):BI->List HV->Prop
 |lenT {xs:List HV}:xs.length<lim->K (.int xs.length) V->eU V K .len [.t xs]
 |lenR {xs:List HV}:xs.length<lim->K (.int xs.length) V->eU V K .len [.rl xs]
 |lenL {i:Nat} {xs:List HV}:V[i]? =some (.list xs)->xs.length<lim->K (.int xs.length) V->eU V K .len [.ref i]
 |max {x y:Int}:K (.int (if y>x then y else x)) V->eU V K .max [.int x, .int y]
 |min {x y:Int}:K (.int (if y<x then y else x)) V->eU V K .min [.int x, .int y]
 |int {x:Int}:K (.int x) V->eU V K .int [.int x]
 |intB {x:Bool}:K (.int (if x then 1 else 0)) V->eU V K .int [.bool x]
 |srtF {xs:List Int}:xs.length<=1->K (.ref V.length) (V++[.list (xs.map .int)])->eU V K .sorted [.w xs]
 |srtU {xs:List Int}:xs.length<=1->K (.ref V.length) (V++[.list (xs.map .int)])->eU V K .sorted [.uset xs]
 |srtL {i:Nat} {xs:List HV} {l:List Int}:V[i]? =some (.list xs)->cr xs=some l->l.length<64->K (.ref V.length) (V++[.list ((dW l).map .int)])->eU V K .sorted [.ref i]
 |srtD {i:Nat} {kvs:List (HV×HV)} {l:List Int}:V[i]? =some (.dict kvs)->cr (kvs.map (·.1))=some l->l.length<64->K (.ref V.length) (V++[.list ((dW l).map .int)])->eU V K .sorted [.ref i]
 |set {i:Nat} {xs:List HV} {l:List Int}:V[i]? =some (.list xs)->cr xs=some l->l.length<lim->K (.uset (cA l)) V->eU V K .set [.ref i]
 |fs0:K (.w []) V->eU V K .frozenset []
 |fsL {i:Nat} {xs:List HV} {l:List Int}:V[i]? =some (.list xs)->cr xs=some l->l.length<lim->K (.w (cA l)) V->eU V K .frozenset [.ref i]
 |tupL {i:Nat} {xs:List HV}:V[i]? =some (.list xs)->xs.length<lim->K (.t xs) V->eU V K .tuple [.ref i]
 |tupT {xs:List HV}:K (.t xs) V->eU V K .tuple [.t xs]
inductive qt (V:aF) (K:KV) (i:Nat):MN->List HV->Prop
 |append {xs:List HV} {v:HV}:V[i]? =some (.list xs)->xs.length<lim->K .none (V.set i (.list (xs++[v])))->qt V K i .append [v]
 |pop {xs:List HV} {v:HV}:V[i]? =some (.list xs)->xs.length<lim->xs.getLast?=some v->K v (V.set i (.list xs.dropLast))->qt V K i .pop []
 |extend {j:Nat} {xs ys:List HV}:V[i]? =some (.list xs)->V[j]? =some (.list ys)->i≠j->xs.length+ys.length<lim->K .none (V.set i (.list (xs++ys)))->qt V K i .extend [.ref j]
 |index {xs:List HV} {v:HV} {k:Nat}:V[i]? =some (.list xs)->xs.length<lim->kW v xs=some (some k)->K (.int k) V->qt V K i .index [v]
 |get {kvs:List (HV×HV)} {k:HV}:V[i]? =some (.dict kvs)->bp k kvs=true->K ((bA k kvs).getD .none) V->qt V K i .get [k]
 |getD {kvs:List (HV×HV)} {k d:HV}:V[i]? =some (.dict kvs)->bp k kvs=true->K ((bA k kvs).getD d) V->qt V K i .get [k,d]
 |sdS {kvs:List (HV×HV)} {k d v:HV}:V[i]? =some (.dict kvs)->bp k kvs=true->kvs.length<lim->bA k kvs=some v->K v V->qt V K i .setdefault [k,d]
 |sdN {kvs:List (HV×HV)} {k d:HV}:V[i]? =some (.dict kvs)->bp k kvs=true->kvs.length<lim->bA k kvs= .none->K d (V.set i (.dict (kvs++[(k,d)])))->qt V K i .setdefault [k,d]
inductive bj (V:aF) (F:HV->Prop):HV->HV->Prop
 |t {xs:List HV} {k:Int} {j:Nat} {v:HV}:xs.length<lim->place k xs.length=some j->xs[j]? =some v->F v->bj V F (.t xs) (.int k)
 |rl {xs:List HV} {k:Int} {j:Nat} {v:HV}:xs.length<lim->place k xs.length=some j->xs[j]? =some v->F v->bj V F (.rl xs) (.int k)
 |l {i:Nat} {xs:List HV} {k:Int} {j:Nat} {v:HV}:V[i]? =some (.list xs)->xs.length<lim->place k xs.length=some j->xs[j]? =some v->F v->bj V F (.ref i) (.int k)
 |dct {i:Nat} {kvs:List (HV×HV)} {k v:HV}:V[i]? =some (.dict kvs)->bp k kvs=true->bA k kvs=some v->F v->bj V F (.ref i) k
inductive nt (V:aF) (v:HV) (F:aF->Prop):HV->HV->Prop
 |l {i:Nat} {xs:List HV} {j:Nat}:V[i]? =some (.list xs)->xs.length<lim->j<xs.length->F (V.set i (.list (xs.set j v)))->nt V v F (.ref i) (.int (.ofNat j))
 |dct {i:Nat} {kvs:List (HV×HV)} {k:HV}:V[i]? =some (.dict kvs)->bp k kvs=true->kvs.length<lim->F (V.set i (.dict (dC k v kvs)))->nt V v F (.ref i) k
inductive H6 (V:aF) (K:gz->Prop):HV->Prop
 |mk {i:Nat} (xs:List HV):V[i]? =some (.list xs)->xs.length<lim->K (.enum i)->H6 V K (.ref i)
inductive jW (V:aF) (k:Nat) (F:Option HV->Prop):gz->Prop
 |st {xs:List HV}:F xs[k]? ->jW V k F (.static xs)
 |l {i:Nat} {xs:List HV}:V[i]? =some (.list xs)->F xs[k]? ->jW V k F (.l i)
 |keys {i n:Nat} {kvs:List (HV×HV)} {l:List Int}:V[i]? =some (.dict kvs)->kvs.length=n->cr (kvs.map (·.1))=some l->F (kvs[k]?.map (·.1))->jW V k F (.keys i n)
 |enum {i:Nat} {xs:List HV}:V[i]? =some (.list xs)->F (xs[k]?.map λ v=> .t [.int k,v])->jW V k F (.enum i)
 |zip {xs ys:List HV}:F ((xs.zip ys)[k]?.map λ p=> .t [p.1,p.2])->jW V k F (.zip xs ys)
inductive tI (V:aF) (F:gz->Prop):HV->Prop
 |t {xs:List HV}:xs.length<lim->F (.static xs)->tI V F (.t xs)
 |fs {xs:List Int}:xs.length<=1->F (.static (xs.map .int))->tI V F (.w xs)
 |us {xs:List Int}:xs.length<=1->F (.static (xs.map .int))->tI V F (.uset xs)
 |l {i:Nat} {xs:List HV}:V[i]? =some (.list xs)->xs.length<lim->F (.l i)->tI V F (.ref i)
 |keys {i:Nat} {kvs:List (HV×HV)} {l:List Int}:V[i]? =some (.dict kvs)->kvs.length<lim->cr (kvs.map (·.1))=some l->F (.keys i kvs.length)->tI V F (.ref i)
inductive cw (V:aF) (F:List HV->Prop):HV->Prop
 |t {xs:List HV}:F xs->cw V F (.t xs)
 |l {i:Nat} {xs:List HV}:V[i]? =some (.list xs)->F xs->cw V F (.ref i)
inductive uY (V:aF) (K:KV) (l h:Option Int):HV->Prop
 |t {xs:List HV}:xs.length<lim->K (.t (f8 l h xs)) V->uY V K l h (.t xs)
 |l {i:Nat} {xs:List HV}:V[i]? =some (.list xs)->xs.length<lim->K (.ref V.length) (V++[.list (f8 l h xs)])->uY V K l h (.ref i)
inductive GY (V:aF) (K:KV):HV->HV->Prop
 |mk {xs ys:List HV} {d:List (HV×HV)}:xs.length=ys.length->ys.length<16->eH xs ys []=some d->K (.ref V.length) (V++[.dict d])->GY V K (.t xs) (.t ys)
section
variable(P:bQ)
noncomputable def dM (c a:Nat):Option Nat:=match P.clss[c]? with
 |some h=>h.meths.lookup a
 | .none=> .none
noncomputable def gk (c a:Nat):Bool:=Nat.blt c P.clss.length&&!P.noAttr.contains (c,a)
inductive iI where
 |own (k c i:Nat)
 |built (m:MN) (i:Nat)
inductive dZ (V:aF) (a:Nat) (F:HV->Prop):HV->Prop
 |fld {c i:Nat} {kvs:List (HV×HV)} {v:HV}:V[i]? =some (.dict kvs)->(gk P c a&&bp (.str a) kvs)=true->bA (.str a) kvs=some v->dM P c a= .none->F v->dZ V a F (.obj c i)
 |mth {c i k:Nat} {kvs:List (HV×HV)}:V[i]? =some (.dict kvs)->(gk P c a&&bp (.str a) kvs)=true->bA (.str a) kvs= .none->dM P c a=some k->F (.meth k c i)->dZ V a F (.obj c i)
inductive Fa (V:aF) (a:Nat) (v:HV) (F:aF->Prop):HV->Prop
 |mk {c i:Nat} {kvs:List (HV×HV)}:V[i]? =some (.dict kvs)->(gk P c a&&bp (.str a) kvs)=true->dM P c a= .none->kvs.length<500->F (V.set i (.dict (dC (.str a) v kvs)))->Fa V a v F (.obj c i)
inductive jE (V:aF) (a:Nat) (F:iI->Prop):HV->Prop
 |own {c i k:Nat} {kvs:List (HV×HV)}:V[i]? =some (.dict kvs)->(gk P c a&&bp (.str a) kvs)=true->bA (.str a) kvs= .none->dM P c a=some k->F (.own k c i)->jE V a F (.obj c i)
 |l {i:Nat} {xs:List HV} {m:MN}:V[i]? =some (.list xs)->P.mns.lookup a=some m->m.ofList=true->F (.built m i)->jE V a F (.ref i)
 |dct {i:Nat} {kvs:List (HV×HV)} {m:MN}:V[i]? =some (.dict kvs)->P.mns.lookup a=some m->m.ofList=false->F (.built m i)->jE V a F (.ref i)
variable(ck:bn)
noncomputable def Ek (f:HV) (args:List HV) (V:aF) (K:KV):Prop:=match f with
 | .fn k=>ck k args [] V K
 | .clo k cs=>cs.isEmpty=false/\ck k args cs V K
 | .meth k c i=>ck k (.obj c i::args) [] V K
 | .cls c=>oF P.clss[c]? λ h=>eJ V (λ o V=>match o with| .ref i=>ck h.init (.obj c i::args) [] V λ v V'=>v= .none/\K (.obj c i) V'|_=>False) (.dict [])
 |_=>False
noncomputable def By (m:iI) (args:List HV) (V:aF) (K:KV):Prop:=match m with
 | .own k c i=>ck k (.obj c i::args) [] V K
 | .built m i=>qt V K i m args
noncomputable def gJ:List (HV×HV)->List (HV×HV)->Option (List (HV×HV))
 |[],acc=>some acc
 |(k,v)::r,acc=>if bp k acc then gJ r (dC k v acc) else .none
noncomputable def eA {Z:Type} (s:gz) (body:HV->bc->aF->Z->(bc->aF->Z->Prop)->Prop):Nat->Nat->bc->aF->Z->(bc->aF->Z->Prop)->Prop
 |0,_,_,_,_,_=>False
 |n+1,k,Y,V,b,K=>jW V k (λ o=>match o with
  | .none=>K Y V b
  |some v=>body v Y V b λ Y' V' b'=>eA s body n (k+1) Y' V' b' K) s
noncomputable def mx (s:gz) (body:HV->bc->aF->(bc->aF->Prop)->Prop):Nat->Nat->bc->aF->(bc->aF->Prop)->Prop
 |0,_,_,_,_=>False
 |n+1,k,Y,V,N=>jW V k (λ o=>match o with
  | .none=>N Y V
  |some v=>body v Y V λ Y' V'=>mx s body n (k+1) Y' V' N) s
noncomputable def Ee (test:bc->aF->KV->Prop) (body:bc->aF->(bc->aF->Prop)->Prop):Nat->bc->aF->(bc->aF->Prop)->Prop
 |0,_,_,_=>False
 |n+1,Y,V,N=>test Y V λ v V=>yM v (body Y V λ Y V=>Ee test body n Y V N) (N Y V)
mutual
noncomputable def eW:HE->bc->aF->KV->Prop
 | .x i,Y,V,K=>oF (sC Y i) λ v=>K v V
 | .k v,_,V,K=>K v V
 | .t es,Y,V,K=>y6 es Y V λ vs V=>K (.t vs) V
 | .list es,Y,V,K=>y6 es Y V λ vs V=>vs.length<lim/\eJ V K (.list vs)
 | .dict kvs,Y,V,K=>H5 kvs Y V λ vs V=>vs.length<16/\oF (gJ vs []) λ d=>eJ V K (.dict d)
 | .call f as,Y,V,K=>eW f Y V λ fv V=>y6 as Y V λ vs V=>Ek P ck fv vs V K
 | .m o a as,Y,V,K=>eW o Y V λ ov V=>jE P V a (λ m=>y6 as Y V λ vs V=>By ck m vs V K) ov
 | .bi b as,Y,V,K=>y6 as Y V λ vs V=>eU V K b vs
 | .listE x,Y,V,K=>eW x Y V λ v V=>cw V (λ xs=>xs.length<lim/\eJ V K (.list xs)) v
 | .listR as,Y,V,K=>y6 as Y V λ vs V=>Bm (λ xs=>xs.length<lim/\eJ V K (.list xs)) vs
 | .dictZ x y,Y,V,K=>eW x Y V λ u V=>eW y Y V λ v V=>GY V K u v
 | .a o a,Y,V,K=>eW o Y V λ ov V=>dZ P V a (λ v=>K v V) ov
 | .sub o i,Y,V,K=>eW o Y V λ ov V=>eW i Y V λ iv V=>bj V (λ v=>K v V) ov iv
 | .slice o lo hi,Y,V,K=>eW o Y V λ ov V=>oW lo Y V λ l V=>oW hi Y V λ h V=>uY V K l h ov
 | .c op l r,Y,V,K=>eW l Y V λ a V=>eW r Y V λ b V=>aS V (λ t=>K (.bool t) V) op a b
 | .cmp2 op₁ op₂ l m r,Y,V,K=>eW l Y V λ a V=>eW m Y V λ b V=>aS V (λ t=>yM (.bool t) (eW r Y V λ c V=>aS V (λ t=>K (.bool t) V) op₂ b c) (K (.bool false) V)) op₁ a b
 | .and_ es,Y,V,K=>GM es Y V K
 | .or_ es,Y,V,K=>GI es Y V K
 | .not_ e,Y,V,K=>eW e Y V λ v V=>yM v (K (.bool false) V) (K (.bool true) V)
 | .ite c a b,Y,V,K=>eW c Y V λ v V=>yM v (eW a Y V K) (eW b Y V K)
 | .bin op l r,Y,V,K=>eW l Y V λ a V=>eW r Y V λ b V=>dh V K op a b
 | .neg e,Y,V,K=>eW e Y V λ v V=>match v with| .int i=>K (.int (-i)) V|_=>False
 | .comp nl cs t it ifs c,Y,V,K=>iW it Y V λ s V=>oF (caps Y cs) λ vs=>∃n,eA s (λ v Y' V' (acc:List HV) K'=>oF (fP Y' t v) λ ρ₁=>
   fW ifs ρ₁ V' (λ σ₁=>cW c ρ₁ σ₁ acc K') (λ σ₁=>K' ρ₁ σ₁ acc)) n 0 (List.replicate nl SV.empty++vs.map SV.ro) V [] λ U V xs=>eJ V K (.list xs)
 | .dcomp nl cs t it ifs ke ve,Y,V,K=>iW it Y V λ s V=>oF (caps Y cs) λ vs=>∃n,eA s (λ v Y' V' (acc:List (HV×HV)) K'=>oF (fP Y' t v) λ ρ₁=>
   fW ifs ρ₁ V' (λ σ₁=>eW ke ρ₁ σ₁ λ kv σ₂=>eW ve ρ₁ σ₂ λ vv σ₃=>(bp kv acc&&acc.length<lim)=true/\K' ρ₁ σ₃ (dC kv vv acc)) (λ σ₁=>K' ρ₁ σ₁ acc)) n 0 (List.replicate nl SV.empty++vs.map SV.ro) V [] λ U V xs=>eJ V K (.dict xs)
 | .bad,_,_,_=>False
noncomputable def y6:List HE->bc->aF->(List HV->aF->Prop)->Prop
 |[],_,V,K=>K [] V
 |e::es,Y,V,K=>eW e Y V λ v V=>y6 es Y V λ vs V=>K (v::vs) V
noncomputable def H5:List (HE×HE)->bc->aF->(List (HV×HV)->aF->Prop)->Prop
 |[],_,V,K=>K [] V
 |(k,e)::es,Y,V,K=>eW k Y V λ kv V=>eW e Y V λ v V=>H5 es Y V λ vs V=>K ((kv,v)::vs) V
noncomputable def oW:Option HE->bc->aF->(Option Int->aF->Prop)->Prop
 | .none,_,V,K=>K .none V
 |some e,Y,V,K=>eW e Y V λ v V=>match v with| .int k=>K (some k) V|_=>False
noncomputable def GM:List HE->bc->aF->KV->Prop
 |[],_,_,_=>False
 |e::es,Y,V,K=>eW e Y V λ v V=>match es with
  |[]=>Hq v (K v V)
  |_::_=>yM v (GM es Y V K) (K (.bool false) V)
noncomputable def GI:List HE->bc->aF->KV->Prop
 |[],_,_,_=>False
 |e::es,Y,V,K=>eW e Y V λ v V=>match es with
  |[]=>Hq v (K v V)
  |_::_=>yM v (K (.bool true) V) (GI es Y V K)
noncomputable def iW:HI->bc->aF->(gz->aF->Prop)->Prop
 | .e x,Y,V,K=>eW x Y V λ v V=>tI V (λ s=>K s V) v
 | .rng as,Y,V,K=>y6 as Y V λ vs V=>Bm (λ xs=>K (.static xs) V) vs
 | .enum x,Y,V,K=>eW x Y V λ v V=>H6 V (λ s=>K s V) v
 | .zip x y,Y,V,K=>eW x Y V λ u V=>eW y Y V λ v V=>u= .t []/\v= .t []/\K (.zip [] []) V
noncomputable def fW:List HE->bc->aF->(aF->Prop)->(aF->Prop)->Prop
 |[],_,V,T,_=>T V
 |e::es,Y,V,T,F=>eW e Y V λ v V=>yM v (fW es Y V T F) (F V)
noncomputable def cW:HC->bc->aF->List HV->(bc->aF->List HV->Prop)->Prop
 | .elt e,Y,V,acc,K=>eW e Y V λ v V=>acc.length<lim/\K Y V (acc++[v])
 | .gen t it ifs c,Y,V,acc,K=>iW it Y V λ s V=>∃n,eA s (λ v Y' V' (acc:List HV) K'=>oF (fP Y' t v) λ ρ₁=>
   fW ifs ρ₁ V' (λ σ₁=>cW c ρ₁ σ₁ acc K') (λ σ₁=>K' ρ₁ σ₁ acc)) n 0 Y V acc K
end
mutual
noncomputable def lW:HL->HV->bc->aF->(bc->aF->Prop)->Prop
 | .x i,v,Y,V,N=>oF (dS Y i v) λ Y=>N Y V
 | .t ts,v,Y,V,N=>cw V (λ xs=>xs.length<lim/\ts.length=xs.length/\G4 ts xs Y V N) v
 | .a o a,v,Y,V,N=>eW P ck o Y V λ ov V=>Fa P V a v (λ V=>N Y V) ov
 | .sub o i,v,Y,V,N=>eW P ck o Y V λ ov V=>eW P ck i Y V λ iv V=>nt V v (λ V=>N Y V) ov iv
noncomputable def G4:List HL->List HV->bc->aF->(bc->aF->Prop)->Prop
 |[],xs,Y,V,N=>match xs with|[]=>N Y V|_=>False
 |t::ts,xs,Y,V,N=>match xs with|[]=>False|x::xs=>lW t x Y V λ Y V=>G4 ts xs Y V N
end
mutual
noncomputable def sW:HS->bc->aF->(bc->aF->Prop)->KV->Prop
 | .g t e,Y,V,N,_=>eW P ck e Y V λ v V=>lW P ck t v Y V N
 | .if_ c b₁ b₂,Y,V,N,R=>eW P ck c Y V λ v V=>yM v (kL b₁ Y V N R) (kL b₂ Y V N R)
 | .while_ c b,Y,V,N,R=>∃n,Ee (λ Y V K=>eW P ck c Y V K) (λ Y V N=>kL b Y V N R) n Y V N
 | .for_ t it b,Y,V,N,R=>iW P ck it Y V λ s V=>∃n,mx s (λ v Y V N=>oF (fP Y t v) λ Y=>kL b Y V N R) n 0 Y V N
 | .ret o,Y,V,_,R=>match o with
  | .none=>R .none V
  |some e=>eW P ck e Y V R
 | .expr e,Y,V,N,_=>eW P ck e Y V λ U V=>N Y V
 | .def_ i k j tb,Y,V,N,_=>V[tb]? =some (.tab k)/\match Y[j]? with
  |some (.val v)=>oF (dS (Y.set j (.ro v)) i (.clo k [v])) λ Y=>N Y V
  |_=>False
 | .bad,_,_,_,_=>False
noncomputable def kL:List HS->bc->aF->(bc->aF->Prop)->KV->Prop
 |[],Y,V,N,_=>N Y V
 |s::r,Y,V,N,R=>sW s Y V (λ Y V=>kL r Y V N R) R
end
end
noncomputable def nV (P:bQ) (ck:bn) (k:Nat) (args cs:List HV) (V:aF) (K:KV):Prop:=oF P.funs[k]? λ f=>
 (decide (args.length<=f.nargs)&&decide (f.nargs - args.length<=f.dflts.length)&&decide (cs.length=f.ncaps))=true/\
  kL P ck f.body ((args++f.dflts.drop (f.dflts.length - (f.nargs - args.length))).map SV.val++List.replicate (f.nslots - f.nargs) SV.empty++cs.map SV.ro) V (λ U V=>K .none V) K
noncomputable def hW (P:bQ):Nat->bn
 |0=>λ U U U U U=>False
 |d+1=>nV P (hW P d)
theorem cO {A B G:Prop} (h:A/\B) (f:A->B->G):G:=f h.1 h.2
theorem kB {A B C G:Prop} (h:A/\B/\C) (f:A->B->C->G):G:=f h.1 h.2.1 h.2.2
theorem pG {A B C D G:Prop} (h:A/\B/\C/\D) (f:A->B->C->D->G):G:=f h.1 h.2.1 h.2.2.1 h.2.2.2
theorem HP {A B C D E G:Prop} (h:A/\B/\C/\D/\E) (f:A->B->C->D->E->G):G:=f h.1 h.2.1 h.2.2.1 h.2.2.2.1 h.2.2.2.2
theorem IM {A B C D E F G:Prop} (h:A/\B/\C/\D/\E/\F) (f:A->B->C->D->E->F->G):G:=f h.1 h.2.1 h.2.2.1 h.2.2.2.1 h.2.2.2.2.1 h.2.2.2.2.2
theorem ce {X:Sort _} {A:X->Prop} {G:Prop} (h:∃x,A x) (f:∀x,A x->G):G:=h.elim λ x h=>f x h
theorem aU {X:Sort _} {A B:X->Prop} {G:Prop} (h:∃x,A x/\B x) (f:∀x,A x->B x->G):G:=h.elim λ x h=>f x h.1 h.2
theorem gn {X:Sort _} {A B C:X->Prop} {G:Prop} (h:∃x,A x/\B x/\C x) (f:∀x,A x->B x->C x->G):G:=h.elim λ x h=>f x h.1 h.2.1 h.2.2
theorem Bx {X:Sort _} {A B C D:X->Prop} {G:Prop} (h:∃x,A x/\B x/\C x/\D x) (f:∀x,A x->B x->C x->D x->G):G:=h.elim λ x h=>f x h.1 h.2.1 h.2.2.1 h.2.2.2
theorem GP {X:Sort _} {A B C D E:X->Prop} {G:Prop} (h:∃x,A x/\B x/\C x/\D x/\E x) (f:∀x,A x->B x->C x->D x->E x->G):G:=h.elim λ x h=>f x h.1 h.2.1 h.2.2.1 h.2.2.2.1 h.2.2.2.2
theorem Es {X Z:Sort _} {A:X->Z->Prop} {G:Prop} (h:∃x y,A x y) (f:∀x y,A x y->G):G:=h.elim λ x h=>h.elim λ y h=>f x y h
theorem dP {X Z:Sort _} {A B:X->Z->Prop} {G:Prop} (h:∃x y,A x y/\B x y) (f:∀x y,A x y->B x y->G):G:=h.elim λ x h=>h.elim λ y h=>f x y h.1 h.2
theorem dL {X Z:Sort _} {A B C:X->Z->Prop} {G:Prop} (h:∃x y,A x y/\B x y/\C x y) (f:∀x y,A x y->B x y->C x y->G):G:=h.elim λ x h=>h.elim λ y h=>f x y h.1 h.2.1 h.2.2
theorem HY {X Z:Sort _} {A B C D:X->Z->Prop} {G:Prop} (h:∃x y,A x y/\B x y/\C x y/\D x y) (f:∀x y,A x y->B x y->C x y->D x y->G):G:=h.elim λ x h=>h.elim λ y h=>f x y h.1 h.2.1 h.2.2.1 h.2.2.2
theorem Eg {X Z:Sort _} {A B C D E:X->Z->Prop} {G:Prop} (h:∃x y,A x y/\B x y/\C x y/\D x y/\E x y) (f:∀x y,A x y->B x y->C x y->D x y->E x y->G):G:=h.elim λ x h=>h.elim λ y h=>f x y h.1 h.2.1 h.2.2.1 h.2.2.2.1 h.2.2.2.2
theorem GE {X Z:Sort _} {A B C D E F:X->Z->Prop} {G:Prop} (h:∃x y,A x y/\B x y/\C x y/\D x y/\E x y/\F x y) (f:∀x y,A x y->B x y->C x y->D x y->E x y->F x y->G):G:=h.elim λ x h=>h.elim λ y h=>f x y h.1 h.2.1 h.2.2.1 h.2.2.2.1 h.2.2.2.2.1 h.2.2.2.2.2
theorem ky {X Z γ:Sort _} {A:X->Z->γ->Prop} {G:Prop} (h:∃x y z,A x y z) (f:∀x y z,A x y z->G):G:=h.elim λ x h=>h.elim λ y h=>h.elim λ z h=>f x y z h
theorem DU {X Z γ:Sort _} {A B:X->Z->γ->Prop} {G:Prop} (h:∃x y z,A x y z/\B x y z) (f:∀x y z,A x y z->B x y z->G):G:=h.elim λ x h=>h.elim λ y h=>h.elim λ z h=>f x y z h.1 h.2
theorem iR {X Z γ:Sort _} {A B C:X->Z->γ->Prop} {G:Prop} (h:∃x y z,A x y z/\B x y z/\C x y z) (f:∀x y z,A x y z->B x y z->C x y z->G):G:=h.elim λ x h=>h.elim λ y h=>h.elim λ z h=>f x y z h.1 h.2.1 h.2.2
theorem nv {X Z γ:Sort _} {A B C D:X->Z->γ->Prop} {G:Prop} (h:∃x y z,A x y z/\B x y z/\C x y z/\D x y z) (f:∀x y z,A x y z->B x y z->C x y z->D x y z->G):G:=h.elim λ x h=>h.elim λ y h=>h.elim λ z h=>f x y z h.1 h.2.1 h.2.2.1 h.2.2.2
theorem qU {G:Prop} (h:false=true):G:=(aQ h).elim
theorem rO {G:Prop} (h:true=false):G:=(aQ h.symm).elim
theorem dX {X:Type} {x:X} {G:Prop} (h:Option.none=some x):G:=Option.noConfusion rfl (heq_of_eq h)
theorem HN {n k m:Nat} (h:n - k=m+1):n - (k+1)=m:=(Nat.sub_succ n k).trans (by rw[h];rfl)
theorem HG {n k m:Nat} (h:n - k=m+1):k<n:=Nat.lt_of_sub_pos (h▸cD m)
theorem Hz {n k:Nat} (h:n - k=0) (hk:k<=n):k=n:=cn hk (Nat.le_of_sub_eq_zero h)
theorem IP {n m:Nat} (h:m+1<=n):n - m=n - (m+1)+1:=(Nat.succ_pred_eq_of_pos (Nat.sub_pos_of_lt h)).symm
theorem I0 {n m t:Nat} (h:n - m=t+1) (h2:t+1<n):m≠0:=λ e=>aN h2 (by rw[<- h,e];exact bS _)
theorem I7 {n m t:Nat} (h:n - m=t+1) (h1:t<n) (h2:¬t+1<n):m=0:=by
 rcases m with _|m
 ·rfl
 ·exact aN (h▸Nat.sub_lt (Nat.zero_lt_of_lt h1) (cD m)) h2
theorem GW {u d c k:Nat} (hk:Nat.ble k 100=true) (h:u+100*(d+1)<c):u+k<c:=
 aj (ca (ah (ae hk) (Nat.le_mul_of_pos_right 100 (cD d))) u) h
theorem lw {a b c:Nat} (h:a<b) (k:Nat.ble b c=true):a<c:=aw h (ae k)
theorem Jm {a b c:Nat} (h:a<=b) (k:Nat.ble b c=true):a<=c:=ah h (ae k)
theorem IN {a b c:Nat} (h:a<b) (k:Nat.ble b (c+1)=true):a<=c:=bC (lw h k)
theorem I3 {a b:Nat} {c:Int} (h:a<b) (k:decide ((b:Int)<=c)=true):(a:Int)<c:=Int.lt_of_lt_of_le (Int.ofNat_lt.mpr h) (bq k)
theorem ii {X:Type _} {x:X} {G:Prop} (h:x∈([]:List X)):G:=aN h List.not_mem_nil
theorem jK {k x:HV} {r:List HV} {b c:Bool} (h1:cU 8 x k=some b) (h2:ew k r=some c):ew k (x::r)=some (b||c):=by
 have:ew k (x::r)=(match cU 8 x k,ew k r with|some b,some c=>some (b||c)|_,_=> .none):=rfl
 rw[this,h1,h2]
theorem zS {k x:HV} {r:List HV} {b:Bool} {j:Option Nat} (h1:cU 8 x k=some b) (h2:kW k r=some j):kW k (x::r)=some (if b=true then some 0 else j.map (·+1)):=by
 have:kW k (x::r)=(match cU 8 x k,kW k r with|some true,some _=>some (some 0)|some false,some j=>some (j.map (·+1))|_,_=> .none):=rfl
 rw[this,h1,h2];rcases b with _|_<;>rfl
theorem BN {k x:HV} {r:List HV} {t:Bool} (h:ew k (x::r)=some t):∃b c,cU 8 x k=some b/\ew k r=some c/\(b||c)=t:=by
 have h:(match cU 8 x k,ew k r with|some b,some c=>some (b||c)|_,_=> .none)=some t:=h
 revert h;rcases cU 8 x k with _|b
 ·exact dX
 ·rcases ew k r with _|c
  ·exact dX
  ·exact λ h=>⟨b,c,rfl,rfl,aA h⟩
theorem iF {k:HV} {p:HV×HV} {r:List (HV×HV)}:bA k (p::r)=if veq p.1 k then some p.2 else bA k r:=rfl
theorem kh {k v:HV} {p:HV×HV} {r:List (HV×HV)}:dC k v (p::r)=if veq p.1 k then(p.1,v)::r else(p.1,p.2)::dC k v r:=rfl
theorem hX {x y:Int} {r:List Int}:jX x (y::r)=if x<y then x::y::r else if x=y then y::r else y::jX x r:=rfl
theorem qZ {x y:Int} {r:List Int}:El x (y::r)=if x<=y then x::y::r else y::El x r:=rfl
theorem qf (x:Int) (l:List Int):(El x l).Perm (x::l):=by
 induction l with
 |nil=>exact .refl _
 |cons y r ih=>
  rw[qZ];by_cases h:x<=y
  ·exact .of_eq (if_pos h)
  ·rw[if_neg h];exact(ih.cons y).trans (.swap x y r)
theorem iC (l:List Int):(dW l).Perm l:=by
 induction l with
 |nil=>exact .nil
 |cons x r ih=>exact(qf x _).trans (ih.cons x)
theorem oj {k v:HV} {ks vs:List HV} {acc:List (HV×HV)}:eH (k::ks) (v::vs) acc=if bp k acc=true then eH ks vs (dC k v acc) else none:=rfl
theorem kI {a t:Int} {n:Nat}:dq a t (n+1)= .int a::dq (a+t) t n:=rfl
noncomputable def sa:be:=⟨1,2,0,[],
  [.g (.x 1) (.sub (.x 0) (.k (.int 0))),
  .if_ (.c .eq (.x 1) (.k (.str 0))) [.ret (some (.t [.sub (.x 0) (.k (.int 3))]))] [],
  .if_ (.or_ [.c .eq (.x 1) (.k (.str 1)),.c .eq (.x 1) (.k (.str 2))]) [.ret (some (.t [.sub (.x 0) (.k (.int 1))]))] [],
  .if_ (.c .eq (.x 1) (.k (.str 3))) [.ret (some (.sub (.x 0) (.k (.int 1))))] [],
  .ret (some (.ite (.c .eq (.x 1) (.k (.str 4))) (.sub (.x 0) (.k (.int 3))) (.t [])))]⟩
noncomputable def uT:be:=⟨2,3,0,[],
  [.g (.x 2) (.sub (.x 0) (.k (.int 0))),
  .if_ (.c .eq (.x 2) (.k (.str 0))) [.ret (some (.t [.k (.str 0),.sub (.x 0) (.k (.int 1)),.sub (.x 0) (.k (.int 2)),.sub (.x 1) (.k (.int 0))]))] [],
  .if_ (.c .eq (.x 2) (.k (.str 1))) [.ret (some (.t [.k (.str 1),.sub (.x 1) (.k (.int 0))]))] [],
  .if_ (.c .eq (.x 2) (.k (.str 2))) [.ret (some (.t [.k (.str 2),.sub (.x 1) (.k (.int 0)),.sub (.x 0) (.k (.int 2))]))] [],
  .if_ (.c .eq (.x 2) (.k (.str 3))) [.ret (some (.t [.k (.str 3),.bi .tuple [.x 1]]))] [],
  .ret (some (.ite (.c .eq (.x 2) (.k (.str 4))) (.t [.k (.str 4),.sub (.x 0) (.k (.int 1)),.sub (.x 0) (.k (.int 2)),.bi .tuple [.x 1]]) (.x 0)))]⟩
noncomputable def mV:be:=⟨2,2,0,[],
  [.if_ (.c .eq (.sub (.x 0) (.k (.int 0))) (.k (.str 5))) [.ret (some (.m (.x 1) 6 [.sub (.x 0) (.k (.int 1)),.x 0]))] [],
  .ret (some (.call (.k (.fn 1)) [.x 0,.comp 1 [1] (.x 0) (.e (.call (.k (.fn 0)) [.x 0])) [] (.elt (.call (.k (.fn 2)) [.x 0,.x 1]))]))]⟩
noncomputable def mw:be:=⟨2,2,0,[],
  [.if_ (.c .eq (.sub (.x 0) (.k (.int 0))) (.k (.str 0))) [.g (.x 0) (.t [.k (.str 0),.call (.x 1) [.sub (.x 0) (.k (.int 1))],.sub (.x 0) (.k (.int 2)),.sub (.x 0) (.k (.int 3))])] [.if_ (.c .eq (.sub (.x 0) (.k (.int 0))) (.k (.str 4))) [.g (.x 0) (.t [.k (.str 4),.sub (.x 0) (.k (.int 1)),.bi .tuple [.comp 1 [1] (.x 0) (.e (.sub (.x 0) (.k (.int 2)))) [] (.elt (.call (.x 1) [.x 0]))],.sub (.x 0) (.k (.int 3))])] []],
  .ret (some (.call (.k (.fn 1)) [.x 0,.comp 1 [1] (.x 0) (.e (.call (.k (.fn 0)) [.x 0])) [] (.elt (.call (.k (.fn 3)) [.x 0,.x 1]))]))]⟩
noncomputable def rK:be:=⟨1,1,0,[],
  [.ret (some (.k .none))]⟩
noncomputable def yC:be:=⟨1,1,0,[],
  [.ret (some (.call (.k (.fn 3)) [.x 0,.k (.fn 4)]))]⟩
noncomputable def oI:be:=⟨1,3,0,[],
  [.g (.x 1) (.list []),
  .def_ 2 7 1 0,
  .expr (.call (.k (.fn 3)) [.x 0,.x 2]),
  .ret (some (.x 1))]⟩
noncomputable def iy:be:=⟨1,1,1,[],
  [.expr (.m (.x 1) 7 [.x 0]),
  .ret (some (.x 0))]⟩
noncomputable def wv:be:=⟨3,7,0,[],
  [.if_ (.c .eq (.sub (.x 0) (.k (.int 0))) (.k (.str 5))) [.bad,
   .bad,
   .ret (some (.k (.bool true)))] [],
  .if_ (.or_ [.c .ne (.sub (.x 0) (.k (.int 0))) (.sub (.x 1) (.k (.int 0))),.and_ [.c .eq (.sub (.x 0) (.k (.int 0))) (.k (.str 8)),.c .ne (.x 0) (.x 1)],.c .in_ (.sub (.x 0) (.k (.int 0))) (.t [.k (.str 9),.k (.str 10)])]) [.ret (some (.k (.bool false)))] [],
  .if_ (.or_ [.and_ [.c .eq (.sub (.x 0) (.k (.int 0))) (.k (.str 0)),.c .ne (.sub (.x 0) (.k (.int 2))) (.sub (.x 1) (.k (.int 2)))],.and_ [.c .eq (.sub (.x 0) (.k (.int 0))) (.k (.str 2)),.c .ne (.sub (.x 0) (.k (.int 2))) (.sub (.x 1) (.k (.int 2)))]]) [.ret (some (.k (.bool false)))] [],
  .if_ (.and_ [.c .eq (.sub (.x 0) (.k (.int 0))) (.k (.str 4)),.c .ne (.sub (.x 0) (.k (.int 1))) (.sub (.x 1) (.k (.int 1)))]) [.ret (some (.k (.bool false)))] [],
  .g (.t [.x 3,.x 4]) (.t [.call (.k (.fn 0)) [.x 0],.call (.k (.fn 0)) [.x 1]]),
  .if_ (.c .ne (.bi .len [.x 3]) (.bi .len [.x 4])) [.ret (some (.k (.bool false)))] [],
  .for_ (.t [.x 5,.x 6]) (.zip (.x 3) (.x 4)) [.if_ (.not_ (.call (.k (.fn 8)) [.x 5,.x 6,.x 2])) [.ret (some (.k (.bool false)))] []],
  .ret (some (.k (.bool true)))]⟩
noncomputable def pF:be:=⟨3,3,0,[],
  [.ret (some (.sub (.sub (.a (.sub (.a (.x 2) 11) (.sub (.x 0) (.k (.int 1)))) 12) (.x 1)) (.k (.int 2))))]⟩
noncomputable def ri:be:=⟨3,7,0,[],
  [.if_ (.c .eq (.sub (.x 0) (.k (.int 0))) (.k (.str 3))) [.bad] [],
  .if_ (.c .ne (.sub (.x 0) (.k (.int 0))) (.k (.str 4))) [.bad] [],
  .g (.x 3) (.sub (.a (.x 2) 11) (.sub (.x 0) (.k (.int 1)))),
  .g (.x 4) (.dictZ (.a (.x 3) 13) (.sub (.x 0) (.k (.int 3)))),
  .g (.x 5) (.dictZ (.a (.x 3) 14) (.sub (.x 0) (.k (.int 2)))),
  .def_ 6 11 5 1,
  .ret (some (.comp 2 [4,6] (.t [.x 0,.x 1]) (.e (.call (.k (.fn 9)) [.x 0,.x 1,.x 2])) [] (.elt (.t [.x 0,.call (.k (.fn 2)) [.call (.k (.fn 3)) [.x 1,.x 3],.x 2]]))))]⟩
noncomputable def iz:be:=⟨1,1,1,[],
  [.ret (some (.m (.x 1) 6 [.x 0,.x 0]))]⟩
noncomputable def rV:be:=⟨2,3,0,[],
  [.for_ (.x 2) (.e (.a (.x 1) 15)) [.if_ (.and_ [.c .eq (.a (.x 2) 16) (.k (.str 17)),.call (.k (.fn 8)) [.call (.k (.fn 5)) [.a (.x 2) 18],.call (.k (.fn 5)) [.x 0],.dict []]]) [.ret (some (.k (.bool true)))] []],
  .ret (some (.k (.bool false)))]⟩
noncomputable def rh:be:=⟨6,6,0,[.none, .none],
  [.g (.a (.x 0) 19) (.x 1),
  .g (.a (.x 0) 20) (.x 2),
  .g (.a (.x 0) 21) (.listE (.x 3)),
  .g (.a (.x 0) 22) (.ite (.c .is_ (.x 4) (.k .none)) (.list []) (.x 4)),
  .g (.a (.x 0) 23) (.ite (.c .is_ (.x 5) (.k .none)) (.dict []) (.x 5))]⟩
noncomputable def iX:be:=⟨2,2,0,[],
  [.ret (some (.sub (.sub (.a (.x 0) 22) (.x 1)) (.k (.int 0))))]⟩
noncomputable def jg:be:=⟨2,2,0,[],
  [.ret (some (.sub (.sub (.a (.x 0) 22) (.x 1)) (.k (.int 1))))]⟩
noncomputable def xm:be:=⟨1,3,0,[],
  [.g (.x 1) (.list []),
  .for_ (.x 2) (.rng [.bi .len [.a (.x 0) 22]]) [.expr (.m (.x 1) 24 [.comp 1 [2] (.x 0) (.rng [.bin .add (.bi .len [.m (.x 0) 25 [.x 2]]) (.k (.int 1))]) [] (.elt (.t [.x 1,.x 0]))])],
  .ret (some (.x 1))]⟩
noncomputable def ou:be:=⟨1,5,0,[],
  [.g (.x 1) (.sub (.x 0) (.k (.int 0))),
  .if_ (.c .eq (.x 1) (.k (.str 26))) [.g (.x 2) (.list [.sub (.x 0) (.k (.int 1))])] [.if_ (.c .eq (.x 1) (.k (.str 27))) [.g (.x 2) (.bin .add (.comp 2 [] (.t [.x 0,.x 1]) (.e (.sub (.x 0) (.k (.int 2)))) [] (.elt (.x 1))) (.list [.sub (.x 0) (.k (.int 3))]))] [.if_ (.c .eq (.x 1) (.k (.str 28))) [.g (.x 2) (.list [.sub (.x 0) (.k (.int 4))])] [.if_ (.c .eq (.x 1) (.k (.str 29))) [.g (.x 2) (.list [.sub (.x 0) (.k (.int 2))])] [.if_ (.c .eq (.x 1) (.k (.str 30))) [.g (.x 2) (.list [.sub (.x 0) (.k (.int 4))])] [.g (.x 2) (.list [])]]]]],
  .g (.x 3) (.list []),
  .for_ (.x 4) (.e (.x 2)) [.if_ (.and_ [.c .n (.x 4) (.k .none),.c .notin (.x 4) (.x 3)]) [.expr (.m (.x 3) 7 [.x 4])] []],
  .ret (some (.x 3))]⟩
noncomputable def mm:be:=⟨1,4,0,[],
  [.g (.x 1) (.comp 1 [] (.x 0) (.e (.a (.x 0) 22)) [] (.elt (.list []))),
  .for_ (.x 2) (.rng [.bi .len [.a (.x 0) 22]]) [.for_ (.x 3) (.e (.call (.k (.fn 17)) [.m (.x 0) 31 [.x 2]])) [.expr (.m (.sub (.x 1) (.x 3)) 7 [.x 2])]],
  .ret (some (.x 1))]⟩
noncomputable def m0:be:=⟨1,2,0,[],
  [.g (.x 1) (.sub (.x 0) (.k (.int 0))),
  .if_ (.c .in_ (.x 1) (.t [.k (.str 32),.k (.str 1)])) [.ret (some (.list [.sub (.x 0) (.k (.int 1))]))] [],
  .if_ (.c .in_ (.x 1) (.t [.k (.str 33),.k (.str 34)])) [.ret (some (.list [.sub (.x 0) (.k (.int 2)),.sub (.x 0) (.k (.int 3))]))] [],
  .if_ (.c .eq (.x 1) (.k (.str 35))) [.ret (some (.list [.sub (.x 0) (.k (.int 2))]))] [],
  .if_ (.c .eq (.x 1) (.k (.str 36))) [.ret (some (.list [.sub (.x 0) (.k (.int 1))]))] [],
  .if_ (.c .in_ (.x 1) (.t [.k (.str 3),.k (.str 2)])) [.ret (some (.listE (.sub (.x 0) (.k (.int 1)))))] [],
  .ret (some (.ite (.c .eq (.x 1) (.k (.str 4))) (.listE (.sub (.x 0) (.k (.int 3)))) (.list [])))]⟩
noncomputable def na:be:=⟨2,6,0,[],
  [.g (.t [.x 2,.x 3]) (.x 1),
  .if_ (.c .lt (.x 3) (.bi .len [.m (.x 0) 25 [.x 2]])) [.g (.x 4) (.sub (.m (.x 0) 25 [.x 2]) (.x 3)),
   .if_ (.c .eq (.sub (.x 4) (.k (.int 0))) (.k (.str 37))) [.ret (some (.call (.k (.fn 19)) [.sub (.x 4) (.k (.int 2))]))] [],
   .ret (some (.ite (.c .eq (.sub (.x 4) (.k (.int 0))) (.k (.str 38))) (.list [.sub (.x 4) (.k (.int 1))]) (.list [])))] [],
  .g (.x 5) (.m (.x 0) 31 [.x 2]),
  .if_ (.c .eq (.sub (.x 5) (.k (.int 0))) (.k (.str 28))) [.ret (some (.listE (.sub (.x 5) (.k (.int 2)))))] [],
  .ret (some (.ite (.c .in_ (.sub (.x 5) (.k (.int 0))) (.t [.k (.str 27),.k (.str 30)])) (.list [.sub (.x 5) (.k (.int 1))]) (.list [])))]⟩
noncomputable def pn:be:=⟨1,1,0,[],
  [.ret (some (.comp 1 [] (.x 0) (.e (.sub (.x 0) (.k (.int 1)))) [.c .eq (.sub (.x 0) (.k (.int 0))) (.k (.str 39))] (.elt (.sub (.x 0) (.k (.int 1))))))]⟩
noncomputable def wY:be:=⟨2,2,0,[],
  [.ret (some (.bin .bor (.x 0) (.x 1)))]⟩
noncomputable def vG:be:=⟨4,5,0,[],
  [.for_ (.x 4) (.rng [.bin .add (.bi .len [.sub (.sub (.a (.x 0) 22) (.x 2)) (.k (.int 0))]) (.k (.int 1))]) [.g (.x 1) (.call (.x 3) [.x 1,.x 2,.x 4])],
  .ret (some (.x 1))]⟩
noncomputable def kP:be:=⟨4,11,0,[],
  [.g (.x 4) (.bin .mul (.list [.k .none]) (.bi .len [.a (.x 0) 22])),
  .g (.sub (.x 4) (.k (.int 0))) (.x 1),
  .g (.x 5) (.list [.k (.int 0)]),
  .while_ (.c .ne (.x 5) (.list [])) [.g (.x 6) (.m (.x 5) 40 []),
   .g (.x 7) (.call (.k (.fn 23)) [.x 0,.sub (.x 4) (.x 6),.x 6,.x 2]),
   .for_ (.x 8) (.e (.call (.k (.fn 17)) [.sub (.sub (.a (.x 0) 22) (.x 6)) (.k (.int 1))])) [.g (.x 9) (.sub (.x 4) (.x 8)),
   .g (.x 10) (.ite (.c .is_ (.x 9) (.k .none)) (.x 7) (.call (.x 3) [.x 9,.x 7])),
   .if_ (.or_ [.c .is_ (.x 9) (.k .none),.c .ne (.x 10) (.x 9)]) [.g (.sub (.x 4) (.x 8)) (.x 10),
    .if_ (.c .notin (.x 8) (.x 5)) [.expr (.m (.x 5) 7 [.x 8])] []] []]],
  .ret (some (.x 4))]⟩
noncomputable def rc:be:=⟨3,7,0,[],
  [.g (.x 3) (.dict []),
  .for_ (.x 4) (.rng [.bi .len [.a (.x 0) 22]]) [.g (.x 5) (.sub (.x 1) (.x 4)),
   .if_ (.c .n (.x 5) (.k .none)) [.for_ (.x 6) (.rng [.bin .add (.bi .len [.sub (.sub (.a (.x 0) 22) (.x 4)) (.k (.int 0))]) (.k (.int 1))]) [.g (.sub (.x 3) (.t [.x 4,.x 6])) (.x 5),
    .g (.x 5) (.call (.x 2) [.x 5,.x 4,.x 6])]] []],
  .ret (some (.x 3))]⟩
noncomputable def lY:be:=⟨5,7,0,[],
  [.g (.x 5) (.x 3),
  .for_ (.x 6) (.e (.call (.k (.fn 17)) [.sub (.sub (.a (.x 0) 22) (.x 2)) (.k (.int 1))])) [.g (.x 5) (.call (.x 4) [.x 5,.sub (.x 1) (.x 6)])],
  .ret (some (.x 5))]⟩
noncomputable def vZ:be:=⟨5,6,0,[],
  [.for_ (.x 5) (.rng [.bi .len [.sub (.sub (.a (.x 0) 22) (.x 2)) (.k (.int 0))],.bin .sub (.x 3) (.k (.int 1)),.neg (.k (.int 1))]) [.g (.x 1) (.call (.x 4) [.x 1,.x 2,.x 5])],
  .ret (some (.x 1))]⟩
noncomputable def kj:be:=⟨4,10,0,[],
  [.g (.x 4) (.bin .mul (.list [.x 1]) (.bi .len [.a (.x 0) 22])),
  .g (.x 5) (.call (.k (.fn 18)) [.x 0]),
  .g (.x 6) (.listR [.bi .len [.a (.x 0) 22]]),
  .while_ (.c .ne (.x 6) (.list [])) [.g (.x 7) (.m (.x 6) 40 []),
   .g (.x 8) (.call (.k (.fn 27)) [.x 0,.call (.k (.fn 26)) [.x 0,.x 4,.x 7,.x 1,.x 3],.x 7,.k (.int 0),.x 2]),
   .if_ (.c .ne (.x 8) (.sub (.x 4) (.x 7))) [.g (.sub (.x 4) (.x 7)) (.x 8),
   .for_ (.x 9) (.e (.sub (.x 5) (.x 7))) [.if_ (.c .notin (.x 9) (.x 6)) [.expr (.m (.x 6) 7 [.x 9])] []]] []],
  .ret (some (.x 4))]⟩
noncomputable def iN:be:=⟨5,9,0,[],
  [.g (.x 5) (.dict []),
  .for_ (.x 6) (.rng [.bi .len [.a (.x 0) 22]]) [.g (.x 7) (.call (.k (.fn 26)) [.x 0,.x 1,.x 6,.x 2,.x 4]),
   .for_ (.x 8) (.rng [.bi .len [.sub (.sub (.a (.x 0) 22) (.x 6)) (.k (.int 0))],.neg (.k (.int 1)),.neg (.k (.int 1))]) [.g (.x 7) (.call (.x 3) [.x 7,.x 6,.x 8]),
   .g (.sub (.x 5) (.t [.x 6,.x 8])) (.x 7)]],
  .ret (some (.x 5))]⟩
noncomputable def rJ:be:=⟨2,6,0,[],
  [.g (.t [.x 2,.x 3]) (.x 1),
  .g (.x 4) (.sub (.sub (.a (.x 0) 22) (.x 2)) (.k (.int 0))),
  .if_ (.and_ [.c .lt (.x 3) (.bi .len [.x 4]),.c .eq (.sub (.sub (.x 4) (.x 3)) (.k (.int 0))) (.k (.str 37))]) [.g (.x 5) (.sub (.sub (.x 4) (.x 3)) (.k (.int 2))),
   .if_ (.c .eq (.sub (.x 5) (.k (.int 0))) (.k (.str 0))) [.ret (some (.sub (.x 5) (.k (.int 3))))] [],
   .if_ (.c .eq (.sub (.x 5) (.k (.int 0))) (.k (.str 41))) [.ret (some (.sub (.x 5) (.k (.int 1))))] []] [],
  .ret (some (.k .none))]⟩
noncomputable def pN:be:=⟨2,6,0,[],
  [.g (.t [.x 2,.x 3]) (.x 1),
  .g (.t [.x 4,.x 5]) (.sub (.a (.x 0) 22) (.x 2)),
  .if_ (.c .lt (.x 3) (.bi .len [.x 4])) [.ret (some (.ite (.c .eq (.sub (.sub (.x 4) (.x 3)) (.k (.int 0))) (.k (.str 37))) (.sub (.sub (.x 4) (.x 3)) (.k (.int 1))) (.k .none)))] [],
  .ret (some (.ite (.c .eq (.sub (.x 5) (.k (.int 0))) (.k (.str 28))) (.sub (.x 5) (.k (.int 3))) (.k .none)))]⟩
noncomputable def pA:be:=⟨2,6,0,[],
  [.g (.t [.x 2,.x 3]) (.x 1),
  .g (.t [.x 4,.x 5]) (.sub (.a (.x 0) 22) (.x 2)),
  .ret (some (.ite (.and_ [.c .eq (.x 3) (.bi .len [.x 4]),.c .eq (.sub (.x 5) (.k (.int 0))) (.k (.str 29))]) (.sub (.x 5) (.k (.int 1))) (.k .none)))]⟩
noncomputable def rN:be:=⟨2,5,0,[],
  [.g (.t [.x 2,.x 3]) (.x 1),
  .g (.x 4) (.sub (.sub (.a (.x 0) 22) (.x 2)) (.k (.int 0))),
  .if_ (.and_ [.c .lt (.x 3) (.bi .len [.x 4]),.c .in_ (.sub (.sub (.x 4) (.x 3)) (.k (.int 0))) (.t [.k (.str 42),.k (.str 43)])]) [.ret (some (.sub (.sub (.x 4) (.x 3)) (.k (.int 1))))] [],
  .ret (some (.k .none))]⟩
noncomputable def mF:be:=⟨2,2,0,[],
  [.ret (some (.and_ [.c .eq (.sub (.x 0) (.k (.int 0))) (.k (.str 4)),.call (.k (.fn 12)) [.x 0,.x 1]]))]⟩
noncomputable def jT:be:=⟨3,7,0,[],
  [.g (.a (.x 0) 44) (.x 1),
  .g (.a (.x 0) 45) (.x 2),
  .g (.a (.x 0) 46) (.list []),
  .g (.a (.x 0) 47) (.list []),
  .g (.a (.x 0) 48) (.list []),
  .g (.a (.x 0) 49) (.dict []),
  .g (.a (.x 0) 50) (.dict []),
  .for_ (.x 3) (.rng [.bi .len [.a (.x 1) 21]]) [.expr (.m (.x 0) 51 [.t [.x 3,.t []]])],
  .for_ (.x 4) (.e (.call (.k (.fn 16)) [.x 1])) [.for_ (.x 5) (.e (.call (.k (.fn 20)) [.x 1,.x 4])) [.if_ (.c .eq (.sub (.x 5) (.k (.int 0))) (.k (.str 52))) [.expr (.m (.x 0) 51 [.m (.x 0) 53 [.sub (.x 5) (.k (.int 1))]])] []],
   .for_ (.x 6) (.e (.t [.call (.k (.fn 31)) [.x 1,.x 4],.call (.k (.fn 32)) [.x 1,.x 4]])) [.if_ (.c .n (.x 6) (.k .none)) [.expr (.m (.x 0) 51 [.m (.x 0) 53 [.x 6]])] []]]]⟩
noncomputable def kJ:be:=⟨2,6,0,[],
  [.if_ (.c .in_ (.x 1) (.a (.x 0) 49)) [.ret (some (.sub (.a (.x 0) 49) (.x 1)))] [],
  .g (.t [.x 2,.x 3]) (.x 1),
  .g (.x 4) (.ite (.c .ne (.x 3) (.t [])) (.m (.x 0) 51 [.t [.x 2,.slice (.x 3) none (some (.neg (.k (.int 1))))]]) (.neg (.k (.int 1)))),
  .g (.x 5) (.bi .len [.a (.x 0) 46]),
  .g (.sub (.a (.x 0) 49) (.x 1)) (.x 5),
  .expr (.m (.a (.x 0) 46) 7 [.x 1]),
  .expr (.m (.a (.x 0) 47) 7 [.x 4]),
  .expr (.m (.a (.x 0) 48) 7 [.list []]),
  .if_ (.c .ge (.x 4) (.k (.int 0))) [.expr (.m (.sub (.a (.x 0) 48) (.x 4)) 7 [.x 5])] [],
  .ret (some (.x 5))]⟩
noncomputable def gE:be:=⟨2,5,0,[],
  [.g (.t [.x 2,.x 3]) (.x 1),
  .for_ (.x 4) (.rng [.bi .len [.x 3]]) [.if_ (.c .eq (.sub (.sub (.x 3) (.x 4)) (.k (.int 0))) (.k (.str 39))) [.bad] [],
   .if_ (.c .eq (.sub (.sub (.x 3) (.x 4)) (.k (.int 0))) (.k (.str 54))) [.bad] []],
  .ret (some (.bi .len [.x 3]))]⟩
noncomputable def kQ:be:=⟨2,2,0,[],
  [.ret (some (.t [.sub (.x 1) (.k (.int 0)),.bi .tuple [.slice (.sub (.x 1) (.k (.int 1))) none (some (.m (.x 0) 55 [.x 1]))]]))]⟩
noncomputable def iO:be:=⟨2,2,0,[],
  [.ret (some (.c .lt (.m (.x 0) 55 [.x 1]) (.bi .len [.sub (.x 1) (.k (.int 1))])))]⟩
noncomputable def gv:be:=⟨2,5,0,[],
  [.g (.t [.x 2,.x 3]) (.m (.x 0) 53 [.x 1]),
  .g (.x 4) (.bi .len [.x 3]),
  .while_ (.c .notin (.t [.x 2,.slice (.x 3) none (some (.x 4))]) (.a (.x 0) 49)) [.bad],
  .ret (some (.sub (.a (.x 0) 49) (.t [.x 2,.slice (.x 3) none (some (.x 4))])))]⟩
noncomputable def gL:be:=⟨2,2,0,[],
  [.ret (some (.and_ [.not_ (.m (.x 0) 56 [.x 1]),.c .in_ (.t [.sub (.x 1) (.k (.int 0)),.bi .tuple [.sub (.x 1) (.k (.int 1))]]) (.a (.x 0) 49)]))]⟩
noncomputable def jz:be:=⟨2,5,0,[],
  [.if_ (.c .notin (.x 1) (.a (.x 0) 50)) [.g (.t [.x 2,.x 3]) (.t [.list [],.list [.x 1]]),
   .while_ (.c .ne (.x 3) (.list [])) [.g (.x 4) (.m (.x 3) 40 []),
   .expr (.m (.x 2) 7 [.x 4]),
   .expr (.m (.x 3) 24 [.sub (.a (.x 0) 48) (.x 4)])],
   .g (.sub (.a (.x 0) 50) (.x 1)) (.bi .sorted [.x 2])] [],
  .ret (some (.sub (.a (.x 0) 50) (.x 1)))]⟩
noncomputable def om:be:=⟨3,4,0,[],
  [.g (.a (.x 0) 44) (.x 1),
  .g (.a (.x 0) 57) (.call (.k (.cls 1)) [.x 1,.x 2]),
  .g (.a (.x 0) 58) (.dict []),
  .for_ (.x 3) (.e (.call (.k (.fn 16)) [.x 1])) [.g (.sub (.a (.x 0) 58) (.x 3)) (.m (.x 0) 59 [.x 3])],
  .g (.a (.x 0) 60) (.call (.k (.fn 25)) [.x 1,.call (.k (.fn 24)) [.x 1,.m (.x 0) 61 [],.a (.x 0) 62,.k (.fn 22)],.a (.x 0) 62])]⟩
noncomputable def nu:be:=⟨1,4,0,[],
  [.g (.x 1) (.bi .frozenset []),
  .for_ (.x 2) (.rng [.bi .len [.a (.a (.x 0) 44) 21]]) [.g (.x 3) (.cmp2 .lt .le (.k (.int 0)) (.x 2) (.a (.a (.x 0) 44) 20)),
   .g (.x 1) (.m (.x 0) 63 [.x 1,.m (.a (.x 0) 57) 64 [.t [.x 2,.t []]],.ite (.x 3) (.k (.int 0)) (.k (.int 2))])],
  .ret (some (.x 1))]⟩
noncomputable def lC:be:=⟨4,7,0,[],
  [.g (.x 4) (.m (.a (.x 0) 57) 65 [.x 2]),
  .if_ (.c .eq (.x 3) (.k (.int 3))) [.g (.x 5) (.comp 1 [1] (.x 0) (.e (.x 4)) [.c .in_ (.bin .add (.bin .mul (.k (.int 3)) (.x 0)) (.k (.int 0))) (.x 1)] (.elt (.x 0))),
   .g (.x 6) (.bi .frozenset [.comp 1 [] (.x 0) (.e (.x 5)) [] (.elt (.bin .add (.bin .mul (.k (.int 3)) (.x 0)) (.k (.int 0))))]),
   .ret (some (.bin .bor (.bin .sub (.x 1) (.x 6)) (.bi .frozenset [.comp 1 [] (.x 0) (.e (.x 5)) [] (.elt (.bin .add (.bin .mul (.k (.int 3)) (.x 0)) (.k (.int 1))))])))] [],
  .g (.x 6) (.bi .frozenset [.comp 2 [] (.x 0) (.e (.x 4)) [] (.gen (.x 1) (.e (.t [.k (.int 0),.k (.int 1),.k (.int 2)])) [] (.elt (.bin .add (.bin .mul (.k (.int 3)) (.x 0)) (.x 1))))]),
  .ret (some (.bin .bor (.bin .sub (.x 1) (.x 6)) (.bi .frozenset [.comp 1 [3] (.x 0) (.e (.x 4)) [] (.elt (.bin .add (.bin .mul (.k (.int 3)) (.x 0)) (.x 1)))])))]⟩
noncomputable def mU:be:=⟨2,2,0,[],
  [.ret (some (.sub (.a (.x 0) 58) (.x 1)))]⟩
noncomputable def jS:be:=⟨2,7,0,[],
  [.g (.x 2) (.list []),
  .for_ (.x 3) (.e (.call (.k (.fn 20)) [.a (.x 0) 44,.x 1])) [.if_ (.and_ [.c .eq (.sub (.x 3) (.k (.int 0))) (.k (.str 52)),.m (.a (.x 0) 57) 66 [.sub (.x 3) (.k (.int 1))]]) [.expr (.m (.x 2) 7 [.t [.m (.a (.x 0) 57) 64 [.sub (.x 3) (.k (.int 1))],.k (.int 1)]])] []],
  .g (.t [.x 4,.x 5]) (.t [.call (.k (.fn 32)) [.a (.x 0) 44,.x 1],.call (.k (.fn 33)) [.a (.x 0) 44,.x 1]]),
  .g (.x 6) (.call (.k (.fn 31)) [.a (.x 0) 44,.x 1]),
  .if_ (.and_ [.c .n (.x 4) (.k .none),.m (.a (.x 0) 57) 66 [.x 4]]) [.expr (.m (.x 2) 7 [.t [.m (.a (.x 0) 57) 64 [.x 4],.k (.int 3)]])] [],
  .if_ (.c .n (.x 5) (.k .none)) [.expr (.m (.x 2) 7 [.t [.m (.a (.x 0) 57) 64 [.t [.x 5,.t []]],.k (.int 2)]])] [],
  .if_ (.and_ [.c .n (.x 6) (.k .none),.m (.a (.x 0) 57) 66 [.x 6]]) [.expr (.m (.x 2) 7 [.t [.m (.a (.x 0) 57) 64 [.x 6],.k (.int 0)]])] [],
  .ret (some (.x 2))]⟩
noncomputable def oP:be:=⟨4,6,0,[],
  [.for_ (.t [.x 4,.x 5]) (.e (.m (.x 0) 67 [.t [.x 2,.x 3]])) [.g (.x 1) (.m (.x 0) 63 [.x 1,.x 4,.x 5])],
  .ret (some (.x 1))]⟩
noncomputable def tg:be:=⟨2,2,0,[],
  [.ret (some (.m (.a (.x 0) 60) 6 [.x 1]))]⟩
noncomputable def me:be:=⟨4,4,0,[],
  [.ret (some (.c .in_ (.bin .add (.bin .mul (.k (.int 3)) (.x 2)) (.x 3)) (.x 1)))]⟩
noncomputable def lK:be:=⟨4,4,0,[],
  [.expr (.call (.k (.fn 52)) [.x 0,.x 1,.x 2,.x 3,.list []])]⟩
noncomputable def fS:be:=⟨5,9,0,[],
  [.g (.x 5) (.sub (.x 0) (.k (.int 0))),
  .if_ (.or_ [.c .eq (.x 3) (.k (.int 0)),.c .gt (.bi .len [.x 4]) (.k (.int 200))]) [.expr (.m (.x 2) 24 [.call (.k (.fn 6)) [.x 0]]),
   .ret none] [],
  .if_ (.or_ [.c .eq (.x 5) (.k (.str 1)),.c .eq (.x 5) (.k (.str 2))]) [.expr (.call (.k (.fn 52)) [.sub (.x 0) (.k (.int 1)),.x 1,.x 2,.bin .sub (.x 3) (.k (.int 1)),.x 4])] [.if_ (.c .eq (.x 5) (.k (.str 3))) [.for_ (.x 6) (.e (.sub (.x 0) (.k (.int 1)))) [.expr (.call (.k (.fn 52)) [.x 6,.x 1,.x 2,.bin .sub (.x 3) (.k (.int 1)),.x 4])]] [.if_ (.and_ [.c .eq (.x 5) (.k (.str 4)),.c .notin (.x 0) (.x 4)]) [.expr (.m (.x 4) 7 [.x 0]),
    .if_ (.call (.k (.fn 34)) [.x 0,.x 1]) [.expr (.m (.x 2) 24 [.call (.k (.fn 6)) [.x 0]])] [.for_ (.x 7) (.rng [.bi .len [.a (.sub (.a (.x 1) 11) (.sub (.x 0) (.k (.int 1)))) 12]]) [.for_ (.t [.x 8,.x 6]) (.e (.call (.k (.fn 10)) [.x 0,.x 7,.x 1])) [.expr (.call (.k (.fn 52)) [.x 6,.x 1,.x 2,.bin .sub (.x 3) (.k (.int 1)),.x 4])]]]] []]]]⟩
noncomputable def iZ:be:=⟨3,5,0,[],
  [.g (.x 3) (.m (.x 0) 68 [.x 1]),
  .if_ (.c .is_ (.x 3) (.k .none)) [.ret (some (.k (.bool false)))] [],
  .g (.x 4) (.m (.a (.x 0) 57) 65 [.m (.a (.x 0) 57) 64 [.t [.x 2,.t []]]]),
  .ret (some (.c .ne (.comp 1 [3,0] (.x 0) (.e (.x 4)) [.m (.x 2) 69 [.x 1,.x 0,.k (.int 0)]] (.elt (.x 0))) (.list [])))]⟩
noncomputable def mj:be:=⟨5,14,0,[],
  [.g (.x 5) (.dict []),
  .g (.t [.x 6,.x 7]) (.t [.list [],.list []]),
  .for_ (.x 8) (.e (.a (.x 0) 21)) [.g (.x 9) (.list []),
   .expr (.call (.k (.fn 51)) [.sub (.x 8) (.k (.int 0)),.x 1,.x 9,.k (.int 16)]),
   .expr (.m (.x 6) 7 [.call (.k (.fn 6)) [.sub (.x 8) (.k (.int 0))]]),
   .expr (.m (.x 7) 7 [.x 9])],
  .for_ (.t [.x 10,.x 11]) (.enum (.x 2)) [.for_ (.x 12) (.e (.m (.x 3) 70 [.x 11])) [.for_ (.x 13) (.e (.sub (.x 6) (.x 12))) [.g (.sub (.m (.x 5) 71 [.x 13,.dict []]) (.x 10)) (.k (.bool true))]],
   .for_ (.x 12) (.e (.bi .sorted [.m (.x 3) 72 [.x 11]])) [.if_ (.and_ [.c .ne (.sub (.x 7) (.x 12)) (.list []),.call (.k (.fn 53)) [.x 4,.x 11,.x 12]]) [.for_ (.x 13) (.e (.sub (.x 7) (.x 12))) [.g (.sub (.m (.x 5) 71 [.x 13,.dict []]) (.x 10)) (.k (.bool true))]] []]],
  .ret (some (.dcomp 1 [5] (.x 0) (.e (.x 5)) [] (.x 0) (.bi .sorted [.sub (.x 1) (.x 0)])))]⟩
noncomputable def ig:be:=⟨2,7,0,[],
  [.g (.x 2) (.list []),
  .for_ (.x 3) (.e (.call (.k (.fn 20)) [.x 0,.x 1])) [.if_ (.c .ne (.sub (.x 3) (.k (.int 0))) (.k (.str 73))) [.expr (.m (.x 2) 7 [.sub (.sub (.x 3) (.k (.int 1))) (.k (.int 0))]),
   .expr (.m (.x 2) 24 [.call (.k (.fn 21)) [.sub (.x 3) (.k (.int 1))]])] []],
  .for_ (.x 4) (.e (.t [.call (.k (.fn 30)) [.x 0,.x 1],.call (.k (.fn 32)) [.x 0,.x 1]])) [.if_ (.c .n (.x 4) (.k .none)) [.expr (.m (.x 2) 24 [.call (.k (.fn 21)) [.x 4]])] []],
  .g (.t [.x 5,.x 6]) (.t [.call (.k (.fn 30)) [.x 0,.x 1],.call (.k (.fn 31)) [.x 0,.x 1]]),
  .if_ (.c .n (.x 5) (.k .none)) [.expr (.m (.x 2) 7 [.sub (.x 5) (.k (.int 0))])] [],
  .if_ (.and_ [.c .n (.x 6) (.k .none),.c .ne (.sub (.x 6) (.k (.int 1))) (.t [])]) [.expr (.m (.x 2) 7 [.sub (.x 6) (.k (.int 0))]),
   .expr (.m (.x 2) 24 [.call (.k (.fn 21)) [.x 6]])] [],
  .if_ (.call (.k (.fn 56)) [.x 0,.x 1]) [.expr (.m (.x 2) 7 [.k (.int 0)])] [],
  .ret (some (.bi .sorted [.bi .set [.x 2]]))]⟩
noncomputable def qW:be:=⟨2,4,0,[],
  [.g (.t [.x 2,.x 3]) (.sub (.a (.x 0) 22) (.sub (.x 1) (.k (.int 0)))),
  .ret (some (.and_ [.c .eq (.sub (.x 1) (.k (.int 1))) (.bi .len [.x 2]),.c .eq (.sub (.x 3) (.k (.int 0))) (.k (.str 74))]))]⟩
noncomputable def jL:be:=⟨2,3,0,[],
  [.g (.x 2) (.call (.k (.fn 32)) [.x 0,.x 1]),
  .ret (some (.ite (.c .is_ (.x 2) (.k .none)) (.list []) (.list [.sub (.x 2) (.k (.int 0))])))]⟩
noncomputable def oA:be:=⟨2,5,0,[],
  [.g (.t [.x 2,.x 3]) (.t [.call (.k (.fn 33)) [.x 0,.x 1],.call (.k (.fn 31)) [.x 0,.x 1]]),
  .g (.x 4) (.ite (.c .is_ (.x 2) (.k .none)) (.list []) (.list [.x 2])),
  .if_ (.and_ [.c .n (.x 3) (.k .none),.c .eq (.sub (.x 3) (.k (.int 1))) (.t [])]) [.expr (.m (.x 4) 7 [.sub (.x 3) (.k (.int 0))])] [],
  .ret (some (.x 4))]⟩
noncomputable def kT:be:=⟨2,5,0,[],
  [.g (.t [.a (.x 0) 75,.a (.x 0) 76,.a (.x 0) 77]) (.t [.dict [],.dict [],.dict []]),
  .for_ (.x 2) (.e (.call (.k (.fn 16)) [.x 1])) [.g (.sub (.a (.x 0) 75) (.x 2)) (.bi .frozenset [.call (.k (.fn 55)) [.x 1,.x 2]]),
   .g (.sub (.a (.x 0) 76) (.x 2)) (.bi .frozenset [.call (.k (.fn 57)) [.x 1,.x 2]]),
   .g (.sub (.a (.x 0) 77) (.x 2)) (.bi .frozenset [.call (.k (.fn 58)) [.x 1,.x 2]])],
  .g (.x 3) (.call (.k (.fn 28)) [.x 1,.k (.w []),.a (.x 0) 78,.k (.fn 22)]),
  .g (.x 4) (.call (.k (.fn 28)) [.x 1,.k (.w []),.a (.x 0) 79,.k (.fn 22)]),
  .g (.a (.x 0) 80) (.call (.k (.fn 29)) [.x 1,.x 3,.k (.w []),.a (.x 0) 78,.k (.fn 22)]),
  .g (.a (.x 0) 81) (.call (.k (.fn 29)) [.x 1,.x 4,.k (.w []),.a (.x 0) 79,.k (.fn 22)])]⟩
noncomputable def ib:be:=⟨4,4,0,[],
  [.ret (some (.bin .bor (.bin .sub (.x 1) (.sub (.a (.x 0) 77) (.t [.x 2,.x 3]))) (.sub (.a (.x 0) 75) (.t [.x 2,.x 3]))))]⟩
noncomputable def gD:be:=⟨4,4,0,[],
  [.ret (some (.bin .bor (.bin .sub (.x 1) (.sub (.a (.x 0) 77) (.t [.x 2,.x 3]))) (.sub (.a (.x 0) 76) (.t [.x 2,.x 3]))))]⟩
noncomputable def iP:be:=⟨2,2,0,[],
  [.ret (some (.sub (.a (.x 0) 80) (.x 1)))]⟩
noncomputable def h9:be:=⟨2,2,0,[],
  [.ret (some (.sub (.a (.x 0) 81) (.x 1)))]⟩
noncomputable def sm:be:=⟨8,8,0,[.str 86,.t []],
  [.g (.a (.x 0) 82) (.x 1),
  .g (.a (.x 0) 83) (.x 6),
  .g (.a (.x 0) 14) (.x 2),
  .g (.a (.x 0) 13) (.x 3),
  .g (.a (.x 0) 12) (.x 4),
  .g (.a (.x 0) 84) (.x 7),
  .g (.a (.x 0) 85) (.x 5)]⟩
noncomputable def lL:be:=⟨9,9,0,[.int 0],
  [.g (.a (.x 0) 87) (.x 1),
  .g (.a (.x 0) 14) (.x 2),
  .g (.a (.x 0) 13) (.x 3),
  .g (.a (.x 0) 16) (.x 4),
  .g (.a (.x 0) 88) (.x 5),
  .g (.a (.x 0) 18) (.x 6),
  .g (.a (.x 0) 89) (.x 7),
  .g (.a (.x 0) 90) (.x 8)]⟩
noncomputable def oi:be:=⟨2,2,0,[.none],
  [.g (.a (.x 0) 91) (.x 1),
  .g (.a (.x 0) 11) (.dict []),
  .g (.a (.x 0) 12) (.dict []),
  .g (.a (.x 0) 92) (.dict []),
  .g (.a (.x 0) 93) (.dict []),
  .g (.a (.x 0) 15) (.list []),
  .g (.a (.x 0) 94) (.dict []),
  .g (.a (.x 0) 95) (.dict [])]⟩
noncomputable def mH:be:=⟨2,5,0,[],
  [.g (.x 2) (.k (.int 0)),
  .if_ (.c .lt (.x 1) (.bi .len [.x 0])) [.g (.x 2) (.sub (.x 0) (.x 1))] [],
  .g (.x 3) (.bi .max [.bi .int [.x 2],.bi .int [.bin .sub (.neg (.k (.int 1))) (.x 2)]]),
  .g (.x 4) (.bin .mod (.bi .int [.bin .mul (.bin .add (.bin .add (.bin .add (.bin .mod (.bi .int [.x 3]) (.k (.int 2147483629))) (.bin .mul (.bin .mul (.k (.int 7919)) (.x 1)) (.x 1))) (.bin .mul (.k (.int 31)) (.x 1))) (.k (.int 17))) (.k (.int 48271))]) (.k (.int 2147483647))),
  .ret (some (.list [.bin .mul (.x 3) (.bi .int [.c .ge (.x 3) (.bin .pow (.k (.int 10)) (.k (.int 18)))]),.x 4]))]⟩
noncomputable def r9:be:=⟨2,3,0,[],
  [.if_ (.c .gt (.sub (.x 0) (.k (.int 0))) (.k (.int 0))) [.g (.x 2) (.bin .mod (.bi .int [.sub (.x 0) (.k (.int 0))]) (.x 1)),
   .g (.sub (.x 0) (.k (.int 0))) (.bin .fdiv (.sub (.x 0) (.k (.int 0))) (.x 1)),
   .ret (some (.x 2))] [],
  .g (.sub (.x 0) (.k (.int 1))) (.bin .mod (.bi .int [.bin .add (.bin .mul (.sub (.x 0) (.k (.int 1))) (.k (.int 39373))) (.k (.int 7))]) (.k (.int 2147483647))),
  .ret (some (.bin .mod (.bi .int [.bin .fdiv (.bin .mod (.bi .int [.bin .mul (.sub (.x 0) (.k (.int 1))) (.sub (.x 0) (.k (.int 1)))]) (.k (.int 2147483629))) (.k (.int 32))]) (.x 1)))]⟩
noncomputable def vC:be:=⟨2,2,0,[],
  [.ret (some (.sub (.x 1) (.call (.k (.fn 68)) [.x 0,.bi .len [.x 1]])))]⟩
noncomputable def sh:be:=⟨2,4,0,[],
  [.g (.x 2) (.t [.k (.str 4),.k (.str 96),.t [.x 1],.t []]),
  .g (.x 3) (.list [.t [.t [.k (.str 1),.x 2],.list [.x 1]],.t [.x 2,.list [.x 1]],.t [.t [.k (.str 4),.k (.str 97),.t [.x 1],.t []],.list []]]),
  .ret (some (.call (.k (.fn 69)) [.x 0,.bin .add (.x 3) (.list [.t [.t [.k (.str 4),.k (.str 98),.t [.x 1],.t []],.list [.x 1]],.t [.k (.t [.str 8,.str 99]),.list []]])]))]⟩
noncomputable def qu:be:=⟨0,8,0,[],
  [.g (.t [.x 0,.x 1]) (.t [.call (.k (.cls 6)) [.k .none],.t [.k (.str 4),.k (.str 96),.t [.k (.str 100)],.t []]]),
  .g (.x 2) (.list [.t [.k (.str 96),.list [.t [.k (.str 101),.t [.k (.str 0),.k (.str 100),.k (.bool false),.k (.t [.str 8,.str 99])]]]],.t [.k (.str 97),.list [.t [.k (.str 101),.t [.k (.str 0),.k (.str 100),.k (.bool false),.k (.t [.str 8,.str 99])]]]]]),
  .for_ (.t [.x 3,.x 4]) (.e (.bin .add (.x 2) (.list [.t [.k (.str 98),.list [.t [.k (.str 102),.k (.t [.str 8,.str 99])],.t [.k (.str 101),.t [.k (.str 1),.x 1]]]]]))) [.g (.sub (.a (.x 0) 11) (.x 3)) (.call (.k (.cls 4)) [.x 3,.t [.k (.str 100)],.t [],.list [.t [.x 3,.k (.str 103),.x 4]],.k (.bool false)])],
  .g (.t [.x 5,.x 6]) (.t [.t [.k (.str 5),.k (.str 104)],.t [.k (.str 5),.k (.str 105)]]),
  .g (.sub (.a (.x 0) 11) (.k (.str 106))) (.call (.k (.cls 4)) [.k (.str 106),.t [],.t [.k (.str 104),.k (.str 105)],.list [.t [.k (.str 106),.k (.str 103),.list [.t [.k (.str 107),.x 5],.t [.k (.str 108),.x 6]]]],.k (.bool false)]),
  .g (.x 7) (.list [.t [.k (.str 109),.k (.str 3),.list [.t [.k (.str 110),.x 5]]],.t [.k (.str 111),.k (.str 3),.list [.t [.k (.str 110),.x 6]]]]),
  .g (.sub (.a (.x 0) 11) (.k (.str 112))) (.call (.k (.cls 4)) [.k (.str 112),.t [],.t [.k (.str 104),.k (.str 105)],.x 7,.k (.bool true)]),
  .expr (.m (.a (.x 0) 15) 7 [.call (.k (.cls 5)) [.k (.int 0),.t [.k (.str 100)],.list [],.k (.str 17),.t [],.x 1,.dict [((.k (.str 29)),(.k (.str 113)))]]]),
  .ret (some (.x 0))]⟩
noncomputable def sJ:be:=⟨1,7,0,[],
  [.g (.t [.t [.x 1,.x 2],.t [.x 3,.x 4]]) (.t [.call (.k (.fn 70)) [.x 0,.k (.int 1)],.call (.k (.fn 70)) [.x 0,.k (.int 2)]]),
  .g (.x 5) (.bin .add (.bin .mul (.list [.k (.int 1)]) (.bi .int [.c .ne (.x 1) (.k (.t [.str 8,.str 99]))])) (.bin .mul (.list [.k (.int 2)]) (.bi .int [.c .ne (.x 3) (.k (.t [.str 8,.str 99]))]))),
  .g (.x 6) (.call (.k (.fn 68)) [.x 0,.k (.int 3)]),
  .if_ (.c .eq (.x 6) (.k (.int 0))) [.ret (some (.t [.t [.k (.str 4),.k (.str 106),.t [],.t [.x 1,.x 3]],.x 5,.bin .add (.x 2) (.x 4),.t [.k (.str 114),.k (.int 0)]]))] [],
  .if_ (.c .eq (.x 6) (.k (.int 1))) [.ret (some (.t [.t [.k (.str 4),.k (.str 112),.t [],.t [.x 1,.x 3]],.x 5,.bin .add (.x 2) (.x 4),.k .none]))] [],
  .ret (some (.t [.t [.k (.str 2),.x 1,.k (.int 2)],.bin .mul (.list [.k (.int 1)]) (.bi .int [.c .ne (.x 1) (.k (.t [.str 8,.str 99]))]),.x 2,.k .none]))]⟩
noncomputable def pP:be:=⟨2,5,0,[],
  [.g (.x 2) (.list []),
  .for_ (.x 3) (.rng [.bin .add (.k (.int 2)) (.call (.k (.fn 68)) [.x 0,.k (.int 7)])]) [.g (.x 4) (.call (.k (.fn 69)) [.x 0,.list [.k (.str 115),.k (.str 32),.k (.str 29),.k (.str 29),.k (.str 116),.k (.str 117)]]),
   .expr (.m (.x 2) 7 [.ite (.and_ [.c .eq (.x 4) (.k (.str 117)),.c .is_ (.x 1) (.k .none)]) (.k (.str 116)) (.x 4)])],
  .ret (some (.x 2))]⟩
noncomputable def th:be:=⟨3,7,0,[],
  [.g (.t [.x 3,.x 4]) (.t [.list [.list [.list [],.t [.k (.str 118),.k (.str 119)]]],.list []]),
  .for_ (.x 5) (.e (.x 2)) [.expr (.m (.x 4) 7 [.t [.bin .sub (.bi .len [.x 3]) (.k (.int 1)),.bi .len [.sub (.sub (.x 3) (.neg (.k (.int 1)))) (.k (.int 0))]]]),
   .if_ (.c .eq (.x 5) (.k (.str 29))) [.g (.sub (.sub (.x 3) (.neg (.k (.int 1)))) (.k (.int 1))) (.t [.k (.str 29),.t [.k (.int 1),.t []],.bi .len [.x 3]]),
   .expr (.m (.x 3) 7 [.list [.list [],.t [.k (.str 118),.k (.str 119)]]])] [.if_ (.c .eq (.x 5) (.k (.str 116))) [.expr (.m (.sub (.sub (.x 3) (.neg (.k (.int 1)))) (.k (.int 0))) 7 [.t [.k (.str 120)]])] [.if_ (.c .eq (.x 5) (.k (.str 32))) [.expr (.m (.sub (.sub (.x 3) (.neg (.k (.int 1)))) (.k (.int 0))) 7 [.t [.k (.str 37),.t [.k (.int 2),.t []],.t [.k (.str 32),.t [.k (.str 121),.t [.k (.int 1),.t []]]]]])] [.g (.x 6) (.ite (.c .eq (.x 5) (.k (.str 115))) (.t []) (.t [.x 1])),
    .expr (.m (.sub (.sub (.x 3) (.neg (.k (.int 1)))) (.k (.int 0))) 7 [.t [.k (.str 37),.t [.k (.int 1),.x 6],.t [.k (.str 32),.t [.k (.str 73),.k (.t [.str 8,.str 99]),.k (.int 0)]]]])]]]],
  .expr (.m (.x 4) 7 [.t [.bin .sub (.bi .len [.x 3]) (.k (.int 1)),.bi .len [.sub (.sub (.x 3) (.neg (.k (.int 1)))) (.k (.int 0))]]]),
  .ret (some (.list [.call (.k (.cls 0)) [.k (.str 122),.k (.int 0),.list [.t [.t [.k (.str 3),.t []],.k (.bool true),.k .none],.t [.x 0,.k (.bool true),.k (.str 123)],.t [.x 0,.k (.bool true),.k (.str 124)]],.x 3,.dict []],.x 4]))]⟩
noncomputable def kD:be:=⟨4,7,0,[],
  [.g (.x 4) (.slice (.x 0) (some (.x 1)) none),
  .g (.x 4) (.ite (.c .in_ (.k (.str 115)) (.x 4)) (.slice (.x 4) none (some (.m (.x 4) 39 [.k (.str 115)]))) (.x 4)),
  .if_ (.or_ [.c .in_ (.k (.str 32)) (.x 4),.c .in_ (.k (.str 117)) (.x 4)]) [.ret (some (.x 2))] [],
  .g (.x 5) (.k (.bool false)),
  .for_ (.x 6) (.e (.slice (.x 0) none (some (.x 1)))) [.g (.x 5) (.or_ [.c .in_ (.x 6) (.list [.k (.str 115),.k (.str 117)]),.and_ [.x 5,.c .ne (.x 6) (.k (.str 29))]])],
  .ret (some (.ite (.and_ [.c .in_ (.k (.str 29)) (.x 4),.x 5]) (.bi .sorted [.x 3]) (.list [])))]⟩
noncomputable def qO:be:=⟨5,14,0,[],
  [.g (.t [.x 5,.x 6]) (.call (.k (.fn 74)) [.x 0,.x 3,.x 4]),
  .g (.t [.x 7,.x 8,.x 9]) (.t [.call (.k (.fn 71)) [],.call (.k (.fn 16)) [.x 5],.list []]),
  .expr (.call (.k (.fn 51)) [.x 0,.x 7,.x 9,.k (.int 8)]),
  .g (.x 10) (.call (.k (.fn 54)) [.x 5,.x 7,.x 8,.call (.k (.cls 3)) [.x 5],.call (.k (.cls 2)) [.x 5,.x 7]]),
  .if_ (.c .ne (.x 9) (.x 2)) [.ret (some (.k (.bool false)))] [],
  .for_ (.t [.x 11,.x 12]) (.enum (.x 6)) [.g (.x 13) (.m (.x 8) 39 [.x 12]),
   .if_ (.c .ne (.comp 1 [13,10] (.x 0) (.e (.list [.k (.int 1),.k (.int 2)])) [.c .in_ (.x 1) (.m (.x 2) 6 [.x 0,.list []])] (.elt (.x 0))) (.call (.k (.fn 75)) [.x 4,.x 11,.x 1,.x 2])) [.ret (some (.k (.bool false)))] []],
  .ret (some (.k (.bool true)))]⟩
noncomputable def uu:be:=⟨1,9,0,[],
  [.g (.t [.x 1,.x 2]) (.t [.t [.k (.str 4),.k (.str 98),.t [.k (.int 1)],.t []],.t [.k (.str 4),.k (.str 97),.t [.k (.int 2)],.t []]]),
  .if_ (.not_ (.call (.k (.fn 76)) [.t [.k (.str 4),.k (.str 106),.t [],.t [.x 1,.x 2]],.list [.k (.int 1),.k (.int 2)],.list [.k (.int 1)],.t [.k (.str 114),.k (.int 0)],.list [.k (.str 115),.k (.str 116),.k (.str 29),.k (.str 116)]])) [.ret (some (.k (.bool false)))] [],
  .for_ (.x 3) (.rng [.bi .max [.k (.int 1),.bi .min [.k (.int 2),.bi .len [.x 0]]]]) [.g (.x 4) (.call (.k (.fn 67)) [.x 0,.x 3]),
   .g (.t [.x 5,.x 6,.x 7,.x 8]) (.call (.k (.fn 72)) [.x 4]),
   .if_ (.not_ (.call (.k (.fn 76)) [.x 5,.x 6,.x 7,.x 8,.call (.k (.fn 73)) [.x 4,.x 8]])) [.ret (some (.k (.bool false)))] []],
  .ret (some (.k (.bool true)))]⟩
noncomputable def funs:List be:=[sa,uT,mV,mw,rK,yC,oI,iy,wv,pF,ri,iz,rV,rh,iX,jg,xm,ou,mm,m0,na,pn,wY,vG,kP,rc,lY,vZ,kj,iN,rJ,pN,pA,rN,mF,jT,kJ,gE,kQ,iO,gv,gL,jz,om,nu,lC,mU,jS,oP,tg,me,lK,fS,iZ,mj,ig,qW,jL,oA,kT,ib,gD,iP,h9,sm,lL,oi,mH,r9,vC,sh,qu,sJ,pP,th,kD,qO,uu]
noncomputable def clss:List xQ:=[
 {init:=13,meths:=[(25,14),(31,15)]},
 {init:=35,meths:=[(51,36),(55,37),(53,38),(56,39),(64,40),(66,41),(65,42)]},
 {init:=43,meths:=[(61,44),(63,45),(67,46),(59,47),(62,48),(68,49),(69,50)]},
 {init:=59,meths:=[(78,60),(79,61),(70,62),(72,63)]},
 {init:=64,meths:=[]},
 {init:=65,meths:=[]},
 {init:=66,meths:=[]}]
noncomputable def bg:bQ:={funs,clss,mns:=[(7, .append),(24, .extend),(6, .get),(39, .index),(40, .pop),(71, .setdefault)],noAttr:=[(0,90)]}
noncomputable def B2:List String:=["ref","box","array","tuple","adt","param","get","append","int","var","intvar","adts","variants","params","regions","impls","trait","Drop","self_type","name","arg_count","locals","blocks","spots","extend","statements","goto","switch","call","drop","assert","terminator","use","binary","checked","unary","cast","assign","print","index","pop","discriminant","live","dead","body","world","places","parents","kids","numbers","lots","add","move","cut","deref","depth_of","is_cut","paths","done","deeds_of","facts","begin","step","turned","number_of","below","is_exact","deeds","at","may_be","for_use","setdefault","for_drop","const","return","used","dropped","put","use_step","drop_step","use_facts","drop_facts","path","module","publics","is_enum","","number","trait_args","methods","spot","modules","sigs","traits","consts","bodies","G","H","K","u8","'a","p","n","named","T","U","S","x","y","A","0","B","E","d","field","set","rest","part","panic","end","nop","copy","f","t","u"]
noncomputable def uX:List (List String):=[["told","kind"],
 ["told","parts","kind"],
 ["told","table"],
 ["told","change"],
 ["region"],
 ["told"],
 ["told","found","noted"],
 ["region","found"],
 ["pattern","told","table","some","others","one","other"],
 ["told","variant","world"],
 ["told","variant","world","adt","types","regions","put_in"],
 ["region","regions"],
 ["told","world","row"],
 ["self","name","arg_count","locals_told","blocks","spots"],
 ["self","block"],
 ["self","block"],
 ["body","found","block"],
 ["terminator","word","told","found","block"],
 ["body","found","block","goal"],
 ["rvalue","word"],
 ["body","point","block","index","statement","terminator"],
 ["place"],
 ["one","other"],
 ["body","facts","block","step","index"],
 ["body","start","step","join","facts","left","block","behind","target","ahead","merged"],
 ["body","facts","step","found","block","here","index"],
 ["body","facts","block","end","join","here","target"],
 ["body","facts","block","index","step","place"],
 ["body","end","step","join","facts","ahead","left","block","here","other"],
 ["body","facts","end","step","join","found","block","here","index"],
 ["body","point","block","index","statements","rvalue"],
 ["body","point","block","index","statements","terminator"],
 ["body","point","block","index","statements","terminator"],
 ["body","point","block","index","statements"],
 ["T","world"],
 ["self","body","world","local","point","operand","place"],
 ["self","place","local","projections","parent","number"],
 ["self","place","local","projections","at"],
 ["self","place"],
 ["self","place"],
 ["self","place","local","projections","size"],
 ["self","place"],
 ["self","number","found","left","here"],
 ["self","body","world","point"],
 ["self","facts","local","is_argument"],
 ["self","facts","number","state","below","ready","gone"],
 ["self","point"],
 ["self","point","found","operand","dropped","local","written"],
 ["self","facts","block","index","number","state"],
 ["self","point"],
 ["self","facts","number","state"],
 ["told","world","found","deep"],
 ["told","world","found","deep","met","kind","part","number","name"],
 ["moves","point","local","facts","below"],
 ["body","world","rows","liveness","moves","found","uses","drops","row","there","number","point","local","region"],
 ["body","point","found","operand","place","looked","written"],
 ["body","point","statements","terminator"],
 ["body","point","place"],
 ["body","point","local","written","found"],
 ["self","body","point","uses","drops"],
 ["self","facts","block","index"],
 ["self","facts","block","index"],
 ["self","point"],
 ["self","point"],
 ["self","path","regions","params","variants","is_enum","module","publics"],
 ["self","number","regions","params","trait","trait_args","self_type","methods","spot"],
 ["self","modules"],
 ["script","k","cell","big","mixed"],
 ["source","top","drawn"],
 ["source","things"],
 ["source","region","owner","rows"],
 ["world","owner","told","path","fields","first","second","rows"],
 ["source","one","first","other","second","both","way"],
 ["source","part","found","turn","word"],
 ["told","part","words","blocks","spots","word","steps"],
 ["words","at","every","owed","later","holds_here","word"],
 ["told","every","owed","part","words","body","spots","world","rows","found","lives","at","spot","number"],
 ["script","one","other","k","source","told","every","owed","part"]]
noncomputable abbrev PH:=Addr->Option Obj
noncomputable def cY (S S':PH):Prop:=∀a o,S a=some o->S' a=some o
theorem cY.refl (S:PH):cY S S:=λ U U e=>e
theorem cY.trans {S S' S'':PH} (h:cY S S') (h':cY S' S''):cY S S'':=λ a o e=>h' a o (h a o e)
inductive L2 {X Z:Type} (R:X->Z->Prop):List X->List Z->Prop
 |nil:L2 R [] []
 |cons {x:X} {y:Z} {xs:List X} {ys:List Z} (h:R x y) (r:L2 R xs ys):L2 R (x::xs) (y::ys)
section
variable{X Z:Type} {R:X->Z->Prop} {xs xs':List X} {ys ys':List Z}
theorem L2.length (h:L2 R xs ys):xs.length=ys.length:=by
 induction h with
 |nil=>rfl
 |cons _ _ ih=>exact am Nat.succ ih
theorem L2.imp {R':X->Z->Prop} (f:∀x y,R x y->R' x y) (h:L2 R xs ys):L2 R' xs ys:=by
 induction h with
 |nil=>exact .nil
 |cons a _ ih=>exact .cons (f _ _ a) ih
theorem L2.get (h:L2 R xs ys) {i:Nat} {x:X} (e:xs[i]? =some x):∃y,ys[i]? =some y/\R x y:=by
 induction h generalizing i with
 |nil=>exact dX e
 |cons a _ ih=>
  induction i using Jq with
  |zero=>exact⟨_,rfl,aA e▸a⟩
  |succ i=>exact ih e
theorem L2.append (h:L2 R xs ys) (k:L2 R xs' ys'):L2 R (xs++xs') (ys++ys'):=by
 induction h with
 |nil=>exact k
 |cons a _ ih=>exact .cons a ih
theorem L2.take (n:Nat) (h:L2 R xs ys):L2 R (xs.take n) (ys.take n):=by
 induction h generalizing n with
 |nil=>rcases n with _|_<;>exact .nil
 |cons a _ ih=>
  induction n using Jq with
  |zero=>exact .nil
  |succ n=>exact .cons a (ih n)
theorem L2.drop (n:Nat) (h:L2 R xs ys):L2 R (xs.drop n) (ys.drop n):=by
 induction h generalizing n with
 |nil=>rcases n with _|_<;>exact .nil
 |cons a r ih=>
  induction n using Jq with
  |zero=>exact .cons a r
  |succ n=>exact ih n
theorem L2.set (n:Nat) {x:X} {y:Z} (h:L2 R xs ys) (q:R x y):L2 R (xs.set n x) (ys.set n y):=by
 induction h generalizing n with
 |nil=>exact .nil
 |cons a r ih=>
  induction n using Jq with
  |zero=>exact .cons q r
  |succ n=>exact .cons a (ih n)
theorem L2.mem (h:L2 R xs ys):∀y∈ys,∃x∈xs,R x y:=by
 induction h with
 |nil=>exact λ U h=>ii h
 |cons a _ ih=>exact λ y hy=>(aB.mp hy).elim (λ e=>⟨_, .head _,e▸a⟩) λ hy=>(ih y hy).imp λ U h=>⟨.tail _ h.1,h.2⟩
theorem L2.idx {f:Z->Bool} {g:X->Bool} (h:L2 R xs ys):(∀x∈xs,∀y,R x y->f y=g x)->ys.findIdx? f=xs.findIdx? g:=by
 induction h with
 |nil=>exact λ U=>rfl
 |cons a _ ih=>intro k;rw[List.findIdx?_cons,List.findIdx?_cons,k _ (.head _) _ a,ih λ x hx=>k x (.tail _ hx)]
end
noncomputable abbrev Io:=List (Addr×Nat)
noncomputable abbrev dU (vs:List Value) (n:Nat):Obj:={cls:= .type "tuple",data:= .seq vs.toArray n}
noncomputable abbrev dY (vs:List Value) (n:Nat):Obj:={cls:= .type "list",data:= .seq vs.toArray n}
noncomputable abbrev dJ (es:List DictEntry) (n:Nat):Obj:={cls:= .type "dict",data:= .dict es.toArray n}
noncomputable abbrev bV (c:String) (es:List (Int×Value)) (n:Nat) (t:SetTable):Obj:={cls:= .type c,data:= .set es.toArray n t}
noncomputable abbrev dx (v:Option Value):Obj:={cls:= .type "cell",data:= .cell v}
structure lQ where
 params:List Str
 body:List Stmt
 scope:Scope
 lay:List Str
 code:Option (Addr×Str)
structure Wd where
 prog:Program
 w:World
 hb:Heap
 os:OsState
 fnA:Nat->Addr
 clsA:Nat->Addr
 strL:List Str
 nd:strL.Nodup
 stat:Nat->lQ
 sys:(hb.get? sysModules).isSome=true
 tabA:Nat->Addr
 tabP:Nat->Pos
 tabQ:Nat->Str
noncomputable def Wd.str (W:Wd) (k:Nat):Str:=W.strL.getD k Str.empty
structure AA (st:lQ) (fd:FuncData):Prop where
 params:fd.params.args.map (·.arg)=st.params
 plain:fd.params.posonlyargs=[]/\fd.params.vararg=none/\fd.params.kwonlyargs=[]/\fd.params.kwarg=none
 body:fd.body= .stmts st.body
 scope:fd.scope=st.scope
 globals:fd.globals=mainGlobals
 builtins:fd.builtins=builtinsNs
 code:∀c q,st.code=some (c,q)->fd.code= .ref c/\(fd.qualname++".<locals>.":Str)=q
noncomputable abbrev kO (w:World):List (Int×Value)->List Int->Prop:=L2 λ e x=>e.1=hashInt x/\∃t,e.2= .int x t
structure bJ (w:World) (es:List (Int×Value)) (t:SetTable) (xs:List Int):Prop where
 elems:∃ys,ys.Perm xs/\kO w es ys
 rising:xs.Pairwise (·<·)
 fits:t.fits es.length=true
 small:es.length<=4->t.mask=7/\t.dummies=#[]/\t.plain=true/\(t.led=true\/w.params.followText "set-order"=true)
mutual
noncomputable def VR (W:Wd) (S:PH) (H:Io):HV->Value->Prop
 | .none,v=>v= .none
 | .bool b,v=>v= .bool b
 | .int i,v=>∃t,v= .int i t
 | .str k,v=>k<W.strL.length/\∃t,v= .str (W.str k) t
 | .t xs,v=>∃a vs n,v= .ref a/\S a=some (dU vs n)/\bW W S H xs vs
 | .w xs,v=>∃a es n t,v= .ref a/\S a=some (bV "frozenset" es n t)/\bJ W.w es t xs
 | .uset xs,v=>∃a es n t,v= .ref a/\S a=some (bV "set" es n t)/\bJ W.w es t xs
 | .ref i,v=>∃p,H[i]? =some p/\v= .ref p.1
 | .obj c i,v=>∃x p,H[i]? =some p/\v= .ref x/\S x=some (instObj (W.clsA c) p.1)
 | .fn k,v=>v= .ref (W.fnA k)
 | .clo k cs,v=>∃a o fd cl,v= .ref a/\S a=some o/\o.cls= .type "function"/\o.data= .func {fd with closure:=cl}/\AA (W.stat k) fd/\fd.defaults= .none/\
   (∃c co vs t,fd.code= .ref c/\S c=some co/\co.data= .fields vs/\vs[1]? =some (.str fd.qualname t))/\
   BW W S H cs (((W.stat k).lay.drop ((W.stat k).lay.length - cs.length)).map λ x=>cl.lookup x)
 | .meth k c i,v=>∃a x p,H[i]? =some p/\v= .ref a/\S a=some (methodObj (.ref (W.fnA k)) (.ref x))/\S x=some (instObj (W.clsA c) p.1)
 | .cls c,v=>v= .ref (W.clsA c)
 | .rl xs,v=>∃a vs o n,v= .ref a/\S a=some o/\o.cls= .type "list"/\o.data= .seq vs.toArray n/\bW W S H xs vs
noncomputable def bW (W:Wd) (S:PH) (H:Io):List HV->List Value->Prop
 |[],[]=>True
 |x::xs,v::vs=>VR W S H x v/\bW W S H xs vs
 |_,_=>False
noncomputable def BW (W:Wd) (S:PH) (H:Io):List HV->List (Option Addr)->Prop
 |[],[]=>True
 |x::xs,some c::cs=>(∃v,S c=some (dx (some v))/\VR W S H x v)/\BW W S H xs cs
 |_,_=>False
end
noncomputable def dp (W:Wd):HV->Int
 | .int i=>hashInt i
 | .str k=>hashStr W.w (W.str k)
 | .t xs=>reduceHash (Builtin.Tuple.tupleHashOf (hs xs))
 |_=>0
where hs:List HV->List Int
 |[]=>[]
 |x::xs=>dp W x::hs xs
noncomputable def iJ (W:Wd) (S:PH) (H:Io):List (HV×HV)->List DictEntry->Prop
 |[],[]=>True
 |p::ps,e::es=>VR W S H p.1 e.key/\VR W S H p.2 e.val/\e.hash=dp W p.1/\iJ W S H ps es
 |_,_=>False
noncomputable def OR (W:Wd) (S:PH) (H:Io):HO->Addr×Nat->Option Obj->Prop
 | .list xs,_,o=>∃vs n,o=some (dY vs n)/\bW W S H xs vs
 | .dict kvs,p,o=>∃es n,o=some (dJ es n)/\iJ W S H kvs es/\n=p.2+kvs.length/\kvs.Pairwise (λ x y=>cU 8 x.1 y.1=some false)/\(kvs.all λ x=>dD 8 x.1)=true
 | .tab k,p,o=>p.1=W.tabA k/\∃ps,o=some {cls:= .none,data:= .fields ps}/\(ps=#[]\/∃c co vs t,ps=#[rawInt (W.tabP k).line,rawInt (W.tabP k).col, .ref c]/\S c=some co/\co.data= .fields vs/\vs[1]? =some (.str (W.tabQ k) t))
structure St (W:Wd) (T S:PH) (H:Io) (V:aF) (s:Shared):Prop where
 S_ok:∀a o,S a=some o->s.heap.get? a=some o
 T_ok:∀a o,T a=some o->s.heap.get? a=some o
 TS:∀a o,T a=some o->S a=none
 len:H.length=V.length
 obj:∀(i:Nat) (ho:HO) (p:Addr×Nat),V[i]? =some ho->H[i]? =some p->OR W S H ho p (s.heap.get? p.1)
 free:∀p∈H,S p.1=none/\T p.1=none
 nd:(H.map (·.1)).Nodup
 base:∀a o,W.hb.get? a=some o->S a=some o
 os:s.os=W.os
 gens:s.gens=#[]
theorem fg {X:Type} {l l':List X} (h:l<+:l') {i:Nat} {x:X} (e:l[i]? =some x):l'[i]? =some x:=by
 obtain⟨r,rfl⟩:=h;rw[List.getElem?_append_left (List.getElem?_eq_some_iff.mp e).1];exact e
section
variable{W:Wd} {S S':PH} {H H':Io}
theorem VR.mono_ (hS:cY S S') (hι:H<+:H') (x:HV):∀v:Value,VR W S H x v->VR W S' H' x v:=
 HV.rec (motive_1:=λ x=>∀v,VR W S H x v->VR W S' H' x v) (motive_2:=λ xs=>(∀vs,bW W S H xs vs->bW W S' H' xs vs)/\∀cs,BW W S H xs cs->BW W S' H' xs cs)
  (λ U h=>h) (λ U U h=>h) (λ U U h=>h) (λ U U h=>h)
  (λ U ih U h=>h.imp λ U h=>h.imp λ U h=>h.imp λ U h=>⟨h.1,hS _ _ h.2.1,ih.1 _ h.2.2⟩)
  (λ U U h=>h.imp λ U h=>h.imp λ U h=>h.imp λ U h=>h.imp λ U h=>⟨h.1,hS _ _ h.2.1,h.2.2⟩)
  (λ U U h=>h.imp λ U h=>h.imp λ U h=>h.imp λ U h=>h.imp λ U h=>⟨h.1,hS _ _ h.2.1,h.2.2⟩)
  (λ U U h=>h.imp λ U h=>⟨fg hι h.1,h.2⟩)
  (λ U U U h=>h.imp λ U h=>h.imp λ U h=>⟨fg hι h.1,h.2.1,hS _ _ h.2.2⟩) (λ U U h=>h)
  (λ U U ih U h=>h.imp λ U h=>h.imp λ U h=>h.imp λ U h=>h.imp λ U h=>⟨h.1,hS _ _ h.2.1,h.2.2.1,h.2.2.2.1,h.2.2.2.2.1,h.2.2.2.2.2.1,h.2.2.2.2.2.2.1.imp λ U h=>h.imp λ U h=>h.imp λ U h=>h.imp λ U h=>⟨h.1,hS _ _ h.2.1,h.2.2⟩,ih.2 _ h.2.2.2.2.2.2.2⟩)
  (λ U U U U h=>h.imp λ U h=>h.imp λ U h=>h.imp λ U h=>⟨fg hι h.1,h.2.1,hS _ _ h.2.2.1,hS _ _ h.2.2.2⟩) (λ U U h=>h)
  (λ U ih U h=>h.imp λ U h=>h.imp λ U h=>h.imp λ U h=>h.imp λ U h=>⟨h.1,hS _ _ h.2.1,h.2.2.1,h.2.2.2.1,ih.1 _ h.2.2.2.2⟩)
  ⟨λ vs h=>by induction vs using Jo with|nil=>trivial|cons _ _=>exact h.elim,λ vs h=>by induction vs using Jo with|nil=>trivial|cons _ _=>exact h.elim⟩
  (λ U U hx ih=>⟨λ vs h=>by induction vs using Jo with|nil=>exact h.elim|cons v vs=>exact⟨hx _ h.1,ih.1 _ h.2⟩,λ vs h=>by
   induction vs using Jo with
   |nil=>exact h.elim
   |cons c cs=>induction c using Jn with|none=>exact h.elim|some c=>exact⟨h.1.imp λ v h=>⟨hS _ _ h.1,hx _ h.2⟩,ih.2 _ h.2⟩⟩) x
theorem VR.mono (hS:cY S S') (hι:H<+:H') {x:HV} {v:Value} (h:VR W S H x v):VR W S' H' x v:=VR.mono_ hS hι x v h
theorem bW.mono (hS:cY S S') (hι:H<+:H') {xs:List HV}:∀{vs:List Value},bW W S H xs vs->bW W S' H' xs vs:=by
 induction xs with
 |nil=>intro vs h;induction vs using Jo with|nil=>trivial|cons _ _=>exact h.elim
 |cons x xs ih=>intro vs h;induction vs using Jo with|nil=>exact h.elim|cons v vs=>exact⟨h.1.mono hS hι,ih h.2⟩
noncomputable abbrev DR (W:Wd) (S:PH) (H:Io) (p:HV×HV) (e:DictEntry):Prop:=VR W S H p.1 e.key/\VR W S H p.2 e.val/\e.hash=dp W p.1
theorem iJ.l {xs:List (HV×HV)}:∀{vs:List DictEntry},iJ W S H xs vs->L2 (DR W S H) xs vs:=by
 induction xs with
 |nil=>intro vs h;induction vs using Jo with|nil=>exact .nil|cons _ _=>exact h.elim
 |cons x xs ih=>intro vs h;induction vs using Jo with|nil=>exact h.elim|cons _ _=>exact .cons ⟨h.1,h.2.1,h.2.2.1⟩ (ih h.2.2.2)
theorem iJ.of {xs:List (HV×HV)} {vs:List DictEntry} (h:L2 (DR W S H) xs vs):iJ W S H xs vs:=by
 induction h with
 |nil=>exact trivial
 |cons a _ ih=>exact⟨a.1,a.2.1,a.2.2,ih⟩
theorem iJ.mono (hS:cY S S') (hι:H<+:H') {xs:List (HV×HV)} {vs:List DictEntry} (h:iJ W S H xs vs):iJ W S' H' xs vs:= .of (h.l.imp λ U U a=>⟨a.1.mono hS hι,a.2.1.mono hS hι,a.2.2⟩)
theorem OR.mono (hS:cY S S') (hι:H<+:H') {ho:HO} {p:Addr×Nat} {o:Option Obj} (h:OR W S H ho p o):OR W S' H' ho p o:=by
 cases ho with
 |list xs=>refine dP h λ vs n e r=>?_;exact⟨vs,n,e,r.mono hS hι⟩
 |dict kvs=>refine dL h λ es n e r q=>?_;exact⟨es,n,e,r.mono hS hι,q⟩
 |tab k=>exact⟨h.1,h.2.imp λ ps h=>⟨h.1,h.2.imp id λ h=>h.imp λ c h=>h.imp λ co h=>h.imp λ vs h=>h.imp λ t h=>⟨h.1,hS _ _ h.2.1,h.2.2⟩⟩⟩
theorem Wd.str_inj (W:Wd) {a b:Nat} (ha:a<W.strL.length) (hb:b<W.strL.length) (h:W.str a=W.str b):a=b:=by
 unfold Wd.str at h;rw[List.getD_eq_getElem?_getD,List.getD_eq_getElem?_getD,List.getElem?_eq_getElem ha,List.getElem?_eq_getElem hb] at h;exact(List.getElem?_inj ha W.nd).mp (by rw[List.getElem?_eq_getElem ha,List.getElem?_eq_getElem hb];exact am some h)
theorem bW.l {xs:List HV}:∀{vs:List Value},bW W S H xs vs->L2 (VR W S H) xs vs:=by
 induction xs with
 |nil=>intro vs h;induction vs using Jo with|nil=>exact .nil|cons _ _=>exact h.elim
 |cons x xs ih=>intro vs h;induction vs using Jo with|nil=>exact h.elim|cons _ _=>exact .cons h.1 (ih h.2)
theorem bW.of {xs:List HV} {vs:List Value} (h:L2 (VR W S H) xs vs):bW W S H xs vs:=by
 induction h with
 |nil=>exact trivial
 |cons a _ ih=>exact⟨a,ih⟩
theorem bW.length {xs:List HV} {vs:List Value} (h:bW W S H xs vs):xs.length=vs.length:=h.l.length
theorem bW.get {xs:List HV} {vs:List Value} {i:Nat} {x:HV} (h:bW W S H xs vs) (e:xs[i]? =some x):∃v,vs[i]? =some v/\VR W S H x v:=h.l.get e
theorem bW.append {xs ys:List HV} {vs us:List Value} (h:bW W S H xs vs) (k:bW W S H ys us):bW W S H (xs++ys) (vs++us):= .of (h.l.append k.l)
theorem bW.take {xs:List HV} {vs:List Value} (n:Nat) (h:bW W S H xs vs):bW W S H (xs.take n) (vs.take n):= .of (h.l.take n)
theorem bW.drop {xs:List HV} {vs:List Value} (n:Nat) (h:bW W S H xs vs):bW W S H (xs.drop n) (vs.drop n):= .of (h.l.drop n)
theorem bW.set {xs:List HV} {vs:List Value} (n:Nat) {x:HV} {v:Value} (h:bW W S H xs vs) (q:VR W S H x v):bW W S H (xs.set n x) (vs.set n v):= .of (h.l.set n q)
theorem bW.ints {xs:List Int}:∀{vs:List Value},bW W S H (xs.map .int) vs->IntsAre vs xs:=by
 induction xs with
 |nil=>intro vs h;induction vs using Jo with|nil=>exact .nil|cons _ _=>exact h.elim
 |cons x xs ih=>
  intro vs h
  induction vs using Jo with
  |nil=>exact h.elim
  |cons v vs=>obtain⟨⟨t,rfl⟩,r⟩:=h;exact .cons _ _ (ih r)
end
noncomputable def upd (S:PH) (a:Addr) (o:Obj):PH:=λ b=>if b=a then some o else S b
theorem cH (S:PH) (a:Addr) (o:Obj):upd S a o a=some o:=by simp[upd]
theorem fq {S:PH} {a b:Addr} {o:Obj} (h:b≠a):upd S a o b=S b:=by simp[upd,h]
theorem dN {S:PH} {a:Addr} {o:Obj} (h:S a=none):cY S (upd S a o):=λ b x e=>by
 by_cases q:b=a
 ·subst q;rw[h] at e;cases e
 ·rw[fq q];exact e
structure Kp (ex:Addr->Prop) (s s':Shared):Prop where
 keep:∀b o,¬ex b->s.heap.get? b=some o->s'.heap.get? b=some o
 os:s'.os=s.os
 gens:s'.gens=s.gens
theorem Kp.refl (ex:Addr->Prop) (s:Shared):Kp ex s s:=⟨λ U U U e=>e,rfl,rfl⟩
theorem Kp.update (s:Shared) (a:Addr) (f:Obj->Obj) (n:Nat):Kp (·=a) s {s with heap:=s.heap.update a f,toks:=n}:=
 ⟨λ b U n e=>((eZ s.heap a f).2 b n).trans e,rfl,rfl⟩
theorem Kp.push (s:Shared) (o:Obj):Kp (λ U=>False) s {s with heap:=s.heap.push o}:=⟨λ U U U e=>aq _ e,rfl,rfl⟩
theorem Kp.trans {ex:Addr->Prop} {s s' s'':Shared} (h:Kp ex s s') (h':Kp ex s' s''):Kp ex s s'':=
 ⟨λ b o n e=>h'.keep b o n (h.keep b o n e),h'.os.trans h.os,h'.gens.trans h.gens⟩
theorem Kp.weak {ex ex':Addr->Prop} {s s':Shared} (h:Kp ex s s') (k:∀b,ex b->ex' b):Kp ex' s s':=
 ⟨λ b o n e=>h.keep b o (λ q=>n (k b q)) e,h.os,h.gens⟩
theorem Kp.toks {ex:Addr->Prop} {s s':Shared} (h:Kp ex s s') (n:Nat):Kp ex s {s' with toks:=n}:=⟨h.keep,h.os,h.gens⟩
theorem Kp.sameBut {a:Addr} {s:Shared} {h':Heap} {n:Nat} (hs:Heap.SameBut a s.heap h'):Kp (·=a) s {s with heap:=h',toks:=n}:=
 ⟨λ b o n e=>(hs.2 b n).trans e,rfl,rfl⟩
section
variable{W:Wd} {T T' S S':PH} {H H':Io} {V V':aF} {s s':Shared}
theorem St.io_get (st:St W T S H V s) {i:Nat} {ho:HO} (h:V[i]? =some ho):∃p,H[i]? =some p/\OR W S H ho p (s.heap.get? p.1):=by
 have hi:i<H.length:=by rw[st.len];exact(ao.mp h).1
 exact⟨H[i],ak hi,st.obj i ho _ h (ak hi)⟩
theorem OR.isS {ho:HO} {p:Addr×Nat} {o:Option Obj} (h:OR W S H ho p o):∃x,o=some x:=by
 cases ho with
 |list xs=>refine dP h λ vs n e _=>?_;exact⟨_,e⟩
 |dict kvs=>refine dP h λ es n e _=>?_;exact⟨_,e⟩
 |tab k=>obtain⟨_,ps,e,_⟩:=h;exact⟨_,e⟩
theorem St.io_lt (st:St W T S H V s) {p:Addr×Nat} (h:p∈H):p.1<s.heap.objs.size:=by
 refine ce (ba.mp h) λ i hi=>?_;have hlt:i<V.length:=by rw[<- st.len];exact(ao.mp hi).1
 refine ce ((st.obj i _ p (ak hlt) hi).isS) λ x e=>?_;exact aW e
theorem St.S_lt (st:St W T S H V s) {a:Addr} {o:Obj} (h:S a=some o):a<s.heap.objs.size:=aW (st.S_ok a o h)
theorem St.T_lt (st:St W T S H V s) {a:Addr} {o:Obj} (h:T a=some o):a<s.heap.objs.size:=aW (st.T_ok a o h)
theorem St.S_new (st:St W T S H V s) {a:Addr} (h:s.heap.objs.size<=a):S a=none:=by
 induction e:S a using Jn with
 |none=>rfl
 |some o=>exact aN (st.S_lt e) (bF.mpr h)
theorem St.T_new (st:St W T S H V s) {a:Addr} (h:s.heap.objs.size<=a):T a=none:=by
 induction e:T a using Jn with
 |none=>rfl
 |some o=>exact aN (st.T_lt e) (bF.mpr h)
theorem St.io_new (st:St W T S H V s) {a:Addr} (h:s.heap.objs.size<=a):a∉H.map (·.1):=λ q=>by
 refine aU (cC.mp q) λ p hp e=>?_;exact aN (st.io_lt hp) (bF.mpr (e▸h))
theorem St.keep_base (st:St W T S H V s) {b:Addr} {o:Obj} (e:W.hb.get? b=some o):s.heap.get? b=some o:=st.S_ok _ _ (st.base _ _ e)
noncomputable def Au (T S:PH) (H:Io) (b:Addr):Prop:=S b=none/\T b=none/\b∉H.map (·.1)
theorem St.off_new (st:St W T S H V s) {a:Addr} (h:s.heap.objs.size<=a):Au T S H a:=⟨st.S_new h,st.T_new h,st.io_new h⟩
theorem St.kp {ex:Addr->Prop} (st:St W T S H V s) (k:Kp ex s s') (hex:∀b,ex b->Au T S H b):St W T S H V s' where
 S_ok:=λ a o e=>k.keep a o (λ q=>by rw[(hex a q).1] at e;cases e) (st.S_ok a o e)
 T_ok:=λ a o e=>k.keep a o (λ q=>by rw[(hex a q).2.1] at e;cases e) (st.T_ok a o e)
 TS:=st.TS
 len:=st.len
 obj:=λ i ho p h hp=>by
  have r:=st.obj i ho p h hp;refine ce r.isS λ x e=>?_;have e':=k.keep p.1 x (λ q=>(hex p.1 q).2.2 (bI (ar hp))) e;rw[e'];rw[e] at r;exact r
 free:=st.free
 nd:=st.nd
 base:=st.base
 os:=k.os.trans st.os
 gens:=k.gens.trans st.gens
theorem St.same (st:St W T S H V s) (k:Kp (λ U=>False) s s'):St W T S H V s':=st.kp k λ U h=>h.elim
theorem St.toks (st:St W T S H V s) (n:Nat):St W T S H V {s with toks:=n}:=st.same ((Kp.refl _ s).toks n)
theorem St.weakT (h:cY T T') (st:St W T' S H V s):St W T S H V s where
 S_ok:=st.S_ok
 T_ok:=λ a o e=>st.T_ok a o (h a o e)
 TS:=λ a o e=>st.TS a o (h a o e)
 len:=st.len
 obj:=st.obj
 free:=λ p hp=>⟨(st.free p hp).1,by
  induction e:T p.1 using Jn with
  |none=>rfl
  |some o=>have:=(st.free p hp).2;rw[h _ _ e] at this;cases this⟩
 nd:=st.nd
 base:=st.base
 os:=st.os
 gens:=st.gens
theorem St.addS {ex:Addr->Prop} (st:St W T S H V s) {a:Addr} {o:Obj} (ha:s.heap.objs.size<=a) (k:Kp ex s s') (hex:∀b,ex b->Au T S H b) (ho:s'.heap.get? a=some o):
  St W T (upd S a o) H V s':=by
 have n:=st.off_new ha;have st':=st.kp k hex;exact{
  S_ok:=λ b x e=>by
   by_cases q:b=a
   ·subst q;rw[cH] at e;cases e;exact ho
   ·rw[fq q] at e;exact st'.S_ok b x e
  T_ok:=st'.T_ok
  TS:=λ b x e=>by
   by_cases q:b=a
   ·subst q;rw[n.2.1] at e;cases e
   ·rw[fq q];exact st'.TS b x e
  len:=st'.len
  obj:=λ i h p e1 e2=>(st'.obj i h p e1 e2).mono (dN n.1) (ax _)
  free:=λ p hp=>⟨by
   by_cases q:p.1=a
   ·exact aN (bI hp) (q▸n.2.2)
   ·rw[fq q];exact(st'.free p hp).1,(st'.free p hp).2⟩
  nd:=st'.nd
  base:=λ b x e=>by
   by_cases q:b=a
   ·subst q;have:=st.base _ _ e;rw[n.1] at this;cases this
   ·rw[fq q];exact st'.base b x e
  os:=st'.os
  gens:=st'.gens}
theorem St.freezeS (st:St W T S H V s) {a:Addr} {o:Obj} (n:Au T S H a) (ho:s.heap.get? a=some o):St W T (upd S a o) H V s where
 S_ok:=λ b x e=>by
  by_cases q:b=a
  ·subst q;rw[cH] at e;cases e;exact ho
  ·rw[fq q] at e;exact st.S_ok b x e
 T_ok:=st.T_ok
 TS:=λ b x e=>by
  by_cases q:b=a
  ·subst q;rw[n.2.1] at e;cases e
  ·rw[fq q];exact st.TS b x e
 len:=st.len
 obj:=λ i h p e1 e2=>(st.obj i h p e1 e2).mono (dN n.1) (ax _)
 free:=λ p hp=>⟨by
  by_cases q:p.1=a
  ·exact aN (bI hp) (q▸n.2.2)
  ·rw[fq q];exact(st.free p hp).1,(st.free p hp).2⟩
 nd:=st.nd
 base:=λ b x e=>by
  by_cases q:b=a
  ·subst q;have:=st.base _ _ e;rw[n.1] at this;cases this
  ·rw[fq q];exact st.base b x e
 os:=st.os
 gens:=st.gens
theorem St.addI (st:St W T S H V s) {ho:HO} {p:Addr×Nat} (n:Au T S H p.1) (h:OR W S H ho p (s.heap.get? p.1)):
  St W T S (H++[p]) (V++[ho]) s where
 S_ok:=st.S_ok
 T_ok:=st.T_ok
 TS:=st.TS
 len:=by simp[st.len]
 obj:=λ i h' p' e1 e2=>by
  rcases Nat.lt_or_ge i V.length with q|q
  ·rw[List.getElem?_append_left q] at e1;rw[List.getElem?_append_left (by rw[st.len];exact q)] at e2
   exact(st.obj i h' p' e1 e2).mono (cY.refl _) (List.prefix_append _ _)
  ·rw[List.getElem?_append_right q] at e1;rw[List.getElem?_append_right (by rw[st.len];exact q)] at e2
   rw[st.len] at e2;cases i':i - V.length with
   |zero=>
    rw[i'] at e1 e2;simp only[List.getElem?_cons_zero,Option.some.injEq] at e1 e2;subst e1;subst e2;exact h.mono (cY.refl _) (List.prefix_append _ _)
   |succ j=>rw[i'] at e1;simp at e1
 free:=λ q hq=>by
  rcases aY.mp hq with hq|hq
  ·exact st.free q hq
  ·rw[List.mem_singleton.mp hq];exact⟨n.1,n.2.1⟩
 nd:=by
  rw[List.map_append,List.map_cons,List.map_nil];exact List.nodup_append.mpr ⟨st.nd,by simp,λ a ha b hb e=>n.2.2 (by rw[List.mem_singleton] at hb;rw[<- hb,<- e];exact ha)⟩
 base:=st.base
 os:=st.os
 gens:=st.gens
theorem St.turn {ex:Addr->Prop} (st:St W T S H V s) {i:Nat} {p:Addr×Nat} {ho:HO} (hp:H[i]? =some p) (k:Kp ex s s') (hex:∀b,ex b->b=p.1\/Au T S H b)
  (h:OR W S H ho p (s'.heap.get? p.1)):St W T S H (V.set i ho) s' where
 S_ok:=λ a o e=>k.keep a o (λ q=>by
  rcases hex a q with rfl|q
  ·rw[(st.free p (List.mem_of_getElem? hp)).1] at e;cases e
  ·rw[q.1] at e;cases e) (st.S_ok a o e)
 T_ok:=λ a o e=>k.keep a o (λ q=>by
  rcases hex a q with rfl|q
  ·rw[(st.free p (List.mem_of_getElem? hp)).2] at e;cases e
  ·rw[q.2.1] at e;cases e) (st.T_ok a o e)
 TS:=st.TS
 len:=by rw[List.length_set];exact st.len
 obj:=λ j h' p' e1 e2=>by
  by_cases q:i=j
  ·subst q;rw[hp] at e2;cases e2;have hi:i<V.length:=by rw[<- st.len];exact(ao.mp hp).1
   rw[List.getElem?_set_self hi] at e1;cases e1;exact h
  ·rw[List.getElem?_set_ne q] at e1;have r:=st.obj j h' p' e1 e2;refine ce r.isS λ x e=>?_;have hne:p'.1≠p.1:=λ z=>q (by
    have h1:(H.map (·.1))[i]? =some p.1:=by rw[List.getElem?_map,hp];rfl
    have h2:(H.map (·.1))[j]? =some p.1:=by rw[List.getElem?_map,e2];exact am some z
    exact(List.getElem?_inj (ao.mp h1).1 st.nd).mp (h1.trans h2.symm))
   have e':=k.keep p'.1 x (λ q=>by
    rcases hex _ q with z|z
    ·exact hne z
    ·exact z.2.2 (bI (ar e2))) e
   rw[e'];rw[e] at r;exact r
 free:=st.free
 nd:=st.nd
 base:=st.base
 os:=k.os.trans st.os
 gens:=k.gens.trans st.gens
end
noncomputable def lE (o:Obj) (m:Str->Option Value):Prop:=∃es ep,o.data= .dict es ep/\StrKeys es/\∀name,nsFind es name=m name
theorem lE.ns {o:Obj} {m:Str->Option Value} (h:lE o m) {hp:Heap} {a:Addr} (e:hp.get? a=some o):hp.Ns a m:=
 Es h λ es ep r=>⟨o,es,ep,e,r⟩
noncomputable def eD (W:Wd) (T S:PH) (H:Io) (env:Env) (m:Str->Option Value) (x:Str):SV->Prop
 | .empty=>env.kindOf x=some .local\/(env.kindOf x=some .cell/\∃c v₀,env.cells.lookup x=some c/\T c=some (dx v₀))
 | .val v=>(env.kindOf x=some .local/\∃val,m x=some val/\VR W S H v val)\/
   (env.kindOf x=some .cell/\∃c val,env.cells.lookup x=some c/\T c=some (dx (some val))/\VR W S H v val)
 | .ro v=>(env.kindOf x=some .cell\/env.kindOf x=some .free)/\∃c val,env.cells.lookup x=some c/\(S c=some (dx (some val))\/T c=some (dx (some val)))/\VR W S H v val
structure FrameT (W:Wd) (T S:PH) (H:Io) (lay:List Str) (env:Env) (Y:bc):Prop where
 kind:env.scope.kind= .function
 globals:env.globals=mainGlobals
 builtins:env.builtins=builtinsNs
 len:Y.length=lay.length
 apart:∀x∈lay,∀y∈lay,env.kindOf x≠some .local->env.kindOf y≠some .local->∀c,env.cells.lookup x=some c->env.cells.lookup y=some c->x=y
 ns:∃o m,T env.locals=some o/\lE o m/\∀(i:Nat) (x:Str) (sv:SV),lay[i]? =some x->Y[i]? =some sv->eD W T S H env m x sv
theorem eD.mono {W:Wd} {T S S':PH} {H H':Io} {env:Env} {m:Str->Option Value} {x:Str} {sv:SV} (hS:cY S S') (hι:H<+:H') (h:eD W T S H env m x sv):eD W T S' H' env m x sv:=by
 cases sv with
 |empty=>exact h
 |val v=>
  rcases h with⟨k,val,e,r⟩|⟨k,c,val,e,e',r⟩
  ·exact .inl ⟨k,val,e,r.mono hS hι⟩
  ·exact .inr ⟨k,c,val,e,e',r.mono hS hι⟩
 |ro v=>
  obtain⟨k,c,val,e,e',r⟩:=h;exact⟨k,c,val,e,e'.imp (hS _ _) id,r.mono hS hι⟩
theorem FrameT.mono {W:Wd} {T S S':PH} {H H':Io} {lay:List Str} {env:Env} {Y:bc} (hS:cY S S') (hι:H<+:H') (h:FrameT W T S H lay env Y):FrameT W T S' H' lay env Y:=
 ⟨h.kind,h.globals,h.builtins,h.len,h.apart,dL h.ns λ o m a b c=>⟨o,m,a,b,λ i x sv e1 e2=>(c i x sv e1 e2).mono hS hι⟩⟩
section
variable{M:Model} {A:Around} {E:Value->Shared->Prop} {s:Shared} {X Z:Type} {Q:X->Shared->Prop} {t e:Sem X}
theorem wn {c:Prop} [Decidable c] (h:¬c) (k:wpAny M A e Q E s):wpAny M A (if c then t else e) Q E s:=by rw[if_neg h];exact k
theorem wy {c:Prop} [Decidable c] (h:c) (k:wpAny M A t Q E s):wpAny M A (if c then t else e) Q E s:=by rw[if_pos h];exact k
noncomputable abbrev KQ (M:Model) (A:Around) (E:Value->Shared->Prop) (f:Z->Sem X) (Q:X->Shared->Prop) (b:Z) (s:Shared):Prop:=wpAny M A (f b) Q E s
theorem wb {m:Sem Z} {f:Z->Sem X} (h:wpAny M A m (KQ M A E f Q) E s):wpAny M A (m>>=f) Q E s:=af h
theorem fm {b:Z} {f:Z->Sem X} (h:wpAny M A (f b) Q E s):wpAny M A (pure b>>=f) Q E s:=af (ag h)
end
noncomputable def zm (S:PH) (s:Shared):Prop:=∀a o,S a=some o->s.heap.get? a=some o
inductive C1:Nat->HV->HV->Bool->Prop
 |none {n:Nat}:C1 n .none .none true
 |int {n:Nat} {a b:Int}:C1 n (.int a) (.int b) (decide (a=b))
 |str {n a b:Nat}:C1 n (.str a) (.str b) (Nat.beq a b)
 |t {n:Nat} {xs ys:List HV} {b:Bool}:ic n xs ys=some b->C1 (n+1) (.t xs) (.t ys) b
theorem G6 {M:HV->Prop} (y:HV) (c0:M .none) (c1:∀b,M (.bool b)) (c2:∀i,M (.int i)) (c3:∀k,M (.str k)) (c4:∀xs,M (.t xs)) (c5:∀xs,M (.w xs)) (c6:∀xs,M (.uset xs)) (c7:∀i,M (.ref i)) (c8:∀c i,M (.obj c i)) (c9:∀k,M (.fn k)) (c10:∀k s,M (.clo k s)) (c11:∀k c i,M (.meth k c i)) (c12:∀c,M (.cls c)) (c13:∀xs,M (.rl xs)):M y:=HV.casesOn (motive_1:=M) y c0 c1 c2 c3 c4 c5 c6 c7 c8 c9 c10 c11 c12 c13
theorem C1.of {n:Nat} {x y:HV} {b:Bool} (h:cU n x y=some b):C1 n x y b:=by
 revert h;cases x with
 |none=>apply G6 y<;>(repeat intro U)<;>first|exact dX U|exact aA U▸ .none
 |int a=>apply G6 y<;>(repeat intro U)<;>first|exact dX U|exact aA U▸ .int
 |str a=>apply G6 y<;>(repeat intro U)<;>first|exact dX U|exact aA U▸ .str
 |t xs=>
  induction n using Jq with
  |zero=>exact dX
  |succ n=>apply G6 y<;>(repeat intro U)<;>first|exact dX U|exact .t U
 |_=>exact dX
theorem lq {M:Nat->HV->HV->Bool->Prop} {L:Nat->List HV->List HV->Bool->Prop} (h0:∀n,M n .none .none true) (h1:∀n a b,M n (.int a) (.int b) (decide (a=b))) (h2:∀n a b,M n (.str a) (.str b) (Nat.beq a b))
  (h3:∀n xs ys b,L n xs ys b->M (n+1) (.t xs) (.t ys) b) (l0:∀n,L n [] [] true) (l1:∀n y ys,L n [] (y::ys) false) (l2:∀n x xs,L n (x::xs) [] false)
  (l3:∀n x y xs ys,M n x y false->L n (x::xs) (y::ys) false) (l4:∀n x y xs ys b,M n x y true->L n xs ys b->L n (x::xs) (y::ys) b):
  ∀n,(∀{x y b},cU n x y=some b->M n x y b)/\(∀{xs ys b},ic n xs ys=some b->L n xs ys b):=by
 have ls:∀n,(∀{x y b},cU n x y=some b->M n x y b)->∀{xs ys b},ic n xs ys=some b->L n xs ys b:=by
  intro n ih xs
  induction xs with
  |nil=>
   intro ys b h
   induction ys using Jo with
   |nil=>exact aA h▸l0 n
   |cons y ys=>exact aA h▸l1 n y ys
  |cons x xs ihl=>
   intro ys b h
   induction ys using Jo with
   |nil=>exact aA h▸l2 n x xs
   |cons y ys=>
    have h:(match cU n x y with
     |some true=>ic n xs ys
     |r=>r)=some b:=h
    induction e:cU n x y using Jn with
    |none=>rw[e] at h;exact dX h
    |some c=>
     rw[e] at h
     induction c using Jp with
     |false=>exact aA h▸l3 n x y xs ys (ih e)
     |true=>exact l4 n x y xs ys b (ih e) (ihl h)
 have sc:∀n,(∀m,n=m+1->∀{xs ys b},ic m xs ys=some b->L m xs ys b)->∀{x y b},cU n x y=some b->M n x y b:=by
  intro n hn x y b h;have c:=C1.of h;clear h
  induction c with
  |none=>exact h0 _
  |int=>exact h1 ..
  |str=>exact h2 ..
  |t h=>exact h3 _ _ _ _ (hn _ rfl h)
 intro n
 induction n with
 |zero=>exact⟨sc 0 λ m (e:0=m+1)=>(nomatch e),ls 0 (sc 0 λ m (e:0=m+1)=>(nomatch e))⟩
 |succ n ih=>
  have k:∀{x y b},cU (n+1) x y=some b->M (n+1) x y b:=sc _ λ m e=>by cases e;exact ih.2
  exact⟨k,ls _ k⟩
theorem o8 {n:Nat} {x y:HV} (h:cU n x y=some true):x=y:=
 (lq (M:=λ U x y b=>b=true->x=y) (L:=λ U xs ys b=>b=true->xs=ys) (λ U U=>rfl) (λ U U U e=>am _ (bq e)) (λ U U U e=>am _ (gx e)) (λ U U U U h e=>am _ (h e))
  (λ U U=>rfl) (λ U U U e=>qU e) (λ U U U e=>qU e) (λ U U U U U U e=>qU e) (λ U U U U U U h k e=>by rw[h rfl,k e]) n).1 h rfl
theorem rF {n:Nat} {x:HV} {b:Bool} (h:cU n x x=some b):b=true:=
 (lq (M:=λ U x y b=>x=y->b=true) (L:=λ U xs ys b=>xs=ys->b=true) (λ U U=>rfl) (λ U U U e=>b6 (HV.int.inj e)) (λ U U U e=>by rw[HV.str.inj e];exact Nat.beq_refl _) (λ U U U U h e=>h (HV.t.inj e))
  (λ U U=>rfl) (λ U U U e=>nomatch e) (λ U U U e=>nomatch e) (λ U U U U U h e=>h (List.cons.inj e).1) (λ U U U U U U U k e=>k (List.cons.inj e).2) n).1 h rfl
theorem zR {n:Nat} {x y:HV} {b:Bool} (h:cU n x y=some b):b=true↔x=y:=⟨λ e=>o8 (e▸h),λ e=>rF (e▸h)⟩
section
variable{W:Wd} {S:PH} {H:Io}
theorem um (W:Wd) {a b:Nat} (ha:a<W.strL.length) (hb:b<W.strL.length):decide (W.str a=W.str b)=Nat.beq a b:=fD.mpr ⟨λ e=>by rw[W.str_inj ha hb (of_decide_eq_true e)];exact Nat.beq_refl _,λ e=>by rw[Nat.eq_of_beq_eq_true e];exact b6 rfl⟩
theorem yA {vs us:List Value} {n m:Nat} (h:some (dU vs n)=some (dU us m)):vs=us:=by
 injection h with h;injection h with _ _ h _;injection h with h _;exact am Array.toList h
theorem bW.cons {x:HV} {xs:List HV}:∀{vs:List Value},bW W S H (x::xs) vs->∃v us,vs=v::us/\VR W S H x v/\bW W S H xs us
 |_::_,h=>⟨_,_,rfl,h⟩
theorem bW.nil {vs:List Value} (h:bW W S H [] vs):vs=[]:=by
 induction vs using Jo with
 |nil=>rfl
 |cons _ _=>exact h.elim
theorem bW.nc {vs:List Value} {x:HV} {xs:List HV} {G:Prop} (h:bW W S H [] vs) (k:bW W S H (x::xs) vs):G:=by rw[h.nil] at k;exact k.elim
theorem jk {n:Nat} {x y:HV} {v:Value} {b:Bool} (h:cU n x y=some b) (hx:VR W S H x v) (hy:VR W S H y v):b=true:=
 (lq (M:=λ U x y b=>∀v,VR W S H x v->VR W S H y v->b=true) (L:=λ U xs ys b=>∀vs,bW W S H xs vs->bW W S H ys vs->b=true) (λ U U U U=>rfl)
  (by intro _ _ _ _ hq1 hq2;refine ce hq1 λ _ e=>?_;refine ce hq2 λ _ e'=>?_;exact b6 (Value.int.inj (e.symm.trans e')).1)
  (by intro _ a b _ hq3 hq4;refine cO hq3 λ ha hz1=>?_;refine ce hz1 λ _ e=>?_;refine cO hq4 λ hb hz1=>?_;refine ce hz1 λ _ e'=>?_;exact by rw[W.str_inj ha hb (Value.str.inj (e.symm.trans e')).1];exact Nat.beq_refl _)
  (by intro _ xs ys _ h _ hq5 hq6;refine iR hq5 λ _ vs _ e h1 r1=>?_;refine iR hq6 λ _ us _ e' h2 r2=>?_;exact h vs r1 (yA (h1.symm.trans (Ir (e.symm.trans e')▸h2))▸r2))
  (λ U U U U=>rfl) (λ U U U U h k=>h.nc k) (λ U U U U h k=>k.nc h)
  (λ U U U U U h U hx hy=>by
   refine dL hx.cons λ v us rq1 a U=>?_;subst rq1;exact h v a hy.1)
  (λ U U U U U U U h U hx hy=>by
   refine dL hx.cons λ v us rq1 U a=>?_;subst rq1;exact h us a hy.2) n).1 h v hx hy
variable{pr:Program} {wd:World} {A:Around} {E:Value->Shared->Prop} {s:Shared}
theorem fR {a:Addr} {vs:List Value} {n:Nat} {Q:Array Value->Shared->Prop} (h:s.heap.get? a=some (dU vs n)) (q:Q vs.toArray s):
  wpAny (model pr wd) A (Builtin.Tuple.tupleItemsOf (.ref a)) Q E s:=wpAny_tupleItemsOf h rfl q
theorem dR {a:Addr} {vs:List Value} {n:Nat} (h:s.heap.get? a=some (dU vs n)):s.TypeIs (.ref a) "tuple":=⟨_,h,rfl⟩
noncomputable abbrev wj (W:Wd) (S:PH) (H:Io) (pr:Program) (wd:World) (s:Shared) (n:Nat) (A:Around):Prop:=∀{x y:HV} {u v:Value} {b:Bool} {E:Value->Shared->Prop} {Q:Bool->Shared->Prop},cU n x y=some b->VR W S H x u->VR W S H y v->zm S s->A.units+n<cLine->Q b s->
   wpAny (model pr wd) A (eqBool u v) Q E s
theorem ry {n:Nat} {A:Around} {w:Bool} {K:Option Fin×Unit->Shared->Prop} {E:Value->Shared->Prop} {f:Value×Value->Option Fin×Unit->Sem (ForInStep (Option Fin×Unit))}
  (hf:∀u v,f (u,v) (none,())=(do
   let d <- eqBool u v
   if(!d)=true then do
    let r <- ret (Value.bool w)
    pure (ForInStep.done (some r,()))
   else pure (ForInStep.yield (none,()))))
  (ih:wj W S H pr wd s n A) (hS:zm S s) (hu:A.units+n<cLine):∀{xs ys:List HV} {vs us:List Value} {r:Bool},ic n xs ys=some r->bW W S H xs vs->bW W S H ys us->
   (r=false->K (some (.done (.ret (.bool w))),()) s)->(decide (vs.length=us.length)=r->K (none,()) s)->wpAny (model pr wd) A (forIn (vs.zip us) (none,()) f) K E s:=by
 intro xs
 induction xs with
 |nil=>
  intro ys vs us r h hx hy q1 q2;cases hx.nil;refine ag (q2 ?_)
  induction ys using Jo with
  |nil=>cases hy.nil;exact aA h
  |cons y ys=>refine dP hy.cons λ _ _ rq1 _=>?_;subst rq1;exact aA h
 |cons x xs ihx=>
  intro ys vs us r h hx hy q1 q2;obtain⟨v,vs,rfl,ha,hx⟩:=hx.cons
  induction ys using Jo with
  |nil=>cases hy.nil;exact ag (q2 (aA h))
  |cons y ys=>
   obtain⟨u,us,rfl,hb,hy⟩:=hy.cons;have h:(match cU n x y with
    |some true=>ic n xs ys
    |r=>r)=some r:=h
   rw[List.zip_cons_cons,List.forIn_cons,hf]
   induction e:cU n x y using Jn with
   |none=>rw[e] at h;exact dX h
   |some d=>
    rw[e] at h;refine wb (wb (ih e ha hb hS hu ?_))
    induction d using Jp with
    |true=>exact ag (ihx h hx hy q1 λ e=>q2 ((dT.mpr Nat.succ_inj).trans e))
    |false=>exact ag (ag (q1 (aA h).symm))
theorem tZ {n:Nat} {A:Around} (ih:wj W S H pr wd s n A)
  {a b:Addr} {xs ys:List HV} {vs us:List Value} {n1 n2:Nat} {r:Bool} {P:Fin->Shared->Prop} {E:Value->Shared->Prop}
  (h:ic n xs ys=some r) (ha:s.heap.get? a=some (dU vs n1)) (hb:s.heap.get? b=some (dU us n2)) (hx:bW W S H xs vs) (hy:bW W S H ys us) (hS:zm S s) (hu:A.units+n<cLine)
  (q:P (.done (.ret (.bool r))) s):wpAny (model pr wd) A (Builtin.«tuple.__eq__» ⟨[.ref a, .ref b],[]⟩) P E s:=
 wb (m:=isInstance (.ref b) (.type "tuple")) (bB (dR hb) isSubtype_tuple_tuple (wn (by decide) (wb (fR ha (wb (fR hb (wb (ry (λ U U=>rfl) ih hS hu h hx hy (λ e=>ag (e▸q)) λ e=>ag (show P (.done (.ret (.bool (decide (vs.length=us.length))))) s from e.symm▸q)))))))))
theorem E0 {n:Nat} {A:Around} (ih:∀m,n=m+1->∀A,wj W S H pr wd s m A):wj W S H pr wd s n A:=by
 intro x y u v b E Q h hx hy hS hu q;have same:u=v->b=true:=λ e=>jk h hx (e▸hy);have c:=C1.of h;clear h
 induction c with
 |none=>
  rw[show u= .none from hx,show v= .none from hy];exact af (bO (ag q))
 |int=>
  obtain⟨t,rfl⟩:=hx;obtain⟨t',rfl⟩:=hy;exact wpAny_eqBool_int q
 |str=>
  obtain⟨ha,t,rfl⟩:=hx;obtain⟨hb,t',rfl⟩:=hy;exact wpAny_eqBool_str (um W ha hb▸q)
 |t h=>
  refine iR hx λ a vs n1 rq1 h1 r1=>?_;subst rq1;refine iR hy λ a' us n2 rq1 h2 r2=>?_;subst rq1;refine av ?_;show wpAny _ _ (if(Value.ref a==Value.ref a')=true then _ else _) Q E s
  by_cases hab:(Value.ref a==Value.ref a')=true
  ·exact wy hab (af (bO (ag (same (eq_of_beq hab)▸q))))
  ·exact wn hab (af (wpAny_richCompare_same_room (op:= .Eq) (dR (hS _ _ h1)) (dR (hS _ _ h2)) F.slot_tuple_eq
    (aK F.slot_tuple_eq (dR (hS _ _ h1)) F.entry_tuple_eq (tZ (ih _ rfl A.in1) h (hS _ _ h1) (hS _ _ h2) r1 r2 hS (by rw[<- Nat.add_assoc,Nat.add_right_comm] at hu;exact hu) ⟨_,rfl,(λ e=>nomatch e),bD q⟩) (F.args_tuple_eq_2 _ _)) (aj (ay _ _) hu)))
theorem GF (n:Nat) {A:Around}:wj W S H pr wd s n A:=by
 induction n generalizing A with
 |zero=>exact E0 λ m (e:0=m+1)=>nomatch e
 |succ n ih=>exact E0 λ m e A=>by cases e;exact ih
end
mutual
noncomputable def AT:HV->Nat
 | .t xs=>tY xs+1
 |_=>1
noncomputable def tY:List HV->Nat
 |[]=>0
 |x::xs=>AT x+tY xs
end
inductive ι1:Nat->HV->Prop
 |int {n:Nat} {a:Int}:ι1 n (.int a)
 |str {n a:Nat}:ι1 n (.str a)
 |t {n:Nat} {xs:List HV}:gK n xs=true->ι1 (n+1) (.t xs)
theorem ι1.of {n:Nat} {x:HV} (h:dD n x=true):ι1 n x:=by
 cases x with
 |int a=>exact .int
 |str a=>exact .str
 |t xs=>
  induction n using Jq with
  |zero=>exact qU h
  |succ n=>exact .t h
 |_=>rcases n with _|_<;>exact qU h
theorem nE {M:Nat->HV->Prop} {L:Nat->List HV->Prop} (h1:∀n a,M n (.int a)) (h2:∀n a,M n (.str a)) (h3:∀n xs,L n xs->M (n+1) (.t xs)) (l0:∀n,L n []) (l1:∀n x xs,M n x->L n xs->L n (x::xs)):
  ∀n,(∀{x},dD n x=true->M n x)/\(∀{xs},gK n xs=true->L n xs):=by
 have ls:∀n,(∀{x},dD n x=true->M n x)->∀{xs},gK n xs=true->L n xs:=by
  intro n ih xs
  induction xs with
  |nil=>exact λ U=>l0 n
  |cons x xs ihl=>exact λ h=>let h:=(eN _ _).mp h;l1 n x xs (ih h.1) (ihl h.2)
 have sc:∀n,(∀m,n=m+1->∀{xs},gK m xs=true->L m xs)->∀{x},dD n x=true->M n x:=by
  intro n hn x h;have c:=ι1.of h;clear h
  induction c with
  |int=>exact h1 ..
  |str=>exact h2 ..
  |t h=>exact h3 _ _ (hn _ rfl h)
 intro n
 induction n with
 |zero=>exact⟨sc 0 λ m (e:0=m+1)=>(nomatch e),ls 0 (sc 0 λ m (e:0=m+1)=>(nomatch e))⟩
 |succ n ih=>
  have k:∀{x},dD (n+1) x=true->M (n+1) x:=sc _ λ m e=>by cases e;exact ih.2
  exact⟨k,ls _ k⟩
section
variable{W:Wd} {S:PH} {H:Io}
noncomputable abbrev pE (W:Wd) (S:PH) (H:Io) (n:Nat) (A:Around):Prop:=∀{E:Value->Shared->Prop} {x:HV} {u:Value} {s:Shared} {Q:Int->Shared->Prop},A.units+n<cLine->dD n x=true->VR W S H x u->zm S s->Q (dp W x) {s with toks:=s.toks+AT x}->
   wpAny (model W.prog W.w) A (pyHash u) Q E s
theorem wN {n:Nat} {A:Around} {E:Value->Shared->Prop} {K:Array Int->Shared->Prop} {f:Value->Array Int->Sem (ForInStep (Array Int))} (hf:∀v b,f v b=(do
   let h <- pyHash v
   pure (ForInStep.yield (b.push h)))) (ih:pE W S H n A) (hu:A.units+n<cLine) {xs:List HV} {vs:List Value} (r:L2 (VR W S H) xs vs):
  ∀{b:Array Int} {s:Shared},gK n xs=true->zm S s->(∀b',b'.toList=b.toList++dp.hs W xs->∀t,t=s.toks+tY xs->K b' {s with toks:=t})->wpAny (model W.prog W.w) A (forIn vs b f) K E s:=by
 induction r with
 |nil=>exact λ {b s} U U q=>ag (q b (List.append_nil _).symm s.toks rfl)
 |@cons x v xs vs a _ ihl=>
  intro b s h hS q;have h:=(eN _ _).mp h;rw[List.forIn_cons,hf];exact wb (wb (ih hu h.1 a hS (ag (ihl (s:={s with toks:=s.toks+AT x}) h.2 hS λ b' e t e'=>q b' (e.trans (by rw[Array.toList_push,List.append_assoc];rfl)) t (e'.trans (Nat.add_assoc ..))))))
theorem yi {n:Nat} {A:Around} (ih:∀m,n=m+1->∀A,pE W S H m A):pE W S H n A:=by
 intro E x u s Q hu h hx hS q;have c:=ι1.of h;clear h
 induction c with
 |int=>obtain⟨t,rfl⟩:=hx;exact wpAny_pyHash_int q
 |str=>obtain⟨_,t,rfl⟩:=hx;exact wpAny_pyHash_str q
 |@t n xs h=>
  refine iR hx λ a vs n1 rq1 h1 r1=>?_;subst rq1;have hg:=hS _ _ h1;have hT:=dR hg
  first|unfold pyHashByItsType|skip
  refine wb (wpAny_cRoomFor_or (.inr (aj (ay _ _) hu)) (wb (bL hT F.slot_tuple_hash.lookup ?_)));refine wn (by rw[beq_builtin_none];exact aQ) (wb (bL hT F.slot_tuple_hash.lookup ?_))
  refine wb (wpAny_callSpecialIfBoundUnlessNone?_slot hT F.slot_tuple_hash (aK F.slot_tuple_hash hT F.entry_tuple_hash ?_ (F.args_tuple_hash_1 _)));show wpAny _ _ (Builtin.Tuple.tupleItemsOf (.ref a)>>=_) _ _ s;refine wb (fR hg (wb ?_));rw[<- Array.forIn_toList];refine wN (A:=A.in1) (λ U U=>rfl) (ih _ rfl A.in1) (by rw[<- Nat.add_assoc,Nat.add_right_comm] at hu;exact hu) r1.l h hS λ b e t e'=>?_
  show wpAny _ _ (retInt (Builtin.Tuple.tupleHashOf b.toList)) _ _ _;rw[show b.toList=dp.hs W xs from e,e'];refine wb (m:=mkInt _) (wpAny_mkInt (ag ⟨_,rfl,?_⟩));show wpAny _ _ (if(decide (-(2:Int)^63<=Builtin.Tuple.tupleHashOf (dp.hs W xs))&&decide (Builtin.Tuple.tupleHashOf (dp.hs W xs)<2^63))=true then _ else _) Q E _
  have q':Q (reduceHash (Builtin.Tuple.tupleHashOf (dp.hs W xs))) {s with toks:=s.toks+(tY xs+1)}:=q;unfold reduceHash at q';by_cases hr:(decide (-(2:Int)^63<=Builtin.Tuple.tupleHashOf (dp.hs W xs))&&decide (Builtin.Tuple.tupleHashOf (dp.hs W xs)<2^63))=true
  ·rw[if_pos hr] at q' ⊢;exact ag q'
  ·rw[if_neg hr] at q' ⊢;exact af (bO (ag q'))
theorem qz (n:Nat) {A:Around}:pE W S H n A:=by
 induction n generalizing A with
 |zero=>exact yi λ m (e:0=m+1)=>nomatch e
 |succ n ih=>exact yi λ m e A=>by cases e;exact ih
noncomputable abbrev oX (W:Wd) (S:PH) (H:Io) (n:Nat) (A:Around):Prop:=∀{E:Value->Shared->Prop} {x:HV} {u:Value} {s:Shared} {Q:Bool->Shared->Prop},dD n x=true->VR W S H x u->zm S s->Q true s->
   wpAny (model W.prog W.w) A (eqIsQuiet n u) Q E s
theorem tP {n:Nat} {A:Around} (ih:∀m,n=m+1->oX W S H m A):oX W S H n A:=by
 intro E x u s Q h hx hS q;have c:=ι1.of h;clear h
 induction c with
 |int=>obtain⟨t,rfl⟩:=hx;rw[eqIsQuiet_byValue _ rfl];exact ag q
 |str=>obtain⟨_,t,rfl⟩:=hx;rw[eqIsQuiet_byValue _ rfl];exact ag q
 |@t n xs h=>
  refine iR hx λ a vs n1 rq1 h1 r1=>?_;subst rq1;have hg:=hS _ _ h1;have hT:=dR hg;unfold eqIsQuiet;refine wb (bL hT F.slot_tuple_eq.lookup ?_);refine wb (bB hT isSubtype_tuple_tuple (wn (by decide) (wb (cN hg rfl (wb ?_)))))
  rw[<- Array.forIn_toList];have loop:∀{xs vs},L2 (VR W S H) xs vs->gK n xs=true->∀{K:Option Bool×Unit->Shared->Prop} {f:Value->Option Bool×Unit->Sem (ForInStep (Option Bool×Unit))},(∀v,f v (none,())=(do
    let b <- eqIsQuiet n v
    if(!b)=true then pure (ForInStep.done (some false,())) else pure (ForInStep.yield (none,()))))->K (none,()) s->wpAny (model W.prog W.w) A (forIn vs (none,()) f) K E s:=by
   intro xs vs r
   induction r with
   |nil=>exact λ U {_ _} U q=>ag q
   |cons a _ ihl=>
    intro h K f hf q;have h:=(eN _ _).mp h;rw[List.forIn_cons,hf];exact wb (wb (ih _ rfl h.1 a hS (ag (ihl h.2 hf q))))
  exact loop r1.l h (λ U=>rfl) (ag q)
theorem Cb (n:Nat) {A:Around}:oX W S H n A:=by
 induction n with
 |zero=>exact tP λ m (e:0=m+1)=>nomatch e
 |succ n ih=>exact tP λ m e=>by cases e;exact ih
end
section
theorem uF {n:Nat} {x y:HV} {b:Bool} (h:cU n x y=some b):cU n y x=some b:=
 (lq (M:=λ n x y b=>cU n y x=some b) (L:=λ n xs ys b=>ic n ys xs=some b) (λ n=>by rcases n with _|_<;>rfl) (λ n a b=>by rw[show cU n (.int b) (.int a)=some (decide (b=a)) by rcases n with _|_<;>rfl];exact am some (fD.mpr (by simp[eq_comm])))
  (λ n a b=>by rw[show cU n (.str b) (.str a)=some (Nat.beq b a) by rcases n with _|_<;>rfl];exact am some (fD.mpr ⟨λ e=>by rw[Nat.eq_of_beq_eq_true e];exact Nat.beq_refl _,λ e=>by rw[Nat.eq_of_beq_eq_true e];exact Nat.beq_refl _⟩))
  (λ U U U U h=>h) (λ U=>rfl) (λ U U U=>rfl) (λ U U U=>rfl)
  (λ n x y xs ys h=>by show(match cU n y x with|some true=>ic n ys xs|r=>r)=_;rw[h]) (λ n x y xs ys b h k=>by show(match cU n y x with|some true=>ic n ys xs|r=>r)=_;rw[h];exact k) n).1 h
theorem qJ {n:Nat} {x:HV} (h:dD n x=true):cU n x x=some true:=
 (nE (M:=λ n x=>cU n x x=some true) (L:=λ n xs=>ic n xs xs=some true) (λ n a=>by rw[show cU n (.int a) (.int a)=some (decide (a=a)) by rcases n with _|_<;>rfl,decide_eq_true rfl]) (λ n a=>by rw[show cU n (.str a) (.str a)=some (Nat.beq a a) by rcases n with _|_<;>rfl];exact am some (Nat.beq_refl _))
  (λ U U h=>h) (λ U=>rfl) (λ n x xs h k=>by show(match cU n x x with|some true=>ic n xs xs|r=>r)=_;rw[h];exact k) n).1 h
theorem ly {x y:HV}:veq x y=true↔cU 8 x y=some true:=by
 unfold veq
 induction cU 8 x y using Jn with
 |none=>exact⟨λ h=>(aQ h).elim,dX⟩
 |some b=>
  cases b
  ·exact⟨λ h=>(aQ h).elim,λ h=>(nomatch h)⟩
  ·exact⟨λ U=>rfl,λ U=>rfl⟩
noncomputable def D8 (o:Obj):Bool:=Nat.beq o.data.ctorIdx 2
noncomputable def ek (S:PH):PH:=λ a=>(S a).filter D8
theorem rZ (S:PH):cY (ek S) S:=λ U U e=>(Option.filter_eq_some_iff.mp e).1
theorem qj {S:PH} {a:Addr} {vs:List Value} {n:Nat} (h:S a=some (dU vs n)):ek S a=some (dU vs n):=am (Option.filter D8) h
theorem mW {S:PH} {h h':Heap} {d:Addr} {o:Obj} {es ep} (k:∀b o,ek S b=some o->h.get? b=some o) (ho:h.get? d=some o) (hd:o.data= .dict es ep) (hs:Heap.SameBut d h h'):
  ∀b o,ek S b=some o->h'.get? b=some o:=λ b x e=>(hs.2 b λ q=>by
 have i:=(Option.filter_eq_some_iff.mp e).2;have e':=k b x e;rw[q,ho] at e';rw[<- Option.some.inj e',D8,hd] at i;exact qU i).trans (k b x e)
theorem VR.hashy_seq {W:Wd} {S:PH} {H:Io} {n:Nat} {x:HV} {v:Value} (h:dD n x=true) (r:VR W S H x v):VR W (ek S) [] x v:=
 (nE (M:=λ U x=>∀v,VR W S H x v->VR W (ek S) [] x v) (L:=λ U xs=>∀vs,bW W S H xs vs->bW W (ek S) [] xs vs) (λ U U U h=>h) (λ U U U h=>h)
  (by intro _ _ h _ hq1;refine iR hq1 λ a vs m e hs r=>?_;exact⟨a,vs,m,e,qj hs,h vs r⟩) (λ U vs r=>by rw[r.nil];trivial) (λ U U U h k vs r=>by
   refine dL r.cons λ v us rq1 a b=>?_;subst rq1;exact⟨h v a,k us b⟩) n).1 h v r
open Classical in
noncomputable def CC (W:Wd) (S:PH) (L:List HV) (hL:∀x∈L,∀y∈L,cU 8 x y=some (decide (x=y))):@HeapKind W.prog W.w HV (λ a b=>Classical.propDecidable (a=b)):=
 letI:DecidableEq HV:=λ a b=>Classical.propDecidable (a=b)
 {is:=λ h x a=>(∀b o,ek S b=some o->h.get? b=some o)/\x∈L/\dD 8 x=true/\VR W (ek S) [] x (.ref a)
  hash:=dp W
  draws:=AT
  room:=λ A=>A.units+8<cLine
  inj:=λ {h a x y} hx hy=>by
   have e:=hL x hx.2.1 y hy.2.1;have:=jk e hx.2.2.2 hy.2.2.2;exact bq this
  keeps:=λ hx ho hd hs=>⟨mW hx.1 ho hd hs,hx.2⟩
  pyHash:=λ {A E s k a Q} hu hk h=>qz 8 hu hk.2.2.1 hk.2.2.2 hk.1 h
  eqBool:=λ {A E s x y a b Q} hu hx hy h=>GF 8 (hL x hx.2.1 y hy.2.1) hx.2.2.2 hy.2.2.2 hx.1 hu h
  quiet:=λ {A E s k a Q} hk h=>Cb 8 hk.2.2.1 hk.2.2.2 hk.1 h}
end
noncomputable def gw (k:HV) (kvs:List (HV×HV)):Option Nat:=kvs.findIdx? λ p=>veq p.1 k
section
variable{W:Wd} {S:PH} {H:Io} {s:Shared} {A:Around} {E:Value->Shared->Prop}
theorem iJ.length {kvs:List (HV×HV)} {es:List DictEntry} (h:iJ W S H kvs es):kvs.length=es.length:=h.l.length
theorem iJ.get {kvs:List (HV×HV)} {es:List DictEntry} {i:Nat} {p:HV×HV} (h:iJ W S H kvs es) (e:kvs[i]? =some p):∃e,es[i]? =some e/\VR W S H p.1 e.key/\VR W S H p.2 e.val/\e.hash=dp W p.1:=h.l.get e
theorem iJ.mem {kvs:List (HV×HV)} {es:List DictEntry} (h:iJ W S H kvs es):∀e∈es,∃p∈kvs,VR W S H p.1 e.key/\VR W S H p.2 e.val/\e.hash=dp W p.1:=h.l.mem
theorem iJ.idx {f:DictEntry->Bool} {g:HV×HV->Bool} {kvs:List (HV×HV)} {es:List DictEntry} (h:iJ W S H kvs es) (k:∀p∈kvs,∀e,VR W S H p.1 e.key->f e=g p):es.findIdx? f=kvs.findIdx? g:=h.l.idx λ x hx y r=>k x hx y r.1
theorem zv (a b:Int):veq (.int a) (.int b)=decide (a=b):=by
 show(match some (decide (a=b)) with|some true=>true|_=>false)=_;cases decide (a=b)<;>rfl
theorem ph (a b:Nat):veq (.str a) (.str b)=Nat.beq a b:=by
 show(match some (Nat.beq a b) with|some true=>true|_=>false)=_;cases Nat.beq a b<;>rfl
noncomputable def xd (v:Value):Addr:=if h:v.ctorIdx=10 then Value.ref.elim (motive:=λ U=>Addr) v h λ a=>a else 0
noncomputable def yh (kvs:List (HV×HV)) (es:List DictEntry):List (HV×Addr×Value):=kvs.zipWith (λ p e=>(p.1,xd e.key,e.val)) es
theorem oa {kvs:List (HV×HV)} {es:List DictEntry} (h:L2 (DR W S H) kvs es):(yh kvs es).map (·.1)=kvs.map (·.1):=by
 induction h with
 |nil=>rfl
 |cons _ _ ih=>exact am (List.cons _) ih
theorem CM {x:HV} (h:isInt x=true):∃a,x= .int a:=HV.int.elim x (gx h) λ a=>⟨a,rfl⟩
theorem tu {x:HV} (h:isStr x=true):∃a,x= .str a:=HV.str.elim x (gx h) λ a=>⟨a,rfl⟩
inductive KO (kvs:List (HV×HV)):HV->Prop
 |int {i:Int}:(∀p∈kvs,∃a,p.1= .int a)->KO kvs (.int i)
 |str {i:Nat}:(∀p∈kvs,∃a,p.1= .str a)->KO kvs (.str i)
 |t {xs:List HV}:dD 8 (.t xs)=true->(∀p∈kvs,(cU 8 p.1 (.t xs)).isSome=true)->KO kvs (.t xs)
theorem KO.of {k:HV} {kvs:List (HV×HV)} (h:bp k kvs=true):KO kvs k:=by
 cases k with
 |int i=>exact .int λ p hp=>CM (aM.mp h p hp)
 |str i=>exact .str λ p hp=>tu (aM.mp h p hp)
 |t xs=>exact .t (aD.mp h).1 λ p hp=>aM.mp (aD.mp h).2 p hp
 |_=>exact qU h
theorem sY {n:Nat} {x:HV} {ys:List HV} (h:(cU n x (.t ys)).isSome=true):∃xs,x= .t xs:=by
 refine ce (bo.mp h) λ b h=>?_;have k:∀y,C1 n x y b->y= .t ys->∃xs,x= .t xs:=λ y h=>by
  induction h with
  |t=>exact λ U=>⟨_,rfl⟩
  |_=>exact λ e=>HV.noConfusion e
 exact k _ (C1.of h) rfl
theorem FU {R:HV->HV->Prop} (sy:∀x y,R x y->R y x) {l:List HV} (pw:l.Pairwise R):(∀x∈l,R x x)->∀x∈l,∀y∈l,R x y:=by
 induction pw with
 |nil=>exact λ U U h=>nomatch h
 |@cons z l h _ ih=>
  intro rf x hx y hy;have ih:=ih λ x hx=>rf x (.tail _ hx);rcases aB.mp hx with e|hx<;>rcases aB.mp hy with e'|hy
  ·rw[e,e'];exact rf _ (.head _)
  ·rw[e];exact h y hy
  ·rw[e'];exact sy _ _ (h x hx)
  ·exact ih x hx y hy
theorem DL {l:List HV} (ha:∀x∈l,dD 8 x=true) (pw:l.Pairwise λ x y=>(cU 8 x y).isSome=true):∀x∈l,∀y∈l,cU 8 x y=some (@decide (x=y) (Classical.propDecidable (x=y))):=λ x hx y hy=>by
 have h:=FU (R:=λ x y=>(cU 8 x y).isSome=true) (λ x y h=>by refine ce (bo.mp h) λ b h=>?_;rw[uF h];rfl) pw (λ x hx=>by rw[qJ (ha x hx)];rfl) x hx y hy
 refine ce (bo.mp h) λ b h=>?_;rw[h];exact am some (fD.mpr ((zR h).trans (@decide_eq_true_iff _ (Classical.propDecidable _)).symm))
theorem AL {k:HV} {kvs:List (HV×HV)} {j:Nat} (hk:dD 8 k=true) (pw:(kvs.map (·.1)).Pairwise λ x y=>cU 8 x y=some false) (h:(kvs.map (·.1))[j]? =some k):gw k kvs=some j:=by
 have e:gw k kvs=(kvs.map (·.1)).findIdx? λ x=>veq x k:=by rw[List.findIdx?_map];rfl
 rw[e];refine ce (ao.mp h) λ hj hx=>?_;refine List.findIdx?_eq_some_iff_getElem.mpr ⟨hj,hx▸ly.mpr (hx▸qJ hk),λ i hi q=>?_⟩;have:=List.pairwise_iff_getElem.mp pw i j (az hi hj) hj hi;rw[hx,ly.mp q] at this;exact nomatch this
theorem Av {k:HV} {kvs:List (HV×HV)} (h:∀j:Nat,(kvs.map (·.1))[j]? ≠some k):gw k kvs=none:=
 List.findIdx?_eq_none_iff.mpr λ p hp=>zg.mpr λ e=>by
  refine ce (ba.mp (bI (f:=(·.1)) hp)) λ j hj=>?_;exact h j (o8 (ly.mp e)▸hj)
theorem ub {Q:Option Nat->Shared->Prop} {d:Addr} {key:Value} {k:HV} {kvs:List (HV×HV)} {es:List DictEntry} {n:Nat} (hu:A.units+8<cLine) (hk:bp k kvs=true) (vk:VR W S H k key) (hS:zm S s)
  (ho:s.heap.get? d=some (dJ es n)) (dr:iJ W S H kvs es) (pw:kvs.Pairwise λ x y=>cU 8 x.1 y.1=some false) (ha:(kvs.all λ x=>dD 8 x.1)=true) (q:Q (gw k kvs) s):
  wpAny (model W.prog W.w) A (dictFind d key (dp W k)) Q E s:=by
 have c:=KO.of hk;clear hk;cases c with
 |@int i hk=>
  obtain⟨t,rfl⟩:=vk;refine wpAny_dictFind_of (knd:=intKind W.prog W.w) (k:=i) (beq_self_eq_true i) ho rfl (λ e he=>?_) ?_
  ·refine Bx (dr.mem e (Array.mem_toList_iff.mpr he)) λ p hp r U hh=>?_;refine ce (hk p hp) λ a hpa=>?_;rw[hpa] at r hh;exact⟨a,by rw[r.choose_spec];exact beq_self_eq_true a,hh⟩
  ·rw[List.findIdx?_toArray,dr.idx (g:=λ p=>veq p.1 (.int i)) λ p hp e r=>?_]
   ·exact q
   ·refine ce (hk p hp) λ a hpa=>?_;rw[hpa] at r ⊢;rw[r.choose_spec,zv];exact fD.mpr (beq_iff_eq.trans decide_eq_true_iff.symm)
 |@str i hk=>
  obtain⟨hl,t,rfl⟩:=vk;refine wpAny_dictFind_of (knd:=PySem.strKind W.prog W.w) (k:=W.str i) (beq_self_eq_true (W.str i)) ho rfl (λ e he=>?_) ?_
  ·refine Bx (dr.mem e (Array.mem_toList_iff.mpr he)) λ p hp r U hh=>?_;obtain⟨a,hpa⟩:=hk p hp;rw[hpa] at r hh;exact⟨W.str a,by rw[r.2.choose_spec];exact beq_self_eq_true (W.str a),hh⟩
  ·rw[List.findIdx?_toArray,dr.idx (g:=λ p=>veq p.1 (.str i)) λ p hp e r=>?_]
   ·exact q
   ·refine ce (hk p hp) λ a hpa=>?_;rw[hpa] at r ⊢;rw[r.2.choose_spec,ph,<- um W r.1 hl];exact fD.mpr (beq_iff_eq.trans decide_eq_true_iff.symm)
 |@t ys hk1 hk2=>
  have dl:=dr.l;have vk0:=vk;refine iR vk λ a vs m rq1 hs r=>?_;subst rq1;have pwk:(kvs.map (·.1)).Pairwise λ x y=>cU 8 x y=some false:=List.pairwise_map.mpr pw;have hL:=DL (l:= .t ys::kvs.map (·.1)) (λ x hx=>(aB.mp hx).elim (λ e=>e▸hk1) λ hx=>by refine aU (cC.mp hx) λ p hp rq1=>?_;subst rq1;exact aM.mp ha p hp)
   (.cons (λ x hx=>by refine aU (cC.mp hx) λ p hp rq1=>?_;subst rq1;obtain⟨b,hb⟩:=bo.mp (hk2 p hp);rw[uF hb];rfl) (pwk.imp λ e=>by rw[e];rfl))
  have hsq:∀b o,ek S b=some o->s.heap.get? b=some o:=λ b o e=>hS b o (rZ S b o e);have hrow:∀{kvs:List (HV×HV)} {es:List DictEntry},L2 (DR W S H) kvs es->(∀p∈kvs,∃xs,p.1= .t xs)->es=(yh kvs es).map (λ z=>⟨dp W z.1, .ref z.2.1,z.2.2⟩)/\∀z∈yh kvs es,∃p∈kvs,z.1=p.1/\VR W S H p.1 (.ref z.2.1):=by
   intro kvs es h
   induction h with
   |nil=>exact λ U=>⟨rfl,λ U h=>ii h⟩
   |@cons p e _ _ h _ ih=>
    intro ht;have ih:=ih λ p hp=>ht p (.tail _ hp);refine ce (ht p (.head _)) λ xs hx=>?_;have hr:e.key= .ref (xd e.key):=by
     have r:=h.1;rw[hx] at r;rw[r.choose_spec.choose_spec.choose_spec.1];rfl
    refine⟨congr (am List.cons ?_) ih.1,λ z hz=>(aB.mp hz).elim (λ e'=>⟨p, .head _,by rw[e'],by rw[e',<- hr];exact h.1⟩) λ hz=>(ih.2 z hz).imp λ U h=>⟨.tail _ h.1,h.2⟩⟩
    show e=⟨dp W p.1, .ref (xd e.key),e.val⟩;rw[<- hr,<- h.2.2]
  refine cO (hrow dl λ p hp=>sY (hk2 p hp)) λ h1 h2=>?_;have hz:∀j:Nat,((yh kvs es)[j]?).map (·.1)=(kvs.map (·.1))[j]? :=λ j=>by rw[<- oa dl,List.getElem?_map]
  refine@wpAny_dictFind_heap W.prog W.w HV (λ a b=>Classical.propDecidable (a=b)) (CC W S _ hL) A E s d a _ es.toArray n (yh kvs es) (.t ys) Q hu ⟨hsq, .head _,hk1,VR.hashy_seq hk1 vk0⟩ ho rfl h1 ?_ ?_ ?_ ?_
  ·intro z hz;refine gn (h2 z hz) λ p hp e r=>?_;rw[e];exact⟨hsq, .tail _ (bI hp),aM.mp ha p hp,VR.hashy_seq (aM.mp ha p hp) r⟩
  ·rw[oa dl];refine pwk.imp_of_mem λ {x y} hx hy h e=>?_;rw[e] at h;exact nomatch rF h
  ·intro hno;rw[<- Av (kvs:=kvs) (k:= .t ys) λ j e=>?_]
   ·exact q
   ·obtain⟨⟨_,p⟩,hp,rfl⟩:=aZ.mp ((hz j).trans e);exact hno j p hp
  ·intro j p hj;rw[<- AL (kvs:=kvs) hk1 pwk (by rw[<- hz,hj];rfl)]
   exact q
end
noncomputable def Ic (W:Wd) (S:PH) (H:Io):Option HV->Option Value->Prop
 |none,none=>True
 |some v,some u=>VR W S H v u
 |_,_=>False
theorem ny {k x v:HV} {r:List (HV×HV)}:gw k ((x,v)::r)=if veq x k=true then some 0 else(gw k r).map (·+1):=List.findIdx?_cons ..
theorem nF (k:HV) (kvs:List (HV×HV)):bA k kvs=(gw k kvs).bind λ j=>(kvs[j]?).map (·.2):=by
 induction kvs with
 |nil=>rfl
 |cons p r ih=>
  obtain⟨x,v⟩:=p;rw[ny,iF]
  induction veq x k using Jp with
  |true=>rfl
  |false=>
   rw[if_neg Bool.false_ne_true,if_neg Bool.false_ne_true,ih];cases gw k r<;>rfl
theorem qT (k v:HV) (kvs:List (HV×HV)):dC k v kvs=match gw k kvs with
  |some j=>kvs.modify j λ p=>(p.1,v)
  |none=>kvs++[(k,v)]:=by
 induction kvs with
 |nil=>rfl
 |cons p r ih=>
  obtain⟨x,u⟩:=p;rw[ny,kh]
  induction veq x k using Jp with
  |true=>rfl
  |false=>
   rw[if_neg Bool.false_ne_true,if_neg Bool.false_ne_true,ih];cases gw k r<;>rfl
section
variable{W:Wd} {T S:PH} {H:Io} {V:aF} {s:Shared} {A:Around} {E:Value->Shared->Prop}
theorem L2.modify {X Z:Type} {R:X->Z->Prop} {f:X->X} {g:Z->Z} (k:∀x y,R x y->R (f x) (g y)) {xs:List X} {ys:List Z} (j:Nat) (h:L2 R xs ys):L2 R (xs.modify j f) (ys.modify j g):=by
 induction h generalizing j with
 |nil=>rcases j with _|_<;>exact .nil
 |cons a r ih=>
  induction j using Jq with
  |zero=>exact .cons (k _ _ a) r
  |succ j=>exact .cons a (ih j)
theorem iJ.modify {v:HV} {u:Value} (hv:VR W S H v u) {kvs:List (HV×HV)} {es:List DictEntry} (j:Nat) (h:iJ W S H kvs es):iJ W S H (kvs.modify j λ p=>(p.1,v)) (es.modify j λ e=>{e with val:=u}):=
 .of (h.l.modify (λ U U a=>⟨a.1,hv,a.2.2⟩) j)
theorem iJ.snoc {p:HV×HV} {e:DictEntry} (h:VR W S H p.1 e.key/\VR W S H p.2 e.val/\e.hash=dp W p.1) {kvs:List (HV×HV)} {es:List DictEntry} (k:iJ W S H kvs es):iJ W S H (kvs++[p]) (es++[e]):= .of (k.l.append (.cons h .nil))
theorem gA (v:HV) (kvs:List (HV×HV)) (j:Nat):(kvs.modify j λ p=>(p.1,v)).map (·.1)=kvs.map (·.1):=by
 induction kvs generalizing j with
 |nil=>rcases j with _|_<;>rfl
 |cons p ps ih=>
  induction j using Jq with
  |zero=>rfl
  |succ j=>exact am (List.cons _) (ih j)
theorem D0 {kvs kvs':List (HV×HV)} (e:kvs'.map (·.1)=kvs.map (·.1)) (h:kvs.Pairwise λ x y=>cU 8 x.1 y.1=some false):kvs'.Pairwise λ x y=>cU 8 x.1 y.1=some false:=by
 have:=List.pairwise_map (f:=λ x:HV×HV=>x.1) (R:=λ x y=>cU 8 x y=some false)|>.mpr h;rw[<- e] at this;exact List.pairwise_map.mp this
theorem zD {kvs kvs':List (HV×HV)} (e:kvs'.map (·.1)=kvs.map (·.1)) (h:(kvs.all λ x=>dD 8 x.1)=true):(kvs'.all λ x=>dD 8 x.1)=true:=by
 have a:((kvs.map (·.1)).all λ x=>dD 8 x)=true:=by rw[List.all_map];exact h
 rw[<- e,List.all_map] at a;exact a
theorem eK {k:HV} {kvs:List (HV×HV)} (h:bp k kvs=true):dD 8 k=true/\∀p∈kvs,(cU 8 p.1 k).isSome=true:=by
 have c:=KO.of h;clear h;cases c with
 |int h=>exact⟨rfl,λ p hp=>by obtain⟨a,e⟩:=h p hp;rw[e];rfl⟩
 |str h=>exact⟨rfl,λ p hp=>by obtain⟨a,e⟩:=h p hp;rw[e];rfl⟩
 |t h1 h2=>exact⟨h1,h2⟩
theorem wt {k:HV} {kvs:List (HV×HV)} (h:bp k kvs=true) (hn:gw k kvs=none):∀p∈kvs,cU 8 p.1 k=some false:=λ p hp=>by
 refine ce (bo.mp ((eK h).2 p hp)) λ b e=>?_;have h2:=List.findIdx?_eq_none_iff.mp hn p hp
 induction b using Jp with
 |false=>exact e
 |true=>rw[ly.mpr e] at h2;exact rO h2
theorem yH {es:List DictEntry} {n:Nat} {e:DictEntry}:Obj.mapDictKeys (·.push e) (dJ es n)=dJ (es++[e]) (n+1):=am (λ a=>({cls:= .type "dict",data:= .dict a (n+1)}:Obj)) (List.push_toArray ..)
theorem wI {vs:List Value} {n:Nat} {v:Value}:Obj.mapSeq (·.push v) (dY vs n)=dY (vs++[v]) (n+1):=by
 show Obj.mk _ _ (Data.seq (vs.toArray.push v) _) _=_;rw[List.push_toArray,if_neg λ e=>Nat.succ_ne_self vs.toArray.size ((Array.size_push v).symm.trans (eq_of_beq e))]
theorem EX {es:List DictEntry} {n j:Nat} {f:DictEntry->DictEntry}:Obj.mapDict (·.modify j f) (dJ es n)=dJ (es.modify j f) n:=am (λ a=>({cls:= .type "dict",data:= .dict a n}:Obj)) (List.modify_toArray ..)
theorem OR.putD {p:Addr×Nat} {kvs:List (HV×HV)} {es:List DictEntry} {n:Nat} {k v:HV} {key u:Value} {o':Option Obj} (dr:iJ W S H kvs es) (hn:n=p.2+kvs.length)
  (pw:kvs.Pairwise λ x y=>cU 8 x.1 y.1=some false) (ha:(kvs.all λ x=>dD 8 x.1)=true) (hk:bp k kvs=true) (vk:VR W S H k key) (vv:VR W S H v u)
  (e:o'=match gw k kvs with
   |some j=>some (dJ (es.modify j λ e=>{e with val:=u}) n)
   |none=>some (dJ (es++[⟨dp W k,key,u⟩]) (n+1))):OR W S H (.dict (dC k v kvs)) p o':=by
 rw[qT]
 induction h:gw k kvs using Jn with
 |some j=>
  rw[h] at e;exact⟨_,_,e,dr.modify vv j,by rw[hn,List.length_modify],D0 (gA v kvs j) pw,zD (gA v kvs j) ha⟩
 |none=>
  rw[h] at e;refine⟨_,_,e,dr.snoc ⟨vk,vv,rfl⟩,by rw[hn,List.length_append];rfl,?_,?_⟩
  ·rw[List.pairwise_append];exact⟨pw,List.pairwise_singleton ..,λ a ha b hb=>by rw[List.mem_singleton.mp hb];exact wt hk h a ha⟩
  ·rw[List.all_append,ha,List.all_cons,(eK hk).1];rfl
theorem Cs {Q:Option Value->Shared->Prop} {i:Nat} {p:Addr×Nat} {kvs:List (HV×HV)} {k:HV} {key:Value} (st:St W T S H V s) (hi:V[i]? =some (.dict kvs)) (hp:H[i]? =some p)
  (hu:A.units+8<cLine) (hk:bp k kvs=true) (vk:VR W S H k key) (q:∀r tk,Ic W S H (bA k kvs) r->Q r {s with toks:=tk}):wpAny (model W.prog W.w) A (dictGet p.1 key) Q E s:=by
 obtain⟨es,n,ho,dr,hn,pw,ha⟩:=st.obj i _ p hi hp;refine av (wb (qz 8 hu (eK hk).1 vk st.S_ok (wb (ub (s:={s with toks:=_}) hu hk vk st.S_ok ho dr pw ha ?_))));have e:=nF k kvs
 induction h:gw k kvs using Jn with
 |none=>rw[h] at e;exact ag (q none _ (by rw[e];exact trivial))
 |some j=>
  rw[h] at e;refine wb (wpAny_dictEntries (s:={s with toks:=_}) ho rfl (ag (q _ _ ?_)));refine ce (List.findIdx?_eq_some_iff_getElem.mp h) λ hj U=>?_;have hj':kvs[j]? =some kvs[j]:=ak hj;refine Bx (dr.get hj') λ en he U r2 U=>?_;rw[e,Option.bind_some,hj',List.getElem?_toArray,he];exact r2
theorem mL:lim+1<=sizeLine:=by rw[sizeLine_eq];unfold lim;lia
theorem Hn {Q:Unit->Shared->Prop} {i:Nat} {p:Addr×Nat} {kvs:List (HV×HV)} {k v:HV} {key u:Value} (st:St W T S H V s) (hi:V[i]? =some (.dict kvs)) (hp:H[i]? =some p)
  (hu:A.units+8<cLine) (hk:bp k kvs=true) (vk:VR W S H k key) (vv:VR W S H v u) (hl:kvs.length<lim) (q:∀s',St W T S H (V.set i (.dict (dC k v kvs))) s'->Q () s'):
  wpAny (model W.prog W.w) A (dictSet p.1 key u) Q E s:=by
 refine Eg (st.obj i _ p hi hp) λ es n ho dr hn pw ha=>?_;refine av (wb (qz 8 hu (eK hk).1 vk st.S_ok ?_));refine av (wb (ub (s:={s with toks:=_}) hu hk vk st.S_ok ho dr pw ha ?_))
 induction h:gw k kvs using Jn with
 |none=>
  refine wb (bO (wpAny_updateDictKeys (s:={s with toks:=_}) ho rfl (q _ ?_) ?_))
  ·refine st.turn hp (Kp.update s p.1 _ _) (λ b e=> .inl e) (OR.putD dr hn pw ha hk vk vv ?_);rw[h];rw[Heap.get?_update_self (Obj.mapDictKeys (·.push ⟨dp W k,key,u⟩)) ho rfl,yH]
  ·have:=mL;rw[List.size_toArray,<- dr.length];lia
 |some j=>
  refine wb (bO (wb (wpAny_updateDict (s:={s with toks:=_}) ho rfl (wpAny_point (q _ ?_)))));refine st.turn hp (Kp.update s p.1 _ _) (λ b e=> .inl e) (OR.putD dr hn pw ha hk vk vv ?_);rw[h];rw[Heap.get?_update_self (Obj.mapDict (·.modify j λ e=>{e with val:=u})) ho rfl,EX]
theorem Fy {Q:Value->Shared->Prop} {i:Nat} {p:Addr×Nat} {kvs:List (HV×HV)} {k d:HV} {key u:Value} (st:St W T S H V s) (hi:V[i]? =some (.dict kvs)) (hp:H[i]? =some p)
  (hu:A.units+8<cLine) (hk:bp k kvs=true) (vk:VR W S H k key) (vd:VR W S H d u) (hl:kvs.length<lim)
  (q1:∀v val s',bA k kvs=some v->VR W S H v val->St W T S H V s'->Q val s')
  (q2:∀s',bA k kvs=none->St W T S H (V.set i (.dict (kvs++[(k,d)]))) s'->Q u s'):
  wpAny (model W.prog W.w) A (dictSetDefault p.1 key u) Q E s:=by
 refine Eg (st.obj i _ p hi hp) λ es n ho dr hn pw ha=>?_;refine av (wb (qz 8 hu (eK hk).1 vk st.S_ok (wb (ub (s:={s with toks:=_}) hu hk vk st.S_ok ho dr pw ha ?_))));have e:=nF k kvs
 induction h:gw k kvs using Jn with
 |none=>
  rw[h] at e;refine wb (bO (wb (wpAny_updateDictKeys (s:={s with toks:=_}) ho rfl (ag (q2 _ e ?_)) ?_)))
  ·have hh:dC k d kvs=kvs++[(k,d)]:=by rw[qT,h]
   rw[<- hh];refine st.turn hp (Kp.update s p.1 _ _) (λ b e=> .inl e) (OR.putD dr hn pw ha hk vk vd ?_);rw[h];rw[Heap.get?_update_self (Obj.mapDictKeys (·.push ⟨dp W k,key,u⟩)) ho rfl,yH]
  ·have:=mL;rw[List.size_toArray,<- dr.length];lia
 |some j=>
  rw[h] at e;refine ce (List.findIdx?_eq_some_iff_getElem.mp h) λ hj U=>?_;have hj':kvs[j]? =some kvs[j]:=ak hj;refine Bx (dr.get hj') λ en he U r2 U=>?_;refine af (wpAny_dictEntries (s:={s with toks:=_}) ho rfl ?_);simp only[List.getElem?_toArray,he];refine wb (bO (ag (q1 _ _ _ ?_ r2 (st.toks _))));rw[e,Option.bind_some,hj'];rfl
end
noncomputable def xS:Nat->Nat->Nat->Bool
 |0,i,j=>i==j
 |d+1,i,j=>i==j||xS d ((i*5+1) % 8) j
theorem wx:∀i,i<8->∀j,j<8->xS 7 i j=true:=by decide
theorem oy (j:Nat):SetTable.has #[] j=false:=by unfold SetTable.has;simp
theorem Co (n:Nat):∀l:List Nat,l.length<n->∃j,j<n/\j∉l:=by
 induction n with
 |zero=>exact λ U h=>aN h (a0 _)
 |succ n ih=>
  intro l h;by_cases hn:n∈l
  ·refine aU (ih (l.erase n) (by rw[List.length_erase_of_mem hn];exact Nat.sub_lt_right_of_lt_add (List.length_pos_of_mem hn) h)) λ j hj hm=>?_
   exact⟨j,bN hj,λ k=>hm ((List.mem_erase_of_ne (aH hj)).mpr k)⟩
  ·exact⟨n,aI n,hn⟩
theorem ww {l:List Nat} (h:l.length<=4):∃j,j<8/\j∉l:=Co 8 l (aj h (by decide))
structure kA (t:SetTable):Prop where
 mask:t.mask=7
 dummies:t.dummies=#[]
 size:t.place.size<=4
structure sD (p:SetTable.Probe):Prop where
 more:p.more=0
 j:p.j=p.i
 lt:p.i<8
 dummy:p.dummy=none
theorem tT (i:Nat):SetTable.runEnd 7 i=i:=by unfold SetTable.runEnd;rw[if_neg (by lia)]
theorem sD.next {t:SetTable} (m:kA t) {p:SetTable.Probe} (h:sD p):sD (t.advance p)/\(t.advance p).perturb=p.perturb/32/\(t.advance p).i=(p.i*5+1+p.perturb/32) % 8:=by
 unfold SetTable.advance;rw[if_neg (by rw[h.more];lia),m.mask]
 simp only[SetTable.leap,tT];exact⟨⟨by simp,rfl,Nat.mod_lt _ (by lia),h.dummy⟩,by simp,by simp⟩
theorem sf {t:SetTable} (m:kA t) (j:Nat):t.slot j= .empty\/∃i,t.slot j= .live i:=by
 unfold SetTable.slot;dsimp only
 split
 ·exact .inr ⟨_,rfl⟩
 ·rw[m.dummies,oy];exact .inl rfl
theorem wh {t:SetTable} (m:kA t) {j:Nat} (h:j∉t.place.toList):t.slot j= .empty:=by
 unfold SetTable.slot;dsimp only;rw[if_neg,m.dummies,oy]
 ·rfl
 ·intro e;refine h ?_;have:=beq_iff_eq.mp e;rw[<- Array.getElem?_toList] at this;exact ar this
theorem uH {t:SetTable} (m:kA t) (h:Int) {p:SetTable.Probe} (q:sD p) (n:Nat):
  SetTable.probe.go t (λ U=>h+1) h (n+1) p=some (.empty p.j none)\/
   (t.slot p.j≠ .empty/\SetTable.probe.go t (λ U=>h+1) h (n+1) p=SetTable.probe.go t (λ U=>h+1) h n (t.advance p)):=by
 have e0:SetTable.probe.go t (λ U=>h+1) h (n+1) p=(match t.slot p.j with
  | .empty=>some (.empty p.j p.dummy)
  | .dummy=>SetTable.probe.go t (λ U=>h+1) h n (t.advance {p with dummy:=some p.j})
  | .live i=>if(h+1==h)=true then some (.candidate p.j i (t.advance p)) else SetTable.probe.go t (λ U=>h+1) h n (t.advance p)):=rfl
 rcases sf m p.j with e|⟨i,e⟩
 ·left;rw[e0,e,q.dummy]
 ·right
  refine⟨by rw[e];exact λ z=>(nomatch z),?_⟩
  rw[e0,e];exact if_neg λ z=>aN (Int.lt_succ h) (by rw[eq_of_beq z];exact Int.lt_irrefl h)
theorem zE {t:SetTable} (m:kA t) (h:Int) {g:Nat} (hf:t.slot g= .empty) {n:Nat}:∀(d:Nat) {p:SetTable.Probe},sD p->p.perturb=0->xS d p.i g=true->d<n->
  ∃j,SetTable.probe.go t (λ U=>h+1) h n p=some (.empty j none):=by
 induction n with
 |zero=>exact λ U U U U U hn=>aN hn (a0 _)
 |succ n ih=>
  intro d p q hp hr hn;rcases uH m h q n with e|⟨hne,e⟩
  ·exact⟨_,e⟩
  ·rw[e];have hi:¬p.i=g:=λ z=>hne (by rw[q.j,z];exact hf)
   rcases d with _|d
   ·exact aN (eq_of_beq hr) hi
   ·refine kB (q.next m) λ q' hp' hi'=>ih d q' (by rw[hp',hp]) ?_ (bY hn)
    rw[hi',hp];exact((Bool.or_eq_true _ _).mp hr).resolve_left λ z=>hi (eq_of_beq z)
theorem yR {t:SetTable} (m:kA t) (h:Int) {g:Nat} (hg:g<8) (hf:t.slot g= .empty) {n:Nat}:∀(k:Nat) {p:SetTable.Probe},sD p->p.perturb<32^k->k+8<n->
  ∃j,SetTable.probe.go t (λ U=>h+1) h n p=some (.empty j none):=by
 induction n with
 |zero=>exact λ U U U U hn=>aN hn (a0 _)
 |succ n ih=>
  intro k p q hp hn;rcases k with _|k
  ·exact zE m h hf 7 q (Nat.lt_one_iff.mp hp) (wx _ q.lt _ hg) (by lia)
  ·rcases uH m h q n with e|⟨_,e⟩
   ·exact⟨_,e⟩
   ·rw[e];refine kB (q.next m) λ q' hp' U=>ih k q' ?_ (bY (Nat.succ_add k 8▸hn));rw[hp'];exact Nat.div_lt_of_lt_mul (Nat.mul_comm _ _▸Nat.pow_succ 32 k▸hp)
theorem A0 (h:Int):SetTable.bits h<32^13:=by
 unfold SetTable.bits;have h1:=cS h (show(2^64:Int)≠0 by decide)
 have h2:=cI h (show(0:Int)<2^64 by decide)
 have h3:(32^13:Nat)=36893488147419103232:=by decide
 have h4:(2^64:Int)=18446744073709551616:=by decide
 rw[h4] at h2;rw[h3];exact az ((Int.toNat_lt h1).mpr h2) (by decide)
theorem mO {t:SetTable} (m:kA t) (h:Int):∃j,t.freeSlot h=some (j,false):=by
 refine aU (ww (l:=t.place.toList) (by rw[Array.length_toList];exact m.size)) λ g hg hm=>?_
 have hf:=wh m hm;have hp:sD (t.probeStart h):=by
  unfold SetTable.probeStart;rw[m.mask];exact⟨by simp[tT],rfl,Nat.mod_lt _ (by lia),rfl⟩
 obtain⟨j,e⟩:=yR m h hg hf (n:=10*SetTable.turns t.mask) 13 hp (A0 h) (by rw[m.mask];unfold SetTable.turns;lia)
 refine⟨j,?_⟩;unfold SetTable.freeSlot SetTable.probe;rw[e];rfl
theorem et {X:Type} (xs:Array X) (p:Nat) (x:X):(SetTable.insertAt xs p x).size=xs.size+1:=by
 have:=(SetTable.insertAt_perm xs p x).length_eq
 simpa using this
theorem oh {t:SetTable} (m:kA t) {es:Array (Int×Value)} (hs:t.place.size=es.size) (h:Int) (x:Value):
  ∃es' t',layNew t es h x=(es',t',false,false)/\t'.mask=7/\t'.dummies=#[]/\t'.plain=t.plain/\t'.led=t.led/\t'.place.size=es'.size:=by
 refine ce (mO m h) λ j e=>?_;unfold layNew;rw[e];dsimp only[SetTable.put];have hd:SetTable.has t.dummies j=false:=by rw[m.dummies];exact oy j
 rw[hd];simp only[Bool.false_eq_true,if_false];have hz:∀t':SetTable,t'.place.size=t.place.size+1->t'.mask=7->t'.dummies=#[]->t'.fits (SetTable.insertAt es (SetTable.below t.place j) (h,x)).size=true:=by
  intro t' h1 h2 h3;have:=m.size;simp only[SetTable.fits,SetTable.fill,et,h1,h2,h3,hs,Bool.and_eq_true,beq_iff_eq,decide_eq_true_eq];exact⟨trivial,by simp;lia⟩
 have hf:=hz {t with place:=SetTable.insertAt t.place (SetTable.below t.place j) j} (et _ _ _) m.mask m.dummies;unfold SetTable.orStandIn;rw[if_pos hf,hf];exact⟨_,_,rfl,m.mask,m.dummies,rfl,rfl,by rw[et,et,hs]⟩
theorem kO.length {w:World} {es:List (Int×Value)} {ys:List Int} (h:kO w es ys):es.length=ys.length:=L2.length h
theorem kO.each {w:World} {es:List (Int×Value)} {ys:List Int} (h:kO w es ys):∀e∈es,∃x t,e.2= .int x t/\e.1=hashInt x:=by
 induction h with
 |nil=>exact λ U h=>ii h
 |cons a _ ih=>exact λ e he=>(aB.mp he).elim (λ q=>by rw[q];exact⟨_,_,a.2.choose_spec,a.1⟩) (ih e)
theorem kO.elems {w:World} {p:Program} {es:List (Int×Value)} {ys:List Int} (h:kO w es ys):ElemsOf (PySem.intKind p w) es:=λ e he=>by
 refine dP (h.each e he) λ x t h1 h2=>?_;exact⟨⟨x,by rw[h1];exact beq_self_eq_true x,h2⟩,by rw[h1];rfl⟩
theorem kO.mem {w:World} {x:Int} {es:List (Int×Value)} {ys:List Int} (h:kO w es ys):(∃e∈es,Value.isInt x e.2=true)↔x∈ys:=by
 induction h with
 |nil=>exact⟨λ hv=>aU hv λ _ h _=>(ii h),λ h=>(ii h)⟩
 |@cons e y es ys a _ ih=>
  have hv:Value.isInt x e.2=true↔x=y:=by rw[a.2.choose_spec];exact beq_iff_eq.trans eq_comm
  rw[List.mem_cons,<- ih,<- hv];constructor
  ·intro hq1;refine aU hq1 λ z hz h=>?_;rcases aB.mp hz with rfl|hz
   ·exact .inl h
   ·exact .inr ⟨z,hz,h⟩
  ·rintro(h|⟨z,hz,h⟩)
   ·exact⟨e, .head _,h⟩
   ·exact⟨z, .tail _ hz,h⟩
theorem kO.snoc {w:World} {e:Int×Value} {x:Int} (h:e.1=hashInt x/\∃t,e.2= .int x t) {es:List (Int×Value)} {ys:List Int} (k:kO w es ys):kO w (es++[e]) (ys++[x]):=L2.append k (.cons h .nil)
noncomputable def fx (v:Value):Int:=if h:v.ctorIdx=4 then Value.int.elim (motive:=λ U=>Int) v h λ i U=>i else 0
theorem kO.eq {w:World} {es:List (Int×Value)} {ys:List Int} (h:kO w es ys):ys=es.map λ e=>fx e.2:=by
 induction h with
 |nil=>rfl
 |cons a _ ih=>rw[List.map_cons,<- ih,a.2.choose_spec];rfl
theorem kO.of {w:World} {es:List (Int×Value)}:(∀e∈es,∃x t,e.2= .int x t/\e.1=hashInt x)->kO w es (es.map λ e=>fx e.2):=by
 induction es with
 |nil=>exact λ U=> .nil
 |cons e es ih=>
  intro h;refine dP (h e (.head _)) λ x t h1 h2=>?_;exact .cons ⟨show e.1=hashInt (fx e.2) by rw[h1];exact h2,t,show e.2= .int (fx e.2) t by rw[h1];rfl⟩ (ih λ y hy=>h y (.tail _ hy))
theorem kO.perm {w:World} {es es':List (Int×Value)} {ys:List Int} (h:kO w es ys) (p:es'.Perm es):∃ys',ys'.Perm ys/\kO w es' ys':=
 ⟨_,by rw[h.eq];exact p.map _,kO.of λ e he=>h.each e (p.mem_iff.mp he)⟩
theorem gC {x y:Int} {xs:List Int}:y∈jX x xs↔y=x\/y∈xs:=by
 induction xs with
 |nil=>exact aB
 |cons z r ih=>
  rw[hX];by_cases h:x<z
  ·rw[if_pos h];exact aB
  ·rw[if_neg h];by_cases h':x=z
   ·rw[if_pos h',h',List.mem_cons,<- or_assoc,or_self]
   ·rw[if_neg h',List.mem_cons,ih,List.mem_cons];exact or_left_comm
theorem gO {x:Int} {xs:List Int}:xs.Pairwise (·<·)->(jX x xs).Pairwise (·<·):=by
 induction xs with
 |nil=>exact λ U=>List.pairwise_singleton ..
 |cons z r ih=>
  intro h;refine cO (bu.mp h) λ h1 h2=>?_;rw[hX];by_cases q:x<z
  ·rw[if_pos q];exact bu.mpr ⟨λ y hy=>(aB.mp hy).elim (λ e=>e▸q) λ hy=>di q (h1 y hy),h⟩
  ·rw[if_neg q];by_cases q':x=z
   ·rw[if_pos q'];exact h
   ·rw[if_neg q'];exact bu.mpr ⟨λ y hy=>(gC.mp hy).elim (λ e=>e▸(Int.lt_or_eq_of_le (Int.not_lt.mp q)).resolve_right (Ne.symm q')) (h1 y),ih h2⟩
theorem nI {x:Int} {xs:List Int}:xs.Pairwise (·<·)->x∈xs->jX x xs=xs:=by
 induction xs with
 |nil=>exact λ U h=>ii h
 |cons z r ih=>
  intro h hx;refine cO (bu.mp h) λ h1 h2=>?_;rw[hX];by_cases q':x=z
  ·subst q';rw[if_neg (Int.lt_irrefl x),if_pos rfl]
  ·have hx:=(aB.mp hx).resolve_left q';rw[if_neg λ q=>Int.lt_asymm q (h1 x hx),if_neg q',ih h2 hx]
theorem nC {x:Int} {xs:List Int}:x∉xs->(jX x xs).Perm (x::xs):=by
 induction xs with
 |nil=>exact λ U=> .refl _
 |cons z r ih=>
  intro h;rw[hX];by_cases q:x<z
  ·exact .of_eq (if_pos q)
  ·rw[if_neg q,if_neg λ e:x=z=>h (e▸ .head _)];exact((ih λ q=>h (.tail _ q)).cons z).trans (.swap x z r)
theorem mq {x:Int} {xs:List Int} (h:xs.Pairwise (·<·)):(jX x xs).length<=xs.length+1:=by
 by_cases q:x∈xs
 ·rw[nI h q];lia
 ·rw[(nC q).length_eq];simp
section
variable{W:Wd} {s:Shared} {A:Around} {E:Value->Shared->Prop}
theorem bJ.len {es:List (Int×Value)} {t:SetTable} {xs:List Int} (h:bJ W.w es t xs):es.length=xs.length:=by
 refine aU h.elems λ ys hp hi=>?_;rw[hi.length,hp.length_eq]
theorem dF {Q:(Array (Int×Value)×Nat×SetTable)->Shared->Prop} {c:String} {a:Addr} {es:List (Int×Value)} {n:Nat} {t:SetTable} {xs:List Int} (ho:s.heap.get? a=some (bV c es n t)) (si:bJ W.w es t xs)
  (q:Q (es.toArray,n,t) s):wpAny (model W.prog W.w) A (setState a) Q E s:=wpAny_setState_of ho rfl (by rw[List.size_toArray];exact si.fits) q
theorem jM {h:Heap} {a:Addr} {c:String} {es:List (Int×Value)} {n:Nat} {t:SetTable} (ho:h.get? a=some (bV c es n t)) (es':Array (Int×Value)) (t':SetTable):
  (h.update a (Obj.putSet es' t')).get? a=some (bV c es'.toList (n+1) t'):=by
 have:=cf (Obj.putSet es' t') ho rfl;rw[this];rfl
theorem ur {Q:Bool->Shared->Prop} {c:String} {a:Addr} {es:List (Int×Value)} {n:Nat} {t:SetTable} {xs:List Int} {x:Int} {tk:Tok} (ho:s.heap.get? a=some (bV c es n t)) (si:bJ W.w es t xs) (hl:xs.length<4000)
  (q:∀(h':Heap) es' n' t' b,h'.get? a=some (bV c es' n' t')->bJ W.w es' t' (jX x xs)->Kp (·=a) s {s with heap:=h'}->Q b {s with heap:=h'}):
  wpAny (model W.prog W.w) A (setAddHashed a (.int x tk) (hashInt x)) Q E s:=by
 refine aU si.elems λ ys hp hi=>?_;have hlen:=si.len;have hel:ElemsOf (PySem.intKind W.prog W.w) es.toArray.toList:=by simpa using hi.elems
 have hb:es.toArray.size<scanBound:=by rw[List.size_toArray,hlen];unfold scanBound;lia
 have hf:t.fits es.toArray.size=true:=by rw[List.size_toArray];exact si.fits
 refine av (af (dF ho si ?_));dsimp only;rw[byScan_of (knd:=PySem.intKind W.prog W.w) rfl hb hel];refine wb (wb (bO ?_));refine af (wpAny_setScan_of (knd:=PySem.intKind W.prog W.w) (k:=x) (by simp[PySem.intKind,Value.isInt]) ho rfl hf hel ?_)
 induction hr:List.findIdx? (λ e:Int×Value=>(PySem.intKind W.prog W.w).is x e.2) es.toArray.toList using Jn with
 |some j=>
  dsimp only;refine aU (List.findIdx?_eq_some_iff_getElem.mp hr) λ hj hpj U=>?_;have hx:x∈xs:=hp.mem_iff.mp (hi.mem.mp ⟨es.toArray.toList[j],by simpa using List.getElem_mem hj,hpj⟩)
  refine ag (ag (q s.heap es n t _ ho ?_ (Kp.refl _ s)));rw[nI si.rising hx];exact si
 |none=>
  have hx:x∉xs:=λ z=>by
   refine aU (hi.mem.mpr (hp.mem_iff.mpr z)) λ e he hpe=>?_;have:=List.findIdx?_eq_none_iff.mp hr e (by simpa using he)
   rw[show(PySem.intKind W.prog W.w).is x e.2=true from hpe] at this;exact rO this
  have hgw:∀(b:Bool) {s₁:Shared} {Q':Unit->Shared->Prop},Q' () s₁->wpAny (model W.prog W.w) A (match b with|true=>rule "set.scan.the-table-gave-way"|false=>pure ()) Q' E s₁:=
   λ b s₁ Q' hq=>by rcases b with _|_<;>first|exact ag hq|exact bO hq
  have hperm:=layNew_perm t es.toArray (hashInt x) (.int x tk);have hfits:=layNew_fits t es.toArray (hashInt x) (.int x tk);have hsmall:es.length<=4->(layNew t es.toArray (hashInt x) (.int x tk)).2.1.mask=7/\(layNew t es.toArray (hashInt x) (.int x tk)).2.1.dummies=#[]/\(layNew t es.toArray (hashInt x) (.int x tk)).2.1.plain=t.plain/\
    (layNew t es.toArray (hashInt x) (.int x tk)).2.1.led=t.led:=λ z=>by
   refine pG (si.small z) λ m1 m2 U U=>?_;have hz:t.place.size=es.length:=by
    have:=si.fits;simp only[SetTable.fits,Bool.and_eq_true,beq_iff_eq] at this;exact this.1
   refine GE (oh ⟨m1,m2,by lia⟩ (by rw[List.size_toArray];exact hz) (hashInt x) (.int x tk)) λ es' t' e h1 h2 h3 h4 _=>?_
   rw[e];exact⟨h1,h2,h3,h4⟩
  generalize hL:layNew t es.toArray (hashInt x) (.int x tk)=L at hperm hfits hsmall ⊢;obtain⟨es1,t1,wasDummy,gave⟩:=L;replace hperm:=Array.toList_push▸hperm;have hi1:kO W.w (es++[(hashInt x, .int x tk)]) (ys++[x]):=hi.snoc ⟨rfl,tk,rfl⟩;refine aU (hi1.perm (es':=es1.toList) (by simpa using hperm)) λ ys1 hp1 hi2=>?_
  have hp2:ys1.Perm (jX x xs):=hp1.trans (((hp.append_right [x]).trans List.perm_append_comm).trans (nC hx).symm);have hsz1:es1.toList.length=es.length+1:=by rw[hperm.length_eq];simp
  refine wb (hgw _ ?_);have tail:∀t2:SetTable,t2.fits es1.size=true->(es.length<=4->t2.mask=7/\t2.dummies=#[]/\t2.plain=t.plain/\t2.led=t.led)->
    wpAny (model W.prog W.w) A (do
     storeSet a es1 t2
     if(!wasDummy&&t2.tooFull)=true then do
       (match(relayAll t2 es1 (SetTable.grown es1.size)).2.2 with|true=>rule "set.scan.the-table-gave-way"|false=>pure ())
       storeSet a (relayAll t2 es1 (SetTable.grown es1.size)).1 (relayAll t2 es1 (SetTable.grown es1.size)).2.1
       pure (some true)
      else pure (some true)) (λ r s'=>wpAny (model W.prog W.w) A (match r with|some added=>pure added|none=>setAddHashedIn a (.int x tk) (hashInt x) 99999) Q E s') E s:=by
   intro t2 f2 m2;refine af (wpAny_storeSet_of ho rfl ?_ (by rw[<- Array.length_toList,hsz1,hlen,sizeLine_eq];lia))
   have g1:=jM ho es1 t2;refine wpAny_ite_split (λ hfull=>?_) λ U=>?_
   ·have hpr:=relayAll_perm t2 es1 (SetTable.grown es1.size);have hfr:=relayAll_fits t2 es1 (SetTable.grown es1.size);generalize hRl:relayAll t2 es1 (SetTable.grown es1.size)=Rl at hpr hfr ⊢;obtain⟨es2,t3,gave2⟩:=Rl;have hsz2:es2.toList.length=es.length+1:=by rw[hpr.length_eq,hsz1]
    refine wb (hgw _ ?_);refine wb (wpAny_storeSet_of g1 rfl ?_ (by rw[<- Array.length_toList,hsz2,hlen,sizeLine_eq];lia))
    refine aU (hi2.perm hpr) λ ys2 hp3 hi3=>?_;refine ag (ag (q _ es2.toList _ t3 _ (jM g1 es2 t3) ⟨⟨ys2,hp3.trans hp2,hi3⟩,gO si.rising,by rw[Array.length_toList];exact hfr,λ z=>?_⟩ ?_))
    ·rw[hsz2] at z
     exfalso
     refine pG (m2 (by lia)) λ k1 k2 U U=>?_
     simp only[SetTable.tooFull,SetTable.fill,k1,k2,Bool.and_eq_true,decide_eq_true_eq] at hfull;have f2':=f2;simp only[SetTable.fits,Bool.and_eq_true,beq_iff_eq] at f2';have:t2.place.size=es.length+1:=by rw[f2'.1,<- Array.length_toList,hsz1]
     have h3:=hfull.2;simp at h3;lia
    ·exact(Kp.update s a _ _).trans (Kp.update {s with heap:=s.heap.update a (Obj.putSet es1 t2)} a _ _)
   ·refine ag (ag (q _ es1.toList _ t2 _ g1 ⟨⟨ys1,hp2,hi2⟩,gO si.rising,by rw[Array.length_toList];exact f2,λ z=>?_⟩ (Kp.update s a _ s.toks)))
    rw[hsz1] at z;refine pG (m2 (by lia)) λ k1 k2 k3 k4=>?_
    refine pG (si.small (by lia)) λ U U k5 k6=>?_
    exact⟨k1,k2,k3.trans k5,by rw[k4];exact k6⟩
  refine wpAny_ite_split (λ U=>?_) λ U=>?_
  ·refine wb ?_;rw[hashByValue_scannable 8 rfl];refine ag ?_;exact tail t1 hfits hsmall
  ·refine fm ?_;exact tail t1 hfits hsmall
theorem uC {Q:Bool->Shared->Prop} {c:String} {a:Addr} {es:List (Int×Value)} {n:Nat} {t:SetTable} {xs:List Int} {x:Int} {tk:Tok} (ho:s.heap.get? a=some (bV c es n t)) (si:bJ W.w es t xs) (hl:xs.length<4000)
  (q:∀s' es' n' t' b,s'.heap.get? a=some (bV c es' n' t')->bJ W.w es' t' (jX x xs)->Kp (·=a) s s'->Q b s'):
  wpAny (model W.prog W.w) A (setAddHashed a (.int x tk) (hashInt x)) Q E s:=
 ur ho si hl λ h' es' n' t' b h1 h2 h3=>q _ es' n' t' b h1 h2 h3
end
theorem ko:Slot "frozenset" (dunder "sub") "frozenset.__sub__":=
 .of (owner:="frozenset") (n:="__sub__") (by rw[typeLookup_type,builtinLookup_eq_fast];kernel_rfl) (by decide+kernel) (by decide+kernel) (by decide+kernel)
  (by first|exact .inl (by decide+kernel)|exact .inr (by decide+kernel)) (by rw[isSubtype_type];kernel_rfl)
theorem lU:Slot "frozenset" (dunder "or") "frozenset.__or__":=
 .of (owner:="frozenset") (n:="__or__") (by rw[typeLookup_type,builtinLookup_eq_fast];kernel_rfl) (by decide+kernel) (by decide+kernel) (by decide+kernel)
  (by first|exact .inl (by decide+kernel)|exact .inr (by decide+kernel)) (by rw[isSubtype_type];kernel_rfl)
theorem mn:Slot "frozenset" "__ne__" "frozenset.__ne__":=
 .of (owner:="frozenset") (n:="__ne__") (by rw[typeLookup_type,builtinLookup_eq_fast];kernel_rfl) (by decide+kernel) (by decide+kernel) (by decide+kernel)
  (by first|exact .inl (by decide+kernel)|exact .inr (by decide+kernel)) (by rw[isSubtype_type];kernel_rfl)
theorem iY:Slot "frozenset" "__iter__" "frozenset.__iter__":=
 .of (owner:="frozenset") (n:="__iter__") (by rw[typeLookup_type,builtinLookup_eq_fast];kernel_rfl) (by decide+kernel) (by decide+kernel) (by decide+kernel)
  (by first|exact .inl (by decide+kernel)|exact .inr (by decide+kernel)) (by rw[isSubtype_type];kernel_rfl)
theorem on:fillsNumberSlot (.type "frozenset") "sub"=pure true:=
 fillsNumberSlot_of (id:="frozenset.__sub__") (r:=some (.builtin "frozenset.__rsub__")) (by rw[typeLookup_type,builtinLookup_eq_fast];kernel_rfl) (by decide+kernel) (by rw[typeLookup_type,builtinLookup_eq_fast];kernel_rfl)
theorem qM:fillsNumberSlot (.type "frozenset") "or"=pure true:=
 fillsNumberSlot_of (id:="frozenset.__or__") (r:=some (.builtin "frozenset.__ror__")) (by rw[typeLookup_type,builtinLookup_eq_fast];kernel_rfl) (by decide+kernel) (by rw[typeLookup_type,builtinLookup_eq_fast];kernel_rfl)
theorem pR:entryFor table "frozenset.__sub__"=some Builtin.«frozenset.__sub__»:=entryFor_of_tree (by kernel_rfl)
theorem qe:entryFor table "frozenset.__or__"=some Builtin.«frozenset.__or__»:=entryFor_of_tree (by kernel_rfl)
theorem qK:entryFor table "frozenset.__ne__"=some Builtin.«frozenset.__ne__»:=entryFor_of_tree (by kernel_rfl)
theorem nj:entryFor table "frozenset.__iter__"=some Builtin.«frozenset.__iter__»:=entryFor_of_tree (by kernel_rfl)
theorem qF (a b:Value):argsOk "frozenset.__sub__" ⟨[a,b],[]⟩:=by unfold argsOk;kernel_rfl
theorem sn (a b:Value):argsOk "frozenset.__or__" ⟨[a,b],[]⟩:=by unfold argsOk;kernel_rfl
theorem rU (a b:Value):argsOk "frozenset.__ne__" ⟨[a,b],[]⟩:=by unfold argsOk;kernel_rfl
theorem oJ (a:Value):argsOk "frozenset.__iter__" ⟨[a],[]⟩:=by unfold argsOk;kernel_rfl
theorem mG:isSubtype (.type "frozenset") (.type "set")=pure false:=by rw[isSubtype_type];kernel_rfl
theorem fL:isSubtype (.type "frozenset") (.type "frozenset")=pure true:=by rw[isSubtype_type];kernel_rfl
theorem tA {X:Type} {l:List X}:∀{i:Nat} {x:X},l[i]? =some x->(x::l.eraseIdx i).Perm l:=by
 induction l with
 |nil=>exact λ e=>dX (List.getElem?_nil.symm.trans e)
 |cons a r ih=>
  intro i x e;rcases i with _|i
  ·exact .of_eq (am (·::r) (aA e).symm)
  ·rw[List.eraseIdx_cons_succ];exact(List.Perm.swap a x _).trans ((ih (i:=i) e).cons a)
theorem qd {X:Type} (next:Nat->Nat) {f:Nat}:∀(k:Nat) (l:List X) (out:Array X),l.length<=f->(pickOrder.go next f k l out).toList.Perm (out.toList++l):=by
 induction f with
 |zero=>exact λ k l out h=>by rw[List.length_eq_zero_iff.mp (Nat.le_zero.mp h),List.append_nil];exact .refl _
 |succ f ih=>
  intro k l out h;show(match l[next k % l.length]? with|some x=>pickOrder.go next f (k+1) (l.eraseIdx (next k % l.length)) (out.push x)|none=>out).toList.Perm _
  rcases e:l[next k % l.length]? with _|x
  ·rcases l with _|⟨a,r⟩
   ·rw[List.append_nil]
   ·exact aN (Nat.mod_lt (next k) (cD r.length)) (bF.mpr (List.getElem?_eq_none_iff.mp e))
  ·refine(ih (k+1) (l.eraseIdx (next k % l.length)) (out.push x) (by rw[List.length_eraseIdx_of_lt (List.getElem?_eq_some_iff.mp e).1];exact Nat.sub_le_of_le_add h)).trans ?_
   rw[Array.toList_push,List.append_assoc];exact .append_left _ (tA e)
theorem mN {X:Type} (next:Nat->Nat) (xs:Array X):(pickOrder next xs).toList.Perm xs.toList:=
 qd next 0 xs.toList #[] (bX Array.length_toList)
section
variable{W:Wd} {s:Shared} {A:Around} {E:Value->Shared->Prop} {c:String} {a:Addr} {es:List (Int×Value)} {n:Nat} {t:SetTable} {xs:List Int}
theorem dw (ho:s.heap.get? a=some (bV c es n t)):s.TypeIs (.ref a) c:=⟨_,ho,rfl⟩
theorem BV {Q:Array (Int×Value)->Shared->Prop} (ho:s.heap.get? a=some (bV c es n t)) (si:bJ W.w es t xs) (h4:es.length<=4) (q:∀r:Array (Int×Value),r.toList.Perm es->Q r s):
  wpAny (model W.prog W.w) A (setWalk a) Q E s:=by
 refine pG (si.small h4) λ m1 m2 m3 m4=>?_;refine wb (dF ho si ?_);refine wb (wb (wpAny_askSetting (ag ?_)));show wpAny _ _ (if W.w.params.followText "set-order"=true then _ else _) _ _ _
 induction hb:W.w.params.followText "set-order" using Jp with
 |true=>
  refine wb (wpAny_askSetting (ag (q _ ?_)))
  simpa using mN _ es.toArray
 |false=>
  have hl:t.led=true:=by rcases m4 with z|z;exact z;replace z:=hb▸z;cases z
  show wpAny _ _ (if(!t.plain&&decide (es.toArray.size>1))=true then _ else _) _ _ _
  rw[m3];show wpAny _ _ ((if(!t.led&&decide (es.toArray.size>1))=true then _ else _)>>=_) _ _ _
  rw[hl];exact fm (ag (q _ (by simp)))
theorem yN {Q:Array (Int×Value)->Shared->Prop} {others:List Addr} {f:Option Addr} (ho:s.heap.get? a=some (bV c es n t)) (si:bJ W.w es t xs) (h4:es.length<=4) (q:∀r:Array (Int×Value),r.toList.Perm es->Q r s):
  wpAny (model W.prog W.w) A (setWalkUnseen a others f) Q E s:=by
 refine pG (si.small h4) λ m1 m2 m3 m4=>?_;refine wb (dF ho si ?_);refine wb (wb (wpAny_askSetting (ag ?_)));have e:((W.w.params.followText "set-order"||(t.led&&t.plain))||decide (es.toArray.size<=1))=true:=by
  rcases m4 with z|z<;>simp[z,m3]
 show wpAny _ _ (if((W.w.params.followText "set-order"||(t.led&&t.plain))||decide (es.toArray.size<=1))=true then _ else _) _ _ _
 rw[e];exact BV ho si h4 q
theorem ze {Q:Option Nat->Shared->Prop} {x:Int} {tk:Tok} (ho:s.heap.get? a=some (bV c es n t)) (si:bJ W.w es t xs) (hl:xs.length<4000) (q:∀r:Option Nat,r.isSome=xs.contains x->Q r s):
  wpAny (model W.prog W.w) A (setFind a (.int x tk) (hashInt x)) Q E s:=by
 refine aU si.elems λ ys hp hi=>?_;have hlen:=si.len;have hel:ElemsOf (PySem.intKind W.prog W.w) es.toArray.toList:=by simpa using hi.elems
 have hb:es.toArray.size<scanBound:=by rw[List.size_toArray,hlen];exact lw ‹_› rfl
 have hf:t.fits es.toArray.size=true:=by rw[List.size_toArray];exact si.fits
 refine af (dF ho si ?_);dsimp only;rw[byScan_of (knd:=PySem.intKind W.prog W.w) rfl hb hel];refine wb (bO ?_);refine wb (wpAny_setScan_of (knd:=PySem.intKind W.prog W.w) (k:=x) (by simp[PySem.intKind,Value.isInt]) ho rfl hf hel ?_)
 induction hr:List.findIdx? (λ e:Int×Value=>(PySem.intKind W.prog W.w).is x e.2) es.toArray.toList using Jn with
 |none=>
  refine ag (q none ?_);have hx:x∉xs:=λ z=>by
   refine aU (hi.mem.mpr (hp.mem_iff.mpr z)) λ e he hpe=>?_;have:=List.findIdx?_eq_none_iff.mp hr e (by simpa using he)
   rw[show(PySem.intKind W.prog W.w).is x e.2=true from hpe] at this;exact rO this
  simp[hx]
 |some j=>
  refine aU (List.findIdx?_eq_some_iff_getElem.mp hr) λ hj hpj U=>?_;have hx:x∈xs:=hp.mem_iff.mp (hi.mem.mp ⟨es.toArray.toList[j],by simpa using List.getElem_mem hj,hpj⟩)
  exact ag (q _ (by simp[hx]))
theorem jj {Q:Value->Shared->Prop} (q:∀t,bJ W.w [] t []->Q (.ref s.heap.objs.size) {s with heap:=s.heap.push (bV c [] 0 t)}):wpAny (model W.prog W.w) A (newSet (.type c)) Q E s:=by
 refine wb (wb (wpAny_askSetting (ag ?_)));refine wb (wpAny_alloc (ag (q _ ⟨⟨[], .refl _, .nil⟩, .nil,rfl,λ U=>⟨rfl,rfl,rfl,?_⟩⟩)));show(!W.w.params.followText "set-order")=true\/_;cases W.w.params.followText "set-order"<;>simp
end
theorem gh {xs:List Int}:∀{ys:List Int},xs.Pairwise (·<·)->ys.Pairwise (·<·)->(∀z,z∈xs↔z∈ys)->xs=ys:=by
 induction xs with
 |nil=>
  intro ys _ _ h;rcases ys with _|⟨y,ys⟩
  ·rfl
  ·exact nomatch(h y).mpr (.head _)
 |cons x xs ih=>
  intro ys hx hy h;rcases ys with _|⟨y,ys⟩
  ·exact nomatch(h x).mp (.head _)
  ·refine cO (bu.mp hx) λ hx1 hx2=>cO (bu.mp hy) λ hy1 hy2=>?_;have e:x=y:=by
    rcases aB.mp ((h x).mp (.head _)) with e|e
    ·exact e
    ·exact(aB.mp ((h y).mpr (.head _))).elim Eq.symm λ e'=>aN (hx1 y e') (Int.lt_asymm (hy1 x e))
   subst e;exact am (x::·) (ih hx2 hy2 λ z=>⟨λ hz=>((aB.mp ((h z).mp (.tail _ hz))).resolve_left λ e=>Int.lt_irrefl x (e▸hx1 z hz)),λ hz=>((aB.mp ((h z).mpr (.tail _ hz))).resolve_left λ e=>Int.lt_irrefl x (e▸hy1 z hz))⟩)
theorem nz {z:Int} {xs:List Int}:z∈cA xs↔z∈xs:=by
 induction xs with
 |nil=>exact Iff.rfl
 |cons x r ih=>exact gC.trans ((or_congr_right ih).trans aB.symm)
theorem gj (xs:List Int):(cA xs).Pairwise (·<·):=by
 induction xs with
 |nil=>exact .nil
 |cons x r ih=>exact gO ih
theorem uV {z:Int} {a b:List Int}:z∈eF a b↔z∈a/\z∉b:=by simp[eF]
theorem pB {a b:List Int} (h:a.Pairwise (·<·)):(eF a b).Pairwise (·<·):=h.filter _
theorem Kp.fresh {s s₁ s₂:Shared} {r:Addr} (h:Kp (λ U=>False) s s₁) (hr:s.heap.objs.size<=r) (k:Kp (·=r) s₁ s₂):Kp (λ U=>False) s s₂:=
 ⟨λ b o n e=>k.keep b o (λ q=>aN (aW e) (bF.mpr (by rw[show b=r from q];exact hr))) (h.keep b o n e),k.os.trans h.os,k.gens.trans h.gens⟩
section
variable{W:Wd} {s:Shared} {A:Around} {E:Value->Shared->Prop}
theorem qC {Q:Bool->Shared->Prop} {a:Addr} {es:List (Int×Value)} {n:Nat} {t:SetTable} (ho:s.heap.get? a=some (bV "frozenset" es n t)) (q:Q true s):
  wpAny (model W.prog W.w) A (Builtin.Frozenset.isAnySet (.ref a)) Q E s:=by
 refine af (bB (dw ho) mG ?_);exact bB (dw ho) fL q
theorem BE {Q:Value->Shared->Prop} {a:Addr} {es:List (Int×Value)} {n:Nat} {t:SetTable} (ho:s.heap.get? a=some (bV "frozenset" es n t)) (q:Q (.type "frozenset") s):
  wpAny (model W.prog W.w) A (Builtin.Frozenset.baseOf a) Q E s:=by
 exact af (bB (dw ho) mG (ag q))
theorem jp {Q:Nat->Shared->Prop} {c:String} {a:Addr} {es:List (Int×Value)} {n:Nat} {t:SetTable} {xs:List Int} (ho:s.heap.get? a=some (bV c es n t)) (si:bJ W.w es t xs) (q:Q xs.length s):
  wpAny (model W.prog W.w) A (Builtin.Frozenset.sizeOf a) Q E s:=by
 refine af (af (dF ho si (ag (ag ?_))));rw[List.size_toArray,si.len];exact q
theorem jU {Q:Nat->Shared->Prop} {c:String} {a:Addr} {es:List (Int×Value)} {n:Nat} {t:SetTable} {xs:List Int} (ho:s.heap.get? a=some (bV c es n t)) (si:bJ W.w es t xs) (q:Q n s):
  wpAny (model W.prog W.w) A (setEpoch a) Q E s:=by
 exact af (dF ho si (ag q))
theorem yV {Q:Unit->Shared->Prop} {id:String} {c:String} {a:Addr} {es:List (Int×Value)} {n:Nat} {t:SetTable} {xs:List Int} (ho:s.heap.get? a=some (bV c es n t)) (si:bJ W.w es t xs) (q:Q () s):
  wpAny (model W.prog W.w) A (Builtin.Frozenset.unchanged id a n) Q E s:=by
 refine af (jU ho si ?_);rw[if_neg (by simp)];exact ag q
theorem qc {Q:Unit->Shared->Prop} {each:Sem Unit} {c c':String} {a r:Addr} {es er:List (Int×Value)} {n m:Nat} {t tr:SetTable} {xs:List Int} (hne:r≠a) (ho:s.heap.get? a=some (bV c es n t)) (si:bJ W.w es t xs) (h4:xs.length<=4)
  (hr:s.heap.get? r=some (bV c' er m tr)) (sr:bJ W.w er tr [])
  (q:∀s' es' n' t',s'.heap.get? r=some (bV c' es' n' t')->bJ W.w es' t' xs->Kp (·=r) s s'->Q () s'):wpAny (model W.prog W.w) A (setMerge r a each) Q E s:=by
 have hlen:=si.len;refine wn (by simpa using hne) ?_
 refine wb (dF ho si ?_);dsimp only;have er0:er=[]:=cj.mp (by rw[sr.len];rfl)
 subst er0;refine pG (sr.small (by simp)) λ r1 r2 r3 r4=>?_
 have hpl:tr.place.size=0:=by
  have:=sr.fits;simp only[SetTable.fits,Bool.and_eq_true,beq_iff_eq] at this
  simpa using this.1
 have hfill:tr.fill=0:=by simp[SetTable.fill,hpl,r2]
 refine pG (si.small (by lia)) λ m1 m2 m3 m4=>?_
 induction hes:es using Jo with
 |nil=>
  refine ag (q s [] m tr hr ?_ (Kp.refl _ s));have:xs=[]:=by subst hes;exact cj.mp (by rw[<- hlen];rfl)
  exact this.symm▸sr
 |cons e0 er0=>
  rw[<- hes];refine wn (by rw[hes];simp) ?_
  refine wb (af (dF hr sr ?_));have hroom:tr.roomFor es.toArray.size=none:=by
   unfold SetTable.roomFor;rw[if_neg (by rw[hfill,r1,List.size_toArray];lia)]
  rw[hroom];refine ag ?_;refine af (dF hr sr ?_);have hroad:tr.road t= .slotForSlot:=by
   unfold SetTable.road;rw[hfill,r1,m1,m2];rfl
  rw[hroad];refine wpAny_storeSet_of hr rfl (q _ es _ _ (jM hr es.toArray _) ⟨si.elems,si.rising,?_,λ U=>⟨m1,m2,?_,?_⟩⟩ (Kp.update s r _ s.toks)) (by rw[List.size_toArray,hlen,sizeLine_eq];lia)
  ·have f:=si.fits;exact f
  ·simp[r3,m3]
  ·rcases r4 with z|z
   ·rcases m4 with z'|z'
    ·left;simp[z,z']
    ·exact .inr z'
   ·exact .inr z
theorem Bs {Q:Value->Shared->Prop} {a:Addr} {es:List (Int×Value)} {n:Nat} {t:SetTable} {xs:List Int} (ho:s.heap.get? a=some (bV "frozenset" es n t)) (si:bJ W.w es t xs) (h4:xs.length<=4)
  (q:∀s' es' n' t',s'.heap.get? s.heap.objs.size=some (bV "frozenset" es' n' t')->bJ W.w es' t' xs->Kp (λ U=>False) s s'->Q (.ref s.heap.objs.size) s'):
  wpAny (model W.prog W.w) A (Builtin.Frozenset.copyOf a) Q E s:=by
 refine wb (BE ho (wb (jj λ t0 s0=>?_)));refine fm (wb ?_);refine qc (aE (aW ho)) (aq _ ho) si h4 (aC _ rfl) s0 λ s' es' n' t' h1 h2 h3=>ag (q s' es' n' t' h1 h2 ?_);exact(Kp.push s _).fresh (ai _) h3
inductive SL (W:Wd) (r:Addr) (s:Shared) (walk:List (Int×Value)) (lb:Nat) (P:List (Int×Value)->Int->Prop) (rest:List (Int×Value)) (s':Shared):Prop
 |mk {done er':List (Int×Value)} {k':Nat} {tr':SetTable} {zs:List Int} (hd:done++rest=walk) (kp:Kp (·=r) s s') (h:s'.heap.get? r=some (bV "frozenset" er' k' tr')) (si:bJ W.w er' tr' zs) (l:zs.length<=lb+done.length) (m:∀z,z∈zs↔P done z):SL W r s walk lb P rest s'
theorem xH {c:String} {a b r:Addr} {es eb:List (Int×Value)} {n m:Nat} {t tb:SetTable} {xs ys:List Int} {id:String} (har:a≠r) (hbr:b≠r)
  (si:bJ W.w es t xs) (sb:bJ W.w eb tb ys) (hy:ys.length<4000) (hx:xs.length<=4) {walk:Array (Int×Value)} (hw:walk.toList.Perm es)
  {Q:PUnit->Shared->Prop} {s:Shared} {er:List (Int×Value)} {k:Nat} {tr:SetTable} (ho:s.heap.get? a=some (bV "frozenset" es n t)) (hb:s.heap.get? b=some (bV c eb m tb)) (hr:s.heap.get? r=some (bV "frozenset" er k tr)) (sr:bJ W.w er tr [])
  (f:(Int×Value)->PUnit->Sem (ForInStep PUnit)) (hf:∀h x u,f (h,x) u=(do
   holding [x] do
    let there <- setFind b x h
    if !there.isSome then
     let _ <- setAddHashed r x h
   Builtin.Frozenset.unchanged id a n
   pure (.yield ⟨⟩)))
  (q:∀s' er' k' tr',s'.heap.get? r=some (bV "frozenset" er' k' tr')->bJ W.w er' tr' (eF xs ys)->Kp (·=r) s s'->Q ⟨⟩ s'):wpAny (model W.prog W.w) A (forIn walk ⟨⟩ f) Q E s:=by
 refine aU si.elems λ zs0 hp0 hi0=>?_;rw[<- Array.forIn_toList];refine mS _
  (λ rest U s'=>SL W r s walk.toList 0 (λ done z=>(∃e∈done,fx e.2=z)/\z∉ys) rest s')
  _ ?_ ?_ _ _ (.mk (done:=[]) rfl (Kp.refl _ s) hr sr (ai _) (by simp))
 ·rintro⟨h,x⟩ rest _ s' ⟨hd,kp,hr',sr',hle,hz⟩;rename_i done er' k' tr' zs;rw[Nat.zero_add] at hle;have hmem:(h,x)∈es:=hw.mem_iff.mp (by rw[<- hd];simp)
  refine dP (hi0.each _ hmem) λ i tk rq1 rq2=>?_;subst rq1;subst rq2;rw[hf];have ho':=kp.keep a _ har ho;have hb':=kp.keep b _ hbr hb;have hdl:done.length<4:=by
   have h1:(done++(hashInt i,Value.int i tk)::rest).length=es.length:=by rw[hd];exact hw.length_eq
   rw[si.len] at h1;simp at h1;lia
  refine wb (av (af (ze hb' sb hy λ r0 e0=>?_)));have fin:∀(R:ForInStep PUnit->Shared->Prop),(∀s_2,SL W r s walk.toList 0 (λ done z=>(∃e∈done,fx e.2=z)/\z∉ys) rest s_2->R (.yield ⟨⟩) s_2)->
    ∀s'' er'' k'' tr'' zs',s''.heap.get? r=some (bV "frozenset" er'' k'' tr'')->bJ W.w er'' tr'' zs'->zs'.length<=done.length+1->Kp (·=r) s' s''->(∀z,z∈zs'↔(∃e∈done++[(hashInt i,Value.int i tk)],fx e.2=z)/\z∉ys)->
    wpAny (model W.prog W.w) A (Builtin.Frozenset.unchanged id a n>>=λ U=>pure (ForInStep.yield PUnit.unit)) R E s'':=by
   intro R hR s'' er'' k'' tr'' zs' h1 h2 h3 h4 h5;have ho'':=h4.keep a _ har ho';refine wb (yV ho'' si (ag (hR _ (.mk (done:=done++[(hashInt i, .int i tk)]) (by simpa using hd) (kp.trans h4) h1 h2 (by simpa using h3) h5))))
  induction hc:ys.contains i using Jp with
  |true=>
   rw[hc] at e0;rw[e0];refine ag (fin _ (λ U h=>h) s' er' k' tr' zs hr' sr' (by lia) (Kp.refl _ _) λ z=>?_)
   rw[hz z];have hi:i∈ys:=by simpa using hc
   constructor
   ·intro hq3;refine cO hq3 λ hq4 hn=>?_;refine aU hq4 λ e he q=>?_;exact⟨⟨e,by simp[he],q⟩,hn⟩
   ·intro hq5;refine cO hq5 λ hq6 hn=>?_;refine aU hq6 λ e he q=>?_;rcases aY.mp he with he|he
    ·exact⟨⟨e,he,q⟩,hn⟩
    ·rw[List.mem_singleton] at he;subst he;exact aN (show z∈ys by rw[<- show i=z from q];exact hi) hn
  |false=>
   rw[hc] at e0;rw[e0];refine wb (uC hr' sr' (by lia) λ s'' er'' k'' tr'' b'' h1 h2 h3=>ag (fin _ (λ U h=>h) s'' er'' k'' tr'' _ h1 h2 ?_ h3 λ z=>?_))
   ·have:=mq (x:=i) sr'.rising;lia
   rw[gC,hz z];have hi:i∉ys:=by simpa using hc
   constructor
   ·rintro(rfl|⟨⟨e,he,q⟩,hn⟩)
    ·exact⟨⟨(hashInt z, .int z tk),by simp,rfl⟩,hi⟩
    ·exact⟨⟨e,by simp[he],q⟩,hn⟩
   ·intro hq7;refine cO hq7 λ hq8 hn=>?_;refine aU hq8 λ e he q=>?_;rcases aY.mp he with he|he
    ·exact .inr ⟨⟨e,he,q⟩,hn⟩
    ·rw[List.mem_singleton] at he;subst he;exact .inl q.symm
 ·rintro _ s' ⟨hd,kp,hr',sr',_,hz⟩;rename_i done er' k' tr' zs _;refine q s' er' k' tr' hr' ?_ kp;have e:zs=eF xs ys:=gh sr'.rising (pB si.rising) λ z=>by
   rw[hz z,uV];refine and_congr_left λ U=>?_;rw[List.append_nil] at hd;rw[<- hp0.mem_iff,hi0.eq,List.mem_map];constructor
   ·intro hq10;refine aU hq10 λ e he q=>?_;exact⟨e,hw.mem_iff.mp (by rw[<- hd];exact he),q⟩
   ·intro hq11;refine aU hq11 λ e he q=>?_;exact⟨e,by rw[hd];exact hw.mem_iff.mpr he,q⟩
  exact e▸sr'
end
section
variable{W:Wd} {T S:PH} {H:Io} {V:aF} {s:Shared} {A:Around} {E:Value->Shared->Prop}
noncomputable abbrev Ok (W:Wd) (T S:PH) (H:Io) (Q:Value->Shared->Prop) (x:HV) (V':aF):Prop:=
 ∀S' H' v s',cY S S'->H<+:H'->St W T S' H' V' s'->VR W S' H' x v->Q v s'
theorem Ok.same {Q:Value->Shared->Prop} {x:HV} {V':aF} (k:Ok W T S H Q x V') {v:Value} {s':Shared} (st:St W T S H V' s') (h:VR W S H x v):Q v s':=k S H v s' (cY.refl S) (ax _) st h
theorem vS (xs:List Int):eF xs []=xs:=by simp[eF]
theorem Em {Q:Unit->Shared->Prop} {c:String} {a:Addr} {es:List (Int×Value)} {n:Nat} {t:SetTable} {xs:List Int} (ho:s.heap.get? a=some (bV c es n t)) (si:bJ W.w es t xs) (h4:es.length<=4) (q:Q () s):
  wpAny (model W.prog W.w) A (setTidy a) Q E s:=by
 refine pG (si.small h4) λ m1 m2 m3 m4=>?_;refine wb (dF ho si ?_);refine wn (by simp[SetTable.tooManyDummies,m2]) ?_
 exact ag q
theorem FS {Q:Value->Shared->Prop} {id:String} {a b:Addr} {es eb:List (Int×Value)} {n m:Nat} {t tb:SetTable} {xs ys:List Int} (ho:s.heap.get? a=some (bV "frozenset" es n t)) (si:bJ W.w es t xs) (h4:xs.length<=4)
  (hb:s.heap.get? b=some (bV "frozenset" eb m tb)) (sb:bJ W.w eb tb ys) (hy:ys.length<4000) (hc:xs.length/4<=ys.length\/ys=[])
  (q:∀s' es' n' t',s'.heap.get? s.heap.objs.size=some (bV "frozenset" es' n' t')->bJ W.w es' t' (eF xs ys)->Kp (λ U=>False) s s'->Q (.ref s.heap.objs.size) s'):
  wpAny (model W.prog W.w) A (Builtin.Frozenset.difference id a (.ref b)) Q E s:=by
 have hlen:=si.len;have hlb:=sb.len;refine af (qC hb ?_);simp only[Bool.not_true,Bool.false_eq_true,↓reduceIte,Bool.false_and,pure_bind];refine fm ?_;refine wb (jp hb sb ?_);refine af (jp ho si ?_);by_cases hgt:xs.length/4>ys.length
 ·have hy0:ys=[]:=by
   rcases hc with z|z
   ·exact aN hgt (bF.mpr z)
   ·exact z
  subst hy0;refine wy hgt ?_;refine wb (bO ?_);refine wb (Bs ho si h4 λ s' es' n' t' h1 h2 h3=>?_);have hb':=h3.keep b _ (λ h=>h) hb;have hba:(Value.ref b==Value.ref s.heap.objs.size)=false:=by
   have:b≠s.heap.objs.size:=aH (aW hb)
   simpa using this
  refine fm ?_;refine wb (av ?_);refine wn (by rw[hba];simp) ?_
  refine wb (qC hb' ?_);refine fm ?_;refine wb (jp hb' sb (wb (jp h1 h2 ?_)));refine wn (by simp) ?_
  refine wb (jU hb' sb ?_);refine wb (av ?_);refine wb (yN hb' sb (by rw[hlb];simp) λ r hr=>?_)
  have hr0:r=#[]:=by
   have:r.toList=[]:=by
    have:=hr.length_eq;rw[hlb] at this;exact cj.mp this
   exact Array.toList_inj.mp this
  subst hr0;refine fm (ag ?_);refine Em h1 h2 (by rw[h2.len];exact h4) (ag (q s' es' n' t' h1 ?_ h3))
  rw[vS];exact h2
 ·rw[if_neg hgt];refine wb (BE ho (wb (jj λ t0 s0=>?_)));refine fm ?_;have ho':(s.heap.push (bV "frozenset" [] 0 t0)).get? a=_:=aq _ ho;have hb':(s.heap.push (bV "frozenset" [] 0 t0)).get? b=_:=aq _ hb;refine wb (jU (s:={s with heap:=s.heap.push (bV "frozenset" [] 0 t0)}) ho' si ?_);refine wb (av ?_);refine wb (yN (s:={s with heap:=s.heap.push (bV "frozenset" [] 0 t0)}) ho' si (by rw[hlen];exact h4) λ r hr=>?_)
  refine wb (xH (aH (aW ho)) (aH (aW hb)) si sb hy h4 hr (s:={s with heap:=s.heap.push (bV "frozenset" [] 0 t0)}) ho' hb' (aC _ rfl) s0 _ (λ U U U=>rfl) λ s' er' k' tr' h1 h2 h3=>?_);exact ag (ag (q s' er' k' tr' h1 h2 ((Kp.push s _).fresh (ai _) h3)))
end
theorem sQ {ys:List Int}:∀{xs:List Int},xs.Pairwise (·<·)->ys.Pairwise (·<·)->(∀z∈xs,z∈ys)->xs.Sublist ys:=by
 induction ys with
 |nil=>
  intro xs _ _ h;rcases xs with _|⟨x,xs⟩
  ·exact .slnil
  ·exact ii (h x (.head _))
 |cons y ys ih=>
  intro xs hx hy h;rcases xs with _|⟨x,xs⟩
  ·exact List.nil_sublist _
  refine cO (bu.mp hx) λ hx1 hx2=>?_;refine cO (bu.mp hy) λ hy1 hy2=>?_;by_cases e:x=y
  ·subst e;exact(ih hx2 hy2 λ z hz=>(aB.mp (h z (.tail _ hz))).resolve_left λ q=>by have:=hx1 z hz;lia).cons_cons x
  ·have hxy:x∈ys:=(aB.mp (h x (.head _))).resolve_left e;have hlt:=hy1 x hxy;refine(ih hx hy2 λ z hz=>(aB.mp (h z hz)).resolve_left λ q=>?_).cons y;rcases aB.mp hz with r|r
   ·lia
   ·have:=hx1 z r;lia
theorem ik {z:Int} {a b:List Int}:z∈cA (a++b)↔z∈a\/z∈b:=by rw[nz,List.mem_append]
section
variable{W:Wd} {T S:PH} {H:Io} {V:aF} {s:Shared} {A:Around} {E:Value->Shared->Prop}
theorem xV {Q:Unit->Shared->Prop} {id c:String} {b r:Addr} {eb er:List (Int×Value)} {n m:Nat} {tb tr:SetTable} {xs ys:List Int} (hne:r≠b) (hb:s.heap.get? b=some (bV c eb n tb)) (sb:bJ W.w eb tb ys)
  (hr:s.heap.get? r=some (bV "frozenset" er m tr)) (sr:bJ W.w er tr xs) (h4:xs.length+ys.length<=4)
  (q:∀s' es' n' t',s'.heap.get? r=some (bV "frozenset" es' n' t')->bJ W.w es' t' (cA (xs++ys))->Kp (·=r) s s'->Q () s'):wpAny (model W.prog W.w) A (setMerge r b (Builtin.Frozenset.unchanged id b n)) Q E s:=by
 have fin:∀{zs:List Int},zs.Pairwise (·<·)->(∀z,z∈zs↔z∈xs\/z∈ys)->zs=cA (xs++ys):=λ hz h=>gh hz (gj _) λ z=>by rw[h z,ik]
 by_cases hx0:xs=[]
 ·subst hx0;refine qc hne hb sb (by simpa using h4) hr sr λ s' es' n' t' h1 h2 h3=>q s' es' n' t' h1 ?_ h3
  rw[<- fin sb.rising λ z=>by simp];exact h2
 have hlb:=sb.len;have hlr:=sr.len;have hxp:0<xs.length:=List.length_pos_iff.mpr hx0;refine wn (by simpa using hne) ?_
 refine af (dF hb sb ?_);dsimp only;refine pG (sr.small (by lia)) λ r1 r2 r3 r4=>?_
 have hpl:tr.place.size=er.length:=by
  have:=sr.fits;simp only[SetTable.fits,Bool.and_eq_true,beq_iff_eq] at this;exact this.1
 have hfill:tr.fill=xs.length:=by simp[SetTable.fill,hpl,r2,hlr]
 by_cases hy0:ys=[]
 ·have:eb=[]:=cj.mp (by rw[hlb,hy0];rfl)
  subst this;refine ag (q s er m tr hr ?_ (Kp.refl _ s));rw[<- fin sr.rising λ z=>by simp[hy0]];exact sr
 ·rw[if_neg (by
   have:0<ys.length:=List.length_pos_iff.mpr hy0
   induction eb using List.casesOn with
   |nil=>simp at hlb;lia
   |cons _ _=>simp)]
  refine wb (af (dF hr sr ?_));have hroom:tr.roomFor eb.toArray.size=none:=by
   unfold SetTable.roomFor;rw[if_neg (by rw[hfill,r1,List.size_toArray,hlb];lia)]
  rw[hroom];refine ag ?_;refine af (dF hr sr ?_);have hroad:tr.road tb= .oneByOne:=by
   unfold SetTable.road;rw[hfill,if_pos (by simp;omega)]
  rw[hroad];refine af (yN hb sb (by lia) λ walk hw=>?_)
  refine aU sb.elems λ zs0 hp0 hi0=>?_;rw[<- Array.forIn_toList];refine af (mS _
   (λ rest U s'=>SL W r s walk.toList xs.length (λ done z=>z∈xs\/∃e∈done,fx e.2=z) rest s')
   _ ?_ ?_ _ _ (.mk (done:=[]) rfl (Kp.refl _ s) hr sr (by simp) (by simp)))
  ·rintro⟨h,x⟩ rest _ s' ⟨hd,kp,hr',sr',hle,hz⟩;rename_i done er' k' tr' zs;have hmem:(h,x)∈eb:=hw.mem_iff.mp (by rw[<- hd];simp)
   refine dP (hi0.each _ hmem) λ i tk rq1 rq2=>?_;subst rq1;subst rq2;have hdl:done.length<4:=by
    have h1:(done++(hashInt i,Value.int i tk)::rest).length=eb.length:=by rw[hd];exact hw.length_eq
    rw[hlb] at h1;simp at h1;lia
   refine wb (av (uC hr' sr' (by lia) λ s'' er'' k'' tr'' b'' h1 h2 h3=>?_))
   have hb'':=h3.keep b _ (λ e=>hne e.symm) (kp.keep b _ (λ e=>hne e.symm) hb);refine wb (yV hb'' sb ?_);refine wb (dF hb'' sb ?_);refine wn (by simp) ?_
   refine ag (.mk (done:=done++[(hashInt i, .int i tk)]) (by simpa using hd) (kp.trans h3) h1 h2 ?_ λ z=>?_)
   ·have:=mq (x:=i) sr'.rising;simp;lia
   rw[gC,hz z];constructor
   ·rintro(rfl|z'|⟨e,he,q⟩)
    ·exact .inr ⟨(hashInt z, .int z tk),by simp,rfl⟩
    ·exact .inl z'
    ·exact .inr ⟨e,by simp[he],q⟩
   ·rintro(z'|⟨e,he,q⟩)
    ·exact .inr (.inl z')
    ·rcases aY.mp he with he|he
     ·exact .inr (.inr ⟨e,he,q⟩)
     ·rw[List.mem_singleton] at he;subst he;exact .inl q.symm
  ·rintro _ s' ⟨hd,kp,hr',sr',_,hz⟩;rename_i done er' k' tr' zs _;refine ag (q s' er' k' tr' hr' ?_ kp);rw[<- fin sr'.rising λ z=>?_]
   ·exact sr'
   rw[hz z];refine or_congr_right ?_;rw[List.append_nil] at hd;rw[<- hp0.mem_iff,hi0.eq,List.mem_map];constructor
   ·intro hq4;refine aU hq4 λ e he q=>?_;exact⟨e,hw.mem_iff.mp (by rw[<- hd];exact he),q⟩
   ·intro hq5;refine aU hq5 λ e he q=>?_;exact⟨e,by rw[hd];exact hw.mem_iff.mpr he,q⟩
theorem iT {x:Int->Prop} {xs:List Int} {s':Shared} {es:List (Int×Value)} {n:Nat} {t:SetTable} (st:St W T S H V s) (k:Kp (λ U=>False) s s') (h:s'.heap.get? s.heap.objs.size=some (bV "frozenset" es n t)) (si:bJ W.w es t xs)
  {Q:Value->Shared->Prop} (q:Ok W T S H Q (.w xs) V):Q (.ref s.heap.objs.size) s':=
 q (upd S s.heap.objs.size (bV "frozenset" es n t)) H _ s' (dN (st.S_new (ai _))) (ax _) (st.addS (ai _) k (λ U f=>f.elim) h) ⟨_,es,n,t,rfl,cH _ _ _,si⟩
theorem F6 {Q:Value->Shared->Prop} {xs ys:List Int} {u v:Value} (st:St W T S H V s) (hx:VR W S H (.w xs) u) (hy:VR W S H (.w ys) v) (h4:xs.length<=4) (hl:ys.length<4000) (hc:xs.length/4<=ys.length\/ys=[])
  (q:Ok W T S H Q (.w (eF xs ys)) V):wpAny (model W.prog W.w) A (binaryOp .Sub u v) Q E s:=by
 refine ky hx λ a es n hz3=>?_;refine gn hz3 λ t rq1 ho si=>?_;subst rq1;refine ky hy λ b eb m hz3=>?_;refine gn hz3 λ tb rq1 hb sb=>?_;subst rq1;have ho:=st.S_ok _ _ ho;have hb:=st.S_ok _ _ hb;refine wpAny_binaryOp_same (dw ho) (dw hb) on ko (aK ko (dw ho) pR ?_ (qF _ _));show wpAny _ _ (do
  if !(<- Builtin.Frozenset.isAnySet (.ref a)<&&>Builtin.Frozenset.isAnySet (.ref b)) then rule "frozenset.__sub__.declined";return <- ret .notImplemented
  ret (<- Builtin.Frozenset.difference "frozenset.__sub__" (<- Builtin.Frozenset.addrOf (.ref a)) (.ref b))) _ E s
 refine wb (wb (qC ho ?_));refine qC hb ?_;refine wn aQ ?_;refine fm ?_;refine af (FS ho si h4 hb sb hl hc λ s' es' n' t' h1 h2 h3=>?_);exact ag ⟨_,rfl,λ e=>(nomatch e),iT (x:=λ U=>True) st h3 h1 h2 q⟩
theorem Ie {Q:Value->Shared->Prop} {xs ys:List Int} {u v:Value} (st:St W T S H V s) (hx:VR W S H (.w xs) u) (hy:VR W S H (.w ys) v) (h4:xs.length+ys.length<=4)
  (q:Ok W T S H Q (.w (cA (xs++ys))) V):wpAny (model W.prog W.w) A (binaryOp .BitOr u v) Q E s:=by
 refine ky hx λ a es n hz3=>?_;refine gn hz3 λ t rq1 ho si=>?_;subst rq1;refine ky hy λ b eb m hz3=>?_;refine gn hz3 λ tb rq1 hb sb=>?_;subst rq1;have ho':=ho;have hb':=hb;have ho:=st.S_ok _ _ ho;have hb:=st.S_ok _ _ hb;refine wpAny_binaryOp_same (dw ho) (dw hb) qM lU (aK lU (dw ho) qe ?_ (sn _ _));show wpAny _ _ (do
  if !(<- Builtin.Frozenset.isAnySet (.ref a)<&&>Builtin.Frozenset.isAnySet (.ref b)) then rule "frozenset.__or__.declined";return <- ret .notImplemented
  ret (<- (do
   let result <- Builtin.Frozenset.copyOf (<- Builtin.Frozenset.addrOf (.ref a))
   if(Value.ref b)!= .ref a then holding [result] (Builtin.Frozenset.updateFrom "frozenset.__or__" (<- Builtin.Frozenset.addrOf result) (.ref b))
   return result))) _ E s
 refine wb (wb (qC ho ?_));refine qC hb ?_;refine af (fm ?_);refine af (Bs ho si (by lia) λ s' es' n' t' h1 h2 h3=>?_)
 by_cases hab:(Value.ref b !=Value.ref a)=true
 ·rw[if_pos hab];have hb2:=h3.keep b _ (λ h=>h) hb;have hne:s.heap.objs.size≠b:=aE (aW hb);refine fm ?_;refine af (av ?_);refine af (qC hb2 ?_);refine fm ?_;unfold Builtin.Frozenset.merge;refine af (jU hb2 sb ?_);refine xV hne hb2 sb h1 h2 h4 λ s'' es'' n'' t'' k1 k2 k3=>?_;exact ag (ag ⟨_,rfl,λ e=>(nomatch e),iT (x:=λ U=>True) st (h3.fresh (ai _) k3) k1 k2 q⟩)
 ·rw[if_neg hab];have e:b=a:=by simpa using hab
  subst e;rw[ho] at hb;injection hb with hb;injection hb with _ _ hb _;injection hb with hb _ _;have hb:es=eb:=am Array.toList hb;subst hb;have e2:cA (xs++ys)=xs:=gh (gj _) si.rising λ z=>by
   rw[ik];refine aU si.elems λ y1 p1 i1=>?_;refine aU sb.elems λ y2 p2 i2=>?_;have hy:y1=y2:=i1.eq.trans i2.eq.symm;subst hy;rw[<- p1.mem_iff,<- p2.mem_iff,or_self]
  rw[e2] at q;exact ag (ag ⟨_,rfl,λ e=>(nomatch e),iT (x:=λ U=>True) st h3 h1 h2 q⟩)
theorem sL {X Z:Type} {f:Z->X->Z} (comm:∀a b c,f (f a b) c=f (f a c) b) {l l':List X} (p:l.Perm l'):∀i,l.foldl f i=l'.foldl f i:=by
 induction p with
 |nil=>exact λ U=>rfl
 |cons x _ ih=>exact λ i=>ih _
 |swap x y l=>exact λ i=>by rw[List.foldl_cons,List.foldl_cons,List.foldl_cons,List.foldl_cons,comm]
 |trans _ _ h1 h2=>exact λ i=>(h1 i).trans (h2 i)
theorem IY (a x y:Nat):a^^^x^^^y=a^^^y^^^x:=by rw[Nat.xor_assoc,Nat.xor_comm x y,<- Nat.xor_assoc]
theorem vN {g:Int->Nat} {l l':List Int} (p:l.Perm l') (i:Nat):l.foldl (λ acc x=>acc^^^g x) i=l'.foldl (λ acc x=>acc^^^g x) i:=sL (f:=λ (acc:Nat) (x:Int)=>acc^^^g x) (λ a b c=>IY _ _ _) p i
theorem qD {hs hs':List Int} (p:hs.Perm hs'):Builtin.Frozenset.hashOf hs=Builtin.Frozenset.hashOf hs':=by
 unfold Builtin.Frozenset.hashOf;dsimp only;rw[p.length_eq];rw[vN p]
theorem kO.hashes {w:World} {es:List (Int×Value)} {ys:List Int} (h:kO w es ys):es.map (·.1)=ys.map hashInt:=by
 induction h with
 |nil=>rfl
 |cons a _ ih=>rw[List.map_cons,List.map_cons,a.1,ih]
theorem bJ.hashes {es:List (Int×Value)} {t:SetTable} {xs:List Int} (si:bJ W.w es t xs):(es.map (·.1)).Perm (xs.map hashInt):=by
 refine aU si.elems λ ys p i=>?_;rw[i.hashes];exact p.map _
theorem tw {w:World} {i:Int} {tk:Tok} {Q:Bool->Shared->Prop} (q:Q true s):wpAny (model W.prog w) A (Builtin.Frozenset.quietEq (.int i tk)) Q E s:=ag q
theorem lF {X:Type} {es:List (Int×Value)} {ys:List Int} (hi:kO W.w es ys) {f:Int×Value->X->Sem (ForInStep X)} {i:X} {Q:X->Shared->Prop}
  (hf:∀e∈es,∀(Q:ForInStep X->Shared->Prop),Q (.yield i) s->wpAny (model W.prog W.w) A (f e i) Q E s) (q:Q i s):wpAny (model W.prog W.w) A (forIn es i f) Q E s:=by
 refine mS _ (λ rest c s'=>s'=s/\c=i/\∀e∈rest,e∈es) _ ?_ ?_ _ _ ⟨rfl,rfl,λ U h=>h⟩
 ·rintro e rest c s' ⟨rfl,rfl,h⟩;exact hf e (h e (.head _)) _ ⟨rfl,rfl,λ e h'=>h e (.tail _ h')⟩
 ·rintro c s' ⟨rfl,rfl,_⟩;exact q
theorem H4 {Q:Value->Shared->Prop} {xs ys:List Int} {u v:Value} (st:St W T S H V s) (hx:VR W S H (.w xs) u) (hy:VR W S H (.w ys) v) (h4:xs.length<=4) (hl:ys.length<4000) (hu:A.units<cLine)
  (q:Q (.bool (xs !=ys)) s):wpAny (model W.prog W.w) A (compareOp .NotEq u v) Q E s:=by
 refine ky hx λ a es n hz3=>?_;refine gn hz3 λ t rq1 ho si=>?_;subst rq1;refine ky hy λ b eb m hz3=>?_;refine gn hz3 λ tb rq1 hb sb=>?_;subst rq1;have ho:=st.S_ok _ _ ho;have hb:=st.S_ok _ _ hb;have hls:=si.len;have hlb:=sb.len;refine wpAny_richCompare_same_room (op:= .NotEq) (dw ho) (dw hb) mn (aK mn (dw ho) qK ?_ (rU _ _)) (by omega)
 refine fm ?_;dsimp only;refine wb (qC hb ?_);refine fm ?_;refine fm ?_;refine wb (jp ho si (wb (jp hb sb ?_)));have key:∀(b:Bool),b=(xs==ys)->wpAny (model W.prog W.w) A.in1 (ret (.bool !b)) (λ fin s'=>∃v,fin=Fin.done (Flow.ret v)/\v≠Value.notImplemented/\Q v s') E s:=λ b e=>by
  subst e;exact ag ⟨_,rfl,λ e=>(nomatch e),q⟩
 refine wb ?_;by_cases hne:xs.length=ys.length
 ·rw[if_neg (by simpa using hne)]
  refine wb (wb (bB (dw ho) fL (bB (dw hb) fL ?_)));refine wb (wb (dF ho si (ag ?_)));refine af (wb (dF hb sb (ag ?_)));obtain⟨y1,p1,i1⟩:=si.elems;obtain⟨y2,p2,i2⟩:=sb.elems;have sub:∀(Q':Bool->Shared->Prop),Q' (xs==ys) s->wpAny (model W.prog W.w) A.in1 (Builtin.Frozenset.subsetOf "frozenset.__ne__" a b) Q' E s:=by
   intro Q' q';refine wb (jp ho si (wb (jp hb sb ?_)));refine wn (by lia) ?_
   refine wb (jU ho si ?_);refine wb (wb (wb (dF ho si (ag ?_))));refine wb (wb (dF hb sb (ag ?_)));have i12:=kO.of (w:=W.w) (es:=es++eb) λ e he=>(aY.mp he).elim (i1.each e) (i2.each e);refine wb (lF i12 (λ e he Q' q'=>?_) (ag ?_))
   ·obtain⟨h,x⟩:=e;refine dP (i12.each _ he) λ i tk rq1 rq2=>?_;subst rq1;subst rq2;refine wb (tw ?_);exact ag q'
   refine wb (mS _
    (λ rest c s'=>s'=s/\c.1=none/\∃done,done++rest=es/\∀e∈done,fx e.2∈ys)
    _ ?_ ?_ _ _ ⟨rfl,rfl,[],rfl,by simp⟩)
   ·rintro⟨h,x⟩ rest c s' ⟨rfl,hc,done,hd,hall⟩;refine dP (i1.each (h,x) (by rw[<- hd];simp)) λ i tk rq1 rq2=>?_
    subst rq1;subst rq2;refine wb (av (ze hb sb hl λ r0 e0=>?_))
    induction hi:ys.contains i using Jp with
    |true=>
     rw[hi] at e0;refine wn (by rcases r0 with _|_<;>simp at e0 ⊢) ?_
     refine wb (yV ho si (ag ⟨rfl,rfl,done++[(hashInt i, .int i tk)],by simpa using hd,λ e he=>?_⟩))
     rcases aY.mp he with he|he
     ·exact hall e he
     ·rw[List.mem_singleton] at he;subst he;exact(by simpa using hi:i∈ys)
    |false=>
     rw[hi] at e0;refine wy (by rcases r0 with _|_<;>simp at e0 ⊢) ?_
     have:(xs==ys)=false:=by
      rw[beq_eq_false_iff_ne];rintro rfl;have hm:i∈xs:=p1.mem_iff.mp (by rw[i1.eq];exact cC.mpr ⟨(hashInt i, .int i tk),by rw[<- hd];simp,rfl⟩)
      simp[hm] at hi
     rw[this] at q';exact ag (ag q')
   ·rintro⟨c1,c2⟩ s' ⟨rfl,hc,done,hd,hall⟩;simp only at hc;subst hc;rw[List.append_nil] at hd;subst hd;have:(xs==ys)=true:=by
     rw[beq_iff_eq];refine(sQ si.rising sb.rising λ z hz=>?_).eq_of_length hne;rw[<- p1.mem_iff,i1.eq] at hz;refine aU (cC.mp hz) λ e he rq1=>?_;subst rq1;exact hall e he
    rw[this] at q';exact ag q'
  split
  ·rename_i hh;have hxy:(xs==ys)=false:=by
    rw[beq_eq_false_iff_ne];rintro rfl;rw[qD (si.hashes.trans sb.hashes.symm),bne_self_eq_false] at hh;exact nomatch hh
   refine wb ?_;rw[<- Array.forIn_toList];refine lF i1 (λ e he Q' q'=>?_) ?_
   ·obtain⟨h,x⟩:=e;refine dP (i1.each _ he) λ i tk rq1 rq2=>?_;subst rq1;subst rq2;refine wb (tw ?_);exact ag q'
   refine wb ?_;rw[<- Array.forIn_toList];refine lF i2 (λ e he Q' q'=>?_) ?_
   ·obtain⟨h,x⟩:=e;refine dP (i2.each _ he) λ i tk rq1 rq2=>?_;subst rq1;subst rq2;refine wb (tw ?_);refine wn aQ ?_;exact ag q'
   exact wb (bO (ag (key false hxy.symm)))
  ·exact sub _ (key _ rfl)
 ·rw[if_pos (by simpa using hne)]
  refine ag (key false ?_);rw[eq_comm,beq_eq_false_iff_ne];rintro rfl;exact hne rfl
theorem Hl {Q:Bool->Shared->Prop} {i:Int} {ys:List Int} {u v:Value} (st:St W T S H V s) (hx:VR W S H (.int i) u) (hy:VR W S H (.w ys) v) (hl:ys.length<4000)
  (q:Q (ys.contains i) {s with toks:=s.toks+1}):wpAny (model W.prog W.w) A (contains v u) Q E s:=by
 refine ce hx λ tk rq1=>?_;subst rq1;refine ky hy λ b eb m hz3=>?_;refine gn hz3 λ tb rq1 hb sb=>?_;subst rq1;have hb:=st.S_ok _ _ hb;unfold contains
 try with_reducible refine av ?_
 refine wb (bL (dw hb) FB.slot_frozenset_contains.lookup ?_);refine wn (by rw[beq_builtin_none];exact aQ) ?_
 refine af (wpAny_callSpecialUnlessNone?_slot (name:=Str.ofString "__contains__") (dw hb) FB.slot_frozenset_contains
  (aK FB.slot_frozenset_contains (dw hb) FB.entry_frozenset_contains ?_ (FB.args_frozenset_contains_2 _ _)))
 unfold Builtin.«frozenset.__contains__» Builtin.Frozenset.oneOther;simp only[List.isEmpty_nil,bind_assoc];refine fm ?_
 try dsimp only
 refine fm ?_
 try dsimp only
 refine wb (wpAny_tryCatch ?_);refine av ?_;refine wb ((PySem.intKind W.prog W.w).pyHash (k:=i) (by simp[PySem.intKind,Value.isInt]) ?_)
 refine wb (ze (s:={s with toks:=s.toks+1}) hb sb hl λ r hr=>?_);refine ag ?_;rw[hr];exact ag ⟨_,rfl,bD q⟩
end
theorem vF {M:Expr->Prop} {e:Expr} (p:Nat->Bool) {b:Bool} (h:p e.ctorIdx=b) (c0:∀u v w,p 0=b->M (.BoolOp u v w)) (c1:∀u v w,p 1=b->M (.NamedExpr u v w)) (c2:∀u v w x,p 2=b->M (.BinOp u v w x)) (c3:∀u v w,p 3=b->M (.UnaryOp u v w)) (c4:∀u v w x,p 4=b->M (.Lambda u v w x)) (c5:∀u v w x,p 5=b->M (.IfExp u v w x)) (c6:∀u v w,p 6=b->M (.Dict u v w)) (c7:∀u v w,p 7=b->M (.Set u v w)) (c8:∀u v w x,p 8=b->M (.ListComp u v w x)) (c9:∀u v w x,p 9=b->M (.SetComp u v w x)) (c10:∀u v w x y,p 10=b->M (.DictComp u v w x y)) (c11:∀u v w x,p 11=b->M (.GeneratorExp u v w x)) (c12:∀u v,p 12=b->M (.Await u v)) (c13:∀u v,p 13=b->M (.Yield u v)) (c14:∀u v,p 14=b->M (.YieldFrom u v)) (c15:∀u v w x,p 15=b->M (.Compare u v w x)) (c16:∀u v w x,p 16=b->M (.Call u v w x)) (c17:∀u v w x,p 17=b->M (.FormattedValue u v w x)) (c18:∀u v,p 18=b->M (.JoinedStr u v)) (c19:∀u v w,p 19=b->M (.Constant u v w)) (c20:∀u v w,p 20=b->M (.Attribute u v w)) (c21:∀u v w,p 21=b->M (.Subscript u v w)) (c22:∀u v,p 22=b->M (.Starred u v)) (c23:∀u v,p 23=b->M (.Name u v)) (c24:∀u v,p 24=b->M (.List u v)) (c25:∀u v w,p 25=b->M (.Tuple u v w)) (c26:∀u v w x,p 26=b->M (.Slice u v w x)):M e:=
 Expr.casesOn (motive_1:=λ e=>p e.ctorIdx=b->M e) e c0 c1 c2 c3 c4 c5 c6 c7 c8 c9 c10 c11 c12 c13 c14 c15 c16 c17 c18 c19 c20 c21 c22 c23 c24 c25 c26 h
theorem yF:mroOf (.type "frozenset")=pure [.type "frozenset", .type "object"]:=by rw[mroOf_type];kernel_rfl
theorem nh:typeLookup (.type "frozenset") "__new__"=pure (some (.builtin "frozenset.__new__")):=by rw[typeLookup_type,builtinLookup_eq_fast];kernel_rfl
theorem fZ:Slot "frozenset" "__init__" "object.__init__":=
 .of (owner:="object") (n:="__init__") (by rw[typeLookup_type,builtinLookup_eq_fast];kernel_rfl) (by decide+kernel) (by decide+kernel) (by decide+kernel)
  (by first|exact .inl (by decide+kernel)|exact .inr (by decide+kernel)) (by rw[isSubtype_type];kernel_rfl)
theorem nL:TypeCalled "frozenset" "frozenset.__new__" "object.__init__":=
 ⟨by decide+kernel,by decide+kernel,⟨_,_,yF⟩,madeBy_type yF nh (by decide+kernel),by decide+kernel,by rw[isSubtype_type];kernel_rfl,fZ⟩
theorem mT:checkTypeCall "frozenset" ⟨[],[]⟩=pure ():=by kernel_rfl
theorem m9 (a:Value):checkTypeCall "frozenset" ⟨[a],[]⟩=pure ():=by kernel_rfl
theorem pZ:checkBuiltinCall "frozenset.__new__" ⟨[.type "frozenset"],[]⟩=pure ():=by kernel_rfl
theorem pL (a:Value):checkBuiltinCall "frozenset.__new__" ⟨[.type "frozenset",a],[]⟩=pure ():=by kernel_rfl
theorem jy:entryFor table "frozenset.__new__"=some Builtin.«frozenset.__new__»:=entryFor_of_tree (by kernel_rfl)
section
variable{W:Wd} {A:Around} {R:Result->Shared->Prop} {I:Addr} {fp wr:List Addr} {G:Array GenState->Array GenState->Prop} {n:Nat} {P:Nat->Value->Prop} {St':Nat->Shared->Prop}
noncomputable def qi (W:Wd) (c:String) (h:Heap) (a:Addr) (xs:List Int):Prop:=∃es k t,h.get? a=some (bV c es k t)/\bJ W.w es t xs
theorem AN {c:String} (K:WalksS W.prog W.w A.in1 I fp wr G n P St') (r:Addr) (hSf:r∉fp) (ns:List Int) (hn:ns.length=n) (hl:n<4000)
  (hval:∀i v,P i v->∃x t,ns[i]? =some x/\v= .int x t):
  ∀(k i:Nat) (s:Shared) (zs:List Int),n - i=k->i<=n->St' i s->qi W c s.heap r zs->zs.length<=i->(∀z,z∈zs↔z∈ns.take i)->
   (∀s',Moved (r::wr) G s s'->qi W c s'.heap r (cA ns)->R (.ok (.ret .none)) s')->
   codeAny (model W.prog W.w) A (.builtin "set.update.loop" ⟨[.ref r, .ref I],[]⟩) R s:=by
 have hSw:r∉wr:=λ h=>hSf (K.sub _ h);have hsub:∀b∈wr,b∈r::wr:=λ b hb=>List.mem_cons_of_mem _ hb;intro k
 induction k with
 |zero=>
  intro i s zs hk hi hst hS hle hz hR;have hin:i=n:=Hz hk hi;subst hin;refine codeAny_builtin F.entry_set_update_loop ?_;rw[Around.under_plainId F.plain_set_update_loop _];refine wb (K.done s _ _ hst λ s' hm=>?_);refine DU hS λ es k t ho si=>?_;refine ag (hR s' (hm.mono hsub) ⟨es,k,t,hm.heap r _ hSw ho,?_⟩);rw[<- gh si.rising (gj ns) λ z=>by rw[hz z,nz,List.take_of_length_le (Nat.le_of_eq hn)]];exact si
 |succ k ih=>
  intro i s zs hk hi hst hS hle hz hR;have hlt:i<n:=HG hk;refine codeAny_builtin F.entry_set_update_loop ?_;rw[Around.under_plainId F.plain_set_update_loop _];refine wb (K.item i s _ _ hlt hst λ v s' hP hst' hm=>?_);refine dP (hval i v hP) λ x t hx rq1=>?_;subst rq1;refine DU hS λ es k' tb ho si=>?_;have ho':=hm.heap r _ hSw ho;refine wb (av ?_);refine av ?_;refine wb ((PySem.intKind W.prog W.w).pyHash (k:=x) (by simp[PySem.intKind,Value.isInt]) ?_)
  refine ur (s:={s' with toks:=s'.toks+1}) ho' si (aj hle (az hlt hl)) λ h2 es2 n2 t2 b e1 si2 kp=>?_;refine ag ⟨plainId_quiet F.plain_set_update_loop _,ih (i+1) _ (jX x zs) (HN hk) hlt (K.frame _ s' _ _ hst' (bG _) λ b hb o e=>?_) ⟨es2,n2,t2,e1,si2⟩ ?_ (λ z=>?_) λ s'' hm'' hS''=>?_⟩
  ·exact kp.keep b o (λ h:b=r=>hSf (by rw[<- h];exact hb)) e
  ·exact ah (mq (x:=x) si.rising) (aX hle)
  ·rw[gC,hz z,List.take_add_one,List.mem_append,hx];simp[or_comm]
  ·refine hR s'' (Moved.trans K.gtrans ((hm.mono hsub).then_heap (bG _) λ b o hb e=>?_) hm'') hS'';exact kp.keep b o (λ h:b=r=>hb (by rw[h];exact List.mem_cons_self)) e
end
theorem bW.at {W:Wd} {S:PH} {H:Io} {xs:List HV}:∀{vs:List Value},bW W S H xs vs->∀(i:Nat) (v:Value),vs[i]? =some v->∃x,xs[i]? =some x/\VR W S H x v:=by
 induction xs with
 |nil=>intro vs h i v e;rw[h.nil] at e;exact dX e
 |cons x xs ih=>
  intro vs h i v e;refine dL h.cons λ u us rq a b=>?_;rw[rq] at e
  induction i using Jq with
  |zero=>exact⟨x,rfl,aA e▸a⟩
  |succ i=>exact ih b i v e
theorem pT {W:Wd} {S:PH} {H:Io} {ns:List Int} {vs:List Value} (h:bW W S H (ns.map .int) vs) (i:Nat) (v:Value) (e:vs[i]? =some v):∃x t,ns[i]? =some x/\v= .int x t:=
 aU (bW.at h i v e) λ x h1 h2=>aU (aZ.mp (List.getElem?_map▸h1)) λ n h3 rq=>by
  subst rq;exact h2.elim λ t e=>⟨n,t,h3,e⟩
section
variable{W:Wd} {S:PH} {H:Io} {s:Shared} {A:Around} {E:Value->Shared->Prop}
theorem tJ {c:String} (hc:c="set"\/c="frozenset") {id:String} {Q:Unit->Shared->Prop} {l r:Addr} {vs:List Value} {m n:Nat} {t:SetTable} {ns:List Int} (hh:A.handled=none) (hr:s.heap.get? r=some (bV c [] n t)) (si:bJ W.w [] t [])
  (hl:s.heap.get? l=some (dY vs m)) (hv:bW W S H (ns.map .int) vs) (hlen:ns.length<4000)
  (q:∀s',qi W c s'.heap r (cA ns)->Kp (·=r) s s'->Q () s'):wpAny (model W.prog W.w) A (Builtin.Frozenset.updateFrom id r (.ref l)) Q E s:=by
 have hT:s.TypeIs (.ref l) "list":=⟨_,hl,rfl⟩;have hlr:l≠r:=λ e=>by subst e;rw[hl] at hr;rcases hc with rfl|rfl<;>exact aN (am (λ o=>o.map (·.cls)) hr) (by simp)
 have hvl:ns.length=vs.length:=by have:=hv.length;simpa using this
 refine wb (wb (bB hT F.sub_list_set (bB hT F.sub_list_frozenset ?_)));refine wb (wpAny_typeOf hT ?_);refine wn (by decide) ?_
 refine wb (wpAny_pyIter_list ⟨_,hl,rfl,m,rfl⟩ ?_);have hneI:l≠s.heap.objs.size:=aH (aW hl);have hrI:r≠s.heap.objs.size:=aH (aW hr);refine wb (wpAny_runValue ?_);refine AN (c:=c) ((Walks.list (by simp[hh]) _ l hneI vs.toArray).toS) r ?_ ns (by simpa using hvl) (by simp;lia) (λ i v hv'=>pT hv i v (by simpa using hv')) _ 0 _ [] rfl (aO _) ⟨⟨_,aC _ rfl,rfl,rfl⟩,⟨_,aq _ hl,rfl,m,rfl⟩⟩
  ⟨[],n,t,aq _ hr,si⟩ (ai _) (by simp) λ s' hm hS'=>?_
 ·simp[hrI,hlr.symm]
 ·refine ag (q s' hS' ⟨λ b o hb e=>?_,hm.os,hm.gens⟩);refine hm.heap b o ?_ (aq _ e);have:b≠s.heap.objs.size:=aH (aW e);simp[this,show¬b=r from hb]
end
section
variable{W:Wd} {T S:PH} {H:Io} {V:aF} {s:Shared} {A:Around} {E:Value->Shared->Prop}
theorem yX {c:String} (hc:c="set"\/c="frozenset") {id:String} {Q:Value->Shared->Prop} {l:Addr} {vs:List Value} {m:Nat} {ns:List Int} (hh:A.handled=none)
  (hl:s.heap.get? l=some (dY vs m)) (hv:bW W S H (ns.map .int) vs) (hlen:ns.length<4000)
  (q:∀s',qi W c s'.heap s.heap.objs.size (cA ns)->Kp (λ U=>False) s s'->Q (.ref s.heap.objs.size) s'):wpAny (model W.prog W.w) A (Builtin.Frozenset.newFrom id (.type c) (.ref l)) Q E s:=by
 unfold Builtin.Frozenset.newFrom;refine wb (jj λ t0 s0=>?_);refine fm ?_;refine af (av ?_);refine tJ hc hh (aC _ rfl) s0 (s:={s with heap:=s.heap.push (bV c [] 0 t0)}) (aq _ hl) hv hlen λ s' h1 h2=>?_;exact ag (q s' h1 ((Kp.push s _).fresh (ai _) h2))
theorem tM {ty newId:String} {Bn:Builtin} {args:List Value} {Q:Value->Shared->Prop} (ft:TypeCalled ty newId "object.__init__")
  (hne:(some newId !=some "object.__new__")=true) (hct:checkTypeCall ty ⟨args,[]⟩=pure ()) (hcn:checkBuiltinCall newId ⟨.type ty::args,[]⟩=pure ())
  (hok:∀obj,argsOk "object.__init__" ⟨obj::args,[]⟩) (entryN:entryFor table newId=some Bn)
  (h:wpAny (model W.prog W.w) A.in1.in1 (Bn ⟨.type ty::args,[]⟩) (λ fin s'=>∃v,fin= .done (.ret v)/\s'.TypeIs v ty/\Q v s') E s):wpAny (model W.prog W.w) A (call (.type ty) args) Q E s:=by
 refine callType_codes ft hct F.entry_object_init (Q₁:=λ v s'=>s'.TypeIs v ty/\Q v s') (codeAny_call_builtin ft.plain entryN (wpAny_of_eq hcn ?_)) λ obj s₁ hq=>⟨hq.1,hok obj,?_⟩
 ·refine dg h (λ fin s' hf=>?_) λ e s' he=>he;refine gn hf λ v rq1 h1 h2=>?_;subst rq1;exact⟨h1,h2⟩
 ·exact object_init_meets ft.init.lookup ft.made hne _ _ _ _ _ ⟨hq.1,rfl,hq.2⟩
theorem kq:typeName (.type "frozenset")=pure "frozenset":=by first|kernel_rfl|rfl
theorem oS:typeName (.type "set")=pure "set":=by first|kernel_rfl|rfl
theorem args_object_init_1 (a:Value):argsOk "object.__init__" ⟨[a],[]⟩:=by first|exact F.args_object_init_1 a|(unfold argsOk;kernel_rfl)
theorem E1 {Q:Value->Shared->Prop} {i:Nat} {u:Value} {ns:List Int} (st:St W T S H V s) (hh:A.handled=none) (hu:VR W S H (.ref i) u) (hσ:V[i]? =some (.list (ns.map .int))) (hlen:ns.length<4000)
  (q:Ok W T S H Q (.w (cA ns)) V):wpAny (model W.prog W.w) A (call (.type "frozenset") [u]) Q E s:=by
 refine aU hu λ p hp rq1=>?_;subst rq1;refine dP (st.obj i _ p hσ hp) λ vs m ho hv=>?_;have hT:s.TypeIs (.ref p.1) "list":=⟨_,ho,rfl⟩;refine tM nL (by decide) (m9 _) (pL _) (λ obj=>F.args_object_init_2 obj _) jy ?_
 have hinit:=fZ.lookup;have hnc:Builtin.Frozenset.newClass "frozenset" ⟨[.type "frozenset", .ref p.1],[]⟩=pure (.type "frozenset",[.ref p.1]):=by
  unfold Builtin.Frozenset.newClass;have h1:isType (.type "frozenset")=pure true:=rfl;simp only[h1,fL,pure_bind,Bool.not_true,Bool.false_eq_true,↓reduceIte]
 refine wb (wpAny_of_eq hnc ?_);refine wb (wpAny_of_eq hinit ?_);refine wy (by decide) ?_
 refine fm ?_;refine wb (m:=typeNameCut 200 (.type "frozenset")) (wpAny_of_eq (show typeNameCut 200 (.type "frozenset")=pure "frozenset" from kq) ?_);refine fm ?_;refine wy (by decide) ?_
 refine wb (wpAny_typeOf hT ?_);refine wn (by decide) ?_
 refine wb (yX (.inr rfl) (by simp[hh]) ho hv hlen λ s' h1 h2=>?_)
 refine DU h1 λ es k t e1 si=>?_;exact ag ⟨_,rfl,⟨_,e1,rfl⟩,iT (x:=λ U=>True) st h2 e1 si q⟩
theorem Gn {Q:Value->Shared->Prop} (st:St W T S H V s) (q:Ok W T S H Q (.w []) V):wpAny (model W.prog W.w) A (call (.type "frozenset") []) Q E s:=by
 refine tM nL (by decide) mT pZ (λ obj=>args_object_init_1 obj) jy ?_
 have hinit:=fZ.lookup;have hnc:Builtin.Frozenset.newClass "frozenset" ⟨[.type "frozenset"],[]⟩=pure (.type "frozenset",[]):=by
  unfold Builtin.Frozenset.newClass;have h1:isType (.type "frozenset")=pure true:=rfl;simp only[h1,fL,pure_bind,Bool.not_true,Bool.false_eq_true,↓reduceIte]
 refine af (wpAny_of_eq hnc ?_);dsimp only;refine wb (wpAny_of_eq hinit ?_);refine wy (by decide) ?_
 refine fm ?_;refine wb (m:=typeNameCut 200 (.type "frozenset")) (wpAny_of_eq (show typeNameCut 200 (.type "frozenset")=pure "frozenset" from kq) ?_);refine fm ?_;refine wb (jj λ t0 s0=>?_);have e1:(s.heap.push (bV "frozenset" [] 0 t0)).get? s.heap.objs.size=_:=aC _ rfl;exact ag ⟨_,rfl,⟨_,e1,rfl⟩,iT (x:=λ U=>True) st (Kp.push s _) e1 s0 q⟩
theorem sS (a:Value) {Q₁:Value->Shared->Prop} (q:∀t,bJ W.w [] t []->Q₁ (.ref s.heap.objs.size) {s with heap:=s.heap.push (bV "set" [] 0 t)}):
  codeAny (model W.prog W.w) A (.call (.builtin "set.__new__") ⟨[.type "set",a],[]⟩) (wants Q₁ E) s:=by
 refine codeAny_call_builtin F.plain_set_new F.entry_set_new (wpAny_of_eq (F.newCall_set_1 a) ?_);have hnc:Builtin.Frozenset.newClass "set" ⟨[.type "set",a],[]⟩=pure (.type "set",[a]):=by
  unfold Builtin.Frozenset.newClass;have h1:isType (.type "set")=pure true:=rfl;simp only[h1,sub_set_self,pure_bind,Bool.not_true,Bool.false_eq_true,↓reduceIte]
 refine wb (wpAny_of_eq hnc ?_);refine wb (jj λ t0 s0=>?_);exact ag (q t0 s0)
set_option maxHeartbeats 3200000 in
theorem F5 {Q:Value->Shared->Prop} {i:Nat} {u:Value} {ns:List Int} (st:St W T S H V s) (hh:A.handled=none) (hu:VR W S H (.ref i) u) (hσ:V[i]? =some (.list (ns.map .int))) (hlen:ns.length<4000)
  (q:Ok W T S H Q (.uset (cA ns)) V):wpAny (model W.prog W.w) A (call (.type "set") [u]) Q E s:=by
 refine aU hu λ p hp rq1=>?_;subst rq1;refine dP (st.obj i _ p hσ hp) λ vs m ho hv=>?_;refine Es F.called_set.mro λ c tl hmro=>?_;have hmade:=F.called_set.made;have hsub:=F.called_set.sub;refine kY (codeAny_of_tree ?_);refine ag ⟨Code.quiet_builtin _ (by decide+kernel),codeAny_builtin F.entry_type_call ?_⟩
 rw[Around.under_plain (weight_type_call_type "set" [.ref p.1] []) rfl];have h1:=F.called_set.notType;have h2:=F.called_set.canCreate;have hct:=F.typeCall_set_1 (.ref p.1)
 repeat(any_goals(first|assumption|wp_step))
 refine codeAny_mono (sS (W:=W) (.ref p.1) (E:=E) (Q₁:=λ obj s₁=>∃t,bJ W.w [] t []/\obj= .ref s.heap.objs.size/\s₁={s with heap:=s.heap.push (bV "set" [] 0 t)}) λ t h=>⟨t,h,rfl,rfl⟩) λ r s₁ hr=>?_;cases r with
 |error e=>exact hr
 |ok fl=>
  cases fl with
  |ret obj=>
   refine gn hr λ t0 s0 rq1 rq2=>?_;subst rq1;subst rq2;have hS:(s.heap.push (bV "set" [] 0 t0)).get? s.heap.objs.size=some (bV "set" [] 0 t0):=aC _ rfl;have hT:Shared.TypeIs {s with heap:=s.heap.push (bV "set" [] 0 t0)} (.ref s.heap.objs.size) "set":=⟨_,hS,rfl⟩;have hli:=F.called_set.init.lookup;have hbi:=F.called_set.init.bind (.ref s.heap.objs.size)
   repeat(any_goals(first|assumption|wp_step))
   refine codeAny_mono (codeAny_call_builtin (R:=wants (λ r s₂=>r= .none/\qi W "set" s₂.heap s.heap.objs.size (cA ns)/\Kp (λ U=>False) s s₂) E) F.called_set.init.plain F.entry_set_init (check_set_init_1 hT ?_)) λ r₂ s₂ hr₂=>?_
   ·show wpAny _ _ (noKeywords "set" _>>=_) _ _ _;refine fm ?_;refine wb (wb (wb (wpAny_typeOf hT ?_)));refine wn (by decide) ?_
    refine ag (wpAny_of_eq (show typeNameCut 200 (.type "set")=pure "set" from oS) ?_);refine fm ?_;refine fm ?_;refine af (wb (dF (s:={s with heap:=s.heap.push (bV "set" [] 0 t0)}) hS s0 (ag ?_)));have hf:t0.fill=0:=by
     refine pG (s0.small (by simp)) λ m1 m2 m3 m4=>?_
     have:=s0.fits;simp only[SetTable.fits,Bool.and_eq_true,beq_iff_eq] at this;simp[SetTable.fill,m2,this.1]
    rw[hf,if_neg (by decide)]
    refine wb (tJ (.inl rfl) (by simp[hh]) (s:={s with heap:=s.heap.push (bV "set" [] 0 t0)}) hS s0 (aq _ ho) hv hlen λ s' h1 h2=>?_)
    exact ag ⟨rfl,h1,(Kp.push s _).fresh (ai _) h2⟩
   ·cases r₂ with
    |error e=>exact hr₂
    |ok fl₂=>
     cases fl₂ with
     |ret r=>
      refine kB hr₂ λ rq1 hq1 h2=>?_;refine DU hq1 λ es k t e1 si=>?_;subst rq1
      repeat(any_goals(first|assumption|wp_step))
      exact q (upd S s.heap.objs.size (bV "set" es k t)) H _ _ (dN (st.S_new (ai _))) (ax _) (st.addS (ai _) h2 (λ U f=>f.elim) e1) ⟨_,es,k,t,rfl,cH _ _ _,si⟩
     |_=>exact hr₂.elim
  |_=>exact hr.elim
end
noncomputable def Ck:BO->Operator
 | .add=> .Add
 | .sub=> .Sub
 | .mul=> .Mult
 | .fdiv=> .FloorDiv
 | .mod=> .Mod
 | .pow=> .Pow
 | .bor=> .BitOr
noncomputable def fX:CO->CmpOp
 | .eq=> .Eq
 | .ne=> .NotEq
 | .lt=> .Lt
 | .le=> .LtE
 | .gt=> .Gt
 | .ge=> .GtE
 | .is_=> .Is
 | .n=> .IsNot
 | .in_=> .In
 | .notin=> .NotIn
theorem lH {x:Int} (h:eV x=true):Builtin.Int.intBits x<=4194305:=by
 unfold eV at h;have:=ae h;unfold Builtin.Int.intBits
 split
 ·lia
 ·lia
theorem Ex {x y:Int} (hx:eV x=true) (hy:eV y=true):IntMulOk x y:=by
 have a:=lH hx;have b:=lH hy;have h:Builtin.Int.intTooBig (Builtin.Int.intBits x+Builtin.Int.intBits y)=false:=by
  unfold Builtin.Int.intTooBig bitsLine;exact Ea (by lia)
 unfold IntMulOk;rw[h];simp
section
variable{W:Wd} {T S:PH} {H:Io} {V:aF} {s:Shared} {A:Around} {E:Value->Shared->Prop}
theorem St.list (st:St W T S H V s) {i:Nat} {u:Value} {xs:List HV} (hu:VR W S H (.ref i) u) (h:V[i]? =some (.list xs)):
  ∃p vs n,u= .ref p.1/\H[i]? =some p/\s.heap.get? p.1=some (dY vs n)/\bW W S H xs vs:=
 aU hu λ p hp e=>dP (st.obj i _ p h hp) λ vs n ho hv=>⟨p,vs,n,e,hp,ho,hv⟩
theorem dm {h:Heap} {a:Addr} {vs:List Value} {n:Nat} (e:h.get? a=some (dY vs n)):h.IsList a vs.toArray:=⟨_,e,rfl,n,rfl⟩
theorem gl {h:Heap} {a:Addr} {vs:List Value} {n:Nat} (e:h.get? a=some (dU vs n)):h.IsTuple a vs.toArray:=⟨_,e,rfl,n,rfl⟩
theorem gc {xs:List HV} {vs:List Value} {s':Shared} {a:Addr} {n:Nat} {Q:Value->Shared->Prop} (st:St W T S H V s) (ha:s.heap.objs.size<=a) (k:Kp (λ U=>False) s s') (h:s'.heap.get? a=some (dY vs n)) (hv:bW W S H xs vs)
  (q:Ok W T S H Q (.ref V.length) (V++[.list xs])):Q (.ref a) s':=by
 refine q S (H++[(a,0)]) _ s' (cY.refl S) (List.prefix_append _ _) ((st.same k).addI (st.off_new ha) ⟨vs,n,h,hv⟩) ⟨(a,0),?_,rfl⟩;rw[<- st.len];simp
theorem tx {xs:List HV} {vs:List Value} {s':Shared} {a:Addr} {n:Nat} {Q:Value->Shared->Prop} (st:St W T S H V s) (ha:s.heap.objs.size<=a) (k:Kp (λ U=>False) s s') (h:s'.heap.get? a=some (dU vs n)) (hv:bW W S H xs vs)
  (q:Ok W T S H Q (.t xs) V):Q (.ref a) s':=
 q (upd S a (dU vs n)) H _ s' (dN (st.S_new ha)) (ax _) (st.addS ha k (λ U f=>f.elim) h) ⟨a,vs,n,rfl,cH _ _ _,hv.mono (dN (st.S_new ha)) (ax _)⟩
theorem uW {S:PH} {H:Io} {xs:List HV} {vs:List Value} (h:bW W S H xs vs):∀n,bW W S H (zu xs n) (List.replicate n vs).flatten:=by
 intro l_
 induction l_ with
 |zero=>
  exact trivial
 |succ n ih=>
  rw[List.replicate_succ,List.flatten_cons];exact h.append (ih)
theorem zz {op:BO} {x y:HV} {K:KV} {u v:Value} {Q:Value->Shared->Prop} (st:St W T S H V s) (h:dh V K op x y) (hx:VR W S H x u) (hy:VR W S H y v) (q:∀r V',K r V'->Ok W T S H Q r V'):
  wpAny (model W.prog W.w) A (binaryOp (Ck op) u v) Q E s:=by
 have go:∀z:Int,K (.int z) V->Q (.int z s.toks) {s with toks:=s.toks+1}:=λ z k=>(q _ _ k).same (st.toks _) ⟨_,rfl⟩;revert hx hy
 induction h with
 |add _ _ k=>rintro⟨t,rfl⟩ ⟨t',rfl⟩;exact P.add_int (go _ k)
 |sub _ _ k=>rintro⟨t,rfl⟩ ⟨t',rfl⟩;exact P.sub_int (go _ k)
 |mul h1 h2 k=>rintro⟨t,rfl⟩ ⟨t',rfl⟩;exact P.mul_int (go _ k) (Ex h1 h2)
 |fdiv _ _ h1 h2 k=>rintro⟨t,rfl⟩ ⟨t',rfl⟩;exact floordiv_int h1 (go _ k) (.inl (PyProof.noPylong_small h2))
 |mod _ _ h1 k=>rintro⟨t,rfl⟩ ⟨t',rfl⟩;exact mod_int' h1 (go _ k)
 |pow k=>
  rintro⟨t,rfl⟩ ⟨t',rfl⟩;exact pow_int (by decide) (by decide+kernel) (go _ k)
 |cat h1 h2 hl k=>
  intro hx hy;refine nv (st.list hx h1) λ p vs n rq1 U ho hv=>?_;subst rq1;refine nv (st.list hy h2) λ p' vs' n' rq1 U ho' hv'=>?_;subst rq1;refine P.add_list ho ho' ?_ (by rw[List.size_toArray,List.size_toArray,sizeLine_eq,<- hv.length,<- hv'.length];exact ah (bP hl) (by decide))
  exact gc (n:=0) (vs:=vs++vs') st (ai _) (Kp.push s _) (by rw[Heap.get?_push_size _ rfl];simp) (hv.append hv') (q _ _ k)
 |@rep i k xs h1 h2 h3 h4 kk=>
  rintro hx ⟨t',rfl⟩;refine nv (st.list hx h1) λ p vs n rq1 U ho hv=>?_;subst rq1;have hlen:=hv.length;have hsz:vs.toArray.size*k.toNat<=256:=by
   rw[List.size_toArray];exact ah (Nat.mul_le_mul (show vs.length<=1 by lia) (show k.toNat<=100 by lia)) (by decide)
  refine wpAny_binaryOp_repeat_ref (T:="list") (U:="int") (by decide) ⟨_,ho,rfl⟩ (λ s'=>typeIs_int s' k t') noFill_list_mul F.fills_int_mul F.slot_int_rmul repeat_list F.slot_int_index.lookup
   (call_meets F.slot_int_rmul (typeIs_int s k t') F.entry_int_rmul (F.args_int_rmul_2 _ _) (int___rmul___int_list k t' p.1 vs.toArray n)
    ⟨ho,rfl,⟨_,ho,rfl⟩,call_meets F.slot_list_mul ⟨_,ho,rfl⟩ F.entry_list_mul (F.args_list_mul_2 _ _)
     (AutoListH.list___mul___list_int_3 p.1 vs.toArray n k t' (by simp[Builtin.List.listFitsIndex];lia) (by lia) (by simp[Builtin.List.listTooLong,sizeLine] at hsz ⊢;lia))
     ⟨ho,?_⟩⟩)
  rw[listMul_foldl_if];exact gc (vs:=(List.replicate k.toNat vs).flatten) st (ai _) (Kp.push s _) (aC _ rfl) (uW hv _) (q _ _ kk)
 |fsub h1 h2 h3 k=>exact λ hx hy=>F6 st hx hy h2 (by unfold lim at h1;lia) (by simpa only[Bool.or_eq_true,decide_eq_true_eq,List.isEmpty_iff] using h3) (q _ _ k)
 |bor h1 k=>exact λ hx hy=>Ie st hx hy h1 (q _ _ k)
end
section
variable{W:Wd} {S:PH} {H:Io}
theorem zJ {n:Nat} {z z' k:HV} {y:Value} {b b':Bool} (h:VR W S H z y) (h':VR W S H z' y) (e:cU n z k=some b) (e':cU n z' k=some b'):b=b':=by
 induction b using Jp with
 |true=>exact(jk e' h' (o8 e▸h)).symm
 |false=>
  induction b' using Jp with
  |false=>rfl
  |true=>exact jk e h (o8 e'▸h')
theorem qL {k:HV} {xs:List HV}:∀{b:Bool},ew k xs=some b->(∀z∈xs,(cU 8 z k).isSome=true)/\b=xs.any λ z=>veq z k:=by
 induction xs with
 |nil=>exact λ h=>⟨λ U h=>(ii h),(aA h).symm⟩
 |cons x r ih=>
  intro b h;refine dL (BN h) λ c d e1 e2 e=>cO (ih e2) λ h1 h2=>⟨λ z hz=>(aB.mp hz).elim (λ q=>by rw[q,e1];rfl) (h1 z),?_⟩
  rw[List.any_cons,<- h2,<- e];exact am (·||d) (by unfold veq;rw[e1];rcases c with _|_<;>rfl)
noncomputable def ql (W:Wd) (S:PH) (H:Io) (k:HV) (xs:List HV) (y:Value):Bool:=@decide (∃z∈xs,VR W S H z y/\cU 8 z k=some true) (Classical.propDecidable _)
theorem pg {k:HV} {xs:List HV} {z:HV} {y:Value} {b:Bool} (hz:z∈xs) (hy:VR W S H z y) (e:cU 8 z k=some b) (hall:∀z∈xs,(cU 8 z k).isSome=true):ql W S H k xs y=b:=by
 induction b using Jp with
 |true=>exact@b6 _ (Classical.propDecidable _) ⟨z,hz,hy,e⟩
 |false=>
  refine@Ea _ (Classical.propDecidable _) ?_;intro hq1;refine gn hq1 λ z' hz' hy' e'=>?_;have:=zJ hy hy' e e';cases this
theorem pD {A:Around} {s:Shared} {k:HV} {xs:List HV} {vs:List Value} {u:Value} (hu:A.units+8<cLine) (hS:zm S s) (hx:bW W S H xs vs) (hk:VR W S H k u) (hall:∀z∈xs,(cU 8 z k).isSome=true):
  ∀y,y∈vs.toArray->SeqAt.EqAt A s y u (ql W S H k xs y):=by
 intro y hy prog w E Q q;refine ce (ba.mp (by simpa using hy:y∈vs)) λ i hi=>?_
 refine aU (hx.at i y hi) λ z hz hzy=>?_;have hm:=ar hz;refine ce (bo.mp (hall z hm)) λ b e=>?_;rw[pg hm hzy e hall] at q;exact GF 8 e hzy hk hS hu q
theorem rH {k:HV} {xs:List HV} {vs:List Value} (hx:bW W S H xs vs) (hall:∀z∈xs,(cU 8 z k).isSome=true):vs.toArray.any (ql W S H k xs)=xs.any λ z=>veq z k:=by
 have key:∀{ys:List HV} {us:List Value},bW W S H ys us->(∀z∈ys,z∈xs)->us.any (ql W S H k xs)=ys.any λ z=>veq z k:=by
  intro ys
  induction ys with
  |nil=>intro us h _;induction us using Jo with
   |nil=>rfl
   |cons _ _=>exact h.elim
  |cons y ys ih=>intro us h hs;induction us using Jo with
   |nil=>exact h.elim
   |cons v us=>
    rw[List.any_cons,List.any_cons,ih h.2 λ z hz=>hs z (.tail _ hz)];have hm:=hs y (.head _);refine ce (bo.mp (hall y hm)) λ b e=>?_;rw[pg hm h.1 e hall];have:veq y k=b:=by unfold veq;rw[e];rcases b with _|_<;>rfl
    rw[this]
 rw[List.any_toArray];exact key hx λ U h=>h
end
section
variable{W:Wd} {S:PH} {H:Io} {pr:Program} {wd:World} {s:Shared}
theorem Ad {n:Nat} {A:Around} (ih:wj W S H pr wd s n A)
  {a b:Addr} {xs ys:List HV} {vs us:List Value} {n1 n2:Nat} {r:Bool} {P:Fin->Shared->Prop} {E:Value->Shared->Prop}
  (h:ic n xs ys=some r) (ha:s.heap.get? a=some (dU vs n1)) (hb:s.heap.get? b=some (dU us n2)) (hx:bW W S H xs vs) (hy:bW W S H ys us) (hS:zm S s) (hu:A.units+n<cLine)
  (q:P (.done (.ret (.bool !r))) s):wpAny (model pr wd) A (Builtin.«tuple.__ne__» ⟨[.ref a, .ref b],[]⟩) P E s:=
 wb (m:=isInstance (.ref b) (.type "tuple")) (bB (dR hb) isSubtype_tuple_tuple (wn (by decide) (wb (fR ha (wb (fR hb (wb (ry (λ U U=>rfl) ih hS hu h hx hy (λ e=>ag (show P (.done (.ret (.bool !false))) s from e▸q)) λ e=>ag (show P (.done (.ret (.bool !(decide (vs.length=us.length))))) s from e.symm▸q)))))))))
end
section
variable{W:Wd} {T S:PH} {H:Io} {V:aF} {s:Shared} {A:Around} {E:Value->Shared->Prop}
theorem St.noSys (st:St W T S H V s) {i:Nat} {p:Addr×Nat} (hp:H[i]? =some p):(p.1==sysModules)=false:=by
 rw[beq_eq_false_iff_ne];intro e;refine ce (bo.mp W.sys) λ o ho=>?_;have:=st.base _ _ ho;rw[<- e,(st.free p (List.mem_of_getElem? hp)).1] at this;cases this
theorem xj {x c:HV} {u v:Value} {b:Bool} {Q:Bool->Shared->Prop} (st:St W T S H V s) (hu:A.units+16<cLine) (h:r8 V x c b) (hx:VR W S H x u) (hc:VR W S H c v) (q:∀s',St W T S H V s'->Q b s'):
  wpAny (model W.prog W.w) A (contains v u) Q E s:=by
 have hu1:A.in1.units+8<cLine:=by show A.units+1+8<cLine;lia
 revert hx hc
 induction h with
 |@t x ys _ h=>
  intro hx hq1;refine iR hq1 λ a vs n rq1 ho r=>?_;subst rq1;have ho:=st.S_ok _ _ ho;refine cO (qL h) λ hall hb=>?_;refine wpAny_contains_slot (dR ho) F.slot_tuple_contains (call_meets F.slot_tuple_contains (dR ho) F.entry_tuple_contains (F.args_tuple_contains_2 _ _) (SeqAt.tuple_containsAt a vs.toArray n none #[] u (ql W S H x ys))
   ⟨ho,pD hu1 st.S_ok r hx hall,?_⟩)
  rw[rH r hall,<- hb];exact bD (q s st)
 |@l x i ys _ hσ h=>
  intro hx hq2;refine aU hq2 λ p hp rq1=>?_;subst rq1;refine dP (st.obj i _ p hσ hp) λ vs n ho r=>?_;refine cO (qL h) λ hall hb=>?_;refine wpAny_contains_slot (T:="list") ⟨_,ho,rfl⟩ F.slot_list_contains (call_meets F.slot_list_contains ⟨_,ho,rfl⟩ F.entry_list_contains (F.args_list_contains_2 _ _) (SeqAt.list_containsAt p.1 vs.toArray n none #[] u (ql W S H x ys))
   ⟨ho,pD hu1 st.S_ok r hx hall,?_⟩)
  rw[rH r hall,<- hb];exact bD (q s st)
 |@dct x i kvs hσ hk=>
  intro hx hq3;refine aU hq3 λ p hp rq1=>?_;subst rq1;refine dP (st.obj i _ p hσ hp) λ es n ho U=>?_;have hT:s.TypeIs (.ref p.1) "dict":=⟨_,ho,rfl⟩;refine wpAny_contains_slot hT F.slot_dict_contains (aK F.slot_dict_contains hT F.entry_dict_contains ?_ (F.args_dict_contains_2 _ _));refine fm (wb (Cs st hσ hp hu1 hk hx λ r tk hr=>?_));have e:Builtin.Dict.pendingKey? p.1 u=pure none:=by
   unfold Builtin.Dict.pendingKey?;rw[st.noSys hp];rfl
  have fin:∀b:Bool,(bA x kvs).isSome=b->wpAny (model W.prog W.w) A (truthy (.bool b)) (λ r s'=>Q r s') E {s with toks:=tk}:=λ b hb=>bD (hb▸q _ (st.toks _))
  induction hd:bA x kvs using Jn with
  |some w'=>
   rw[hd] at hr fin
   induction r using Jn with
   |none=>exact hr.elim
   |some r=>exact fm (ag ⟨_,rfl,fin _ rfl⟩)
  |none=>
   rw[hd] at hr fin
   induction r using Jn with
   |some r=>exact hr.elim
   |none=>
    exact wb (wpAny_of_eq e (ag ⟨_,rfl,fin _ rfl⟩))
 |fs hl=>exact λ hx hc=>Hl st hx hc (by unfold lim at hl;lia) (q _ (st.toks _))
theorem cG:∀{xs:List HV} {l:List Int},cr xs=some l->xs=l.map .int:=by
 intro l_
 induction l_ with
 |nil=>
  intro l h;exact(aA h)▸rfl
 |cons x r ih=>
  intro l h;cases x with
  |int i=>
   have h:(match cr r with|some l=>some (i::l)| .none=> .none)=some l:=h
   induction e:cr r using Jn with
   |none=>replace h:=e▸h;exact dX h
   |some l'=>rw[e] at h;rw[<- Option.some.inj h,ih e];rfl
  |_=>exact dX h
theorem i8 {a b:List Int} (hl:a.length=b.length):(List.range a.length).all (λ j=>decide (a.getD j 0=b.getD j 0))=(a==b):=by
 rw[Bool.eq_iff_iff,List.all_eq_true,beq_iff_eq];constructor
 ·intro h;refine List.ext_getElem hl λ j h1 h2=>?_;have:=h j (cy.mpr h1)
  simpa[List.getD_eq_getElem?_getD,h1,h2] using this
 ·rintro rfl j _;simp
theorem nX {a b:List Int} {vs us:List Value} (ha:bW W S H (a.map .int) vs) (hb:bW W S H (b.map .int) us):∀j (h1:j<vs.toArray.size) (h2:j<us.toArray.size),SeqAt.EqAt A s vs.toArray[j] us.toArray[j] (decide (a.getD j 0=b.getD j 0)):=by
 intro j h1 h2;refine dP (pT ha j vs.toArray[j] (by simp at h1;simp[h1])) λ x t e1 e2=>?_
 refine dP (pT hb j us.toArray[j] (by simp at h2;simp[h2])) λ y t' e3 e4=>?_
 rw[e2,e4,List.getD_eq_getElem?_getD,List.getD_eq_getElem?_getD,e1,e3];exact λ pr w E Q q=>wpAny_eqBool_int q
theorem lh (W:Wd) {k k':Nat} (ha:k<W.strL.length) (hb:k'<W.strL.length):(W.str k==W.str k')=Nat.beq k k':=by
 rw[Bool.eq_iff_iff,beq_iff_eq];constructor
 ·intro e;rw[W.str_inj ha hb e];simp
 ·intro e;rw[Nat.eq_of_beq_eq_true e]
theorem Im {x y:HV} {b:Bool} {u v:Value} {Q:Value->Shared->Prop} (st:St W T S H V s) (hu:A.units+16<cLine) (h:Dh V x y b) (hf:wW x=false) (hx:VR W S H x u) (hy:VR W S H y v) (q:Q (.bool b) s):
  wpAny (model W.prog W.w) A (compareOp .Eq u v) Q E s:=by
 revert hx hy
 induction h with
 |@l i j xs ys a b' h1 h2 e1 e2=>
  intro hx hy;refine nv (st.list hx h1) λ p vs n rq1 U ho hv=>?_;subst rq1;refine nv (st.list hy h2) λ p' us n' rq1 U ho' hv'=>?_;subst rq1;rw[cG e1] at hv;rw[cG e2] at hv';have l1:=hv.length;have l2:=hv'.length;rw[List.length_map] at l1 l2;by_cases hl:a.length=b'.length
  ·refine SeqAt.eq_listAt (dm ho) (dm ho') (by simp;lia) (Nat.lt_of_add_right_lt hu) (nX hv hv') ?_
   rw[List.size_toArray,<- l1,i8 hl];exact q
  ·refine SeqAt.eq_list_lengthsAt (dm ho) (dm ho') (by simp;lia) (Nat.lt_of_add_right_lt hu) ?_
   rw[show(a==b')=false from beq_eq_false_iff_ne.mpr λ e=>hl (congrArg _ e)] at q;exact q
 |fs=>exact rO hf
 |c h hn=>
  have c:=C1.of h;clear h;cases c with
  |none=>exact rO hn
  |int=>intro hq1 hq2;refine ce hq1 λ t rq1=>?_;refine ce hq2 λ t' rq2=>?_;subst rq1;subst rq2;exact P.eq_int q
  |str=>
   rintro⟨ha,t,rfl⟩ ⟨hb,t',rfl⟩;refine PyProof.Rows.eq_str ?_;rw[lh W ha hb];exact q
  |t h=>
   intro hq6 hq7;refine iR hq6 λ a vs n1 rq1 h1 r1=>?_;refine iR hq7 λ a' us n2 rq2 h2 r2=>?_;subst rq1;subst rq2;have g1:=st.S_ok _ _ h1;have g2:=st.S_ok _ _ h2;exact wpAny_richCompare_same_room (op:= .Eq) (dR g1) (dR g2) F.slot_tuple_eq
     (aK F.slot_tuple_eq (dR g1) F.entry_tuple_eq (tZ (A:=A.in1) (λ h hx hy hS hu q=>GF 7 h hx hy hS hu q) h g1 g2 r1 r2 st.S_ok (by show A.units+1+7<cLine;lia) ⟨_,rfl,(λ e=>nomatch e),q⟩) (F.args_tuple_eq_2 _ _)) (Nat.lt_of_add_right_lt hu)
theorem HR {x y:HV} {b:Bool} {u v:Value} {Q:Value->Shared->Prop} (st:St W T S H V s) (hu:A.units+16<cLine) (h:Dh V x y b) (hx:VR W S H x u) (hy:VR W S H y v) (q:Q (.bool !b) s):
  wpAny (model W.prog W.w) A (compareOp .NotEq u v) Q E s:=by
 revert hx hy
 induction h with
 |@l i j xs ys a b' h1 h2 e1 e2=>
  intro hx hy;refine nv (st.list hx h1) λ p vs n rq1 U ho hv=>?_;subst rq1;refine nv (st.list hy h2) λ p' us n' rq1 U ho' hv'=>?_;subst rq1;rw[cG e1] at hv;rw[cG e2] at hv';have l1:=hv.length;have l2:=hv'.length;rw[List.length_map] at l1 l2;by_cases hl:a.length=b'.length
  ·refine SeqAt.RcNeAt.lists (dm ho) (dm ho') (by simp;lia) (Nat.lt_of_add_right_lt hu) (nX hv hv') _ _ _ _ ?_
   rw[List.size_toArray,<- l1,i8 hl];exact q
  ·refine SeqAt.RcNeAt.lists_lengths (dm ho) (dm ho') (by simp;lia) (Nat.lt_of_add_right_lt hu) _ _ _ _ ?_
   rw[show(a==b')=false from beq_eq_false_iff_ne.mpr λ e=>hl (congrArg _ e)] at q;exact q
 |fs h1 h2=>exact λ hx hy=>H4 st hx hy h1 (by unfold lim at h2;lia) (Nat.lt_of_add_right_lt hu) q
 |c h hn=>
  have c:=C1.of h;clear h;cases c with
  |none=>exact rO hn
  |int=>intro hq3 hq4;refine ce hq3 λ t rq1=>?_;refine ce hq4 λ t' rq2=>?_;subst rq1;subst rq2;exact P.ne_int q
  |str=>
   rintro⟨ha,t,rfl⟩ ⟨hb,t',rfl⟩;refine PyProof.Rows.ne_str ?_;rw[show(W.str _ !=W.str _)=!(W.str _==W.str _) from rfl,lh W ha hb];exact q
  |t h=>
   intro hq10 hq11;refine iR hq10 λ a vs n1 rq1 h1 r1=>?_;refine iR hq11 λ a' us n2 rq2 h2 r2=>?_;subst rq1;subst rq2;have g1:=st.S_ok _ _ h1;have g2:=st.S_ok _ _ h2;exact wpAny_richCompare_same_room (op:= .NotEq) (dR g1) (dR g2) F.slot_tuple_ne
     (aK F.slot_tuple_ne (dR g1) F.entry_tuple_ne (Ad (A:=A.in1) (λ h hx hy hS hu q=>GF 7 h hx hy hS hu q) h g1 g2 r1 r2 st.S_ok (by show A.units+1+7<cLine;lia) ⟨_,rfl,(λ e=>nomatch e),q⟩) (F.args_tuple_ne_2 _ _)) (Nat.lt_of_add_right_lt hu)
theorem G9 {x:HV} {u:Value} (hx:VR W S H x u):plainIs u .none=true/\(u== .none)=isNone x:=by
 cases x with
 |none=>subst hx;exact⟨rfl,rfl⟩
 |bool b=>subst hx;exact⟨rfl,rfl⟩
 |int i=>obtain⟨t,rfl⟩:=hx;exact⟨rfl,rfl⟩
 |str k=>obtain⟨_,t,rfl⟩:=hx;exact⟨rfl,rfl⟩
 |fn k=>subst hx;exact⟨rfl,rfl⟩
 |cls c=>subst hx;exact⟨rfl,rfl⟩
 |ref i=>refine aU hx λ p _ rq1=>?_;subst rq1;exact⟨rfl,rfl⟩
 |obj c i=>refine dL hx λ y p _ rq1 _=>?_;subst rq1;exact⟨rfl,rfl⟩
 |meth k c i=>refine iR hx λ a y p _ rq1 _=>?_;subst rq1;exact⟨rfl,rfl⟩
 |clo k cs=>refine ky hx λ a o fd hz3=>?_;refine aU hz3 λ cl rq1 _=>?_;subst rq1;exact⟨rfl,rfl⟩
 |rl xs=>refine ky hx λ a vs o hz3=>?_;refine aU hz3 λ n rq1 _=>?_;subst rq1;exact⟨rfl,rfl⟩
 |t xs=>refine DU hx λ a vs n rq1 _=>?_;subst rq1;exact⟨rfl,rfl⟩
 |_=>refine ky hx λ a vs n hz3=>?_;refine aU hz3 λ t rq1 _=>?_;subst rq1;exact⟨rfl,rfl⟩
theorem g9 {op:CO} {x y:HV} {F:Bool->Prop} {u v:Value} {Q:Value->Shared->Prop} (st:St W T S H V s) (hu:A.units+16<cLine) (h:aS V F op x y) (hx:VR W S H x u) (hy:VR W S H y v) (q:∀b,F b->∀s',St W T S H V s'->Q (.bool b) s'):
  wpAny (model W.prog W.w) A (compareOp (fX op) u v) Q E s:=by
 revert hx hy
 induction h with
 |eq h hf k=>exact λ hx hy=>Im st hu h hf hx hy (q _ k s st)
 |ne h k=>exact λ hx hy=>HR st hu h hx hy (q _ k s st)
 |lt k=>intro hq9 hq10;refine ce hq9 λ t rq1=>?_;refine ce hq10 λ t' rq2=>?_;subst rq1;subst rq2;exact P.lt_int (q _ k s st)
 |le k=>intro hq11 hq12;refine ce hq11 λ t rq1=>?_;refine ce hq12 λ t' rq2=>?_;subst rq1;subst rq2;exact P.le_int (q _ k s st)
 |gt k=>intro hq13 hq14;refine ce hq13 λ t rq1=>?_;refine ce hq14 λ t' rq2=>?_;subst rq1;subst rq2;exact P.gt_int (q _ k s st)
 |ge k=>intro hq15 hq16;refine ce hq15 λ t rq1=>?_;refine ce hq16 λ t' rq2=>?_;subst rq1;subst rq2;exact P.ge_int (q _ k s st)
 |is_ k=>rintro hx rfl;exact wpAny_is_plain (G9 hx).1 (by rw[(G9 hx).2];exact q _ k s st)
 |n k=>rintro hx rfl;exact wpAny_isNot_plain (G9 hx).1 (by rw[(G9 hx).2];exact q _ k s st)
 |in_ h k=>exact λ hx hy=>af (xj st hu h hx hy λ s' st'=>ag (q _ k s' st'))
 |notin h k=>exact λ hx hy=>af (xj st hu h hx hy λ s' st'=>ag (q _ k s' st'))
end
noncomputable def reread (T:PH) (own:List Addr) (h:Heap):PH:=λ b=>if b∈own then h.get? b else T b
noncomputable def dropT (T:PH) (own:List Addr):PH:=λ b=>if b∈own then none else T b
theorem bE {T:PH} {own:List Addr} {h:Heap} {b:Addr} (hb:b∈own):reread T own h b=h.get? b:=if_pos hb
theorem aJ {T:PH} {own:List Addr} {h:Heap} {b:Addr} (hb:b∉own):reread T own h b=T b:=if_neg hb
theorem fI {T:PH} {own:List Addr} {b:Addr} (hb:b∈own):dropT T own b=none:=if_pos hb
theorem b7 {T:PH} {own:List Addr} {b:Addr} (hb:b∉own):dropT T own b=T b:=if_neg hb
theorem ma (T:PH) (own:List Addr):cY (dropT T own) T:=λ a o e=>by
 by_cases h:a∈own
 ·rw[fI h] at e;cases e
 ·rwa [b7 h] at e
section
variable{W:Wd} {T S:PH} {H:Io} {V:aF} {s s':Shared}
theorem St.reread (st:St W T S H V s) {own:List Addr} (k:Kp (·∈own) s s') (h:∀b∈own,S b=none/\b∉H.map (·.1)):St W (reread T own s'.heap) S H V s' where
 S_ok:=λ a o e=>k.keep a o (λ q=>by rw[(h a q).1] at e;exact nomatch e) (st.S_ok a o e)
 T_ok:=λ a o e=>by
  by_cases q:a∈own
  ·rwa [bE q] at e
  ·rw[aJ q] at e;exact k.keep a o q (st.T_ok a o e)
 TS:=λ a o e=>by
  by_cases q:a∈own
  ·exact(h a q).1
  ·rw[aJ q] at e;exact st.TS a o e
 len:=st.len
 obj:=λ i ho p h1 hp=>by
  have r:=st.obj i ho p h1 hp;refine ce r.isS λ x e=>?_;have e':=k.keep p.1 x (λ q=>(h p.1 q).2 (bI (ar hp))) e;rw[e'];rw[e] at r;exact r
 free:=λ p hp=>⟨(st.free p hp).1,by
  have:p.1∉own:=λ q=>(h p.1 q).2 (bI hp);rw[aJ this];exact(st.free p hp).2⟩
 nd:=st.nd
 base:=st.base
 os:=k.os.trans st.os
 gens:=k.gens.trans st.gens
theorem St.ownT (st:St W T S H V s) {own:List Addr} (h:∀b∈own,∃o,T b=some o):∀b∈own,S b=none/\b∉H.map (·.1):=λ b hb=>by
 refine ce (h b hb) λ o e=>?_;refine⟨st.TS b o e,λ q=>?_⟩;refine aU (cC.mp q) λ p hp rq1=>?_;subst rq1;have:=(st.free p hp).2;rw[e] at this;cases this
theorem St.dropT (st:St W T S H V s) {own:List Addr} (k:Kp (·∈own) s s') (h:∀b∈own,∃o,T b=some o):St W (dropT T own) S H V s':=
 (st.weakT (ma T own)).kp k λ b hb=>⟨(st.ownT h b hb).1,fI hb,(st.ownT h b hb).2⟩
noncomputable def u9 (o:Obj) (c:String) (fs:List Value):Prop:=o.cls= .type c/\o.data= .fields fs.toArray
inductive hU (W:Wd) (S:PH) (H:Io) (T:PH):gz->Nat->Addr->List Addr->Prop
 |t {xs:List HV} {k:Nat} {I a:Addr} {vs:List Value} {n:Nat} {o:Obj}:T I=some o->u9 o "tuple_iterator" [.ref a, .int k 0]->S a=some (dU vs n)->bW W S H xs vs->hU W S H T (.static xs) k I [I]
 |rng {xs:List HV} {k:Nat} {I:Addr} {x left step:Int}:T I=some {cls:= .type "range_iterator",data:= .fields #[rawInt x,rawInt left,rawInt step]}->xs.drop k=dq x step left.toNat->hU W S H T (.static xs) k I [I]
 |set {k:Nat} {I:Addr} {c:String} {a:Addr} {es:List (Int×Value)} {n:Nat} {t:SetTable} {ns:List Int} {slot:Nat}:T I=some {cls:= .type "set_iterator",data:= .fields #[rawInt slot,rawInt k, .ref a,rawInt es.length,rawInt n]}->
   S a=some (bV c es n t)->bJ W.w es t ns->ns.length<=1->(k=0->slot=0)->(0<k->W.w.params.followText "set-order"=true\/∀j∈t.place.toList,j<slot)->hU W S H T (.static (ns.map .int)) k I [I]
 |l {i k:Nat} {I:Addr} {p:Addr×Nat} {o:Obj}:H[i]? =some p->T I=some o->u9 o "list_iterator" [.ref p.1, .int k 0]->hU W S H T (.l i) k I [I]
 |keys {i n k:Nat} {I:Addr} {p:Addr×Nat} {o:Obj}:H[i]? =some p->T I=some o->u9 o "dict_keyiterator" [.ref p.1, .int k 0, .int n 0, .int (p.2+n:Nat) 0]->hU W S H T (.keys i n) k I [I]
 |enum {i k:Nat} {I it:Addr} {p:Addr×Nat} {o:Obj} {old:Value}:I≠it->H[i]? =some p->T I=some {cls:= .type "enumerate",data:= .fields #[.none, .bool false, .ref it,rawInt k, .none,old]}->T it=some o->u9 o "list_iterator" [.ref p.1, .int k 0]->hU W S H T (.enum i) k I [I,it]
end
theorem jW.stE {V:aF} {k:Nat} {F:Option HV->Prop} {xs:List HV} (h:jW V k F (.static xs)):F xs[k]? :=by cases h;assumption
theorem jW.lstE {V:aF} {k:Nat} {F:Option HV->Prop} {i:Nat} (h:jW V k F (.l i)):∃xs,V[i]? =some (.list xs)/\F xs[k]? :=by cases h;exact⟨_,‹_›,‹_›⟩
theorem jW.keysE {V:aF} {k:Nat} {F:Option HV->Prop} {i n:Nat} (h:jW V k F (.keys i n)):∃(kvs:List (HV×HV)) (l:List Int),V[i]? =some (.dict kvs)/\kvs.length=n/\kvs.map (·.1)=l.map .int/\F ((l.map HV.int)[k]?):=by
 cases h with
 |@keys _ _ kvs l h h1 h2 h3=>exact⟨kvs,l,h,h1,cG h2,by rw[<- cG h2,List.getElem?_map];exact h3⟩
theorem jW.enumE {V:aF} {k:Nat} {F:Option HV->Prop} {i:Nat} (h:jW V k F (.enum i)):∃xs,V[i]? =some (.list xs)/\F (xs[k]?.map λ v=> .t [.int k,v]):=by cases h;exact⟨_,‹_›,‹_›⟩
theorem cV:Slot "set_iterator" "__next__" "set_iterator.__next__":=
 .of (owner:="set_iterator") (n:="__next__") (by rw[typeLookup_type,builtinLookup_eq_fast];kernel_rfl) (by decide+kernel) (by decide+kernel) (by decide+kernel)
  (by first|exact .inl (by decide+kernel)|exact .inr (by decide+kernel)) (by rw[isSubtype_type];kernel_rfl)
theorem jO:entryFor table "set_iterator.__next__"=some Builtin.«set_iterator.__next__»:=entryFor_of_tree (by kernel_rfl)
theorem kK (a:Value):argsOk "set_iterator.__next__" ⟨[a],[]⟩:=by unfold argsOk;kernel_rfl
section
variable{W:Wd} {s:Shared} {A:Around} {E:Value->Shared->Prop}
theorem yy {X:Type} {Q:X->Shared->Prop} (hh:A.handled=none) (hE:∀h' e,(∀b o,s.heap.get? b=some o->h'.get? b=some o)->(∃o,h'.get? e=some o/\o.cls= .type "StopIteration")->E (.ref e) {s with heap:=h'}):
  wpAny (model W.prog W.w) A (newExc (.type "StopIteration") []>>=λ x=>(raiseNew x:Sem X)) Q E s:=by
 refine wb ?_;refine wb (wpAny_newObj_type ?_ (by size_fits))
 refine wb (m:=firstArgMember _ _) (wpAny_of_eq (a:=Value.none) (by first|rfl|(simp only[firstArgMember];rfl)) ?_)
 refine wpAny_newObj_type ?_ (by size_fits)
 refine wb (wpAny_handled ?_);rw[hh];refine fm (wpAny_throw ?_);exact hE _ _ (λ b o e=>aq _ (aq _ e)) ⟨_,aC _ rfl,rfl⟩
theorem xL {X:Type} {l:List X} (h:l.length<=1):l=[]\/∃e,l=[e]:=by
 induction l using Jo with
 |nil=>exact .inl rfl
 |cons e r=>exact .inr ⟨e,by rw[List.length_eq_zero_iff.mp (Nat.le_zero.mp (Nat.le_of_succ_le_succ h))]⟩
theorem yb (j k:Nat):SetTable.below #[j] k=if j<k then 1 else 0:=by
 show SetTable.below.go #[j] k 1 0 1=_;by_cases h:j<k
 ·rw[if_pos h];exact(if_pos Nat.one_pos).trans (if_pos h)
 ·rw[if_neg h];exact(if_pos Nat.one_pos).trans (if_neg h)
theorem xT {c:String} {a:Addr} {es:List (Int×Value)} {n:Nat} {t:SetTable} {ns:List Int} {slot k:Nat} {Q:Option (Value×Nat)->Shared->Prop} (ho:s.heap.get? a=some (bV c es n t)) (si:bJ W.w es t ns) (hl:ns.length<=1)
  (h0:k=0->slot=0) (h1:0<k->W.w.params.followText "set-order"=true\/∀j∈t.place.toList,j<slot)
  (qs:∀e slot',es=[e]->k=0->(W.w.params.followText "set-order"=true\/∀j∈t.place.toList,j<slot')->Q (some (e.2,slot')) s) (qn:(es=[]\/0<k)->Q none s):wpAny (model W.prog W.w) A (setNext a slot k n) Q E s:=by
 have hlen:=si.len;have hes:es.length<=1:=hlen▸hl;have h4:es.length<=4:=ah hes (by decide)
 refine pG (si.small h4) λ m1 m2 m3 m4=>?_;have hpl:t.place.size=es.length:=by
  have:=si.fits;simp only[SetTable.fits,Bool.and_eq_true,beq_iff_eq] at this;exact this.1
 refine wb (dF ho si ?_);refine wb (wb (wpAny_askSetting (ag ?_)));show wpAny _ _ (if W.w.params.followText "set-order"=true then _ else _) _ _ _
 induction hb:W.w.params.followText "set-order" using Jp with
 |true=>
  rw[if_pos rfl,if_neg (by simp)]
  refine wb (BV ho si h4 λ r hr=>?_);refine ag ?_;rcases xL hes with rfl|⟨e,rfl⟩
  ·obtain rfl:r=#[]:=Array.toList_inj.mp (List.perm_nil.mp hr);exact qn (.inl rfl)
  ·obtain rfl:r=#[e]:=Array.toList_inj.mp (List.perm_singleton.mp hr)
   induction k using Jq with
   |zero=>exact qs e slot rfl rfl (.inl hb)
   |succ k=>exact qn (.inr (cD k))
 |false=>
  have hled:t.led=true:=by rcases m4 with z|z;exact z;replace z:=hb▸z;exact nomatch z
  refine wn (λ e=>nomatch e) ?_;show wpAny _ _ (if(!t.plain&&decide (es.toArray.size>1))=true then _ else _) _ _ _
  rw[m3];refine wn aQ ?_;show wpAny _ _ ((if(!t.led&&!es.toArray.isEmpty)=true then _ else _)>>=_) _ _ _
  rw[hled];refine wb (wn aQ (ag (ag ?_)));rcases xL hes with rfl|⟨e,rfl⟩
  ·exact qn (.inl rfl)
  ·obtain⟨j,hj⟩:∃j,t.place=#[j]:=Array.size_eq_one_iff.mp hpl
   induction k using Jq with
   |zero=>
    rw[h0 rfl,hj];have hb0:SetTable.below #[j] 0=0:=(yb j 0).trans (if_neg (a0 j));rw[hb0];exact qs e (j+1) rfl rfl (.inr (by simp[hj]))
   |succ k=>
    have hlt:j<slot:=by
     rcases h1 (cD k) with z|z
     ·replace z:=hb▸z;exact nomatch z
     ·exact z j (by simp[hj])
    rw[hj];have hb1:SetTable.below #[j] slot=1:=(yb j slot).trans (if_pos hlt);rw[hb1];exact qn (.inr (cD k))
end
theorem hU.offT {W:Wd} {S:PH} {H:Io} {src:gz} {k:Nat} {T T':PH} {I:Addr} {own:List Addr} (h:hU W S H T src k I own) (e:∀b∈own,T' b=T b):hU W S H T' src k I own:=by
 revert e
 induction h with
 |t h=>exact λ e=> .t ((e _ (.head _)).trans h) ‹_› ‹_› ‹_›
 |rng h=>exact λ e=> .rng ((e _ (.head _)).trans h) ‹_›
 |set h=>exact λ e=> .set ((e _ (.head _)).trans h) ‹_› ‹_› ‹_› ‹_› ‹_›
 |l hp h=>exact λ e=> .l hp ((e _ (.head _)).trans h) ‹_›
 |keys hp h=>exact λ e=> .keys hp ((e _ (.head _)).trans h) ‹_›
 |enum n hp h h2=>exact λ e=> .enum n hp ((e _ (.head _)).trans h) ((e _ (.tail _ (.head _))).trans h2) ‹_›
theorem hU.mono {W:Wd} {S S':PH} {H H':Io} {src:gz} {k:Nat} {T:PH} {I:Addr} {own:List Addr} (hS:cY S S') (hι:H<+:H') (h:hU W S H T src k I own):hU W S' H' T src k I own:=by
 induction h with
 |t h h1 h2 h3=>exact .t h h1 (hS _ _ h2) (h3.mono hS hι)
 |rng h=>exact .rng h ‹_›
 |set h h1=>exact .set h (hS _ _ h1) ‹_› ‹_› ‹_› ‹_›
 |l hp=>exact .l (fg hι hp) ‹_› ‹_›
 |keys hp=>exact .keys (fg hι hp) ‹_› ‹_›
 |enum n hp=>exact .enum n (fg hι hp) ‹_› ‹_› ‹_›
theorem hU.live {W:Wd} {S:PH} {H:Io} {src:gz} {k:Nat} {T:PH} {I:Addr} {own:List Addr} (h:hU W S H T src k I own):∀b∈own,∃o,T b=some o:=by
 have one:∀{I o},T I=some o->∀b∈[I],∃o,T b=some o:=λ h b hb=>⟨_,al.mp hb▸h⟩
 induction h with
 |t h=>exact one h
 |rng h=>exact one h
 |set h=>exact one h
 |l _ h=>exact one h
 |keys _ h=>exact one h
 |enum _ _ h h2=>exact λ b hb=>(aB.mp hb).elim (λ e=>⟨_,e▸h⟩) λ hb=>⟨_,al.mp hb▸h2⟩
section
variable{W:Wd} {T S:PH} {H:Io} {V:aF} {s:Shared} {A:Around} {E:Value->Shared->Prop}
theorem H0 (t:Expr) (x v:Value) (p:Pos):letOwnedTupleGo t x v=pure ()\/letOwnedTupleGo t x v=letOwnedTupleGo (.List [] p) x v:=by
 apply vF (e:=t) (λ _=>true) rfl<;>(repeat intro U)<;>first|exact .inl rfl|exact .inr rfl
theorem vj {target:Expr} {I:Addr} {o:Obj} {c:String} {fs:List Value} {v:Value} {Q:Unit->Shared->Prop} (ho:s.heap.get? I=some o) (hf:u9 o c fs)
  (hc:["enumerate","zip","dict_itemiterator","dict_reverseitemiterator","odict_iterator","itertools.zip_longest","itertools.pairwise"].contains c=false) (q:Q () s):
  wpAny (model W.prog W.w) A (letOwnedTupleGo target (.ref I) v) Q E s:=by
 have main:wpAny (model W.prog W.w) A (match(Value.ref I,v) with
   |(.ref r, .ref a)=>do
    let o <- load r
    match o.cls,o.data with
    | .type n, .fields vs=>
     if["enumerate","zip","dict_itemiterator","dict_reverseitemiterator","odict_iterator","itertools.zip_longest","itertools.pairwise"].contains n&&vs[0]? ==some (rawInt a) then
      rule "for.unpacks-the-owned-tuple"
      updateField r 0 .none
     else pure ()
    |_,_=>pure ()
   |_=>pure ()) Q E s:=by
  cases v with
  |ref a=>
   refine af (kZ ho ?_);refine cO hf λ h1 h2=>?_;rw[h1,h2];exact wn (by rw[hc];exact aQ) (ag q)
  |_=>exact ag q
 rcases H0 target (.ref I) v target.pos with e|e<;>rw[e]
 ·exact ag q
 ·exact main
noncomputable def tS (s:gz):Nat:=s.ctorIdx - 2
noncomputable def ix (e:Expr):Bool:=Nat.beq e.ctorIdx 25
noncomputable def nH (src:gz) (e:Expr):Bool:=tS src==0||ix e
theorem Kp.one {I:Addr} {s s':Shared} (k:Kp (·=I) s s'):Kp (·∈[I]) s s':=k.weak λ b e=>by simp[show b=I from e]
theorem Kp.ext {I:Addr} {s:Shared} {h':Heap} {n:Nat} (hs:Heap.ExtBut I s.heap h'):Kp (·=I) s {s with heap:=h',toks:=n}:=
 ⟨λ b o ne e=>hs b o ne e,rfl,rfl⟩
theorem iJ.intPairs {pr:Program} {wd:World} {kvs:List (HV×HV)} {es:List DictEntry} {l:List Int} (dr:iJ W S H kvs es) (h:kvs.map (·.1)=l.map .int):
  ∃ps:List (Int×Value),ps.map (·.1)=l/\(∀e∈es,∃k,(PySem.intKind pr wd).is k e.key=true/\e.hash=(PySem.intKind pr wd).hash k)/\Pairs (PySem.intKind pr wd) es ps:=by
 have d:=dr.l;clear dr
 induction d generalizing l with
 |nil=>
  induction l using Jo with
  |nil=>exact⟨[],rfl,λ e h=>(nomatch h), .nil⟩
  |cons _ _=>exact nomatch h
 |@cons p e _ _ a _ ih=>
  induction l using Jo with
  |nil=>exact nomatch h
  |cons i l=>
   have h0:p.1= .int i:=(List.cons.inj h).1;refine gn (ih (List.cons.inj h).2) λ ps h1 h2 h3=>?_;have a:VR W S H p.1 e.key/\VR W S H p.2 e.val/\e.hash=dp W p.1:=a;replace a:=h0▸a;have hi:(PySem.intKind pr wd).is i e.key=true:=by rw[a.1.choose_spec];exact beq_self_eq_true i
   exact⟨(i,e.val)::ps,am (List.cons i) h1,λ x hx=>(aB.mp hx).elim (λ q=>q▸⟨i,hi,a.2.2⟩) (h2 x), .cons hi rfl h3⟩
theorem uq {d:Addr} {kvs:List (HV×HV)} {l:List Int} {p:Addr×Nat} (h:OR W S H (.dict kvs) p (s.heap.get? d)) (hl:kvs.map (·.1)=l.map .int):
  ∃ps:List (Int×Value),ps.map (·.1)=l/\s.heap.DictAt (PySem.intKind W.prog W.w) d ps (p.2+kvs.length):=by
 refine Eg h λ es n ho dr hn pw U=>?_;refine gn (dr.intPairs (pr:=W.prog) (wd:=W.w) hl) λ ps h1 h2 h3=>?_;refine⟨ps,h1,_,es.toArray,ho,⟨rfl,rfl,rfl⟩,by rw[<- hn],λ e he=>h2 e (by simpa using he),by simpa using h3,?_⟩
 rw[h1];have:=List.pairwise_map (f:=λ x:HV×HV=>x.1) (R:=λ x y=>cU 8 x y=some false)|>.mpr pw;rw[hl] at this;exact(List.pairwise_map.mp this).imp λ h=>of_decide_eq_false (aA h)
noncomputable def fY (s:gz):Bool:=Nat.beq s.ctorIdx 3
inductive NR (W:Wd) (own:List Addr) (src:gz) (k:Nat) (I:Addr) (V:aF) (T S:PH) (H:Io) (F:Option HV->Prop) (val:Value) (s':Shared):Prop
 |mk {v:HV} {S':PH} (f:F (some v)) (p:cY S S') (st:St W (reread T own s'.heap) S' H V s') (it:hU W S' H (reread T own s'.heap) src (k+1) I own) (r:VR W S' H v val):NR W own src k I V T S H F val s'
noncomputable def Iu (W:Wd) (A:Around) (E:Value->Shared->Prop) (target:Expr) (own:List Addr) (src:gz) (k:Nat) (I:Addr) (V:aF) (T S:PH) (H:Io) (F:Option HV->Prop) (N:Shared->Prop):Option Value->Shared->Prop
 |none,s=>N s
 |some v,s=>(fY src=false->NR W own src k I V T S H F v s)/\wpAny (model W.prog W.w) A (letOwnedTupleGo target (.ref I) v) (λ U s=>NR W own src k I V T S H F v s) E s
theorem za {src:gz} {k:Nat} {I:Addr} {own:List Addr} {target:Expr} {F:Option HV->Prop} {N:Shared->Prop} {o:Obj} {c:String} {fs:List Value} {v:Value} (ho:s.heap.get? I=some o) (hf:u9 o c fs)
  (hc:["enumerate","zip","dict_itemiterator","dict_reverseitemiterator","odict_iterator","itertools.zip_longest","itertools.pairwise"].contains c=false) (q:NR W own src k I V T S H F v s):
  Iu W A E target own src k I V T S H F N (some v) s:=⟨λ U=>q,vj ho hf hc q⟩
theorem St.it1 (st:St W T S H V s) {I:Addr} {o:Obj} (hT:T I=some o) {h':Heap} {n:Nat} (hs:Heap.SameBut I s.heap h'):St W (Mine.reread T [I] h') S H V {s with heap:=h',toks:=n}:=
 st.reread (Kp.sameBut hs).one (st.ownT λ b hb=>⟨_,al.mp hb▸hT⟩)
theorem St.it0 (st:St W T S H V s) {I:Addr} {o:Obj} (hT:T I=some o) {h':Heap} {n:Nat} (hs:Heap.ExtBut I s.heap h'):St W (Mine.dropT T [I]) S H V {s with heap:=h',toks:=n}:=
 st.dropT (Kp.ext hs).one λ b hb=>⟨_,al.mp hb▸hT⟩
theorem Ae {T:PH} {I:Addr} {h:Heap} {o:Obj} (e:h.get? I=some o):reread T [I] h I=some o:=(bE (.head _)).trans e
theorem Hi {e:Expr} (h:ix e=true):∃a b c,e= .Tuple a b c:=by
 exact Expr.Tuple.elim e (gx h) λ a b c=>⟨a,b,c,rfl⟩
theorem sH {x:List HV} {vs:List Value} {k:Nat} (h:bW W S H x vs) (e:x[k]? =none):vs.toArray[k]? =none:=by
 rw[List.getElem?_toArray];exact List.getElem?_eq_none_iff.mpr (h.length▸List.getElem?_eq_none_iff.mp e)
theorem bJ.one {w:World} {es:List (Int×Value)} {t:SetTable} {ns:List Int} {e:Int×Value} (si:bJ w es t ns) (he:es=[e]):∃i tk,ns=[i]/\e=(hashInt i, .int i tk):=by
 refine aU si.elems λ ys hp hi=>?_;refine dP (hi.each e (he▸ .head _)) λ i tk q1 q2=>?_;rw[hi.eq,he] at hp;have h1:[fx e.2]=[i]:=by rw[q1];rfl
 exact⟨i,tk,List.perm_singleton.mp (h1▸hp.symm),Prod.ext q2 q1⟩
theorem se {src:gz} {k:Nat} {I:Addr} {own:List Addr} {target:Expr} {F:Option HV->Prop} {N:Shared->Prop} (st:St W T S H V s) (hh:A.handled=none) (it:hU W S H T src k I own) (ht:nH src target=true)
  (hat:jW V k F src) (qn:F none->∀s',St W (dropT T own) S H V s'->N s'):wpAny (model W.prog W.w) A (pyNext (.ref I)) (Iu W A E target own src k I V T S H F N) E s:=by
 induction it with
 |@t xs k I a vs n o hT hf hS hv=>
  have hat:=hat.stE;have hit:s.heap.IsTupleIter I a k:=⟨o,st.T_ok _ _ hT,hf.1,hf.2⟩;have ha:=st.S_ok _ _ hS
  induction hx:xs[k]? using Jn with
  |some v=>
   rw[hx] at hat;refine aU (hv.get hx) λ u hu vu=>?_;refine wpAny_pyNext_tuple_item hit (gl ha) (x:=u) (by simpa using hu) λ h' hit' hs'=>?_
   refine gn hit' λ o' e1 e2 e3=>?_;exact za (s:={s with heap:=h'}) e1 ⟨e2,e3⟩ (by decide) (.mk hat (cY.refl S) (st.it1 hT hs') (.t (Ae e1) ⟨e2,e3⟩ hS hv) vu)
  |none=>
   rw[hx] at hat;have hu:=sH hv hx;exact wpAny_pyNext_tuple_end hh hit (gl ha) hu λ h' hs'=>qn hat _ (st.it0 hT hs')
 |@rng xs k I x left step hT hd=>
  have hat:=hat.stE;have hI:IsRangeIter s.heap I x left step:=st.T_ok _ _ hT;rcases Int.lt_or_le 0 left with hl|hl
  ·obtain⟨m,hm⟩:∃m,left.toNat=m+1:=⟨left.toNat - 1,(Nat.succ_pred_eq_of_pos (Int.lt_toNat.mpr hl)).symm⟩;rw[hm] at hd;have hx:xs[k]? =some (.int x):=by
    have:(xs.drop k)[0]? =some (.int x):=by rw[hd];rfl
    rwa [List.getElem?_drop,Nat.add_zero] at this
   have hd2:xs.drop (k+1)=dq (x+step) step (left - 1).toNat:=by
    have:(xs.drop k).drop 1=dq (x+step) step m:=by rw[hd];rfl
    rw[List.drop_drop,Nat.add_comm] at this;rw[Nat.add_comm,this,Int.pred_toNat,hm];rfl
   rw[hx] at hat;exact wpAny_pyNext_range_item hI hl λ h' hit' hs'=>za (s:={s with heap:=h',toks:=s.toks+1}) hit' ⟨rfl,rfl⟩ (by decide) (.mk hat (cY.refl S) (st.it1 hT hs') (.rng (Ae hit') hd2) ⟨_,rfl⟩)
  ·have hx:xs[k]? =none:=by
    rw[show left.toNat=0 from Int.toNat_of_nonpos hl] at hd;exact List.getElem?_eq_none_iff.mpr (List.drop_eq_nil_iff.mp hd)
   rw[hx] at hat;exact wpAny_pyNext_range_end hh hI hl λ h' hs'=>qn hat _ (st.it0 hT hs')
 |@set k I c a es n t ns slot hT hS si hl1 h0 h1=>
  have hat:=hat.stE;have hI:=st.T_ok _ _ hT;have hlen:=si.len;refine wb (wpAny_attempt (bU (name:=Str.ofString "__next__") ⟨_,hI,rfl⟩ cV
   (aK cV ⟨_,hI,rfl⟩ jO ?_ (kK _))))
  refine fm (wb (wpAny_fieldsOf hI rfl ?_));refine wb (m:=setEntries a) (wb (dF (st.S_ok _ _ hS) si (ag ?_)));refine wn (by simp) ?_
  refine wb (xT (st.S_ok _ _ hS) si hl1 h0 h1 (λ e slot' he hk hs'=>?_) λ hend=>?_)
  ·refine dP (si.one he) λ i tk rq1 rq2=>?_;subst rq1;subst rq2;subst hk;refine wb (cm hI (by simp) λ h₁ e1 s1=>?_)
   refine wb (cm (s:={s with heap:=h₁}) e1 (by simp) λ h₂ e2 s2=>?_)
   exact ag ⟨_,rfl,ag (za (s:={s with heap:=h₂}) e2 ⟨rfl,rfl⟩ (by decide) (.mk hat (cY.refl S) (st.it1 hT (s1.trans s2))
    (.set (Ae e2) hS si hl1 (λ h=>nomatch h) λ U=>hs') ⟨tk,rfl⟩))⟩
  ·have hat:F none:=by
    have:(ns.map HV.int)[k]? =none:=by
     rw[List.getElem?_eq_none_iff,List.length_map];rcases hend with rfl|hk
     ·rw[<- hlen];exact aO _
     ·lia
    rw[this] at hat;exact hat
   refine wb (cm hI (by simp) λ h₁ e1 s1=>?_)
   refine yy (by simp[hh]) λ h₂ x hk hx=>?_
   refine aU hx λ ox hox hcx=>?_;exact wb (bB (T:="StopIteration") (b:=true) ⟨ox,hox,hcx⟩ isSubtype_stop (ag (qn hat _ (st.it0 hT λ b o hb e=>hk b o (s1.extBut b o hb e)))))
 |@l i k I p o hp hT hf=>
  refine aU hat.lstE λ xs hσ hat=>?_;refine dP (st.obj i _ p hσ hp) λ vs n ho hv=>?_;have hit:s.heap.IsListIter I p.1 k:=⟨o,st.T_ok _ _ hT,hf.1,hf.2⟩
  induction hk:xs[k]? using Jn with
  |some v=>
   rw[hk] at hat;refine aU (hv.get hk) λ u hu vu=>?_;refine wpAny_pyNext_list_item hit (dm ho) (x:=u) (by simpa using hu) λ h' hit' hs'=>?_
   refine gn hit' λ o' e1 e2 e3=>?_;exact za (s:={s with heap:=h'}) e1 ⟨e2,e3⟩ (by decide) (.mk hat (cY.refl S) (st.it1 hT hs') (.l hp (Ae e1) ⟨e2,e3⟩) vu)
  |none=>
   rw[hk] at hat;have hu:=sH hv hk;exact wpAny_pyNext_list_end hh hit (dm ho) hu λ h' hs'=>qn hat _ (st.it0 hT hs')
 |@keys i n k I p o hp hT hf=>
  refine HY hat.keysE λ kvs l hσ hn hl hat=>?_;refine aU (uq (s:=s) (st.obj i _ p hσ hp) hl) λ ps h1 hD=>?_;have hlen:ps.length=n:=by rw[<- hn,<- List.length_map (f:=Prod.fst) (as:=kvs),hl,List.length_map,<- h1,List.length_map]
  have hit:s.heap.IsKeyIter I p.1 k ps.length (p.2+kvs.length):=⟨o,st.T_ok _ _ hT,hf.1,by rw[hlen,hn];exact hf.2⟩
  rw[<- h1,List.getElem?_map,List.getElem?_map] at hat
  induction hk:ps[k]? using Jn with
  |some pv=>
   obtain⟨x,vx⟩:=pv;rw[hk] at hat;refine wpAny_pyNext_dict_item hit hD hk λ key h' hkey hit' hs'=>?_;refine gn hit' λ o' e1 e2 e3=>?_;rw[hlen,hn] at e3;exact za (s:={s with heap:=h'}) e1 ⟨e2,e3⟩ (by decide) (.mk hat (cY.refl S) (st.it1 hT hs') (.keys hp (Ae e1) ⟨e2,e3⟩) (Value.isInt_shape hkey))
  |none=>
   rw[hk] at hat;exact wpAny_pyNext_dict_end hh hit hD hk λ h' hs'=>qn hat _ (st.it0 hT hs')
 |@enum i k I it p o old hne hp hT hT2 hf=>
  refine aU hat.enumE λ xs hσ hat=>?_;have live:=(hU.enum (W:=W) (S:=S) hne hp hT hT2 hf).live;have hI:IsEnum s.heap I it k old:=st.T_ok _ _ hT;have hI2:=st.T_ok _ _ hT2;refine dP (st.obj i _ p hσ hp) λ vs n ho hv=>?_;have hit:s.heap.IsListIter it p.1 k:=⟨o,hI2,hf.1,hf.2⟩
  induction hk:xs[k]? using Jn with
  |some v=>
   rw[hk] at hat;refine aU (hv.get hk) λ u hu vu=>?_;refine wpAny_pyNext_enum_item hI hit (dm ho) (x:=u) (by simpa using hu) hne λ h' e1 e2 e3 e4 e5=>⟨λ h=>(nomatch h),?_⟩
   refine ky (Hi ht) λ elts cx pos rq1=>?_;subst rq1;refine wpAny_letOwnedTupleGo_enum (s:={s with heap:=h',toks:=s.toks+1}) e1 λ h'' e6 hs=>?_;have hs:Heap.SameBut I h' h'':=hs;have hlI:I<s.heap.objs.size:=aW hI;have hlit:it<s.heap.objs.size:=aW hI2;have kp:Kp (·∈[I,it]) s {s with heap:=h'',toks:=s.toks+1}:=⟨λ b x hb e=>hs.extBut b x (λ q=>hb (q▸ .head _)) (e5 b x (λ q=>hb (q▸ .head _)) (λ q=>hb (q▸ .tail _ (.head _))) e),rfl,rfl⟩;have ha:h''.get? s.heap.objs.size=some (dU [.int k s.toks,u] 0):=hs.extBut _ _ (aE hlI) e3;have off:Au (Mine.reread T [I,it] h'') S H s.heap.objs.size:=⟨st.S_new (ai _),(aJ λ q=>(aB.mp q).elim (λ q=>bS _ (q▸hlI)) λ q=>bS _ (al.mp q▸hlit)).trans (st.T_new (ai _)),st.io_new (ai _)⟩;refine gn e2 λ o' f1 f2 f3=>?_;have new:=dN (o:=dU [.int k s.toks,u] 0) (st.S_new (ai _));exact .mk hat new ((st.reread kp (st.ownT live)).freezeS off ha) (.enum hne hp ((bE (.head _)).trans e6) ((bE (.tail _ (.head _))).trans (hs.extBut _ _ hne.symm f1)) ⟨f2,f3⟩)
    ⟨_,_,0,rfl,cH _ _ _,⟨_,rfl⟩,vu.mono new (ax _),trivial⟩
  |none=>
   rw[hk] at hat;have hu:=sH hv hk;exact wpAny_pyNext_enum_end hh hI hit (dm ho) hu λ h' hs'=>qn hat _ (st.dropT ((Kp.ext (n:=s.toks) hs').weak λ b e=>(show b=it from e)▸ .tail _ (.head _)) live)
noncomputable def EQ:Expr:= .Constant .none 0 default
theorem rt {src:gz} (h:fY src=false) (hz:∀xs ys,src≠ .zip xs ys):nH src EQ=true:=by
 cases src with
 |zip a b=>exact aN rfl (hz a b)
 |enum i=>exact rO h
 |_=>rfl
theorem yz {src:gz} {k:Nat} {I:Addr} {own:List Addr} {x:HV} {Q:Option Value->Shared->Prop} (st:St W T S H V s) (hh:A.handled=none) (it:hU W S H T src k I own) (he:fY src=false) (hz:∀a b,src≠ .zip a b)
  (hat:jW V k (·=some x) src) (q:∀v s',NR W own src k I V T S H (·=some x) v s'->Q (some v) s'):wpAny (model W.prog W.w) A (pyNext (.ref I)) Q E s:=
 dg (se (N:=λ U=>False) st hh it (rt he hz) hat λ e=>dX e) (λ r s' h=>by cases r;exact h.elim;exact q _ s' (h.1 he)) λ U U h=>h
theorem xb {src:gz} {k:Nat} {I:Addr} {own:List Addr} {Q:Option Value->Shared->Prop} (st:St W T S H V s) (hh:A.handled=none) (it:hU W S H T src k I own) (he:fY src=false) (hz:∀a b,src≠ .zip a b)
  (hat:jW V k (·=none) src) (q:∀s',St W (dropT T own) S H V s'->Q none s'):wpAny (model W.prog W.w) A (pyNext (.ref I)) Q E s:=
 dg (se (N:=λ s=>Q none s) st hh it (rt he hz) hat λ U=>q) (λ r s' h=>by cases r;exact h;cases h.1 he with|mk f=>exact nomatch f) λ U U h=>h
end
theorem jP:entryFor table "set_iterator.__iter__"=some Builtin.«dict_keyiterator.__iter__»:=
 entryFor_alias (id':="dict_keyiterator.__iter__") (by kernel_rfl) (by first|rfl|decide+kernel) (by decide+kernel) (by kernel_rfl)
theorem gm:Slot "set_iterator" "__iter__" "set_iterator.__iter__":=
 .of (owner:="set_iterator") (n:="__iter__") (by rw[typeLookup_type,builtinLookup_eq_fast];kernel_rfl) (by decide+kernel) (by decide+kernel) (by decide+kernel)
  (by first|exact .inl (by decide+kernel)|exact .inr (by decide+kernel)) (by rw[isSubtype_type];kernel_rfl)
theorem kX (a:Value):argsOk "set_iterator.__iter__" ⟨[a],[]⟩:=by unfold argsOk;kernel_rfl
theorem lZ:entryFor table "set.__iter__"=some Builtin.«frozenset.__iter__»:=
 entryFor_alias (id':="frozenset.__iter__") (by kernel_rfl) (by first|rfl|decide+kernel) (by decide+kernel) (by kernel_rfl)
theorem qb:Slot "frozenset" "__len__" "frozenset.__len__":=
 .of (owner:="frozenset") (n:="__len__") (by rw[typeLookup_type,builtinLookup_eq_fast];kernel_rfl) (by decide+kernel) (by decide+kernel) (by decide+kernel)
  (by first|exact .inl (by decide+kernel)|exact .inr (by decide+kernel)) (by rw[isSubtype_type];kernel_rfl)
section
variable{W:Wd} {T S:PH} {H:Io} {V:aF} {s:Shared} {A:Around} {E:Value->Shared->Prop}
theorem Ax {r:Addr} {Q:Bool->Shared->Prop} (hT:s.TypeIs (.ref r) "frozenset") (h:Q false s):wpAny (model W.prog W.w) A (Builtin.List.listLengthHint (.ref r)) Q E s:=by
 refine af (bL hT qb.lookup ?_);generalize hid:("frozenset.__len__":String)=id0
 wp_delta
 rw[show splitId id0=some ("frozenset","__len__") from by subst hid;decide+kernel]
 subst hid;refine af (bB (T:="frozenset") (b:=true) hT (by rw[isSubtype_type];kernel_rfl) ?_)
 refine wpAny_ite_split (λ hab=>aN hab (by decide)) (λ U=>?_)
 refine wpAny_ite_split (λ U=>?_) (λ hab=>aN (by decide+kernel) hab)
 refine af (wpAny_typeOf hT ?_);exact ag h
theorem xJ {r:Addr} {Q:Bool->Shared->Prop} (hT:s.TypeIs (.ref r) "set") (h:Q false s):wpAny (model W.prog W.w) A (Builtin.List.listLengthHint (.ref r)) Q E s:=by
 refine af (bL hT F.slot_set_len.lookup ?_);generalize hid:("set.__len__":String)=id0
 wp_delta
 rw[show splitId id0=some ("set","__len__") from by subst hid;decide+kernel]
 subst hid;refine af (bB (T:="set") (b:=true) hT (by rw[isSubtype_type];kernel_rfl) ?_)
 refine wpAny_ite_split (λ hab=>aN hab (by decide)) (λ U=>?_)
 refine wpAny_ite_split (λ U=>?_) (λ hab=>aN (by decide+kernel) hab)
 refine af (wpAny_typeOf hT ?_);exact ag h
theorem BR {c:String} (hc:c="set"\/c="frozenset") {a:Addr} {es:List (Int×Value)} {n:Nat} {t:SetTable} {ns:List Int} {Q:Value->Shared->Prop} (ho:s.heap.get? a=some (bV c es n t)) (si:bJ W.w es t ns) (hl:ns.length<=1)
  (q:Q (.ref s.heap.objs.size) {s with heap:=s.heap.push {cls:= .type "set_iterator",data:= .fields #[rawInt (0:Nat),rawInt (0:Nat), .ref a,rawInt es.length,rawInt n]}}):
  wpAny (model W.prog W.w) A (pyIter (.ref a)) Q E s:=by
 have hlen:=si.len;have body:∀{A':Around} {P:Fin->Shared->Prop},(P (.done (.ret (.ref s.heap.objs.size))) {s with heap:=s.heap.push {cls:= .type "set_iterator",data:= .fields #[rawInt (0:Nat),rawInt (0:Nat), .ref a,rawInt es.length,rawInt n]}})->
   wpAny (model W.prog W.w) A' (Builtin.«frozenset.__iter__» ⟨[.ref a],[]⟩) P E s:=by
  intro A' P hP;refine af (m:=Builtin.Frozenset.slot0 "__iter__" ⟨[.ref a],[]⟩) (ag ?_);refine af (jp ho si ?_);have hd:∀{Q:Bool->Shared->Prop},Q false s->wpAny (model W.prog W.w) A' (setDrawn a) Q E s:=by
   intro Q q;refine af (dF ho si ?_);refine af (af (wpAny_askSetting (ag (ag ?_))));have e:(!t.plain&&decide (es.toArray.size>1))=false:=by
    rw[decide_eq_false (by rw[List.size_toArray];lia)];simp
   show Q (!W.w.params.followText "set-order"&&(!t.plain&&decide (es.toArray.size>1))) s;rw[e,Bool.and_false];exact q
  refine af (hd ?_);rw[if_neg (by simp)]
  refine af (ag ?_);refine af (jU ho si ?_);refine af (wpAny_newObj_type (ag ?_));rw[hlen] at hP;exact hP
 rcases hc with rfl|rfl
 ·refine wpAny_pyIter_slot (dw ho) F.slot_set_iter (aK F.slot_set_iter (dw ho) lZ ?_ (F.args_set_iter_1 _));exact body ⟨_,rfl,"set_iterator",_,⟨_,aC _ rfl,rfl⟩,cV.lookup,q⟩
 ·refine wpAny_pyIter_slot (dw ho) iY (aK iY (dw ho) nj ?_ (oJ _));exact body ⟨_,rfl,"set_iterator",_,⟨_,aC _ rfl,rfl⟩,cV.lookup,q⟩
theorem St.newT (st:St W T S H V s) (o:Obj):St W (Mine.reread T [s.heap.objs.size] (s.heap.push o)) S H V {s with heap:=s.heap.push o}:=
 st.reread ((Kp.push s o).weak λ U h=>h.elim) λ b hb=>by
  rw[List.mem_singleton] at hb;subst hb;exact⟨st.S_new (ai _),st.io_new (ai _)⟩
theorem Ed {s:Shared} {o:Obj} (ho:o.isFreed=false):reread T [s.heap.objs.size] (s.heap.push o) s.heap.objs.size=some o:=Ae (aC _ ho)
theorem xX {x:HV} {F:gz->Prop} {v:Value} {Q:Value->Shared->Prop} (st:St W T S H V s) (h:tI V F x) (hv:VR W S H x v)
  (q:∀src,F src->tS src=0->∀s' I,I=s.heap.objs.size->St W (reread T [I] s'.heap) S H V s'->hU W S H (reread T [I] s'.heap) src 0 I [I]->Q (.ref I) s'):wpAny (model W.prog W.w) A (pyIter v) Q E s:=by
 induction h with
 |t hl k=>
  refine iR hv λ a vs n rq1 hS r=>?_;subst rq1;exact wpAny_pyIter_tuple (gl (st.S_ok _ _ hS)) (q _ k rfl _ _ rfl (st.newT _) (.t (Ed rfl) ⟨rfl,rfl⟩ hS r))
 |fs hl k=>
  refine ky hv λ a es n hz3=>?_;refine gn hz3 λ t rq1 hS si=>?_;subst rq1;exact BR (.inr rfl) (st.S_ok _ _ hS) si hl (q _ k rfl _ _ rfl (st.newT _) (.set (Ed rfl) hS si hl (λ U=>rfl) λ h=>aN h (bS _)))
 |us hl k=>
  refine ky hv λ a es n hz3=>?_;refine gn hz3 λ t rq1 hS si=>?_;subst rq1;exact BR (.inl rfl) (st.S_ok _ _ hS) si hl (q _ k rfl _ _ rfl (st.newT _) (.set (Ed rfl) hS si hl (λ U=>rfl) λ h=>aN h (bS _)))
 |l hσ hl k=>
  refine aU hv λ p hp rq1=>?_;subst rq1;refine dP (st.obj _ _ p hσ hp) λ vs n ho r=>?_;exact wpAny_pyIter_list (dm ho) (q _ k rfl _ _ rfl (st.newT _) (.l hp (Ed rfl) ⟨rfl,rfl⟩))
 |@keys i kvs l hσ hl hi k=>
  refine aU hv λ p hp rq1=>?_;subst rq1;refine aU (uq (s:=s) (st.obj _ _ p hσ hp) (cG hi)) λ ps h1 hD=>?_;have hlen:ps.length=kvs.length:=by rw[<- List.length_map (f:=Prod.fst) (as:=kvs),cG hi,List.length_map,<- h1,List.length_map]
  refine wpAny_pyIter_dict (st.noSys hp) hD ?_;rw[hlen];exact q _ k rfl _ _ rfl (st.newT _) (.keys hp (Ed rfl) ⟨rfl,rfl⟩)
theorem zf {src:gz} {k:Nat} {I:Addr} {own:List Addr} {Q:Value->Shared->Prop} (st:St W T S H V s) (it:hU W S H T src k I own) (q:Q (.ref I) s):wpAny (model W.prog W.w) A (pyIter (.ref I)) Q E s:=by
 induction it with
 |t hT hf=>exact wpAny_pyIter_tupleiter ⟨_,st.T_ok _ _ hT,hf.1,hf.2⟩ q
 |rng hT=>exact wpAny_pyIter_rangeiter (st.T_ok _ _ hT) q
 |set hT=>
  have hI:=st.T_ok _ _ hT;exact wpAny_pyIter_slot ⟨_,hI,rfl⟩ gm (aK gm ⟨_,hI,rfl⟩ jP (ag ⟨_,rfl,"set_iterator",_,⟨_,hI,rfl⟩,cV.lookup,q⟩) (kX _))
 |l _ hT hf=>exact wpAny_pyIter_listiter ⟨_,st.T_ok _ _ hT,hf.1,hf.2⟩ q
 |@keys i n k I p o _ hT hf=>exact wpAny_pyIter_keyiter (d:=p.1) (i:=k) (n:=n) (ep:=p.2+n) ⟨o,st.T_ok _ _ hT,hf.1,hf.2⟩ q
 |enum _ _ hT=>exact wpAny_pyIter_enum (st.T_ok _ _ hT) q
end
section
variable{W:Wd} {T S:PH} {H:Io} {V:aF} {s:Shared} {A:Around} {E:Value->Shared->Prop}
theorem Af {src:gz} {I:Addr} {own:List Addr} {L:Addr} {res:Value} {xs:List HV} {R:Result->Shared->Prop} (hh:A.handled=none) (he:fY src=false) (hz:∀a b,src≠ .zip a b) (hL:L∉own) (hlen:xs.length<lim)
  (hx:∀j {F:Option HV->Prop},F xs[j]? ->jW V j F src):
  ∀(m k:Nat) (T S:PH) (s:Shared) (acc:List Value) (c:Nat),xs.length - k=m->k<=xs.length->St W T S H V s->hU W S H T src k I own->T L=some (dY acc c)->bW W S H (xs.take k) acc->
   (∀T' S' s' acc' c',cY S S'->(∀b,b≠L->b∉own->T' b=T b)->St W T' S' H V s'->T' L=some (dY acc' c')->bW W S' H xs acc'->R (.ok (.ret res)) s')->
   codeAny (model W.prog W.w) A (.builtin "list.extend.loop" ⟨[.ref L, .ref I,res],[]⟩) R s:=by
 intro m
 induction m with
 |zero=>
  intro k T S s acc c hk hle st it hT hv hR;obtain rfl:k=xs.length:=Hz hk hle;refine codeAny_builtin F.entry_extend_loop ?_;rw[Around.under_plainId F.plain_extend_loop _];exact wb (xb st (by simp[hh]) it he hz (hx _ (List.getElem?_eq_none (ai _))) λ s' st'=>ag (hR _ S s' acc c (cY.refl S) (λ b U hb=>b7 hb) st' (by rw[b7 hL];exact hT) (by rw[List.take_length] at hv;exact hv)))
 |succ m ih=>
  intro k T S s acc c hk hle st it hT hv hR;have hlt:k<xs.length:=HG hk;refine codeAny_builtin F.entry_extend_loop ?_;rw[Around.under_plainId F.plain_extend_loop _];refine wb (yz st (by simp[hh]) it he hz (hx _ (ak hlt)) λ val s' ⟨e,h1,st',it',hvv⟩=>?_)
  rename_i v S';cases e;have hT':reread T own s'.heap L=some (dY acc c):=by rw[aJ hL];exact hT
  have hL':=st'.T_ok _ _ hT';have hlacc:=hv.length;rw[List.length_take,Nat.min_eq_left hle] at hlacc;refine af (wpAny_updateSeq hL' rfl ?_ (by rw[List.size_toArray,sizeLine_eq];unfold lim at hlen;lia) (by rw[Array.size_push,List.size_toArray,sizeLine_eq];unfold lim at hlen;lia))
  have st2:=st'.reread (Kp.update s' L (Obj.mapSeq (·.push val)) s'.toks).one (st'.ownT (own:=[L]) λ b hb=>⟨_,al.mp hb▸hT'⟩);have hL2:(s'.heap.update L (Obj.mapSeq (·.push val))).get? L=some (dY (acc++[val]) (c+1)):=by
   rw[Heap.get?_update_self _ hL' rfl];exact am some wI
  refine ag ⟨plainId_quiet F.plain_extend_loop _,ih (k+1) _ S' _ (acc++[val]) (c+1) (HN hk) hlt st2 (it'.offT λ b hb=>aJ λ q=>hL (al.mp q▸hb)) (Ae hL2) ?_ λ T2 S2 s2 acc2 c2 g1 g2 g3 g4 g5=>
   hR T2 S2 s2 acc2 c2 (h1.trans g1) (λ b hb1 hb2=>(g2 b hb1 hb2).trans ((aJ λ q=>hb1 (al.mp q)).trans (aJ hb2))) g3 g4 g5⟩
  rw[List.take_add_one,List.getElem?_eq_getElem hlt];exact(hv.mono h1 (ax _)).append ⟨hvv,trivial⟩
noncomputable def yj (W:Wd) (S:PH) (H:Io) (V:aF) (v:Value):Prop:=∃a c,v= .ref a/\(c="set"\/c="frozenset"\/c="dict")/\∀(T:PH) (s:Shared),St W T S H V s->s.TypeIs (.ref a) c
theorem yd {x:HV} {v:Value} (hv:VR W S H x v) (h:(∃xs,x= .w xs)\/(∃xs,x= .uset xs)\/∃i kvs,x= .ref i/\V[i]? =some (.dict kvs)):yj W S H V v:=by
 rcases h with⟨xs,rfl⟩|⟨xs,rfl⟩|⟨i,kvs,rfl,hσ⟩
 ·refine ky hv λ a es n hz3=>?_;refine gn hz3 λ t rq1 ho _=>?_;subst rq1;exact⟨a,_,rfl, .inr (.inl rfl),λ T s st=>dw (st.S_ok _ _ ho)⟩
 ·refine ky hv λ a es n hz3=>?_;refine gn hz3 λ t rq1 ho _=>?_;subst rq1;exact⟨a,_,rfl, .inl rfl,λ T s st=>dw (st.S_ok _ _ ho)⟩
 ·refine aU hv λ p hp rq1=>?_;subst rq1;refine⟨p.1,_,rfl, .inr (.inr rfl),λ T s st=>?_⟩;refine dP (st.obj i _ p hσ hp) λ es n ho U=>?_;exact⟨_,ho,rfl⟩
theorem vE {x:HV} {src:gz} {v:Value} {xs:List HV} {Q:List Value->Shared->Prop} (st:St W T S H V s) (hh:A.handled=none) (h:tI V (·=src) x) (he:fY src=false) (hz:∀a b,src≠ .zip a b) (hlen:xs.length<lim)
  (hx:∀j {F:Option HV->Prop},F xs[j]? ->jW V j F src) (hv:VR W S H x v) (hw:yj W S H V v) (q:∀s' S' acc,cY S S'->St W T S' H V s'->bW W S' H xs acc->Q acc s'):wpAny (model W.prog W.w) A (collect v) Q E s:=by
 refine dL hw λ a c rq1 hc hTy=>?_;subst rq1;refine aU (hTy T s st) λ ov hov hcv=>?_;have hal:=aW hov;refine af (wpAny_runValue (codeAny_builtin F.entry_proto_collect ?_));rw[Around.under_plainId F.plain_proto_collect _];show wpAny _ A.in1 (newList []>>=λ l=>again (.builtin "list.__iadd__" ⟨[l, .ref a],[]⟩)) _ _ s;refine wb (wpAny_newObj_type ?_);refine ag ⟨plainId_quiet F.plain_list_iadd _,codeAny_builtin F.entry_list_iadd ?_⟩;rw[Around.under_plainId F.plain_list_iadd _];show wpAny _ A.in1 (Builtin.List.listExtendWith (.ref s.heap.objs.size) (.ref a) (.ref s.heap.objs.size)) _ _ _;have hS1:(s.heap.push (dY [] 0)).get? s.heap.objs.size=some (dY [] 0):=aC _ rfl;have st1:=st.newT (dY [] 0);have hT1:Shared.TypeIs {s with heap:=s.heap.push (dY [] 0)} (.ref a) c:=hTy _ _ st1;have hne:s.heap.objs.size≠a:=aE hal;refine af (wpAny_typeOf hT1 ?_);have h1:Builtin.List.listSameRef (.ref s.heap.objs.size) (.ref a)=false:=beq_eq_false_iff_ne.mpr hne;have h2:(Value.type c==Value.type "list")=false:=by rcases hc with rfl|rfl|rfl<;>decide
 have h3:(Value.type c==Value.type "tuple")=false:=by rcases hc with rfl|rfl|rfl<;>decide
 refine wn (by rw[h1,h2,h3];exact aQ) ?_
 refine wb (xX st1 h hv λ src' hsrc U s2 I hI st2 it=>?_);subst hsrc;have hIne:s.heap.objs.size≠I:=by rw[hI];exact aH (by rw[Heap.size_push];exact aI _)
 refine wb (av ?_);have hT2:=hTy _ _ st2;have hint:∀{Q:Bool->Shared->Prop},Q false s2->wpAny (model W.prog W.w) A.in1 (Builtin.List.listLengthHint (.ref a)) Q E s2:=by
  intro Q hQ;rcases hc with rfl|rfl|rfl
  ·exact xJ hT2 hQ
  ·exact Ax hT2 hQ
  ·exact kdl_hint_dict hT2 hQ
 refine hint ?_;refine wpAny_ite_split (λ U=>?_) (λ hab=>aN (by rcases hc with rfl|rfl|rfl<;>decide+kernel) hab)
 refine wb (bO ?_);have hTL:reread (reread T [s.heap.objs.size] (s.heap.push (dY [] 0))) [I] s2.heap s.heap.objs.size=some (dY [] 0):=by
  rw[aJ (by simp[hIne]),bE (by simp)];exact hS1
 have hL2:=st2.T_ok _ _ hTL;refine wb ?_;refine wb (wpAny_updateSeq hL2 rfl ?_);have hL3:=cf (Obj.mapSeq (·.push Value.none)) hL2 rfl;refine wpAny_updateSeq hL3 rfl ?_;have hL4:=cf (Obj.mapSeq (·.pop)) hL3 rfl;have hown:=st2.ownT (own:=[s.heap.objs.size]) λ b hb=>by rw[List.mem_singleton] at hb;subst hb;exact⟨_,hTL⟩
 have k3:Kp (·=s.heap.objs.size) s2 {s2 with heap:=(s2.heap.update s.heap.objs.size (Obj.mapSeq (·.push Value.none))).update s.heap.objs.size (Obj.mapSeq (·.pop))}:=
  (Kp.update s2 s.heap.objs.size _ s2.toks).trans (Kp.update {s2 with heap:=s2.heap.update s.heap.objs.size (Obj.mapSeq (·.push Value.none))} s.heap.objs.size _ s2.toks)
 have st3:=st2.reread k3.one hown;have it3:=it.offT (T':=reread (reread (reread T [s.heap.objs.size] (s.heap.push (dY [] 0))) [I] s2.heap) [s.heap.objs.size] ((s2.heap.update s.heap.objs.size (Obj.mapSeq (·.push Value.none))).update s.heap.objs.size (Obj.mapSeq (·.pop)))) λ b hb=>by
  rw[aJ (by simp at hb ⊢;rw[hb];exact hIne.symm)]
 refine ag ⟨plainId_quiet F.plain_extend_loop _,Af (by simp[hh]) he hz (by simp[hIne]) hlen hx xs.length 0 _ S _ [] 2 (Nat.sub_zero _) (aO _) st3 it3 (by rw[bE (by simp)];exact hL4) (by rw[List.take_zero];trivial) λ T' S' s' acc' c' g1 g2 g3 g4 g5=>?_⟩
 refine wb (kZ (g3.T_ok _ _ g4) ?_);refine ag ?_;refine q s' S' acc' g1 (g3.weakT λ b o e=>?_) g5;have hb:=st.T_lt e;have hb1:b≠s.heap.objs.size:=aH hb;have hb2:b≠I:=by rw[hI,Heap.size_push];exact aH (bN hb)
 rw[g2 b hb1 (by simp[hb2]),aJ (by simp[hb1]),aJ (by simp[hb2]),aJ (by simp[hb1])]
 exact e
end
theorem mX {l:List Int}:∀{l':List Int},l.Pairwise (·<=·)->l'.Pairwise (·<=·)->l.Perm l'->l=l':=by
 induction l with
 |nil=>exact λ U U p=>(List.nil_perm.mp p).symm
 |cons x l ih=>
  intro l' h h' p;rcases l' with _|⟨y,l'⟩
  ·exact aN p.length_eq (eO _)
  refine cO (bu.mp h) λ h1 h2=>?_;refine cO (bu.mp h') λ h1' h2'=>?_;have e:x=y:=by
   rcases aB.mp (p.mem_iff.mp (.head _)) with e|e
   ·exact e
   ·rcases aB.mp (p.mem_iff.mpr (.head _)) with e'|e'
    ·exact e'.symm
    ·have:=h1 y e';have:=h1' x e;lia
  subst e;rw[ih h2 h2' (List.perm_cons x|>.mp p)]
theorem tv {x:Int} {l:List Int}:l.Pairwise (·<=·)->(El x l).Pairwise (·<=·):=by
 induction l with
 |nil=>exact λ U=>List.pairwise_singleton ..
 |cons y r ih=>
  intro h;refine cO (bu.mp h) λ h1 h2=>?_;rw[qZ];by_cases q:x<=y
  ·rw[if_pos q];exact bu.mpr ⟨λ z hz=>(aB.mp hz).elim (λ e=>e▸q) λ hz=>Int.le_trans q (h1 z hz),h⟩
  ·rw[if_neg q];exact bu.mpr ⟨λ z hz=>(aB.mp ((qf x r).mem_iff.mp hz)).elim (λ e=>e▸p9 (Int.not_le.mp q)) (h1 z),ih h2⟩
theorem pH {l:List Int}:(dW l).Pairwise (·<=·):=by
 induction l with
 |nil=>exact .nil
 |cons x r ih=>exact tv ih
section
variable{W:Wd} {T S:PH} {H:Io} {V:aF} {s:Shared} {A:Around} {E:Value->Shared->Prop}
theorem kC {vs:List Value} {l:List Int} (h:IntsAre vs l):bW W S H (l.map .int) vs:=by
 induction h with
 |nil=>trivial
 |cons n t _ ih=>exact⟨⟨t,rfl⟩,ih⟩
theorem nr {h:Heap} {a:Addr} {vs:List Value} {out:Array Value} {n:Nat} (e:h.get? a=some (dY vs n)):∃n',(sortedHeap h a vs out).get? a=some (dY out.toList n')/\∀b o,b≠a->h.get? b=some o->(sortedHeap h a vs out).get? b=some o:=by
 obtain⟨e1,ho1⟩:∃e1,(h.update a (Obj.mapSeq λ U=>#[])).get? a=some (seqObj "list" #[] e1):=⟨_,get?_update_seq e (λ U=>#[])⟩;have ho2:(((h.update a (Obj.mapSeq λ U=>#[])).push (seqObj "tuple" vs.toArray 0)).push (seqObj "list" #[] 0)).get? a=some (seqObj "list" #[] e1):=aq _ (aq _ ho1);obtain⟨m,hm⟩:∃m,(sortedHeap h a vs out).get? a=some (seqObj "list" out m):=⟨_,get?_update_seq ho2 (λ U=>out)⟩;refine⟨m,by rw[hm],λ b o hb eb=>?_⟩
 exact(Heap.get?_update_other _ _ (Ne.symm hb)).trans (aq _ (aq _ ((Heap.get?_update_other _ _ (Ne.symm hb)).trans eb)))
theorem uE {l:List Int} {vs:List Value} {Q:Value->Shared->Prop} (st:St W T S H V s) (h64:l.length<64) (hv:bW W S H (l.map .int) vs) (q:Ok W T S H Q (.ref V.length) (V++[.list ((dW l).map .int)])):
  wpAny (model W.prog W.w) A (do
   let r <- newList vs
   let _ <- holding [r] (call (.builtin "list.sort") [r] [])
   ret r) (λ fin s'=>∃v,fin= .done (.ret v)/\Q v s') E s:=by
 have hI:=hv.ints;have hlen:=hI.length;refine af (wpAny_newList ?_);have ho:(s.heap.push (seqObj "list" vs.toArray 0)).get? s.heap.objs.size=some (seqObj "list" vs.toArray 0):=aC _ rfl;refine af (av (aK slot_list_sort ⟨_,ho,rfl⟩ entry_list_sort (list_sort_tree ho hI (by lia) λ out ns' a1 a2 a3=>⟨_,rfl,?_⟩) (args_list_sort _)))
 refine ag ⟨_,rfl,?_⟩;refine aU (nr (out:=out) ho) λ n' g1 g2=>?_;have e:ns'=dW l:=mX a3 pH (a2.trans (iC l).symm);subst e;refine gc (s':={s with heap:=sortedHeap (s.heap.push (seqObj "list" vs.toArray 0)) s.heap.objs.size vs out}) st (ai _) ⟨λ b o U eb=>g2 b o (aH (aW eb)) (aq _ eb),rfl,rfl⟩ g1 (kC a1) q
theorem iU {x:HV} {v:Value} {l:List Int} {Q:Value->Shared->Prop} (st:St W T S H V s) (hh:A.handled=none) (hv:VR W S H x v) (h64:l.length<64)
  (h:(x= .w l/\l.length<=1)\/(x= .uset l/\l.length<=1)\/(∃i,x= .ref i/\V[i]? =some (.list (l.map .int)))\/(∃i kvs,x= .ref i/\V[i]? =some (.dict kvs)/\kvs.map (·.1)=l.map .int/\cr (kvs.map (·.1))=some l))
  (q:Ok W T S H Q (.ref V.length) (V++[.list ((dW l).map .int)])):wpAny (model W.prog W.w) A (call (.builtin "sorted") [v]) Q E s:=by
 refine Calls.call_function_entry kind_sorted plain_sorted entry_sorted (args_sorted1 _) ?_;refine af (m:=checkCount "sorted" 1 1 _) (ag ?_);have go:∀{src:gz} {xs:List HV},tI V (·=src) x->fY src=false->(∀a b,src≠ .zip a b)->(∀j {F:Option HV->Prop},F xs[j]? ->jW V j F src)->xs=l.map .int->yj W S H V v->
   wpAny (model W.prog W.w) A.in1 (collect v) (λ vs s'=>wpAny (model W.prog W.w) A.in1 (do
    let r <- newList vs
    let _ <- holding [r] (call (.builtin "list.sort") [r] [])
    ret r) (λ fin s'=>∃v,fin= .done (.ret v)/\Q v s') E s') E s:=by
  intro src xs h1 h2 h3 h4 h5 h6;subst h5;refine vE st (by simp[hh]) h1 h2 h3 (by simp[lim];lia) h4 hv h6 λ s' S' acc g1 g2 g3=>?_
  refine uE g2 h64 g3 λ S2 H2 v2 s2 p1 p2 p3 p4=>q S2 H2 v2 s2 (g1.trans p1) p2 p3 p4
 rcases h with⟨rfl,hl⟩|⟨rfl,hl⟩|⟨i,rfl,hi⟩|⟨i,kvs,rfl,hσ,hk,hl⟩
 ·exact af (go (src:= .static (l.map .int)) (.fs hl rfl) rfl (λ U U h=>nomatch h) (λ j U h=> .st h) rfl (yd hv (.inl ⟨_,rfl⟩)))
 ·exact af (go (src:= .static (l.map .int)) (.us hl rfl) rfl (λ U U h=>nomatch h) (λ j U h=> .st h) rfl (yd hv (.inr (.inl ⟨_,rfl⟩))))
 ·refine nv (st.list hv hi) λ p vs n rq1 hp ho r=>?_;subst rq1;refine af (wpAny_collect_seq p.1 (.inl rfl) ho rfl rfl (λ h' hk=>?_) (by have:=r.length;simp at this;rw[List.size_toArray,sizeLine_eq];lia))
  have st':St W T S H V {s with heap:=h'}:=st.same ⟨λ b o U e=>hk b o e,rfl,rfl⟩;exact uE st' h64 r q
 ·have hn:kvs.length<lim:=by
   have:=am List.length hk;simp at this;simp[lim];lia
  exact af (go (src:= .keys i kvs.length) (xs:=kvs.map (·.1)) (.keys hσ hn hl rfl) rfl (λ U U h=>nomatch h) (λ j U h=> .keys hσ rfl hl (by rw[List.getElem?_map] at h;exact h)) hk (yd hv (.inr (.inr ⟨i,kvs,rfl,hσ⟩))))
end
noncomputable def uG:BI->Value
 | .len=> .builtin "len"
 | .max=> .builtin "max"
 | .min=> .builtin "min"
 | .int=> .type "int"
 | .sorted=> .builtin "sorted"
 | .set=> .type "set"
 | .frozenset=> .type "frozenset"
 | .tuple=> .type "tuple"
section
variable{W:Wd} {T S:PH} {H:Io} {V:aF} {s:Shared} {A:Around} {E:Value->Shared->Prop}
theorem kG:∀{l:List Int},l.length<=1->dW l=l
 |[],_=>rfl
 |[x],_=>rfl
 |_::_::_,h=>by simp at h
theorem Ok.int {Q:Value->Shared->Prop} {i:Int} {t:Tok} {s':Shared} (q:Ok W T S H Q (.int i) V) (st:St W T S H V s'):Q (.int i t) s':=q.same st ⟨t,rfl⟩
theorem dQ {x:HV} {vs:List Value} (h:bW W S H [x] vs):∃v,vs=[v]/\VR W S H x v:=by
 refine dL h.cons λ v us rq1 h1 h2=>?_;subst rq1;exact⟨v,am _ h2.nil,h1⟩
theorem kH {x y:HV} {vs:List Value} (h:bW W S H [x,y] vs):∃v u,vs=[v,u]/\VR W S H x v/\VR W S H y u:=by
 refine dL h.cons λ v us rq1 h1 h2=>?_;subst rq1;refine aU (dQ h2) λ u rq1 h3=>?_;subst rq1;exact⟨v,u,rfl,h1,h3⟩
theorem Gf {xs:List HV} {v:Value} {Q:Value->Shared->Prop} (st:St W T S H V s) (hl:xs.length<2^62) (hv:VR W S H (.rl xs) v) (q:Ok W T S H Q (.int xs.length) V):wpAny (model W.prog W.w) A (call (.builtin "len") [v]) Q E s:=by
 obtain⟨a,us,o,n,rfl,ho,hc,hd,r⟩:∃(a:Addr) (us:List Value) (o:Obj) (n:Nat),v= .ref a/\S a=some o/\o.cls= .type "list"/\o.data= .seq us.toArray n/\bW W S H xs us:=hv;have hs:=st.S_ok _ _ ho;have hi:s.heap.IsList a us.toArray:=⟨o,hs,hc,n,hd⟩;clear hc hd ho hs;have hlen:=r.length;rw[hlen] at q hl;refine call_len_list hi (by rw[List.size_toArray];exact Int.ofNat_lt.mpr (az hl (by decide))) ?_
 rw[List.size_toArray];exact q.int (st.toks _)
theorem DH {b:BI} {args:List HV} {K:KV} {vs:List Value} {Q:Value->Shared->Prop} (st:St W T S H V s) (hh:A.handled=none) (h:eU V K b args) (hv:bW W S H args vs) (q:∀r V',K r V'->Ok W T S H Q r V'):
  wpAny (model W.prog W.w) A (call (uG b) vs) Q E s:=by
 induction h with
 |@lenT xs hl k=>
  refine aU (dQ hv) λ v rq1 hw=>?_;subst rq1;refine iR hw λ a us n rq1 ho r=>?_;subst rq1;have ho:=st.S_ok _ _ ho;have q:=q _ _ k;rw[r.length] at q hl;refine call_len_meets (dR ho) F.slot_tuple_len F.entry_tuple_len (F.args_tuple_len_1 _) (AutoSeq1.tuple___len___tuple_0 a us.toArray n) (n:=(us.toArray.size:Int)) (by lia) (by rw[List.size_toArray];unfold lim at hl;lia) (λ Q' hq=>⟨ho,hq⟩) ?_
  rw[List.size_toArray];exact q.int (st.toks _)
 |lenR hl k=>
  refine aU (dQ hv) λ v rq1 hw=>?_;subst rq1;exact Gf st (by unfold lim at hl;lia) hw (q _ _ k)
 |lenL hi hl k=>
  refine aU (dQ hv) λ v rq1 hw=>?_;subst rq1;refine nv (st.list hw hi) λ p us n rq1 hp ho r=>?_;subst rq1;have q:=q _ _ k;rw[r.length] at q hl;refine call_len_list (dm ho) (by rw[List.size_toArray];unfold lim at hl;lia) ?_
  rw[List.size_toArray];exact q.int (st.toks _)
 |max k=>
  refine dL (kH hv) λ _ _ rq1 hq1 hz4=>?_;refine ce hz4 λ t' rq2=>?_;refine ce hq1 λ t rq3=>?_;subst rq1;subst rq2;subst rq3;have q:=q _ _ k;refine max_two_ints hh λ h' tk hk=>?_;have st':St W T S H V {s with heap:=h',toks:=tk}:=st.same ⟨λ b o U e=>hk b o e,rfl,rfl⟩
  split
  ·rename_i hc;rw[if_pos hc] at q;exact q.int st'
  ·rename_i hc;rw[if_neg hc] at q;exact q.int st'
 |min k=>
  refine dL (kH hv) λ _ _ rq1 hq2 hz4=>?_;refine ce hz4 λ t' rq2=>?_;refine ce hq2 λ t rq3=>?_;subst rq1;subst rq2;subst rq3;have q:=q _ _ k;refine min_two_ints hh λ h' tk hk=>?_;have st':St W T S H V {s with heap:=h',toks:=tk}:=st.same ⟨λ b o U e=>hk b o e,rfl,rfl⟩
  split
  ·rename_i hc;rw[if_pos hc] at q;exact q.int st'
  ·rename_i hc;rw[if_neg hc] at q;exact q.int st'
 |int k=>
  refine aU (dQ hv) λ _ rq1 hz2=>?_;refine ce hz2 λ t rq2=>?_;subst rq1;subst rq2;exact call_int_int ((q _ _ k).int st)
 |intB k=>
  refine aU (dQ hv) λ U rq1 hu=>?_;subst rq1;subst hu;exact call_int_bool ((q _ _ k).int (st.toks _))
 |srtF hl k=>
  refine aU (dQ hv) λ U rq1 hu=>?_;subst rq1;exact iU st hh hu (by lia) (.inl ⟨rfl,hl⟩) (by rw[kG hl];exact q _ _ k)
 |srtU hl k=>
  refine aU (dQ hv) λ U rq1 hu=>?_;subst rq1;exact iU st hh hu (by lia) (.inr (.inl ⟨rfl,hl⟩)) (by rw[kG hl];exact q _ _ k)
 |srtL hσ hl h64 k=>
  refine aU (dQ hv) λ U rq1 hu=>?_;subst rq1;exact iU st hh hu h64 (.inr (.inr (.inl ⟨_,rfl,by rw[hσ,cG hl]⟩))) (q _ _ k)
 |srtD hσ hl h64 k=>
  refine aU (dQ hv) λ U rq1 hu=>?_;subst rq1;exact iU st hh hu h64 (.inr (.inr (.inr ⟨_,_,rfl,hσ,cG hl,hl⟩))) (q _ _ k)
 |set hσ hl hlen k=>
  refine aU (dQ hv) λ U rq1 hu=>?_;subst rq1;exact F5 st hh hu (by rw[hσ,cG hl]) (by unfold lim at hlen;lia) (q _ _ k)
 |fs0 k=>rw[hv.nil];exact Gn st (q _ _ k)
 |fsL hσ hl hlen k=>
  refine aU (dQ hv) λ U rq1 hu=>?_;subst rq1;exact E1 st hh hu (by rw[hσ,cG hl]) (by unfold lim at hlen;lia) (q _ _ k)
 |tupL hi hl k=>
  refine aU (dQ hv) λ U rq1 hu=>?_;subst rq1;refine nv (st.list hu hi) λ p us n rq1 hp ho r=>?_;subst rq1;rw[r.length] at hl;refine call_tuple_list (dm ho) (λ h' hk=>?_) (by rw[List.size_toArray,sizeLine_eq];unfold lim at hl;lia)
  have st':St W T S H V {s with heap:=h'}:=st.same ⟨λ b o U e=>hk b o e,rfl,rfl⟩;exact tx (n:=0) (vs:=us) st' (ai _) (Kp.push {s with heap:=h'} _) (aC _ rfl) r (q _ _ k)
 |tupT k=>
  refine aU (dQ hv) λ U rq1 hu=>?_;subst rq1;refine iR hu λ a us n rq1 ho r=>?_;subst rq1;exact call_tuple_same (gl (st.S_ok _ _ ho)) ((q _ _ k).same st ⟨a,us,n,rfl,ho,r⟩)
end
noncomputable def Gx:MN->String
 | .append=>"list.append"
 | .pop=>"list.pop"
 | .extend=>"list.extend"
 | .index=>"list.index"
 | .get=>"dict.get"
 | .setdefault=>"dict.setdefault"
theorem uS {k x:HV} {xs:List HV} {r:Option Nat} (h:kW k (x::xs)=some r):∃r',kW k xs=some r'/\((cU 8 x k=some true/\r=some 0)\/(cU 8 x k=some false/\r=r'.map (·+1))):=by
 have h:(match cU 8 x k,kW k xs with
  |some true,some _=>some (some 0)
  |some false,some j=>some (j.map (·+1))
  |_,_=> .none)=some r:=h
 induction e:cU 8 x k using Jn with
 |none=>replace h:=e▸h;exact dX h
 |some b=>
  cases e':kW k xs with
  |none=>rw[e,e'] at h;cases b<;>exact dX h
  |some r'=>
   rw[e,e'] at h
   induction b using Jp with
   |true=>exact⟨r',rfl, .inl ⟨rfl,(aA h).symm⟩⟩
   |false=>exact⟨r',rfl, .inr ⟨rfl,(aA h).symm⟩⟩
theorem y3 {k:HV} {xs:List HV}:∀{r:Option Nat},kW k xs=some r->(∀z∈xs,(cU 8 z k).isSome=true)/\∀j,r=some j->∃hj:j<xs.length,cU 8 xs[j] k=some true/\∀m (hm:m<xs.length),m<j->cU 8 xs[m] k=some false:=by
 induction xs with
 |nil=>exact λ h=>⟨λ U h=>(ii h),λ j e=>dX ((aA h).trans e)⟩
 |cons x xs ih=>
  intro r h;refine aU (uS h) λ r' e' h=>?_;refine cO (ih e') λ h1 h2=>?_;refine⟨λ z hz=>(aB.mp hz).elim (λ q=>?_) (h1 z),λ j hj=>?_⟩
  ·rw[q];rcases h with h|h<;>rw[h.1]<;>rfl
  ·rcases h with⟨h,q⟩|⟨h,q⟩
   ·replace q:=hj▸q;rw[<- Option.some.inj q.symm];exact⟨cD _,h,λ m U hm=>aN hm (a0 _)⟩
   ·refine aU (aZ.mp (q.symm.trans hj)) λ j' q1 q2=>?_;refine aU (h2 j' q1) λ hj' k1 k2=>?_;rw[<- q2];exact⟨Nat.succ_lt_succ hj',k1,λ m hm hlt=>by
     induction m using Jq with
     |zero=>exact h
     |succ m=>exact k2 m (bY hm) (bY hlt)⟩
section
variable{W:Wd} {T S:PH} {H:Io} {V:aF} {s:Shared} {A:Around} {E:Value->Shared->Prop}
theorem bW.snoc {S:PH} {H:Io} {xs:List HV} {vs:List Value} {x:HV} {v:Value} (h:bW W S H xs vs) (hx:VR W S H x v):bW W S H (xs++[x]) (vs++[v]):=h.append ⟨hx,trivial⟩
theorem tV {i:Nat} {p:Addr×Nat} {kvs:List (HV×HV)} {k d:HV} {key:Value} {dv:Option Value} {P:Fin->Shared->Prop} (st:St W T S H V s) (hσ:V[i]? =some (.dict kvs)) (hp:H[i]? =some p) (hu:A.units+8<cLine) (hk:bp k kvs=true)
  (vk:VR W S H k key) (vd:VR W S H d (dv.getD .none)) (q:∀w s',St W T S H V s'->VR W S H ((bA k kvs).getD d) w->P (.done (.ret w)) s'):
  wpAny (model W.prog W.w) A (do
   if let some v <- dictGet p.1 key then return <- ret v
   match <- Builtin.Dict.missed p.1 key with
   |some v=>ret v
   |none=>ret (dv.getD .none)) P E s:=by
 refine wb (Cs st hσ hp hu hk vk λ r tk hr=>?_)
 induction hd:bA k kvs using Jn with
 |some w'=>
  rw[hd] at hr q
  induction r using Jn with
  |none=>exact hr.elim
  |some r=>exact fm (ag (q r _ (st.toks _) hr))
 |none=>
  rw[hd] at hr q
  induction r using Jn with
  |some r=>exact hr.elim
  |none=>
   have e:Builtin.Dict.missed p.1 key=pure none:=by
    unfold Builtin.Dict.missed;rw[st.noSys hp];rfl
   refine wb (wpAny_of_eq e ?_);exact ag (q _ _ (st.toks _) vd)
theorem x9 {i:Nat} {p:Addr×Nat} {kvs:List (HV×HV)} {k d:HV} {v dv:Value} {Q:Value->Shared->Prop} (st:St W T S H V s) (hσ:V[i]? =some (.dict kvs)) (hp:H[i]? =some p) (hu:A.in1.units+8<cLine) (hk:bp k kvs=true)
  (hv:VR W S H k v) (hd:VR W S H d dv) (hl:kvs.length<lim) (q1:∀w val s',bA k kvs=some w->VR W S H w val->St W T S H V s'->Q val s') (q2:∀s',bA k kvs= .none->St W T S H (V.set i (.dict (kvs++[(k,d)]))) s'->Q dv s'):
  wpAny (model W.prog W.w) A (call (.builtin "dict.setdefault") [.ref p.1,v,dv]) Q E s:=by
 refine dP (st.obj i _ p hσ hp) λ es n ho U=>?_;have hT:s.TypeIs (.ref p.1) "dict":=⟨_,ho,rfl⟩;refine aK F.slot_dict_setdefault hT F.entry_dict_setdefault ?_ (F.args_dict_setdefault_3 _ _ _);refine wb (wb (wpAny_notOrdered_dict hT (fm (fm (fm (ag ?_))))));refine wn (by rw[st.noSys hp];simp) ?_
 exact wb (Fy st hσ hp hu hk hv hd hl (λ w val s' e vw st'=>ag ⟨_,rfl,q1 w val s' e vw st'⟩) λ s' e st'=>ag ⟨_,rfl,q2 s' e st'⟩)
theorem CE {m:MN} {i:Nat} {args:List HV} {K:KV} {u:Value} {vs:List Value} {Q:Value->Shared->Prop} (st:St W T S H V s) (hu8:A.units+16<cLine) (h:qt V K i m args) (hu:VR W S H (.ref i) u) (hv:bW W S H args vs)
  (q:∀r V',K r V'->Ok W T S H Q r V'):wpAny (model W.prog W.w) A (call (.builtin (Gx m)) (u::vs)) Q E s:=by
 refine aU hu λ p hp rq1=>?_;subst rq1;have hu9:A.in1.units+8<cLine:=by show A.units+1+8<cLine;lia
 induction h with
 |@append xs x hσ hl k=>
  refine aU (dQ hv) λ v rq1 hw=>?_;subst rq1;refine dP (st.obj i _ p hσ hp) λ us n ho r=>?_;replace hl:=r.length▸hl;refine call_meets F.slot_list_append ⟨_,ho,rfl⟩ F.entry_list_append (F.args_list_append_2 _ _) (list_append p.1 us.toArray n v (by rw[List.size_toArray,sizeLine_eq];unfold lim at hl;lia)) ⟨ho,?_⟩
  refine(q _ _ k).same (st.turn (ho:= .list (xs++[x])) hp (Kp.update s p.1 (Obj.mapSeq λ y=>y.push v) s.toks) (λ b e=> .inl e) ⟨us++[v],n+1,?_,bW.snoc r hw⟩) rfl;rw[Heap.get?_update_self _ ho rfl];exact am some wI
 |@pop xs x hσ hl hx k=>
  rw[hv.nil];refine dP (st.obj i _ p hσ hp) λ us n ho rr=>?_;have hlen:=rr.length;rw[List.getLast?_eq_getElem?] at hx;have h0:=(ao.mp hx).1;refine aU (rr.get hx) λ y hy vy=>?_;rw[hlen] at hy h0;have hus:us=us.take (us.length - 1)++[y]:=by
   have:=List.take_append_drop (us.length - 1) us;rw[List.drop_eq_getElem_cons h0,List.drop_of_length_le (Nat.le_add_of_sub_le (Nat.le_refl _))] at this;rw[List.getElem?_eq_getElem h0] at hy;rw[<- Option.some.inj hy];exact this.symm
  have hk:us.toArray.eraseIdxIfInBounds (us.toArray.size - 1)=(us.take (us.length - 1)).toArray:=by
   have e:=kl_erase (us.take (us.length - 1)) [] y;rw[List.append_nil,<- hus,List.length_take] at e;rw[List.size_toArray,<- e];congr 1;exact(Eb (k7 _ _)).symm
  have hsz:us.length<=sizeLine:=by rw[sizeLine_eq];exact hlen▸IN hl rfl
  refine call_meets F.slot_list_pop ⟨_,ho,rfl⟩ F.entry_list_pop (F.args_list_pop_1 _) (MeetsSeq.list_pop_last p.1 us.toArray n y (by rw[List.size_toArray];simpa using hy) (by simpa using hsz)) ⟨ho,?_⟩
  obtain⟨c,hc⟩:∃c,(s.heap.update p.1 (Obj.mapSeq λ x=>x.eraseIdxIfInBounds (us.toArray.size - 1))).get? p.1=some (seqObj "list" (us.toArray.eraseIdxIfInBounds (us.toArray.size - 1)) c):=⟨_,get?_update_seq ho _⟩;rw[hk] at hc;exact(q _ _ k).same (st.turn (ho:= .list xs.dropLast) hp (Kp.update s p.1 (Obj.mapSeq λ x=>x.eraseIdxIfInBounds (us.toArray.size - 1)) s.toks) (λ b e=> .inl e) ⟨_,c,hc,by rw[List.dropLast_eq_take,hlen];exact rr.take _⟩) vy
 |@extend j xs ys hσ hj hne hl k=>
  refine aU (dQ hv) λ v rq1 hw=>?_;subst rq1;refine nv (st.list hw hj) λ p' us' n' rq1 hp' ho' r'=>?_;subst rq1;refine dP (st.obj i _ p hσ hp) λ us n ho r=>?_;rw[r.length,r'.length] at hl;have hsz:us.toArray.size+us'.toArray.size<=sizeLine:=by rw[List.size_toArray,List.size_toArray,sizeLine_eq];unfold lim at hl;lia
  refine call_meets F.slot_list_extend ⟨_,ho,rfl⟩ F.entry_list_extend (F.args_list_extend_2 _ _) (AutoSeq1.list_extend_list_list_0 p.1 us.toArray n p'.1 us'.toArray n' (extend_door hsz) (by lia) (by lia)) ⟨ho,ho',?_⟩
  obtain⟨c,hc⟩:∃c,(s.heap.update p.1 (Obj.mapSeq λ y=>y++us'.toArray)).get? p.1=some (dY (us++us') c):=by
   have e0:=cf (Obj.mapSeq λ y=>y++us'.toArray) ho rfl;rw[mapSeq_app,List.append_toArray] at e0;exact⟨_,e0⟩
  exact(q _ _ k).same (st.turn (ho:= .list (xs++ys)) hp (Kp.update s p.1 (Obj.mapSeq λ y=>y++us'.toArray) s.toks) (λ b e=> .inl e) ⟨us++us',c,hc,r.append r'⟩) rfl
 |@index xs x k hσ hl hk kk=>
  refine aU (dQ hv) λ v rq1 hw=>?_;subst rq1;refine dP (st.obj i _ p hσ hp) λ us n ho r=>?_;have hlen:=r.length;refine cO (y3 hk) λ hall h2=>?_;refine aU (h2 k rfl) λ hj q1 q2=>?_;have hz:∀m (hm:m<us.toArray.size) (hm':m<xs.length) (b:Bool),cU 8 xs[m] x=some b->ql W S H x xs us.toArray[m]=b:=λ m hm hm' b e=>by
   refine aU (r.at m us.toArray[m] (by simp at hm;simp[hm])) λ z h1 h2=>?_
   rw[List.getElem?_eq_getElem hm'] at h1;exact pg (List.getElem_mem hm') (aA h1▸h2) e hall
  exact call_meets F.slot_list_index ⟨_,ho,rfl⟩ F.entry_list_index (F.args_list_index_2 _ _) (SeqAt.list_indexAt p.1 us.toArray n none #[] v (ql W S H x xs) k (by rw[List.size_toArray];lia) (by unfold lim at hl;lia)
   (hz k _ hj true q1) (λ m hm hlt=>hz m hm (by rw[List.size_toArray] at hm;lia) false (q2 m _ hlt))) ⟨ho,pD hu9 st.S_ok r hw hall,(q _ _ kk).same (st.toks _) ⟨_,rfl⟩⟩
 |get hσ hk k=>
  refine aU (dQ hv) λ v rq1 hw=>?_;subst rq1;refine dP (st.obj i _ p hσ hp) λ es n ho U=>?_;refine aK F.slot_dict_get ⟨_,ho,rfl⟩ F.entry_dict_get ?_ (F.args_dict_get_2 _ _);exact fm (tV st hσ hp hu9 hk hw (d:= .none) (dv:=none) rfl λ w s' st' vw=>⟨_,rfl,(q _ _ k).same st' vw⟩)
 |getD hσ hk k=>
  refine dL (kH hv) λ v dv rq1 hw hd=>?_;subst rq1;refine dP (st.obj i _ p hσ hp) λ es n ho U=>?_;refine aK F.slot_dict_get ⟨_,ho,rfl⟩ F.entry_dict_get ?_ (F.args_dict_get_3 _ _ _);exact fm (tV st hσ hp hu9 hk hw (dv:=some dv) hd λ w s' st' vw=>⟨_,rfl,(q _ _ k).same st' vw⟩)
 |sdS hσ hk hl hf k=>
  refine dL (kH hv) λ v dv rq1 hw hd=>?_;subst rq1;exact x9 st hσ hp hu9 hk hw hd hl (λ w val s' e vw st'=>(q _ _ k).same st' (aA (hf.symm.trans e)▸vw)) λ s' e st'=>nomatch hf.symm.trans e
 |sdN hσ hk hl hf k=>
  refine dL (kH hv) λ v dv rq1 hw hd=>?_;subst rq1;exact x9 st hσ hp hu9 hk hw hd hl (λ w val s' e vw st'=>nomatch hf.symm.trans e) λ s' e st'=>(q _ _ k).same st' hd
end
theorem nJ {k:Int} {n j:Nat} (h:place k n=some j):seqIndex? k n=some j/\j<n/\((0<=k/\k.toNat=j)\/(k<0/\-(n:Int)<=k/\(k+n).toNat=j)):=by
 unfold place at h;cases k with
 |ofNat i=>
  dsimp only at h
  split at h<;>cases h
  rename_i hl;refine⟨?_,hl, .inl ⟨dj _,rfl⟩⟩;have h1:¬((j:Int)<0):=by lia
  show seqIndex? (j:Int) n=some j;unfold seqIndex?;simp only[h1,if_false];rw[if_pos (by simp only[Bool.and_eq_true,decide_eq_true_eq];lia)]
  rfl
 |negSucc i=>
  dsimp only at h
  split at h<;>cases h
  rename_i hl;have h0:Int.negSucc i<0:=Int.negSucc_lt_zero i;have e:Int.negSucc i+(n:Int)=((n - (i+1):Nat):Int):=by omega
  refine⟨?_,by omega, .inr ⟨h0,by lia,by rw[e];rfl⟩⟩
  rw[seqIndex_neg h0 (by lia),e];rfl
section
variable{W:Wd} {T S:PH} {H:Io} {V:aF} {s:Shared} {A:Around} {E:Value->Shared->Prop}
theorem BP {a:Addr} {xs:List HV} {vs:List Value} {kk:Int} {j:Nat} {t:Tok} {r:HV} {Q:Value->Shared->Prop} (st:St W T S H V s) (ho:s.heap.IsList a vs.toArray) (rr:bW W S H xs vs) (hl:xs.length<lim) (hj:place kk xs.length=some j) (hr:xs[j]? =some r)
  (q:Ok W T S H Q r V):wpAny (model W.prog W.w) A (getItem (.ref a) (.int kk t)) Q E s:=by
 have hlen:=rr.length;refine kB (nJ hj) λ h1 h2 h3=>?_;refine aU (rr.get hr) λ w hw vw=>?_;rcases h3 with⟨h3,h4⟩|⟨h3,h4,h5⟩
 ·exact wpAny_getItem_list ho h3 (by unfold lim at hl;lia) (x:=w) (by rw[h4];simpa using hw) (q.same st vw)
 ·exact wpAny_getItem_list_neg ho h3 (by rw[List.size_toArray];lia) (by unfold lim at hl;lia) (x:=w) (by rw[List.size_toArray,<- hlen,h5];simpa using hw) (q.same st vw)
theorem Az {x y:HV} {N:HV->Prop} {u v:Value} {Q:Value->Shared->Prop} (st:St W T S H V s) (hu:A.units+16<cLine) (h:bj V N x y) (hx:VR W S H x u) (hy:VR W S H y v) (q:∀r,N r->Ok W T S H Q r V):
  wpAny (model W.prog W.w) A (getItem u v) Q E s:=by
 induction h with
 |@t xs kk j r hl hj hr k=>
  refine iR hx λ a vs n rq1 ho rr=>?_;subst rq1;refine ce hy λ t rq1=>?_;subst rq1;have hlen:=rr.length;refine kB (nJ hj) λ h1 h2 h3=>?_;refine aU (rr.get hr) λ w hw vw=>?_;refine PyProof.Rows.getItem_tuple (gl (st.S_ok _ _ ho)) ?_ ?_ (j:=j) (by rw[List.size_toArray,<- hlen];exact h1) (by simpa using hw) ((q _ k).same st vw)
  ·unfold lim at hl;rcases h3 with h3|h3<;>lia
  ·unfold lim at hl;rcases h3 with h3|h3<;>lia
 |rl hl hj hr k=>
  refine ky hx λ a vs o hz3=>?_;refine GP hz3 λ n rq1 ho hc hd rr=>?_;subst rq1;refine ce hy λ t rq1=>?_;subst rq1;exact BP st ⟨o,st.S_ok _ _ ho,hc,n,hd⟩ rr hl hj hr (q _ k)
 |l hσ hl hj hr k=>
  refine nv (st.list hx hσ) λ p vs n rq1 hp ho rr=>?_;subst rq1;obtain⟨t,rfl⟩:=hy;exact BP st (dm ho) rr hl hj hr (q _ k)
 |@dct i kvs kk r hσ hk hr k=>
  refine aU hx λ p hp rq1=>?_;subst rq1;refine dP (st.obj i _ p hσ hp) λ es n ho U=>?_;refine wpAny_getItem_slot ⟨_,ho,rfl⟩ (by decide) F.slot_dict_getitem (aK F.slot_dict_getitem ⟨_,ho,rfl⟩ entry_dict_getitem ?_ (args_dict_getitem _ _))
  refine fm (wb (Cs st hσ hp (by show A.units+1+8<cLine;lia) hk hy λ o tk ho'=>?_))
  rw[hr] at ho'
  induction o using Jn with
  |none=>exact ho'.elim
  |some w=>exact fm (ag ⟨_,rfl,(q _ k).same (st.toks _) ho'⟩)
theorem w8 {l:Addr} {vs:List Value} {n:Nat} {k:Int} {t:Tok} {v:Value} {Q:Unit->Shared->Prop} (ho:s.heap.get? l=some (dY vs n)) (h0:0<=k) (hfit:k<2^63) (hn:k.toNat<vs.length)
  (q:∀h' c,h'.get? l=some (dY (vs.set k.toNat v) c)->Heap.SameBut l s.heap h'->Q () {s with heap:=h'}):wpAny (model W.prog W.w) A (setItem (.ref l) (.int k t) v) Q E s:=by
 have hTy:s.TypeIs (.ref l) "list":=⟨_,ho,rfl⟩;refine av ?_;refine wb (wpAny_sequenceKey hTy (by decide) ?_)
 refine af (bU (name:=Str.ofString "__setitem__") hTy slot_list_setitem
  (aK slot_list_setitem hTy entry_list_setitem ?_ (args_list_setitem _ _ _)))
 show wpAny _ _ (Builtin.List.listSubscript? (.int k t)>>=_) _ _ s;refine wb (wpAny_listSubscript_int (fitsIndex_of h0 hfit) ?_);clear hfit;refine ce (Int.eq_ofNat_of_zero_le h0) λ j rq1=>?_;subst rq1;have hjl:j<vs.length:=hn;refine wb (wb (wpAny_seqItemAt ho rfl (ag ?_)));have hg:vs.toArray[j]? =some vs[j]:=by simp[hjl]
 rw[hg];obtain⟨c,hc⟩:∃c,(s.heap.update l (Obj.mapSeq (·.setIfInBounds j v))).get? l=some (seqObj "list" (vs.toArray.setIfInBounds j v) c):=⟨_,get?_update_seq ho _⟩;have hset:vs.toArray.setIfInBounds j v=(vs.set j v).toArray:=by simp
 rw[hset] at hc;have fin:=q _ c hc (eZ ..);refine wb (wpAny_setSeqItemAt ho rfl ?_)
 first
  |exact fm (ag ⟨.none,rfl,ag fin⟩)
  |exact ag ⟨.none,rfl,ag fin⟩
theorem vg {o k x:HV} {N:aF->Prop} {uo uk ux:Value} {Q:Unit->Shared->Prop} (st:St W T S H V s) (hu:A.units+16<cLine) (h:nt V x N o k) (ho:VR W S H o uo) (hk:VR W S H k uk) (hx:VR W S H x ux)
  (q:∀V',N V'->∀s',St W T S H V' s'->Q () s'):wpAny (model W.prog W.w) A (setItem uo uk ux) Q E s:=by
 induction h with
 |@l i xs j hσ hl hjl k=>
  refine aU ho λ p hp rq1=>?_;subst rq1;refine dP (st.obj i _ p hσ hp) λ vs n hob rr=>?_;refine ce hk λ t rq1=>?_;subst rq1;rw[rr.length] at hl hjl;exact w8 (k:=Int.ofNat j) hob (dj j) (I3 (az hjl hl) rfl) hjl λ h' c hc hs=>
   q _ k _ (st.turn (ho:= .list (xs.set j x)) hp (Kp.sameBut (n:=s.toks) hs) (λ b e=> .inl e) ⟨vs.set j ux,c,hc,rr.set j hx⟩)
 |@dct i kvs kk hσ hko hl k=>
  refine aU ho λ p hp rq1=>?_;subst rq1;refine dP (st.obj i _ p hσ hp) λ es n hob U=>?_;have hT:s.TypeIs (.ref p.1) "dict":=⟨_,hob,rfl⟩;unfold setItem
  try with_reducible refine av ?_
  refine wb (wpAny_sequenceKey hT (by decide) ?_)
  refine af (bU (name:=Str.ofString "__setitem__") hT F.slot_dict_setitem
   (aK F.slot_dict_setitem hT entry_dict_setitem ?_ (args_dict_setitem _ _ _)))
  refine wb (wpAny_notOrdered_dict hT ?_);show wpAny _ _ (dictSet p.1 uk ux>>=_) _ _ s;exact wb (Hn st hσ hp (by show A.units+1+8<cLine;lia) hko hk hx hl λ s' st'=>ag ⟨.none,rfl,ag (q _ k s' st')⟩)
end
structure sG (W:Wd) (P:bQ) (K:Frag) (c:Nat) (h:xQ):Prop where
 ga:findIn K (.ref (W.clsA c)) "__getattribute__"=some (some (.builtin "object.__getattribute__"))
 gattr:findIn K (.ref (W.clsA c)) "__getattr__"=some none
 sattr:findIn K (.ref (W.clsA c)) "__setattr__"=some (some (.builtin "object.__setattr__"))
 over:plainOver K (W.clsA c)=true
 has:hasDictIn K (W.clsA c)=true
 makes:makesIn K (W.clsA c)=true
 init:findIn K (.ref (W.clsA c)) "__init__"=some (some (.ref (W.fnA h.init)))
 find:∀a,a<W.strL.length->gk P c a=true->findIn K (.ref (W.clsA c)) (W.str a)=some ((dM P c a).map λ k=> .ref (W.fnA k))
structure rR (W:Wd) (P:bQ) (K:Frag):Prop where
 kin:K.In W.hb
 cls:∀c h,P.clss[c]? =some h->sG W P K c h
 fn:∀k,k<P.funs.length->(∃f,P.funs[k]? =some f)->isFn K (.ref (W.fnA k))=true/\specialIn K (.ref (W.fnA k)) "__get__"=some (some (.builtin "function.__get__"))/\takesIn K (.ref (W.fnA k))=some false
 copied:∀a,a<W.strL.length->copiedNames.contains (W.str a)=false
section
variable{W:Wd} {P:bQ} {K:Frag} {T S:PH} {H:Io} {V:aF} {s:Shared} {A:Around} {E:Value->Shared->Prop}
theorem St.kin (st:St W T S H V s) (ok:rR W P K):K.In s.heap:=λ a o e=>st.keep_base (ok.kin a o e)
theorem FW {X Z:Type} {o:Option X} {f:X->Option Z} {a:X} {r:Option Z} (h:o=some a) (k:f a=r):o.bind f=r:=by rw[h];exact k
theorem A6 {a:Nat} {kvs:List (HV×HV)} (h:bp (.str a) kvs=true):∀p∈kvs,∃k,p.1= .str k:=λ p hp=>tu (aM.mp h p hp)
theorem rM {a:Nat} (ha:a<W.strL.length) {kvs:List (HV×HV)} {es:List DictEntry} (h:bp (.str a) kvs=true) (d:iJ W S H kvs es):
  (es.any (·.refKey)=false)/\match bA (.str a) kvs with
   |some v=>∃e,es.find? (·.key.isStr (W.str a))=some e/\VR W S H v e.val
   |none=>es.find? (·.key.isStr (W.str a))=none:=by
 induction d.l with
 |nil=>exact⟨rfl,rfl⟩
 |@cons kv e kvs es r _ ih=>
  have h:(isStr kv.1&&bp (.str a) kvs)=true:=h;refine cO (aD.mp h) λ h hk=>cO (ih hk (.of ‹_›)) λ i1 i2=>ce (tu h) λ n hn=>?_;refine kB r λ h1 h2 U=>?_;rw[hn] at h1;refine cO h1 λ hl hz1=>?_;refine ce hz1 λ t ht=>?_;have hs:e.key.isStr (W.str a)=Nat.beq n a:=by
   rw[ht];exact lh W hl ha
  refine⟨by rw[List.any_cons,i1,Bool.or_false];show Value.isRef e.key=false;rw[ht];rfl,?_⟩
  rw[iF,hn,ph,List.find?_cons,hs]
  induction hb:Nat.beq n a using Jp with
  |true=>exact⟨e,rfl,h2⟩
  |false=>exact i2
theorem lP {a:Nat} (ha:a<W.strL.length) {kvs:List (HV×HV)} {es:List DictEntry} {n:Nat} (h:bp (.str a) kvs=true) (d:iJ W S H kvs es):
  match bA (.str a) kvs with
   |some v=>∃u,lookIn (W.str a) (dJ es n)=some (some u)/\VR W S H v u
   |none=>lookIn (W.str a) (dJ es n)=some none:=by
 refine cO (rM ha h d) λ h1 h2=>?_;show match bA (.str a) kvs with
   |some v=>∃u,PySem.W.getL (W.str a) es=some (some u)/\VR W S H v u
   |none=>PySem.W.getL (W.str a) es=some none
 unfold PySem.W.getL
 induction e:bA (.str a) kvs using Jn with
 |some v=>
  rw[e] at h2;refine aU h2 λ en q1 q2=>?_;exact⟨en.val,by rw[q1],q2⟩
 |none=>
  replace h2:=e▸h2;dsimp only at h2 ⊢;rw[h2,h1];rfl
theorem VR.handed {x:HV} {u:Value} (hx:VR W S H x u):handedIn u=true:=by
 cases x with
 |none=>subst hx;rfl
 |bool b=>subst hx;rfl
 |int i=>obtain⟨t,rfl⟩:=hx;rfl
 |str k=>obtain⟨_,t,rfl⟩:=hx;rfl
 |t xs=>refine DU hx λ a vs n rq1 _=>?_;subst rq1;rfl
 |w xs=>refine ky hx λ a vs n hz3=>?_;refine aU hz3 λ t rq1 _=>?_;subst rq1;rfl
 |uset xs=>refine ky hx λ a vs n hz3=>?_;refine aU hz3 λ t rq1 _=>?_;subst rq1;rfl
 |ref i=>refine aU hx λ p _ rq1=>?_;subst rq1;rfl
 |obj c i=>refine dL hx λ y p _ rq1 _=>?_;subst rq1;rfl
 |fn k=>subst hx;rfl
 |clo k cs=>refine ky hx λ a o fd hz3=>?_;refine aU hz3 λ cl rq1 _=>?_;subst rq1;rfl
 |meth k c i=>refine iR hx λ a y p _ rq1 _=>?_;subst rq1;rfl
 |cls c=>subst hx;rfl
 |rl xs=>refine ky hx λ a vs o hz3=>?_;refine aU hz3 λ n rq1 _=>?_;subst rq1;rfl
theorem oV (st:St W T S H V s) {c i:Nat} {x:Addr} {p:Addr×Nat} {kvs:List (HV×HV)} (hp:H[i]? =some p) (hS:S x=some (instObj (W.clsA c) p.1)) (hσ:V[i]? =some (.dict kvs)):
  ∃es n,s.heap.get? p.1=some (dJ es n)/\iJ W S H kvs es/\InstAt s.heap x (instObj (W.clsA c) p.1) (W.clsA c) (some (dJ es n)):=by
 refine dL (st.obj i _ p hσ hp) λ es n ho dr U=>?_;exact⟨es,n,ho,dr,st.S_ok _ _ hS,rfl,rfl,ho⟩
theorem sG.of (ok:rR W P K) {c a:Nat} {kvs:List (HV×HV)} (h:(gk P c a&&bp (.str a) kvs)=true) (ha:a<W.strL.length):(∃h,sG W P K c h)/\findIn K (.ref (W.clsA c)) (W.str a)=some ((dM P c a).map λ k=> .ref (W.fnA k))/\bp (.str a) kvs=true:=by
 refine cO ((eN _ _).mp h) λ h1 h2=>?_;have hc:c<P.clss.length:=by
  have:=((eN _ _).mp h1).1;exact ae this
 have CF:=ok.cls c _ (ak hc);exact⟨⟨_,CF⟩,CF.find a ha h1,h2⟩
theorem xO (ok:rR W P K) {o:HV} {N:HV->Prop} {a:Nat} {u:Value} {expr:Bool} {Q:Value->Shared->Prop} (ha:a<W.strL.length) (hfn:∀c a k,dM P c a=some k->k<P.funs.length) (st:St W T S H V s) (h:dZ P V a N o)
  (ho:VR W S H o u) (q:∀r,N r->Ok W T S H Q r V):wpAny (model W.prog W.w) A (getAttr u (W.str a) expr) Q E s:=by
 induction h with
 |@fld c i kvs v hσ hk e hm kk=>
  refine kB (sG.of ok hk ha) λ hq1 hfind hk=>?_;refine ce hq1 λ _ CF=>?_;refine dL ho λ x p hp rq1 hS=>?_;subst rq1;refine dL (oV st hp hS hσ) λ es n hob dr I=>?_;have L:=lP (n:=n) ha hk dr;rw[e] at L;refine aU L λ w hl vw=>?_;rw[hm] at hfind;exact get_value (st.kin ok) I CF.ga (findObj_own CF.has hfind rfl hl) vw.handed ((q _ kk).same (st.toks _) vw)
 |@mth c i k kvs hσ hk e hm kk=>
  refine kB (sG.of ok hk ha) λ hq2 hfind hk=>?_;refine ce hq2 λ _ CF=>?_;refine dL ho λ x p hp rq1 hS=>?_;subst rq1;refine dL (oV st hp hS hσ) λ es n hob dr I=>?_;have L:=lP (n:=n) ha hk dr;have α:=st.kin ok;replace L:=e▸L;rw[hm] at hfind;have hkl:=hfn c a k hm;refine kB (ok.fn k hkl ⟨_,ak hkl⟩) λ f1 f2 f3=>?_;have hf:findObj K (W.clsA c) (some (dJ es n)) (W.str a)=some (.bind (.builtin "function.__get__") (.ref (W.fnA k))):=by
   refine aU (any_some CF.has) λ cd hc1 hd1=>?_;have ho:PySem.W.ownOf cd (some (dJ es n)) (W.str a)=some none:=by unfold PySem.W.ownOf;rw[if_pos hd1];exact L
   exact FW hc1 (FW hfind (FW f2 (FW f3 (FW ho (if_neg λ h=>aQ ((ok.copied a ha).symm.trans (aD.mp h).1))))))
  refine get_bind α I CF.ga hf CF.gattr (kY (fn_get (s:={s with toks:=s.toks+1}) (α:K.In _) (beq_iff_eq.mp f1) (ag ?_)));have new:=dN (o:=methodObj (.ref (W.fnA k)) (.ref x)) (st.S_new (ai _));exact q _ kk _ H _ _ new (ax _) ((st.toks (s.toks+1)).addS (s:={s with toks:=s.toks+1}) (ai _) (Kp.push _ _) (λ U f=>f.elim) (aC _ rfl)) ⟨_,x,p,hp,rfl,cH _ _ _,new _ _ hS⟩
noncomputable def fH (W:Wd) (S:PH) (H:Io):iI->Value×List Value->Prop
 | .own k c i,r=>∃x p,H[i]? =some p/\S x=some (instObj (W.clsA c) p.1)/\r=(.ref (W.fnA k),[.ref x])
 | .built m i,r=>∃p,H[i]? =some p/\r=(.builtin (Gx m),[.ref p.1])
structure tL (W:Wd) (P:bQ):Prop where
 names:∀a m,P.mns.lookup a=some m->W.str a=(match m with| .append=>Str.ofString "append"| .pop=>Str.ofString "pop"| .extend=>Str.ofString "extend"| .index=>Str.ofString "index"| .get=>Str.ofString "get"| .setdefault=>Str.ofString "setdefault")
theorem vI (ok:rR W P K) (mo:tL W P) {o:HV} {N:iI->Prop} {a:Nat} {u:Value} {pl:Sem Bool} {Q:Value×List Value->Shared->Prop} (ha:a<W.strL.length) (hfn:∀c a k,dM P c a=some k->k<P.funs.length)
  (st:St W T S H V s) (h:jE P V a N o) (ho:VR W S H o u) (q:∀m r,N m->fH W S H m r->Q r s):wpAny (model W.prog W.w) A (getMethod u (W.str a) pl) Q E s:=by
 induction h with
 |@own c i k kvs hσ hk e hm kk=>
  refine kB (sG.of ok hk ha) λ hq3 hfind hk=>?_;refine ce hq3 λ _ CF=>?_;refine dL ho λ x p hp rq1 hS=>?_;subst rq1;refine dL (oV st hp hS hσ) λ es n hob dr I=>?_;have L:=lP (n:=n) ha hk dr;replace L:=e▸L;rw[hm] at hfind;have hkl:=hfn c a k hm;refine kB (ok.fn k hkl ⟨_,ak hkl⟩) λ f1 f2 f3=>?_;exact method_fn (st.kin ok) I CF.ga CF.gattr hfind (beq_iff_eq.mp f1) (by show(lookIn _ _).map _=_;rw[L];rfl) (q _ _ kk ⟨x,p,hp,hS,rfl⟩)
 |@l i xs m hσ hm hl kk=>
  refine aU ho λ p hp rq1=>?_;subst rq1;refine dP (st.obj i _ p hσ hp) λ vs n hob U=>?_;have hg:∀{name:Str} {id:String},Slot "list" name id->typeOf (.builtin id)=pure (.type "method_descriptor")->Q (.builtin id,[.ref p.1]) s->wpAny (model W.prog W.w) A (getMethod (.ref p.1) name pl) Q E s:=
   λ slot hty hq=>getMethod_builtin (T:="list") ⟨_,hob,rfl⟩ PySem.F.plainAttrs_list slot hty (λ b e=>Ir e▸⟨_,hob,rfl⟩) hq
  have hq:=q _ _ kk ⟨p,hp,rfl⟩;rw[mo.names a m hm];clear hm kk;cases m with
  |append=>exact hg PySem.F.slot_list_append PySem.F.type_list_append hq
  |pop=>exact hg PySem.F.slot_list_pop PySem.F.type_list_pop hq
  |extend=>exact hg PySem.F.slot_list_extend PySem.F.type_list_extend hq
  |index=>exact hg PySem.F.slot_list_index PySem.F.type_list_index hq
  |get=>exact qU hl
  |setdefault=>exact qU hl
 |@dct i kvs m hσ hm hl kk=>
  refine aU ho λ p hp rq1=>?_;subst rq1;refine dP (st.obj i _ p hσ hp) λ es n hob U=>?_;have hg:∀{name:Str} {id:String},Slot "dict" name id->typeOf (.builtin id)=pure (.type "method_descriptor")->Q (.builtin id,[.ref p.1]) s->wpAny (model W.prog W.w) A (getMethod (.ref p.1) name pl) Q E s:=
   λ slot hty hq=>getMethod_builtin (T:="dict") ⟨_,hob,rfl⟩ PySem.F.plainAttrs_dict slot hty (λ b e=>Ir e▸⟨_,hob,rfl⟩) hq
  have hq:=q _ _ kk ⟨p,hp,rfl⟩;rw[mo.names a m hm];clear hm kk;cases m with
  |get=>exact hg PySem.F.slot_dict_get PySem.F.type_dict_get hq
  |setdefault=>exact hg PySem.F.slot_dict_setdefault PySem.F.type_dict_setdefault hq
  |_=>exact rO hl
end
section
variable{W:Wd} {P:bQ} {K:Frag} {T S:PH} {H:Io} {V:aF} {s:Shared} {A:Around} {E:Value->Shared->Prop}
theorem wP {a:Nat} (ha:a<W.strL.length) {kvs:List (HV×HV)} {es:List DictEntry} (h:bp (.str a) kvs=true) (d:iJ W S H kvs es):es.findIdx? (λ e=>e.key.isStr (W.str a))=gw (.str a) kvs:=
 d.idx λ p hp e he=>by
  refine ce (A6 h p hp) λ n hn=>?_;rw[hn] at he ⊢;obtain⟨hl,t,ht⟩:=he;rw[ht,ph];show(W.str n==W.str a)=_;exact lh W hl ha
theorem sN (ok:rR W P K) {o v:HV} {a:Nat} {N:aF->Prop} {u uv:Value} {Q:Unit->Shared->Prop} (ha:a<W.strL.length) (st:St W T S H V s) (h:Fa P V a v N o) (ho:VR W S H o u) (hv:VR W S H v uv)
  (q:∀V',N V'->∀s',St W T S H V' s'->Q () s'):wpAny (model W.prog W.w) A (setAttr u (W.str a) uv) Q E s:=by
 induction h with
 |@mk c i kvs hσ hk hm h5 kk=>
 refine kB (sG.of ok hk ha) λ hq1 hfind hk=>?_;refine ce hq1 λ _ CF=>?_;refine dL ho λ x p hp rq1 hS=>?_;subst rq1;refine dL (oV st hp hS hσ) λ es n hob dr I=>?_;rw[hm] at hfind;have α:=st.kin ok;have ht:takerIn K (W.clsA c) (W.str a)=some none:=by unfold takerIn;rw[hfind];rfl
 refine set_plain α I CF.sattr (osa_open (s:={s with toks:=s.toks+1}) α I CF.over ht λ b=>?_);refine aU (any_some CF.has) λ cd hcd hd'=>?_;have hx:=I.at_;refine fm (wb (wb (wpAny_loadPart hx (af (looks_clsIn α hcd _ _ _ {s with toks:=s.toks+1} (λ U U e=>e) ?_)))));rw[hd'];refine ag (a:=some p.1) ?_;refine fm (wb ?_);refine wb (wb (wpAny_askSetting (ag (wb (wpAny_mkText (af (wpAny_loadPart hob ?_)))))));dsimp only;have hnr:(!es.toArray.any (·.key.isStr (W.str a))&&es.toArray.any (·.refKey))=false:=by
  have:=(rM ha hk dr).1;rw[List.any_toArray,List.any_toArray,this,Bool.and_false]
 rw[aRefKeyMayBeTheName_at,hnr];refine wpAny_updatePart (s:={s with toks:=s.toks+1+1}) hob ?_;refine Eg (st.obj i _ p hσ hp) λ es' n' ho2 dr' hn' pw hall=>?_;rw[hob] at ho2;have hes:es=es'/\n=n':=by
  injection ho2 with h;injection h with _ _ h _;injection h with h1 h2;exact⟨am Array.toList h1,h2⟩
 obtain⟨rfl,rfl⟩:=hes;have hput:∀tk:Tok,Obj.putName (W.str a) (hashStr W.w (W.str a)) (.str (W.str a) tk) uv (dJ es n)=dJ (putL (W.str a) (hashStr W.w (W.str a)) (.str (W.str a) tk) uv es) (putN (W.str a) es n):=λ tk=>putName_dict _ _ _ _ _ _;have hl:=dr.length;have hsz:(putL (W.str a) (hashStr W.w (W.str a)) (.str (W.str a) (s.toks+1)) uv es).length<=501:=by
  rw[<- putL_find]
  split<;>simp<;>lia
 have D':(s.heap.update p.1 (Obj.putName (W.str a) (hashStr W.w (W.str a)) (.str (W.str a) (s.toks+1)) uv)).get? p.1=some (dJ (putL (W.str a) (hashStr W.w (W.str a)) (.str (W.str a) (s.toks+1)) uv es) (putN (W.str a) es n)):=by
  rw[Heap.get?_update_self _ hob (by rw[hput];rfl),hput]
 have OR':OR W S H (.dict (dC (.str a) v kvs)) p ((s.heap.update p.1 (Obj.putName (W.str a) (hashStr W.w (W.str a)) (.str (W.str a) (s.toks+1)) uv)).get? p.1):=by
  refine OR.putD dr hn' pw hall hk (key:= .str (W.str a) (s.toks+1)) ⟨ha,_,rfl⟩ hv ?_;rw[D',<- wP ha hk dr,<- putL_find];have hp':putN (W.str a) es n=match es.findIdx? (λ x=>x.key.isStr (W.str a)) with|some _=>n|none=>n+1:=by
   unfold putN;rw[<- any_of_findIdx];cases es.findIdx? (λ x=>x.key.isStr (W.str a))<;>rfl
  rw[hp'];cases es.findIdx? (λ x=>x.key.isStr (W.str a))<;>rfl
 refine wb (wpAny_lookBehind D' (pastItsLine_dict (by rw[List.size_toArray,sizeLine_eq];lia)) ?_)
 exact ag (q _ kk _ (st.turn hp (Kp.update s p.1 _ _) (λ b e=> .inl e) OR'))
end
section
variable{W:Wd} {T S:PH} {H:Io} {V:aF} {s:Shared} {A:Around} {E:Value->Shared->Prop} {lay:List Str} {env:Env} {Y:bc}
theorem Bu {i:Nat} {v:HV} (h:sC Y i=some v):Y[i]? =some (.val v)\/Y[i]? =some (.ro v):=by
 have h:(match Y[i]? with|some (.val v)=>some v|some (.ro v)=>some v|_=> .none)=some v:=h
 revert h;rcases Y[i]? with _|sv
 ·exact dX
 ·induction sv using SV.casesOn with
  |val w=>exact λ h=> .inl (am (λ v=>some (SV.val v)) (aA h))
  |ro w=>exact λ h=> .inr (am (λ v=>some (SV.ro v)) (aA h))
  |empty=>exact dX
theorem t9 {Y':bc} {i:Nat} {v:HV} (h:dS Y i v=some Y'):Y'=Y.set i (.val v)/\(Y[i]? =some .empty\/∃u,Y[i]? =some (.val u)):=by
 have h:(match Y[i]? with|some (.val _)=>some (Y.set i (.val v))|some .empty=>some (Y.set i (.val v))|_=> .none)=some Y':=h
 revert h;rcases Y[i]? with _|sv
 ·exact dX
 ·induction sv using SV.casesOn with
  |val u=>exact λ h=>⟨(aA h).symm, .inr ⟨u,rfl⟩⟩
  |empty=>exact λ h=>⟨(aA h).symm, .inl rfl⟩
  |ro u=>exact dX
theorem y9 {i:Nat} {x:Str} {v:HV} {Q:Value->Shared->Prop} (f:FrameT W T S H lay env Y) (st:St W T S H V s) (h:sC Y i=some v) (hx:lay[i]? =some x) (hn:(x==("__classdict__":Str))=false) (q:∀val,VR W S H v val->Q val s):
  wpAny (model W.prog W.w) A (loadName env x) Q E s:=by
 refine dL f.ns λ o m hT hns hsl=>?_;rcases Bu h with hr|hr
 ·rcases hsl i x _ hx hr with⟨hk,val,hm,hv⟩|⟨hk,c,val,hc,hT',hv⟩
  ·exact wpAny_loadName_local f.kind hk (hns.ns (st.T_ok _ _ hT)) hm (q val hv)
  ·exact wpAny_loadName_cell f.kind hk hc ⟨_,st.T_ok _ _ hT',rfl⟩ (q val hv)
 ·refine cO (hsl i x _ hx hr) λ hk hz1=>?_;refine dL hz1 λ c val hc hT' hv=>?_;have hcell:s.heap.IsCell c (some val):=hT'.elim (λ e=>⟨_,st.S_ok _ _ e,rfl⟩) λ e=>⟨_,st.T_ok _ _ e,rfl⟩;exact hk.elim (λ hk=>wpAny_loadName_cell f.kind hk hc hcell (q val hv)) λ hk=>wpAny_loadName_free f.kind hk hc hcell (q val hv) hn
noncomputable def mR (lay:List Str) (env:Env) (b:Addr):Prop:=b=env.locals\/∃x∈lay,env.kindOf x=some .cell/\env.cells.lookup x=some b
theorem pc {o:Obj} {m:Str->Option Value} {a c:Addr} {v:Option Value} (hT:T a=some o) (hns:lE o m) (hc:T c=some (dx v)):c≠a:=by
 rintro rfl;replace hc:=hT▸hc;refine dP hns λ es ep hd U=>?_;cases hc;cases hd
theorem eD.turn {T':PH} {m m':Str->Option Value} {x:Str} {sv:SV} (h:eD W T S H env m x sv) (hm:env.kindOf x=some .local->m' x=m x)
  (hc:env.kindOf x≠some .local->∀c v,env.cells.lookup x=some c->T c=some (dx v)->T' c=some (dx v)):eD W T' S H env m' x sv:=by
 cases sv with
 |empty=>
  rcases h with h|⟨h,c,v,h1,h2⟩
  ·exact .inl h
  ·exact .inr ⟨h,c,v,h1,hc (by rw[h];decide) _ _ h1 h2⟩
 |val v=>
  rcases h with⟨h,u,h1,h2⟩|⟨h,c,u,h1,h2,h3⟩
  ·exact .inl ⟨h,u,(hm h).trans h1,h2⟩
  ·exact .inr ⟨h,c,u,h1,hc (by rw[h];decide) _ _ h1 h2,h3⟩
 |ro v=>
  refine cO h λ h hz1=>?_;refine dL hz1 λ c u h1 h2 h3=>?_;exact⟨h,c,u,h1,h2.imp id (hc (by rcases h with h|h<;>rw[h]<;>decide) _ _ h1),h3⟩
theorem FrameT.put {T':PH} {i:Nat} {x:Str} {v:HV} {o':Obj} {m m':Str->Option Value} (f:FrameT W T S H lay env Y) (hsl:∀(j:Nat) y sv,lay[j]? =some y->Y[j]? =some sv->eD W T S H env m y sv) (hx:lay[i]? =some x) (nd:lay.Nodup)
  (hT':T' env.locals=some o') (hn:lE o' m') (hm:∀y,y≠x->m' y=m y) (hc:∀y∈lay,y≠x->env.kindOf y≠some .local->∀c v,env.cells.lookup y=some c->T c=some (dx v)->T' c=some (dx v))
  (hnew:eD W T' S H env m' x (.val v)):FrameT W T' S H lay env (Y.set i (.val v)):=
 ⟨f.kind,f.globals,f.builtins,by rw[List.length_set];exact f.len,f.apart,o',m',hT',hn,λ j y sv hy hj=>by
  by_cases hji:i=j
  ·rw[<- hji,List.getElem?_set_self (by rw[f.len];exact(List.getElem?_eq_some_iff.mp hx).1)] at hj
   rw[<- hji,hx] at hy;rw[<- Option.some.inj hj,<- Option.some.inj hy];exact hnew
  ·rw[List.getElem?_set_ne hji] at hj;have hyx:y≠x:=λ e=>hji ((List.getElem?_inj (ao.mp hx).1 nd).mp (hx.trans (e▸hy.symm)));exact(hsl j y sv hy hj).turn (λ U=>hm y hyx) λ k=>hc y (ar hy) hyx k⟩
theorem v9 {M:Model} {x:Str} {c:Addr} {v₀:Option Value} {val:Value} {Q:Unit->Shared->Prop} (hk:env.scope.kind= .function) (hl:env.kindOf x=some .cell) (hc:env.cells.lookup x=some c) (hv:s.heap.get? c=some (dx v₀))
  (h:∀h',h'.get? c=some (dx (some val))->Heap.SameBut c s.heap h'->Q () {s with heap:=h'}):wpAny M A (storeName env x val) Q E s:=by
 unfold storeName;rw[hl,hk];show wpAny M A (cellOf env x>>=λ c=>cellSet c (some val)) Q E s;exact wb (wpAny_cellOf hc (wb (m:=load c) (kZ hv (wpAny_update hv (h _ (cf _ hv rfl) (eZ ..))))))
theorem nR {i:Nat} {x:Str} {v:HV} {val:Value} {Y':bc} {Q:Unit->Shared->Prop} (f:FrameT W T S H lay env Y) (st:St W T S H V s) (h:dS Y i v=some Y') (hx:lay[i]? =some x) (nd:lay.Nodup) (hv:VR W S H v val)
  (q:∀T' s',(∀b,b≠env.locals->(env.kindOf x=some .cell->env.cells.lookup x≠some b)->T' b=T b)->FrameT W T' S H lay env Y'->St W T' S H V s'->Q () s'):wpAny (model W.prog W.w) A (storeName env x val) Q E s:=by
 refine cO (t9 h) λ hρ h=>?_;replace q:=hρ▸q;refine dL f.ns λ o m hT hns hsl=>?_;have hk:env.kindOf x=some .local\/env.kindOf x=some .cell/\∃c v₀,env.cells.lookup x=some c/\T c=some (dx v₀):=by
  rcases h with h|⟨u,h⟩
  ·exact hsl i x _ hx h
  ·exact(hsl i x _ hx h).imp (·.1) λ h=>⟨h.1,h.2.imp λ c h=>h.imp' some λ u h=>⟨h.1,h.2.1⟩⟩
 rcases hk with hk|⟨hk,c,v₀,hc,hTc⟩
 ·refine wpAny_storeName_local hk (hns.ns (st.T_ok _ _ hT)) (λ h' hN' hs=>?_) (by rw[f.kind];rfl)
  refine DU hN' λ o' es ep e1 e2=>?_;refine q (reread T [env.locals] h') _ (λ b hb U=>aJ λ k=>hb (al.mp k)) (f.put hsl hx nd (o':=o') ((bE (.head _)).trans e1) ⟨es,ep,e2⟩ (λ y hy=>if_neg hy) (λ y U U U c v U e=>(aJ λ k=>pc hT hns e (al.mp k)).trans e) (.inl ⟨hk,val,if_pos rfl,hv⟩))
   (st.reread (Kp.sameBut (n:=s.toks+1) hs).one (st.ownT λ b hb=>⟨o,al.mp hb▸hT⟩))
 ·refine v9 f.kind hk hc (st.T_ok _ _ hTc) λ h' hc' hs=>?_;refine q (reread T [c] h') _ (λ b U hb=>aJ λ k=>hb hk (al.mp k▸hc)) (f.put hsl hx nd (o':=o) ((aJ λ k=>pc hT hns hTc (al.mp k).symm).trans hT) hns (λ U U=>rfl)
   (λ y hm hyx hky c' v hl e=>(aJ λ k=>hyx (f.apart _ hm _ (ar hx) hky (by rw[hk];decide) _ hl (hc.trans (am some (al.mp k).symm)))).trans e) (.inr ⟨hk,c,val,hc,(bE (.head _)).trans hc',hv⟩))
   (st.reread (Kp.sameBut (n:=s.toks) hs).one (st.ownT λ b hb=>⟨_,al.mp hb▸hTc⟩))
theorem gI {i:Nat} {x:Str} {v:HV} {val:Value} {Y':bc} {Q:Unit->Shared->Prop} (f:FrameT W T S H lay env Y) (st:St W T S H V s) (h:dS Y i v=some Y') (hx:lay[i]? =some x) (nd:lay.Nodup) (hv:VR W S H v val)
  (q:∀T' s',(∀b,¬mR lay env b->T' b=T b)->FrameT W T' S H lay env Y'->St W T' S H V s'->Q () s'):wpAny (model W.prog W.w) A (storeName env x val) Q E s:=
 nR f st h hx nd hv λ T' s' k=>q T' s' λ b hb=>k b (λ e=>hb (.inl e)) λ hk e=>hb (.inr ⟨x,ar hx,hk,e⟩)
end
theorem cF {p:Str×NameKind} {r:List (Str×NameKind)} {n:Nat} {acc:List (Str×Addr)}:cellsFrom n (p::r) acc=if(p.2==NameKind.cell)=true then cellsFrom (n+1) r ((p.1,n)::acc) else cellsFrom n r acc:=rfl
theorem cX (names:List (Str×NameKind)):∀(n:Nat) (acc:List (Str×Addr)),cellsFrom n names acc=cellsFrom n names []++acc:=by
 induction names with
 |nil=>exact λ U U=>rfl
 |cons p r ih=>
  intro n acc;rw[cF,cF];by_cases h:(p.2==NameKind.cell)=true
  ·rw[if_pos h,if_pos h,ih (n+1) ((p.1,n)::acc),ih (n+1) [(p.1,n)],List.append_assoc];rfl
  ·rw[if_neg h,if_neg h];exact ih n acc
theorem d8 {X:Type} (l r:List (Str×X)) (x:Str):(l++r).lookup x=(l.lookup x).or (r.lookup x):=by
 induction l with
 |nil=>rfl
 |cons p l ih=>
  rw[List.cons_append,List.lookup_cons,List.lookup_cons]
  induction x==p.1 using Jp with
  |true=>rfl
  |false=>exact ih
section
variable{W:Wd} {T S:PH} {H:Io} {V:aF} {s:Shared} {A:Around} {E:Value->Shared->Prop} {lay:List Str}
theorem oO:∀(names:List (Str×NameKind)) (s:Shared),Kp (λ U=>False) s {s with heap:=pushCells s.heap names}:=λ names s=>
 ⟨λ b o U e=>pushCells_keeps names s.heap b o e,rfl,rfl⟩
theorem pC (names:List (Str×NameKind)):∀(h:Heap) (x:Str) (c:Addr),(cellsFrom h.objs.size names []).lookup x=some c->(pushCells h names).get? c=some (dx none)/\h.objs.size<=c:=by
 induction names with
 |nil=>exact λ U U U e=>dX e
 |cons p r ih=>
  intro h x c e;obtain⟨n,k⟩:=p;unfold cellsFrom at e;unfold pushCells;by_cases hk:(k==NameKind.cell)=true
  ·rw[if_pos hk] at e ⊢;rw[cX,d8] at e;have ih:=ih (h.push (dx none)) x;rw[Heap.size_push] at ih
   induction e1:(cellsFrom (h.objs.size+1) r []).lookup x using Jn with
   |some c'=>
    rw[e1] at e;rw[<- Option.some.inj e];exact⟨(ih c' e1).1,Nat.le_of_succ_le (ih c' e1).2⟩
   |none=>
    rw[e1,Option.none_or,List.lookup_cons] at e
    induction hx:x==n using Jp with
    |false=>rw[hx] at e;exact dX e
    |true=>
     rw[hx] at e;rw[<- Option.some.inj e];exact⟨pushCells_keeps r _ _ _ (aC _ rfl),ai _⟩
  ·rw[if_neg hk] at e ⊢;exact ih h x c e
theorem ng:∀(names:List (Str×NameKind)) (n:Nat) (x y:Str) (c:Addr),(cellsFrom n names []).lookup x=some c->(cellsFrom n names []).lookup y=some c->x=y:=by
 intro names n x y c h h';have key:∀(names:List (Str×NameKind)) (n:Nat),(∀p∈cellsFrom n names [],n<=p.2)/\(cellsFrom n names []).Pairwise λ x y=>x.2≠y.2:=by
  intro names
  induction names with
  |nil=>exact λ n=>⟨λ U h=>(ii h), .nil⟩
  |cons p r ih=>
   intro n;rw[cF];by_cases hq:(p.2==NameKind.cell)=true
   ·rw[if_pos hq,cX];refine cO (ih (n+1)) λ i1 i2=>?_;refine⟨λ p hp=>?_,?_⟩
    ·rcases aY.mp hp with hp|hp
     ·have:=i1 p hp;lia
     ·rw[List.mem_singleton] at hp;subst hp;exact ai _
    ·refine List.pairwise_append.mpr ⟨i2,by simp,λ a ha b hb=>?_⟩
     rw[List.mem_singleton] at hb;subst hb;have:=i1 a ha;exact aE this
   ·rw[if_neg hq];exact ih n
 exact name_of_addr (key names n).2 (mem_of_lookup h) (mem_of_lookup h')
noncomputable def CT (W:Wd) (T S:PH) (H:Io):List HV->List (Option Addr)->Prop
 |[],[]=>True
 |x::xs,some c::cs=>(∃v,(S c=some (dx (some v))\/T c=some (dx (some v)))/\VR W S H x v)/\CT W T S H xs cs
 |_,_=>False
theorem CT.get {S:PH} {H:Io} {xs:List HV}:∀{cs:List (Option Addr)} {i:Nat} {x:HV},CT W T S H xs cs->xs[i]? =some x->∃c v,cs[i]? =some (some c)/\(S c=some (dx (some v))\/T c=some (dx (some v)))/\VR W S H x v:=by
 induction xs with
 |nil=>exact λ U e=>dX (List.getElem?_nil.symm.trans e)
 |cons y xs ih=>
  intro cs i x h e;rcases cs with _|⟨_|c,cs⟩
  ·exact h.elim
  ·exact h.elim
  ·rcases i with _|i
   ·exact aU h.1 λ v hv r=>⟨c,v,rfl,hv,aA e▸r⟩
   ·have:=ih (i:=i) h.2 e;exact this
noncomputable def fh (n:Nat) (cs:List HV):bc:=List.replicate n .empty++cs.map .ro
structure lX (lay:List Str) (scope:Scope) (n k:Nat):Prop where
 len:lay.length=n+k
 nd:lay.Nodup
 kind:scope.kind= .function
 own:∀i x,i<n->lay[i]? =some x->scope.names.lookup x=some .local\/(scope.names.lookup x=some .cell/\((cellsFrom 0 scope.names []).lookup x).isSome=true)
 free:∀i x,n<=i->lay[i]? =some x->scope.names.lookup x=some .free/\(cellsFrom 0 scope.names []).lookup x=none
theorem gu {x:Str} (names:List (Str×NameKind)):∀(n m:Nat),((cellsFrom n names []).lookup x).isSome=((cellsFrom m names []).lookup x).isSome:=by
 induction names with
 |nil=>exact λ U U=>rfl
 |cons p r ih=>
  intro n m;rw[cF,cF];by_cases h:(p.2==NameKind.cell)=true
  ·rw[if_pos h,if_pos h,cX r (n+1),cX r (m+1),d8,d8,Option.isSome_or,Option.isSome_or,ih (n+1) (m+1),List.lookup_cons,List.lookup_cons]
   induction x==p.1 using Jp<;>rfl
  ·rw[if_neg h,if_neg h];exact ih n m
noncomputable def jZ (around:Option Env):Obj:={cls:= .type (if around.isSome then "dict" else "frame"),data:= .dict #[]}
theorem Do {n L:Nat} {cs:List HV} {scope:Scope} {closure cells0:List (Str×Addr)} {env:Env} {h1:Heap} {o0:Obj} (ok:lX lay scope n cs.length) (st:St W T S H V s) (hL:s.heap.objs.size=L) (hkp:Kp (λ U=>False) s {s with heap:=h1})
  (hloc:h1.get? L=some o0) (hns:lE o0 λ U=>none) (hce:∀x c,cells0.lookup x=some c->h1.get? c=some (dx none)/\L<c) (hinj:∀x y c,cells0.lookup x=some c->cells0.lookup y=some c->x=y)
  (hso:∀x,(cells0.lookup x).isSome=((cellsFrom 0 scope.names []).lookup x).isSome) (escope:env.scope=scope) (ecells:∀x,env.cells.lookup x=(cells0.lookup x).or (closure.lookup x)) (eloc:env.locals=L) (eglob:env.globals=mainGlobals) (eb:env.builtins=builtinsNs)
  (hc:CT W T S H cs ((lay.drop n).map λ x=>closure.lookup x)) (hap:∀x∈lay.drop n,∀y∈lay.drop n,∀c,closure.lookup x=some c->closure.lookup y=some c->x=y):
  ∃T1,(∀b o,T b=some o->T1 b=some o)/\St W T1 S H V {s with heap:=h1}/\FrameT W T1 S H lay env (fh n cs)/\∀b,mR lay env b->L<=b:=by
 have isOwn:∀{i:Nat} {x:Str},i<n->lay[i]? =some x->env.kindOf x=some .local\/(env.kindOf x=some .cell/\∃c,cells0.lookup x=some c/\env.cells.lookup x=some c):=λ {i x} hi hx=>by
  unfold Env.kindOf;rw[escope];rcases ok.own i x hi hx with h|⟨h,hs⟩
  ·exact .inl h
  ·refine ce (bo.mp ((hso x).trans hs)) λ c e=>?_;exact .inr ⟨h,c,e,by rw[ecells,e];rfl⟩
 have isFree:∀{i:Nat} {x:Str},n<=i->lay[i]? =some x->env.kindOf x=some .free/\env.cells.lookup x=closure.lookup x:=λ {i x} hi hx=>by
  refine cO (ok.free i x hi hx) λ h hn=>?_;have e:=hso x;rw[hn] at e;exact⟨by unfold Env.kindOf;rw[escope];exact h,by rw[ecells,Option.isSome_eq_false_iff.mp e|> Option.isNone_iff_eq_none.mp];rfl⟩
 have clo:∀{i:Nat} {x:Str},n<=i->lay[i]? =some x->∀{v},cs[i - n]? =some v->∃c val,closure.lookup x=some c/\(S c=some (dx (some val))\/T c=some (dx (some val)))/\VR W S H v val:=λ {i x} hi hx {v} hv=>by
  refine dL (hc.get hv) λ c val h1 h2 h3=>?_;rw[List.getElem?_map,List.getElem?_drop,Nat.add_sub_cancel' hi,hx] at h1;exact⟨c,val,aA h1,h2,h3⟩
 have part:∀{i:Nat} {x:Str} {c:Addr},lay[i]? =some x->env.kindOf x≠some .local->env.cells.lookup x=some c->(cells0.lookup x=some c/\L<c)\/(x∈lay.drop n/\closure.lookup x=some c/\c<L):=λ {i x c} hx hk hcx=>by
  rcases Nat.lt_or_ge i n with h|h
  ·rcases isOwn h hx with h'|⟨_,c',e1,e2⟩
   ·exact aN h' hk
   ·replace e2:=hcx▸e2;rw[<- Option.some.inj e2] at e1;exact .inl ⟨e1,(hce x c e1).2⟩
  ·have hil:=(ao.mp hx).1;replace hil:=ok.len▸hil;refine dL (clo h hx (ak (Nat.sub_lt_left_of_lt_add h hil))) λ c' val e1 e2 U=>?_;rw[(isFree h hx).2] at hcx;rw[hcx] at e1;rw[<- Option.some.inj e1] at e2;exact .inr ⟨ar (i:=i - n) (by rw[List.getElem?_drop,Nat.add_sub_cancel' h];exact hx),hcx,hL▸e2.elim st.S_lt st.T_lt⟩
 have hge:∀b∈L::lay.filterMap (cells0.lookup ·),L<=b:=λ b hb=>by
  rcases aB.mp hb with e|hb
  ·exact bX e.symm
  ·refine aU (List.mem_filterMap.mp hb) λ x U e=>?_;exact bP (hce x b e).2
 have hT1:∀b o,T b=some o->reread T (L::lay.filterMap (cells0.lookup ·)) h1 b=some o:=λ b o e=>(aJ λ h=>bS _ (aw (hL▸st.T_lt e) (hge b h))).trans e;have st':=st.reread (s':={s with heap:=h1}) (own:=L::lay.filterMap (cells0.lookup ·)) (hkp.weak λ U f=>f.elim) λ b hb=>⟨st.S_new (hL▸hge b hb),st.io_new (hL▸hge b hb)⟩;generalize hT:reread T (L::lay.filterMap (cells0.lookup ·)) h1=T1 at hT1 st';refine⟨T1,hT1,st',⟨by rw[escope];exact ok.kind,eglob,eb,by rw[fh,List.length_append,List.length_replicate,List.length_map,ok.len],λ x hx y hy hkx hky c hcx hcy=>?_,o0,λ U=>none,by rw[eloc,<- hT,bE (.head _)];exact hloc,hns,λ i x sv hx hsv=>?_⟩,λ b hb=>?_⟩
 ·refine ce (ba.mp hx) λ i hi=>?_;refine ce (ba.mp hy) λ j hj=>?_;rcases part hi hkx hcx with⟨p1,p2⟩|⟨p0,p1,p2⟩<;>rcases part hj hky hcy with⟨q1,q2⟩|⟨q0,q1,q2⟩
  ·exact hinj x y c p1 q1
  ·exact aN (az p2 q2) (bS _)
  ·exact aN (az p2 q2) (bS _)
  ·exact hap x p0 y q0 c p1 q1
 ·unfold fh at hsv;rcases Nat.lt_or_ge i n with h|h
  ·rw[List.getElem?_append_left (by rw[List.length_replicate];exact h),List.getElem?_replicate,if_pos h] at hsv
   rw[<- Option.some.inj hsv];rcases isOwn h hx with h|⟨h,c,e1,e2⟩
   ·exact .inl h
   ·exact .inr ⟨h,c,none,e2,by rw[<- hT,bE (.tail _ (List.mem_filterMap.mpr ⟨x,List.mem_of_getElem? hx,e1⟩))];exact(hce x c e1).1⟩
  ·rw[List.getElem?_append_right (by rw[List.length_replicate];exact h),List.getElem?_map,List.length_replicate] at hsv
   refine aU (aZ.mp hsv) λ v hv e=>?_;rw[<- e];refine dL (clo h hx hv) λ c val e1 e2 e3=>?_;refine cO (isFree h hx) λ f1 f2=>?_;exact⟨.inr f1,c,val,f2.trans e1,e2.imp id (hT1 _ _),e3⟩
 ·rcases hb with e|⟨x,hx,hk,hl⟩
  ·exact bX (eloc.symm.trans e.symm)
  ·refine ce (ba.mp hx) λ i hi=>?_;rcases Nat.lt_or_ge i n with h|h
   ·rcases isOwn h hi with h'|⟨_,c,e1,e2⟩
    ·rw[hk] at h';exact nomatch h'
    ·rw[hl] at e2;rw[Option.some.inj e2];exact bP (hce x c e1).2
   ·exact nomatch hk.symm.trans (isFree h hi).1
theorem Di {n:Nat} {cs:List HV} {scope:Scope} {closure:List (Str×Addr)} {qual:Str} {func:Option Addr} {code:Value} {around:Option Env} (hb:∀o,around=some o->o.builtins=builtinsNs) (ok:lX lay scope n cs.length) (st:St W T S H V s)
  (hc:CT W T S H cs ((lay.drop n).map λ x=>closure.lookup x)) (hap:∀x∈lay.drop n,∀y∈lay.drop n,∀c,closure.lookup x=some c->closure.lookup y=some c->x=y):
  ∃T1,(∀b o,T b=some o->T1 b=some o)/\St W T1 S H V {s with heap:=pushCells (s.heap.push (jZ around)) scope.names}/\
   FrameT W T1 S H lay (newEnv scope s.heap.objs.size mainGlobals (cellsFrom (s.heap.objs.size+1) scope.names closure) qual func code around builtinsNs) (fh n cs)/\
   ∀b,mR lay (newEnv scope s.heap.objs.size mainGlobals (cellsFrom (s.heap.objs.size+1) scope.names closure) qual func code around builtinsNs) b->s.heap.objs.size<=b:=
 Do (cells0:=cellsFrom (s.heap.objs.size+1) scope.names []) (o0:=jZ around) ok st rfl ((Kp.push s (jZ around)).trans (oO scope.names {s with heap:=s.heap.push (jZ around)})) (pushCells_keeps _ _ _ _ (aC _ rfl)) ⟨#[],0,rfl,λ e he=>(nomatch he),λ U=>rfl⟩
  (λ x c e=>by have h:=pC scope.names (s.heap.push (jZ around)) x c (by rw[Heap.size_push];exact e);rw[Heap.size_push] at h;exact h) (ng _ _) (λ x=>gu ..) (by rcases around with _|_<;>rfl)
  (λ x=>by rw[<- d8,<- cX];induction around<;>rfl) (by rcases around with _|_<;>rfl) (by rcases around with _|_<;>rfl) (by cases around using Jn with|none=>rfl|some o=>exact hb o rfl) hc hap
end
noncomputable def mP:bc->Nat->List HV->bc
 |Y,_,[]=>Y
 |Y,j,a::as=>mP (Y.set j (.val a)) (j+1) as
theorem q6 {args:List HV}:∀(pre:List HV) (n:Nat) (cs:List HV),args.length<=n->mP (pre.map SV.val++fh n cs) pre.length args=(pre++args).map SV.val++fh (n - args.length) cs:=by
 induction args with
 |nil=>exact λ pre n cs U=>by rw[List.append_nil];rfl
 |cons a as ih=>
  intro pre n cs h;rcases n with _|n
  ·exact aN h (hZ _)
  ·have e:(pre.map SV.val++fh (n+1) cs).set pre.length (.val a)=(pre++[a]).map SV.val++fh n cs:=by
    rw[List.set_append_right _ _ (Nat.le_of_eq (List.length_map ..)),List.length_map,Nat.sub_self,List.map_append,List.append_assoc];rfl
   show mP ((pre.map SV.val++fh (n+1) cs).set pre.length (.val a)) (pre.length+1) as=_;rw[e];refine(am (λ k=>mP _ k as) (List.length_append (as:=pre) (bs:=[a])).symm).trans ((ih (pre++[a]) n cs (cu h)).trans ?_);rw[List.append_assoc,List.length_cons,Nat.add_sub_add_right];rfl
section
variable{W:Wd} {T S:PH} {H:Io} {V:aF} {s:Shared} {A:Around} {E:Value->Shared->Prop} {lay:List Str} {env:Env}
theorem w9 (nd:lay.Nodup) (f:Str×Value->PUnit->Sem (ForInStep PUnit)) (hf:∀n v u,f (n,v) u=(do storeName env n v;pure (.yield ⟨⟩))) {args:List HV}:
  ∀(vals:List Value) (names:List Str) (j:Nat) (Y:bc) (T:PH) (s:Shared) (Q:PUnit->Shared->Prop),names.length=args.length->(∀i x,names[i]? =some x->lay[j+i]? =some x)->
   (∀i,i<args.length->Y[j+i]? =some .empty)->bW W S H args vals->FrameT W T S H lay env Y->St W T S H V s->
   (∀T' s',(∀b,¬mR lay env b->T' b=T b)->FrameT W T' S H lay env (mP Y j args)->St W T' S H V s'->Q ⟨⟩ s')->wpAny (model W.prog W.w) A (forIn (names.zip vals) ⟨⟩ f) Q E s:=by
 induction args with
 |nil=>
  intro vals names j Y T s Q hn _ _ hv fr st q
  induction vals using Jo with
  |cons _ _=>exact hv.elim
  |nil=>
   rw[List.zip_nil_right,List.forIn_nil];exact ag (q T s (λ U U=>rfl) fr st)
 |cons a as ih=>
  intro vals names j Y T s Q hn hl he hv fr st q
  induction vals using Jo with
  |nil=>exact hv.elim
  |cons v vs=>
   induction names using Jo with
   |nil=>exact nomatch hn
   |cons x xs=>
    rw[List.zip_cons_cons,List.forIn_cons,hf];have hx:lay[j]? =some x:=hl 0 x rfl;have h0:Y[j]? =some .empty:=he 0 (cD _);have hp:dS Y j a=some (Y.set j (.val a)):=by unfold dS;rw[h0]
    refine wb (wb (gI fr st hp hx nd hv.1 λ T' s' h1 fr' st'=>ag ?_));refine ih vs xs (j+1) _ T' s' Q (Nat.succ.inj hn) (λ i y hy=>?_) (λ i hi=>?_) hv.2 fr' st' λ T'' s'' h2 fr'' st''=>q T'' s'' (λ b hb=>(h2 b hb).trans (h1 b hb)) fr'' st''
    ·rw[Nat.add_assoc,Nat.add_comm 1];exact hl (i+1) y hy
    ·rw[List.getElem?_set_ne (by lia)]
     rw[Nat.add_assoc,Nat.add_comm 1];exact he (i+1) (Nat.succ_lt_succ hi)
theorem n0 {n:Nat} {args cs:List HV} {vals:List Value} {scope:Scope} {closure:List (Str×Addr)} {qual:Str} {func:Option Addr} {code:Value} {around:Option Env} {Q:Env->Shared->Prop} (hb:∀o,around=some o->o.builtins=builtinsNs)
  (ok:lX lay scope n cs.length) (st:St W T S H V s) (hc:CT W T S H cs ((lay.drop n).map λ x=>closure.lookup x)) (hap:∀x∈lay.drop n,∀y∈lay.drop n,∀c,closure.lookup x=some c->closure.lookup y=some c->x=y)
  (hn:args.length<=n) (hv:bW W S H args vals)
  (q:∀env T' s',(∀b o,T b=some o->T' b=some o)->(∀b,mR lay env b->s.heap.objs.size<=b)->FrameT W T' S H lay env (args.map SV.val++fh (n - args.length) cs)->St W T' S H V s'->
   env=newEnv scope s.heap.objs.size mainGlobals (cellsFrom (s.heap.objs.size+1) scope.names closure) qual func code around builtinsNs->Q env s'):
  wpAny (model W.prog W.w) A (newFunctionEnv scope mainGlobals closure ((lay.take args.length).zip vals) qual func code around builtinsNs) Q E s:=by
 refine Bx (Di (qual:=qual) (func:=func) (code:=code) hb ok st hc hap) λ T1 h1 st1 fr hown=>?_;refine wb (wpAny_alloc ?_);refine wb (wpAny_layCells _ (λ name kind cells=>by cases hkc:kind==NameKind.cell<;>simp[hkc]) _ _ _ _ ?_)
 rw[Heap.size_push];have fin:=w9 (args:=args) (A:=A) (E:=E) (V:=V) ok.nd (env:=newEnv scope s.heap.objs.size mainGlobals (cellsFrom (s.heap.objs.size+1) scope.names closure) qual func code around builtinsNs)
  (λ x r=>match x with|(name,v)=>do
   storeName (newEnv scope s.heap.objs.size mainGlobals (cellsFrom (s.heap.objs.size+1) scope.names closure) qual func code around builtinsNs) name v
   pure (ForInStep.yield PUnit.unit)) (λ U U U=>rfl) vals (lay.take args.length) 0 (fh n cs) T1 {s with heap:=pushCells (s.heap.push (jZ around)) scope.names}
  (λ U s'=>Q (newEnv scope s.heap.objs.size mainGlobals (cellsFrom (s.heap.objs.size+1) scope.names closure) qual func code around builtinsNs) s') (by rw[List.length_take,ok.len];lia) (λ i x hx=>by
   rw[List.getElem?_take] at hx;split at hx
   ·rw[Nat.zero_add];exact hx
   ·exact dX hx) (λ i hi=>by
    rw[Nat.zero_add,fh,List.getElem?_append_left (by simp;lia),List.getElem?_replicate,if_pos (by lia)]) hv fr st1 λ T' s' g1 fr' st'=>?_
 ·rcases around with _|_<;>exact wb (dg fin (λ U U h=>ag h) λ U U h=>h)
 ·have e:=q6 (args:=args) [] n cs hn;simp only[List.map_nil,List.nil_append,List.length_nil] at e;rw[e] at fr';refine q _ T' s' (λ b o eb=>?_) hown fr' st' rfl;have hb:¬mR lay (newEnv scope s.heap.objs.size mainGlobals (cellsFrom (s.heap.objs.size+1) scope.names closure) qual func code around builtinsNs) b:=λ h=>bS _ (aw (st.T_lt eb) (hown b h));rw[g1 b hb];exact h1 b o eb
end
theorem iK {names:List Str}:∀{vs:List Value} {i:Nat} {x:Str} {v:Value},names.Nodup->names[i]? =some x->vs[i]? =some v->(names.zip vs).lookup x=some v:=by
 induction names with
 |nil=>exact λ U h=>dX (List.getElem?_nil.symm.trans h)
 |cons n ns ih=>
  intro vs i x v nd h1 h2;rcases vs with _|⟨u,us⟩
  ·exact dX (List.getElem?_nil.symm.trans h2)
  ·refine cO (List.nodup_cons.mp nd) λ hn nd=>?_;rw[List.zip_cons_cons,List.lookup_cons];rcases i with _|i
   ·rw[Option.some.inj h1,beq_self_eq_true];exact h2
   ·rw[beq_eq_false_iff_ne.mpr λ e:x=n=>hn (e▸List.mem_of_getElem? h1)];exact ih nd h1 h2
theorem kU {names:List Str}:∀{vs:List Value} {i:Nat} {x:Str},names.Nodup->names[i]? =some x->vs.length<=i->(names.zip vs).lookup x=none:=by
 induction names with
 |nil=>exact λ U h=>dX (List.getElem?_nil.symm.trans h)
 |cons n ns ih=>
  intro vs i x nd h1 h2;rcases vs with _|⟨u,us⟩
  ·rw[List.zip_nil_right];rfl
  ·refine cO (List.nodup_cons.mp nd) λ hn nd=>?_;rw[List.zip_cons_cons,List.lookup_cons];rcases i with _|i
   ·exact aN h2 (hZ _)
   ·rw[beq_eq_false_iff_ne.mpr λ e:x=n=>hn (e▸List.mem_of_getElem? h1)];exact ih nd h1 (cu h2)
theorem m8 (slots:List (Str×Value)) {names:List Str}:∀{vs:List Value},names.length=vs.length->(∀(i:Nat) (x:Str) (v:Value),names[i]? =some x->vs[i]? =some v->slots.lookup x=some v)->
  names.filterMap (λ n=>(slots.lookup n).map (n,·))=names.zip vs:=by
 induction names with
 |nil=>exact λ U U=>rfl
 |cons n ns ih=>
  intro vs hl h;rcases vs with _|⟨u,us⟩
  ·exact nomatch hl
  ·rw[List.filterMap_cons,h 0 n u rfl rfl,List.zip_cons_cons];exact am (List.cons _) (ih (Nat.succ.inj hl) λ i x v h1 h2=>h (i+1) x v h1 h2)
noncomputable def xl (sl:List (Str×Value)):List (Str×Value)->List (Str×Value)
 |[]=>sl
 |p::l=>xl (if(sl.lookup p.1).isNone=true then sl++[p] else sl) l
theorem yn (x:Str):∀(l sl:List (Str×Value)),(xl sl l).lookup x=(sl.lookup x).or (l.lookup x):=λ l=>by
 induction l with
 |nil=>exact λ sl=>(Option.or_none ..).symm
 |cons p l ih=>
  refine λ sl=>(ih _).trans ?_;rw[List.lookup_cons];have h1:(if(none:Option Value).isNone=true then sl++[p] else sl)=sl++[p]:=rfl
  induction h:sl.lookup p.1 using Jn with
  |none=>rw[h1,d8,List.lookup_cons,Option.or_assoc];cases x==p.1<;>rfl
  |some v=>
   induction e:x==p.1 using Jp with
   |false=>rfl
   |true=>rw[eq_of_beq e,h];exact am (Option.or · _) h
section
variable{M:Model} {A:Around} {E:Value->Shared->Prop} {s:Shared}
theorem Ac {Q:List (Str×Value)->Shared->Prop} {f:Str×Value->List (Str×Value)->Sem (ForInStep (List (Str×Value)))} (hf:∀x d sl,f (x,d) sl=if(sl.lookup x).isNone=true then pure (.yield (sl++[(x,d)])) else pure (.yield sl)):
  ∀(l sl:List (Str×Value)),Q (xl sl l) s->wpAny M A (forIn l sl f) Q E s:=λ l=>by
 induction l with
 |nil=>exact λ sl q=>ag q
 |cons p l ih=>
  intro sl q;rw[List.forIn_cons,hf];have q:Q (xl (if(sl.lookup p.1).isNone=true then sl++[p] else sl) l) s:=q
  by_cases h:(sl.lookup p.1).isNone=true
  ·rw[if_pos h] at q ⊢;exact af (ag (ih _ q))
  ·rw[if_neg h] at q ⊢;exact af (ag (ih _ q))
theorem FY {N σ D i:Nat} (h1:N - σ<=D) (h2:D<=N) (h3:σ<=N) (h4:σ<=i):D - (N - σ)+(i - σ)=i - (N - D):=by
 refine ce (Nat.le.dest h3) λ a rq1=>?_;subst rq1;refine ce (Nat.le.dest h4) λ j rq1=>?_;subst rq1;rw[Nat.add_sub_cancel_left] at h1 ⊢;refine ce (Nat.le.dest h1) λ k rq1=>?_;subst rq1;refine ce (Nat.le.dest (Nat.le_of_add_le_add_right (Nat.add_comm a k▸h2:k+a<=σ+a))) λ m rq1=>?_;subst rq1;rw[Nat.add_sub_cancel_left,Nat.add_sub_cancel_left,Nat.add_right_comm k m a,Nat.add_comm k a,Nat.add_sub_cancel_left,Nat.add_right_comm,Nat.add_sub_cancel]
theorem Cq {names:List Str} {vals D:List Value} (nd:names.Nodup) (hD:D.length<=names.length) (hk:vals.length<=names.length) (hm:names.length - vals.length<=D.length):
  (names.filterMap λ n=>((xl (names.zip vals) ((names.drop (names.length - D.length)).zip D)).lookup n).map (n,·))=names.zip (vals++D.drop (D.length - (names.length - vals.length))):=by
 refine m8 _ (by rw[List.length_append,List.length_drop,Nat.sub_sub_self hm,Nat.add_sub_cancel' hk]) λ i x v hx hv=>?_
 have hi:=(ao.mp hx).1;rw[yn];rcases Nat.lt_or_ge i vals.length with h|h
 ·rw[List.getElem?_append_left h] at hv;rw[iK nd hx hv];rfl
 ·rw[List.getElem?_append_right h,List.getElem?_drop] at hv;rw[kU nd hx h];refine iK (i:=i - (names.length - D.length)) (nd.sublist (List.drop_sublist ..)) ?_ (hv▸am (D[·]?) ?_)
  ·rw[List.getElem?_drop,Nat.add_sub_cancel' (Nat.le_trans (Nat.sub_le_of_le_add (Nat.add_comm .. ▸Nat.le_add_of_sub_le hm)) h)];exact hx
  ·exact(FY hm hD hk h).symm
theorem CZ {fd:FuncData} {names:List Str} {vals D:List Value} {Q:List (Str×Value)->Shared->Prop} (hp:fd.params.args.map (·.arg)=names) (h1:fd.params.posonlyargs=[]) (h2:fd.params.vararg=none) (h3:fd.params.kwonlyargs=[]) (h4:fd.params.kwarg=none)
  (nd:names.Nodup) (hd:∀(Q:Option (Array Value)->Shared->Prop),(∀r,r.getD #[]=D.toArray->Q r s)->wpAny M A (seqItems? fd.defaults) Q E s) (hD:D.length<=names.length) (hk:vals.length<=names.length) (hm:names.length - vals.length<=D.length)
  (q:Q (names.zip (vals++D.drop (D.length - (names.length - vals.length)))) s):wpAny M A (bindArgs fd ⟨vals,[]⟩) Q E s:=by
 rw[<- Cq nd hD hk hm] at q;have hmiss:((names.take (names.length - D.length)).filter λ n=>((names.zip vals).lookup n).isNone)=[]:=by
  rw[List.filter_eq_nil_iff];intro x hx;refine ce (ba.mp hx) λ i hi=>?_;rw[List.getElem?_take] at hi;have h:=(Option.ite_none_right_eq_some.mp hi).1;have hi:=(Option.ite_none_right_eq_some.mp hi).2;rw[iK nd hi (List.getElem?_eq_getElem (Nat.lt_of_lt_of_le h (Nat.sub_le_of_le_add (Nat.add_comm .. ▸Nat.le_add_of_sub_le hm))))];exact aQ
 have e:D.drop (D.length - names.length)=D:=by rw[Nat.sub_eq_zero_of_le hD];rfl
 rw[<- e] at q hmiss;clear nd hm e;obtain⟨_,_,⟨_,_,_,_,_,_,_⟩,_,_,_,_,df,_,_,_,_,_,_,_⟩:=fd;dsimp only at hp h1 h2 h3 h4 hd;subst h1 h2 h3 h4 hp;refine fm (wb (hd _ λ r hr=>?_));obtain rfl:D=(r.getD #[]).toList:=am Array.toList hr.symm;clear hd hr;refine wn (λ h=>bF.mpr hk (bq (aD.mp h).1)) (wn (λ h=>aQ ((am (λ l=>!List.isEmpty l) hmiss).symm.trans h)) ?_);refine wb (Ac (λ U U U=>rfl) _ _ (fm (wn (λ h=>qU h) (ag ?_))));exact(am (λ l=>Q (List.filterMap _ l) s) (List.append_nil _)).mpr q
end
structure Rm (d:Nat) (A:Around):Prop where
 handled:A.handled=none
 depth:A.depth+2*d<=990
 units:A.units+100*(d+1)<cLine
theorem Rm.in1 {d:Nat} {A:Around} (h:Rm (d+1) A):Rm d A.in1:=⟨by simp[h.handled],by have:=h.depth;show A.depth+2*d<=990;lia,by have:=h.units;show A.units+1+100*(d+1)<cLine;lia⟩
theorem Rm.deeper {d:Nat} {A:Around} (h:Rm (d+1) A) (env:Env):Rm d (A.deeper env):=⟨h.handled,by have:=h.depth;show A.depth+1+2*d<=990;lia,by have:=h.units;show A.units+3+100*(d+1)<cLine;lia⟩
structure cM where
 names:List Str
 scope:Scope
 code:Option (Addr×Str)
noncomputable def lQ.layS (st:lQ):cM:=⟨st.lay,st.scope,st.code⟩
structure bb (W:Wd) (T S:PH) (H:Io) (lay:cM) (env:Env) (Y:bc):Prop extends FrameT W T S H lay.names env Y where
 scope:env.scope=lay.scope
 code:∀c q,lay.code=some (c,q)->env.code= .ref c/\env.qual=q
theorem bb.mono {W:Wd} {T S S':PH} {H H':Io} {lay:cM} {env:Env} {Y:bc} (h:bb W T S H lay env Y) (hS:cY S S') (hι:H<+:H'):bb W T S' H' lay env Y:=
 ⟨FrameT.mono hS hι h.toFrameT,h.scope,h.code⟩
structure ka (α:Addr->Prop) (T S:PH) (H:Io) (T' S':PH) (H':Io):Prop where
 S:cY S S'
 io:H<+:H'
 T:∀b,¬α b->T' b=T b
theorem ka.refl (α:Addr->Prop) (T S:PH) (H:Io):ka α T S H T S H:=⟨cY.refl S,ax _,λ U U=>rfl⟩
theorem ka.of {α:Addr->Prop} {T S S':PH} {H H':Io} (h:cY S S') (k:H<+:H'):ka α T S H T S' H':=⟨h,k,λ U U=>rfl⟩
theorem ka.trans {α:Addr->Prop} {T S T' S' T'' S'':PH} {H H' H'':Io} (h:ka α T S H T' S' H') (k:ka α T' S' H' T'' S'' H''):ka α T S H T'' S'' H'':=⟨h.S.trans k.S,h.io.trans k.io,λ b hb=>(k.T b hb).trans (h.T b hb)⟩
noncomputable def tf (W:Wd) (T S:PH) (H:Io) (Q:Value->Shared->Prop) (K:KV):Prop:=∀r V',K r V'->Ok W T S H Q r V'
theorem tf.step {W:Wd} {T S S':PH} {H H':Io} {Q:Value->Shared->Prop} {K:KV} (q:tf W T S H Q K) (hS:cY S S') (hι:H<+:H'):tf W T S' H' Q K:=
 λ r V' k S'' H'' v s' p1 p2 p3 p4=>q r V' k S'' H'' v s' (hS.trans p1) (hι.trans p2) p3 p4
noncomputable def tm (W:Wd) (lay:cM) (env:Env) (T S:PH) (H:Io) (N:bc->aF->Prop) (q:Shared->Prop):Prop:=
 ∀Y' V' T' S' H' s',N Y' V'->ka (mR lay.names env) T S H T' S' H'->bb W T' S' H' lay env Y'->St W T' S' H' V' s'->q s'
noncomputable def xY (W:Wd) (lay:cM) (env:Env) (T S:PH) (H:Io) (R:KV) (q:Value->Shared->Prop):Prop:=
 ∀v V' T' S' H' s' val,R v V'->ka (mR lay.names env) T S H T' S' H'->St W T' S' H' V' s'->VR W S' H' v val->q val s'
theorem tm.step {W:Wd} {lay:cM} {env:Env} {T S T' S':PH} {H H':Io} {N:bc->aF->Prop} {q:Shared->Prop} (h:tm W lay env T S H N q) (e:ka (mR lay.names env) T S H T' S' H'):tm W lay env T' S' H' N q:=
 λ Y' V' T'' S'' H'' s' k e'=>h Y' V' T'' S'' H'' s' k (e.trans e')
theorem xY.step {W:Wd} {lay:cM} {env:Env} {T S T' S':PH} {H H':Io} {R:KV} {q:Value->Shared->Prop} (h:xY W lay env T S H R q) (e:ka (mR lay.names env) T S H T' S' H'):xY W lay env T' S' H' R q:=
 λ v V' T'' S'' H'' s' val k e'=>h v V' T'' S'' H'' s' val k (e.trans e')
noncomputable def rQ (W:Wd) (P:bQ) (ck:bn) (d:Nat) (lay:cM) (b:List HS) (ss:List Stmt):Prop:=
 ∀(A:Around) (T S:PH) (H:Io) (V:aF) (s:Shared) (env:Env) (Y:bc) (N:bc->aF->Prop) (R:KV) (Q:Flow->Shared->Prop) (E:Value->Shared->Prop),Rm d A->bb W T S H lay env Y->St W T S H V s->
  kL P ck b Y V N R->tm W lay env T S H N (Q .next)->xY W lay env T S H R (λ v=>Q (.ret v))->wpAny (model W.prog W.w) A (execs ss env) Q E s
noncomputable def sj (W:Wd) (S:PH) (v:Value) (ds:List HV):Prop:=(v= .none/\ds=[])\/∃a vs n,v= .ref a/\S a=some (dU vs n)/\bW W S [] ds vs
structure Dl (W:Wd) (P:bQ) (k:Nat) (f:be):Prop where
 lay:(W.stat k).lay.take f.nargs=(W.stat k).params
 nargs:f.nargs<=f.nslots
 layok:lX (W.stat k).lay (W.stat k).scope f.nslots f.ncaps
 co:(W.stat k).scope.isCoroutine=false
 gen:(W.stat k).scope.isGenerator=false
 dflts:f.dflts.length<=f.nargs
section
variable{W:Wd} {P:bQ} {ck:bn} {d:Nat} {T S:PH} {H:Io} {V:aF} {s:Shared} {A:Around} {E:Value->Shared->Prop}
theorem Gr {v:Value} {ds:List HV} {M:Model} (hS:zm S s) (h:sj W S v ds):∃D:List Value,bW W S [] ds D/\∀(Q:Option (Array Value)->Shared->Prop),(∀r,r.getD #[]=D.toArray->Q r s)->wpAny M A (seqItems? v) Q E s:=by
 rcases h with⟨rfl,rfl⟩|⟨a,vs,n,rfl,ho,hv⟩
 ·exact⟨[],trivial,λ Q q=>af (ag (ag (q none rfl)))⟩
 ·exact⟨vs,hv,λ Q q=>cN (hS _ _ ho) rfl (q _ rfl)⟩
theorem Cz {k:Nat} {f:be} {a:Addr} {o:Obj} {fd:FuncData} {args cs:List HV} {vals:List Value} {K:KV} {R:Result->Shared->Prop} (fo:Dl W P k f) (hf:P.funs[k]? =some f) (hlim:W.hb.NoLimit)
  (hbody:rQ W P ck d (W.stat k).layS f.body (W.stat k).body) (rm:Rm (d+1) A) (st:St W T S H V s) (ho:s.heap.get? a=some o) (hd:o.data= .func fd) (fk:AA (W.stat k) fd) (hcr:s.heap.CodeRec fd.code fd.qualname) (hdf:sj W S fd.defaults f.dflts)
  (hc:CT W T S H cs (((W.stat k).lay.drop f.nslots).map λ x=>fd.closure.lookup x)) (hap:∀x∈(W.stat k).lay.drop f.nslots,∀y∈(W.stat k).lay.drop f.nslots,∀c,fd.closure.lookup x=some c->fd.closure.lookup y=some c->x=y)
  (h:nV P ck k args cs V K) (hv:bW W S H args vals) (q:tf W T S H (λ v s'=>R (.ok (.ret v)) s') K):codeAny (model W.prog W.w) A (.call (.ref a) ⟨vals,[]⟩) R s:=by
 unfold nV at h;rw[hf] at h;refine cO h λ hn h=>?_;rw[Bool.and_eq_true,Bool.and_eq_true,decide_eq_true_eq,decide_eq_true_eq,decide_eq_true_eq] at hn;obtain⟨hn,hcs⟩:=hn;have lo:=fo.layok;rw[<- hcs] at lo;clear hcs;refine aU (Gr (E:=λ e s'=>R (.error e) s') (A:=A.in1) (M:=model W.prog W.w) st.S_ok hdf) λ D hD hDs=>?_;have hargs:=hv.length;have hDl:=hD.length;have hfd:=fo.dflts;have hlayl:=lo.len;have hpl:(W.stat k).params.length=f.nargs:=by rw[<- fo.lay,List.length_take,hlayl];exact Eb (ah fo.nargs (ay _ _))
 have hnd:(W.stat k).params.Nodup:=by rw[<- fo.lay];exact lo.nd.sublist (List.take_sublist _ _)
 refine codeAny_call_function (aj (ah (ay _ _) rm.depth) (by decide)) ho hd (by rw[fk.scope];exact fo.co) (by rw[fk.scope];exact fo.gen) fk.body hcr ?_
 refine CZ (names:=(W.stat k).params) (D:=D) fk.params fk.plain.1 fk.plain.2.1 fk.plain.2.2.1 fk.plain.2.2.2 hnd hDs (by rw[<- hDl,hpl];exact hfd) (by rw[<- hargs,hpl];exact hn.1) (by rw[<- hargs,hpl,<- hDl];exact hn.2) ?_
 have hall:bW W S H (args++f.dflts.drop (f.dflts.length - (f.nargs - args.length))) (vals++D.drop (D.length - ((W.stat k).params.length - vals.length))):=by
  refine hv.append ?_;rw[hpl,<- hargs,<- hDl];exact(hD.mono (cY.refl S) (List.nil_prefix)).drop _
 have hal:(args++f.dflts.drop (f.dflts.length - (f.nargs - args.length))).length=f.nargs:=by
  rw[List.length_append,List.length_drop,Nat.sub_sub_self hn.2,Nat.add_sub_cancel' hn.1]
 have hpar:(W.stat k).params=(W.stat k).lay.take (args++f.dflts.drop (f.dflts.length - (f.nargs - args.length))).length:=by rw[hal];exact fo.lay.symm
 generalize vals++D.drop (D.length - ((W.stat k).params.length - vals.length))=VS at hall ⊢;rw[fk.scope,fk.globals,fk.builtins,hpar];refine n0 (λ o e=>by cases e) lo st hc hap (by rw[hal];exact fo.nargs) hall λ env T' s' h1 hown fr st' henv=>?_
 refine⟨hlim.keeps λ b o e=>st'.keep_base e,codeAny_func ?_⟩;have hρ:(args++f.dflts.drop (f.dflts.length - (f.nargs - args.length))).map SV.val++fh (f.nslots - (args++f.dflts.drop (f.dflts.length - (f.nargs - args.length))).length) cs=
   (args++f.dflts.drop (f.dflts.length - (f.nargs - args.length))).map SV.val++List.replicate (f.nslots - f.nargs) SV.empty++cs.map SV.ro:=by
  rw[hal];simp[fh]
 rw[hρ] at fr;have back:∀{V' T'' S' H' s''},ka (mR (W.stat k).lay env) T' S H T'' S' H'->St W T'' S' H' V' s''->St W T S' H' V' s'':=λ e st''=>st''.weakT λ b o eb=>by
  have hb:¬mR (W.stat k).lay env b:=λ hb=>bS _ (aw (st.T_lt eb) (hown b hb));rw[e.T b hb];exact h1 b o eb
 exact hbody (A.deeper env) T' S H V s' env _ _ _ _ _ (rm.deeper env) ⟨fr,by rw[henv];rfl,λ c q e=>by rw[henv];exact fk.code c q e⟩ st' h
  (λ Y' V' T'' S' H' s'' kk e U st2=>q _ _ kk S' H' _ s'' e.S e.io (back e st2) rfl) λ v V' T'' S' H' s'' val kk e st2 hv2=>q _ _ kk S' H' _ s'' e.S e.io (back e st2) hv2
end
structure FJ (W:Wd) (S T:PH) (H:Io) (f:be) (k:Nat) (cs:List HV) (h:Heap) (a:Addr):Prop where
 obj:∃o fd,h.get? a=some o/\o.data= .func fd/\AA (W.stat k) fd/\h.CodeRec fd.code fd.qualname/\sj W S fd.defaults f.dflts/\CT W T S H cs (((W.stat k).lay.drop f.nslots).map λ x=>fd.closure.lookup x)
structure ia (W:Wd) (P:bQ):Prop where
 fns:∀(k:Nat) (f:be),P.funs[k]? =some f->Dl W P k f
 one:∀(k:Nat) (f:be),P.funs[k]? =some f->f.ncaps<=1
 lim:W.hb.NoLimit
 base:∀(k:Nat) (f:be),P.funs[k]? =some f->f.ncaps=0->∃o fd,W.hb.get? (W.fnA k)=some o/\o.data= .func fd/\AA (W.stat k) fd/\W.hb.CodeRec fd.code fd.qualname/\sj W (λ a=>W.hb.get? a) fd.defaults f.dflts
 noDf:∀(k:Nat) (f:be),P.funs[k]? =some f->f.ncaps≠0->f.dflts=[]
noncomputable def iu (W:Wd) (P:bQ) (ck:bn) (d:Nat):Prop:=
 ∀(k:Nat) (f:be) (a:Addr) (args cs:List HV) (vals:List Value) (A:Around) (T S:PH) (H:Io) (V:aF) (s:Shared) (N:KV) (R:Result->Shared->Prop),P.funs[k]? =some f->Rm (d+1) A->St W T S H V s->
  FJ W S T H f k cs s.heap a->ck k args cs V N->bW W S H args vals->tf W T S H (λ v s'=>R (.ok (.ret v)) s') N->codeAny (model W.prog W.w) A (.call (.ref a) ⟨vals,[]⟩) R s
section
variable{W:Wd} {P:bQ} {K:Frag} {ck:bn} {d:Nat} {T S:PH} {H:Io} {V:aF} {s:Shared} {A:Around} {E:Value->Shared->Prop}
theorem BW.ct {S:PH} {H:Io} {xs:List HV}:∀{cs:List (Option Addr)},BW W S H xs cs->CT W T S H xs cs:=by
 induction xs with
 |nil=>intro cs h;induction cs using Jo with|nil=>trivial|cons _ _=>exact h.elim
 |cons x xs ih=>
  intro cs h
  induction cs using Jo with
  |nil=>exact h.elim
  |cons c cs=>induction c using Jn with|none=>exact h.elim|some c=>exact⟨h.1.imp λ v h=>⟨.inl h.1,h.2⟩,ih h.2⟩
theorem AJ {X:Type} {l:List X} {x y:X} (h:l.length<=1) (hx:x∈l) (hy:y∈l):x=y:=by
 induction l using Jo with
 |nil=>exact ii hx
 |cons a l=>
  have e:l=[]:=cj.mp (Nat.le_zero.mp (cu h));rw[e] at hx hy;rw[List.mem_singleton.mp hx,List.mem_singleton.mp hy]
theorem BY (po:ia W P) (hb:∀k f,P.funs[k]? =some f->rQ W P ck d (W.stat k).layS f.body (W.stat k).body):iu W P (nV P ck) d:=by
 intro k f a args cs vals A T S H V s N R hf rm st fa h hv q;refine GE fa.obj λ o fd ho hd fk hcr hdf hc=>?_;have fo:=po.fns k f hf;refine Cz fo hf po.lim (hb k f hf) rm st ho hd fk hcr hdf hc ?_ h hv q;intro x hx y hy c _ _;have hl:((W.stat k).lay.drop f.nslots).length<=1:=by
  have:=fo.layok.len;rw[List.length_drop,this,Nat.add_sub_cancel_left];exact po.one k f hf
 exact AJ hl hx hy
noncomputable def d6 (P:bQ) (ck:bn):Prop:=∀k args cs V N,ck k args cs V N->∃f,P.funs[k]? =some f/\cs.length=f.ncaps
theorem su:d6 P (nV P ck):=λ k args cs V N h=>by
 unfold nV at h
 induction hf:P.funs[k]? using Jn with
 |none=>rw[hf] at h;exact h.elim
 |some f=>
  rw[hf] at h;exact⟨f,rfl,bq ((eN _ _).mp h.1).2⟩
theorem gZ (po:ia W P) (st:St W T S H V s) {k:Nat} {f:be} (hf:P.funs[k]? =some f) (h0:f.ncaps=0):FJ W S T H f k [] s.heap (W.fnA k):=by
 refine Eg (po.base k f hf h0) λ o fd ho hd fk hcr hdf=>?_;refine⟨o,fd,st.keep_base ho,hd,fk,hcr.keeps λ b o e=>st.keep_base e,?_,?_⟩
 ·rcases hdf with h|⟨a,vs,n,e,h1,h2⟩
  ·exact .inl h
  ·exact .inr ⟨a,vs,n,e,st.base _ _ h1,h2.mono (λ b o e=>st.base b o e) (ax _)⟩
 ·have:=(po.fns k f hf).layok.len;have hl:(W.stat k).lay.drop f.nslots=[]:=by
   rw[List.drop_eq_nil_iff];lia
  rw[hl];trivial
theorem ut (ok:iu W P ck d) (dom:d6 P ck) (po:ia W P) {k:Nat} {args:List HV} {vals:List Value} {N:KV} {Q:Value->Shared->Prop} (rm:Rm (d+1) A) (st:St W T S H V s) (h:ck k args [] V N) (hv:bW W S H args vals) (q:tf W T S H Q N):
  wpAny (model W.prog W.w) A (call (.ref (W.fnA k)) vals) Q E s:=by
 refine aU (dom _ _ _ _ _ h) λ f hf hc=>?_;exact kY<|ok k f _ args [] vals A T S H V s N _ hf rm st (gZ po st hf hc.symm) h hv q
theorem AC (ok:iu W P ck d) (dom:d6 P ck) (po:ia W P) {k:Nat} {args cs:List HV} {fv:Value} {vals:List Value} {N:KV} {Q:Value->Shared->Prop} (rm:Rm (d+1) A) (st:St W T S H V s) (hcs:cs.isEmpty=false) (h:ck k args cs V N)
  (hf:VR W S H (.clo k cs) fv) (hv:bW W S H args vals) (q:tf W T S H Q N):wpAny (model W.prog W.w) A (call fv vals) Q E s:=by
 refine aU (dom _ _ _ _ _ h) λ f hf' hc=>?_;have hne:f.ncaps≠0:=by
  rw[<- hc];rcases cs with _|_<;>simp at hcs ⊢
 obtain⟨a,o,fd,cl,rfl,ho,hcl,hd,fk,hdn,⟨c,co,vs,t,e1,e2,e3,e4⟩,hcr⟩:=hf;have lo:=(po.fns k f hf').layok.len;refine kY<|ok k f a args cs vals A T S H V s N _ hf' rm st ⟨o,{fd with closure:=cl},st.S_ok _ _ ho,hd,⟨fk.params,fk.plain,fk.body,fk.scope,fk.globals,fk.builtins,fk.code⟩,⟨c,co,vs,t,e1,st.S_ok _ _ e2,e3,e4⟩, .inl ⟨hdn,po.noDf k f hf' hne⟩,?_⟩ h hv q;have:(W.stat k).lay.length - cs.length=f.nslots:=by rw[‹cs.length=f.ncaps›,‹(W.stat k).lay.length=f.nslots+f.ncaps›];exact Nat.add_sub_cancel _ _
 rw[this] at hcr;exact hcr.ct
theorem wX (ok:iu W P ck d) (dom:d6 P ck) (po:ia W P) {k c i:Nat} {args:List HV} {fv:Value} {vals:List Value} {N:KV} {Q:Value->Shared->Prop} (rm:Rm (d+2) A) (st:St W T S H V s) (h:ck k (.obj c i::args) [] V N)
  (hf:VR W S H (.meth k c i) fv) (hv:bW W S H args vals) (q:tf W T S H Q N):wpAny (model W.prog W.w) A (call fv vals) Q E s:=by
 refine aU (dom _ _ _ _ _ h) λ f hf' hc=>?_;refine nv hf λ a x p hp rq1 ha hx=>?_;subst rq1;have rm':Rm (d+1) A:=⟨rm.handled,by have:=rm.depth;lia,by have:=rm.units;lia⟩
 exact kY (method_call (st.S_ok _ _ ha) (ok k f _ (.obj c i::args) [] (.ref x::vals) A T S H V s N _ hf' rm' st (gZ po st hf' hc.symm) h ⟨⟨x,p,hp,rfl,hx⟩,hv⟩ q))
theorem z5 (ok:iu W P ck d) (dom:d6 P ck) (po:ia W P) (wo:rR W P K) {c:Nat} {hcl:xQ} {args:List HV} {vals:List Value} {N:KV} {Q:Value->Shared->Prop} (rm:Rm (d+2) A) (st:St W T S H V s) (hc:P.clss[c]? =some hcl) (hfn:hcl.init<P.funs.length)
  (h:ck hcl.init (.obj c V.length::args) [] (V++[.dict []]) λ v V'=>v= .none/\N (.obj c V.length) V') (hv:bW W S H args vals) (q:tf W T S H Q N):wpAny (model W.prog W.w) A (call (.ref (W.clsA c)) vals) Q E s:=by
 refine aU (dom _ _ _ _ _ h) λ f hf' hc0=>?_;have CF:=wo.cls c hcl hc;have α:=st.kin wo;have hL:=st.off_new (ai s.heap.objs.size);have e1:(s.heap.push emptyDict).get? s.heap.objs.size=some (dJ [] 0):=aC _ rfl;have st1:St W T S (H++[(s.heap.objs.size,0)]) (V++[.dict []]) {s with heap:=s.heap.push emptyDict}:=
  (st.same (Kp.push s emptyDict)).addI (p:=(s.heap.objs.size,0)) hL (by rw[e1];exact⟨[],0,rfl,trivial,rfl, .nil,rfl⟩)
 have hsz:(s.heap.push emptyDict).objs.size=s.heap.objs.size+1:=Heap.size_push ..;have e2:((s.heap.push emptyDict).push (instObj (W.clsA c) s.heap.objs.size)).get? (s.heap.objs.size+1)=some (instObj (W.clsA c) s.heap.objs.size):=by
  rw[<- hsz];exact aC _ rfl
 have st2:=st1.addS (a:=s.heap.objs.size+1) (o:=instObj (W.clsA c) s.heap.objs.size) (s':={s with heap:=(s.heap.push emptyDict).push (instObj (W.clsA c) s.heap.objs.size)}) (bX hsz) (Kp.push _ _) (λ U f=>f.elim) e2;have hS2:cY S (upd S (s.heap.objs.size+1) (instObj (W.clsA c) s.heap.objs.size)):=dN (st.S_new (bG _));have hobj:VR W (upd S (s.heap.objs.size+1) (instObj (W.clsA c) s.heap.objs.size)) (H++[(s.heap.objs.size,0)]) (.obj c V.length) (.ref (s.heap.objs.size+1)):=
  ⟨_,(s.heap.objs.size,0),by rw[<- st.len];simp,rfl,cH _ _ _⟩
 have go:∀(A':Around) (R:Result->Shared->Prop),Rm (d+1) A'->(∀s',Q (.ref (s.heap.objs.size+1)) s'->R (.ok (.ret .none)) s')->codeAny (model W.prog W.w) A' (.call (.ref (W.fnA hcl.init)) ⟨.ref (s.heap.objs.size+1)::vals,[]⟩) R {s with heap:=(s.heap.push emptyDict).push (instObj (W.clsA c) s.heap.objs.size)}:=
  λ A' R rm' hR=>ok hcl.init f _ (.obj c V.length::args) [] (.ref (s.heap.objs.size+1)::vals) A' T _ _ _ _ _ R hf' rm' st2 (gZ po st2 hf' hc0.symm) h ⟨hobj,hv.mono hS2 (List.prefix_append _ _)⟩
   λ r V' kk S' H' v s' p1 p2 p3 p4=>by rw[kk.1] at p4;subst p4;exact hR s' (q _ _ kk.2 S' H' _ s' (hS2.trans p1) ((List.prefix_append _ _).trans p2) p3 (hobj.mono p1 p2))
 have hfn':=(wo.fn hcl.init hfn ⟨_,ak hfn⟩).1;obtain⟨hh,g,dr,t,os⟩:=s;refine kY (make_core (makes_of α CF.makes) (looks_findIn α CF.init) (λ self=>bind_fn α self (beq_iff_eq.mp hfn')) (.inl rfl) (go _ _ ?_ λ s' hq=>?_))
 ·exact⟨rm.handled,by have:=rm.depth;show A.depth+1+2*(d+1)<=990;lia,by have:=rm.units;show A.units+1+100*(d+1+1)<cLine;lia⟩
 ·exact⟨rfl,hq⟩
end
section
variable{W:Wd} {P:bQ} {K:Frag} {ck:bn} {d:Nat} {T S:PH} {H:Io} {V:aF} {s:Shared} {A:Around} {E:Value->Shared->Prop}
theorem Rm.lt {d:Nat} {A:Around} (rm:Rm (d+2) A):Rm (d+1) A:=⟨rm.handled,by have:=rm.depth;lia,by have:=rm.units;lia⟩
theorem wz (ok:iu W P ck d) (dom:d6 P ck) (po:ia W P) (wo:rR W P K) {f:HV} {args:List HV} {N:KV} {fv:Value} {vals:List Value} {Q:Value->Shared->Prop} (rm:Rm (d+2) A) (st:St W T S H V s) (h:Ek P ck f args V N)
  (hf:VR W S H f fv) (hv:bW W S H args vals) (q:tf W T S H Q N):wpAny (model W.prog W.w) A (call fv vals) Q E s:=by
 cases f with
 |fn k=>subst hf;exact ut ok dom po rm.lt st h hv q
 |clo k cs=>exact AC ok dom po rm.lt st h.1 h.2 hf hv q
 |meth k c i=>exact wX ok dom po rm st h hf hv q
 |cls c=>
  have h:oF P.clss[c]? _:=h
  induction hc:P.clss[c]? using Jn with
  |none=>rw[hc] at h;exact h.elim
  |some hcl=>
   rw[hc] at h;subst hf;have h:=eJ.h (show eJ V _ (.dict []) from h);refine aU (dom _ _ _ _ _ h) λ f hf' U=>?_;exact z5 ok dom po wo rm st hc (ao.mp hf').1 h hv q
 |_=>exact h.elim
theorem xg (ok:iu W P ck d) (dom:d6 P ck) (po:ia W P) {m:iI} {args:List HV} {N:KV} {fr:Value×List Value} {vals:List Value} {Q:Value->Shared->Prop} (rm:Rm (d+2) A) (st:St W T S H V s) (h:By ck m args V N)
  (hf:fH W S H m fr) (hv:bW W S H args vals) (q:tf W T S H Q N):wpAny (model W.prog W.w) A (call fr.1 (fr.2++vals)) Q E s:=by
 cases m with
 |own k c i=>
  refine dL hf λ x p hp hS rq1=>?_;subst rq1;exact ut ok dom po rm.lt st h ⟨⟨x,p,hp,rfl,hS⟩,hv⟩ q
 |built m i=>
  refine aU hf λ p hp rq1=>?_;subst rq1;exact CE st (by have:=rm.units;lia) h ⟨p,hp,rfl⟩ hv q
noncomputable def ip (W:Wd) (f:Value) (s:Shared):Prop:=∀(A:Around) (E:Value->Shared->Prop) (Q:Keeper->Shared->Prop),(∀k,Q k s)->wpAny (model W.prog W.w) A (keeperOf f) Q E s
theorem d9 {pos:Pos} {f:Value} {first:List Value} {args:List (Bool×Sem Value)} {Q:Value->Shared->Prop} (hp:args.any (·.1)=false)
  (h:wpAny (model W.prog W.w) A (evalArgs f true args []) (λ a s₁=>a.kw=[]/\ip W f s₁/\wpAny (model W.prog W.w) A (call f (first++a.pos)) Q E s₁) E s):wpAny (model W.prog W.w) A (callWith pos f first args []) Q E s:=by
 unfold callWith;refine af (av (dg h (λ a s₁ h₁=>af (bf ?_)) λ U U x=>x));refine kB h₁ λ hk hkp hc=>?_;have tail:∀{t:Sem Value},wpAny (model W.prog W.w) A t Q E s₁->wpAny (model W.prog W.w) A (t>>=λ r=>holding [r] point>>=λ U=>pure r) Q E s₁:=
  λ ht=>af (dg ht (λ r s₂ hr=>af (av (wpAny_point (ag hr)))) λ U U x=>x)
 rw[hp,hk];refine af (hkp _ _ _ λ k=>?_)
 induction k using Keeper.casesOn with
 |frame=>exact wpAny_ite_split (λ U=>tail hc) λ U=>tail (by unfold callMarked;exact wpAny_keep hc)
 |boundFrame=>exact wpAny_ite_split (λ U=>tail hc) λ U=>tail (by unfold callMarked;exact wpAny_keep hc)
 |machine=>exact tail hc
 |caller=>exact tail (wpAny_operateT hc)
end
theorem zl {X:Type} {o:Option X} {F:X->Prop} (h:oF o F):∃v,o=some v/\F v:=by
 induction o using Jn with
 |none=>exact h.elim
 |some v=>exact⟨v,rfl,h⟩
section
variable{W:Wd} {P:bQ} {K:Frag} {ck:bn} {d:Nat} {T S:PH} {H:Io} {V:aF} {s:Shared} {A:Around} {E:Value->Shared->Prop}
theorem pX {a:Addr} {o:Obj} {fd:FuncData} (ho:s.heap.get? a=some o) (hd:o.data= .func fd):ip W (.ref a) s:=λ A E Q q=>by
 refine af (kZ ho ?_);rw[hd];exact ag (q _)
theorem vR {a g:Addr} {x:Value} {o:Obj} {fd:FuncData} (ha:s.heap.get? a=some (methodObj (.ref g) x)) (ho:s.heap.get? g=some o) (hd:o.data= .func fd):ip W (.ref a) s:=λ A E Q q=>by
 refine af (kZ ha ?_);dsimp only;rw[if_neg (by decide)]
 refine af (kZ ho ?_);rw[hd];exact ag (q _)
theorem y7 {C:Addr} (α:K.In s.heap) (hm:makesIn K C=true):ip W (.ref C) s:=λ A E Q q=>by
 obtain⟨⟨oc,od,cd,sl,hC,_⟩,_,_,_,_,call,_⟩:=makes_of (M:=model W.prog W.w) α hm;refine af (kZ hC ?_);refine af (call _ _ _ s (λ U U e=>e) ?_);exact ag (q _)
theorem jc {id:String}:ip W (.builtin id) s:=λ A E Q q=>ag (q _)
theorem dA {n:String}:ip W (.type n) s:=λ A E Q q=>ag (q _)
theorem Dx (dom:d6 P ck) (ok:rR W P K) (po:ia W P) (st:St W T S H V s) {f:HV} {fv:Value} {args:List HV} {O:aF} {N:KV} (hf:VR W S H f fv) (hk:Ek P ck f args O N):ip W fv s:=by
 cases f with
 |fn k=>
  refine aU (dom _ _ _ _ _ hk) λ g hg h0=>?_;subst hf;refine dL (po.base k g hg h0.symm) λ o fd ho hd U=>?_;exact pX (st.keep_base ho) hd
 |clo k cs=>
  refine ky hf λ a o fd hz3=>?_;refine GP hz3 λ cl rq1 ho _ hd _=>?_;subst rq1;exact pX (st.S_ok _ _ ho) hd
 |meth k c i=>
  refine aU (dom _ _ _ _ _ hk) λ g hg h0=>?_;refine nv hf λ a x p U rq1 ha U=>?_;subst rq1;refine dL (po.base k g hg h0.symm) λ o fd ho hd U=>?_;exact vR (st.S_ok _ _ ha) (st.keep_base ho) hd
 |cls c=>
  refine aU (zl hk) λ h hh U=>?_;subst hf;exact y7 (st.kin ok) (ok.cls c h hh).makes
 |_=>exact hk.elim
end
noncomputable def cL (W:Wd) (P:bQ) (ck:bn) (d:Nat) (lay:cM) (h:HE) (e:Expr):Prop:=
 ∀(A:Around) (T S:PH) (H:Io) (V:aF) (s:Shared) (env:Env) (Y:bc) (K:KV) (Q:Value->Shared->Prop) (E:Value->Shared->Prop),Rm d A->bb W T S H lay env Y->St W T S H V s->
  eW P ck h Y V K->tf W T S H Q K->wpAny (model W.prog W.w) A (eval e env) Q E s
noncomputable def EK (W:Wd) (T S:PH) (H:Io) (Q:List Value->Shared->Prop) (K:List HV->aF->Prop):Prop:=∀rs V',K rs V'->∀S' H' vs s',cY S S'->H<+:H'->St W T S' H' V' s'->bW W S' H' rs vs->Q vs s'
noncomputable def mA (W:Wd) (P:bQ) (ck:bn) (d:Nat) (lay:cM) (hs:List HE) (es:List Expr):Prop:=
 ∀(A:Around) (T S:PH) (H:Io) (V:aF) (s:Shared) (env:Env) (Y:bc) (K:List HV->aF->Prop) (Q:List Value->Shared->Prop) (E:Value->Shared->Prop),Rm d A->bb W T S H lay env Y->St W T S H V s->
  y6 P ck hs Y V K->EK W T S H Q K->wpAny (model W.prog W.w) A (spliced (es.map λ e=>(false,eval e env))) Q E s
noncomputable def bk (e:Expr):Bool:=!Nat.beq e.ctorIdx 22
theorem Bw {e:Expr} {es:List Expr} {env:Env} (h:bk e=true):starEach (e::es) env=(false,eval e env)::starEach es env:=by apply vF (λ n=>!Nat.beq n 22) h<;>(repeat intro U)<;>first|rfl|exact qU U
theorem zW {e:Expr} {es:List Expr} {env:Env} (h:bk e=true):assignEach (e::es) env=(false,assign e env)::assignEach es env:=by apply vF (λ n=>!Nat.beq n 22) h<;>(repeat intro U)<;>first|rfl|exact qU U
noncomputable def mE (e:Expr):Bool:=Nat.beq e.ctorIdx 26
theorem y5 {e:Expr} {va vb:Value} (h:mE e=false):subscripted e false va vb=operate [va,vb] (getItem va vb):=by apply vF (λ n=>Nat.beq n 26) h<;>(repeat intro U)<;>first|rfl|exact rO U
section
variable{W:Wd} {P:bQ} {ck:bn} {d:Nat} {lay:cM}
theorem Rm.units16 {A:Around} (h:Rm d A):A.units+16<cLine:=GW rfl h.units
theorem xk {v:HV} {α ρ:Prop} (h:yM v α ρ):∃b,v= .bool b/\(match b with|true=>α|false=>ρ):=by
 cases v with
 |bool b=>exact⟨b,rfl,h⟩
 |_=>exact h.elim
theorem Ok.step {T S S':PH} {H H':Io} {Q:Value->Shared->Prop} {r:HV} {V:aF} (hS:cY S S') (hι:H<+:H') (q:Ok W T S H Q r V):Ok W T S' H' Q r V:=
 λ S'' H'' v s' p1 p2 p3 p4=>q S'' H'' v s' (hS.trans p1) (hι.trans p2) p3 p4
theorem pY:mA W P ck d lay [] []:=λ A T S H V s env Y K Q E rm fr st h q=>ag (q _ _ h S H [] s (cY.refl S) (ax _) st trivial)
theorem gV {h:HE} {hs:List HE} {e:Expr} {es:List Expr} (he:cL W P ck d lay h e) (hes:mA W P ck d lay hs es):mA W P ck d lay (h::hs) (e::es):=λ A T S H V s env Y K Q E rm fr st hh q=>
 Calls.spliced_cons (he A T S H V s env Y _ _ E rm fr st hh λ v V1 k1 S1 H1 val s1 p1 p2 p3 p4=>
  hes A T S1 H1 V1 s1 env Y _ _ E rm (fr.mono p1 p2) p3 k1 λ vs V2 k2 S2 H2 vals s2 g1 g2 g3 g4=>q _ _ k2 S2 H2 (val::vals) s2 (p1.trans g1) (p2.trans g2) g3 ⟨p4.mono g1 g2,g4⟩)
theorem EJ {op:BO} {l r:HE} {el er:Expr} {pos:Pos} (hl:cL W P ck d lay l el) (hr:cL W P ck d lay r er):cL W P ck d lay (.bin op l r) (.BinOp el (Ck op) er pos):=λ A T S H V s env Y K Q E rm fr st h q=>by
 rw[arm_eval_BinOp];exact af (hl A T S H V s env Y _ _ E rm fr st h λ a V1 k1 S1 H1 va s1 p1 p2 p3 p4=>
  af (av (hr A T S1 H1 V1 s1 env Y _ _ E rm (fr.mono p1 p2) p3 k1 λ b V2 k2 S2 H2 vb s2 g1 g2 g3 g4=>
   af (bf (wpAny_operateT (zz g3 k2 (p4.mono g1 g2) g4 ((q.step p1 p2).step g1 g2)))))))
theorem Ep {x:HE} {e:Expr} {pos:Pos} (hx:cL W P ck d lay x e):cL W P ck d lay (.neg x) (.UnaryOp .USub e pos):=λ A T S H V s env Y K Q E rm fr st h q=>by
 rw[arm_eval_UnaryOp];refine af (hx A T S H V s env Y _ _ E rm fr st h λ a V1 k1 S1 H1 va s1 p1 p2 p3 p4=>?_);cases a with
 |int i=>
  obtain⟨t,rfl⟩:=p4;exact af (bf (av (PySem.P.neg_int ((q.step p1 p2 _ _ k1).int (p3.toks _)))))
 |_=>exact k1.elim
theorem C3 {i:Nat} {x:Str} {pos:Pos} (hx:lay.names[i]? =some x) (h1:(x==("__classdict__":Str))=false) (h2:(x==("__debug__":Str))=false):cL W P ck d lay (.x i) (.Name x pos):=λ A T S H V s env Y K Q E rm fr st h q=>by
 refine aU (zl h) λ w h3 k=>?_;exact wpAny_Name (y9 fr.toFrameT st h3 hx h1 λ val hv=>(q _ _ k).same st hv) h2
theorem Dn {K:Frag} (wo:rR W P K) (hfn:∀c a k,dM P c a=some k->k<P.funs.length) {o:HE} {e:Expr} {a:Nat} {pos:Pos} (ha:a<W.strL.length)
  (hb:∀env,attributeBase e (W.str a) env (eval e env)=eval e env) (ho:cL W P ck d lay o e):cL W P ck d lay (.a o a) (.Attribute e (W.str a) pos):=λ A T S H V s env Y K Q E rm fr st h q=>by
 rw[arm_eval_Attribute,hb];exact af (ho A T S H V s env Y _ _ E rm fr st h λ ov V1 k1 S1 H1 va s1 p1 p2 p3 p4=>
  af (bf (af (av (xO wo ha hfn p3 k1 p4 λ r k2 S2 H2 vb s2 g1 g2 g3 g4=>
   af (wpAny_letTemporaryGo (ag (q _ _ k2 S2 H2 vb s2 (p1.trans g1) (p2.trans g2) g3 g4))))))))
theorem FG {T S:PH} {H:Io} {V:aF} {s:Shared} {A:Around} {E:Value->Shared->Prop} {x y:HV} {N:HV->Prop} {u:Value} {Q:Bool->Shared->Prop} (st:St W T S H V s) (h:bj V N x y) (hx:VR W S H x u) (q:Q false s):wpAny (model W.prog W.w) A (getitemInPython u) Q E s:=by
 induction h with
 |t=>
  refine iR hx λ a vs n rq1 ho U=>?_;subst rq1;exact af (bL (dR (st.S_ok _ _ ho)) F.slot_tuple_getitem.lookup (ag q))
 |rl=>
  obtain⟨a,vs,o,n,rfl,ho,hc,_⟩:=hx;exact af (bL (T:="list") ⟨_,st.S_ok _ _ ho,hc⟩ F.slot_list_getitem.lookup (ag q))
 |l hσ=>
  refine aU hx λ p hp rq1=>?_;subst rq1;refine dP (st.obj _ _ p hσ hp) λ vs n ho U=>?_;exact af (bL (T:="list") ⟨_,ho,rfl⟩ F.slot_list_getitem.lookup (ag q))
 |dct hσ=>
  refine aU hx λ p hp rq1=>?_;subst rq1;refine dP (st.obj _ _ p hσ hp) λ es n ho U=>?_;exact af (bL (T:="dict") ⟨_,ho,rfl⟩ F.slot_dict_getitem.lookup (ag q))
theorem EZ {o i:HE} {eo ei:Expr} {pos:Pos} (hs:mE ei=false) (ho:cL W P ck d lay o eo) (hi:cL W P ck d lay i ei):cL W P ck d lay (.sub o i) (.Subscript eo ei pos):=λ A T S H V s env Y K Q E rm fr st h q=>by
 rw[arm_eval_Subscript];refine af (ho A T S H V s env Y _ _ E rm fr st h λ ov V1 k1 S1 H1 va s1 p1 p2 p3 p4=>?_);refine af (av (hi A T S1 H1 V1 s1 env Y _ _ E rm (fr.mono p1 p2) p3 k1 λ iv V2 k2 S2 H2 vb s2 g1 g2 g3 g4=>?_));refine af (bf (af (FG g3 k2 (p4.mono g1 g2) ?_)));rw[y5 hs];exact af (wpAny_operateT (Az g3 rm.units16 k2 (p4.mono g1 g2) g4 λ r k3 S3 H3 vc s3 j1 j2 j3 j4=>af (wpAny_letTemporaryGo (ag (q _ _ k3 S3 H3 vc s3 ((p1.trans g1).trans j1) ((p2.trans g2).trans j2) j3 j4)))))
end
noncomputable def HW (W:Wd) (T S:PH) (H:Io) (n:Nat) (Q:List Value->Shared->Prop) (K:List HV->aF->Prop):Prop:=∀rs V',K rs V'->rs.length=n->∀S' H' vs s',cY S S'->H<+:H'->St W T S' H' V' s'->bW W S' H' rs vs->Q vs s'
noncomputable def vM (W:Wd) (P:bQ) (ck:bn) (d:Nat) (lay:cM) (hs:List HE) (es:List Expr):Prop:=
 ∀(pos:Pos) (A:Around) (T S:PH) (H:Io) (V:aF) (s:Shared) (env:Env) (Y:bc) (K:List HV->aF->Prop) (Q:List Value->Shared->Prop) (E:Value->Shared->Prop),Rm d A->bb W T S H lay env Y->St W T S H V s->
  y6 P ck hs Y V K->HW W T S H hs.length Q K->wpAny (model W.prog W.w) A (spliced (backTo pos (starEach es env))) Q E s
section
variable{W:Wd} {P:bQ} {ck:bn} {d:Nat} {lay:cM}
theorem DK:vM W P ck d lay [] []:=λ pos A T S H V s env Y K Q E rm fr st h q=>ag (q _ _ h rfl S H [] s (cY.refl S) (ax _) st trivial)
theorem zZ {h:HE} {hs:List HE} {e:Expr} {es:List Expr} (hst:bk e=true) (he:cL W P ck d lay h e) (hes:vM W P ck d lay hs es):vM W P ck d lay (h::hs) (e::es):=λ pos A T S H V s env Y K Q E rm fr st hh q=>by
 rw[Bw hst];exact Calls.spliced_cons (he A T S H V s env Y _ _ E rm fr st hh λ v V1 k1 S1 H1 val s1 p1 p2 p3 p4=>
  hes pos A T S1 H1 V1 s1 env Y _ _ E rm (fr.mono p1 p2) p3 k1 λ vs V2 k2 hl S2 H2 vals s2 g1 g2 g3 g4=>q _ _ k2 (am Nat.succ hl) S2 H2 (val::vals) s2 (p1.trans g1) (p2.trans g2) g3 ⟨p4.mono g1 g2,g4⟩)
theorem C8 {hs:List HE} {es:List Expr} {pos:Pos} (hes:vM W P ck d lay hs es):cL W P ck d lay (.list hs) (.List es pos):=λ A T S H V s env Y K Q E rm fr st h q=>
 wpAny_List_spliced (hes pos A T S H V s env Y _ _ E rm fr st h λ xs V1 k U S1 H1 vs s1 p1 p2 p3 p4=>⟨by rw[<- p4.length,sizeLine_eq];exact ah (bP k.1) (by decide),
  gc (n:=0) (vs:=vs) p3 (ai _) (Kp.push s1 _) (by rw[Heap.get?_push_size _ rfl]) p4 (q.step p1 p2 _ _ k.2.h)⟩)
theorem ED {hs:List HE} {es:List Expr} {c:Nat} {pos:Pos} (hl:hs.length<=100) (hes:vM W P ck d lay hs es):cL W P ck d lay (.t hs) (.Tuple es c pos):=λ A T S H V s env Y K Q E rm fr st h q=>
 wpAny_Tuple_spliced (hes pos A T S H V s env Y _ _ E rm fr st h λ xs V1 k hn S1 H1 vs s1 p1 p2 p3 p4=>⟨by rw[<- p4.length,hn,sizeLine_eq];exact ah hl (by decide),
  tx (n:=0) (vs:=vs) p3 (ai _) (Kp.push s1 _) (by rw[Heap.get?_push_size _ rfl]) p4 (q.step p1 p2 _ _ k)⟩)
end
noncomputable def BB (W:Wd) (T S:PH) (H:Io) (Q:Bool->Shared->Prop) (K:KV):Prop:=∀v V',K v V'->∃b,v= .bool b/\∀S' H' s',cY S S'->H<+:H'->St W T S' H' V' s'->Q b s'
theorem BB.step {W:Wd} {T S S':PH} {H H':Io} {Q:Bool->Shared->Prop} {K:KV} (q:BB W T S H Q K) (hS:cY S S') (hι:H<+:H'):BB W T S' H' Q K:=λ v V' k=>
 aU (q v V' k) λ b e f=>⟨b,e,λ S'' H'' s' p1 p2 p3=>f S'' H'' s' (hS.trans p1) (hι.trans p2) p3⟩
theorem BB.at {W:Wd} {T S:PH} {H:Io} {Q:Bool->Shared->Prop} {K:KV} {b:Bool} {V':aF} (q:BB W T S H Q K) (k:K (.bool b) V'):∀S' H' s',cY S S'->H<+:H'->St W T S' H' V' s'->Q b s':=by
 refine aU (q _ _ k) λ b' e f=>?_;cases HV.bool.inj e;exact f
noncomputable def pJ (W:Wd) (P:bQ) (ck:bn) (d:Nat) (lay:cM) (h:HE) (e:Expr):Prop:=
 ∀(A:Around) (T S:PH) (H:Io) (V:aF) (s:Shared) (env:Env) (Y:bc) (K:KV) (Q:Bool->Shared->Prop) (E:Value->Shared->Prop),Rm d A->bb W T S H lay env Y->St W T S H V s->
  eW P ck h Y V K->BB W T S H Q K->wpAny (model W.prog W.w) A (isTrue e env (eval e env)) Q E s
noncomputable abbrev kc (W:Wd) (P:bQ) (ck:bn) (d:Nat) (lay:cM):List HE->List Expr->Prop:=L2 (pJ W P ck d lay)
noncomputable abbrev u0 (W:Wd) (P:bQ) (ck:bn) (d:Nat) (lay:cM):List HE->List Expr->Prop:=L2 (cL W P ck d lay)
theorem GR {v:HV} {F:HV->Prop} (h:Hq v (F v)):∃b,v= .bool b/\F (.bool b):=by
 cases v with
 |bool b=>exact⟨b,rfl,h⟩
 |_=>exact h.elim
section
variable{W:Wd} {P:bQ} {ck:bn} {d:Nat} {lay:cM}
theorem Hu {h:HE} {e:Expr} (he:cL W P ck d lay h e) (hp:∀env whole,isTrue e env whole=(do let v <- whole;standAt e.pos;holding [v] (truthy v))):pJ W P ck d lay h e:=λ A T S H V s env Y K Q E rm fr st hh q=>
 wpAny_isTrue_value (he A T S H V s env Y _ _ E rm fr st hh λ v V1 k S1 H1 val s1 p1 p2 p3 p4=>by
  refine aU (q _ _ k) λ b rq1 f=>?_;subst rq1;subst p4;exact bD (f S1 H1 s1 p1 p2 p3)) (hp _ _)
theorem Gi {x:HE} {e:Expr} {pos:Pos} (hx:cL W P ck d lay x e):cL W P ck d lay (.not_ x) (.UnaryOp .Not e pos):=λ A T S H V s env Y K Q E rm fr st h q=>by
 rw[arm_eval_UnaryOp];refine af (hx A T S H V s env Y _ _ E rm fr st h λ v V1 k S1 H1 va s1 p1 p2 p3 p4=>?_);refine aU (xk k) λ b rq1 k=>?_;subst rq1;subst p4;have k:K (.bool !b) V1:=by rcases b with _|_<;>exact k
 exact af (bf (av (not_value (bD (q _ _ k S1 H1 _ s1 p1 p2 p3 rfl)))))
theorem Ey {x:HE} {e:Expr} {pos:Pos} (hx:pJ W P ck d lay x e):pJ W P ck d lay (.not_ x) (.UnaryOp .Not e pos):=λ A T S H V s env Y K Q E rm fr st h q=>
 wpAny_isTrue_Not (hx A T S H V s env Y _ _ E rm fr st h λ v V1 k=>by
  refine aU (xk k) λ b rq1 k=>?_;subst rq1;have k:K (.bool !b) V1:=by rcases b with _|_<;>exact k
  exact⟨b,rfl,q.at k⟩)
theorem F4 {c a b:HE} {ec ea eb:Expr} {pos:Pos} (hc:pJ W P ck d lay c ec) (ha:cL W P ck d lay a ea) (hb:cL W P ck d lay b eb):cL W P ck d lay (.ite c a b) (.IfExp ec ea eb pos):=λ A T S H V s env Y K Q E rm fr st h q=>
 wpAny_IfExp (hc A T S H V s env Y _ _ E rm fr st h λ v V1 k=>by
  refine aU (xk k) λ t rq1 k=>?_;subst rq1;refine⟨t,rfl,λ S1 H1 s1 p1 p2 p3=>?_⟩;cases t
  ·exact hb A T S1 H1 V1 s1 env Y _ Q E rm (fr.mono p1 p2) p3 k (q.step p1 p2)
  ·exact ha A T S1 H1 V1 s1 env Y _ Q E rm (fr.mono p1 p2) p3 k (q.step p1 p2))
theorem Ez {c a b:HE} {ec ea eb:Expr} {pos:Pos} (hc:pJ W P ck d lay c ec) (ha:pJ W P ck d lay a ea) (hb:pJ W P ck d lay b eb):pJ W P ck d lay (.ite c a b) (.IfExp ec ea eb pos):=λ A T S H V s env Y K Q E rm fr st h q=>
 isTrue_IfExp (hc A T S H V s env Y _ _ E rm fr st h λ v V1 k=>by
  refine aU (xk k) λ t rq1 k=>?_;subst rq1;refine⟨t,rfl,λ S1 H1 s1 p1 p2 p3=>?_⟩;cases t
  ·exact hb A T S1 H1 V1 s1 env Y _ Q E rm (fr.mono p1 p2) p3 k (q.step p1 p2)
  ·exact ha A T S1 H1 V1 s1 env Y _ Q E rm (fr.mono p1 p2) p3 k (q.step p1 p2))
theorem D6 {hs:List HE} {es:List Expr} (hb:kc W P ck d lay hs es) {A:Around} {T:PH} {env:Env} {Y:bc} {K:KV} {Q:Bool->Shared->Prop} {E:Value->Shared->Prop} (rm:Rm d A):∀{S:PH} {H:Io} {V:aF} {s:Shared},bb W T S H lay env Y->St W T S H V s->
  GM P ck hs Y V K->BB W T S H Q K->wpAny (model W.prog W.w) A (allTrue .And es env) Q E s:=by
 induction hb with
 |nil=>exact λ U U h=>h.elim
 |@cons x e xs es hx hr ih=>
  intro S H V s fr st h q;refine wpAny_allTrue_And_cons (hx A T S H V s env Y _ _ E rm fr st h λ v V1 k=>?_);cases hr with
  |nil=>
   refine aU (GR (F:=λ v=>K v V1) k) λ b rq1 k=>?_;subst rq1;exact⟨b,rfl,λ S1 H1 s1 p1 p2 p3=>by cases b;exact q.at k S1 H1 s1 p1 p2 p3;exact wpAny_allTrue_And_nil (q.at k S1 H1 s1 p1 p2 p3)⟩
  |cons _ _=>
   refine aU (xk k) λ b rq1 k=>?_;subst rq1;exact⟨b,rfl,λ S1 H1 s1 p1 p2 p3=>by cases b;exact q.at k S1 H1 s1 p1 p2 p3;exact ih (fr.mono p1 p2) p3 k (q.step p1 p2)⟩
theorem Fs {hs:List HE} {es:List Expr} (hb:kc W P ck d lay hs es) {A:Around} {T:PH} {env:Env} {Y:bc} {K:KV} {Q:Bool->Shared->Prop} {E:Value->Shared->Prop} (rm:Rm d A):∀{S:PH} {H:Io} {V:aF} {s:Shared},bb W T S H lay env Y->St W T S H V s->
  GI P ck hs Y V K->BB W T S H Q K->wpAny (model W.prog W.w) A (allTrue .Or es env) Q E s:=by
 induction hb with
 |nil=>exact λ U U h=>h.elim
 |@cons x e xs es hx hr ih=>
  intro S H V s fr st h q;refine wpAny_allTrue_Or_cons (hx A T S H V s env Y _ _ E rm fr st h λ v V1 k=>?_);cases hr with
  |nil=>
   refine aU (GR (F:=λ v=>K v V1) k) λ b rq1 k=>?_;subst rq1;exact⟨b,rfl,λ S1 H1 s1 p1 p2 p3=>by cases b;exact wpAny_allTrue_Or_nil (q.at k S1 H1 s1 p1 p2 p3);exact q.at k S1 H1 s1 p1 p2 p3⟩
  |cons _ _=>
   refine aU (xk k) λ b rq1 k=>?_;subst rq1;exact⟨b,rfl,λ S1 H1 s1 p1 p2 p3=>by cases b;exact ih (fr.mono p1 p2) p3 k (q.step p1 p2);exact q.at k S1 H1 s1 p1 p2 p3⟩
theorem Fx {hs:List HE} {es:List Expr} {pos:Pos} (hb:kc W P ck d lay hs es):pJ W P ck d lay (.and_ hs) (.BoolOp .And es pos):=λ U U U U U U U U U U U rm fr st h q=>wpAny_isTrue_BoolOp (D6 hb rm fr st h q)
theorem Hv {hs:List HE} {es:List Expr} {pos:Pos} (hb:kc W P ck d lay hs es):pJ W P ck d lay (.or_ hs) (.BoolOp .Or es pos):=λ U U U U U U U U U U U rm fr st h q=>wpAny_isTrue_BoolOp (Fs hb rm fr st h q)
end
section
variable{W:Wd} {P:bQ} {ck:bn} {d:Nat} {lay:cM}
theorem FT {pos:Pos} {hs:List HE} {es:List Expr} (hb:u0 W P ck d lay hs es) {A:Around} {T:PH} {env:Env} {Y:bc} {K:KV} {Q:Value->Shared->Prop} {E:Value->Shared->Prop} (rm:Rm d A):∀{S:PH} {H:Io} {V:aF} {s:Shared},bb W T S H lay env Y->St W T S H V s->
  GM P ck hs Y V K->tf W T S H Q K->wpAny (model W.prog W.w) A (boolOp pos .And (evalEach es env)) Q E s:=by
 induction hb with
 |nil=>exact λ U U h=>h.elim
 |@cons x e xs es hx hr ih=>
  intro S H V s fr st h q;cases hr with
  |nil=>
   exact hx A T S H V s env Y _ Q E rm fr st h λ v V1 k=>by
    refine aU (GR (F:=λ v=>K v V1) k) λ b rq1 k=>?_;subst rq1;exact q _ _ k
  |@cons y e' ys es _ _=>
   show wpAny _ A (do
    let v <- eval e env
    standAt pos
    let t <- holding [v] (truthy v)
    match BoolOp.And,t with
    | .And,false| .Or,true=>pure v
    |_,_=>boolOp pos .And (evalEach (e'::es) env)) Q E s
   refine wb (hx A T S H V s env Y _ _ E rm fr st h λ v V1 k S1 H1 val s1 p1 p2 p3 p4=>?_);refine aU (xk k) λ b rq1 k=>?_;subst rq1;subst p4;refine wb (bf (wb (av (bD ?_))));cases b
   ·exact ag (q _ _ k S1 H1 _ s1 p1 p2 p3 rfl)
   ·exact ih (fr.mono p1 p2) p3 k (q.step p1 p2)
theorem H9 {pos:Pos} {hs:List HE} {es:List Expr} (hb:u0 W P ck d lay hs es) {A:Around} {T:PH} {env:Env} {Y:bc} {K:KV} {Q:Value->Shared->Prop} {E:Value->Shared->Prop} (rm:Rm d A):∀{S:PH} {H:Io} {V:aF} {s:Shared},bb W T S H lay env Y->St W T S H V s->
  GI P ck hs Y V K->tf W T S H Q K->wpAny (model W.prog W.w) A (boolOp pos .Or (evalEach es env)) Q E s:=by
 induction hb with
 |nil=>exact λ U U h=>h.elim
 |@cons x e xs es hx hr ih=>
  intro S H V s fr st h q;cases hr with
  |nil=>
   exact hx A T S H V s env Y _ Q E rm fr st h λ v V1 k=>by
    refine aU (GR (F:=λ v=>K v V1) k) λ b rq1 k=>?_;subst rq1;exact q _ _ k
  |@cons y e' ys es _ _=>
   show wpAny _ A (do
    let v <- eval e env
    standAt pos
    let t <- holding [v] (truthy v)
    match BoolOp.Or,t with
    | .And,false| .Or,true=>pure v
    |_,_=>boolOp pos .Or (evalEach (e'::es) env)) Q E s
   refine wb (hx A T S H V s env Y _ _ E rm fr st h λ v V1 k S1 H1 val s1 p1 p2 p3 p4=>?_);refine aU (xk k) λ b rq1 k=>?_;subst rq1;subst p4;refine wb (bf (wb (av (bD ?_))));cases b
   ·exact ih (fr.mono p1 p2) p3 k (q.step p1 p2)
   ·exact ag (q _ _ k S1 H1 _ s1 p1 p2 p3 rfl)
theorem EG {hs:List HE} {es:List Expr} {pos:Pos} (hb:u0 W P ck d lay hs es):cL W P ck d lay (.and_ hs) (.BoolOp .And es pos):=λ A T S H V s env Y K Q E rm fr st h q=>by
 rw[arm_eval_BoolOp];exact FT hb rm fr st h q
theorem Hc {hs:List HE} {es:List Expr} {pos:Pos} (hb:u0 W P ck d lay hs es):cL W P ck d lay (.or_ hs) (.BoolOp .Or es pos):=λ A T S H V s env Y K Q E rm fr st h q=>by
 rw[arm_eval_BoolOp];exact H9 hb rm fr st h q
theorem FF {op:CO} {l r:HE} {el er:Expr} {pos:Pos} (hm:behindInMarks (fX op) er=false) (hl:cL W P ck d lay l el) (hr:cL W P ck d lay r er):cL W P ck d lay (.c op l r) (.Compare el [fX op] [er] pos):=λ A T S H V s env Y K Q E rm fr st h q=>
 wpAny_Compare1 (hl A T S H V s env Y _ _ E rm fr st h λ a V1 k1 S1 H1 va s1 p1 p2 p3 p4=>
  hr A T S1 H1 V1 s1 env Y _ _ E rm (fr.mono p1 p2) p3 k1 λ b V2 k2 S2 H2 vb s2 g1 g2 g3 g4=>
   g9 g3 rm.units16 k2 (p4.mono g1 g2) g4 λ U k s3 st3=>q _ _ k S2 H2 _ s3 (p1.trans g1) (p2.trans g2) st3 rfl) hm
theorem FC {op:CO} {l r:HE} {el er:Expr} {pos:Pos} (hm:behindInMarks (fX op) er=false) (hl:cL W P ck d lay l el) (hr:cL W P ck d lay r er):pJ W P ck d lay (.c op l r) (.Compare el [fX op] [er] pos):=λ A T S H V s env Y K Q E rm fr st h q=>
 wpAny_isTrue_Compare1 (hl A T S H V s env Y _ _ E rm fr st h λ a V1 k1 S1 H1 va s1 p1 p2 p3 p4=>
  hr A T S1 H1 V1 s1 env Y _ _ E rm (fr.mono p1 p2) p3 k1 λ b V2 k2 S2 H2 vb s2 g1 g2 g3 g4=>
   g9 g3 rm.units16 k2 (p4.mono g1 g2) g4 λ U k s3 st3=>bD (q.at k S2 H2 s3 (p1.trans g1) (p2.trans g2) st3)) hm
theorem Ct {op₁ op₂:CO} {l m r:HE} {el em er:Expr} {pos:Pos} (hm:lastMarks [fX op₁,fX op₂] [em,er]=false) (hl:cL W P ck d lay l el) (hmm:cL W P ck d lay m em) (hr:cL W P ck d lay r er):cL W P ck d lay (.cmp2 op₁ op₂ l m r) (.Compare el [fX op₁,fX op₂] [em,er] pos):=λ A T S H V s env Y K Q E rm fr st h q=>by
 refine Compare_chain (rs:=[]) (ops:=[]) (hl A T S H V s env Y _ _ E rm fr st h λ a V1 k1 S1 H1 va s1 p1 p2 p3 p4=>?_) hm;refine chain_link (hmm A T S1 H1 V1 s1 env Y _ _ E rm (fr.mono p1 p2) p3 k1 λ b V2 k2 S2 H2 vb s2 g1 g2 g3 g4=>?_);refine g9 g3 rm.units16 k2 (p4.mono g1 g2) g4 λ t k3 s3 st3=>bD ?_;cases t
 ·exact q _ _ k3 S2 H2 _ s3 (p1.trans g1) (p2.trans g2) st3 rfl
 ·exact chain_last (hr A T S2 H2 V2 s3 env Y _ _ E rm ((fr.mono p1 p2).mono g1 g2) st3 k3 λ c V4 k4 S4 H4 vc s4 j1 j2 j3 j4=>
   g9 j3 rm.units16 k4 (g4.mono j1 j2) j4 λ U k5 s5 st5=>q _ _ k5 S4 H4 _ s5 ((p1.trans g1).trans j1) ((p2.trans g2).trans j2) st5 rfl)
theorem CK {op₁ op₂:CO} {l m r:HE} {el em er:Expr} {pos:Pos} (hm:lastMarks [fX op₁,fX op₂] [em,er]=false) (hl:cL W P ck d lay l el) (hmm:cL W P ck d lay m em) (hr:cL W P ck d lay r er):pJ W P ck d lay (.cmp2 op₁ op₂ l m r) (.Compare el [fX op₁,fX op₂] [em,er] pos):=λ A T S H V s env Y K Q E rm fr st h q=>by
 refine isTrue_chain (rs:=[]) (ops:=[]) (hl A T S H V s env Y _ _ E rm fr st h λ a V1 k1 S1 H1 va s1 p1 p2 p3 p4=>?_) hm;refine test_link (hmm A T S1 H1 V1 s1 env Y _ _ E rm (fr.mono p1 p2) p3 k1 λ b V2 k2 S2 H2 vb s2 g1 g2 g3 g4=>?_);refine g9 g3 rm.units16 k2 (p4.mono g1 g2) g4 λ t k3 s3 st3=>bD ?_;cases t
 ·exact q.at k3 S2 H2 s3 (p1.trans g1) (p2.trans g2) st3
 ·exact test_last (hr A T S2 H2 V2 s3 env Y _ _ E rm ((fr.mono p1 p2).mono g1 g2) st3 k3 λ c V4 k4 S4 H4 vc s4 j1 j2 j3 j4=>
   g9 j3 rm.units16 k4 (g4.mono j1 j2) j4 λ U k5 s5 st5=>bD (q.at k5 S4 H4 s5 ((p1.trans g1).trans j1) ((p2.trans g2).trans j2) st5))
end
section
variable{W:Wd} {P:bQ} {ck:bn} {d:Nat} {lay:cM} {K:Frag}
theorem ml {env:Env} {es:List Expr}:es.all bk=true->starEach es env=es.map λ e=>(false,eval e env):=by
 induction es with
 |nil=>exact λ U=>rfl
 |cons e es ih=>exact λ h=>(Bw (aD.mp h).1).trans (am _ (ih (aD.mp h).2))
theorem cR {pos:Pos} {env:Env} {es:List Expr} (h:es.all bk=true):backTo pos (starEach es env)=es.map λ e=>(false,eval e env):=by
 rw[ml h];unfold backTo;rw[List.map_map];rfl
theorem cQ {A:Around} {s:Shared} {E:Value->Shared->Prop} {f:Value} {es:List Expr} {env:Env} {Q:Args->Shared->Prop}
  (h:wpAny (model W.prog W.w) A (spliced (es.map λ e=>(false,eval e env))) (λ vs s'=>Q ⟨vs,[]⟩ s') E s):wpAny (model W.prog W.w) A (evalArgs f true (es.map λ e=>(false,eval e env)) []) Q E s:=by
 induction es using Jo with
 |cons e es=>exact evalArgs_plain h
 |nil=>
  refine af (dg h (λ vs s' h'=>?_) λ U U x=>x);refine av ?_;exact af (ag (af (ag (ag h'))))
theorem gg {es:List Expr} {env:Env}:((es.map λ e=>(false,eval e env)).any (·.1))=false:=by
 induction es with
 |nil=>rfl
 |cons e es ih=>rw[List.map_cons,List.any_cons,ih];rfl
theorem D9 (dom:d6 P ck) (po:ia W P) (wo:rR W P K) {T S:PH} {H:Io} {V:aF} {s:Shared} {f:HV} {fv:Value} {args:List HV} {N:KV} (st:St W T S H V s) (h:Ek P ck f args V N) (hf:VR W S H f fv):ip W fv s:=
 Dx dom wo po st hf h
theorem Ca (ok:iu W P ck d) (dom:d6 P ck) (po:ia W P) (wo:rR W P K) {hf:HE} {hs:List HE} {ef:Expr} {es:List Expr} {pos:Pos}
  (hc:∀env,eval (.Call ef es [] pos) env=(do callWith pos (<- eval ef env) [] (backTo pos (starEach es env)) [])) (hp:es.all bk=true)
  (hf':cL W P ck (d+2) lay hf ef) (hs':mA W P ck (d+2) lay hs es):cL W P ck (d+2) lay (.call hf hs) (.Call ef es [] pos):=λ A T S H V s env Y U Q E rm fr st h q=>by
 rw[hc,cR hp];exact af (hf' A T S H V s env Y _ _ E rm fr st h λ f V1 k1 S1 H1 vf s1 p1 p2 p3 p4=>d9 gg (cQ
  (hs' A T S1 H1 V1 s1 env Y _ _ E rm (fr.mono p1 p2) p3 k1 λ vs V2 k2 S2 H2 vals s2 g1 g2 g3 g4=>⟨rfl,D9 dom po wo g3 k2 (p4.mono g1 g2),wz ok dom po wo rm g3 k2 (p4.mono g1 g2) g4 ((q.step p1 p2).step g1 g2)⟩)))
theorem td (ok:iu W P ck d) (dom:d6 P ck) (po:ia W P) (wo:rR W P K) {hf:HE} {hs:List HE} {x:Str} {px:Pos} {es:List Expr} {pos:Pos} (hp:es.all bk=true)
  (hf':cL W P ck (d+2) lay hf (.Name x px)) (hs':mA W P ck (d+2) lay hs es):cL W P ck (d+2) lay (.call hf hs) (.Call (.Name x px) es [] pos):=
 Ca ok dom po wo (λ env=>by rw[arm_eval_Call_Name'];rfl) hp hf' hs'
end
section
variable{W:Wd} {P:bQ} {ck:bn} {d:Nat} {lay:cM} {K:Frag}
theorem lS {S S':PH} {H H':Io} {m:iI} {r:Value×List Value} (h:fH W S H m r) (hS:cY S S') (hι:H<+:H'):fH W S' H' m r:=by
 have gi:∀{i:Nat} {p:Addr×Nat},H[i]? =some p->H'[i]? =some p:=by
  intro i p e;refine ce hι λ t rq1=>?_;subst rq1;rw[List.getElem?_append_left (List.getElem?_eq_some_iff.mp e).1];exact e
 cases m with
 |own k c i=>
  refine dL h λ x p hp hx rq1=>?_;subst rq1;exact⟨x,p,gi hp,hS _ _ hx,rfl⟩
 |built m i=>
  refine aU h λ p hp rq1=>?_;subst rq1;exact⟨p,gi hp,rfl⟩
theorem CR (dom:d6 P ck) (po:ia W P) {T S:PH} {H:Io} {V:aF} {s:Shared} {m:iI} {fr:Value×List Value} {args:List HV} {N:KV} (st:St W T S H V s) (h:By ck m args V N) (hf:fH W S H m fr):ip W fr.1 s:=by
 cases m with
 |own k c i=>
  refine dL hf λ x p U U rq1=>?_;subst rq1;refine aU (dom _ _ _ _ _ h) λ g hg hc=>?_;refine dL (po.base k g hg hc.symm) λ o fd ho hd U=>?_;exact pX (st.keep_base ho) hd
 |built m i=>
  refine aU hf λ p U rq1=>?_;subst rq1;exact jc
theorem Fb {o:Expr} {env:Env} {apos pos:Pos} (h:(apos.endLine==pos.line)=true\/Nat.beq o.ctorIdx 23=false):∃q,methodCallPos true o env apos pos=pure q:=by
 unfold methodCallPos
 induction hl:apos.endLine==pos.line using Jp with
 |true=>exact⟨pos,rfl⟩
 |false=>
  rcases h with h|h
  ·rw[hl] at h;cases h
  ·refine⟨{pos with line:=apos.endLine},?_⟩;apply vF (λ n=>Nat.beq n 23) h<;>(repeat intro U)<;>first|rfl|exact rO U
theorem Ap (ok:iu W P ck d) (dom:d6 P ck) (po:ia W P) (wo:rR W P K) (mo:tL W P) (hfn:∀c a k,dM P c a=some k->k<P.funs.length) {ho:HE} {hs:List HE} {o:Expr} {a:Nat} {apos:Pos} {es:List Expr} {pos:Pos}
  (ha:a<W.strL.length) (hb:∀env,attributeBase o (W.str a) env (eval o env)=eval o env) (hl:(apos.endLine==pos.line)=true\/Nat.beq o.ctorIdx 23=false) (hn:es.length<30) (hp:es.all bk=true)
  (ho':cL W P ck (d+2) lay ho o) (hs':mA W P ck (d+2) lay hs es):cL W P ck (d+2) lay (.m ho a hs) (.Call (.Attribute o (W.str a) apos) es [] pos):=λ A T S H V s env Y U Q E rm fr st h q=>by
 rw[arm_eval_Call,hb,cR hp];refine af (ho' A T S H V s env Y _ _ E rm fr st h λ ov V1 k1 S1 H1 vo s1 p1 p2 p3 p4=>af (bf ?_));have hform:methodCallForm (es.length+([]:List Keyword).length) (es.map λ e=>(false,eval e env)) (backToKw pos (keywordEach [] env))=true:=by
  unfold methodCallForm;have:((es.map λ e=>(false,eval e env)).all (!·.1))=true:=by
   rw[List.all_map];exact aM.mpr λ U U=>rfl
  rw[this];show(true&&true&&decide (es.length+0+0<30))=true;simp[hn]
 unfold methodCall;rw[hform];show wpAny _ A (holding [vo] (calleeOf true o env vo (W.str a))>>=_) Q E s1;refine ce (Fb (env:=env) hl) λ cp hcp=>?_;refine af (av (vI wo mo ha hfn p3 k1 p4 λ m r k2 hr=>?_));rw[hcp];exact af (ag (d9 gg (cQ (hs' A T S1 H1 V1 s1 env Y _ _ E rm (fr.mono p1 p2) p3 k2 λ vs V2 k3 S2 H2 vals s2 g1 g2 g3 g4=>
  ⟨rfl,CR dom po g3 k3 (lS hr g1 g2),xg ok dom po rm g3 k3 (lS hr g1 g2) g4 ((q.step p1 p2).step g1 g2)⟩))))
end
structure jN (W:Wd) (mg mb:Str->Option Value):Prop where
 g:W.hb.Ns mainGlobals mg
 b:W.hb.Ns builtinsNs mb
section
variable{W:Wd} {P:bQ} {ck:bn} {d:Nat} {lay:cM} {mg mb:Str->Option Value}
theorem DZ {k:Nat} {pos:Pos}:cL W P ck d lay (.k .none) (.Constant .none k pos):=λ U U U U U U U U U U U U U st h q=>wpAny_Constant_none ((q _ _ h).same st rfl)
theorem D7 {b:Bool} {k:Nat} {pos:Pos}:cL W P ck d lay (.k (.bool b)) (.Constant (.bool b) k pos):=λ U U U U U U U U U U U U U st h q=>wpAny_Constant_bool ((q _ _ h).same st rfl)
theorem Fo {i:Int} {k:Nat} {pos:Pos}:cL W P ck d lay (.k (.int i)) (.Constant (.int i) k pos):=λ U U U U U U U U U U U U U st h q=>wpAny_Constant_int ((q _ _ h).same (st.toks _) ⟨_,rfl⟩)
theorem Gk {j:Nat} {k:Nat} {pos:Pos} (hj:j<W.strL.length):cL W P ck d lay (.k (.str j)) (.Constant (.str (W.str j)) k pos):=λ U U U U U U U U U U U U U st h q=>wpAny_Constant_str ((q _ _ h).same (st.toks _) ⟨hj,_,rfl⟩)
theorem yq {A:Around} {T S:PH} {H:Io} {V:aF} {s:Shared} {env:Env} {Y:bc} {E:Value->Shared->Prop} {x:Str} {v:Value} {pos:Pos} {Q:Value->Shared->Prop} (go:jN W mg mb) (fr:bb W T S H lay env Y) (st:St W T S H V s)
  (hk:lay.scope.names.lookup x=some .globalImplicit) (hd:(x==("__debug__":Str))=false) (hv:mg x=some v) (q:Q v s):wpAny (model W.prog W.w) A (eval (.Name x pos) env) Q E s:=by
 refine wpAny_Name ?_ hd;rw[loadName_read fr.kind (by unfold Env.kindOf;rw[fr.scope];exact hk)]
 exact loadGlobal_global (by rw[fr.globals];exact go.g.keeps λ b o e=>st.keep_base e) hv q
theorem fM {A:Around} {T S:PH} {H:Io} {V:aF} {s:Shared} {env:Env} {Y:bc} {E:Value->Shared->Prop} {x:Str} {v:Value} {pos:Pos} {Q:Value->Shared->Prop} (go:jN W mg mb) (fr:bb W T S H lay env Y) (st:St W T S H V s)
  (hk:lay.scope.names.lookup x=some .globalImplicit) (hd:(x==("__debug__":Str))=false) (hn:mg x=none) (hv:mb x=some v) (q:Q v s):wpAny (model W.prog W.w) A (eval (.Name x pos) env) Q E s:=by
 refine wpAny_Name ?_ hd;rw[loadName_read fr.kind (by unfold Env.kindOf;rw[fr.scope];exact hk)]
 exact loadGlobal_builtin (by rw[fr.globals];exact go.g.keeps λ b o e=>st.keep_base e) hn (by rw[fr.builtins];exact go.b.keeps λ b o e=>st.keep_base e) hv q
theorem B4 {x:Str} {w:HV} {v:Value} {pos:Pos} (go:jN W mg mb) (hk:lay.scope.names.lookup x=some .globalImplicit) (hd:(x==("__debug__":Str))=false) (hv:mg x=some v)
  (hr:VR W (λ a=>W.hb.get? a) [] w v):cL W P ck d lay (.k w) (.Name x pos):=λ U U U U U U U U U U U U fr st h q=>
 yq go fr st hk hd hv ((q _ _ h).same st (hr.mono (λ a o e=>st.base a o e) List.nil_prefix))
theorem Ip {b:BI} {hs:List HE} {x:Str} {px:Pos} {es:List Expr} {pos:Pos} (go:jN W mg mb) (hk:lay.scope.names.lookup x=some .globalImplicit) (hd:(x==("__debug__":Str))=false) (hn:mg x=none) (hv:mb x=some (uG b))
  (hp:es.all bk=true) (hs':mA W P ck d lay hs es):cL W P ck d lay (.bi b hs) (.Call (.Name x px) es [] pos):=λ A T S H V s env Y U Q E rm fr st h q=>by
 rw[arm_eval_Call_Name',cR hp];refine af (fM go fr st hk hd hn hv (d9 gg (cQ (hs' A T S H V s env Y _ _ E rm fr st h λ vs V2 k2 S2 H2 vals s2 g1 g2 g3 g4=>⟨rfl,?_,DH g3 rm.handled k2 g4 (q.step g1 g2)⟩))));rcases b with _|_<;>first|exact jc|exact dA
end
noncomputable def ln (W:Wd) (P:bQ) (ck:bn) (d:Nat) (lay:cM) (h:HS) (e:Stmt):Prop:=
 ∀(A:Around) (T S:PH) (H:Io) (V:aF) (s:Shared) (env:Env) (Y:bc) (N:bc->aF->Prop) (R:KV) (Q:Flow->Shared->Prop) (E:Value->Shared->Prop),Rm d A->bb W T S H lay env Y->St W T S H V s->
  sW P ck h Y V N R->tm W lay env T S H N (Q .next)->xY W lay env T S H R (λ v=>Q (.ret v))->wpAny (model W.prog W.w) A (exec e env) Q E s
section
variable{W:Wd} {P:bQ} {ck:bn} {d:Nat} {lay:cM}
theorem iE:rQ W P ck d lay [] []:=λ A T S H V s env Y N R Q E rm fr st h qn U=>wpAny_execs_nil (qn _ _ T S H s h (.refl _ T S H) fr st)
theorem cK {h:HS} {hs:List HS} {e:Stmt} {es:List Stmt} (he:ln W P ck d lay h e) (hes:rQ W P ck d lay hs es):rQ W P ck d lay (h::hs) (e::es):=λ A T S H V s env Y N R Q E rm fr st hh qn qr=>
 wpAny_execs_cons (he A T S H V s env Y _ _ _ E rm fr st hh (λ Y1 V1 T1 S1 H1 s1 k e fr1 st1=>hes A T1 S1 H1 V1 s1 env Y1 N R Q E rm fr1 st1 k (qn.step e) (qr.step e)) qr)
theorem E4 {h:HE} {e:Expr} {pos:Pos} (he:cL W P ck d lay h e):ln W P ck d lay (.ret (some h)) (.Return (some e) pos):=λ A T S H V s env Y N R Q E rm fr st hh qn qr=>
 wpAny_Return_some (he A T S H V s env Y _ _ E rm fr st hh λ v V1 k S1 H1 val s1 p1 p2 p3 p4=>qr _ _ T S1 H1 s1 val k (.of p1 p2) p3 p4)
theorem DJ {pos:Pos}:ln W P ck d lay (.ret none) (.Return none pos):=λ A T S H V s env Y N R Q E rm fr st hh qn qr=>wpAny_Return_none (qr _ _ T S H s _ hh (.refl _ T S H) st rfl)
theorem Hd {c:HE} {ec:Expr} {a b:List HS} {ea eb:List Stmt} {pos:Pos} (hc:pJ W P ck d lay c ec) (ha:rQ W P ck d lay a ea) (hb:rQ W P ck d lay b eb):ln W P ck d lay (.if_ c a b) (.If ec ea eb pos):=λ A T S H V s env Y N R Q E rm fr st hh qn qr=>
 wpAny_If (hc A T S H V s env Y _ _ E rm fr st hh λ v V1 k=>by
  refine aU (xk k) λ t rq1 k=>?_;subst rq1;refine⟨t,rfl,λ S1 H1 s1 p1 p2 p3=>?_⟩;cases t
  ·exact hb A T S1 H1 V1 s1 env Y N R Q E rm (fr.mono p1 p2) p3 k (qn.step (.of p1 p2)) (qr.step (.of p1 p2))
  ·exact ha A T S1 H1 V1 s1 env Y N R Q E rm (fr.mono p1 p2) p3 k (qn.step (.of p1 p2)) (qr.step (.of p1 p2)))
end
inductive WI (W:Wd) (lay:cM) (test:bc->aF->KV->Prop) (body:bc->aF->(bc->aF->Prop)->Prop) (N:bc->aF->Prop) (env:Env) (T S:PH) (H:Io) (n:Nat) (s0:Shared):Prop
 |mk {T0 S0:PH} {H0:Io} {Y0:bc} {V0:aF} (e:ka (mR lay.names env) T S H T0 S0 H0) (fr:bb W T0 S0 H0 lay env Y0) (st:St W T0 S0 H0 V0 s0) (w:Ee test body n Y0 V0 N):WI W lay test body N env T S H n s0
section
variable{W:Wd} {P:bQ} {ck:bn} {d:Nat} {lay:cM}
theorem Ar {c:HE} {ec:Expr} {b:List HS} {eb:List Stmt} {pos:Pos} (hc:pJ W P ck d lay c ec) (hb:rQ W P ck d lay b eb):ln W P ck d lay (.while_ c b) (.While ec eb [] pos):=λ A T S H V s env Y N R Q E rm fr st hh qn qr=>by
 refine ce hh λ n hh=>?_;refine wpAny_While (codeAny_whileLoop (WI W lay (λ Y V K=>eW P ck c Y V K) (λ Y V N=>kL P ck b Y V N R) N env T S H) ?_ n (.mk (.refl _ T S H) fr st hh));rintro n s0 ⟨e0,fr0,st0,hw⟩;rename_i T0 S0 H0 Y0 V0
 induction n using Jq with
 |zero=>exact hw.elim
 |succ n=>
  refine hc A T0 S0 H0 V0 s0 env Y0 _ _ _ rm fr0 st0 hw λ v V1 k=>?_;refine aU (xk k) λ t rq1 k=>?_;subst rq1;refine⟨t,rfl,λ S1 H1 s1 g1 g2 g3=>?_⟩;have e1:=e0.trans (.of g1 g2);cases t
  ·exact wpAny_execs_nil (qn _ _ T0 S1 H1 s1 k e1 (fr0.mono g1 g2) g3)
  ·exact hb A T0 S1 H1 V1 s1 env Y0 _ _ _ _ rm (fr0.mono g1 g2) g3 k (λ Y2 V2 T2 S2 H2 s2 k2 e2 fr2 st2=>⟨n,aI n, .mk (e1.trans e2) fr2 st2 k2⟩) (qr.step e1)
end
section
variable{W:Wd} {P:bQ} {ck:bn} {d:Nat} {lay:cM}
end
noncomputable def xB (h:HI):Nat:=h.ctorIdx - 1
noncomputable def Ji (W:Wd) (T S:PH) (H:Io) (h:HI) (Q:Value->Shared->Prop) (K:gz->aF->Prop):Prop:=
 ∀src V' T' S' H' s' I own,K src V'->tS src=xB h->ka (·∈own) T S H T' S' H'->(∀b∈own,T b=none)->St W T' S' H' V' s'->hU W S' H' T' src 0 I own->Q (.ref I) s'
noncomputable def mZ (W:Wd) (P:bQ) (ck:bn) (d:Nat) (lay:cM) (h:HI) (e:Expr):Prop:=
 ∀(A:Around) (T S:PH) (H:Io) (V:aF) (s:Shared) (env:Env) (Y:bc) (K:gz->aF->Prop) (Q:Value->Shared->Prop) (E:Value->Shared->Prop),Rm d A->bb W T S H lay env Y->St W T S H V s->
  iW P ck h Y V K->Ji W T S H h Q K->wpAny (model W.prog W.w) A (eval e env) (λ x s₁=>wpAny (model W.prog W.w) A (pyIter x) Q E s₁) E s
noncomputable def eY (lay:List Str) (env:Env) (own:List Addr):Prop:=env.locals∉own/\∀x∈lay,env.kindOf x≠some .local->∀c,env.cells.lookup x=some c->c∉own
section
variable{W:Wd} {P:bQ} {ck:bn} {d:Nat} {lay:cM} {T T' S:PH} {H:Io} {V:aF} {s:Shared} {A:Around} {E:Value->Shared->Prop} {env:Env} {Y:bc} {own:List Addr}
theorem eY.off {names:List Str} (h:eY names env own) {b:Addr} (hb:b∈own):¬mR names env b:=by
 rintro(rfl|⟨x,hx,hk,hl⟩)
 ·exact h.1 hb
 ·exact h.2 x hx (by rw[hk];decide) b hl hb
theorem eD.cell {m:Str->Option Value} {x:Str} {sv:SV} (h:eD W T S H env m x sv) (hk:env.kindOf x≠some .local):∃c o,env.cells.lookup x=some c/\(S c=some o\/T c=some o):=by
 cases sv with
 |empty=>
  rcases h with h|⟨_,c,v,h1,h2⟩
  ·exact(hk h).elim
  ·exact⟨c,_,h1, .inr h2⟩
 |val v=>
  rcases h with h|⟨_,c,v,h1,h2,_⟩
  ·exact(hk h.1).elim
  ·exact⟨c,_,h1, .inr h2⟩
 |ro v=>
  obtain⟨_,c,v,h1,h2,_⟩:=h;exact⟨c,_,h1,h2⟩
theorem eD.change {m:Str->Option Value} {x:Str} {sv:SV} (h:eD W T S H env m x sv) (e:env.kindOf x≠some .local->∀c,env.cells.lookup x=some c->T' c=T c):eD W T' S H env m x sv:=eD.turn h (λ U=>rfl) λ k c U hc h=>(e k c hc).trans h
theorem FrameT.change {names:List Str} (h:FrameT W T S H names env Y) (e0:T' env.locals=T env.locals) (e:∀x∈names,env.kindOf x≠some .local->∀c,env.cells.lookup x=some c->T' c=T c):FrameT W T' S H names env Y:=
 ⟨h.kind,h.globals,h.builtins,h.len,h.apart,dL h.ns λ o m a b c=>⟨o,m,e0.trans a,b,λ i x sv e1 e2=>(c i x sv e1 e2).change (e x (ar e1))⟩⟩
theorem bb.offOwn (h:bb W T S H lay env Y) (ap:eY lay.names env own) (e:∀b,b∉own->T' b=T b):bb W T' S H lay env Y:=
 ⟨h.toFrameT.change (e _ ap.1) λ x hx hk c hc=>e c (ap.2 x hx hk c hc),h.scope,h.code⟩
theorem bb.apartOf (h:bb W T S H lay env Y) (hn:∀b∈own,T b=none/\S b=none):eY lay.names env own:=by
 refine dL h.ns λ o m hT U hs=>?_;refine⟨λ q=>dX ((hn _ q).1.symm.trans hT),λ x hx hk c hc q=>?_⟩;obtain⟨i,hi⟩:=ba.mp hx;have hil:i<Y.length:=by rw[h.len];exact(ao.mp hi).1
 refine dP ((hs i x _ hi (ak hil)).cell hk) λ c' o h1 h2=>?_;rw[hc] at h1;rw[<- Option.some.inj h1] at h2;exact h2.elim (λ h=>dX ((hn _ q).2.symm.trans h)) λ h=>dX ((hn _ q).1.symm.trans h)
theorem hU.S_none {src:gz} {k:Nat} {I:Addr} (st:St W T S H V s) (it:hU W S H T src k I own):∀b∈own,S b=none:=λ b hb=>ce (it.live b hb) λ o e=>st.TS _ _ e
theorem fN {mg mb:Str->Option Value} {f:Value} {hs:List HE} {x:Str} {px:Pos} {es:List Expr} {pos:Pos} {K:List HV->aF->Prop} {Q:Value->Shared->Prop} (go:jN W mg mb) (hk:lay.scope.names.lookup x=some .globalImplicit) (hd:(x==("__debug__":Str))=false)
  (hn:mg x=none) (hv:mb x=some f) (hf:∀s,ip W f s) (hp:es.all bk=true) (hs':mA W P ck d lay hs es) (rm:Rm d A) (fr:bb W T S H lay env Y) (st:St W T S H V s) (h:y6 P ck hs Y V K)
  (q:EK W T S H (λ vals s'=>wpAny (model W.prog W.w) A (call f vals) Q E s') K):wpAny (model W.prog W.w) A (eval (.Call (.Name x px) es [] pos) env) Q E s:=by
 rw[arm_eval_Call_Name',cR hp];exact af (fM go fr st hk hd hn hv (d9 gg (cQ (hs' A T S H V s env Y _ _ E rm fr st h λ vs V2 k S2 H2 vals s2 g1 g2 g3 g4=>⟨rfl,hf s2,q _ _ k S2 H2 vals s2 g1 g2 g3 g4⟩))))
theorem newT {s:Shared} (st:St W T S H V s) {I:Addr} (hI:I=s.heap.objs.size):∀b∈[I],T b=none:=λ b hb=>by
 rw[List.mem_singleton.mp hb,hI];exact st.T_new (ai _)
theorem Ia {x:HE} {e:Expr} (hx:cL W P ck d lay x e):mZ W P ck d lay (.e x) e:=λ A T S H V s env Y K Q E rm fr st h q=>
 hx A T S H V s env Y _ _ E rm fr st h λ v V1 k S1 H1 va s1 p1 p2 p3 p4=>xX p3 k p4 λ src k h0 s2 I hI st2 it=>q src V1 _ S1 H1 s2 I [I] k h0 ⟨p1,p2,λ b hb=>aJ hb⟩ (newT p3 hI) st2 it
theorem EV:∀n:Nat,n<2000->Builtin.Range.small 0 n 1=true/\Builtin.Range.rangeSize 0 n 1=n:=by decide+kernel
theorem F0:∀n:Nat,n<2000->Builtin.Range.small n (-1) (-1)=true/\Builtin.Range.rangeSize n (-1) (-1)=(n+1:Nat):=by decide+kernel
theorem AO {r:Addr} {a b c:Int} {t u v:Tok} {xs:List HV} {Q:Value->Shared->Prop} (st:St W T S H V s) (hr:IsRange s.heap r a b c t u v) (hsm:Builtin.Range.small a b c=true) {n:Nat} (hs:Builtin.Range.rangeSize a b c=n) (hx:xs=dq a c n)
  (q:∀s' I,I=s.heap.objs.size->St W (reread T [I] s'.heap) S H V s'->hU W S H (reread T [I] s'.heap) (.static xs) 0 I [I]->Q (.ref I) s'):wpAny (model W.prog W.w) A (pyIter (.ref r)) Q E s:=
 wpAny_pyIter_range hr hsm (q _ _ rfl (st.newT _) (.rng (Ed rfl) (by rw[List.drop_zero,hs];exact hx)))
theorem nQ {vs:List HV} {F:List HV->Prop} {vals:List Value} {Q:Value->Shared->Prop} (h:Bm F vs) (st:St W T S H V s) (hv:bW W S H vs vals)
  (q:∀xs s' r a b c t u v (n:Nat),F xs->IsRange s'.heap r a b c t u v->Builtin.Range.small a b c=true->Builtin.Range.rangeSize a b c=n->xs=dq a c n->St W T S H V s'->Q (.ref r) s'):wpAny (model W.prog W.w) A (call (.type "range") vals) Q E s:=by
 induction h with
 |@up n hn k=>
  obtain⟨_,rfl,t,rfl⟩:=dQ hv;exact call_range_1 (q _ _ _ 0 n 1 _ _ _ n k (aC _ rfl) (EV n hn).1 (EV n hn).2 rfl (st.same ((Kp.push s _).toks _)))
 |@dn n hn k=>
  refine dL hv.cons λ _ us rq1 hq1 hw=>?_;refine ce hq1 λ t rq2=>?_;subst rq1;subst rq2;obtain⟨_,_,rfl,⟨u,rfl⟩,v,rfl⟩:=kH hw;exact call_range_3 (by decide) (q _ _ _ n (-1) (-1) _ _ _ _ k (aC _ rfl) (F0 n hn).1 (F0 n hn).2 rfl (st.same ((Kp.push s _).toks _))) (Or.inl (PyProof.noPylong_small (by decide)))
theorem Cl {mg mb:Str->Option Value} {hs:List HE} {x:Str} {px:Pos} {es:List Expr} {pos:Pos} (go:jN W mg mb) (hk:lay.scope.names.lookup x=some .globalImplicit) (hd:(x==("__debug__":Str))=false) (hn:mg x=none) (hv:mb x=some (.type "range"))
  (hp:es.all bk=true) (hs':mA W P ck d lay hs es):mZ W P ck d lay (.rng hs) (.Call (.Name x px) es [] pos):=λ A T S H V s env Y K Q E rm fr st h q=>
 fN go hk hd hn hv (λ U=>dA) hp hs' rm fr st h λ vs V1 k S1 H1 vals s1 p1 p2 p3 p4=>by
  exact nQ k p3 p4 λ xs s2 r a b c t u v n k hr hsm hs hx st2=>AO st2 hr hsm hs hx λ s3 I hI st3 it=>q _ V1 _ S1 H1 s3 I [I] k rfl ⟨p1,p2,λ b hb=>aJ hb⟩ (newT st2 hI) st3 it
noncomputable def Bi (F:HV->Prop) (vs:List HV):Prop:=match vs with|[v]=>F v|_=>False
theorem HF {F:HV->Prop} {vs:List HV} (h:Bi F vs):∃v,vs=[v]/\F v:=by
 induction vs using Jo with
 |nil=>exact h.elim
 |cons v vs=>
  induction vs using Jo with
  |nil=>exact⟨v,rfl,h⟩
  |cons _ _=>exact h.elim
theorem zI {mg mb:Str->Option Value} {h0:HE} {x:Str} {px:Pos} {e:Expr} {pos:Pos} (go:jN W mg mb) (hk:lay.scope.names.lookup x=some .globalImplicit) (hd:(x==("__debug__":Str))=false) (hn:mg x=none) (hv:mb x=some (.type "enumerate"))
  (hp:bk e=true) (he:cL W P ck d lay h0 e):mZ W P ck d lay (.enum h0) (.Call (.Name x px) [e] [] pos):=λ A T S H V s env Y K Q E rm fr st h q=>by
 refine fN (hs:=[h0]) (K:=λ vs V=>Bi (H6 V λ s=>K s V) vs) go hk hd hn hv (λ U=>dA) (aD.mpr ⟨hp,rfl⟩) (gV he pY) rm fr st h ?_;intro vs V1 k S1 H1 vals s1 p1 p2 p3 p4;refine aU (HF k) λ v rq1 k=>?_;subst rq1;refine aU (dQ p4) λ U rq1 hv=>?_;subst rq1
 induction k with
 |@mk i xs hσ _ kk=>
 refine aU hv λ p hp rq1=>?_;subst rq1;refine dP (p3.obj i _ p hσ hp) λ vs n ho hv=>?_;refine call_enumerate_1 ho λ h' e1 e2 e3 e4=>?_;have hn:∀b∈[s1.heap.objs.size+1,s1.heap.objs.size],s1.heap.objs.size<=b:=λ b hb=>(aB.mp hb).elim (λ e=>e▸bG _) λ hb=>al.mp hb▸ai _;have k':Kp (λ U=>False) s1 {s1 with heap:=h'}:=⟨λ b o U e=>e4 b o e,rfl,rfl⟩;have st2:=p3.reread (k'.weak (ex':=(·∈[s1.heap.objs.size+1,s1.heap.objs.size])) λ U f=>f.elim) λ b hb=>⟨p3.S_new (hn b hb),p3.io_new (hn b hb)⟩;refine gn e2 λ o2 e5 e6 e7=>?_;exact wpAny_pyIter_enum e1 (q _ V1 _ S1 H1 _ _ _ kk rfl ⟨p1,p2,λ b hb=>aJ hb⟩ (λ b hb=>p3.T_new (hn b hb)) st2 (.enum (Nat.succ_ne_self _) hp ((bE (.head _)).trans e1) ((bE (.tail _ (.head _))).trans e5) ⟨e6,e7⟩))
end
section
variable{W:Wd} {P:bQ} {ck:bn} {d:Nat} {lay:cM} {T S:PH} {H:Io} {V:aF} {s:Shared} {A:Around} {E:Value->Shared->Prop} {env:Env} {Y:bc} {K:Frag}
theorem CS {m:Nat} {src:gz} {I:Addr} {own:List Addr} {xs:List HV} (hh:A.handled=none) (he:fY src=false) (hz:∀a b,src≠ .zip a b) (hx:∀j {F:Option HV->Prop},F xs[j]? ->jW V j F src):
  ∀(k:Nat) {T S:PH} {s:Shared} {Q:List Value->Shared->Prop},k+m<=xs.length->St W T S H V s->hU W S H T src k I own->
   (∀T' S' s' vals,ka (·∈own) T S H T' S' H->St W T' S' H V s'->hU W S' H T' src (k+m) I own->bW W S' H ((xs.drop k).take m) vals->Q vals s')->wpAny (model W.prog W.w) A (draw (.ref I) m) Q E s:=by
 induction m with
 |zero=>exact λ k {T S s Q} U st it q=>ag (q T S s [] (.refl _ T S H) st it (by rw[List.take_zero];trivial))
 |succ m ih=>
  intro k T S s Q hk st it q;have hlt:k<xs.length:=by lia
  refine af (yz st hh it he hz (hx _ (ak hlt)) λ val s' ⟨e,h1,st',it',hvv⟩=>?_);rename_i v S';cases e;refine af (av (ih (k+1) (by lia) st' it' λ T2 S2 s2 vals g g3 g4 g5=>ag ?_))
  refine q T2 S2 s2 (val::vals) (.trans ⟨h1,ax _,λ b hb=>aJ hb⟩ g) g3 (by rw[show k+(m+1)=k+1+m by lia];exact g4) ?_
  rw[List.drop_eq_getElem_cons hlt,List.take_succ_cons];exact⟨hvv.mono g.S (ax _),g5⟩
theorem re {x:HV} {N:List HV->Prop} {v:Value} {n:Nat} {Q:List Value->Shared->Prop} (st:St W T S H V s) (hh:A.handled=none) (h:cw V (λ xs=>xs.length<lim/\N xs) x) (hv:VR W S H x v) (hn:∀xs,N xs->n=xs.length)
  (q:∀xs,N xs->∀S' s' vals,cY S S'->St W T S' H V s'->bW W S' H xs vals->Q vals s'):wpAny (model W.prog W.w) A (unpackItems v n none) Q E s:=by
 have src:∃src xs,N xs/\tI V (·=src) x/\fY src=false/\(∀a b,src≠ .zip a b)/\(∀j {F:Option HV->Prop},F xs[j]? ->jW V j F src)/\∀{Q:Bool->Shared->Prop},Q false s->wpAny (model W.prog W.w) A (notIterableAtAll v) Q E s:=by
  induction h with
  |t k=>
   refine iR hv λ a vs m rq1 hS U=>?_;subst rq1;exact⟨_,_,k.2, .t k.1 rfl,rfl,λ U U e=>(nomatch e),λ j U h=> .st h,λ hQ=>af (bL (dR (st.S_ok _ _ hS)) F.slot_tuple_iter.lookup (ag hQ))⟩
  |l hσ k=>
   refine aU hv λ p hp rq1=>?_;subst rq1;refine dP (st.obj _ _ p hσ hp) λ vs m ho U=>?_;exact⟨_,_,k.2, .l hσ k.1 rfl,rfl,λ U U e=>(nomatch e),λ j U h=> .l hσ h,λ hQ=>af (bL (T:="list") ⟨_,ho,rfl⟩ F.slot_list_iter.lookup (ag hQ))⟩
 refine GE src λ src xs hN h1 he hz hx hni=>?_;have hn:=hn xs hN;subst hn;refine af (hni ?_);refine af (av (xX st h1 hv λ src' e U s1 I hI st1 it=>?_));subst e;refine af (av (CS hh he hz hx 0 (by lia) st1 it λ T2 S2 s2 vals g g3 g4 g5=>?_))
 rw[List.drop_zero,List.take_length] at g5;rw[Nat.zero_add] at g4;have hlen:=g5.length;rw[if_neg (by lia)]
 refine af (av (xb g3 hh g4 he hz (hx _ (List.getElem?_eq_none (ai _))) λ s' st'=>ag (q xs hN S2 s' vals g.S (st'.weakT λ b o e=>?_) g5)));have hb:b∉[I]:=λ hb=>bS _ (hI▸al.mp hb▸st.T_lt e);rw[b7 hb,g.T b hb,aJ hb];exact e
theorem fG {env:Env} {es:List Expr}:es.all bk=true->assignEach es env=es.map λ e=>(false,assign e env):=by
 induction es with
 |nil=>exact λ U=>rfl
 |cons e es ih=>exact λ h=>(zW (aD.mp h).1).trans (am _ (ih (aD.mp h).2))
theorem qk {x:HV} {N:List HV->Prop} {v:Value} {es:List Expr} {Q:Unit->Shared->Prop} (st:St W T S H V s) (hh:A.handled=none) (h:cw V (λ xs=>xs.length<lim/\N xs) x) (hv:VR W S H x v) (hp:es.all bk=true) (hn:∀xs,N xs->es.length=xs.length)
  (q:∀xs,N xs->∀S' s' vals,cY S S'->St W T S' H V s'->bW W S' H xs vals->wpAny (model W.prog W.w) A (assignInOrder (es.map λ e=>assign e env) vals) Q E s'):wpAny (model W.prog W.w) A (unpack v (assignEach es env)) Q E s:=by
 rw[fG hp];have h1:(es.map λ e=>(false,assign e env)).findIdx? (·.1)=none:=by
  rw[List.findIdx?_eq_none_iff];intro y hy;refine aU (cC.mp hy) λ e U rq1=>?_;subst rq1;rfl
 have h2:(es.map λ e=>(false,assign e env)).map (·.2)=es.map λ e=>assign e env:=by
  rw[List.map_map];rfl
 unfold unpack;rw[h1,h2];exact af (av (re st hh h hv (λ xs k=>by rw[List.length_map];exact hn xs k) q))
noncomputable def wJ (W:Wd) (lay:cM) (N:List Str) (t:HT) (e:Expr):Prop:=
 ∀(A:Around) (T S:PH) (H:Io) (V:aF) (s:Shared) (env:Env) (Y Y':bc) (v:HV) (val:Value) (Q:Unit->Shared->Prop) (E:Value->Shared->Prop),A.handled=none->bb W T S H lay env Y->St W T S H V s->
  fP Y t v=some Y'->VR W S H v val->
  (∀T' S' s',cY S S'->(∀b,b≠env.locals->(∀x∈N,env.kindOf x=some .cell->env.cells.lookup x≠some b)->T' b=T b)->bb W T' S' H lay env Y'->St W T' S' H V s'->Q () s')->
  wpAny (model W.prog W.w) A (assign e env val) Q E s
noncomputable def xx (W:Wd) (lay:cM) (N:List Str) (ts:List HT) (es:List Expr):Prop:=
 ∀(A:Around) (T S:PH) (H:Io) (V:aF) (s:Shared) (env:Env) (Y Y':bc) (xs:List HV) (vals:List Value) (Q:Unit->Shared->Prop) (E:Value->Shared->Prop),A.handled=none->bb W T S H lay env Y->St W T S H V s->
  jB Y ts xs=some Y'->bW W S H xs vals->
  (∀T' S' s',cY S S'->(∀b,b≠env.locals->(∀x∈N,env.kindOf x=some .cell->env.cells.lookup x≠some b)->T' b=T b)->bb W T' S' H lay env Y'->St W T' S' H V s'->Q () s')->
  wpAny (model W.prog W.w) A (assignInOrder (es.map λ e=>assign e env) vals) Q E s
theorem Cw {N:List Str} {i:Nat} {x:Str} {pos:Pos} (hx:lay.names[i]? =some x) (nd:lay.names.Nodup) (hN:x∈N):wJ W lay N (.x i) (.Name x pos):=λ A T S H V s env Y Y' v val Q E hh fr st h hv q=>by
 have h:dS Y i v=some Y':=h;refine wpAny_assign_Name (nR fr.toFrameT st h hx nd hv λ T' s' k1 k2 k3=>q T' S s' (cY.refl S) (λ b hb hc=>k1 b hb (hc x hN)) ⟨k2,fr.scope,fr.code⟩ k3)
theorem Dw {N:List Str}:xx W lay N [] []:=λ A T S H V s env Y Y' xs vals Q E hh fr st h hv q=>by
 induction xs using Jo with
 |cons x xs=>exact dX h
 |nil=>exact ag (q T S s (cY.refl S) (λ U U U=>rfl) (aA h▸fr) st)
theorem An {N:List Str} {t:HT} {ts:List HT} {e:Expr} {es:List Expr} (ht:wJ W lay N t e) (hts:xx W lay N ts es):xx W lay N (t::ts) (e::es):=λ A T S H V s env Y Y' xs vals Q E hh fr st h hv q=>by
 induction xs using Jo with
 |nil=>exact dX h
 |cons x xs=>
  induction vals using Jo with
  |nil=>exact hv.elim
  |cons val vals=>
   have h:(match fP Y t x with|some Y'=>jB Y' ts xs| .none=> .none)=some Y':=h
   induction h1:fP Y t x using Jn with
   |none=>rw[h1] at h;exact dX h
   |some Y1=>
    rw[h1] at h;refine af (m:=holding vals (assign e env val)) (f:=λ U=>assignInOrder (es.map λ e=>assign e env) vals) (av (ht A T S H V s env Y Y1 x val _ E hh fr st h1 hv.1 λ T1 S1 s1 p1 p2 p3 p4=>?_));exact hts A T1 S1 H V s1 env Y1 Y' xs vals Q E hh p3 p4 h (hv.2.mono p1 (ax _)) λ T2 S2 s2 g1 g2 g3 g4=>q T2 S2 s2 (p1.trans g1) (λ b hb hc=>(g2 b hb hc).trans (p2 b hb hc)) g3 g4
theorem vr {ts:List HT}:∀{Y Y':bc} {xs:List HV},jB Y ts xs=some Y'->ts.length=xs.length:=by
 induction ts with
 |nil=>exact λ {Y Y' xs} h=>by induction xs using Jo with|nil=>rfl|cons _ _=>exact dX h
 |cons t ts ih=>
  intro Y Y' xs h
  induction xs using Jo with
  |nil=>exact dX h
  |cons x xs=>
   have h:(match fP Y t x with|some Y'=>jB Y' ts xs| .none=> .none)=some Y':=h
   induction e:fP Y t x using Jn with
   |none=>rw[e] at h;exact dX h
   |some Y1=>rw[e] at h;exact am Nat.succ (ih h)
theorem E2 {N:List Str} {ts:List HT} {es:List Expr} {k:Nat} {pos:Pos} (hp:es.all bk=true) (hn:es.length=ts.length) (hl:ts.length<lim) (hts:xx W lay N ts es):wJ W lay N (.t ts) (.Tuple es k pos):=λ A T S H V s env Y Y' v val Q E hh fr st h hv q=>by
 cases v with
 |t xs=>
  have h:jB Y ts xs=some Y':=h;have hlen:=vr h;rw[arm_assign_Tuple];refine af (bf (qk (N:=(·=xs)) st hh (.t ⟨hlen▸hl,rfl⟩) hv hp (λ U e=>by rw[e,hn,hlen]) λ ys e S1 s1 vals p1 p2 p3=>?_))
  subst e;exact hts A T S1 H V s1 env Y Y' _ vals Q E hh (fr.mono p1 (ax _)) p2 h p3 λ T2 S2 s2 g1 g2 g3 g4=>q T2 S2 s2 (p1.trans g1) g2 g3 g4
 |_=>exact dX h
end
noncomputable def gb (h:HI) (e:Expr):Bool:=xB h==0||ix e
theorem lI {h:HI} {e:Expr} {src:gz} (k:tS src=xB h) (ok:gb h e=true):nH src e=true:=by unfold nH;rw[k];exact ok
inductive FI (W:Wd) (lay:cM) (src:gz) (body:HV->bc->aF->(bc->aF->Prop)->Prop) (N:bc->aF->Prop) (env:Env) (I:Addr) (own:List Addr) (T S:PH) (H:Io) (n:Nat) (s0:Shared):Prop
 |mk {T0 S0:PH} {H0:Io} {Y0:bc} {V0:aF} {k:Nat} (e:ka (λ b=>b∈own\/mR lay.names env b) T S H T0 S0 H0) (fr:bb W T0 S0 H0 lay env Y0) (st:St W T0 S0 H0 V0 s0) (it:hU W S0 H0 T0 src k I own) (w:mx src body n k Y0 V0 N):FI W lay src body N env I own T S H n s0
section
variable{W:Wd} {P:bQ} {ck:bn} {d:Nat} {lay:cM}
theorem uj {T S:PH} {H:Io} {V:aF} {s:Shared} {A:Around} {E:Value->Shared->Prop} {src:gz} {k:Nat} {I:Addr} {own:List Addr} {target:Expr} {F:Option HV->Prop} {Q:Option Value->Shared->Prop} (st:St W T S H V s) (hh:A.handled=none) (it:hU W S H T src k I own) (ht:nH src target=true) (hat:jW V k F src)
  (qn:F none->∀s',St W (dropT T own) S H V s'->Q none s')
  (qs:∀val s₁,wpAny (model W.prog W.w) A (letOwnedTupleGo target (.ref I) val) (λ U s'=>NR W own src k I V T S H F val s') E s₁->Q (some val) s₁):
  wpAny (model W.prog W.w) A (pyNext (.ref I)) Q E s:=by
 exact dg (se st hh it ht hat qn) (λ r s₁ h₁=>by cases r;exact h₁;exact qs _ s₁ h₁.2) λ U U h=>h
theorem EB {N0:List Str} {it:HI} {e te:Expr} {t:HT} {b:List HS} {eb:List Stmt} {pos:Pos} (hi:mZ W P ck d lay it e) (htg:wJ W lay N0 t te) (hN:∀x∈N0,x∈lay.names) (hok:gb it te=true) (hb:rQ W P ck d lay b eb)
  (hs:∀env x,foldedSetIterable e env x=pure x):ln W P ck d lay (.for_ t it b) (.For te e eb [] pos):=λ A T S H V s env Y N R Q E rm fr st hh qn qr=>by
 refine wpAny_For (hi A T S H V s env Y _ _ E rm fr st hh λ src V1 T1 S1 H1 s1 I own kk hk e1 p4 st1 it1=>?_) (hs env);obtain⟨n,hh⟩:=kk;have ap:eY lay.names env own:=(fr.mono e1.S e1.io).apartOf λ b hb=>⟨p4 b hb,it1.S_none st1 b hb⟩;have dr:∀{α S' H'},ka (λ b=>b∈own\/mR lay.names env b) T S H α S' H'->ka (mR lay.names env) T S H (dropT α own) S' H':=λ e=>⟨e.S,e.io,λ b hb=>by
  by_cases hm:b∈own
  ·rw[fI hm,p4 b hm]
  ·rw[b7 hm];exact e.T b λ h=>h.elim hm hb⟩
 refine codeAny_forLoop_any (FI W lay src (λ v Y V N=>oF (fP Y t v) λ Y=>kL P ck b Y V N R) N env I own T S H) ?_ n (.mk ⟨e1.S,e1.io,λ b hb=>e1.T b λ h=>hb (.inl h)⟩ ((fr.mono e1.S e1.io).offOwn ap e1.T) st1 it1 hh);rintro n s0 ⟨e0,fr0,st0,it0,hw⟩;rename_i T0 S0 H0 Y0 V0 k
 induction n using Jq with
 |zero=>exact hw.elim
 |succ n=>
  refine uj st0 rm.handled it0 (lI hk hok) hw (λ k s₁ st2=>wpAny_execs_nil (qn _ _ _ _ _ _ k (dr e0) (fr0.offOwn ap λ b hb=>b7 hb) st2)) λ val s₁ h₁=>?_;refine dg h₁ (λ U s₂ h₂=>?_) λ U U h=>h;obtain⟨kv,k1,k2,k3,k4⟩:=h₂;rename_i v S2;refine aU (zl kv) λ Y1 ht kb=>?_;refine htg A _ S2 H0 V0 s₂ env Y0 Y1 v val _ _ rm.handled ((fr0.mono k1 (ax _)).offOwn ap λ b hb=>aJ hb) k2 ht k4 λ T3 S3 s3 l1 l2 l3 l4=>?_;have l2':∀b,¬mR lay.names env b->T3 b=reread T0 own s₂.heap b:=λ b hb=>l2 b (λ e=>hb (.inl e)) λ x hx hk hc=>hb (.inr ⟨x,hN x hx,hk,hc⟩);have e3:ka (λ b=>b∈own\/mR lay.names env b) T S H T3 S3 H0:=e0.trans ⟨k1.trans l1,ax _,λ b hb=>(l2' b λ h=>hb (.inr h)).trans (aJ λ h=>hb (.inl h))⟩;have up:∀{T4 S4 H4},ka (mR lay.names env) T3 S3 H0 T4 S4 H4->ka (λ b=>b∈own\/mR lay.names env b) T S H T4 S4 H4:=λ e=>e3.trans ⟨e.S,e.io,λ b hb=>e.T b λ h=>hb (.inr h)⟩;exact hb A T3 S3 H0 V0 s3 env Y1 _ _ _ _ rm l3 l4 kb (λ Y2 V2 T4 S4 H4 s4 kn e4 fr4 st4=>⟨n,aI n, .mk (up e4) fr4 st4
   (((k3.mono l1 (ax _)).mono e4.S e4.io).offT λ b hb=>(e4.T b (ap.off hb)).trans (l2' b (ap.off hb))) kn⟩)
   λ v V2 T4 S4 H4 s4 val kr e4 st4 hv4=>qr _ _ (dropT T4 own) S4 H4 s4 val kr (dr (up e4)) (st4.weakT (ma _ _)) hv4
end
noncomputable def du (W:Wd) (T S:PH) (H:Io) (ho:HO) (L:Addr):Prop:=∃o,T L=some o/\OR W S H ho (L,0) (some o)
noncomputable def C0 (W:Wd) {Z:Type} (d:Nat) (lay:cM) (ho:Z->HO) (step:bc->aF->Z->(bc->aF->Z->Prop)->Prop) (emit:Env->Addr->Sem Unit):Prop:=
 ∀(A:Around) (T S:PH) (H:Io) (V:aF) (s:Shared) (env:Env) (Y:bc) (b:Z) (N:bc->aF->Z->Prop) (L:Addr) (Q:Unit->Shared->Prop) (E:Value->Shared->Prop),Rm d A->bb W T S H lay env Y->eY lay.names env [L]->St W T S H V s->
  du W T S H (ho b) L->step Y V b N->
  (∀Y' V' b' T' S' H' s',N Y' V' b'->ka (λ c=>c=L\/c=env.locals) T S H T' S' H'->bb W T' S' H' lay env Y'->St W T' S' H' V' s'->du W T' S' H' (ho b') L->Q () s')->
  wpAny (model W.prog W.w) A (emit env L) Q E s
section
variable{W:Wd} {P:bQ} {ck:bn} {d:Nat} {lay:cM} {T S:PH} {H:Io} {V:aF} {s:Shared} {A:Around} {E:Value->Shared->Prop}
theorem du.mono {S':PH} {H':Io} {ho:HO} {L:Addr} (h:du W T S H ho L) (hS:cY S S') (hι:H<+:H'):du W T S' H' ho L:=
 aU h λ o e r=>⟨o,e,r.mono hS hι⟩
theorem du.off {T':PH} {ho:HO} {L:Addr} (h:du W T S H ho L) (e:T' L=T L):du W T' S H ho L:=
 let⟨o,q,r⟩:=h;⟨o,e.trans q,r⟩
theorem yk {α:List Expr} {env:Env} {Q:Bool->Shared->Prop} (q:Q false s):wpAny (model W.prog W.w) A (forIn α false λ c r=>if r=true then do let ok <- isTrue c env (eval c env);pure (ForInStep.yield ok) else pure (ForInStep.yield r)) Q E s:=by
 induction α with
 |nil=>exact ag q
 |cons e es ih=>
  rw[List.forIn_cons];exact af (ag ih)
theorem AI {hs:List HE} {es:List Expr} (hb:kc W P ck d lay hs es) {A:Around} {T:PH} {env:Env} {Y:bc} {α ρ:aF->Prop} {E:Value->Shared->Prop} (rm:Rm d A):∀{S:PH} {H:Io} {V:aF} {s:Shared} {Q:Bool->Shared->Prop},bb W T S H lay env Y->St W T S H V s->
  fW P ck hs Y V α ρ->(∀b V' S' H' s',(match b with|true=>α V'|false=>ρ V')->cY S S'->H<+:H'->St W T S' H' V' s'->Q b s')->
  wpAny (model W.prog W.w) A (forIn es true λ c r=>if r=true then do let ok <- isTrue c env (eval c env);pure (ForInStep.yield ok) else pure (ForInStep.yield r)) Q E s:=by
 induction hb with
 |nil=>exact λ {S H V s Q} U st h q=>ag (q true _ S H s h (cY.refl S) (ax _) st)
 |@cons x e xs es hx _ ih=>
  intro S H V s Q fr st h q;rw[List.forIn_cons];refine wb (wy rfl (wb (hx A T S H V s env Y _ _ E rm fr st h λ v V1 k=>?_)));refine aU (xk k) λ b rq1 k=>?_;subst rq1;refine⟨b,rfl,λ S1 H1 s1 p1 p2 p3=>ag ?_⟩;cases b
  ·exact yk (q false _ S1 H1 s1 k p1 p2 p3)
  ·exact ih (fr.mono p1 p2) p3 k λ b V2 S2 H2 s2 k2 g1 g2 g3=>q b V2 S2 H2 s2 k2 (p1.trans g1) (p2.trans g2) g3
inductive gd:Expr->Prop
 |l {a b c p}:gd (.ListComp a b c p)
 |d {a b c e p}:gd (.DictComp a b c e p)
theorem He {e:Expr} {n:Nat} {i l:Value} {env:Env} {M:Program} {w:World} {A:Around} {Q:Fin->Shared->Prop} {E:Value->Shared->Prop} {s:Shared} (he:gd e) (hx:wpAny (model M w) A (compTurn e n i l env) Q (notedBy (model M w) A env E) s):wpAny (model M w) (A.under (.compLoop e n i l env)) ((model M w).den (.compLoop e n i l env)) Q E s:=by
 have h:wpAny (model M w) A ((compTurn e n i l env).onRaise (λ x=>do noteFrame x env;theTreesLotGoes x)) Q E s:=wpAny_noted hx
 rcases he with _|_<;>exact h
theorem Hk {e:Expr} {n:Nat} {i l:Value} {env:Env} {M:Program} {w:World} {A:Around} {Q:Fin->Shared->Prop} {E:Value->Shared->Prop} {s:Shared} (he:gd e) (hx:wpAny (model M w) A (compStart e n i l env) Q (notedBy (model M w) A env E) s):wpAny (model M w) (A.under (.compStart e n i l env)) ((model M w).den (.compStart e n i l env)) Q E s:=by
 have h:wpAny (model M w) A ((compStart e n i l env).onRaise (λ x=>do noteFrame x env;standAt theWindowsPlace)) Q E s:=wpAny_notedAt hx
 rcases he with _|_<;>exact h
theorem Ih {e:Expr} {n:Nat} {i l:Value} {env:Env} (he:gd e):(Code.compLoop e n i l env).quiet=true:=by rcases he with _|_<;>rfl
noncomputable def yt (P:bQ) (ck:bn) (t:HT) (ifs:List HE) {Z:Type} (step:bc->aF->Z->(bc->aF->Z->Prop)->Prop) (v:HV) (Y:bc) (V:aF) (acc:Z) (K:bc->aF->Z->Prop):Prop:=
 oF (fP Y t v) λ ρ₁=>fW P ck ifs ρ₁ V (λ σ₁=>step ρ₁ σ₁ acc K) (λ σ₁=>K ρ₁ σ₁ acc)
inductive CI (W:Wd) {Z:Type} (lay:cM) (ho:Z->HO) (src:gz) (body:HV->bc->aF->Z->(bc->aF->Z->Prop)->Prop) (N:bc->aF->Z->Prop) (env:Env) (L I:Addr) (own:List Addr) (T S:PH) (H:Io) (n:Nat) (s0:Shared):Prop
 |mk {T0 S0:PH} {H0:Io} {Y0:bc} {V0:aF} {b0:Z} {k:Nat} (e:ka (λ c=>c∈own\/c=L\/c=env.locals) T S H T0 S0 H0) (fr:bb W T0 S0 H0 lay env Y0) (st:St W T0 S0 H0 V0 s0) (it:hU W S0 H0 T0 src k I own) (ac:du W T0 S0 H0 (ho b0) L) (w:eA src body n k Y0 V0 b0 N):CI W lay ho src body N env L I own T S H n s0
theorem nG {Z:Type} {ho:Z->HO} {step:bc->aF->Z->(bc->aF->Z->Prop)->Prop} {emit:Env->Addr->Sem Unit} {N0:List Str} {t:HT} {te:Expr} {ifs:List HE} {es:List Expr} {e:Expr} {depth:Nat} {p:Pos} (htg:wJ W lay N0 t te) (hNl:∀x∈N0,lay.scope.names.lookup x=some .local)
  (hif:kc W P ck d lay ifs es) (hem:C0 W d lay ho step emit) (he:gd e) (hturn:∀it env L,compTurn e depth it (.ref L) env=(do
   standAt p
   match <- pyNext it with
   |none=>pure (.done .next)
   |some v=>
    letOwnedTupleGo te it v
    assign te env v
    let mut ok:=true
    for c in es do
     if ok then ok <- isTrue c env (eval c env)
    if ok then emit env L
    again (.compLoop e depth it (.ref L) env)))
  {A:Around} {T S:PH} {H:Io} {V:aF} {s:Shared} {env:Env} {Y:bc} {b:Z} {N:bc->aF->Z->Prop} {L I:Addr} {own:List Addr} {src:gz} {k n:Nat} {R:Result->Shared->Prop} (rm:Rm d A) (fr:bb W T S H lay env Y) (apL:eY lay.names env [L]) (hL:L∉own) (apO:eY lay.names env own)
  (hok:nH src te=true) (st:St W T S H V s) (it:hU W S H T src k I own) (ha:du W T S H (ho b) L) (h:eA src (yt P ck t ifs step) n k Y V b N)
  (q:∀Y' V' b' T' S' H' s',N Y' V' b'->ka (λ c=>c∈own\/c=L\/c=env.locals) T S H T' S' H'->(∀c∈own,T' c=none)->bb W T' S' H' lay env Y'->St W T' S' H' V' s'->du W T' S' H' (ho b') L->R (.ok .next) s'):
  codeAny (model W.prog W.w) A (.compLoop e depth (.ref I) (.ref L) env) R s:=by
 refine codeAny_loop (Ih he) (CI W lay ho src (yt P ck t ifs step) N env L I own T S H) ?_ n (.mk (.refl _ T S H) fr st it ha h);rintro n s0 ⟨e0,fr0,st0,it0,ha0,hw⟩;rename_i T0 S0 H0 Y0 V0 b0 k;refine He he ?_;rw[hturn]
 induction n using Jq with
 |zero=>exact hw.elim
 |succ n=>
  refine af (bf (af (uj st0 rm.handled it0 hok hw (λ kn s₁ st2=>ag (q _ _ _ (dropT T0 own) S0 H0 s₁ kn (e0.trans ⟨cY.refl _,ax _,λ c hc=>b7 λ h=>hc (.inl h)⟩) (λ c hc=>fI hc) (fr0.offOwn apO λ b hb=>b7 hb) st2 (ha0.off (b7 hL)))) λ val s₁ h₁=>?_)));refine af (dg h₁ (λ U s₂ h₂=>?_) λ U U h=>h);obtain⟨kv,k1,k2,k3,k4⟩:=h₂;rename_i v S2;refine aU (zl kv) λ Y1 ht kb=>?_;refine af (htg A _ S2 H0 V0 s₂ env Y0 Y1 v val _ _ rm.handled ((fr0.mono k1 (ax _)).offOwn apO λ b hb=>aJ hb) k2 ht k4 λ T3 S3 s3 l1 l2 l3 l4=>?_);have l2':∀b,b≠env.locals->T3 b=reread T0 own s₂.heap b:=λ b hb=>l2 b hb λ x hx hk hc=>by
   have hk:env.scope.names.lookup x=some .cell:=hk;rw[l3.scope,hNl x hx] at hk;exact nomatch hk
  have hLl:L≠env.locals:=λ e=>apL.1 (e▸ .head _);have ownl:∀b∈own,b≠env.locals:=λ b hb e=>apO.1 (e▸hb);have e3:ka (λ c=>c∈own\/c=L\/c=env.locals) T S H T3 S3 H0:=e0.trans ⟨k1.trans l1,ax _,λ c hc=>(l2' c λ e=>hc (.inr (.inr e))).trans (aJ λ h=>hc (.inl h))⟩;have acc3:du W T3 S3 H0 (ho b0) L:=((ha0.mono (k1.trans l1) (ax _)).off ((l2' L hLl).trans (aJ hL)));have it3:hU W S3 H0 T3 src (k+1) I own:=(k3.mono l1 (ax _)).offT λ b hb=>l2' b (ownl b hb);refine af (AI hif rm l3 l4 kb λ ok V2 S4 H4 s4 k4 m1 m2 m3=>?_)
  induction ok using Jp with
  |false=>exact ag ⟨rfl,n,aI n, .mk (e3.trans (.of m1 m2)) (l3.mono m1 m2) m3 (it3.mono m1 m2) (acc3.mono m1 m2) k4⟩
  |true=>exact af (hem A T3 S4 H4 V2 s4 env Y1 b0 _ L _ _ rm (l3.mono m1 m2) apL m3 (acc3.mono m1 m2) k4 λ Y5 V5 b5 T6 S6 H6 s6 k6 e6 fr6 st6 ac6=>ag ⟨rfl,n,aI n, .mk ((e3.trans (.of m1 m2)).trans ⟨e6.S,e6.io,λ c hc=>e6.T c λ h=>hc (.inr h)⟩) fr6 st6
    (((it3.mono m1 m2).mono e6.S e6.io).offT λ b hb=>e6.T b λ h=>h.elim (λ e=>hL (e▸hb)) (ownl b hb)) ac6 k6⟩)
end
section
variable{W:Wd} {P:bQ} {ck:bn} {d:Nat} {lay:cM}
theorem Bo {h:HE} {elt:Expr} (he:cL W P ck d lay h elt):C0 W d lay HO.list (cW P ck (.elt h)) (λ env L=>do let _ <- call (.builtin "list.append") [.ref L,<- eval elt env]):=λ A T S H V s env Y b N L Q E rm fr apL st ha hs q=>by
 refine af (he A T S H V s env Y _ _ E rm fr st hs λ v V1 k S1 H1 val s1 p1 p2 p3 p4=>?_);refine cO k λ hl k=>?_;refine aU (ha.mono p1 p2) λ o hT hz2=>?_;refine dP hz2 λ us n e r=>?_;have hT:T L=some (dY us n):=hT.trans e;have ho:=p3.T_ok _ _ hT;rw[r.length] at hl;refine af (call_meets F.slot_list_append ⟨_,ho,rfl⟩ F.entry_list_append (F.args_list_append_2 _ _) (list_append L us.toArray n val (by rw[List.size_toArray,sizeLine_eq];unfold lim at hl;lia)) ⟨ho,?_⟩)
 have st2:=p3.reread (Kp.update s1 L (Obj.mapSeq (·.push val)) s1.toks).one (p3.ownT (own:=[L]) λ b hb=>⟨_,al.mp hb▸hT⟩);refine ag (q _ _ _ _ S1 H1 _ k ⟨p1,p2,λ c hc=>aJ λ h=>hc (.inl (al.mp h))⟩ ((fr.mono p1 p2).offOwn apL λ b hb=>aJ hb) st2 ⟨_,Ae ?_,us++[val],n+1,rfl,bW.snoc r p4⟩);rw[Heap.get?_update_self _ ho rfl];exact am some wI
theorem yr {A:Around} {T S:PH} {H:Io} {V:aF} {s:Shared} {b:List (HV×HV)} {L:Addr} {k v:HV} {key u:Value} {Q:Unit->Shared->Prop} {E:Value->Shared->Prop} (st:St W T S H V s) (hu:A.units+8<cLine) (hk:bp k b=true) (hl:b.length<lim) (ha:du W T S H (.dict b) L) (vk:VR W S H k key) (vv:VR W S H v u)
  (q:∀T' s',(∀c,c≠L->T' c=T c)->St W T' S H V s'->du W T' S H (.dict (dC k v b)) L->Q () s'):wpAny (model W.prog W.w) A (dictSet L key u) Q E s:=by
 refine aU ha λ o hT hz2=>?_;refine Eg hz2 λ es n e dr hn pw hall=>?_;cases e;have ho:=st.T_ok _ _ hT;have hown:=st.ownT (own:=[L]) λ b hb=>by rw[List.mem_singleton] at hb;subst hb;exact⟨_,hT⟩
 have fin:∀(f:Obj->Obj) (tk:Nat),OR W S H (.dict (dC k v b)) (L,0) ((s.heap.update L f).get? L)->Q () {s with heap:=s.heap.update L f,toks:=tk}:=λ f tk h=>by
  have st2:=st.reread (Kp.update s L f tk).one hown;refine ce h.isS λ x hx=>?_;refine q (reread T [L] (s.heap.update L f)) _ (λ c c1=>aJ (by simpa using c1)) st2 ⟨x,?_,?_⟩
  ·rw[bE (by simp)];exact hx
  ·rw[<- hx];exact h
 refine av (wb (qz 8 hu (eK hk).1 vk st.S_ok ?_));refine av (wb (ub (s:={s with toks:=_}) hu hk vk st.S_ok ho dr pw hall ?_))
 induction h:gw k b using Jn with
 |none=>
  refine wb (bO (wpAny_updateDictKeys (s:={s with toks:=_}) ho rfl (fin _ _ (OR.putD dr hn pw hall hk vk vv ?_)) ?_))
  ·rw[h];have:=cf (Obj.mapDictKeys (·.push ⟨dp W k,key,u⟩)) ho rfl;rw[this];exact am some yH
  ·have:=mL;rw[List.size_toArray,<- dr.length];lia
 |some j=>
  refine af (bO (af (wpAny_updateDict (s:={s with toks:=_}) ho rfl (wpAny_point (fin _ _ (OR.putD dr hn pw hall hk vk vv ?_))))));rw[h];have:=cf (Obj.mapDict (·.modify j λ e=>{e with val:=u})) ho rfl;rw[this];exact am some EX
noncomputable def Bh (P:bQ) (ck:bn) (ke ve:HE):bc->aF->List (HV×HV)->(bc->aF->List (HV×HV)->Prop)->Prop:=λ ρ₁ σ₁ acc K'=>
 eW P ck ke ρ₁ σ₁ λ kv σ₂=>eW P ck ve ρ₁ σ₂ λ vv σ₃=>(bp kv acc&&acc.length<lim)=true/\K' ρ₁ σ₃ (dC kv vv acc)
theorem C7 {hk hv:HE} {kx vx:Expr} (he:cL W P ck d lay hk kx) (he':cL W P ck d lay hv vx):C0 W d lay HO.dict (Bh P ck hk hv) (λ env L=>do
  let kv <- eval kx env
  let vv <- holding [kv] (eval vx env)
  standAt {kx.pos with endLine:=vx.pos.endLine,endCol:=vx.pos.endCol}
  holding [kv,vv] (dictSet L kv vv)):=λ A T S H V s env Y b N L Q E rm fr apL st ha hs q=>by
 refine wb (he A T S H V s env Y _ _ E rm fr st hs λ k V1 k1 S1 H1 key s1 p1 p2 p3 p4=>?_);refine wb (av (he' A T S1 H1 V1 s1 env Y _ _ E rm (fr.mono p1 p2) p3 k1 λ v V2 k2 S2 H2 u s2 g1 g2 g3 g4=>?_));refine cO k2 λ hc k2=>?_;rw[Bool.and_eq_true,decide_eq_true_eq] at hc;refine wb (bf (av (yr g3 (GW rfl rm.units) hc.1 hc.2 (ha.mono (p1.trans g1) (p2.trans g2)) (p4.mono g1 g2) g4 λ T' s' e st' ha'=>?_)));exact q _ _ _ T' S2 H2 s' k2 ⟨p1.trans g1,p2.trans g2,λ c hc=>e c λ h=>hc (.inl h)⟩ ((fr.mono (p1.trans g1) (p2.trans g2)).offOwn apL λ b hb=>e b λ h=>hb (h▸ .head _)) st' ha'
theorem lB {e:Expr} {depth:Nat} {g:Comprehension} {it acc:Value} {env:Env} {A:Around} {R:Result->Shared->Prop} {s:Shared} (he:gd e) (hg:(clausesOf e)[depth]? =some g) (ha:g.is_async=0)
  (h0:codeAny (model W.prog W.w) A (.compLoop e depth it acc env) R s)
  (h:wpAny (model W.prog W.w) A (pyIter it) (λ it' s'=>codeAny (model W.prog W.w) A (.compLoop e depth it' acc env) R s') (notedBy (model W.prog W.w) A env λ x s'=>R (.error x) s') s):
  codeAny (model W.prog W.w) A (.compStart e depth it acc env) R s:=by
 refine codeAny_of_tree (Hk he ?_);unfold compStart;rw[hg];simp only[Option.elim,ha];refine wb (wpAny_askSetting (wpAny_ite ?_))
 split
 ·exact fm (ag (And.intro (Ih he) h0))
 ·refine wb (bO ?_);refine wb (bf (wb (dg h (λ it' s' h'=>ag (And.intro (Ih he) h')) λ U U x=>x)))
end
noncomputable def gT (scope outer:Scope):Scope:=
 {scope with names:=scope.names.map λ (n,k)=>if(k== .free&&outer.kind== .function&&outer.names.lookup n==some .cell) then(n, .cell) else(n,k)}
theorem sK (scope:Scope) (env:Env):relabel scope env=gT scope env.scope:=rfl
theorem gr {scope outer:Scope} {x:Str}:(gT scope outer).names.lookup x=(scope.names.lookup x).map λ k=>if(k== .free&&outer.kind== .function&&outer.names.lookup x==some .cell) then .cell else k:=by
 unfold gT;dsimp only
 induction scope.names with
 |nil=>rfl
 |cons p r ih=>
  obtain⟨n,k⟩:=p;have key:∀(y:Str) (q:Bool) (k:NameKind) (l:List (Str×NameKind)),List.lookup x ((if q=true then(y,NameKind.cell) else(y,k))::l)=if(x==y)=true then some (if q=true then .cell else k) else List.lookup x l:=by
   intro y q k l;rcases q with _|_<;>cases hx:x==y<;>simp[List.lookup_cons,hx]
  rw[List.map_cons];refine(key n _ k _).trans ?_;rw[List.lookup_cons]
  induction hx:x==n using Jp with
  |true=>
   have hn:x=n:=by simpa using hx
   subst hn;rw[if_pos rfl];rfl
  |false=>
   rw[if_neg (by simp)]
   exact ih
structure mJ (lay:cM) (scope:Scope) (names':List Str) (nl:Nat) (cs:List Nat):Prop where
 layok:lX names' scope nl cs.length
 loc:∀i x,i<nl->names'[i]? =some x->scope.names.lookup x=some .local
 capd:∀j i x,cs[j]? =some i->names'[nl+j]? =some x->lay.names[i]? =some x
 capk:∀x∈names'.drop nl,lay.scope.names.lookup x≠some .local
 free:∀p∈scope.names,p.2= .free->p.1∈names'.drop nl
 names:∀x∈scope.names,x.2= .local->scope.names.lookup x.1=some .local
section
variable{W:Wd} {P:bQ} {ck:bn} {d:Nat} {lay:cM} {T S:PH} {H:Io} {V:aF} {s:Shared} {A:Around} {E:Value->Shared->Prop}
theorem tc {env:Env} (f:Str×NameKind->List (Str×Addr)->Sem (ForInStep (List (Str×Addr)))) (hf:∀n k cs,f (n,k) cs=if(k==NameKind.free)=true then(cellOf env n>>=λ c=>pure (ForInStep.yield ((n,c)::cs))) else pure (ForInStep.yield cs)):
  ∀(names:List (Str×NameKind)) (acc:List (Str×Addr)),(∀p∈names,p.2= .free->∃c,env.cells.lookup p.1=some c)->
  ∃cl,(forIn names acc f:Sem (List (Str×Addr)))=pure cl/\
   (∀x,(∀k,(x,k)∈names->k≠ .free)->cl.lookup x=acc.lookup x)/\(∀x,(x,NameKind.free)∈names->cl.lookup x=env.cells.lookup x):=by
 intro l_
 induction l_ with
 |nil=>
  intro acc _;exact⟨acc,rfl,λ U U=>rfl,λ x h=>by simp at h⟩
 |cons p_ r ih=>
  rcases p_ with⟨n,k⟩;intro acc h;rw[List.forIn_cons,hf]
  induction hk:k==NameKind.free using Jp with
  |false=>
   refine gn (ih acc λ p hp=>h p (.tail _ hp)) λ cl h1 h2 h3=>?_;have hkf:k≠ .free:=by simpa using hk
   refine⟨cl,by simp only[Bool.false_eq_true,if_false];exact h1,λ x hx=>h2 x λ k hk=>hx k (.tail _ hk),λ x hx=>?_⟩
   rcases aB.mp hx with e|hx
   ·cases e;exact aN rfl hkf
   ·exact h3 x hx
  |true=>
   have hkf:k= .free:=by simpa using hk
   subst hkf;obtain⟨c,hc⟩:=h (n, .free) (.head _) rfl;refine gn (ih ((n,c)::acc) λ p hp=>h p (.tail _ hp)) λ cl h1 h2 h3=>?_;refine⟨cl,?_,λ x hx=>?_,λ x hx=>?_⟩
   ·skip;have:cellOf env n=pure c:=by
     unfold cellOf;dsimp only at hc;rw[hc]
    exact this.symm▸h1
   ·have hne:(x==n)=false:=by
     rw[beq_eq_false_iff_ne];rintro rfl;exact hx .free (.head _) rfl
    rw[h2 x λ k hk=>hx k (.tail _ hk),List.lookup_cons,hne]
   ·rcases aB.mp hx with e|hx
    ·injection e with e1 e2;subst e1;by_cases hm:(x,NameKind.free)∈r
     ·exact h3 x hm
     ·rw[h2 x λ k hk e=>by subst e;exact hm hk,List.lookup_cons]
      simp;exact hc.symm
    ·exact h3 x hx
theorem nx {scope:Scope} {env:Env} (h:∀p∈scope.names,p.2= .free->∃c,env.cells.lookup p.1=some c):
  ∃cl,closureFor scope env=pure cl/\∀x,(x,NameKind.free)∈scope.names->cl.lookup x=env.cells.lookup x:=by
 have:=tc (env:=env) (λ x r=>match x with
  |(name,kind)=>if(kind==NameKind.free)=true then(cellOf env name>>=λ c=>pure (ForInStep.yield ((name,c)::r))) else pure (ForInStep.yield r)) (λ U U U=>rfl) scope.names [] h
 refine gn this λ cl h1 U h3=>?_;refine⟨cl,?_,h3⟩;have e:closureFor scope env=(forIn scope.names [] (λ (x:Str×NameKind) (r:List (Str×Addr))=>match x with
  |(name,kind)=>if(kind==NameKind.free)=true then(cellOf env name>>=λ c=>pure (ForInStep.yield ((name,c)::r))) else pure (ForInStep.yield r))>>=λ cs=>pure cs:Sem (List (Str×Addr))):=rfl
 rw[e,h1];rfl
theorem lG {names:List (Str×NameKind)} {x:Str} {k:NameKind} (h:names.lookup x=some k):(x,k)∈names:=mem_of_lookup h
theorem FrameT.relab {names:List Str} {env cenv:Env} {Y:bc} (h:FrameT W T S H names cenv Y):FrameT W T S H names {cenv with scope:=relabel cenv.scope env} Y:=by
 have hk:∀x,Env.kindOf {cenv with scope:=relabel cenv.scope env} x=(cenv.kindOf x).map λ k=>if(k== .free&&env.scope.kind== .function&&env.scope.names.lookup x==some .cell) then .cell else k:=λ x=>gr
 have hl:∀x,cenv.kindOf x=some .local->Env.kindOf {cenv with scope:=relabel cenv.scope env} x=some .local:=λ x e=>by rw[hk,e];rfl
 have hc:∀x,cenv.kindOf x=some .cell->Env.kindOf {cenv with scope:=relabel cenv.scope env} x=some .cell:=λ x e=>by rw[hk,e];rfl
 have hf:∀x,cenv.kindOf x=some .free->Env.kindOf {cenv with scope:=relabel cenv.scope env} x=some .cell\/Env.kindOf {cenv with scope:=relabel cenv.scope env} x=some .free:=λ x e=>by
  rw[hk,e];simp only[Option.map_some]
  split
  ·exact .inl rfl
  ·exact .inr rfl
 refine⟨h.kind,h.globals,h.builtins,h.len,λ x hx y hy k1 k2=>h.apart x hx y hy (λ e=>k1 (hl x e)) (λ e=>k2 (hl y e)),dL h.ns λ o m a b c=>⟨o,m,a,b,λ i x sv e1 e2=>?_⟩⟩;have r:=c i x sv e1 e2;cases sv with
 |empty=>
  rcases r with r|⟨r,r2⟩
  ·exact .inl (hl x r)
  ·exact .inr ⟨hc x r,r2⟩
 |val v=>
  rcases r with⟨r,r2⟩|⟨r,r2⟩
  ·exact .inl ⟨hl x r,r2⟩
  ·exact .inr ⟨hc x r,r2⟩
 |ro v=>
  refine cO r λ r r2=>?_;rcases r with r|r
  ·exact⟨.inl (hc x r),r2⟩
  ·exact⟨hf x r,r2⟩
theorem BA {Y:bc} {i:Nat} {r:List Nat} {l:List HV} (h:caps Y (i::r)=some l):∃v l',sC Y i=some v/\caps Y r=some l'/\v::l'=l:=by
 have h:(match sC Y i,caps Y r with|some v,some l=>some (v::l)|_,_=> .none)=some l:=h
 revert h;rcases sC Y i with _|v
 ·exact dX
 ·rcases caps Y r with _|l'
  ·exact dX
  ·exact λ h=>⟨v,l',rfl,rfl,aA h⟩
theorem Cv {env:Env} {Y:bc} {cl:List (Str×Addr)} (fr:bb W T S H lay env Y) {cs:List Nat}:∀{vs:List HV} {xs:List Str},caps Y cs=some vs->xs.length=cs.length->(∀(j i:Nat) (x:Str),cs[j]? =some i->xs[j]? =some x->lay.names[i]? =some x)->
  (∀x∈xs,lay.scope.names.lookup x≠some .local)->(∀x∈xs,cl.lookup x=env.cells.lookup x)->CT W T S H vs (xs.map λ x=>cl.lookup x):=by
 induction cs with
 |nil=>
  intro vs xs h hl _ _ _;rw[List.length_eq_zero_iff.mp hl,<- Option.some.inj h];trivial
 |cons i cs ih=>
  intro vs xs h hl hx hk hcl;rcases xs with _|⟨x,xs⟩
  ·exact nomatch hl
  ·refine dL (BA h) λ v l h1 h2 e=>?_;subst e;have ih:=ih h2 (Nat.succ.inj hl) (λ j i y a b=>hx (j+1) i y a b) (λ y hy=>hk y (.tail _ hy)) λ y hy=>hcl y (.tail _ hy);refine dL fr.ns λ o m U U hs=>?_;have hxi:=hx 0 i x rfl rfl;have hkx:env.kindOf x≠some .local:=by unfold Env.kindOf;rw[fr.scope];exact hk x (.head _)
   rw[List.map_cons,hcl x (.head _)];rcases Bu h1 with hr|hr
   ·rcases hs i x _ hxi hr with⟨q,_⟩|⟨_,c,u,e1,e2,e3⟩
    ·exact aN q hkx
    ·rw[e1];exact⟨⟨u, .inr e2,e3⟩,ih⟩
   ·refine cO (hs i x _ hxi hr) λ _ hz1=>?_;refine dL hz1 λ c u e1 e2 e3=>?_;rw[e1];exact⟨⟨u,e2,e3⟩,ih⟩
end
noncomputable def bK (lay:cM) (scope:Scope) (names':List Str):cM:=⟨names',gT scope lay.scope,none⟩
noncomputable def iD (e:Expr) (depth:Nat) (te:Expr) (es:List Expr) (emit:Env->Addr->Sem Unit):Prop:=∃p:Pos,∀it env L,compTurn e depth it (.ref L) env=(do
   standAt p
   match <- pyNext it with
   |none=>pure (.done .next)
   |some v=>
    letOwnedTupleGo te it v
    assign te env v
    let mut ok:=true
    for c in es do
     if ok then ok <- isTrue c env (eval c env)
    if ok then emit env L
    again (.compLoop e depth it (.ref L) env))
section
variable{W:Wd} {P:bQ} {ck:bn} {d:Nat} {lay:cM} {T S:PH} {H:Io} {V:aF} {s:Shared} {A:Around} {E:Value->Shared->Prop}
theorem pj {scope:Scope} {L g:Addr} {n:Nat} {cl:List (Str×Addr)} {qual:Str} {func:Option Addr} {code:Value} {around:Option Env} {b:Addr} {x:Str} (h:(cellsFrom 0 scope.names []).lookup x=none):
  (newEnv scope L g (cellsFrom n scope.names cl) qual func code around b).cells.lookup x=cl.lookup x:=by
 have e:(newEnv scope L g (cellsFrom n scope.names cl) qual func code around b).cells=cellsFrom n scope.names cl:=by rcases around with _|_<;>rfl
 rw[e,cX,d8];have:=gu (x:=x) scope.names n 0;rw[h] at this
 induction q:(cellsFrom n scope.names []).lookup x using Jn with
 |none=>rw[Option.none_or]
 |some c=>rw[q] at this;cases this
theorem yo {Y:bc} {cs:List Nat}:∀{vs:List HV},caps Y cs=some vs->vs.length=cs.length:=by
 induction cs with
 |nil=>exact λ h=>aA h▸rfl
 |cons i cs ih=>exact λ h=>dL (BA h) λ v l U h2 e=>e▸am Nat.succ (ih h2)
theorem lO {Z:Type} {ho:Z->HO} {b₀:Z} {oacc:Obj} {step:bc->aF->Z->(bc->aF->Z->Prop)->Prop} {emit:Env->Addr->Sem Unit} {N0 names':List Str} {nl:Nat} {cs:List Nat} {t:HT} {te ite:Expr} {it:HI} {ifs:List HE} {es:List Expr} {gs:List Comprehension} {scope:Scope} {e:Expr} {pos:Pos} {newAcc:Sem Value}
  (co:mJ lay scope names' nl cs) (hcl:clausesOf e=⟨te,ite,es,0⟩::gs) (hi:mZ W P ck d lay it ite) (hs:∀env x,foldedSetIterable ite env x=pure x) (htg:wJ W (bK lay scope names') N0 t te) (hNl:∀x∈N0,(bK lay scope names').scope.names.lookup x=some .local)
  (hok:gb it te=true) (hif:kc W P ck d (bK lay scope names') ifs es) (hem:C0 W d (bK lay scope names') ho step emit) (he:gd e) (hturn:iD e 0 te es emit)
  (hacc:∀(A:Around) (s:Shared) (Q:Value->Shared->Prop) (E:Value->Shared->Prop),Q (.ref s.heap.objs.size) {s with heap:=s.heap.push oacc}->wpAny (model W.prog W.w) A newAcc Q E s) (hfr:oacc.isFreed=false) (hoa:∀S H L,OR W S H (ho b₀) (L,0) (some oacc))
  {env:Env} {Y:bc} {N:bc->aF->Z->Prop} {use:Option (Value->Sem Unit)} {Q:Value->Shared->Prop} (rm:Rm d A) (fr:bb W T S H lay env Y) (st:St W T S H V s)
  (h:iW P ck it Y V λ src V1=>oF (caps Y cs) λ vs=>∃n,eA src (yt P ck t ifs step) n 0 (List.replicate nl SV.empty++vs.map SV.ro) V1 b₀ N)
  (q:∀Y' V2 b' T' S' H' s' C L,N Y' V2 b'->ka (·=C) T S H T' S' H'->T C=none->(∃o m,T' C=some o/\lE o m)->St W T' S' H' (V2++[ho b']) s'->VR W S' H' (.ref V2.length) (.ref L)->
   compPost (model W.prog W.w) A E use Q (.ref L) C (.ok .next) s'):
  wpAny (model W.prog W.w) A (comprehension e scope env pos newAcc false (eval ite env) use) Q E s:=by
 have dropF:∀x∈names'.drop nl,scope.names.lookup x=some .free/\(cellsFrom 0 scope.names []).lookup x=none:=λ x hx=>by
  refine ce (ba.mp hx) λ j hj=>?_;rw[List.getElem?_drop] at hj;exact co.layok.free _ x (ay _ _) hj
 have dropL:∀j x,(names'.drop nl)[j]? =some x->∃i,cs[j]? =some i/\lay.names[i]? =some x:=λ j x hj=>by
  rw[List.getElem?_drop] at hj;have hlt:=(ao.mp hj).1;rw[co.layok.len] at hlt;have:cs[j]? =some (cs[j]'(by lia)):=ak _
  exact⟨_,this,co.capd j _ x this hj⟩
 have dropK:∀x∈names'.drop nl,x∈lay.names/\env.kindOf x≠some .local:=λ x hx=>by
  refine ce (ba.mp hx) λ j hj=>?_;refine aU (dropL j x hj) λ i U hi=>?_;exact⟨ar hi,by unfold Env.kindOf;rw[fr.scope];exact co.capk x hx⟩
 have cells:∀x∈names'.drop nl,∃c,env.cells.lookup x=some c:=λ x hx=>by
  refine ce (ba.mp hx) λ j hj=>?_;refine aU (dropL j x hj) λ i hci hli=>?_;have hk:=(dropK x hx).2;refine dL fr.ns λ o m U U hsl=>?_;have hil:i<Y.length:=by rw[fr.len];exact(ao.mp hli).1
  exact(eD.cell (hsl i x _ hli (ak hil)) hk).imp λ U h=>h.choose_spec.1
 refine aU (nx (scope:=scope) (env:=env) λ p hp hf=>cells p.1 (co.free p hp hf)) λ cl hcl1 hcl2=>?_;have clx:∀x∈names'.drop nl,cl.lookup x=env.cells.lookup x:=λ x hx=>hcl2 x (lG (dropF x hx).1);refine wpAny_comprehension_free hcl (hs env) hcl1 co.layok.kind co.names ?_;refine hi A T S H V s env Y _ _ E rm fr st h ?_;rintro src V1 T1 S1 H1 s1 I own kk hk ⟨p1,p2,p3⟩ p4 st1 it1;obtain⟨vs,h2,n,h⟩:=zl kk;have hvl:=yo h2;have apO:eY lay.names env own:=(fr.mono p1 p2).apartOf λ b hb=>⟨p4 b hb,it1.S_none st1 b hb⟩;have fr1:bb W T1 S1 H1 lay env Y:=(fr.mono p1 p2).offOwn apO p3;refine hacc A s1 _ E ?_;generalize hLdef:s1.heap.objs.size=L;have st2:=st1.newT oacc;rw[hLdef] at st2;have hL1:T1 L=none:=st1.T_new (bX hLdef);have hLS:S1 L=none:=st1.S_new (bX hLdef);have apL:eY lay.names env [L]:=fr1.apartOf λ b hb=>by rw[List.mem_singleton] at hb;subst hb;exact⟨hL1,hLS⟩
 have hLown:L∉own:=λ hm=>by
  refine ce (it1.live L hm) λ o e=>?_;rw[hL1] at e;cases e
 generalize hs2:({s1 with heap:=s1.heap.push oacc}:Shared)=s2 at st2 ⊢;have hs2h:s2.heap=s1.heap.push oacc:=by rw[<- hs2]
 have hsz2:s2.heap.objs.size=L+1:=by rw[hs2h,Heap.size_push,hLdef]
 have hacc2:s2.heap.get? L=some oacc:=by rw[hs2h,<- hLdef];exact aC _ hfr
 generalize hT2:reread T1 [L] (s1.heap.push oacc)=T2 at st2;have hT2L:T2 L=some oacc:=by rw[<- hT2,bE (by simp),<- hs2h];exact hacc2
 have hT2o:∀b,b≠L->T2 b=T1 b:=λ b hb=>by rw[<- hT2];exact aJ (by simpa using hb)
 rw[fr.globals];have hct:CT W T2 S1 H1 vs ((names'.drop nl).map λ x=>cl.lookup x):=by
  refine Cv (fr1.offOwn apL λ b hb=>hT2o b (by simpa using hb)) h2 (by rw[List.length_drop,co.layok.len];exact Nat.add_sub_cancel_left ..) (λ j i x a b=>?_) (λ x hx=>co.capk x hx) clx
  exact co.capd j i x a (by rw[List.getElem?_drop] at b;exact b)
 refine n0 (args:=[]) (vals:=[]) (λ o e=>by cases e;exact fr.builtins) (by rw[hvl];exact co.layok) st2 hct (λ x hx y hy c h1 h2=>fr.apart x (dropK x hx).1 y (dropK y hy).1 (dropK x hx).2 (dropK y hy).2 c (by rw[<- clx x hx];exact h1) (by rw[<- clx y hy];exact h2)) (aO _) trivial λ env0 T3 s3 k1 k2 k3 k4 k5=>?_
 have hsc:env0.scope=scope:=by rw[k5];rfl
 have hloc:env0.locals=s2.heap.objs.size:=by rw[k5];rfl
 have hcell:∀x∈names'.drop nl,env0.cells.lookup x=env.cells.lookup x:=λ x hx=>by rw[k5,pj (dropF x hx).2,clx x hx]
 have hC:env0.locals=L+1:=by rw[hloc,hsz2]
 clear k5;have fr3:bb W T3 S1 H1 (bK lay scope names') {env0 with scope:=relabel scope env} (List.replicate nl SV.empty++vs.map SV.ro):=by
  have:=FrameT.relab (env:=env) k3;rw[hsc] at this;exact⟨this,by rw[sK,fr.scope];rfl,λ c q e=>by cases e⟩
 have apart:∀own',eY lay.names env own'->env0.locals∉own'->eY names' {env0 with scope:=relabel scope env} own':=λ own' ha hl=>by
  refine⟨hl,λ x hx hk c hc hm=>?_⟩;refine ce (ba.mp hx) λ i hi=>?_;have hd:x∈names'.drop nl:=by
   rcases Nat.lt_or_ge i nl with h|h
   ·exfalso
    refine hk ?_;show(gT scope env.scope).names.lookup x=some .local;rw[gr,co.loc i x h hi];rfl
   ·refine ar (i:=i - nl) ?_;rw[List.getElem?_drop,show nl+(i - nl)=i from Nat.add_sub_cancel' ‹nl<=i›];exact hi
  refine ha.2 x (dropK x hd).1 (dropK x hd).2 c ?_ hm;rw[<- hcell x hd];exact hc
 have hClt:∀b o,T1 b=some o->b≠env0.locals:=λ b o e=>by
  rw[hC,<- hLdef];exact aH (bN (st1.T_lt e))
 have apO3:=apart own apO λ hm=>by
  refine ce (it1.live _ hm) λ o e=>?_;exact hClt _ o e rfl
 have hLC:L≠env0.locals:=by rw[hC];exact aH (aI L)
 have apL3:=apart [L] apL (by rw[List.mem_singleton];exact hLC.symm)
 have it3:hU W S1 H1 T3 src 0 I own:=it1.offT λ b hb=>by
  refine ce (it1.live b hb) λ o e=>?_;rw[e];exact k1 b o (by rw[hT2o b (λ q=>hLown (q▸hb))];exact e)
 have acc3:du W T3 S1 H1 (ho b₀) L:=⟨oacc,k1 L oacc hT2L,hoa _ _ _⟩;have loop:codeAny (model W.prog W.w) A (.compLoop e 0 (.ref I) (.ref L) {env0 with scope:=relabel scope env}) (compPost (model W.prog W.w) A E use Q (.ref L) env0.locals) s3:=by
  refine ce hturn λ pp hturn=>?_;refine nG htg hNl hif hem he hturn rm fr3 apL3 hLown apO3 (lI hk hok) k4 it3 acc3 h ?_;rintro Y' V2 b' T' S' H' s' kN ⟨m1,m2,m3⟩ m4 m5 m6 m7;refine aU m7 λ o hTL hor=>?_;have m3':∀c,c∉own->c≠L->c≠env0.locals->T' c=T3 c:=λ c c1 c2 c3=>m3 c λ h=>h.elim c1 λ h=>h.elim c2 c3;have hTle:∀c o,T c=some o->T' c=some o:=λ c o e=>by
   have c1:c∉own:=λ hm=>by rw[p4 c hm] at e;cases e
   have e1:T1 c=some o:=by rw[p3 c c1];exact e
   have c2:c≠L:=by rintro rfl;rw[hL1] at e1;cases e1
   rw[m3' c c1 c2 (hClt c o e1)];exact k1 c o (by rw[hT2o c c2];exact e1)
  have hTC:T env0.locals=none:=by
   induction e:T env0.locals using Jn with
   |none=>rfl
   |some o=>
    have c1:env0.locals∉own:=λ hm=>by rw[p4 _ hm] at e;cases e
    exact aN rfl (hClt env0.locals o (by rw[p3 _ c1];exact e))
  have hTL0:T L=none:=by
   induction e:T L using Jn with
   |none=>rfl
   |some o=>rw[<- p3 L hLown,hL1] at e;cases e
  refine dL m5.ns λ oC mC hC1 hC2 U=>?_;have hC1':T' env0.locals=some oC:=hC1;have st5:St W (λ c=>if c=env0.locals then T' c else T c) S' H' V2 s':=m6.weakT λ c o e=>by
   by_cases hc:c=env0.locals
   ·rw[if_pos hc] at e;exact e
   ·rw[if_neg hc] at e;exact hTle c o e
  have offL:Au (λ c=>if c=env0.locals then T' c else T c) S' H' L:=⟨m6.TS L o hTL,by show(if L=env0.locals then T' L else T L)=none;rw[if_neg hLC];exact hTL0,(m6.ownT (own:=[L]) (λ b hb=>by rw[List.mem_singleton] at hb;subst hb;exact⟨o,hTL⟩) L (by simp)).2⟩
  have st6:=st5.addI (ho:=ho b') (p:=(L,0)) offL (by rw[m6.T_ok _ _ hTL];exact hor)
  refine q _ _ _ _ S' (H'++[(L,0)]) s' env0.locals L kN ⟨p1.trans m1,(p2.trans m2).trans (List.prefix_append _ _),λ c hc=>by show(if c=env0.locals then T' c else T c)=T c;rw[if_neg hc]⟩ hTC ⟨oC,mC,by show(if env0.locals=env0.locals then T' env0.locals else _)=_;rw[if_pos rfl];exact hC1',hC2⟩ st6 ⟨(L,0),?_,rfl⟩
  rw[<- m6.len];simp
 refine lB he (g:=⟨te,ite,es,0⟩) (by rw[hcl];rfl) rfl loop (zf k4 it3 loop)
end
noncomputable def Gp (elt:Expr):Env->Addr->Sem Unit:=λ env L=>do let _ <- call (.builtin "list.append") [.ref L,<- eval elt env]
noncomputable def C5 (e:Expr) (ite:Expr):Env->Addr->Sem Unit:=λ env L=>do
 let x <- eval ite env
 standAt ite.pos
 let x <- foldedSetIterable ite env x
 let _ <- runOwn (.compStart e 1 (<- holding [x] (pyIter x)) (.ref L) env) env
theorem Ew (elt te ite:Expr) (es:List Expr) (scope:Scope) (pos:Pos):iD (.ListComp elt [⟨te,ite,es,0⟩] scope pos) 0 te es (Gp elt):=⟨ite.pos,λ U U U=>compTurn_list ..⟩
theorem Fu (kx vx te ite:Expr) (es:List Expr) (scope:Scope) (pos:Pos):iD (.DictComp kx vx [⟨te,ite,es,0⟩] scope pos) 0 te es (λ env L=>do
  let kv <- eval kx env
  let vv <- holding [kv] (eval vx env)
  standAt {kx.pos with endLine:=vx.pos.endLine,endCol:=vx.pos.endCol}
  holding [kv,vv] (dictSet L kv vv)):=⟨ite.pos,λ U U U=>compTurn_dict ..⟩
theorem De (elt te ite te' ite':Expr) (es es':List Expr) (scope:Scope) (pos:Pos):iD (.ListComp elt [⟨te,ite,es,0⟩,⟨te',ite',es',0⟩] scope pos) 0 te es (C5 (.ListComp elt [⟨te,ite,es,0⟩,⟨te',ite',es',0⟩] scope pos) ite'):=⟨ite.pos,λ U U U=>by
 unfold C5;simp only[bind_assoc];rfl⟩
theorem DP (elt te ite te' ite':Expr) (es es':List Expr) (scope:Scope) (pos:Pos):iD (.ListComp elt [⟨te,ite,es,0⟩,⟨te',ite',es',0⟩] scope pos) 1 te' es' (Gp elt):=⟨ite'.pos,λ U U U=>rfl⟩
section
variable{W:Wd} {P:bQ} {ck:bn} {d:Nat} {lay:cM}
theorem E8 {N0:List Str} {t:HT} {te ite:Expr} {it:HI} {ifs:List HE} {es:List Expr} {c:HC} {e:Expr} {emit:Env->Addr->Sem Unit} (hi:mZ W P ck d lay it ite) (hs:∀env x,foldedSetIterable ite env x=pure x) (htg:wJ W lay N0 t te) (hNl:∀x∈N0,lay.scope.names.lookup x=some .local)
  (hok:gb it te=true) (hif:kc W P ck d lay ifs es) (hem:C0 W d lay HO.list (cW P ck c) emit) (he:gd e) (hturn:iD e 1 te es emit) (hcl:(clausesOf e)[1]? =some ⟨te,ite,es,0⟩):
  C0 W d lay HO.list (cW P ck (.gen t it ifs c)) (C5 e ite):=λ A T S H V s env Y b N L Q E rm fr apL st ha hs' q=>by
 refine wb (dg (hi A T S H V s env Y _ (λ it' s'=>wpAny (model W.prog W.w) A (do let _ <- runOwn (.compStart e 1 it' (.ref L) env) env) Q E s') E rm fr st hs' λ src V1 T1 S1 H1 s1 I own kk hk e1 p4 st1 it1=>?_)
  (λ x s₁ h₁=>wb (bf (wb (wpAny_of_eq (hs env x) (wb (av (dg h₁ (λ U U h=>h) λ U U h=>h))))))) λ U U h=>h)
 refine ce kk λ n kk=>?_;have apO:eY lay.names env own:=(fr.mono e1.S e1.io).apartOf λ b hb=>⟨p4 b hb,it1.S_none st1 b hb⟩;have hLown:L∉own:=λ hm=>by
  refine aU ha λ o e U=>?_;rw[p4 L hm] at e;exact dX e
 refine wb (wpAny_runOwn ?_);have loop:codeAny (model W.prog W.w) (A.mark none) (.compLoop e 1 (.ref I) (.ref L) env) (λ r s'=>match r with
   | .ok f=>wpAny (model W.prog W.w) A (pure PUnit.unit:Sem Unit) Q E s'
   | .error x=>cameBackBy (model W.prog W.w) A env E x s') s1:=by
  refine ce hturn λ pp hturn=>?_;refine nG htg hNl hif hem he hturn rm ((fr.mono e1.S e1.io).offOwn apO e1.T) apL hLown apO (lI hk hok) st1 it1 ((ha.mono e1.S e1.io).off (e1.T L hLown)) kk λ Y' V' b' T' S' H' s' kN e2 m4 m5 m6 m7=>?_;refine ag (q _ _ _ T' S' H' s' kN ⟨e1.S.trans e2.S,e1.io.trans e2.io,λ c hc=>?_⟩ m5 m6 m7);by_cases hm:c∈own
  ·rw[m4 c hm,p4 c hm]
  ·exact(e2.T c λ h=>h.elim hm hc).trans (e1.T c hm)
 exact lB he hcl rfl loop (zf st1 it1 loop)
theorem xD (A:Around) (s:Shared) (Q:Value->Shared->Prop) (E:Value->Shared->Prop) (h:Q (.ref s.heap.objs.size) {s with heap:=s.heap.push (dY [] 0)}):wpAny (model W.prog W.w) A (newList []) Q E s:=wpAny_newObj_type h
theorem zb {T T' S':PH} {H':Io} {V':aF} {s':Shared} {C:Addr} {o:Obj} {h':Heap} (st:St W T' S' H' V' s') (e:∀c,¬c=C->T' c=T c) (hC0:T C=none) (hC:T' C=some o) (hs:Heap.SameBut C s'.heap h'):St W T S' H' V' {s' with heap:=h'}:=
 (st.dropT (own:=[C]) (Kp.sameBut (n:=s'.toks) hs).one λ b hb=>⟨o,al.mp hb▸hC⟩).weakT λ b x eb=>by
  have hb:b≠C:=λ h=>by rw[h,hC0] at eb;exact dX eb
  rw[b7 λ h=>hb (List.mem_singleton.mp h),e b hb];exact eb
theorem tW {N0 names':List Str} {nl:Nat} {cs:List Nat} {t:HT} {te ite:Expr} {it:HI} {ifs:List HE} {es:List Expr} {gs:List Comprehension} {c:HC} {scope:Scope} {elt:Expr} {pos:Pos} {emit:Env->Addr->Sem Unit}
  (co:mJ lay scope names' nl cs) (hi:mZ W P ck d lay it ite) (hs:∀env x,foldedSetIterable ite env x=pure x) (htg:wJ W (bK lay scope names') N0 t te) (hNl:∀x∈N0,(bK lay scope names').scope.names.lookup x=some .local)
  (hok:gb it te=true) (hif:kc W P ck d (bK lay scope names') ifs es) (hem:C0 W d (bK lay scope names') HO.list (cW P ck c) emit) (hturn:iD (.ListComp elt (⟨te,ite,es,0⟩::gs) scope pos) 0 te es emit):
  cL W P ck d lay (.comp nl cs t it ifs c) (.ListComp elt (⟨te,ite,es,0⟩::gs) scope pos)/\
  ∀{i:Nat} {x:Str} {px pos':Pos},lay.names[i]? =some x->lay.names.Nodup->(∀env,env.scope=lay.scope->swapsWith (.ListComp elt (⟨te,ite,es,0⟩::gs) scope pos) (some (.Name x px)) pos'.line env=pure true)->
   ln W P ck d lay (.g (.x i) (.comp nl cs t it ifs c)) (.Assign [.Name x px] (.ListComp elt (⟨te,ite,es,0⟩::gs) scope pos) pos'):=by
 refine⟨λ A T S H V s env Y K Q E rm fr st h q=>?_,λ {i x px pos'} hx nd hsw A T S H V s env Y N R Q E rm fr st hh qn qr=>?_⟩
 ·rw[eval_ListComp];refine lO (e:= .ListComp elt (⟨te,ite,es,0⟩::gs) scope pos) (ho:=HO.list) (oacc:=dY [] 0) (b₀:=([]:List HV)) co rfl hi hs htg hNl hok hif hem .l hturn xD rfl (λ S H L=>⟨[],0,rfl,trivial⟩) rm fr st h λ Y' V2 xs T' S' H' s' C L k e1 p4 p5 p6 p7=>?_;refine dP p5 λ o m hC hn=>?_;exact⟨m,hn.ns (p6.T_ok _ _ hC),λ h' hs'=>q _ _ k.h S' H' _ _ e1.S e1.io (zb p6 e1.T p4 hC hs') p7⟩
 ·rw[exec_Assign_Name_used _ _ _ _ (hsw env fr.scope)];refine wb (bf (wb ?_));refine wb (dg (lO (e:= .ListComp elt (⟨te,ite,es,0⟩::gs) scope pos) (ho:=HO.list) (oacc:=dY [] 0) (b₀:=([]:List HV)) (use:=some (assign (.Name x px) env)) (Q:=λ U s'=>Q .next s') co rfl hi hs htg hNl hok hif hem .l hturn xD rfl (λ S H L=>⟨[],0,rfl,trivial⟩) rm fr st hh λ Y' V2 xs T' S' H' s' C L k e1 p4 p5 p6 p7=>?_) (λ U s' hq=>ag (ag hq)) λ U U e=>e);refine aU (zl k.h) λ Y2 h2 k=>?_;refine dP p5 λ o m hC hn=>?_;have apC:eY lay.names env [C]:=(fr.mono e1.S e1.io).apartOf λ b hb=>by
   rw[List.mem_singleton.mp hb];exact⟨p4,p6.TS _ _ hC⟩
  have fr1:bb W T' S' H' lay env Y:=(fr.mono e1.S e1.io).offOwn apC λ b hb=>e1.T b λ h=>hb (h▸ .head _);refine wpAny_assign_Name (gI fr1.toFrameT p6 h2 hx nd p7 λ T2 s2 k1 k2 k3=>?_);have hC2:T2 C=some o:=(k1 C (apC.off (.head _))).trans hC;refine⟨m,hn.ns (k3.T_ok _ _ hC2),λ h' hs'=>?_⟩;refine qn _ _ (dropT T2 [C]) S' H' _ k ⟨e1.S,e1.io,λ b hb=>?_⟩ ((⟨k2,fr.scope,fr.code⟩:bb W T2 S' H' lay env Y2).offOwn apC λ b hb=>b7 hb) (k3.dropT (own:=[C]) (Kp.sameBut (n:=s2.toks) hs').one λ b hb=>⟨o,al.mp hb▸hC2⟩);by_cases hbC:b=C
  ·rw[hbC,fI (.head _),p4]
  ·rw[b7 λ h=>hbC (List.mem_singleton.mp h),k1 b hb,e1.T b hbC]
theorem Ao {N0 names':List Str} {nl:Nat} {cs:List Nat} {t:HT} {te ite:Expr} {it:HI} {ifs:List HE} {es:List Expr} {hk hv:HE} {scope:Scope} {kx vx:Expr} {pos:Pos}
  (co:mJ lay scope names' nl cs) (hi:mZ W P ck d lay it ite) (hs:∀env x,foldedSetIterable ite env x=pure x) (htg:wJ W (bK lay scope names') N0 t te) (hNl:∀x∈N0,(bK lay scope names').scope.names.lookup x=some .local)
  (hok:gb it te=true) (hif:kc W P ck d (bK lay scope names') ifs es) (h1:cL W P ck d (bK lay scope names') hk kx) (h2:cL W P ck d (bK lay scope names') hv vx):
  cL W P ck d lay (.dcomp nl cs t it ifs hk hv) (.DictComp kx vx [⟨te,ite,es,0⟩] scope pos):=λ A T S H V s env Y K Q E rm fr st h q=>by
 refine lO (e:= .DictComp kx vx [⟨te,ite,es,0⟩] scope pos) (ho:=HO.dict) (oacc:=dJ [] 0) (b₀:=([]:List (HV×HV))) (step:=Bh P ck hk hv) co rfl hi hs htg hNl hok hif (C7 h1 h2) .d (Fu ..) (λ A s Q E h=>wpAny_newObj_type h) rfl (λ S H L=>⟨[],0,rfl,trivial,rfl, .nil,rfl⟩) rm fr st h λ Y' V2 xs T' S' H' s' C L k e1 p4 p5 p6 p7=>?_;refine dP p5 λ o m hC hn=>?_;exact⟨m,hn.ns (p6.T_ok _ _ hC),λ h' hs'=>q _ _ k.h S' H' _ _ e1.S e1.io (zb p6 e1.T p4 hC hs') p7⟩
end
noncomputable def DG (W:Wd) (P:bQ) (ck:bn) (d:Nat) (lay:cM) (h:HL) (e:Expr):Prop:=
 ∀(A:Around) (T S:PH) (H:Io) (V:aF) (s:Shared) (env:Env) (Y:bc) (v:HV) (val:Value) (N:bc->aF->Prop) (Q:Unit->Shared->Prop) (E:Value->Shared->Prop),Rm d A->bb W T S H lay env Y->St W T S H V s->VR W S H v val->
  lW P ck h v Y V N->tm W lay env T S H N (Q ())->wpAny (model W.prog W.w) A (assign e env val) Q E s
noncomputable def wT (W:Wd) (P:bQ) (ck:bn) (d:Nat) (lay:cM) (hs:List HL) (es:List Expr):Prop:=
 ∀(A:Around) (T S:PH) (H:Io) (V:aF) (s:Shared) (env:Env) (Y:bc) (vs:List HV) (vals:List Value) (N:bc->aF->Prop) (Q:Unit->Shared->Prop) (E:Value->Shared->Prop),Rm d A->bb W T S H lay env Y->St W T S H V s->bW W S H vs vals->
  G4 P ck hs vs Y V N->tm W lay env T S H N (Q ())->wpAny (model W.prog W.w) A (assignInOrder (es.map λ e=>assign e env) vals) Q E s
section
variable{W:Wd} {P:bQ} {ck:bn} {d:Nat} {lay:cM} {K:Frag}
theorem CB {i:Nat} {x:Str} {pos:Pos} (hx:lay.names[i]? =some x) (nd:lay.names.Nodup):DG W P ck d lay (.x i) (.Name x pos):=λ A T S H V s env Y v val N Q E rm fr st hv h q=>by
 refine aU (zl h) λ Y2 h1 k=>?_;exact wpAny_assign_Name (gI fr.toFrameT st h1 hx nd hv λ T' s' k1 k2 k3=>q _ _ T' S H s' k ⟨cY.refl S,ax _,k1⟩ ⟨k2,fr.scope,fr.code⟩ k3)
theorem Cp (wo:rR W P K) {o:HE} {e:Expr} {a:Nat} {pos:Pos} (ha:a<W.strL.length) (ho:cL W P ck d lay o e):DG W P ck d lay (.a o a) (.Attribute e (W.str a) pos):=λ A T S H V s env Y v val N Q E rm fr st hv h q=>by
 rw[arm_assign_Attribute];exact af (av (ho A T S H V s env Y _ _ E rm fr st h λ ov V1 k S1 H1 vo s1 p1 p2 p3 p4=>af (bf (af (av
  (sN wo ha p3 k p4 (hv.mono p1 p2) λ V2 k2 s2 st2=>wpAny_release (q _ _ T S1 H1 s2 k2 (.of p1 p2) (fr.mono p1 p2) st2)))))))
theorem F8 {o i:HE} {eo ei:Expr} {pos:Pos} (ho:cL W P ck d lay o eo) (hi:cL W P ck d lay i ei):DG W P ck d lay (.sub o i) (.Subscript eo ei pos):=λ A T S H V s env Y v val N Q E rm fr st hv h q=>by
 rw[arm_assign_Subscript];exact af (av (ho A T S H V s env Y _ _ E rm fr st h λ ov V1 k1 S1 H1 vo s1 p1 p2 p3 p4=>
  af (av (hi A T S1 H1 V1 s1 env Y _ _ E rm (fr.mono p1 p2) p3 k1 λ iv V2 k2 S2 H2 vi s2 g1 g2 g3 g4=>af (bf (af (av
   (vg g3 rm.units16 k2 (p4.mono g1 g2) g4 (hv.mono (p1.trans g1) (p2.trans g2)) λ V3 k3 s3 st3=>wpAny_release (q _ _ T S2 H2 s3 k3 (.of (p1.trans g1) (p2.trans g2)) ((fr.mono p1 p2).mono g1 g2) st3)))))))))
theorem Dm:wT W P ck d lay [] []:=λ A T S H V s env Y vs vals N Q E rm fr st hv h q=>by
 induction vs using Jo with
 |cons x xs=>exact h.elim
 |nil=>exact ag (q _ _ T S H s h (.refl _ T S H) fr st)
theorem zc {t:Value->Sem Unit} {ts:List (Value->Sem Unit)} {x:Value} {xs:List Value}:assignInOrder (t::ts) (x::xs)=holding xs (t x)>>=λ _=>assignInOrder ts xs:=rfl
theorem Be {h:HL} {hs:List HL} {e:Expr} {es:List Expr} (he:DG W P ck d lay h e) (hes:wT W P ck d lay hs es):wT W P ck d lay (h::hs) (e::es):=λ A T S H V s env Y vs vals N Q E rm fr st hv hh q=>by
 induction vs using Jo with
 |nil=>exact hh.elim
 |cons x xs=>
  refine dL hv.cons λ val vals rq1 hv1 hv2=>?_;subst rq1;rw[List.map_cons,zc];exact af (av (he A T S H V s env Y x val _ _ E rm fr st hv1 hh λ Y1 V1 T1 S1 H1 s1 k e1 fr1 st1=>hes A T1 S1 H1 V1 s1 env Y1 xs vals N Q E rm fr1 st1 (hv2.mono e1.S e1.io) k (q.step e1)))
theorem Eu {ts:List HL} {es:List Expr} {k:Nat} {pos:Pos} (hp:es.all bk=true) (hn:es.length=ts.length) (hts:wT W P ck d lay ts es):DG W P ck d lay (.t ts) (.Tuple es k pos):=λ A T S H V s env Y v val N Q E rm fr st hv h q=>by
 rw[arm_assign_Tuple];exact af (bf (qk st rm.handled h hv hp (λ xs k=>hn.trans k.1) λ xs k S1 s1 vals p1 p2 p3=>hts A T S1 H V s1 env Y xs vals N Q E rm (fr.mono p1 (ax _)) p2 p3 k.2 (q.step (.of p1 (ax _)))))
theorem Ft {h:HE} {e:Expr} {t:HL} {te:Expr} {pos:Pos} (hp:bk te=true) (he:cL W P ck d lay h e) (ht:DG W P ck d lay t te) (hsw:∀env,env.scope=lay.scope->swapsWith e (some te) pos.line env=pure false)
  (hst:∀env,env.scope=lay.scope->swappedStores [te] e env=pure none):ln W P ck d lay (.g t h) (.Assign [te] e pos):=λ A T S H V s env Y N R Q E rm fr st hh qn qr=>by
 rw[exec_Assign];refine af (bf ?_);have e1:swapsWithSole [te] e pos.line env=pure false:=hsw env fr.scope;rw[e1];refine af (ag ?_);rw[if_neg (by decide)]
 refine af (he A T S H V s env Y _ _ E rm fr st hh λ v V1 k S1 H1 val s1 p1 p2 p3 p4=>?_);rw[hst env fr.scope];refine af (ag ?_);rw[fG (by simp[hp])]
 show wpAny _ A (do assignAll val [assign te env];pure .next) Q E s1
 exact af (ht A T S1 H1 V1 s1 env Y v val N _ E rm (fr.mono p1 p2) p3 p4 k λ Y2 V2 T2 S2 H2 s2 k2 e2 fr2 st2=>ag (qn _ _ T2 S2 H2 s2 k2 (.trans (.of p1 p2) e2) fr2 st2))
theorem Cc {h:HE} {e:Expr} {pos:Pos} (he:cL W P ck d lay h e) (hsw:∀env,swapsWith e none pos.line env=pure false):ln W P ck d lay (.expr h) (.Expr e pos):=λ A T S H V s env Y N R Q E rm fr st hh qn qr=>
 wpAny_Expr_any (he A T S H V s env Y _ _ E rm fr st hh λ v V1 k S1 H1 val s1 p1 p2 p3 p4=>qn _ _ T S1 H1 s1 k (.of p1 p2) (fr.mono p1 p2) p3) (by unfold interactive;rw[fr.kind];rfl) (hsw env)
end
structure yv (W:Wd) (mg:Str->Option Value) (L:cM) (k cap:Nat) (name:Str) (ps:Arguments) (bd:List Stmt) (sc:Scope) (p:Pos) (y:Str):Prop where
 code:∃c q,L.code=some (c,q)/\CodeHd W.hb c (W.tabA k)/\(q++name:Str)=W.tabQ k
 pos:W.tabP k=p
 cap:L.names[cap]? =some y
 kcap:L.scope.names.lookup y=some .cell
 noexp:L.scope.names.lookup name≠some .globalExplicit
 free:∀p∈sc.names,p.2= .free->p.1=y
 isfree:(y,NameKind.free)∈sc.names
 dfl:ps.defaults=[]
 kdf:ps.kw_defaults=[]
 ann:∀env,annTrees ps none env=[]
 params:ps.args.map (·.arg)=(W.stat k).params
 plain:ps.posonlyargs=[]/\ps.vararg=none/\ps.kwonlyargs=[]/\ps.kwarg=none
 body:bd=(W.stat k).body
 scope:sc=(W.stat k).scope
 nocode:(W.stat k).code=none
 lay:(W.stat k).lay.drop ((W.stat k).lay.length - 1)=[y]
 bmod:W.hb.BuiltinsAt mg (W.tabA k)
 gne:mainGlobals≠W.tabA k
section
variable{W:Wd} {P:bQ} {ck:bn} {d:Nat} {lay:cM} {T S S':PH} {H:Io} {V:aF} {s s':Shared}
theorem St.grow (st:St W T S H V s) {i:Nat} {p:Addr×Nat} {ho:HO} (hi:V[i]? =some ho) (hp:H[i]? =some p) (k:Kp (·=p.1) s s') (hS:cY S S') (hn:∀b o,S' b=some o->S b=some o\/(s.heap.objs.size<=b/\s'.heap.get? b=some o))
  (h:OR W S' H ho p (s'.heap.get? p.1)):St W T S' H V s' where
 S_ok:=λ a o e=>by
  rcases hn a o e with e|⟨_,e⟩
  ·exact k.keep a o (λ q=>by rw[q,(st.free p (List.mem_of_getElem? hp)).1] at e;cases e) (st.S_ok a o e)
  ·exact e
 T_ok:=λ a o e=>k.keep a o (λ q=>by rw[q,(st.free p (List.mem_of_getElem? hp)).2] at e;cases e) (st.T_ok a o e)
 TS:=λ a o e=>by
  induction e2:S' a using Jn with
  |none=>rfl
  |some x=>
   rcases hn a x e2 with e3|⟨h3,_⟩
   ·rw[st.TS a o e] at e3;cases e3
   ·exact aN (st.T_lt e) (bF.mpr h3)
 len:=st.len
 obj:=λ j h' p' e1 e2=>by
  by_cases q:i=j
  ·subst q;rw[hp] at e2;cases e2;rw[hi] at e1;cases e1;exact h
  ·have r:=st.obj j h' p' e1 e2;refine ce r.isS λ x e=>?_;have hne:p'.1≠p.1:=λ z=>q (by
    have h1:(H.map (·.1))[i]? =some p.1:=by rw[List.getElem?_map,hp];rfl
    have h2:(H.map (·.1))[j]? =some p.1:=by rw[List.getElem?_map,e2];exact am some z
    exact(List.getElem?_inj (ao.mp h1).1 st.nd).mp (h1.trans h2.symm))
   rw[k.keep p'.1 x hne e];rw[e] at r;exact r.mono hS (ax _)
 free:=λ q hq=>⟨by
  induction e:S' q.1 using Jn with
  |none=>rfl
  |some o=>
   rcases hn q.1 o e with e|⟨h3,_⟩
   ·rw[(st.free q hq).1] at e;cases e
   ·exact aN (st.io_lt hq) (bF.mpr h3),(st.free q hq).2⟩
 nd:=st.nd
 base:=λ a o e=>hS _ _ (st.base a o e)
 os:=k.os.trans st.os
 gens:=k.gens.trans st.gens
theorem Jk {c:Addr} {oc fo:Obj} {tk:Nat} (st:St W T S H V s) (hTc:T c=some oc) (hfo:fo.isFreed=false):∃S3,cY S S3/\S3 s.heap.objs.size=some fo/\S3 c=some oc/\St W (dropT T [c]) S3 H V {s with heap:=s.heap.push fo,toks:=tk}:=by
 have st2:=st.addS (a:=s.heap.objs.size) (o:=fo) (s':={s with heap:=s.heap.push fo,toks:=tk}) (ai _) ((Kp.push s fo).toks tk) (λ U f=>f.elim) (aC _ hfo);have hTS:=st2.TS c _ hTc;exact⟨_,(dN (st.S_new (ai _))).trans (dN hTS),dN hTS _ _ (cH _ _ _),cH _ _ _,
  (st2.weakT (ma T [c])).freezeS ⟨hTS,fI (.head _),(st2.ownT (own:=[c]) (λ b hb=>⟨_,al.mp hb▸hTc⟩) c (.head _)).2⟩ (st2.T_ok _ _ hTc)⟩
theorem Bv {mg:Str->Option Value} {i k cap tb:Nat} {name y:Str} {params:Arguments} {body:List Stmt} {scope:Scope} {pos:Pos} (dk:yv W mg lay k cap name params body scope pos y) (hx:lay.names[i]? =some name) (nd:lay.names.Nodup) (hg:W.hb.Ns mainGlobals mg):
  ln W P ck d lay (.def_ i k cap tb) (.FunctionDef name params body [] none [] scope none name pos):=λ A T S H V s env Y N R Q E rm fr st hh qn qr=>by
 refine cO hh λ hσ hh=>?_;have hv:∃v,Y[cap]? =some (.val v)/\oF (dS (Y.set cap (.ro v)) i (.clo k [v])) (λ Y=>N Y V):=by
  induction e:Y[cap]? using Jn with
  |none=>rw[e] at hh;exact hh.elim
  |some x=>
   rw[e] at hh;cases x with
   |val v=>exact⟨v,rfl,hh⟩
   |_=>exact hh.elim
 clear hh;refine aU hv λ v hρ hh=>?_;refine aU (zl hh) λ Y2 h1 kN=>?_;refine dL fr.ns λ o m hT hns hsl=>?_;have hky:env.kindOf y=some .cell:=by unfold Env.kindOf;rw[fr.scope];exact dk.kcap
 have hcell:∃c val,env.cells.lookup y=some c/\T c=some (dx (some val))/\VR W S H v val:=by
  rcases hsl cap y _ dk.cap hρ with⟨e,_⟩|⟨_,r⟩
  ·rw[hky] at e;cases e
  ·exact r
 refine dL hcell λ c val hc hTc hv=>?_;have hcl:c≠env.locals:=pc hT hns hTc;refine aU (nx (scope:=scope) (env:=env) λ p hp hf=>⟨c,by rw[dk.free p hp hf];exact hc⟩) λ clos hclos hlook=>?_
 refine dL dk.code λ cc qq hcode hhd hqq=>?_;refine cO (fr.code cc qq hcode) λ ecode equal=>?_;refine gn (st.io_get hσ) λ p hp hP1 hz3=>?_;refine aU hz3 λ ps hps hgood=>?_;have hPs:s.heap.get? p.1=some (tabObj ps):=hps;have kb:∀{h':Heap},(∀b o,s.heap.get? b=some o->h'.get? b=some o)->∀b o,W.hb.get? b=some o->h'.get? b=some o:=λ h b o e=>h b o (st.keep_base e);have hd0:CodeHd s.heap cc p.1:=by rw[hP1];exact hhd.keeps λ b o e=>st.keep_base e
 have hg0:s.heap.Ns mainGlobals mg:=hg.keeps λ b o e=>st.keep_base e;have hbm:s.heap.BuiltinsAt mg p.1:=by
  rw[hP1];refine GE dk.bmod λ bm ob e1 e2 e3 e4 e5 e6=>?_;exact⟨bm,ob,e1,e2,e3,e4,st.keep_base e5,e6⟩
 have hqn:qualnameIn env name name=W.tabQ k:=by
  unfold qualnameIn;have:(env.kindOf name==some NameKind.globalExplicit)=false:=by
   rw[beq_eq_false_iff_ne];unfold Env.kindOf;rw[fr.scope];exact dk.noexp
  rw[this,equal,<- hqq];rfl
 have fin:∀(s1:Shared) (S1:PH) (c':Addr) (co:Obj) (vs:Array Value) (t:Tok) (ctv doc:Value) (tk:Nat),cY S S1->St W T S1 H V s1->S1 c'=some co->co.data= .fields vs->vs[1]? =some (.str (W.tabQ k) t)->
   wpAny (model W.prog W.w) A (storeName env name (.ref s1.heap.objs.size)) (λ U s''=>Q .next s'') E {s1 with heap:=s1.heap.push {cls:= .type "function",data:= .func (fnX name (W.tabQ k) params body scope clos .none .none doc ((mg "__name__").getD .none) none (.ref c') ctv)},toks:=tk}:=by
  intro s1 S1 c' co vs t ctv doc tk hS1 st1 hco hcd hcv;refine Bx (Jk (tk:=tk) (fo:={cls:= .type "function",data:= .func (fnX name (W.tabQ k) params body scope clos .none .none doc ((mg "__name__").getD .none) none (.ref c') ctv)}) st1 hTc rfl) λ S3 hS2 hfn hcc st3=>?_;have hSall:cY S S3:=hS1.trans hS2;have hclo:VR W S3 H (.clo k [v]) (.ref s1.heap.objs.size):=by
   refine⟨_,_,fnX name (W.tabQ k) params body scope clos .none .none doc ((mg "__name__").getD .none) none (.ref c') ctv,clos,rfl,hfn,rfl,rfl,⟨dk.params,dk.plain,am FuncBody.stmts dk.body,dk.scope,rfl,rfl,λ c q e=>dX (dk.nocode.symm.trans e)⟩,rfl,⟨c',co,vs,t,rfl,hS2 _ _ hco,hcd,hcv⟩,?_⟩;show BW W _ H [v] (((W.stat k).lay.drop ((W.stat k).lay.length - 1)).map λ x=>clos.lookup x);rw[dk.lay];show BW W _ H [v] [clos.lookup y];rw[hlook y dk.isfree,hc];exact⟨⟨val,hcc,hv.mono hSall (ax _)⟩,trivial⟩
  have hlen:cap<Y.length:=(ao.mp hρ).1;have fr3:bb W (dropT T [c]) S3 H lay env (Y.set cap (.ro v)):=by
   refine⟨⟨fr.kind,fr.globals,fr.builtins,by rw[List.length_set];exact fr.len,fr.apart,o,m,(b7 λ h=>hcl (al.mp h).symm).trans hT,hns,λ j x sv hj hsv=>?_⟩,fr.scope,fr.code⟩
   by_cases hjc:cap=j
   ·rw[<- hjc,List.getElem?_set_self hlen] at hsv;rw[<- hjc,dk.cap] at hj;rw[<- Option.some.inj hsv,<- Option.some.inj hj];exact⟨.inl hky,c,val,hc, .inl hcc,hv.mono hSall (ax _)⟩
   ·rw[List.getElem?_set_ne hjc] at hsv;refine((hsl j x sv hj hsv).mono hSall (ax H)).change λ hkx c2 hc2=>b7 λ h=>hjc ?_;have e:=fr.apart x (ar hj) y (ar dk.cap) hkx (by rw[hky];decide) c ((al.mp h).symm▸hc2) hc
    exact(List.getElem?_inj (ao.mp dk.cap).1 nd).mp (dk.cap.trans (e▸hj.symm))
  refine gI fr3.toFrameT st3 h1 hx nd hclo λ T' s' k1 k2 k3=>qn _ _ T' _ H s' kN ⟨hSall,ax _,λ b hb=>?_⟩ ⟨k2,fr.scope,fr.code⟩ k3;exact(k1 b hb).trans (b7 λ h=>hb (.inr ⟨y,ar dk.cap,hky,hc.trans (am some (al.mp h).symm)⟩))
 refine nestDef_K dk.dfl dk.kdf (dk.ann env) ?_;rw[hqn];have hpl:pos.line=(W.tabP k).line:=by rw[dk.pos]
 have hpc:pos.col=(W.tabP k).col:=by rw[dk.pos]
 rcases hgood with rfl|⟨c',co,vs,t,rfl,hco,hcd,hcv⟩
 ·refine makeFunction_K hclos fr.globals hg0 ecode hd0 hPs trivial rfl (by rw[hP1];exact dk.gne) hbm λ c' ctv doc h' tk hx' hge hlt hrec hP'=>?_
  refine ky hrec λ c2 co vs hz3=>?_;refine Bx hz3 λ t e1 hco hcd hcv=>?_;cases e1;have hSn:S c'=none:=st.S_new hge;have st1:St W T (upd S c' co) H V {s with heap:=h'}:=by
   refine st.grow hσ hp ⟨λ b o hb e=>hx' b o hb e,rfl,rfl⟩ (dN hSn) (λ b x e=>?_) ⟨hP1,_,hP', .inr ⟨c',co,vs,t,by rw[hpl,hpc];rfl,cH _ _ _,hcd,hcv⟩⟩
   by_cases hb:b=c'
   ·subst hb;rw[cH] at e;cases e;exact .inr ⟨hge,hco⟩
   ·rw[fq hb] at e;exact .inl e
  exact fin {s with heap:=h'} _ c' co vs t ctv doc tk (dN hSn) st1 (cH _ _ _) hcd hcv
 ·refine makeFunction_hit (cv:= .ref c') hclos fr.globals hg0 ecode hd0 hPs trivial ?_ hbm λ ctv doc h' tk hk' hsz=>?_
  ·show codeAmong pos [rawInt (W.tabP k).line,rawInt (W.tabP k).col, .ref c']=some (.ref c');unfold codeAmong rawInt;rw[hpl,hpc];simp
  ·exact fin {s with heap:=h'} S c' co vs t ctv doc tk (cY.refl S) (st.same ⟨λ b o U e=>hk' b o e,rfl,rfl⟩) hco hcd hcv
end
theorem rG (n:Nat) (i:Int):clipAt n i=Cm i n:=by
 cases i with
 |ofNat k=>exact clipAt_nat n k
 |negSucc k=>
  have:=clipAt_neg n (k+1) (by lia)
  rw[show(Int.negSucc k)= -((k+1:Nat):Int) from rfl,this];rfl
noncomputable def dO (lo:Option Int) (n:Nat):Nat:=match lo with|some k=>Cm k n| .none=>0
noncomputable def d0 (hi:Option Int) (n:Nat):Nat:=match hi with|some k=>Cm k n| .none=>n
theorem B6 (lo:Option Int) (n:Nat):lo.elim 0 (clipAt n)=dO lo n:=by rcases lo with _|_<;>simp[dO,rG]
theorem DO (hi:Option Int) (n:Nat):hi.elim n (clipAt n)=d0 hi n:=by rcases hi with _|_<;>simp[d0,rG]
theorem mI (lo hi:Option Int) (xs:List HV):f8 lo hi xs=(xs.take (d0 hi xs.length)).drop (dO lo xs.length):=by
 rcases lo with _|_<;>rcases hi with _|_<;>rfl
theorem CV (k:Int) (n:Nat):Cm k n<=n:=by
 cases k with
 |ofNat i=>exact Nat.min_le_right _ _
 |negSucc i=>exact k7 _ _
theorem yJ (hi:Option Int) (n:Nat):d0 hi n<=n:=by
 induction hi using Jn with
 |none=>exact ai _
 |some k=>exact CV k n
theorem Ff (lo hi:Option Int) (vs:List Value):slicePick vs.toArray lo hi none=((vs.take (d0 hi vs.length)).drop (dO lo vs.length)).toArray:=by
 rw[slicePick_plain];simp only[List.size_toArray,B6,DO];rw[List.drop_take]
section
variable{W:Wd} {P:bQ} {ck:bn} {d:Nat} {lay:cM} {T S:PH} {H:Io} {V:aF} {s:Shared} {A:Around} {E:Value->Shared->Prop}
theorem bW.slice {xs:List HV} {vs:List Value} (lo hi:Option Int) (h:bW W S H xs vs):bW W S H (f8 lo hi xs) ((vs.take (d0 hi vs.length)).drop (dO lo vs.length)):=by
 rw[mI,h.length];exact(h.take _).drop _
theorem lM {v:Value} {k:Option Int} {Q:Option Int->Shared->Prop} (hv:IsPart v k) (h:Q k s):wpAny (model W.prog W.w) A (Builtin.Slice.slicePartIndex v) Q E s:=by
 cases hv with
 |none=>exact slicePart_none h
 |int i t=>exact slicePart_int h
theorem zM (lo hi:Option Int) (n:Nat):Builtin.Slice.sliceAdjust lo hi 1 (n:Int)=(((dO lo n:Nat):Int),((d0 hi n:Nat):Int)):=by
 have clip:∀v:Int,(if v<0 then max (v+n) 0 else min v n)=((Cm v n:Nat):Int):=λ v=>by
  cases v with
  |ofNat i=>
   show(if(i:Int)<0 then _ else min (i:Int) n)=((min i n:Nat):Int)
   rw[if_neg (Int.not_lt.mpr (Int.natCast_nonneg i))];exact(Nat.le_total i n).elim (λ h=>(Int.min_eq_left (Int.ofNat_le.mpr h)).trans (am Nat.cast (Eb h).symm)) λ h=>(Int.min_eq_right (Int.ofNat_le.mpr h)).trans (am Nat.cast (Nat.min_eq_right h).symm)
  |negSucc i=>
   show(if Int.negSucc i<0 then max (Int.negSucc i+n) 0 else _)=((n - (i+1):Nat):Int)
   rw[if_pos (Int.negSucc_lt_zero i)];exact(Int.toNat_eq_max _).symm.trans (am Nat.cast (Int.toNat_sub n (i+1)))
 have l:(Builtin.Slice.sliceAdjust lo hi 1 (n:Int)).1=((dO lo n:Nat):Int):=by
  rcases lo with _|v
  ·rfl
  ·exact clip v
 have r:(Builtin.Slice.sliceAdjust lo hi 1 (n:Int)).2=((d0 hi n:Nat):Int):=by
  rcases hi with _|v
  ·rfl
  ·exact clip v
 exact Prod.ext l r
theorem zN (a b:Nat):Builtin.Slice.slicePlaces (a:Int) (b:Int) 1=b - a:=by
 show(if(a:Int)<b then((b:Int) - a - 1)/1+1 else 0).toNat=b - a
 by_cases h:(a:Int)<b
 ·rw[if_pos h,Int.ediv_one,Int.sub_add_cancel];exact Int.toNat_sub b a
 ·rw[if_neg h];exact(Nat.sub_eq_zero_of_le (Int.ofNat_le.mp (Int.not_lt.mp h))).symm
theorem nk {sl:Addr} {vl vu:Value} {lo hi:Option Int} {n:Nat} {Q:Int×Int×Nat->Shared->Prop} (hs:s.heap.IsSliceOf sl vl vu .none) (pl:IsPart vl lo) (pu:IsPart vu hi) (h:Q (((dO lo n:Nat):Int),1,d0 hi n - dO lo n) s):
  wpAny (model W.prog W.w) A (Builtin.Slice.sliceApplied (.ref sl) (pure (n:Int))) Q E s:=by
 refine gn (id hs) λ os hos hcs hds=>?_;unfold Builtin.Slice.sliceApplied Builtin.Slice.sliceFields;refine af (af (b9 hos hds (x:=vl) rfl (af (b9 hos hds (x:=vu) rfl (af (b9 hos hds (x:= .none) rfl (ag ?_)))))));refine af (slicePart_none ?_);show wpAny _ _ (if((1:Int)==0)=true then _ else _) _ _ s
 rw[if_neg (by decide)]
 refine af (lM pl (af (lM pu (af (ag ?_)))));show wpAny _ _ (match Builtin.Slice.sliceAdjust lo hi 1 (n:Int) with|(lo,hi)=>pure (lo,(1:Int),Builtin.Slice.slicePlaces lo hi 1)) _ _ s
 rw[zM];show wpAny _ _ (pure (((dO lo n:Nat):Int),(1:Int),Builtin.Slice.slicePlaces (dO lo n:Nat) (d0 hi n:Nat) 1)) _ _ s;rw[zN];exact ag h
theorem FP (xs:Array Value) (a b:Nat) (hb:b<=xs.size):((List.range (b - a)).filterMap λ (k:Nat)=>xs[((a:Int)+(k:Int)*1).toNat]?).toArray=((xs.toList.take b).drop a).toArray:=by
 have e:(λ (k:Nat)=>xs[((a:Int)+(k:Int)*1).toNat]?)=λ k=>xs[a+k]? :=by
  funext k
  have:((a:Int)+(k:Int)*1).toNat=a+k:=by rw[Int.mul_one];rfl
  rw[this]
 rw[e];have:=pick_run xs a (b - a);rw[List.filterMap_map] at this;have e2:((λ x=>xs[x]?)∘λ x=>a+x)=λ k=>xs[a+k]? :=rfl;rw[e2] at this;rw[this,List.drop_take]
theorem kg {t sl:Addr} {xs:List HV} {vs:List Value} {n:Nat} {vl vu:Value} {lo hi:Option Int} {Q:Value->Shared->Prop} (st:St W T S H V s) (ht:S t=some (dU vs n)) (hv:bW W S H xs vs) (hl:xs.length<lim) (hs:s.heap.IsSliceOf sl vl vu .none) (pl:IsPart vl lo) (pu:IsPart vu hi)
  (q:Ok W T S H Q (.t (f8 lo hi xs)) V):wpAny (model W.prog W.w) A (getItem (.ref t) (.ref sl)) Q E s:=by
 have hlen:=hv.length;have htup:IsTup s.heap t vs.toArray:=gl (st.S_ok _ _ ht);refine gn (id hs) λ os hos hcs hds=>?_;have hTs:s.TypeIs (.ref sl) "slice":=⟨os,hos,hcs⟩;have hty:=dR (st.S_ok _ _ ht);unfold getItem
 try with_reducible refine av ?_
 first|refine af (ag ?_)|skip
 refine af (wpAny_sequenceKey hty (by decide) ?_)
 refine af (bU (name:=Str.ofString "__getitem__") hty F.slot_tuple_getitem
  (aK F.slot_tuple_getitem hty F.entry_tuple_getitem ?_ (F.args_tuple_getitem_2 _ _)))
 show wpAny _ _ (Builtin.Tuple.tupleItemsOf (.ref t)>>=_) _ _ s;refine af (tupleItemsOf_ htup ?_);refine af (wpAny_typeOf hTs ?_);rw[if_pos (by decide)]
 refine af (nk hs pl pu ?_);simp only[List.size_toArray];have hb:d0 hi vs.length<=vs.length:=yJ _ _;show wpAny _ _ (if(((dO lo vs.length:Nat):Int)==0&&(1:Int)==1&&(d0 hi vs.length - dO lo vs.length)==vs.length)=true then _ else _) _ _ s
 by_cases hw:(((dO lo vs.length:Nat):Int)==0&&(1:Int)==1&&(d0 hi vs.length - dO lo vs.length)==vs.length)=true
 ·rw[if_pos hw];simp only[Bool.and_eq_true,beq_iff_eq] at hw;have ha:dO lo xs.length=0:=by rw[hlen];lia
  have hb':d0 hi xs.length=xs.length:=by rw[hlen];exact cn hb (ah (bX hw.2.symm) (k7 _ _))
  have he:f8 lo hi xs=xs:=by
   rw[mI,ha,hb',List.take_length,List.drop_zero]
  rw[he] at q;have hex:∀{Q:Bool->Shared->Prop},Q true s->wpAny (model W.prog W.w) A.in1 (Builtin.Tuple.tupleIsExact (.ref t)) Q E s:=by
   intro Q hQ;unfold Builtin.Tuple.tupleIsExact;exact af (wpAny_typeOf hty (ag hQ))
  refine af (hex ?_);refine af (bO (af (ag (ag ⟨_,rfl,ag (q S H _ s (cY.refl S) (ax _) st ⟨t,vs,n,rfl,ht,hv⟩)⟩))))
 ·rw[if_neg hw,FP _ _ _ (by simpa using hb)]
  have hsz:sizeOk (.seq ((vs.take (d0 hi vs.length)).drop (dO lo vs.length)).toArray):=by
   show((vs.take (d0 hi vs.length)).drop (dO lo vs.length)).toArray.size<=sizeLine;rw[List.size_toArray,List.length_drop,List.length_take,sizeLine_eq];exact ah (k7 _ _) (ah (Nat.min_le_right _ _) (hlen▸IN hl rfl))
  have fin:Q (.ref s.heap.objs.size) {s with heap:=s.heap.push (dU ((vs.take (d0 hi vs.length)).drop (dO lo vs.length)) 0)}:=
   tx (n:=0) (vs:=(vs.take (d0 hi vs.length)).drop (dO lo vs.length)) st (ai _) (Kp.push s _) (by rw[Heap.get?_push_size _ rfl]) (hv.slice lo hi) q
  exact af (m:=Builtin.Tuple.tupleExact _) (wpAny_newObj_type (ag ⟨_,rfl,ag fin⟩) hsz)
noncomputable def yD (W:Wd) (P:bQ) (ck:bn) (d:Nat) (lay:cM) (h:Option HE) (e:Option Expr):Prop:=
 ∀(A:Around) (T S:PH) (H:Io) (V:aF) (s:Shared) (env:Env) (Y:bc) (K:Option Int->aF->Prop) (Q:Value->Shared->Prop) (E:Value->Shared->Prop),Rm d A->bb W T S H lay env Y->St W T S H V s->
  oW P ck h Y V K->(∀k V' S' H' v s',K k V'->cY S S'->H<+:H'->St W T S' H' V' s'->IsPart v k->Q v s')->wpAny (model W.prog W.w) A (evalPart e env) Q E s
theorem A4:yD W P ck d lay none none:=λ A T S H V s env Y K Q E rm fr st h q=>ag (q _ _ S H _ s h (cY.refl S) (ax _) st .none)
theorem zH {h:HE} {e:Expr} (he:cL W P ck d lay h e):yD W P ck d lay (some h) (some e):=λ A T S H V s env Y K Q E rm fr st hh q=>by
 rw[evalPart_some];refine he A T S H V s env Y _ _ E rm fr st hh λ v V1 k S1 H1 val s1 p1 p2 p3 p4=>?_;cases v with
 |int i=>
  obtain⟨t,rfl⟩:=p4;exact q _ _ S1 H1 _ s1 k p1 p2 p3 (.int _ _)
 |_=>exact k.elim
theorem Ab {T S:PH} {H:Io} {V:aF} {s:Shared} {A:Around} {E:Value->Shared->Prop} {x:HV} {l u:Option Int} {N:KV} {va:Value} {Q:Bool->Shared->Prop} (st:St W T S H V s) (h:uY V N l u x) (hx:VR W S H x va) (q:Q false s):wpAny (model W.prog W.w) A (getitemInPython va) Q E s:=by
 unfold getitemInPython
 induction h with
 |t=>
  refine iR hx λ a vs n rq1 ho U=>?_;subst rq1;exact af (bL (dR (st.S_ok _ _ ho)) F.slot_tuple_getitem.lookup (ag q))
 |l hσ=>
  refine aU hx λ p hp rq1=>?_;subst rq1;refine dP (st.obj _ _ p hσ hp) λ vs n ho U=>?_;exact af (bL (T:="list") ⟨_,ho,rfl⟩ F.slot_list_getitem.lookup (ag q))
theorem wq {x:HV} {l u:Option Int} {N:KV} {va vl vu:Value} {sl:Addr} {Q:Value->Shared->Prop} (st:St W T S H V s) (h:uY V N l u x) (hx:VR W S H x va) (hsl:s.heap.IsSliceOf sl vl vu .none) (pl:IsPart vl l) (pu:IsPart vu u) (q:tf W T S H Q N):
  wpAny (model W.prog W.w) A (getItem va (.ref sl)) Q E s:=by
 induction h with
 |t hlim k=>
  refine iR hx λ a vs n rq1 hS r=>?_;subst rq1;exact kg st hS r hlim hsl pl pu (q _ _ k)
 |l hσ hlim k=>
  refine nv (st.list hx hσ) λ p vs n rq1 hp hob r=>?_;subst rq1;rw[r.length] at hlim;refine wpAny_getItem_list_slice (dm hob) hsl pl pu .none (by simp) ?_ (by rw[List.size_toArray,sizeLine_eq];unfold lim at hlim;lia)
  rw[Ff];exact gc (n:=0) st (ai _) (Kp.push s _) (by rw[Heap.get?_push_size _ rfl]) (r.slice _ _) (q _ _ k)
theorem AF {o:HE} {lo hi:Option HE} {eo:Expr} {el eu:Option Expr} {p pos:Pos} (ho:cL W P ck d lay o eo) (hl:yD W P ck d lay lo el) (hu:yD W P ck d lay hi eu):cL W P ck d lay (.slice o lo hi) (.Subscript eo (.Slice el eu none p) pos):=λ A T S H V s env Y K Q E rm fr st h q=>by
 rw[arm_eval_Subscript];refine af (ho A T S H V s env Y _ _ E rm fr st h λ ov V1 k1 S1 H1 va s1 p1 p2 p3 p4=>?_);refine af (av (wpAny_Slice (hl A T S1 H1 V1 s1 env Y _ _ E rm (fr.mono p1 p2) p3 k1 λ l V2 S2 H2 vl s2 k2 g1 g2 g3 g4=>hu A T S2 H2 V2 s2 env Y _ _ E rm ((fr.mono p1 p2).mono g1 g2) g3 k2 λ u V3 S3 H3 vu s3 k3 j1 j2 j3 j4=>?_)));rw[evalPart_none];have vo:=(p4.mono g1 g2).mono j1 j2;have st4:St W T S3 H3 V3 {s3 with heap:=s3.heap.push {cls:= .type "slice",data:= .fields #[vl,vu, .none]}}:=j3.same (Kp.push s3 _);refine ag (af (bf (af (Ab st4 k3 vo ?_))));show wpAny _ A (operate [.ref s3.heap.objs.size,va] (getItem va (.ref s3.heap.objs.size))>>=_) _ _ _;exact af (wpAny_operateT (wq st4 k3 vo (Heap.IsSliceOf.new ..) g4 j4 λ r V4 k4 S5 H5 v5 s5 m1 m2 m3 m4=>af (wpAny_letTemporaryGo (ag (((q.step p1 p2).step g1 g2).step j1 j2 _ _ k4 S5 H5 v5 s5 m1 m2 m3 m4)))))
end
noncomputable def Hh (W:Wd) (S:PH) (H:Io):List (HV×HV)->List (Value×Value)->Prop
 |[],[]=>True
 |p::ps,u::us=>VR W S H p.1 u.1/\VR W S H p.2 u.2/\Hh W S H ps us
 |_,_=>False
noncomputable def wQ (W:Wd) (P:bQ) (ck:bn) (d:Nat) (lay:cM) (hs:List (HE×HE)) (ks:List (Option Expr)) (vs:List Expr):Prop:=
 ∀(pos:Pos) (A:Around) (T S:PH) (H:Io) (V:aF) (s:Shared) (env:Env) (Y:bc) (K:List (HV×HV)->aF->Prop) (Q:List (Value×Value)->Shared->Prop) (E:Value->Shared->Prop),Rm d A->bb W T S H lay env Y->St W T S H V s->
  H5 P ck hs Y V K->(∀rs V' S' H' us s',K rs V'->cY S S'->H<+:H'->St W T S' H' V' s'->Hh W S' H' rs us->Q us s')->wpAny (model W.prog W.w) A (evalPairs (pairTrees ks vs env pos)) Q E s
section
variable{W:Wd} {P:bQ} {ck:bn} {d:Nat} {lay:cM} {T S:PH} {H:Io} {V:aF} {s:Shared} {A:Around} {E:Value->Shared->Prop}
theorem Dq:wQ W P ck d lay [] [] []:=λ pos A T S H V s env Y K Q E rm fr st h q=>pairTrees_nil_walk (q _ _ S H [] s h (cY.refl S) (ax _) st trivial)
theorem zw {hk hv:HE} {hs:List (HE×HE)} {k v:Expr} {ks:List (Option Expr)} {vs:List Expr} (h1:cL W P ck d lay hk k) (h2:cL W P ck d lay hv v) (h3:wQ W P ck d lay hs ks vs):wQ W P ck d lay ((hk,hv)::hs) (some k::ks) (v::vs):=λ pos A T S H V s env Y K Q E rm fr st h q=>
 pairTrees_cons_walk (h1 A T S H V s env Y _ _ E rm fr st h λ kv V1 k1 S1 H1 u1 s1 p1 p2 p3 p4=>h2 A T S1 H1 V1 s1 env Y _ _ E rm (fr.mono p1 p2) p3 k1 λ vv V2 k2 S2 H2 u2 s2 g1 g2 g3 g4=>
  h3 pos A T S2 H2 V2 s2 env Y _ _ E rm ((fr.mono p1 p2).mono g1 g2) g3 k2 λ rest V3 S3 H3 us s3 k3 j1 j2 j3 j4=>q _ _ S3 H3 _ s3 k3 ((p1.trans g1).trans j1) ((p2.trans g2).trans j2) j3 ⟨(p4.mono g1 g2).mono j1 j2,g4.mono j1 j2,j4⟩)
theorem qS (k v:HV) (kvs:List (HV×HV)):(dC k v kvs).length<=kvs.length+1:=by
 induction kvs with
 |nil=>exact ai _
 |cons p r ih=>
  show(if veq p.1 k=true then _ else _:List (HV×HV)).length<=_
  by_cases h:veq p.1 k=true
  ·rw[if_pos h];exact bG _
  ·rw[if_neg h];exact aX ih
theorem vX {L:Addr} (f:Value×Value->PUnit->Sem (ForInStep PUnit)) (hf:∀k v u,f (k,v) u=(do dictSet L k v;pure (.yield ⟨⟩))) {rs:List (HV×HV)}:∀(us:List (Value×Value)) (acc d':List (HV×HV)) (T:PH) (s:Shared) (Q:PUnit->Shared->Prop),
  gJ rs acc=some d'->acc.length+rs.length<lim->A.units+8<cLine->Hh W S H rs us->St W T S H V s->du W T S H (.dict acc) L->
  (∀T' s',(∀c,c≠L->T' c=T c)->St W T' S H V s'->du W T' S H (.dict d') L->Q ⟨⟩ s')->wpAny (model W.prog W.w) A (forIn us ⟨⟩ f) Q E s:=by
 induction rs with
 |nil=>
  intro us acc d' T s Q h _ _ hk st ha q;rcases us with _|⟨u,us⟩
  ·rw[List.forIn_nil];exact ag (q T s (λ U U=>rfl) st (aA h▸ha))
  ·exact hk.elim
 |cons p rs ih=>
  intro us acc d' T s Q h hl hu hk st ha q;rcases us with _|⟨⟨uk,uv⟩,us⟩
  ·exact hk.elim
  ·by_cases hko:bp p.1 acc=true
   ·have h:gJ rs (dC p.1 p.2 acc)=some d':=(if_pos hko).symm.trans h;rw[List.forIn_cons,hf];have:=qS p.1 p.2 acc;replace hl:=List.length_cons▸hl;refine wb (wb (yr st hu hko (by lia) ha hk.1 hk.2.1 λ T1 s1 e1 st1 ha1=>ag ?_))
    exact ih us _ d' T1 s1 Q h (by lia) hu hk.2.2 st1 ha1 λ T2 s2 e2 st2 ha2=>q T2 s2 (λ c hc=>(e2 c hc).trans (e1 c hc)) st2 ha2
   ·exact dX ((if_neg hko).symm.trans h)
theorem sP {T0:PH} {L:Addr} {ho:HO} {Q:Value->Shared->Prop} (st:St W T S H V s) (ha:du W T S H ho L) (hT:∀c o,T0 c=some o->c≠L/\T c=some o) (q:Ok W T0 S H Q (.ref V.length) (V++[ho])):Q (.ref L) s:=by
 refine aU ha λ o e r=>?_;have st1:St W T0 S H V s:=st.weakT λ c x h=>(hT c x h).2;have hL0:T0 L=none:=by
  induction h:T0 L using Jn with
  |none=>rfl
  |some x=>exact aN rfl (hT L x h).1
 have off:Au T0 S H L:=⟨st.TS L o e,hL0,(st.ownT (own:=[L]) (λ b hb=>by rw[List.mem_singleton] at hb;subst hb;exact⟨o,e⟩) L (by simp)).2⟩
 have st2:=st1.addI (ho:=ho) (p:=(L,0)) off (by rw[st.T_ok _ _ e];exact r)
 refine q S (H++[(L,0)]) _ s (cY.refl S) (List.prefix_append _ _) st2 ⟨(L,0),?_,rfl⟩;rw[<- st.len];simp
theorem Dz {hs:List (HE×HE)} {ks:List (Option Expr)} {vs:List Expr} {pos:Pos} (hall:ks.all (·.isSome)=true) (hl:ks.length=vs.length) (hh:hs.length=ks.length) (h16:ks.length<16) (h:wQ W P ck d lay hs ks vs):cL W P ck d lay (.dict hs) (.Dict ks vs pos):=λ A T S H V s env Y K Q E rm fr st hh' q=>by
 have hLT:=st.T_new (ai s.heap.objs.size);have hLS:=st.S_new (ai s.heap.objs.size);generalize hLd:s.heap.objs.size=L at hLT hLS;have stL:=st.newT (dJ [] 0);replace stL:=hLd▸stL;have apL:eY lay.names env [L]:=fr.apartOf λ b hb=>al.mp hb▸⟨hLT,hLS⟩;have xD:du W (reread T [L] (s.heap.push (dJ [] 0))) S H (.dict []) L:=⟨dJ [] 0,Ae (by rw[<- hLd];exact aC _ rfl),[],0,rfl,trivial,rfl, .nil,rfl⟩
 have off:∀c o,T c=some o->c≠L/\reread T [L] (s.heap.push (dJ [] 0)) c=some o:=λ c o e=>by
  have hc:c≠L:=λ h=>by rw[h,hLT] at e;exact dX e
  exact⟨hc,(aJ λ h=>hc (al.mp h)).trans e⟩
 by_cases h0:ks=[]
 ·subst h0;obtain rfl:vs=[]:=cj.mp hl.symm;obtain rfl:hs=[]:=cj.mp hh;refine wpAny_Dict_empty ?_;rw[hLd];exact sP stL xD off (q _ _ (eJ.h (o:= .dict []) hh'.2))
 ·have hn:=pairTrees_length ks vs env pos hall hl;rw[arm_eval_Dict,zip_pairTrees ks vs env pos hall hl,dictDisplay_pairs _ (λ e=>h0 (List.length_eq_zero_iff.mp (by rw[<- hn,e];rfl))) (by rw[hn];lia)]
  refine wb (bf (wb (wb (wpAny_alloc (wb (av ?_))))));refine wy (by rw[hn];lia) ?_
  refine wb (h pos A _ S H V _ env Y _ _ E rm (fr.offOwn apL λ b hb=>aJ hb) stL hh' λ rs V1 S1 H1 us s1 k1 p1 p2 p3 p4=>av ?_);rw[hLd];obtain⟨hlt,k1⟩:=k1;refine aU (zl k1) λ dd h2 k1=>?_;refine wb (vX (λ x r=>match x with|(k,v)=>(do dictSet L k v;pure (ForInStep.yield PUnit.unit))) (λ U U U=>rfl) (rs:=rs) us [] dd _ s1 _ h2 (by unfold lim;simp;lia) (GW rfl rm.units) p4 p3 (xD.mono p1 p2) λ T2 s2 e2 st2 ha2=>?_)
  exact ag (ag (ag (sP st2 ha2 (λ c o e=>⟨(off c o e).1,(e2 c (off c o e).1).trans (off c o e).2⟩) (q.step p1 p2 _ _ k1.h))))
end
section
variable{W:Wd} {P:bQ} {ck:bn} {d:Nat} {lay:cM} {T S:PH} {H:Io} {V:aF} {s:Shared} {A:Around} {E:Value->Shared->Prop}
theorem yx {v:HV} {N:List HV->Prop} {val:Value} {Q:Value->Shared->Prop} (st:St W T S H V s) (h:cw V (λ xs=>xs.length<lim/\N xs) v) (hv:VR W S H v val) (q:∀xs,N xs->Ok W T S H Q (.ref V.length) (V++[.list xs])):wpAny (model W.prog W.w) A (call (.type "list") [val]) Q E s:=by
 have fin:∀{xs:List HV} {a:Addr} {o:Obj} {c:String} {vs:List Value} {n:Nat},(xs.length<lim/\N xs)->(c="list"\/c="tuple")->s.heap.get? a=some o->o.cls= .type c->o.data= .seq vs.toArray n->bW W S H xs vs->wpAny (model W.prog W.w) A (call (.type "list") [.ref a]) Q E s:=by
  intro xs a o c vs n k hc ho h1 h2 r;have hl:=k.1;rw[r.length] at hl;exact call_list_seq a hc ho h1 h2 (λ h' c' kk hn=>gc (vs:=vs) (n:=c') st (ai _) ⟨λ b o U e=>kk b o e,rfl,rfl⟩ hn r (q xs k.2)) (by rw[List.size_toArray,sizeLine_eq];unfold lim at hl;lia)
 induction h with
 |t k=>
  refine iR hv λ a vs n rq1 hS r=>?_;subst rq1;exact fin k (.inr rfl) (st.S_ok _ _ hS) rfl rfl r
 |l hσ k=>
  refine aU hv λ p hp rq1=>?_;subst rq1;refine dP (st.obj _ _ p hσ hp) λ vs n ho r=>?_;exact fin k (.inl rfl) ho rfl rfl r
theorem As {mg mb:Str->Option Value} {x:Str} {px:Pos} {h0:HE} {e:Expr} {pos:Pos} (go:jN W mg mb) (hk:lay.scope.names.lookup x=some .globalImplicit) (hd:(x==("__debug__":Str))=false) (hn:mg x=none) (hv:mb x=some (.type "list"))
  (hp:bk e=true) (he:cL W P ck d lay h0 e):cL W P ck d lay (.listE h0) (.Call (.Name x px) [e] [] pos):=λ A T S H V s env Y K Q E rm fr st h q=>by
 rw[arm_eval_Call_Name',cR (by simp[hp])]
 exact af (fM go fr st hk hd hn hv (d9 gg (cQ (Calls.spliced_cons (he A T S H V s env Y _ _ E rm fr st h λ v V1 k S1 H1 val s1 p1 p2 p3 p4=>
  ag ⟨rfl,dA,yx p3 k p4 λ xs k=>q.step p1 p2 _ _ k.h⟩)))))
theorem vL {a c:Int} {n:Nat}:∀(j:Nat) (vs:List Value),vs.length=n->(∀(i:Nat) (v:Value),vs[i]? =some v->∃t,v=Value.int (a+((j+i:Nat):Int)*c) t)->bW W S H (dq (a+(j:Int)*c) c n) vs:=by
 induction n with
 |zero=>exact λ j vs h U=>by rw[List.length_eq_zero_iff.mp h];trivial
 |succ n ih=>
  intro j vs h hx;rcases vs with _|⟨v,vs⟩
  ·exact nomatch h
  ·have e:a+(j:Int)*c+c=a+((j+1:Nat):Int)*c:=by
    rw[Int.natCast_succ,Int.add_mul,Int.one_mul,Int.add_assoc]
   rw[kI,e];exact⟨hx 0 v rfl,ih (j+1) vs (Nat.succ.inj h) λ i v hi=>by rw[Nat.add_assoc,Nat.add_comm 1];exact hx (i+1) v hi⟩
theorem AH {mg mb:Str->Option Value} {x y:Str} {px py:Pos} {hs:List HE} {es:List Expr} {pos pos':Pos} (go:jN W mg mb) (hk:lay.scope.names.lookup x=some .globalImplicit) (hd:(x==("__debug__":Str))=false) (hn:mg x=none) (hv:mb x=some (.type "list"))
  (hk':lay.scope.names.lookup y=some .globalImplicit) (hd':(y==("__debug__":Str))=false) (hn':mg y=none) (hv':mb y=some (.type "range")) (hp:es.all bk=true) (he:mA W P ck d lay hs es):
  cL W P ck d lay (.listR hs) (.Call (.Name x px) [.Call (.Name y py) es [] pos'] [] pos):=λ A T S H V s env Y K Q E rm fr st h q=>by
 rw[arm_eval_Call_Name',cR rfl];refine af (fM go fr st hk hd hn hv (d9 gg (cQ (Calls.spliced_cons (fN go hk' hd' hn' hv' (λ U=>dA) hp he rm fr st h λ vs V1 k S1 H1 vals s1 p1 p2 p3 p4=>?_)))));refine nQ k p3 p4 λ xs s2 r a b c t u w n ⟨hl,k⟩ hr hsm hs hx st2=>ag ⟨rfl,dA,?_⟩;have hrl:∀n (a:Int),(dq a c n).length=n:=λ n=>by
  induction n with
  |zero=>intro a;rfl
  |succ n ih=>intro a;rw[kI,List.length_cons,ih]
 have hsz:n<lim:=by rw[hx,hrl] at hl;exact hl
 refine call_list_range (n:=n) rm.handled hr hsm hs (by unfold lim at hsz;lia) λ h' tk acc' c' hk2 hn2 hit=>?_
 refine gc (vs:=acc'.toList) (n:=c') st2 (ai _) ⟨λ b o U e=>hk2 b o e,rfl,rfl⟩ hn2 ?_ (q.step p1 p2 _ _ k.h);rw[hx];have:=vL (W:=W) (S:=S1) (H:=H1) (a:=a) (c:=c) (n:=n) 0 acc'.toList (by rw[Array.length_toList];exact hit.1) λ i v hi=>by
  have:=hit.2 i v (by rw[<- Array.getElem?_toList];exact hi)
  rw[Nat.zero_add];exact this
 simpa using this
end
section
variable{W:Wd} {A:Around} {E:Value->Shared->Prop} {s:Shared}
theorem fj {it t:Addr} {i:Nat} {items:Array Value} {x:Value} {Q:Value->Shared->Prop} (hit:s.heap.IsTupleIter it t i) (ht:s.heap.IsTuple t items) (hx:items[i]? =some x)
  (hQ:∀h',h'.IsTupleIter it t (i+1)->Heap.SameBut it s.heap h'->Q x {s with heap:=h'}):wpAny (model W.prog W.w) A (Builtin.SmallTypes.nextOf (.ref it)) Q E s:=by
 refine gn (id hit) λ o ho hc hd=>?_;obtain⟨ol,hol,_,nl,hdl⟩:=ht;refine af (bU (name:=Str.ofString "__next__") hit.typeIs F.slot_tuple_iterator_next
  (aK F.slot_tuple_iterator_next hit.typeIs F.entry_tuple_iterator_next ?_ (F.args_tuple_iterator_next_1 _)))
 show wpAny _ _ (field (.ref it) 0>>=_) _ _ s;refine af (b9 ho hd (x:= .ref t) rfl ?_);rw[if_neg (show¬((Value.ref t==Value.none)=true) from Bool.false_ne_true)];refine af (b9 ho hd (x:= .int i 0) rfl ?_);refine af (cN hol hdl ?_);simp only[Int.toNat_natCast,hx];refine af (wpAny_setField ho hd (by simp) (ag ⟨x,rfl,ag (hQ _ ?_ (eZ ..))⟩))
 exact⟨_,cf _ ho (Obj.isFreed_of_fields (Obj.data_mapFields hd _)),(Obj.cls_mapFields ..).trans hc,by
  rw[Obj.data_mapFields hd];simp[rawInt]⟩
theorem mr {it t:Addr} {i:Nat} {items:Array Value} {Q:Value->Shared->Prop} (hh:A.handled=none) (hit:s.heap.IsTupleIter it t i) (ht:s.heap.IsTuple t items) (hx:items[i]? =none)
  (hE:∀h' e,Heap.ExtBut it s.heap h'->(∃o,h'.get? e=some o/\o.cls= .type "StopIteration")->E (.ref e) {s with heap:=h'}):wpAny (model W.prog W.w) A (Builtin.SmallTypes.nextOf (.ref it)) Q E s:=by
 refine gn (id hit) λ o ho hc hd=>?_;obtain⟨ol,hol,_,nl,hdl⟩:=ht;refine af (bU (name:=Str.ofString "__next__") hit.typeIs F.slot_tuple_iterator_next
  (aK F.slot_tuple_iterator_next hit.typeIs F.entry_tuple_iterator_next ?_ (F.args_tuple_iterator_next_1 _)))
 show wpAny _ _ (field (.ref it) 0>>=_) _ _ s;refine af (b9 ho hd (x:= .ref t) rfl ?_);rw[if_neg (show¬((Value.ref t==Value.none)=true) from Bool.false_ne_true)];refine af (b9 ho hd (x:= .int i 0) rfl ?_);refine af (cN hol hdl ?_);simp only[Int.toNat_natCast,hx];refine af (bO (af (wpAny_setField ho hd (by simp) ?_)))
 refine yy (by exact hh) λ h2 e hk he=>?_
 exact hE h2 e (λ b o hb q=>hk b o ((eZ ..).extBut b o hb q)) he
structure zj (Al:Addr->Prop) (h:Heap) (z TI TO i1 i2 t1 t2:Addr) (xs ys:Array Value) (k:Nat):Prop where
 zip:∃f0 f1,h.get? z=some {cls:= .type "zip",dict:=none,data:= .fields #[f0,f1, .bool false, .ref TI, .ref TO],slots:=#[]}/\(f0= .none\/∃a o,f0=rawInt (a:Nat)/\h.get? a=some o/\Al a/\a≠z/\a≠TO/\a≠i1/\a≠i2)
 ti:IsPair h TI (.ref i1) (.ref i2)
 to:∃a b,IsPair h TO a b
 i1:h.IsTupleIter i1 t1 k
 i2:h.IsTupleIter i2 t2 k
 t1:h.IsTuple t1 xs
 t2:h.IsTuple t2 ys
structure iG (z TI TO i1 i2 t1 t2:Addr):Prop where
 TIz:TI≠z
 TOz:TO≠z
 i1z:i1≠z
 i2z:i2≠z
 TITO:TI≠TO
 TIi1:TI≠i1
 TIi2:TI≠i2
 TOi1:TO≠i1
 TOi2:TO≠i2
 i12:i1≠i2
 t1z:t1≠z
 t1TO:t1≠TO
 t1i1:t1≠i1
 t1i2:t1≠i2
 t2z:t2≠z
 t2TO:t2≠TO
 t2i1:t2≠i1
 t2i2:t2≠i2
theorem ug {z TI TO fa:Addr} {fo:Obj} {f1:Value} {Q:Bool->Shared->Prop} (hz:s.heap.get? z=some {cls:= .type "zip",dict:=none,data:= .fields #[rawInt (fa:Nat),f1, .bool false, .ref TI, .ref TO],slots:=#[]}) (hfa:s.heap.get? fa=some fo)
  (hQ:∀g1 f1',g1.get? z=some {cls:= .type "zip",dict:=none,data:= .fields #[rawInt (fa:Nat),f1', .bool false, .ref TI, .ref TO],slots:=#[]}->Heap.SameBut z s.heap g1->Q false {s with heap:=g1}):
  wpAny (model W.prog W.w) A (Builtin.SmallTypes.ownedTupleIsFree (.ref z)) Q E s:=by
 refine wb (b9 hz rfl (x:=rawInt fa) rfl ?_);refine wb (kdx_alive (o:=fo) hfa (wn (λ e=>qU e) (wb (b9 hz rfl (x:=f1) rfl ?_))));refine wpAny_ite ?_
 split
 ·exact wb (cm hz (by simp) λ g1 hz1 hs1=>ag (hQ g1 (.bool true) hz1 hs1))
 ·exact ag (hQ s.heap f1 hz (Heap.SameBut.refl ..))
theorem IK {X Z:Type} {M:Model} {A:Around} {E:Value->Shared->Prop} {s:Shared} {x:Array X} {b:Z} {f:X->Z->Sem (ForInStep Z)} {Q:Z->Shared->Prop}
  (h:wpAny M A (forIn x.toList b f) Q E s):wpAny M A (forIn x b f) Q E s:=by
 rw[<- Array.forIn_toList];exact h
theorem GT {X Z:Type} {M:Model} {A:Around} {E:Value->Shared->Prop} {s:Shared} {x:X} {xs:List X} {b:Z} {f:X->Z->Sem (ForInStep Z)} {Q:Z->Shared->Prop}
  (h:wpAny M A (f x b>>=λ r=>match r with| .done b=>pure b| .yield b=>forIn xs b f) Q E s):wpAny M A (forIn (x::xs) b f) Q E s:=by
 rw[List.forIn_cons];exact h
theorem z7 {Al:Addr->Prop} {z TI TO i1 i2 t1 t2:Addr} {xs ys:Array Value} {k:Nat} {x y:Value} {Q:Value->Shared->Prop} (D:iG z TI TO i1 i2 t1 t2) (β:zj Al s.heap z TI TO i1 i2 t1 t2 xs ys k) (hx:xs[k]? =some x) (hy:ys[k]? =some y)
  (hQ:∀h' T,zj (λ a=>Al a\/a=T) h' z TI TO i1 i2 t1 t2 xs ys (k+1)->IsPair h' T x y->s.heap.get? T=none->T≠z->T≠TO->T≠i1->T≠i2->(∀c o,c≠z->c≠TO->c≠i1->c≠i2->s.heap.get? c=some o->h'.get? c=some o)->Q (.ref T) {s with heap:=h'}):
  wpAny (model W.prog W.w) A (Builtin.«zip.__next__» ⟨[.ref z],[]⟩) (λ fin s'=>∃v,fin= .done (.ret v)/\Q v s') E s:=by
 obtain⟨⟨f0,f1,hz,hf⟩,hTI,⟨a,b,hTO⟩,h1,h2,ht1,ht2⟩:=β;show wpAny _ _ (field (.ref z) 2>>=_) _ _ _;refine af (b9 hz rfl (x:= .bool false) rfl ?_);refine af (b9 hz rfl (x:= .ref TI) rfl ?_);refine af (cN hTI rfl ?_);rcases hf with rfl|⟨fa,fo,rfl,hfa,hal,n1,n2,n3,n4⟩
 ·refine af ?_;refine af (b9 hz rfl (x:= .none) rfl (ag ?_));refine wy rfl ?_;refine af (bO ?_);refine af (b9 hz rfl (x:= .ref TO) rfl ?_);refine af (cm hz (by simp) λ g1 hz1 hs1=>?_)
  refine af ?_;refine GT ?_;refine af (af (wpAny_onRaise ?_));refine af (fj (h1.extBut hs1.extBut D.i1z) (ht1.extBut hs1.extBut D.t1z) hx λ g2 h12 hs2=>ag ?_);have hTO2:IsPair g2 TO a b:=hs2.extBut _ _ D.TOi1 (hs1.extBut _ _ D.TOz hTO);refine af (cN hTO2 rfl ?_);refine af (wpAny_updateSeq_pair hTO2 λ g3 hTO3 hs3=>?_);replace hTO3:IsPair g3 TO x b:=hTO3;refine af (wpAny_letGo (ag ?_));refine af (af (wpAny_onRaise ?_));show wpAny _ _ (Builtin.SmallTypes.nextOf (.ref i2)>>=_) _ _ _;refine af (fj (((h2.extBut hs1.extBut D.i2z).extBut hs2.extBut D.i12.symm).extBut hs3.extBut D.TOi2.symm)
   (((ht2.extBut hs1.extBut D.t2z).extBut hs2.extBut D.t2i1).extBut hs3.extBut D.t2TO) hy λ g4 h24 hs4=>ag ?_)
  have hTO4:IsPair g4 TO x b:=hs4.extBut _ _ D.TOi2 hTO3;refine af (cN hTO4 rfl ?_);refine af (wpAny_updateSeq_pair hTO4 λ g5 hTO5 hs5=>?_);replace hTO5:IsPair g5 TO x y:=hTO5;refine af (wpAny_letGo (ag (ag ?_)));refine af (cN hTO5 rfl ?_);refine af (wpAny_newTuple ?_);have hsz:g5.objs.size=s.heap.objs.size:=by rw[hs5.1,hs4.1,hs3.1,hs2.1,hs1.1]
  have hz5:=hs5.extBut _ _ D.TOz.symm (hs4.extBut _ _ D.i2z.symm (hs3.extBut _ _ D.TOz.symm (hs2.extBut _ _ D.i1z.symm hz1)));have hk5:∀c o,c≠z->c≠TO->c≠i1->c≠i2->s.heap.get? c=some o->g5.get? c=some o:=λ c o c1 c2 c3 c4 e=>
   hs5.extBut _ _ c2 (hs4.extBut _ _ c4 (hs3.extBut _ _ c2 (hs2.extBut _ _ c3 (hs1.extBut _ _ c1 e))))
  have h15:g5.IsTupleIter i1 t1 (k+1):=((h12.extBut hs3.extBut D.TOi1.symm).extBut hs4.extBut D.i12).extBut hs5.extBut D.TOi1.symm;have h25:g5.IsTupleIter i2 t2 (k+1):=h24.extBut hs5.extBut D.TOi2.symm;have hzlt:z<g5.objs.size:=aW hz5;have hTOlt:TO<g5.objs.size:=aW hTO5;have hi1lt:i1<g5.objs.size:=by refine aU h15 λ _ e _=>?_;exact aW e
  have hi2lt:i2<g5.objs.size:=by refine aU h25 λ _ e _=>?_;exact aW e
  show wpAny _ _ (Builtin.SmallTypes.ownedTupleHandOut (.ref z) (.ref g5.objs.size)>>=_) _ _ _;refine af ?_;unfold Builtin.SmallTypes.ownedTupleHandOut;have hz6:=aq {cls:= .type "tuple",data:= .seq #[x,y]} hz5;refine af (cm hz6 (by simp) λ g7 hz7 hs7=>?_)
  refine cm hz7 (by simp) λ g8 hz8 hs8=>?_
  have up:∀c o,c≠z->g5.get? c=some o->g8.get? c=some o:=λ c o c1 e=>hs8.extBut _ _ c1 (hs7.extBut _ _ c1 (aq _ e));have hT8:IsPair g8 g5.objs.size x y:=hs8.extBut _ _ (aE hzlt) (hs7.extBut _ _ (aE hzlt) (aC _ rfl));refine ag ⟨_,rfl,?_⟩;have up2:∀c o,c≠z->c≠TO->c≠i1->c≠i2->s.heap.get? c=some o->g8.get? c=some o:=λ c o c1 c2 c3 c4 e=>up c o c1 (hk5 c o c1 c2 c3 c4 e);have hTn:s.heap.get? g5.objs.size=none:=by
   rw[hsz]
   induction e:s.heap.get? s.heap.objs.size using Jn with
   |none=>rfl
   |some o=>exact aN (aW e) (bS _)
  refine hQ g8 g5.objs.size ⟨⟨_,_,hz8, .inr ⟨g5.objs.size,_,rfl,hT8, .inr rfl,aE hzlt,aE hTOlt,aE hi1lt,aE hi2lt⟩⟩,up2 _ _ D.TIz D.TITO D.TIi1 D.TIi2 hTI,⟨x,y,up _ _ D.TOz hTO5⟩,
   h15.imp λ o q=>⟨up _ _ D.i1z q.1,q.2⟩,h25.imp λ o q=>⟨up _ _ D.i2z q.1,q.2⟩,ht1.imp λ o q=>⟨up2 _ _ D.t1z D.t1TO D.t1i1 D.t1i2 q.1,q.2⟩,ht2.imp λ o q=>⟨up2 _ _ D.t2z D.t2TO D.t2i1 D.t2i2 q.1,q.2⟩⟩ hT8 hTn
   (aE hzlt) (aE hTOlt) (aE hi1lt) (aE hi2lt) up2
 ·refine af (ug hz hfa λ g1 f1' hz1 hs1=>?_);refine wn aQ ?_;refine af (IK (GT (af (af (av ?_)))));show wpAny _ _ (Builtin.SmallTypes.nextOf (.ref i1)>>=λ v=>pure (some v)) _ _ _;refine af (fj (h1.extBut hs1.extBut D.i1z) (ht1.extBut hs1.extBut D.t1z) hx λ g2 h12 hs2=>ag ?_);refine ag ?_;refine af (af (av ?_));show wpAny _ _ (Builtin.SmallTypes.nextOf (.ref i2)>>=λ v=>pure (some v)) _ _ _;refine af (fj ((h2.extBut hs1.extBut D.i2z).extBut hs2.extBut D.i12.symm) ((ht2.extBut hs1.extBut D.t2z).extBut hs2.extBut D.t2i1) hy λ g4 h24 hs4=>ag ?_);refine ag ?_;refine ag ?_;refine af (wpAny_newTuple (hsz:=by show 2<=sizeLine;rw[sizeLine_eq];decide) ?_)
  have hz4:=hs4.extBut _ _ D.i2z.symm (hs2.extBut _ _ D.i1z.symm hz1);have hk4:∀c o,c≠z->c≠i1->c≠i2->s.heap.get? c=some o->g4.get? c=some o:=λ c o c1 c3 c4 e=>hs4.extBut _ _ c4 (hs2.extBut _ _ c3 (hs1.extBut _ _ c1 e));have h15:g4.IsTupleIter i1 t1 (k+1):=h12.extBut hs4.extBut D.i12;have hsz:g4.objs.size=s.heap.objs.size:=by rw[hs4.1,hs2.1,hs1.1]
  have hTO4:IsPair g4 TO a b:=hk4 _ _ D.TOz D.TOi1 D.TOi2 hTO;have hzlt:z<g4.objs.size:=aW hz4;have hTOlt:TO<g4.objs.size:=aW hTO4;have hi1lt:i1<g4.objs.size:=by refine aU h15 λ _ e _=>?_;exact aW e
  have hi2lt:i2<g4.objs.size:=by refine aU h24 λ _ e _=>?_;exact aW e
  have up:∀c o,g4.get? c=some o->(g4.push {cls:= .type "tuple",data:= .seq #[x,y]}).get? c=some o:=λ c o e=>aq _ e;refine ag ⟨_,rfl,?_⟩;have hTn:s.heap.get? g4.objs.size=none:=by
   rw[hsz]
   induction e:s.heap.get? s.heap.objs.size using Jn with
   |none=>rfl
   |some o=>exact aN (aW e) (bS _)
  refine hQ (g4.push {cls:= .type "tuple",data:= .seq #[x,y]}) g4.objs.size ⟨⟨_,_,up _ _ hz4, .inr ⟨fa,fo,rfl,up _ _ (hk4 _ _ n1 n3 n4 hfa), .inl hal,n1,n2,n3,n4⟩⟩,up _ _ (hk4 _ _ D.TIz D.TIi1 D.TIi2 hTI),⟨a,b,up _ _ hTO4⟩,
   h15.imp λ o q=>⟨up _ _ q.1,q.2⟩,h24.imp λ o q=>⟨up _ _ q.1,q.2⟩,ht1.imp λ o q=>⟨up _ _ (hk4 _ _ D.t1z D.t1i1 D.t1i2 q.1),q.2⟩,ht2.imp λ o q=>⟨up _ _ (hk4 _ _ D.t2z D.t2i1 D.t2i2 q.1),q.2⟩⟩ (aC _ rfl) hTn
   (aE hzlt) (aE hTOlt) (aE hi1lt) (aE hi2lt) λ c o c1 U c3 c4 e=>up _ _ (hk4 c o c1 c3 c4 e)
theorem Dc {Al:Addr->Prop} {z TI TO i1 i2 t1 t2:Addr} {xs ys:Array Value} {k:Nat} {Q:Fin->Shared->Prop} (hh:A.handled=none) (D:iG z TI TO i1 i2 t1 t2) (β:zj Al s.heap z TI TO i1 i2 t1 t2 xs ys k) (hx:xs[k]? =none)
  (hE:∀h' e,(∀c o,c≠z->c≠TO->c≠i1->c≠i2->s.heap.get? c=some o->h'.get? c=some o)->(∃o,h'.get? e=some o/\o.cls= .type "StopIteration")->E (.ref e) {s with heap:=h'}):
  wpAny (model W.prog W.w) A (Builtin.«zip.__next__» ⟨[.ref z],[]⟩) Q E s:=by
 obtain⟨⟨f0,f1,hz,hf⟩,hTI,⟨a,b,hTO⟩,h1,h2,ht1,ht2⟩:=β;show wpAny _ _ (field (.ref z) 2>>=_) _ _ _;refine af (b9 hz rfl (x:= .bool false) rfl ?_);refine af (b9 hz rfl (x:= .ref TI) rfl ?_);refine af (cN hTI rfl ?_);rcases hf with rfl|⟨fa,fo,rfl,hfa,hal,n1,n2,n3,n4⟩
 ·refine af ?_;refine af (b9 hz rfl (x:= .none) rfl (ag ?_));refine wy rfl ?_;refine af (bO ?_);refine af (b9 hz rfl (x:= .ref TO) rfl ?_);refine af (cm hz (by simp) λ g1 hz1 hs1=>?_)
  refine af ?_;refine GT ?_;refine af (af (wpAny_onRaise ?_));refine af (mr hh (h1.extBut hs1.extBut D.i1z) (ht1.extBut hs1.extBut D.t1z) hx λ g2 e hs2 he=>?_);refine aU he λ oe hoe hce=>?_;have hz2:=hs2 _ _ D.i1z.symm hz1;have hez:e≠z:=λ x=>by subst x;rw[hz2] at hoe;cases hoe;simp at hce
  refine cm hz2 (by simp) λ g3 U hs3=>hE g3 e (λ c o c1 U c3 U x=>hs3.extBut _ _ c1 (hs2 _ _ c3 (hs1.extBut _ _ c1 x))) ⟨oe,hs3.extBut _ _ hez hoe,hce⟩
 ·refine af (ug hz hfa λ g1 f1' hz1 hs1=>?_);refine wn aQ ?_;refine af (IK (GT (af (af (av ?_)))));refine af (mr hh (h1.extBut hs1.extBut D.i1z) (ht1.extBut hs1.extBut D.t1z) hx λ g2 e hs2 he=>?_);exact hE g2 e (λ c o c1 U c3 U x=>hs2 _ _ c3 (hs1.extBut _ _ c1 x)) he
theorem oY {Al:Addr->Prop} {z TI TO i1 i2 t1 t2:Addr} {xs ys:Array Value} {k:Nat} {x y:Value} {Q:Option Value->Shared->Prop} (D:iG z TI TO i1 i2 t1 t2) (β:zj Al s.heap z TI TO i1 i2 t1 t2 xs ys k) (hx:xs[k]? =some x) (hy:ys[k]? =some y)
  (hQ:∀h' T,zj (λ a=>Al a\/a=T) h' z TI TO i1 i2 t1 t2 xs ys (k+1)->IsPair h' T x y->s.heap.get? T=none->T≠z->T≠TO->T≠i1->T≠i2->(∀c o,c≠z->c≠TO->c≠i1->c≠i2->s.heap.get? c=some o->h'.get? c=some o)->Q (some (.ref T)) {s with heap:=h'}):
  wpAny (model W.prog W.w) A (pyNext (.ref z)) Q E s:=by
 have hT:s.TypeIs (.ref z) "zip":=by refine dP β.zip λ _ _ hz _=>?_;exact⟨_,hz,rfl⟩
 exact af (wpAny_attempt (bU (name:=Str.ofString "__next__") hT F.slot_zip_next
  (aK F.slot_zip_next hT F.entry_zip_next
   (z7 D β hx hy λ h' T a1 a2 a3 a4 a5 a6 a7 a8=>ag (hQ h' T a1 a2 a3 a4 a5 a6 a7 a8)) (F.args_zip_next_1 _))))
theorem kF {Al:Addr->Prop} {z TI TO i1 i2 t1 t2:Addr} {xs ys:Array Value} {k:Nat} {Q:Option Value->Shared->Prop} (hh:A.handled=none) (D:iG z TI TO i1 i2 t1 t2) (β:zj Al s.heap z TI TO i1 i2 t1 t2 xs ys k) (hx:xs[k]? =none)
  (hQ:∀h',(∀c o,c≠z->c≠TO->c≠i1->c≠i2->s.heap.get? c=some o->h'.get? c=some o)->Q none {s with heap:=h'}):wpAny (model W.prog W.w) A (pyNext (.ref z)) Q E s:=by
 have hT:s.TypeIs (.ref z) "zip":=by refine dP β.zip λ _ _ hz _=>?_;exact⟨_,hz,rfl⟩
 refine af (wpAny_attempt (bU (name:=Str.ofString "__next__") hT F.slot_zip_next
  (aK F.slot_zip_next hT F.entry_zip_next (Dc hh D β hx λ h' e hk he=>?_) (F.args_zip_next_1 _))))
 refine aU he λ o ho hc=>?_;refine af (bB (T:="StopIteration") (b:=true) ⟨o,ho,hc⟩ isSubtype_stop ?_);exact ag (hQ _ hk)
noncomputable abbrev GU (h:Heap) (l1:Addr):Heap:=h.push {cls:= .type "tuple_iterator",data:= .fields #[.ref l1, .int 0 0]}
noncomputable abbrev GK (h:Heap) (l1 l2:Addr):Heap:=(GU h l1).push {cls:= .type "tuple_iterator",data:= .fields #[.ref l2, .int 0 0]}
noncomputable abbrev GH (h:Heap) (l1 l2:Addr):Heap:=(GK h l1 l2).push {cls:= .type "tuple",data:= .seq #[.ref h.objs.size, .ref (GU h l1).objs.size]}
noncomputable abbrev GN (h:Heap) (l1 l2:Addr):Heap:=(GH h l1 l2).push {cls:= .type "tuple",data:= .seq #[.none, .none]}
noncomputable abbrev Db (h:Heap) (l1 l2:Addr):Heap:=(GN h l1 l2).push {cls:= .type "zip",data:= .fields #[.none, .bool false, .bool false, .ref (GK h l1 l2).objs.size, .ref (GH h l1 l2).objs.size]}
theorem B5 (l1 l2:Addr) (xs ys:Array Value):
  Meets (Builtin.«zip.__new__» ⟨[.type "zip", .ref l1, .ref l2],[]⟩) (λ U R s=>s.heap.IsTuple l1 xs/\s.heap.IsTuple l2 ys/\
   R (.ok (.ret (.ref (GN s.heap l1 l2).objs.size))) {s with heap:=Db s.heap l1 l2}):=
 .of_wp λ prog w A R s h=>by
  obtain⟨hp,g,d,tk,os⟩:=s;refine kB h λ hl1 hl2 h=>?_;have hsub:=sub_zip;have hL1:Heap.IsTuple (Shared.heap ⟨hp,g,d,tk,os⟩) l1 xs:=hl1;have hL2:Heap.IsTuple (Shared.heap ⟨hp.push {cls:= .type "tuple_iterator",data:= .fields #[.ref l1, .int 0 0]},g,d,tk,os⟩) l2 ys:=Heap.IsTuple.push hl2 _
  wp_walk using wpAny_pyIter_tuple hL1,wpAny_pyIter_tuple hL2
  exact⟨_,rfl,h⟩
theorem uy {Al:Addr->Prop} {l1 l2:Addr} {xs ys:Array Value} {Q:Value->Shared->Prop} (hl1:s.heap.IsTuple l1 xs) (hl2:s.heap.IsTuple l2 ys)
  (h:∀h',iG (s.heap.objs.size+4) (s.heap.objs.size+2) (s.heap.objs.size+3) s.heap.objs.size (s.heap.objs.size+1) l1 l2->zj Al h' (s.heap.objs.size+4) (s.heap.objs.size+2) (s.heap.objs.size+3) s.heap.objs.size (s.heap.objs.size+1) l1 l2 xs ys 0->
   (∀c o,s.heap.get? c=some o->h'.get? c=some o)->Q (.ref (s.heap.objs.size+4)) {s with heap:=h'}):
  wpAny (model W.prog W.w) A (call (.type "zip") [.ref l1, .ref l2]) Q E s:=by
 refine callType_new F.called_zip (by decide) (F.typeCall_zip_2 _ _) (F.newCall_zip_2 _ _) (λ obj=>F.args_object_init_3 obj _ _) F.entry_zip_new
  (B5 l1 l2 xs ys) ⟨hl1,hl2,?_⟩
 have z1:(GU s.heap l1).objs.size=s.heap.objs.size+1:=Heap.size_push ..;have z2:(GK s.heap l1 l2).objs.size=s.heap.objs.size+2:=by rw[Heap.size_push,z1]
 have z3:(GH s.heap l1 l2).objs.size=s.heap.objs.size+3:=by rw[Heap.size_push,z2]
 have z4:(GN s.heap l1 l2).objs.size=s.heap.objs.size+4:=by rw[Heap.size_push,z3]
 have g5:(Db s.heap l1 l2).get? (GN s.heap l1 l2).objs.size=some _:=aC _ rfl;have g4:(Db s.heap l1 l2).get? (GH s.heap l1 l2).objs.size=some _:=aq _ (aC _ rfl);have g3:(Db s.heap l1 l2).get? (GK s.heap l1 l2).objs.size=some _:=aq _ (aq _ (aC _ rfl));have g2:(Db s.heap l1 l2).get? (GU s.heap l1).objs.size=some _:=aq _ (aq _ (aq _ (aC _ rfl)));have g1:(Db s.heap l1 l2).get? s.heap.objs.size=some _:=aq _ (aq _ (aq _ (aq _ (aC _ rfl))));have hk:∀c o,s.heap.get? c=some o->(Db s.heap l1 l2).get? c=some o:=λ c o x=>
  aq _ (aq _ (aq _ (aq _ (aq _ x))))
 rw[z2,z3,z4] at g5;rw[z1,z2] at g3;rw[z3] at g4;rw[z1] at g2;rw[z4];have b1:l1<s.heap.objs.size:=by refine aU hl1 λ _ e _=>?_;exact aW e
 have b2:l2<s.heap.objs.size:=by refine aU hl2 λ _ e _=>?_;exact aW e
 have ne:∀{a b:Nat},a≠b->(a:Addr)≠b:=λ h=>h;refine⟨⟨_,g5,rfl⟩,h _ ?_ ⟨⟨_,_,g5, .inl rfl⟩,g3,⟨_,_,g4⟩,⟨_,g1,rfl,rfl⟩,⟨_,g2,rfl,rfl⟩,hl1.imp λ o q=>⟨hk _ _ q.1,q.2⟩,hl2.imp λ o q=>⟨hk _ _ q.1,q.2⟩⟩ hk⟩;generalize s.heap.objs.size=n at b1 b2 ⊢;constructor<;>(intro e;unfold Addr at*;lia)
end
theorem pU:entryFor table "zip.__getattribute__"=some Builtin.«object.__getattribute__»:=
 entryFor_alias (id':="object.__getattribute__") (by kernel_rfl) (by first|rfl|decide+kernel) (by decide+kernel) (by kernel_rfl)
theorem qQ:typeLookup (.type "zip") "keys"=pure none:=by rw[typeLookup_type,builtinLookup_eq_fast];kernel_rfl
theorem oo:typeLookup (.type "zip") "__getattr__"=pure none:=by rw[typeLookup_type,builtinLookup_eq_fast];kernel_rfl
theorem gB:Slot "zip" "__getattribute__" "zip.__getattribute__":=
 .of (owner:="zip") (n:="__getattribute__") (by rw[typeLookup_type,builtinLookup_eq_fast];kernel_rfl) (by decide+kernel) (by decide+kernel) (by decide+kernel)
  (by first|exact .inl (by decide+kernel)|exact .inr (by decide+kernel)) (by rw[isSubtype_type];kernel_rfl)
theorem rL (a b:Value):argsOk "zip.__getattribute__" ⟨[a,b],[]⟩:=by unfold argsOk;kernel_rfl
theorem qR (z:Addr) (vs:Array Value) (u:Tok):
  Meets (Builtin.«object.__getattribute__» ⟨[.ref z, .str "keys" u],[]⟩) (λ A R s=>s.heap.get? z=some {cls:= .type "zip",dict:=none,data:= .fields vs,slots:=#[]}/\raisesAttr (.ref z) "keys" A R s):=
 Meets.of_wp λ prog w A R s hs=>by
  obtain⟨hp,g,d,tk,os⟩:=s;have hz:=hs.1;have hT:(⟨hp,g,d,tk,os⟩:Shared).TypeIs (.ref z) "zip":=⟨_,hz,rfl⟩;have f4:=qQ
  repeat(any_goals(first|assumption|wp_step))
  refine wpAny_raiseAttrError hs.2.1 (λ h' tk' e hx=>?_) ?_
  ·exact hs.2.2 h' tk' e hx
  ·rw[sizeLine_eq];decide+kernel
section
variable{W:Wd} {A:Around} {E:Value->Shared->Prop} {s:Shared}
theorem Aq {z:Addr} {vs:Array Value} {Q:Option Value->Shared->Prop} (hz:s.heap.get? z=some {cls:= .type "zip",dict:=none,data:= .fields vs,slots:=#[]}) (hA:A.handled=none)
  (h:∀h' tk,(∀b o,s.heap.get? b=some o->h'.get? b=some o)->Q none {s with heap:=h',toks:=tk}):
  wpAny (model W.prog W.w) A (getAttr? (.ref z) "keys") Q E s:=by
 obtain⟨hp,g,d,tk,os⟩:=s;have f1:=sub_AttributeError;have f3:=gB.lookup;have f4:=gB.bind (.ref z);have f5:=oo;have hT:∀t,(⟨hp,g,d,t,os⟩:Shared).TypeIs (.ref z) "zip":=λ t=>⟨_,hz,rfl⟩;have hT1:=hT (tk+1);refine wb (wpAny_mkText ?_);refine wb (wpAny_attempt ?_)
 repeat(any_goals(first|assumption|((with_reducible show wpAny _ _ (call (Value.builtin "zip.__getattribute__") _ _) _ _ _);refine call_meets gB (hT _) pU (rL _ _) (qR z vs _) ⟨hz,hA,λ h' tk' e hx=>?_⟩)|wp_step))
 refine Es hx.there λ t' u' he=>?_;unfold getattributeRaised
 repeat(any_goals(first|assumption|wp_step))
 exact h _ _ hx.keeps
end
theorem fb:entryFor table "dict.update.loop"=some Builtin.«dict.update.loop»:=entryFor_of_tree (by kernel_rfl)
theorem de:plainId "dict.update.loop"=true:=by decide+kernel
structure ZT (T S:PH) (z TI TO i1 i2 t1 t2:Addr) (vs us:List Value) (k:Nat):Prop where
 zip:∃f0 f1,T z=some {cls:= .type "zip",dict:=none,data:= .fields #[f0,f1, .bool false, .ref TI, .ref TO],slots:=#[]}/\(f0= .none\/∃a o,f0=rawInt (a:Nat)/\S a=some o)
 ti:T TI=some {cls:= .type "tuple",data:= .seq #[.ref i1, .ref i2]}
 to:∃a b,T TO=some {cls:= .type "tuple",data:= .seq #[a,b]}
 i1:∃o,T i1=some o/\o.cls= .type "tuple_iterator"/\o.data= .fields #[.ref t1, .int k 0]
 i2:∃o,T i2=some o/\o.cls= .type "tuple_iterator"/\o.data= .fields #[.ref t2, .int k 0]
 t1:∃n,S t1=some (dU vs n)
 t2:∃n,S t2=some (dU us n)
section
variable{W:Wd} {P:bQ} {ck:bn} {d:Nat} {lay:cM} {T T' S S':PH} {H:Io} {V:aF} {s:Shared} {A:Around} {E:Value->Shared->Prop} {z TI TO i1 i2 t1 t2:Addr} {vs us:List Value} {k:Nat}
theorem ZT.isT (β:ZT T S z TI TO i1 i2 t1 t2 vs us k):∀b∈[z,TI,TO,i1,i2],∃o,T b=some o:=λ b hb=>by
 refine dP β.zip λ U U h1 U=>?_;refine Es β.to λ U U h3=>?_;refine aU β.i1 λ U h4 U=>?_;refine aU β.i2 λ U h5 U=>?_;simp only[List.mem_cons,List.not_mem_nil,or_false] at hb;rcases hb with rfl|rfl|rfl|rfl|rfl
 ·exact⟨_,h1⟩
 ·exact⟨_,β.ti⟩
 ·exact⟨_,h3⟩
 ·exact⟨_,h4⟩
 ·exact⟨_,h5⟩
theorem ZT.at (st:St W T S H V s) (β:ZT T S z TI TO i1 i2 t1 t2 vs us k):zj (λ a=>∃o,S a=some o) s.heap z TI TO i1 i2 t1 t2 vs.toArray us.toArray k:=by
 have nS:∀{a o b},S a=some o->b∈[z,TI,TO,i1,i2]->a≠b:=λ {a o b} e hb q=>by
  subst q;refine ce (β.isT _ hb) λ x hx=>?_;rw[st.TS _ _ hx] at e;exact nomatch e
 refine dP β.zip λ f0 f1 hz hf=>?_;refine⟨⟨f0,f1,st.T_ok _ _ hz,?_⟩,st.T_ok _ _ β.ti,let⟨a,b,h⟩:=β.to;⟨a,b,st.T_ok _ _ h⟩,let⟨o,h,r⟩:=β.i1;⟨o,st.T_ok _ _ h,r⟩,let⟨o,h,r⟩:=β.i2;⟨o,st.T_ok _ _ h,r⟩,let⟨n,h⟩:=β.t1;gl (st.S_ok _ _ h),let⟨n,h⟩:=β.t2;gl (st.S_ok _ _ h)⟩;rcases hf with h|⟨a,o,e,hS⟩
 ·exact .inl h
 ·exact .inr ⟨a,o,e,st.S_ok _ _ hS,⟨o,hS⟩,nS hS (by simp),nS hS (by simp),nS hS (by simp),nS hS (by simp)⟩
theorem ZT.off (β:ZT T S z TI TO i1 i2 t1 t2 vs us k) (h:∀b∈[z,TI,TO,i1,i2],T' b=T b) (hS:cY S S'):ZT T' S' z TI TO i1 i2 t1 t2 vs us k:=by
 obtain⟨⟨f0,f1,hz,hf⟩,h2,⟨a,b,h3⟩,⟨o4,h4,r4⟩,⟨o5,h5,r5⟩,⟨n6,h6⟩,⟨n7,h7⟩⟩:=β;exact⟨⟨f0,f1,by rw[h _ (by simp)];exact hz,hf.imp id λ ⟨a,o,e,q⟩=>⟨a,o,e,hS _ _ q⟩⟩,by rw[h _ (by simp)];exact h2,⟨a,b,by rw[h _ (by simp)];exact h3⟩,⟨o4,by rw[h _ (by simp)];exact h4,r4⟩,⟨o5,by rw[h _ (by simp)];exact h5,r5⟩,⟨n6,hS _ _ h6⟩,⟨n7,hS _ _ h7⟩⟩
theorem ZT.of {h:Heap} {Al:Addr->Prop} (β:zj Al h z TI TO i1 i2 t1 t2 vs.toArray us.toArray k) (hAl:∀a,Al a->∃o,S a=some o) (h1:∃n,S t1=some (dU vs n)) (h2:∃n,S t2=some (dU us n)):ZT (reread T [z,TI,TO,i1,i2] h) S z TI TO i1 i2 t1 t2 vs us k:=by
 obtain⟨⟨f0,f1,hz,hf⟩,h3,⟨a,b,h4⟩,⟨o5,h5,r5⟩,⟨o6,h6,r6⟩,_,_⟩:=β;refine⟨⟨f0,f1,by rw[bE (by simp)];exact hz,hf.imp id λ hv=>HY hv λ a o e _ q _=>?_⟩,by rw[bE (by simp)];exact h3,⟨a,b,by rw[bE (by simp)];exact h4⟩,⟨o5,by rw[bE (by simp)];exact h5,r5⟩,⟨o6,by rw[bE (by simp)];exact h6,r6⟩,h1,h2⟩
 refine ce (hAl a q) λ x hx=>?_;exact⟨a,x,e,hx⟩
theorem z8 {h':Heap} {vs us:List Value} {n1 n2:Nat} (st:St W T S H V s) (h1:S t1=some (dU vs n1)) (h2:S t2=some (dU us n2)) (β:zj (λ a=>∃o,S a=some o) h' (s.heap.objs.size+4) (s.heap.objs.size+2) (s.heap.objs.size+3) s.heap.objs.size (s.heap.objs.size+1) t1 t2 vs.toArray us.toArray 0)
  (hk:∀c o,s.heap.get? c=some o->h'.get? c=some o):∃T',(∀b,b∉[s.heap.objs.size+4,s.heap.objs.size+2,s.heap.objs.size+3,s.heap.objs.size,s.heap.objs.size+1]->T' b=T b)/\(∀b∈[s.heap.objs.size+4,s.heap.objs.size+2,s.heap.objs.size+3,s.heap.objs.size,s.heap.objs.size+1],T b=none/\S b=none)/\
   St W T' S H V {s with heap:=h'}/\ZT T' S (s.heap.objs.size+4) (s.heap.objs.size+2) (s.heap.objs.size+3) s.heap.objs.size (s.heap.objs.size+1) t1 t2 vs us 0:=by
 have hn:∀b∈[s.heap.objs.size+4,s.heap.objs.size+2,s.heap.objs.size+3,s.heap.objs.size,s.heap.objs.size+1],s.heap.objs.size<=b:=λ b hb=>by
  simp only[List.mem_cons,List.not_mem_nil,or_false] at hb;rcases hb with rfl|rfl|rfl|rfl|rfl<;>first|exact ai _|exact ay _ _
 refine⟨reread T [s.heap.objs.size+4,s.heap.objs.size+2,s.heap.objs.size+3,s.heap.objs.size,s.heap.objs.size+1] h',λ b hb=>aJ hb,λ b hb=>⟨st.T_new (hn b hb),st.S_new (hn b hb)⟩,?_,ZT.of β (λ a h=>h) ⟨n1,h1⟩ ⟨n2,h2⟩⟩;exact st.reread (s':={s with heap:=h'}) (Kp.weak (ex:=λ U=>False) ⟨λ b o U e=>hk b o e,rfl,rfl⟩ λ U f=>f.elim) λ b hb=>⟨st.S_new (hn b hb),st.io_new (hn b hb)⟩
theorem CD (D:iG z TI TO i1 i2 t1 t2) {L:Addr} (hL:L∉[z,TI,TO,i1,i2]) {xs ys:List HV} {vs us:List Value} (hlen:xs.length=ys.length) (hl:ys.length<16) (hh:A.handled=none) (hu:A.units+9<cLine) {d':List (HV×HV)} {res:Value} {R:Result->Shared->Prop}:
  ∀(m k:Nat) (T S:PH) (s:Shared) (acc:List (HV×HV)) (c:Int),xs.length - k=m->k<=xs.length->acc.length<=k->St W T S H V s->ZT T S z TI TO i1 i2 t1 t2 vs us k->bW W S H xs vs->bW W S H ys us->du W T S H (.dict acc) L->eH (xs.drop k) (ys.drop k) acc=some d'->
   (∀T' S' s',cY S S'->(∀b,b≠L->b∉[z,TI,TO,i1,i2]->T' b=T b)->St W T' S' H V s'->du W T' S' H (.dict d') L->R (.ok (.ret res)) s')->
   codeAny (model W.prog W.w) A (.builtin "dict.update.loop" ⟨[.ref L, .ref z, .int c 0,res],[]⟩) R s:=by
 intro m
 induction m with
 |zero=>
  intro k T S s acc c hk hle hak st β hx hy ha hz hR;have hk:k=xs.length:=Hz hk hle;subst hk;rw[List.drop_of_length_le (Nat.le_refl _)] at hz;replace hz:=aA hz;subst hz;have hxl:=hx.length;refine codeAny_builtin fb ?_;rw[Around.under_plainId de _];refine wb (kF (by simp[hh]) D (β.at st) (by simp;lia) λ h' hkp=>?_)
  have hown:=st.ownT β.isT;have st2:=st.reread (s':={s with heap:=h'}) (own:=[z,TI,TO,i1,i2]) ⟨λ b o hb e=>hkp b o (λ q=>hb (by simp[q])) (λ q=>hb (by simp[q])) (λ q=>hb (by simp[q])) (λ q=>hb (by simp[q])) e,rfl,rfl⟩ hown
  exact fm (ag (hR _ S _ (cY.refl S) (λ b U hb=>aJ hb) st2 (ha.off (aJ hL))))
 |succ m ih=>
  intro k T S s acc c hk hle hak st β hx hy ha hz hR;have hlt:k<xs.length:=HG hk;have hlt':k<ys.length:=hlen▸hlt;rw[List.drop_eq_getElem_cons hlt,List.drop_eq_getElem_cons hlt',oj] at hz;by_cases hko:bp xs[k] acc=true
  ·rw[if_pos hko] at hz;refine aU (hx.get (ak hlt)) λ v hv rv=>?_;refine aU (hy.get (ak hlt')) λ u hu' ru=>?_;refine codeAny_builtin fb ?_;rw[Around.under_plainId de _];refine wb (oY D (β.at st) (x:=v) (y:=u) (by simpa using hv) (by simpa using hu') λ h' p β' hp hpn n1 n2 n3 n4 hkp=>?_)
   have hown:=st.ownT β.isT;have hSp:S p=none:=by
    induction e:S p using Jn with
    |none=>rfl
    |some o=>rw[st.S_ok _ _ e] at hpn;exact nomatch hpn
   have hTp:T p=none:=by
    induction e:T p using Jn with
    |none=>rfl
    |some o=>rw[st.T_ok _ _ e] at hpn;exact nomatch hpn
   have hιp:p∉H.map (·.1):=λ q=>by
    refine aU (cC.mp q) λ w hw rq1=>?_;subst rq1;have:=st.io_lt hw;refine ce (ba.mp hw) λ i hi=>?_;have hil:i<V.length:=by rw[<- st.len];exact(ao.mp hi).1
    refine ce ((st.obj i _ w (ak hil) hi).isS) λ x e=>?_;replace hpn:=e▸hpn;cases hpn
   have st2:=st.reread (s':={s with heap:=h'}) (own:=[z,TI,TO,i1,i2]) ⟨λ b o hb e=>hkp b o (λ q=>hb (by simp[q])) (λ q=>hb (by simp[q])) (λ q=>hb (by simp[q])) (λ q=>hb (by simp[q])) e,rfl,rfl⟩ hown
   have hpTI:p≠TI:=by
    rintro rfl;rw[st.T_ok _ _ β.ti] at hpn;exact nomatch hpn
   have hpo:p∉[z,TI,TO,i1,i2]:=by simp[n1,n2,n3,n4,hpTI]
   have st3:=st2.freezeS (a:=p) (o:={cls:= .type "tuple",data:= .seq #[v,u]}) ⟨hSp,by rw[aJ hpo];exact hTp,hιp⟩ hp
   have hS3:cY S (upd S p {cls:= .type "tuple",data:= .seq #[v,u]}):=dN hSp;have β3:ZT (reread T [z,TI,TO,i1,i2] h') (upd S p {cls:= .type "tuple",data:= .seq #[v,u]}) z TI TO i1 i2 t1 t2 vs us (k+1):=by
    refine ZT.of β' (λ a ha=>?_) ?_ ?_
    ·rcases ha with⟨o,ho⟩|rfl
     ·exact⟨o,hS3 _ _ ho⟩
     ·exact⟨_,cH _ _ _⟩
    ·refine ce β.t1 λ n h=>?_;exact⟨n,hS3 _ _ h⟩
    ·refine ce β.t2 λ n h=>?_;exact⟨n,hS3 _ _ h⟩
   have acc3:du W (reread T [z,TI,TO,i1,i2] h') (upd S p {cls:= .type "tuple",data:= .seq #[v,u]}) H (.dict acc) L:=(ha.off (aJ hL)).mono hS3 (ax _);have hpT:Shared.TypeIs {s with heap:=h'} (.ref p) "tuple":=⟨_,hp,rfl⟩;refine wb (av ?_);have hpair:∀{Q:List Value->Shared->Prop} {E:Value->Shared->Prop},Q [v,u] {s with heap:=h'}->wpAny (model W.prog W.w) A.in1 (Builtin.Dict.pairItems (.ref p)) Q E {s with heap:=h'}:=by
    intro Q E hQ;refine wb (wpAny_typeOf hpT ?_);refine wy (by decide) ?_
    refine wb (cN hp rfl (ag hQ))
   refine wb (wpAny_tryCatch (hpair ?_));refine av (yr st3 (by show A.units+1+8<cLine;omega) hko (aj hak (az hlt' (lw hl rfl))) acc3 (rv.mono hS3 (ax _)) (ru.mono hS3 (ax _)) λ T4 s4 e4 st4 acc4=>?_)
   refine ag ⟨plainId_quiet de _,?_⟩;have hdl:=qS xs[k] ys[k] acc;refine ih (k+1) T4 _ s4 _ (c+1) (HN hk) hlt (ah hdl (aX hak)) st4 (β3.off (λ b hb=>e4 b λ q=>hL (q▸hb)) (cY.refl _)) (hx.mono hS3 (ax _)) (hy.mono hS3 (ax _)) acc4 hz λ T5 S5 s5 g1 g2 g3 g4=>hR T5 S5 s5 (hS3.trans g1) (λ b hb1 hb2=>?_) g3 g4;rw[g2 b hb1 hb2,e4 b hb1,aJ hb2]
  ·exact dX ((if_neg hko).symm.trans hz)
theorem qY (D:iG z TI TO i1 i2 t1 t2) {xs ys:List HV} {vs us:List Value} {T0:PH} (hT0:∀b o,T0 b=some o->T b=some o/\b∉[z,TI,TO,i1,i2]) (hlen:xs.length=ys.length) (hl:ys.length<16) (hh:A.handled=none) (hu:A.units+20<cLine) {d':List (HV×HV)} {Q:Value->Shared->Prop}
  (st:St W T S H V s) (β:ZT T S z TI TO i1 i2 t1 t2 vs us 0) (hx:bW W S H xs vs) (hy:bW W S H ys us) (hz:eH xs ys []=some d') (q:Ok W T0 S H Q (.ref V.length) (V++[.dict d'])):wpAny (model W.prog W.w) A (call (.type "dict") [.ref z]) Q E s:=by
 refine callType_codes (Q₁:=λ obj s₁=>obj= .ref s.heap.objs.size/\s₁={s with heap:=s.heap.push {cls:= .type "dict",data:= .dict #[]}}) F.kt_called_dict (F.kt_typeCall_dict_1 _) F.entry_dict_init (kt_code_dict_new _ ⟨rfl,rfl⟩) ?_;rintro obj s₁ ⟨rfl,rfl⟩;have hLT:=st.T_new (ai s.heap.objs.size);have hLS:=st.S_new (ai s.heap.objs.size);have stL:=st.newT (dJ [] 0);have hget:(s.heap.push (dJ [] 0)).get? s.heap.objs.size=some (dJ [] 0):=aC _ rfl;generalize hLd:s.heap.objs.size=L at hLT hLS stL hget ⊢;generalize hs1:({s with heap:=s.heap.push {cls:= .type "dict",data:= .dict #[]}}:Shared)=s1 at stL ⊢;have hget1:s1.heap.get? L=some (dJ [] 0):=by rw[<- hs1];exact hget
 have hLz:L∉[z,TI,TO,i1,i2]:=λ hm=>by
  refine ce (β.isT L hm) λ o e=>?_;replace e:=hLT▸e;exact nomatch e
 have stL':St W (reread T [L] (s.heap.push (dJ [] 0))) S H V s1:=stL;have β1:ZT (reread T [L] (s.heap.push (dJ [] 0))) S z TI TO i1 i2 t1 t2 vs us 0:=β.off (λ b hb=>aJ (by simp;rintro rfl;exact hLz hb)) (cY.refl _)
 have acc1:du W (reread T [L] (s.heap.push (dJ [] 0))) S H (.dict []) L:=⟨dJ [] 0,by rw[bE (by simp)];exact hget,[],0,rfl,trivial,rfl, .nil,rfl⟩
 have hTy:s1.TypeIs (.ref L) "dict":=⟨_,hget1,rfl⟩;refine⟨hTy,F.args_dict_init_2 _ _,?_⟩;refine wb ?_;refine wb (wpAny_notOrdered_dict hTy ?_);refine ag ?_;show wpAny _ _ (Builtin.Dict.updateFrom "dict.__init__" L (.ref z) [] .none) _ _ _;refine dP β1.zip λ f0 f1 hzz hf0=>?_;have hz1:=stL'.T_ok _ _ hzz;have hTz:s1.TypeIs (.ref z) "zip":=⟨_,hz1,rfl⟩;refine wb (wpAny_typeOf hTz ?_);refine wy (by decide) ?_
 refine wb (Aq hz1 (by simp[hh]) λ h' tk hk=>?_)
 have st2:St W (reread T [L] (s.heap.push (dJ [] 0))) S H V {s1 with heap:=h',toks:=tk}:=stL'.same ⟨λ b o U e=>hk b o e,rfl,rfl⟩;refine wb (bO ?_);have hz2:h'.get? z=some _:=hk _ _ hz1;have hTz2:Shared.TypeIs {s1 with heap:=h',toks:=tk} (.ref z) "zip":=⟨_,hz2,rfl⟩;refine wb (wpAny_pyIter_slot hTz2 F.slot_zip_iter (aK F.slot_zip_iter hTz2 F.entry_zip_iter ?_ (F.args_zip_iter_1 _)));refine ag ⟨_,rfl,"zip",_,hTz2,F.slot_zip_next.lookup,?_⟩;refine ag ⟨plainId_quiet de _,CD D hLz hlen hl (by simp[hh]) (by show A.units+1+9<cLine;lia) xs.length 0 _ S _ [] 0 (Nat.sub_zero _) (aO _) (aO _) st2 β1 hx hy acc1 hz λ T' S' s' g1 g2 g3 g4=>⟨rfl,?_⟩⟩
 refine sP g3 g4 (λ c o e=>?_) (q.step g1 (ax _));refine cO (hT0 c o e) λ e1 e2=>?_;have hc:c≠L:=by rintro rfl;replace e1:=hLT▸e1;exact nomatch e1
 exact⟨hc,by rw[g2 c hc e2,aJ (by simpa using hc)];exact e1⟩
theorem ID {vs:List HV} {F:HV->HV->Prop} (h:match vs with|[u,v]=>F u v|_=>False):∃u v,vs=[u,v]/\F u v:=by
 induction vs using Jo with
 |nil=>exact h.elim
 |cons u vs=>induction vs using Jo with
  |nil=>exact h.elim
  |cons v vs=>induction vs using Jo with
   |nil=>exact⟨u,v,rfl,h⟩
   |cons _ _=>exact h.elim
theorem z9 {mg mb:Str->Option Value} {x y:Str} {px py:Pos} {h1 h2:HE} {e1 e2:Expr} {pos pos':Pos} (go:jN W mg mb) (hk:lay.scope.names.lookup x=some .globalImplicit) (hd:(x==("__debug__":Str))=false) (hn:mg x=none) (hv:mb x=some (.type "dict"))
  (hk':lay.scope.names.lookup y=some .globalImplicit) (hd':(y==("__debug__":Str))=false) (hn':mg y=none) (hv':mb y=some (.type "zip")) (p1:bk e1=true) (p2:bk e2=true) (he1:cL W P ck d lay h1 e1) (he2:cL W P ck d lay h2 e2):
  cL W P ck d lay (.dictZ h1 h2) (.Call (.Name x px) [.Call (.Name y py) [e1,e2] [] pos'] [] pos):=λ A T S H V s env Y K Q E rm fr st h q=>by
 rw[arm_eval_Call_Name',cR rfl];refine wb (fM go fr st hk hd hn hv (d9 gg (cQ (Calls.spliced_cons (fN (K:=λ vs V=>match vs with|[u,v]=>GY V K u v|_=>False) go hk' hd' hn' hv' (λ U=>dA) (by simp[p1,p2]) (gV he1 (gV he2 pY)) rm fr st h λ vs0 V1 k0 S1 H1 vals s1 g1 g2 g3 g4=>?_)))))
 refine dP (ID k0) λ x0 y0 rq1 k0=>?_;subst rq1;refine dL (kH g4) λ v1 v2 rq1 w1 w2=>?_;subst rq1;clear g4
 induction k0 with
 |mk q3 q4 q5 kk=>
  refine iR w1 λ a1 vs n1 rq1 hS1 r1=>?_;subst rq1;refine iR w2 λ a2 us n2 rq1 hS2 r2=>?_;subst rq1;refine uy (Al:=λ a=>∃o,S1 a=some o) (gl (g3.S_ok _ _ hS1)) (gl (g3.S_ok _ _ hS2)) λ h' D β hkp=>?_;refine Bx (z8 g3 hS1 hS2 β hkp) λ T' k1 k2 k3 k4=>?_;refine ag ⟨rfl,dA,qY (T0:=T) D (λ b o e=>?_) q3 q4 rm.handled (GW rfl rm.units) k3 k4 r1 r2 q5 (q.step g1 g2 _ _ kk)⟩;have hb:b∉[s1.heap.objs.size+4,s1.heap.objs.size+2,s1.heap.objs.size+3,s1.heap.objs.size,s1.heap.objs.size+1]:=λ hm=>by rw[(k2 b hm).1] at e;exact nomatch e
  exact⟨(k1 b hb).trans e,hb⟩
theorem Dj {mg mb:Str->Option Value} {y:Str} {py:Pos} {h1 h2:HE} {e1 e2 te:Expr} {t:HT} {b:List HS} {eb:List Stmt} {pos pos':Pos} (go:jN W mg mb) (hk':lay.scope.names.lookup y=some .globalImplicit) (hd':(y==("__debug__":Str))=false) (hn':mg y=none) (hv':mb y=some (.type "zip"))
  (p1:bk e1=true) (p2:bk e2=true) (he1:cL W P ck d lay h1 e1) (he2:cL W P ck d lay h2 e2):ln W P ck d lay (.for_ t (.zip h1 h2) b) (.For te (.Call (.Name y py) [e1,e2] [] pos') eb [] pos):=λ A T S H V s env Y N R Q E rm fr st h qn qr=>by
 refine wpAny_For (fN (K:=λ vs V=>match vs with|[u,v]=>u= .t []/\v= .t []/\∃n,mx (.zip [] []) (λ v Y V N=>oF (fP Y t v) λ Y=>kL P ck b Y V N R) n 0 Y V N|_=>False) go hk' hd' hn' hv' (λ U=>dA) (by simp[p1,p2]) (gV he1 (gV he2 pY)) rm fr st h λ vs0 V1 k0 S1 H1 vals s1 g1 g2 g3 g4=>?_) (λ U=>rfl)
 refine HY (ID k0) λ x0 y0 rq1 rq2 rq3 hz5=>?_;refine ce hz5 λ n k0=>?_;subst rq1;subst rq2;subst rq3;have kN:N Y V1:=by
  induction n using Jq with
  |zero=>exact k0.elim
  |succ n=>cases k0;assumption
 refine dL (kH g4) λ v1 v2 rq1 w1 w2=>?_;subst rq1;refine iR w1 λ a1 vs n1 rq1 hS1 r1=>?_;subst rq1;refine iR w2 λ a2 us n2 rq1 hS2 r2=>?_;subst rq1;replace hS1:=r1.nil▸hS1;refine uy (Al:=λ a=>∃o,S1 a=some o) (gl (g3.S_ok _ _ hS1)) (gl (g3.S_ok _ _ hS2)) λ h' D β hkp=>?_;refine dP β.zip λ U U hz U=>?_;have hTz:Shared.TypeIs {s1 with heap:=h'} (.ref (s1.heap.objs.size+4)) "zip":=⟨_,hz,rfl⟩;refine wpAny_pyIter_slot hTz F.slot_zip_iter (aK F.slot_zip_iter hTz F.entry_zip_iter ?_ (F.args_zip_iter_1 _));refine ag ⟨_,rfl,"zip",_,hTz,F.slot_zip_next.lookup,codeAny_forLoop_any (λ n s0=>s0={s1 with heap:=h'}) ?_ 0 rfl⟩;rintro n s0 rfl;refine kF rm.handled D β (rfl) λ h2 hk2=>?_;have st2:St W T S1 H1 V1 {s1 with heap:=h2}:=by
  refine g3.same ⟨λ b o U e=>?_,rfl,rfl⟩;have hb:=aW e;have ne:∀n,s1.heap.objs.size<=n->b≠n:=λ n hn q=>aN (q▸hb) (bF.mpr hn);exact hk2 b o (ne _ (ay _ _)) (ne _ (ay _ _)) (ne _ (ai _)) (ne _ (ay _ _)) (hkp b o e)
 exact wpAny_execs_nil (qn _ _ T S1 H1 _ kN (.of g1 g2) (fr.mono g1 g2) st2)
end
noncomputable def ey:List (Nat×HV)->bc->Option bc
 |[],Y=>some Y
 |(i,v)::r,Y=>match dS Y i v with
  |some Y'=>ey r Y'
  | .none=> .none
theorem iV {Y Y':bc} {i:Nat} {v:HV} (h:dS Y i v=some Y'):Y'=Y.set i (.val v):=(t9 h).1
theorem BU {Y:bc} {i:Nat} {v:HV} (h:Y[i]? =some .empty\/∃u,Y[i]? =some (.val u)):dS Y i v=some (Y.set i (.val v)):=by
 unfold dS;rcases h with h|⟨u,h⟩<;>rw[h]
theorem yc {Y Y':bc} {i j:Nat} {v w:HV} (hij:i≠j) (h:dS (Y.set i (.val v)) j w=some Y'):∃Y'',dS Y j w=some Y'':=by
 have h:=(t9 h).2;rw[List.getElem?_set_ne hij] at h;exact⟨_,BU h⟩
theorem q9 {Y Y':bc} {i j:Nat} {v w:HV} (hij:i≠j) (h:dS Y j w=some Y'):∃Y'',dS (Y.set i (.val v)) j w=some Y'':=
 ⟨_,BU (by rw[List.getElem?_set_ne hij];exact(t9 h).2)⟩
theorem oU {i:Nat} {v:HV} {l:List (Nat×HV)} {Y Y':bc} (h:ey ((i,v)::l) Y=some Y'):∃Y1,dS Y i v=some Y1/\ey l Y1=some Y':=by
 have h:(match dS Y i v with|some Y'=>ey l Y'| .none=> .none)=some Y':=h
 induction e:dS Y i v using Jn with
 |none=>rw[e] at h;exact dX h
 |some Y1=>rw[e] at h;exact⟨Y1,rfl,h⟩
theorem sO {i:Nat} {v:HV} {l:List (Nat×HV)}:∀{Y Y1 Y':bc},(∀p∈l,p.1≠i)->dS Y i v=some Y1->ey l Y1=some Y'->∃Y2,ey l Y=some Y2/\dS Y2 i v=some Y':=by
 induction l with
 |nil=>exact λ {Y Y1 Y'} U h1 h2=>⟨Y,rfl,h1.trans h2⟩
 |cons p r ih=>
  intro Y Y1 Y' hne h1 h2;obtain⟨j,w⟩:=p;have hji:j≠i:=hne (j,w) (.head _);refine aU (oU h2) λ Y3 h3 h2=>?_;rw[iV h1] at h3;refine ce (yc (Ne.symm hji) h3) λ Y4 h4=>?_;rw[iV h3] at h2;refine ce (q9 (v:=w) hji h1) λ Y5 h5=>?_;rw[<- iV h4] at h5;have e:Y5=(Y.set i (.val v)).set j (.val w):=by rw[iV h5,iV h4,List.set_comm _ _ hji]
  refine aU (ih (λ p hp=>hne p (.tail _ hp)) h5 (e▸h2)) λ Y6 h6 h7=>?_;exact⟨Y6,by show(match dS Y j w with|some Y'=>ey r Y'| .none=> .none)=_;rw[h4];exact h6,h7⟩
theorem wA {m l:List (Nat×HV)}:∀{Y Y1:bc},ey l Y=some Y1->ey (l++m) Y=ey m Y1:=by
 induction l with
 |nil=>exact λ h=>aA h▸rfl
 |cons p l ih=>
  intro Y Y1 h;refine aU (oU (i:=p.1) (v:=p.2) h) λ Y2 h2 h=>?_;refine Eq.trans ?_ (ih h);show(match dS Y p.1 p.2 with|some Y'=>ey (l++m) Y'| .none=> .none)=_
  rw[h2]
theorem vV {l:List (Nat×HV)}:∀{Y Y':bc},(l.map (·.1)).Nodup->ey l Y=some Y'->ey l.reverse Y=some Y':=by
 induction l with
 |nil=>exact λ U h=>h
 |cons p l ih=>
  intro Y Y' nd h;refine cO (List.nodup_cons.mp nd) λ nd1 nd2=>?_;refine aU (oU (i:=p.1) (v:=p.2) h) λ Y1 h1 h=>?_;refine aU (sO (i:=p.1) (λ q hq e=>nd1 (cC.mpr ⟨q,hq,e⟩)) h1 h) λ Y2 h2 h3=>?_;rw[List.reverse_cons,wA (ih nd2 h2)];show(match dS Y2 p.1 p.2 with|some Y'=>ey [] Y'| .none=> .none)=_
  rw[h3];rfl
noncomputable def i9 (L:List Str) (is:List Nat) (xs:List Str):Bool:=decide (is.map (L[·]?)=xs.map some)
section
variable{W:Wd} {P:bQ} {ck:bn} {d:Nat} {lay:cM}
theorem wR {L is xs} (h:i9 L is xs=true):L2 (λ i x=>L[i]? =some x) is xs:=by
 replace h:=bq h
 induction is generalizing xs with
 |nil=>rcases xs with _|_;exact .nil;exact nomatch h
 |cons i is ih=>rcases xs with _|_;exact nomatch h;exact .cons (List.cons.inj h).1 (ih (List.cons.inj h).2)
theorem zr (nd:lay.names.Nodup) {A:Around} {S:PH} {H:Io} {V:aF} {env:Env} {E:Value->Shared->Prop} {is:List Nat} {xs:List Str} (hs:L2 (λ i x=>lay.names[i]? =some x) is xs):∀{vs:List HV} {vals:List Value} {T:PH} {s:Shared} {Y Y':bc} {Q:Unit->Shared->Prop},bb W T S H lay env Y->St W T S H V s->
  bW W S H vs vals->is.length=vs.length->ey (is.zip vs) Y=some Y'->(∀T' s',(∀b,¬mR lay.names env b->T' b=T b)->bb W T' S H lay env Y'->St W T' S H V s'->Q () s')->
  wpAny (model W.prog W.w) A (assignInOrder (xs.map λ n=>bindName env n) vals) Q E s:=by
 induction hs with
 |nil=>
  intro vs vals T s Y Y' Q fr st hv hl h q;rw[List.length_eq_zero_iff.mp hl.symm] at hv;cases hv.nil;exact ag (q T s (λ U U=>rfl) (aA h▸fr) st)
 |@cons i x is xs hx _ ih=>
  intro vs vals T s Y Y' Q fr st hv hl h q
  induction vs using Jo with
  |nil=>exact nomatch hl
  |cons v vs=>
   obtain⟨u,us,rfl,hu,hv⟩:=hv.cons;refine aU (oU h) λ Y1 h1 h=>?_;exact wb (av (wpAny_bindName (gI fr.toFrameT st h1 hx nd hu λ T1 s1 k1 k2 k3=>ih ⟨k2,fr.scope,fr.code⟩ k3 hv (Nat.succ.inj hl) h λ T2 s2 g1 g2 g3=>q T2 s2 (λ b hb=>(g1 b hb).trans (k1 b hb)) g2 g3)))
theorem wc {is:List Nat}:∀{vs:List HV} {Y:bc} {V:aF} {N:bc->aF->Prop},G4 P ck (is.map .x) vs Y V N->is.length=vs.length/\∃Y',ey (is.zip vs) Y=some Y'/\N Y' V:=by
 induction is with
 |nil=>
  intro vs Y V N h
  induction vs using Jo with
  |nil=>exact⟨rfl,_,rfl,h⟩
  |cons _ _=>exact h.elim
 |cons i is ih=>
  intro vs Y V N h
  induction vs using Jo with
  |nil=>exact h.elim
  |cons v vs=>
   refine aU (zl h) λ Y1 h1 h=>?_;refine cO (ih h) λ h2 hz1=>?_;refine aU hz1 λ Y' h3 k=>?_;refine⟨am Nat.succ h2,Y',?_,k⟩;rw[List.zip_cons_cons];exact(am (λ o=>match o with|some Y'=>ey (is.zip vs) Y'| .none=> .none) h1).trans h3
theorem pW:∀{X Z:Type} {l:List X} {m:List Z},l.length=m.length->(l.zip m).reverse=l.reverse.zip m.reverse:=by
 intro X Z l
 induction l with
 |nil=>intro m h;simp
 |cons a l ih=>
  intro m h
  induction m using Jo with
  |nil=>simp at h
  |cons b m=>
   have hl:l.length=m.length:=by simpa using h
   rw[List.zip_cons_cons,List.reverse_cons,List.reverse_cons,List.reverse_cons,ih hl,List.zip_append (by simp[hl])]
   rfl
theorem uU {h:HE} {e:Expr} {is:List Nat} {xs:List Str} {es:List Expr} {k:Nat} {tp pos:Pos} (he:cL W P ck d lay h e) (hsl:i9 lay.names is.reverse xs.reverse=true) (hl:is.length=xs.length) (nd:lay.names.Nodup) (ndi:is.Nodup)
  (hsw:∀env,env.scope=lay.scope->swapsWith e (some (.Tuple es k tp)) pos.line env=pure false) (hst:∀env,env.scope=lay.scope->swappedStores [.Tuple es k tp] e env=pure (some xs)):ln W P ck d lay (.g (.t (is.map .x)) h) (.Assign [.Tuple es k tp] e pos):=λ A T S H V s env Y N R Q E rm fr st hh qn qr=>by
 rw[exec_Assign];refine af (bf ?_);have e1:swapsWithSole [.Tuple es k tp] e pos.line env=pure false:=hsw env fr.scope;rw[e1];refine af (ag ?_);rw[if_neg (by decide)]
 refine af (he A T S H V s env Y _ _ E rm fr st hh λ v V1 k1 S1 H1 val s1 p1 p2 p3 p4=>?_);rw[hst env fr.scope];refine af (ag ?_);show wpAny _ A (do rule "assign.swapped-stores";let items <- unpackItems val xs.length none;assignInOrder (xs.reverse.map λ n=>bindName env n) items.reverse;pure .next) Q E s1
 refine af (bO (af (re p3 rm.handled k1 p4 (λ vs k=>by rw[<- k.1,List.length_map];exact hl.symm) λ vs kv S2 s2 vals g1 g2 g3=>?_)))
 refine cO (wc kv.2) λ h6 hz1=>?_;refine aU hz1 λ Y2 h7 kN=>?_;have h8:=vV (by rw[List.map_fst_zip (by lia)];exact ndi) h7
 rw[pW h6] at h8;have hrev:∀{vs vals},bW W S2 H1 vs vals->bW W S2 H1 vs.reverse vals.reverse:=by
  intro vs
  induction vs with
  |nil=>intro vals g3;rw[g3.nil];trivial
  |cons x xs ih=>
   intro vals g3;refine dL g3.cons λ u us rq1 a b=>?_;subst rq1;rw[List.reverse_cons,List.reverse_cons];exact(ih b).append ⟨a,trivial⟩
 exact af (zr nd (wR hsl) (fr.mono (p1.trans g1) p2) g2 (hrev g3) (by simp[h6]) h8 λ T3 s3 k1 k2 k3=>ag (qn _ _ T3 S2 H1 s3 kN ⟨p1.trans g1,p2,k1⟩ k2 k3))
end
structure Mt where
 strL:List Str
 gOk:HV->Str->Prop
noncomputable def qw:BI->Str
 | .len=>"len"
 | .max=>"max"
 | .min=>"min"
 | .int=>"int"
 | .sorted=>"sorted"
 | .set=>"set"
 | .frozenset=>"frozenset"
 | .tuple=>"tuple"
noncomputable def ow (e:Expr):Bool:=Nat.beq e.ctorIdx 16
noncomputable def tG (e:Expr):Bool:=Nat.beq e.ctorIdx 23
noncomputable def gN (e:Expr):Bool:=Nat.beq e.ctorIdx 7
noncomputable def IO (e:Expr):Bool:=Nat.beq e.ctorIdx 0||Nat.beq e.ctorIdx 3||Nat.beq e.ctorIdx 5||Nat.beq e.ctorIdx 15
noncomputable def Fm:Str->Env->Sem Value->Sem Value:=λ U U m=>m
noncomputable def Ig:Env->Value->Sem Value:=λ U x=>pure x
theorem rx {e:Expr} (h:ow e=false) (x:Str) (env:Env):attributeBase e x env (eval e env)=eval e env:=
 have:attributeBase e=Fm:=by apply vF (λ n=>Nat.beq n 16) h<;>(repeat intro U)<;>first|rfl|exact rO U
 by rw[this];rfl
theorem xA {e:Expr} (h:gN e=false) (env:Env) (x:Value):foldedSetIterable e env x=pure x:=
 have:foldedSetIterable e=Ig:=by apply vF (λ n=>Nat.beq n 7) h<;>(repeat intro U)<;>first|rfl|exact rO U
 by rw[this];rfl
theorem vn {e:Expr} (h:IO e=false) (env:Env) (whole:Sem Value):isTrue e env whole=(do let v <- whole;standAt e.pos;holding [v] (truthy v)):=by
 apply vF (λ n=>Nat.beq n 0||Nat.beq n 3||Nat.beq n 5||Nat.beq n 15) h<;>(repeat intro U)<;>first|rfl|exact rO U
theorem li {op:CmpOp} {e:Expr}:gN e=false->behindInMarks op e=false:=by
 intro h;apply vF (λ n=>Nat.beq n 7) h<;>(repeat intro U)<;>first|rfl|exact rO U
section
variable{C:Expr->Type} [∀e,Inhabited (C e)] (e:Expr)
@[elab_as_elim] noncomputable def uA (f:∀o v p,C (.BoolOp o v p)):C e:=if h:e.ctorIdx=0 then Expr.BoolOp.elim (motive_1:=C) e h f else default
@[elab_as_elim] noncomputable def H2 (f:∀a o b p,C (.BinOp a o b p)):C e:=if h:e.ctorIdx=2 then Expr.BinOp.elim (motive_1:=C) e h f else default
@[elab_as_elim] noncomputable def HA (f:∀o a p,C (.UnaryOp o a p)):C e:=if h:e.ctorIdx=3 then Expr.UnaryOp.elim (motive_1:=C) e h f else default
@[elab_as_elim] noncomputable def EE (f:∀a b c p,C (.IfExp a b c p)):C e:=if h:e.ctorIdx=5 then Expr.IfExp.elim (motive_1:=C) e h f else default
@[elab_as_elim] noncomputable def E3 (f:∀a b p,C (.Dict a b p)):C e:=if h:e.ctorIdx=6 then Expr.Dict.elim (motive_1:=C) e h f else default
@[elab_as_elim] noncomputable def y8 (f:∀a b c p,C (.ListComp a b c p)):C e:=if h:e.ctorIdx=8 then Expr.ListComp.elim (motive_1:=C) e h f else default
@[elab_as_elim] noncomputable def B1 (f:∀a b c d p,C (.DictComp a b c d p)):C e:=if h:e.ctorIdx=10 then Expr.DictComp.elim (motive_1:=C) e h f else default
@[elab_as_elim] noncomputable def Bb (f:∀a b c p,C (.Compare a b c p)):C e:=if h:e.ctorIdx=15 then Expr.Compare.elim (motive_1:=C) e h f else default
@[elab_as_elim] noncomputable def gR (f:∀a b c p,C (.Call a b c p)):C e:=if h:e.ctorIdx=16 then Expr.Call.elim (motive_1:=C) e h f else default
@[elab_as_elim] noncomputable def CX (f:∀a b p,C (.Constant a b p)):C e:=if h:e.ctorIdx=19 then Expr.Constant.elim (motive_1:=C) e h f else default
@[elab_as_elim] noncomputable def wL (f:∀a b p,C (.Attribute a b p)):C e:=if h:e.ctorIdx=20 then Expr.Attribute.elim (motive_1:=C) e h f else default
@[elab_as_elim] noncomputable def D4 (f:∀a b p,C (.Subscript a b p)):C e:=if h:e.ctorIdx=21 then Expr.Subscript.elim (motive_1:=C) e h f else default
@[elab_as_elim] noncomputable def eE (f:∀a p,C (.Name a p)):C e:=if h:e.ctorIdx=23 then Expr.Name.elim (motive_1:=C) e h f else default
@[elab_as_elim] noncomputable def Fi (f:∀a p,C (.List a p)):C e:=if h:e.ctorIdx=24 then Expr.List.elim (motive_1:=C) e h f else default
@[elab_as_elim] noncomputable def qE (f:∀a b p,C (.Tuple a b p)):C e:=if h:e.ctorIdx=25 then Expr.Tuple.elim (motive_1:=C) e h f else default
@[elab_as_elim] noncomputable def B7 (f:∀a b c p,C (.Slice a b c p)):C e:=if h:e.ctorIdx=26 then Expr.Slice.elim (motive_1:=C) e h f else default
end
section
variable{X:Type} {C:List X->Type} [∀e,Inhabited (C e)] (l:List X)
@[elab_as_elim] noncomputable def j7 (f:C []):C l:=match l with|[]=>f|_=>default
@[elab_as_elim] noncomputable def m1 (f:∀a,C [a]):C l:=match l with|[a]=>f a|_=>default
@[elab_as_elim] noncomputable def m2 (f:∀a b,C [a,b]):C l:=match l with|[a,b]=>f a b|_=>default
@[elab_as_elim] noncomputable def Jh {C:List Comprehension->Type} [∀e,Inhabited (C e)] (l:List Comprehension) (f:∀a b c d,C [⟨a,b,c,d⟩]):C l:=match l with|[⟨a,b,c,d⟩]=>f a b c d|_=>default
@[elab_as_elim] noncomputable def IQ {C:Option X->Type} [∀e,Inhabited (C e)] (o:Option X) (f:C none):C o:=match o with|none=>f|_=>default
end
noncomputable def FE:Nat->Expr->List Str
 |0,_=>[]
 |n+1,e=>if tG e then eE e λ x U=>[x] else qE e λ es U U=>es.flatMap (FE n)
noncomputable abbrev OP (p:Prop):Type:=Option (PLift p)
noncomputable def dk (p:Prop) [Decidable p]:OP p:=if h:p then some ⟨h⟩ else .none
noncomputable def bd {p:Prop} {Z:Type} (o:OP p) (f:p->Option Z):Option Z:=match o with|some h=>f h.down| .none=> .none
noncomputable def od {p:Prop} (h:p):OP p:=some ⟨h⟩
theorem OP.ok {p:Prop}:∀{o:OP p},o.isSome=true->p
 |some h,_=>h.down
theorem uw {l:List Str} {n i:Nat} {x:Str} (hi:i<n) (hx:l[i]? =some x):x∈l.take n:=ar (i:=i) (by rw[List.getElem?_take,if_pos hi];exact hx)
theorem Ba {l:List Str} {n i:Nat} {x:Str} (hi:n<=i) (hx:l[i]? =some x):x∈l.drop n:=ar (i:=i - n) (by rw[List.getElem?_drop,Nat.add_sub_of_le hi];exact hx)
noncomputable def Gb (names:List Str) (scope:Scope) (n k:Nat):OP (lX names scope n k):=
 bd (dk (names.length=n+k/\names.Nodup/\scope.kind= .function/\(∀x∈names.take n,scope.names.lookup x=some .local\/(scope.names.lookup x=some .cell/\((cellsFrom 0 scope.names []).lookup x).isSome=true))/\
  ∀x∈names.drop n,scope.names.lookup x=some .free/\((cellsFrom 0 scope.names []).lookup x).isNone=true)) λ h=>
  od ⟨h.1,h.2.1,h.2.2.1,λ U U hi hx=>h.2.2.2.1 _ (uw hi hx),λ U U hi hx=>(h.2.2.2.2 _ (Ba hi hx)).imp_right Option.isNone_iff_eq_none.mp⟩
noncomputable def yI (L:cM) (scope:Scope) (names':List Str) (nl:Nat) (cs:List Nat):OP (mJ L scope names' nl cs):=
 bd (Gb names' scope nl cs.length) λ h0=>bd (dk ((∀x∈names'.take nl,scope.names.lookup x=some .local)/\(∀x∈names'.drop nl,L.scope.names.lookup x≠some .local)/\(∀p∈scope.names,p.2=NameKind.free->p.1∈names'.drop nl)/\
  (∀p∈scope.names,p.2=NameKind.local->scope.names.lookup p.1=some .local)/\i9 L.names cs (names'.drop nl)=true)) λ h=>
  od ⟨h0,λ U U hi hx=>h.1 _ (uw hi hx),λ U U U hj hx=>(by refine aU ((wR h.2.2.2.2).get hj) λ _ e r=>?_;exact aA (e.symm.trans (List.getElem?_drop.trans hx))▸r),h.2.1,h.2.2.1,h.2.2.2.1⟩
structure kt (W:Wd) (P:bQ) (ck:bn) (d:Nat) (K:Frag) (mg mb:Str->Option Value) (M:Mt):Prop where
 ok:iu W P ck d
 dom:d6 P ck
 po:ia W P
 wo:rR W P K
 mo:tL W P
 go:jN W mg mb
 hfn:∀c a k,dM P c a=some k->k<P.funs.length
 strL:M.strL=W.strL
 glob:∀w x,M.gOk w x->∃v,mg x=some v/\VR W (λ a=>W.hb.get? a) [] w v
 bi:∀b,mg (qw b)=none/\mb (qw b)=some (uG b)
 list:mg "list"=none/\mb "list"=some (.type "list")
 dict:mg "dict"=none/\mb "dict"=some (.type "dict")
 zip:mg "zip"=none/\mb "zip"=some (.type "zip")
 range:mg "range"=none/\mb "range"=some (.type "range")
 enum:mg "enumerate"=none/\mb "enumerate"=some (.type "enumerate")
section
noncomputable def HM {p:Prop} (a b:OP p):OP p:=match a with|some h=>some h| .none=>b
variable{W:Wd} {P:bQ} {ck:bn} {d:Nat} {K:Frag} {mg mb:Str->Option Value} {M:Mt} {L:cM}
theorem kE (F:kt W P ck d K mg mb M) {a:Nat} {x:Str} (h:M.strL[a]? =some x):a<W.strL.length/\W.str a=x:=by
 rw[F.strL] at h;exact⟨(ao.mp h).1,by unfold Wd.str;rw[List.getD_eq_getElem?_getD,h];rfl⟩
theorem ld {L':cM} {N:List Str} (h:(N.all λ x=>decide (L'.scope.names.lookup x=some .local))=true):∀x∈N,L'.scope.names.lookup x=some .local:=λ x hx=>by
 simpa using aM.mp h x hx
theorem oq {scope:Scope} {names':List Str} {nl:Nat} {cs:List Nat} (h:mJ L scope names' nl cs):(bK L scope names').names.Nodup:=h.layok.nd
noncomputable def kM {X Z:Type} {G:List X->List Z->Prop} {R:X->Z->Prop} (h0:G [] []) (h1:∀{a as b bs},R a b->G as bs->G (a::as) (b::bs)) (f:∀a b,OP (R a b)):(l:List X)->(m:List Z)->OP (G l m)
 |[],m=>(match m with|[]=>od h0|_::_=> .none)
 |a::as,m=>(match m with|[]=> .none|b::bs=>bd (f a b) λ x=>bd (kM h0 h1 f as bs) λ y=>od (h1 x y))
noncomputable def HB (nd:L.names.Nodup) (N:List Str):(n:Nat)->(t:HT)->(e:Expr)->OP (wJ W L N t e)
 |0,_,_=> .none
 |n+1,t,e=>match t with
  | .x i=>(eE e λ x U=>bd (dk (L.names[i]? =some x)) λ a=>bd (dk (x∈N)) λ b=>od (Cw a nd b))
  | .t ts=>(qE e λ es U U=>bd (dk (es.all bk=true)) λ a=>bd (dk (es.length=ts.length)) λ b=>bd (dk (ts.length<lim)) λ c=>bd (kM (G:=xx W L N) Dw An (HB nd N n) ts es) λ r=>od (E2 a b c r))
noncomputable def Hg (L:cM) (x:Str):Prop:=L.scope.names.lookup x=some .globalImplicit/\(x==("__debug__":Str))=false
noncomputable def nq (L:cM) (x y:Str):OP (x=y/\Hg L y):=bd (dk (x=y)) λ a=>bd (dk (L.scope.names.lookup y=some .globalImplicit)) λ b=>bd (dk ((y==("__debug__":Str))=false)) λ c=>od ⟨a,b,c⟩
section
variable(F:kt W P ck d K mg mb M) (rE:∀L h e,OP (cL W P ck (d+2) L h e)) (rB:∀L h e,OP (pJ W P ck (d+2) L h e))
noncomputable def xU (L:cM) (hs:List HE) (es:List Expr):OP (mA W P ck (d+2) L hs es):=kM pY gV (rE L) hs es
noncomputable def Gj (L:cM) (hs:List HE) (es:List Expr):OP (u0 W P ck (d+2) L hs es):=kM (G:=u0 W P ck (d+2) L) .nil .cons (rE L) hs es
noncomputable def Dp (L:cM) (hs:List HE) (es:List Expr):OP (kc W P ck (d+2) L hs es):=kM (G:=kc W P ck (d+2) L) .nil .cons (rB L) hs es
noncomputable def ET (L:cM) (hs:List HE) (es:List Expr):OP (vM W P ck (d+2) L hs es):=kM (R:=λ h e=>cL W P ck (d+2) L h e/\bk e=true) DK (λ h k=>zZ h.2 h.1 k) (λ h e=>bd (rE L h e) λ a=>bd (dk (bk e=true)) λ b=>od ⟨a,b⟩) hs es
noncomputable def BF (L:cM) (h:HI) (e:Expr):OP (mZ W P ck (d+2) L h e):=match h with
 | .e x=>bd (rE L x e) λ a=>od (Ia a)
 | .rng as=>(gR e λ g es ks U=>j7 ks<|eE g λ x U=>bd (nq L x "range") λ a=>bd (dk (es.all bk=true)) λ b=>bd (xU rE L as es) λ c=>od (by rw[a.1];exact Cl F.go a.2.1 a.2.2 F.range.1 F.range.2 b c))
 | .enum y=>(gR e λ g es ks U=>j7 ks<|eE g λ x U=>m1 es λ e'=>bd (nq L x "enumerate") λ a=>bd (dk (bk e'=true)) λ b=>bd (rE L y e') λ c=>od (by rw[a.1];exact zI F.go a.2.1 a.2.2 F.enum.1 F.enum.2 b c))
 | .zip _ _=> .none
noncomputable def Ho (L:cM) (cs:List Nat):List Str:=cs.filterMap λ i=>L.names[i]?
noncomputable def dG (L:cM) (cs:List Nat) (gens:List Comprehension):List Str:=gens.flatMap (λ g=>FE 4 g.target)++Ho L cs
structure IU (W:Wd) (P:bQ) (ck:bn) (d:Nat) (L L':cM) (N:List Str) (t:HT) (it:HI) (ifs:List HE) (te ite:Expr) (es:List Expr):Prop where
 i:mZ W P ck d L it ite
 s:∀env x,foldedSetIterable ite env x=pure x
 t:wJ W L' N t te
 k:gb it te=true
 b:kc W P ck d L' ifs es
noncomputable def oQ (L L':cM) (nd:L'.names.Nodup) (N:List Str) (t:HT) (it:HI) (ifs:List HE) (te ite:Expr) (es:List Expr):OP (IU W P ck (d+2) L L' N t it ifs te ite es):=
 bd (dk (gN ite=false)) λ a=>bd (BF F rE L it ite) λ b=>bd (HB nd N 4 t te) λ c=>bd (dk (gb it te=true)) λ e=>bd (Dp rB L' ifs es) λ f=>od ⟨b,xA a,c,e,f⟩
noncomputable def I4 (W:Wd) (P:bQ) (ck:bn) (d:Nat) (L:cM) (h:HE) (e:Expr):Prop:=cL W P ck d L h e/\
  ∀{i:Nat} {x:Str} {px pos':Pos},L.names[i]? =some x->L.names.Nodup->(∀env,env.scope=L.scope->swapsWith e (some (.Name x px)) pos'.line env=pure true)->ln W P ck d L (.g (.x i) h) (.Assign [.Name x px] e pos')
noncomputable def BK (L:cM) (nl:Nat) (cs:List Nat) (t:HT) (it:HI) (ifs:List HE) (c:HC) (e:Expr):OP (I4 W P ck (d+2) L (.comp nl cs t it ifs c) e):=y8 e λ elt gens scope p=>match c,gens with
  | .elt hc,[⟨te,ite,es,a⟩]=>bd (dk (a=0)) λ ha=>bd (yI L scope (dG L cs [⟨te,ite,es,a⟩]) nl cs) λ h1=>bd (dk (((dG L cs [⟨te,ite,es,a⟩]).take nl).all (λ x=>decide ((bK L scope (dG L cs [⟨te,ite,es,a⟩])).scope.names.lookup x=some .local))=true)) λ h2=>
    bd (oQ F rE rB L (bK L scope (dG L cs [⟨te,ite,es,a⟩])) (oq (h1)) ((dG L cs [⟨te,ite,es,a⟩]).take nl) t it ifs te ite es) λ c=>bd (rE (bK L scope (dG L cs [⟨te,ite,es,a⟩])) hc elt) λ b=>od (by
     rw[ha] at h1 h2 c b ⊢;exact tW (h1) c.i c.s c.t (ld h2) c.k c.b (Bo b) (Ew ..))
  | .gen t' it' ifs' (.elt hc),[⟨te,ite,es,a⟩,⟨te',ite',es',a'⟩]=>bd (dk (a=0)) λ ha=>bd (dk (a'=0)) λ ha'=>bd (yI L scope (dG L cs [⟨te,ite,es,a⟩,⟨te',ite',es',a'⟩]) nl cs) λ h1=>
    bd (dk (((dG L cs [⟨te,ite,es,a⟩,⟨te',ite',es',a'⟩]).take nl).all (λ x=>decide ((bK L scope (dG L cs [⟨te,ite,es,a⟩,⟨te',ite',es',a'⟩])).scope.names.lookup x=some .local))=true)) λ h2=>
    bd (oQ F rE rB L (bK L scope (dG L cs [⟨te,ite,es,a⟩,⟨te',ite',es',a'⟩])) (oq (h1)) ((dG L cs [⟨te,ite,es,a⟩,⟨te',ite',es',a'⟩]).take nl) t it ifs te ite es) λ c=>
    bd (oQ F rE rB (bK L scope (dG L cs [⟨te,ite,es,a⟩,⟨te',ite',es',a'⟩])) (bK L scope (dG L cs [⟨te,ite,es,a⟩,⟨te',ite',es',a'⟩])) (oq (h1)) ((dG L cs [⟨te,ite,es,a⟩,⟨te',ite',es',a'⟩]).take nl) t' it' ifs' te' ite' es') λ c'=>
    bd (rE (bK L scope (dG L cs [⟨te,ite,es,a⟩,⟨te',ite',es',a'⟩])) hc elt) λ b=>od (by
     rw[ha,ha'] at h1 h2 c c' b ⊢;exact tW (h1) c.i c.s c.t (ld h2) c.k c.b (E8 c'.i c'.s c'.t (ld h2) c'.k c'.b (Bo b) (e:= .ListComp elt [⟨te,ite,es,0⟩,⟨te',ite',es',0⟩] scope p) .l (DP elt te ite te' ite' es es' scope p) rfl) (De ..))
  |_,_=> .none
noncomputable def GD (L:cM) (x:Option HE) (y:Option Expr):OP (yD W P ck (d+2) L x y):=match x,y with
 | .none, .none=>od A4
 |some h,some e=>bd (rE L h e) λ a=>od (zH a)
 |_,_=> .none
noncomputable def BG (L:cM):(hs:List (HE×HE))->(ks:List (Option Expr))->(vs:List Expr)->OP (ks.all (·.isSome)=true/\ks.length=vs.length/\hs.length=ks.length/\wQ W P ck (d+2) L hs ks vs)
 |[],ks,vs=>(match ks,vs with|[],[]=>od ⟨rfl,rfl,rfl,Dq⟩|_,_=> .none)
 |p::hs,ks,vs=>(match ks,vs with
  |some k::ks,v::vs=>bd (rE L p.1 k) λ a=>bd (rE L p.2 v) λ b=>bd (BG L hs ks vs) λ r=>od ⟨r.1,am Nat.succ r.2.1,am Nat.succ r.2.2.1,zw a b r.2.2.2⟩
  |_,_=> .none)
noncomputable def Fp (gOk:∀w x,OP (M.gOk w x)) (L:cM) (h:HE) (e:Expr):OP (cL W P ck (d+2) L h e):=match h with
 | .x i=>(eE e λ x U=>bd (dk (L.names[i]? =some x)) λ a=>bd (dk ((x==("__classdict__":Str))=false)) λ b=>bd (dk ((x==("__debug__":Str))=false)) λ c=>od (C3 a b c))
 | .k w=>HM (eE e λ x U=>bd (nq L x x) λ a=>bd (gOk w x) λ b=>od (by refine aU (F.glob w x b) λ v h1 h2=>?_;exact B4 F.go a.2.1 a.2.2 h1 h2)) (CX e λ c U U=>match w,c with
   | .none, .none=>od DZ
   | .bool b, .bool b'=>bd (dk (b=b')) λ a=>od (by rw[a];exact D7)
   | .int b, .int b'=>bd (dk (b=b')) λ a=>od (by rw[a];exact Fo)
   | .str k, .str s=>bd (dk (M.strL[k]? =some s)) λ a=>od (by rw[<- (kE F a).2];exact Gk (kE F a).1)
   |_,_=> .none)
 | .t hs=>(qE e λ es U U=>bd (dk (hs.length<=100)) λ a=>bd (ET rE L hs es) λ b=>od (ED a b))
 | .list hs=>(Fi e λ es U=>bd (ET rE L hs es) λ b=>od (C8 b))
 | .dict hs=>(E3 e λ ks vs U=>bd (dk (ks.length<16)) λ a=>bd (BG rE L hs ks vs) λ r=>od (Dz r.1 r.2.1 r.2.2.1 a r.2.2.2))
 | .call f as=>(gR e λ g es ks U=>j7 ks<|eE g λ x p=>bd (rE L f (.Name x p)) λ a=>bd (dk (es.all bk=true)) λ b=>bd (xU rE L as es) λ c=>od (td F.ok F.dom F.po F.wo b a c))
 | .m o a as=>(gR e λ g es ks pos=>j7 ks<|wL g λ eo x apos=>bd (dk (M.strL[a]? =some x)) λ h1=>bd (dk (ow eo=false)) λ h2=>bd (dk ((apos.endLine==pos.line)=true\/tG eo=false)) λ h3=>bd (dk (es.length<30)) λ h4=>bd (dk (es.all bk=true)) λ h5=>bd (rE L o eo) λ h6=>bd (xU rE L as es) λ h7=>
    od (by rw[<- (kE F h1).2];exact Ap F.ok F.dom F.po F.wo F.mo F.hfn (kE F h1).1 (rx h2 _) h3 h4 h5 h6 h7))
 | .bi b as=>(gR e λ g es ks U=>j7 ks<|eE g λ x U=>bd (nq L x (qw b)) λ a=>bd (dk (es.all bk=true)) λ h=>bd (xU rE L as es) λ c=>od (by rw[a.1];exact Ip F.go a.2.1 a.2.2 (F.bi b).1 (F.bi b).2 h c))
 | .listE h'=>(gR e λ g es ks U=>j7 ks<|eE g λ x U=>m1 es λ e'=>bd (nq L x "list") λ a=>bd (dk (bk e'=true)) λ b=>bd (rE L h' e') λ c=>od (by rw[a.1];exact As F.go a.2.1 a.2.2 F.list.1 F.list.2 b c))
 | .listR as=>(gR e λ g es ks U=>j7 ks<|eE g λ x U=>m1 es λ e=>gR e λ g es ks U=>j7 ks<|eE g λ y U=>bd (nq L x "list") λ a=>bd (nq L y "range") λ a'=>bd (dk (es.all bk=true)) λ b=>bd (xU rE L as es) λ c=>od (by rw[a.1,a'.1];exact AH F.go a.2.1 a.2.2 F.list.1 F.list.2 a'.2.1 a'.2.2 F.range.1 F.range.2 b c))
 | .dictZ h1 h2=>(gR e λ g es ks U=>j7 ks<|eE g λ x U=>m1 es λ e=>gR e λ g es ks U=>j7 ks<|eE g λ y U=>m2 es λ e1 e2=>bd (nq L x "dict") λ a=>bd (nq L y "zip") λ a'=>bd (dk (bk e1=true)) λ b=>bd (dk (bk e2=true)) λ b'=>bd (rE L h1 e1) λ c=>bd (rE L h2 e2) λ c'=>
    od (by rw[a.1,a'.1];exact z9 F.go a.2.1 a.2.2 F.dict.1 F.dict.2 a'.2.1 a'.2.2 F.zip.1 F.zip.2 b b' c c'))
 | .a o a=>(wL e λ eo x U=>bd (dk (M.strL[a]? =some x)) λ h1=>bd (dk (ow eo=false)) λ h2=>bd (rE L o eo) λ h3=>od (by rw[<- (kE F h1).2];exact Dn F.wo F.hfn (kE F h1).1 (rx h2 _) h3))
 | .sub o i=>(D4 e λ eo ei U=>bd (dk (mE ei=false)) λ a=>bd (rE L o eo) λ b=>bd (rE L i ei) λ c=>od (EZ a b c))
 | .slice o lo hi=>(D4 e λ eo ei U=>B7 ei λ el eu z U=>IQ z<|bd (rE L o eo) λ a=>bd (GD rE L lo el) λ b=>bd (GD rE L hi eu) λ c=>od (AF a b c))
 | .c op l r=>(Bb e λ el os es U=>m1 os λ o1=>m1 es λ er=>bd (dk (o1=fX op)) λ a=>bd (dk (gN er=false)) λ b=>bd (rE L l el) λ c=>bd (rE L r er) λ c'=>od (by rw[a];exact FF (li b) c c'))
 | .cmp2 op₁ op₂ l m r=>(Bb e λ el os es U=>m2 os λ o1 o2=>m2 es λ em er=>bd (dk (o1=fX op₁)) λ a=>bd (dk (o2=fX op₂)) λ a'=>bd (dk (gN er=false)) λ b=>bd (rE L l el) λ c=>bd (rE L m em) λ c'=>bd (rE L r er) λ c''=>od (by rw[a,a'];exact Ct (by show behindInMarks _ _=false;exact li b) c c' c''))
 | .and_ hs=>(uA e λ o es U=>bd (dk (o= .And)) λ ho=>bd (Gj rE L hs es) λ a=>od (ho▸EG a))
 | .or_ hs=>(uA e λ o es U=>bd (dk (o= .Or)) λ ho=>bd (Gj rE L hs es) λ a=>od (ho▸Hc a))
 | .not_ x=>(HA e λ o y U=>bd (dk (o= .Not)) λ ho=>bd (rE L x y) λ a=>od (ho▸Gi a))
 | .ite c a b=>(EE e λ ec ea eb U=>bd (rB L c ec) λ h=>bd (rE L a ea) λ h'=>bd (rE L b eb) λ h''=>od (F4 h h' h''))
 | .bin op l r=>(H2 e λ el o er U=>bd (dk (o=Ck op)) λ a=>bd (rE L l el) λ b=>bd (rE L r er) λ c=>od (by rw[a];exact EJ b c))
 | .neg x=>(HA e λ o y U=>bd (dk (o= .USub)) λ ho=>bd (rE L x y) λ a=>od (ho▸Ep a))
 | .comp nl cs t it ifs c=>bd (BK F rE rB L nl cs t it ifs c e) λ a=>od a.1
 | .dcomp nl cs t it ifs hk hv=>(B1 e λ kx vx gens scope p=>Jh gens λ te ite es a=>bd (dk (a=0)) λ ha=>bd (yI L scope (dG L cs [⟨te,ite,es,a⟩]) nl cs) λ h1=>bd (dk (((dG L cs [⟨te,ite,es,a⟩]).take nl).all (λ x=>decide ((bK L scope (dG L cs [⟨te,ite,es,a⟩])).scope.names.lookup x=some .local))=true)) λ h2=>
    bd (oQ F rE rB L (bK L scope (dG L cs [⟨te,ite,es,a⟩])) (oq (h1)) ((dG L cs [⟨te,ite,es,a⟩]).take nl) t it ifs te ite es) λ c=>bd (rE (bK L scope (dG L cs [⟨te,ite,es,a⟩])) hk kx) λ b=>bd (rE (bK L scope (dG L cs [⟨te,ite,es,a⟩])) hv vx) λ b'=>od (by
     rw[ha] at h1 h2 c b b' ⊢;exact Ao (h1) c.i c.s c.t (ld h2) c.k c.b b b'))
 | .bad=> .none
noncomputable def Fz (L:cM) (h:HE) (e:Expr):OP (pJ W P ck (d+2) L h e):=match h with
 | .not_ x=>(HA e λ o y U=>bd (dk (o= .Not)) λ ho=>bd (rB L x y) λ a=>od (ho▸Ey a))
 | .and_ hs=>(uA e λ o es U=>bd (dk (o= .And)) λ ho=>bd (Dp rB L hs es) λ a=>od (ho▸Fx a))
 | .or_ hs=>(uA e λ o es U=>bd (dk (o= .Or)) λ ho=>bd (Dp rB L hs es) λ a=>od (ho▸Hv a))
 | .ite c a b=>(EE e λ ec ea eb U=>bd (rB L c ec) λ h=>bd (rB L a ea) λ h'=>bd (rB L b eb) λ h''=>od (Ez h h' h''))
 | .c op l r=>(Bb e λ el os es U=>m1 os λ o1=>m1 es λ er=>bd (dk (o1=fX op)) λ a=>bd (dk (gN er=false)) λ b=>bd (rE L l el) λ c=>bd (rE L r er) λ c'=>od (by rw[a];exact FC (li b) c c'))
 | .cmp2 op₁ op₂ l m r=>(Bb e λ el os es U=>m2 os λ o1 o2=>m2 es λ em er=>bd (dk (o1=fX op₁)) λ a=>bd (dk (o2=fX op₂)) λ a'=>bd (dk (gN er=false)) λ b=>bd (rE L l el) λ c=>bd (rE L m em) λ c'=>bd (rE L r er) λ c''=>od (by rw[a,a'];exact CK (by show behindInMarks _ _=false;exact li b) c c' c''))
 |h=>bd (dk (IO e=false)) λ a=>bd (rE L h e) λ b=>od (Hu b (vn a))
end
noncomputable def vP (F:kt W P ck d K mg mb M) (gOk:∀w x,OP (M.gOk w x)):Nat->(∀L h e,OP (cL W P ck (d+2) L h e))×(∀L h e,OP (pJ W P ck (d+2) L h e))
 |0=>(λ U U U=> .none,λ U U U=> .none)
 |n+1=>(Fp F (vP F gOk n).1 (vP F gOk n).2 gOk,Fz (vP F gOk n).1 (vP F gOk n).2)
end
noncomputable def oL (e:Expr):Bool:=Nat.beq e.ctorIdx 8||Nat.beq e.ctorIdx 9||Nat.beq e.ctorIdx 10
theorem pO {e:Expr} (h:oL e=false) (t:Option Expr) (n:Nat) (env:Env):swapsWith e t n env=pure false:=by
 apply vF (λ n=>Nat.beq n 8||Nat.beq n 9||Nat.beq n 10) h<;>(repeat intro U)<;>first|rfl|exact rO U
noncomputable def DQ (ts:List Expr):Nat:=(ts.head?.map (·.pos.line)).getD 0
noncomputable def eS (sc:Scope) (ts:List Expr):List Str:=ts.filterMap λ t=>swappedStores.match_8 (λ U=>Option Str) t (λ id pos=>if(sc.names.lookup id==some .local&&pos.line==DQ ts)=true then some id else none) λ U=>none
section
variable{L:cM} {env:Env}
theorem vY {ts:List Expr} {k:Nat} {p:Pos} {e:Expr} (h:ix e=false):swappedStores [.Tuple ts k p] e env=pure none:=by
 apply vF (λ n=>Nat.beq n 25) h<;>(repeat intro U)<;>first|rfl|exact rO U
noncomputable def tO (e:Expr):Bool:=Nat.beq e.ctorIdx 24
theorem wu {t e:Expr} (h:ix t=false) (h2:tO t=false):swappedStores [t] e env=pure none:=by
 apply vF (λ n=>Nat.beq n 25||Nat.beq n 24) (show(Nat.beq t.ctorIdx 25||Nat.beq t.ctorIdx 24)=false by rw[show Nat.beq t.ctorIdx 25=false from h,show Nat.beq t.ctorIdx 24=false from h2];rfl)<;>(repeat intro U)<;>first|rfl|exact rO U
theorem Bd (e:Expr):bk e=true->swappedStores.match_5 (λ U=>Bool) e (λ U U=>true) (λ U=>false)=false:=by
 intro h;apply vF (λ n=>!Nat.beq n 22) h<;>(repeat intro U)<;>first|rfl|exact qU U
theorem Ag {vs:List Expr} (h:vs.all bk=true):(vs.any λ x=>swappedStores.match_5 (λ U=>Bool) x (λ U U=>true) λ U=>false)=false:=
 List.any_eq_false.mpr λ e he=>zg.mp (Bd e (aM.mp h e he))
theorem vH {ts vs:List Expr} {k k':Nat} {p p':Pos} (hs:env.scope=L.scope) (h:(eS L.scope ts).length≠ts.length\/vs.all (foldedForSure 8)=true):swappedStores [.Tuple ts k p] (.Tuple vs k' p') env=pure none:=by
 unfold swappedStores;dsimp only;generalize hN:List.filterMap _ ts=N;have hn:N=eS L.scope ts:=by
  rw[<- hN];unfold eS DQ Env.kindOf;rw[hs]
 clear hN;subst hn
 split
 ·rfl
 ·split
  ·rfl
  ·split
   ·rfl
   ·rename_i h3;rcases h with h|h
    ·exact aN (by simp[h]) h3
    ·rw[if_pos h]
theorem Cu {ts vs:List Expr} {k k':Nat} {p p':Pos} (hs:env.scope=L.scope) (hk:L.scope.kind= .function) (h1:ts.length=2\/ts.length=3) (h2:vs.length=ts.length) (h3:vs.all bk=true) (h4:(eS L.scope ts).length=ts.length) (h5:(eS L.scope ts).eraseDups.length=(eS L.scope ts).length)
  (h6:vs.all (foldedForSure 8)=false) (h7:vs.all (constantsAlone 8)=false):swappedStores [.Tuple ts k p] (.Tuple vs k' p') env=pure (some (eS L.scope ts)):=by
 have hbk:env.blockKind= .function:=by unfold Env.blockKind;rw[hs,hk];rfl
 unfold swappedStores;dsimp only;generalize hN:List.filterMap _ ts=N;have hn:N=eS L.scope ts:=by
  rw[<- hN];unfold eS DQ Env.kindOf;rw[hs]
 clear hN;subst hn;rw[if_neg (by rw[hbk];rcases h1 with h1|h1<;>simp[h1,h2])]
 refine(if_neg (zg.mp (Ag h3))).trans ?_;rw[if_neg (by simp[h4,h5]),h6,h7]
 rfl
end
noncomputable def tD:HL->Nat
 | .x i=>i
 |_=>0
noncomputable def wH (t:HL):Bool:=Nat.beq t.ctorIdx 0
theorem ye {ts:List HL}:ts.all wH=true->ts=(ts.map tD).map .x:=by
 induction ts with
 |nil=>exact λ U=>rfl
 |cons t r ih=>
  intro h;have h:=aD.mp h;rw[List.map_cons,List.map_cons,<- ih h.2];rcases t<;>first|rfl|exact qU h.1
section
section
variable{C:Stmt->Type} [∀e,Inhabited (C e)] (e:Stmt)
@[elab_as_elim] noncomputable def Gs (f:∀a p,C (.Return a p)):C e:=if h:e.ctorIdx=3 then Stmt.Return.elim (motive_2:=C) e h f else default
@[elab_as_elim] noncomputable def HU (f:∀a b p,C (.Assign a b p)):C e:=if h:e.ctorIdx=5 then Stmt.Assign.elim (motive_2:=C) e h f else default
@[elab_as_elim] noncomputable def Hx (f:∀a b c d p,C (.For a b c d p)):C e:=if h:e.ctorIdx=9 then Stmt.For.elim (motive_2:=C) e h f else default
@[elab_as_elim] noncomputable def CG (f:∀a b c p,C (.While a b c p)):C e:=if h:e.ctorIdx=11 then Stmt.While.elim (motive_2:=C) e h f else default
@[elab_as_elim] noncomputable def IZ (f:∀a b c p,C (.If a b c p)):C e:=if h:e.ctorIdx=12 then Stmt.If.elim (motive_2:=C) e h f else default
@[elab_as_elim] noncomputable def FZ (f:∀a p,C (.Expr a p)):C e:=if h:e.ctorIdx=24 then Stmt.Expr.elim (motive_2:=C) e h f else default
@[elab_as_elim] noncomputable def IV {X:Type} {C:Option X->Type} [∀e,Inhabited (C e)] (o:Option X) (f:∀a,C (some a)):C o:=match o with|some a=>f a|_=>default
end
variable{W:Wd} {P:bQ} {ck:bn} {d:Nat} {K:Frag} {mg mb:Str->Option Value} {M:Mt} {L:cM}
theorem zL {elt:Expr} {gens:List Comprehension} {scope:Scope} {p px:Pos} {x:Str} {n:Nat} {env:Env} (hs:env.scope=L.scope) (h1:L.scope.kind= .function) (h2:L.scope.names.lookup x=some .local) (h3:px.line=p.line) (h4:(scope.names.any λ (q:Str×NameKind)=>q.1==x&&(q.2== .local||q.2== .cell))=false):
  swapsWith (.ListComp elt gens scope p) (some (.Name x px)) n env=pure true:=by
 have hbk:env.blockKind= .function:=by unfold Env.blockKind;rw[hs,h1];rfl
 have hk:env.kindOf x=some .local:=by unfold Env.kindOf;rw[hs];exact h2
 show(pure (env.blockKind== .function&&env.kindOf x==some .local&&px.line==p.line&&!(scope.names.any λ (q:Str×NameKind)=>q.1==x&&(q.2== .local||q.2== .cell))):Sem Bool)=pure true;rw[hbk,hk,h3,h4];simp
theorem Fj {e:Stmt}:ln W P ck d L .bad e:=λ U U U U U U U U U U U U U U U h U U=>h.elim
noncomputable def xR (L:cM) (te e:Expr):OP (∀env,env.scope=L.scope->swappedStores [te] e env=pure none):=
 if h:ix te=false/\tO te=false then od λ U U=>wu h.1 h.2 else qE te λ ts U U=>if h:ix e=false then od λ U U=>vY h else
  qE e λ vs U U=>bd (dk ((eS L.scope ts).length≠ts.length\/vs.all (foldedForSure 8)=true)) λ h=>od λ U hs=>vH hs h
section
variable(F:kt W P ck d K mg mb M) (rE:∀L h e,OP (cL W P ck (d+2) L h e)) (rB:∀L h e,OP (pJ W P ck (d+2) L h e))
noncomputable def It (L:cM) (nd:L.names.Nodup):(n:Nat)->(t:HL)->(e:Expr)->OP (DG W P ck (d+2) L t e)
 |0,_,_=> .none
 |n+1,t,e=>match t with
  | .x i=>(eE e λ x U=>bd (dk (L.names[i]? =some x)) λ a=>od (CB a nd))
  | .t ts=>(qE e λ es U U=>bd (dk (es.all bk=true)) λ a=>bd (dk (es.length=ts.length)) λ b=>bd (kM (G:=wT W P ck (d+2) L) Dm Be (It L nd n) ts es) λ r=>od (Eu a b r))
  | .a o a=>(wL e λ eo x U=>bd (dk (M.strL[a]? =some x)) λ h=>bd (rE L o eo) λ c=>od (by rw[<- (kE F h).2];exact Cp F.wo (kE F h).1 c))
  | .sub o i=>(D4 e λ eo ei U=>bd (rE L o eo) λ a=>bd (rE L i ei) λ b=>od (F8 a b))
noncomputable def Hj (L:cM) (nd:L.names.Nodup) (t:HL) (h:HE) (te e:Expr) (pos:Pos):OP (ln W P ck (d+2) L (.g t h) (.Assign [te] e pos)):=
 bd (dk (bk te=true)) λ a=>bd (rE L h e) λ b=>bd (It F rE L nd 4 t te) λ c=>bd (xR L te e) λ q=>
  bd (dk (oL e=false)) λ h=>od (Ft a b c (λ U U=>pO h _ _ _) q)
noncomputable def HD (L:cM) (nd:L.names.Nodup) (t:HL) (h:HE) (te e:Expr) (pos:Pos):OP (ln W P ck (d+2) L (.g t h) (.Assign [te] e pos)):=qE te λ ts U U=>qE e λ vs k' p'=>match t with
  | .t hs=>bd (dk (hs.all wH=true)) λ hsl=>bd (rE L h (.Tuple vs k' p')) λ h1=>bd (dk (L.scope.kind= .function/\(ts.length=2\/ts.length=3)/\vs.length=ts.length/\vs.all bk=true/\(eS L.scope ts).length=ts.length/\(eS L.scope ts).eraseDups.length=(eS L.scope ts).length)) λ h2=>
    bd (dk (vs.all (foldedForSure 8)=false/\vs.all (constantsAlone 8)=false)) λ h3=>bd (dk (i9 L.names (hs.map tD).reverse (eS L.scope ts).reverse=true/\(hs.map tD).length=(eS L.scope ts).length/\(hs.map tD).Nodup)) λ h4=>
    od (by rw[ye hsl];exact uU h1 h4.1 h4.2.1 nd h4.2.2 (λ U U=>pO rfl _ _ _) λ U hs=>Cu hs h2.1 h2.2.1 h2.2.2.1 h2.2.2.2.1 h2.2.2.2.2.1 h2.2.2.2.2.2 h3.1 h3.2)
  |_=> .none
noncomputable def H7 (L:cM) (nd:L.names.Nodup) (t:HL) (h:HE) (te e:Expr) (pos:Pos):OP (ln W P ck (d+2) L (.g t h) (.Assign [te] e pos)):=
 if hh:h.ctorIdx=22 then HE.comp.elim (motive_1:=λ h=>OP (ln W P ck (d+2) L (.g t h) (.Assign [te] e pos))) h hh λ nl cs tt it ifs c=>
 if ht:t.ctorIdx=0 then HL.x.elim (motive_1:=λ t=>OP (ln W P ck (d+2) L (.g t (.comp nl cs tt it ifs c)) (.Assign [te] e pos))) t ht λ i=>y8 e λ elt gens scope p=>eE te λ x px=>bd (BK F rE rB L nl cs tt it ifs c (.ListComp elt gens scope p)) λ a=>bd (dk (L.names[i]? =some x)) λ b=>bd (dk (L.scope.kind= .function/\L.scope.names.lookup x=some .local/\px.line=p.line)) λ h1=>
    bd (dk ((scope.names.any λ (q:Str×NameKind)=>q.1==x&&(q.2== .local||q.2== .cell))=false)) λ h2=>od (a.2 b nd λ U hs=>zL hs h1.1 h1.2.1 h1.2.2 h2)
 else .none else .none
noncomputable def Gl (rS:∀h e,OP (ln W P ck (d+2) L h e)) (nd:L.names.Nodup) (h:HS) (s:Stmt):OP (ln W P ck (d+2) L h s):=match h with
 | .g t h=>(HU s λ ts e pos=>m1 ts λ te=>HM (Hj F rE L nd t h te e pos) (HM (HD rE L nd t h te e pos) (H7 F rE rB L nd t h te e pos)))
 | .if_ c a b=>(IZ s λ ec ea eb U=>bd (rB L c ec) λ h=>bd (kM (G:=rQ W P ck (d+2) L) iE cK rS a ea) λ h1=>bd (kM (G:=rQ W P ck (d+2) L) iE cK rS b eb) λ h2=>od (Hd h h1 h2))
 | .while_ c b=>(CG s λ ec eb z U=>j7 z<|bd (rB L c ec) λ h=>bd (kM (G:=rQ W P ck (d+2) L) iE cK rS b eb) λ h1=>od (Ar h h1))
 | .for_ t it b=>(Hx s λ te e eb z U=>j7 z<|(match it with
   | .zip h1 h2=>(gR e λ g es ks U=>j7 ks<|eE g λ y U=>m2 es λ e1 e2=>bd (nq L y "zip") λ a=>bd (dk (bk e1=true/\bk e2=true)) λ b=>bd (rE L h1 e1) λ c=>bd (rE L h2 e2) λ c'=>od (by rw[a.1];exact Dj F.go a.2.1 a.2.2 F.zip.1 F.zip.2 b.1 b.2 c c'))
   |it=>bd (dk (gN e=false)) λ a=>bd (BF F rE L it e) λ i=>bd (HB nd L.names 4 t te) λ c=>bd (dk (gb it te=true)) λ k=>bd (kM (G:=rQ W P ck (d+2) L) iE cK rS b eb) λ r=>od (EB i c (λ U h=>h) k r (xA a))))
 | .ret (some h)=>(Gs s λ e U=>IV e λ e=>bd (rE L h e) λ a=>od (E4 a))
 | .ret none=>(Gs s λ e U=>IQ e<|od DJ)
 | .expr h=>(FZ s λ e U=>bd (dk (oL e=false)) λ a=>bd (rE L h e) λ b=>od (Cc b λ U=>pO a _ _ _))
 | .def_ .. => .none
 | .bad=>od Fj
end
noncomputable def IH (F:kt W P ck d K mg mb M) (gOk:∀w x,OP (M.gOk w x)) (f:Nat) (nd:L.names.Nodup):Nat->∀h e,OP (ln W P ck (d+2) L h e)
 |0=>λ U U=> .none
 |n+1=>Gl F (vP F gOk f).1 (vP F gOk f).2 (IH F gOk f nd n) nd
end
mutual
noncomputable def IF:(a b:HV)->OP (a=b)
 | .bool x,b=>if hb:b.ctorIdx=1 then HV.bool.elim (motive_1:=λ b=>OP (HV.bool x=b)) b hb λ y=>bd (dk (x=y)) λ h=>od (am _ h) else .none
 | .int x,b=>if hb:b.ctorIdx=2 then HV.int.elim (motive_1:=λ b=>OP (HV.int x=b)) b hb λ y=>bd (dk (x=y)) λ h=>od (am _ h) else .none
 | .str x,b=>if hb:b.ctorIdx=3 then HV.str.elim (motive_1:=λ b=>OP (HV.str x=b)) b hb λ y=>bd (dk (x=y)) λ h=>od (am _ h) else .none
 | .t x,b=>if hb:b.ctorIdx=4 then HV.t.elim (motive_1:=λ b=>OP (HV.t x=b)) b hb λ y=>bd (En x y) λ h=>od (am _ h) else .none
 | .w x,b=>if hb:b.ctorIdx=5 then HV.w.elim (motive_1:=λ b=>OP (HV.w x=b)) b hb λ y=>bd (dk (x=y)) λ h=>od (am _ h) else .none
 | .fn x,b=>if hb:b.ctorIdx=9 then HV.fn.elim (motive_1:=λ b=>OP (HV.fn x=b)) b hb λ y=>bd (dk (x=y)) λ h=>od (am _ h) else .none
 | .cls x,b=>if hb:b.ctorIdx=12 then HV.cls.elim (motive_1:=λ b=>OP (HV.cls x=b)) b hb λ y=>bd (dk (x=y)) λ h=>od (am _ h) else .none
 |_,_=> .none
noncomputable def En:(a b:List HV)->OP (a=b)
 |[],b=>(match b with|[]=>od rfl|_=> .none)
 |x::xs,b=>(match b with|[]=> .none|y::ys=>bd (IF x y) λ h=>bd (En xs ys) λ k=>od (h▸k▸rfl))
end
noncomputable abbrev pw:=PySem.Challenge.pw_sa0452_01
noncomputable def Fc:List (Nat×Option Nat×Option Nat):=
 [5,6,7,8,9,10,11].map (·,none,none)++[(11,none,some 1)]++[12,13,14].map (·,none,none)++[(14,none,some 5),(15,none,none)]++
 [0,3,4].map (17,some ·,none)++[18,19,20,24,25,26,28,29,30,31,32,33,34,35,36,37,38,39,45].map (·,none,none)++
 [0,1,2,3,4,5,6,9].map (46,some ·,none)++[0,1,2,3,4,5,6,7].map (47,some ·,none)++[49,50,51,52,55,56,57,58].map (·,none,none)++
 [0,1,2,3,4].map (59,some ·,none)++[61,62,63].map (·,some 0,none)++[65,66,67,69,70,71,72,73,74,75,76].map (·,none,none)
noncomputable def G8 (l:List Stmt) (i:Nat):Stmt:=l.getD i (.Pass default)
noncomputable def ym {X:Type} (s:Stmt) (z:X) (f:∀(n:Str) (a:Arguments) (b:List Stmt) (d:List Expr) (r:Option Expr) (t:List TypeParam) (c:Scope) (e:Option Scope) (i:Str) (p:Pos),X):X:=if h:s.ctorIdx=0 then Stmt.FunctionDef.elim (motive_2:=λ U=>X) s h f else z
noncomputable def fu (s:Stmt):List Stmt:=if h:s.ctorIdx=2 then Stmt.ClassDef.elim (motive_2:=λ U=>List Stmt) s h λ U U U b U U U U U U U=>b else ym s [] λ U U b U U U U U U U=>b
noncomputable def ee (s:Stmt):Arguments:=ym s default λ U a U U U U U U U U=>a
noncomputable def i6 (s:Stmt):Scope:=ym s default λ U U U U U U c U U U=>c
noncomputable def rX (p:Nat×Option Nat×Option Nat):Stmt:=
 let s:=G8 pw.main.body p.1
 let s:=match p.2.1 with|some j=>G8 (fu s) j|none=>s
 match p.2.2 with|some j=>G8 (fu s) j|none=>s
noncomputable def bZ (k:Nat):Stmt:=rX (Fc.getD k (0,none,none))
noncomputable def H3 (k:Nat):List Str:=(uX.getD k []).map Str.ofString
noncomputable def gQ:List Str:=B2.map Str.ofString
noncomputable def Dr:List (String×HV):=[("parts_of", .fn 0),("rebuilt", .fn 1),("substituted", .fn 2),("with_regions", .fn 3),("no_region", .fn 4),("erased", .fn 5),("regions_in", .fn 6),("matched", .fn 8),("field_rows", .fn 9),("fields_of", .fn 10),("has_drop", .fn 12),("points", .fn 16),("successors", .fn 17),("predecessors", .fn 18),("operands_of", .fn 19),("operands_at", .fn 20),("indices_of", .fn 21),("joined", .fn 22),("through", .fn 23),("solve_forward", .fn 24),("all_facts", .fn 25),("behind_block", .fn 26),("back_to", .fn 27),("solve_backward", .fn 28),("all_facts_before", .fn 29),("looked_at", .fn 30),("written_at", .fn 31),("dropped_at", .fn 32),("turned_at", .fn 33),("has_own_drop", .fn 34),("drop_regions", .fn 51),("dropped_within", .fn 52),("holds_something", .fn 53),("live_regions", .fn 54),("used_locals", .fn 55),("is_return", .fn 56),("dropped_locals", .fn 57),("set_locals", .fn 58),("_law_pool", .fn 67),("_law_take", .fn 68),("_law_one", .fn 69),("_law_part", .fn 70),("_law_world", .fn 71),("_law_type", .fn 72),("_law_events", .fn 73),("_law_body", .fn 74),("_law_lives", .fn 75),("_law_right", .fn 76),("law", .fn 77),("Body", .cls 0),("MovePaths", .cls 1),("Moves", .cls 2),("Liveness", .cls 3),("Adt", .cls 4),("ImplRow", .cls 5),("World", .cls 6),("DROP", .str 17),("READY", .int 0),("MOVED", .int 1),("UNSET", .int 2),("DROPPED", .int 3),("NOTHING", .w []),("_law_u8", .t [.str 8, .str 99])]
noncomputable def w0:List (Str×HV):=Dr.map λ p=>(Str.ofString p.1,p.2)
noncomputable def MT:Mt:=⟨gQ,λ w x=>w0.lookup x=some w⟩
noncomputable def F7 (w:HV) (x:Str):OP (w0.lookup x=some w):=match w0.lookup x with
 |some w'=>bd (IF w' w) λ h=>od (am some h)
 |none=> .none
noncomputable def uc (s:Stmt):Pos:=ym s default λ U U U U U U U U U p=>p
noncomputable def mD (s:Stmt):Str:=ym s default λ n U U U U U U U U U=>n
noncomputable def CP:Addr:=86
noncomputable def zV:Addr:=105
noncomputable def sE (k:Nat):Option (Addr×Str):=if k=6 then some (CP,"regions_in.<locals>.") else if k=10 then some (zV,"fields_of.<locals>.") else none
noncomputable def ci (k:Nat):lQ:=⟨(ee (bZ k)).args.map (·.arg),fu (bZ k),i6 (bZ k),H3 k,sE k⟩
section
variable{W:Wd} {K:Frag} {mg mb:Str->Option Value} {ck:bn} {d:Nat} (F:kt W bg ck d K mg mb MT)
noncomputable def II (k:Nat) (nd:(ci k).layS.names.Nodup):∀h s,OP (ln W bg ck (d+2) (ci k).layS h s):=IH F F7 30 nd 12
noncomputable def Jj (k:Nat) (f:be):OP (rQ W bg ck (d+2) (ci k).layS f.body (fu (bZ k))):=bd (dk (ci k).layS.names.Nodup) λ nd=>kM (G:=rQ W bg ck (d+2) (ci k).layS) iE cK (II F k nd) f.body (fu (bZ k))
noncomputable def A2 (k:Nat) (h:HS) (i:Nat):OP (ln W bg ck (d+2) (ci k).layS h (G8 (fu (bZ k)) i)):=bd (dk (ci k).layS.names.Nodup) λ nd=>II F k nd h _
theorem FA:((List.range 78).all λ k=>k==6||k==10||match funs[k]? with|some f=>(Jj F k f).isSome| .none=>false)=true:=by kernel_rfl
end
noncomputable def I9 (k:Nat) (f:be):Prop:=((ci k).lay.take f.nargs=(ci k).params/\f.nargs<=f.nslots/\(ci k).scope.isCoroutine=false/\(ci k).scope.isGenerator=false/\f.dflts.length<=f.nargs/\f.ncaps<=1/\(f.ncaps=0\/f.dflts.isEmpty=true))/\lX (ci k).lay (ci k).scope f.nslots f.ncaps
noncomputable def FX (k:Nat) (f:be):OP (I9 k f):=bd (dk _) λ a=>bd (Gb (ci k).lay (ci k).scope f.nslots f.ncaps) λ b=>od ⟨a,b⟩
theorem zP:((List.range 78).all λ k=>match funs[k]? with|some f=>(FX k f).isSome| .none=>false)=true:=by kernel_rfl
theorem lk {k:Nat} {f:be} (h:bg.funs[k]? =some f):k<78:=by
 have:funs.length=78:=by decide+kernel
 have:=(ao.mp h).1;rw[show bg.funs=funs from rfl] at this;exact‹funs.length=78›▸this
section
variable{W:Wd} {K:Frag} {mg mb:Str->Option Value} {ck:bn} {d:Nat}
theorem Bc (hst:∀k,W.stat k=ci k) {k:Nat} {f:be} (hf:bg.funs[k]? =some f):Dl W bg k f/\f.ncaps<=1/\(f.ncaps≠0->f.dflts=[]):=by
 have h:=aM.mp zP k (cy.mpr (lk hf));rw[show funs[k]? =some f from hf] at h;obtain⟨⟨h1,h2,h4,h5,h6,h7,h8⟩,h3⟩:=OP.ok h;refine⟨⟨?_,h2,?_,?_,?_,h6⟩,h7,λ hn=>List.isEmpty_iff.mp (h8.resolve_left hn)⟩<;>rw[hst]<;>assumption
structure B3 (W:Wd) (K:Frag) (mg mb:Str->Option Value):Prop where
 stat:∀k,W.stat k=ci k
 facts:∀ck d,iu W bg ck d->d6 bg ck->kt W bg ck d K mg mb MT
 def7:yv W mg (ci 6).layS 7 1 (mD (bZ 7)) (ee (bZ 7)) (fu (bZ 7)) (i6 (bZ 7)) (uc (bZ 7)) "found"
 def11:yv W mg (ci 10).layS 11 5 (mD (bZ 11)) (ee (bZ 11)) (fu (bZ 11)) (i6 (bZ 11)) (uc (bZ 11)) "regions"
theorem Du (B:B3 W K mg mb) (ok:iu W bg ck d) (dom:d6 bg ck):∀k f,bg.funs[k]? =some f->rQ W bg ck (d+2) (W.stat k).layS f.body (W.stat k).body:=by
 intro k f hf;have F:=B.facts ck d ok dom;have nd:(ci k).lay.Nodup:=by
  have:=(Bc B.stat hf).1.layok.nd;rw[B.stat] at this;exact this
 rw[B.stat];have ha:=aM.mp (FA F) k (cy.mpr (lk hf));rw[show funs[k]? =some f from hf] at ha;simp only[Bool.or_eq_true,beq_iff_eq] at ha;rcases ha with(rfl|rfl)|ha
 ·cases hf;exact cK (OP.ok (o:=A2 F 6 _ 0) (by kernel_rfl)) (cK (Bv B.def7 rfl nd F.go.g) (cK (OP.ok (o:=A2 F 6 _ 2) (by kernel_rfl)) (cK (OP.ok (o:=A2 F 6 _ 3) (by kernel_rfl)) iE)))
 ·cases hf;exact cK (OP.ok (o:=A2 F 10 _ 0) (by kernel_rfl)) (cK (OP.ok (o:=A2 F 10 _ 1) (by kernel_rfl)) (cK (OP.ok (o:=A2 F 10 _ 2) (by kernel_rfl)) (cK (OP.ok (o:=A2 F 10 _ 3) (by kernel_rfl)) (cK (OP.ok (o:=A2 F 10 _ 4) (by kernel_rfl)) (cK (Bv B.def11 rfl nd F.go.g) (cK (OP.ok (o:=A2 F 10 _ 6) (by kernel_rfl)) iE))))))
 ·exact OP.ok ha
theorem EC (B:B3 W K mg mb):∀n,iu W bg (hW bg n) (2*n)/\d6 bg (hW bg n):=by
 intro l_
 induction l_ with
 |zero=>
  exact⟨λ k f a args cs vals A T S H V s Q E hf rm st fa h=>(by cases h),λ k args cs V r h=>(by cases h)⟩
 |succ n ih=>
  obtain⟨h1,h2⟩:=ih;have hb:=Du B h1 h2;refine⟨?_,su⟩;have:=BY (d:=2*n+2) (B.facts _ _ h1 h2).po hb;exact this
end
section
set_option linter.unusedVariables false
section
open PySem PySem.W
noncomputable def vs (s:String) (t:Nat):Value:= .str (Str.ofString s) t
noncomputable def en (P:Params) (s:String) (t:Nat) (v:Value):DictEntry:=⟨PyData.keyHash P (Str.ofString s),vs s t,v⟩
noncomputable def sA (i:Nat):Stmt:=rX (i,none,none)
noncomputable def sM (i j:Nat):Stmt:=rX (i,some j,none)
noncomputable def fF (q:String) (s:Stmt) (g:Nat) (df kd doc md:Value) (an:Option Nat) (code ct:Value) (bi:Nat):FuncData:=⟨mD s,Str.ofString q,ee s, .stmts (fu s),i6 s,g,[],df,kd,doc,md,an,code,ct,bi⟩
noncomputable def oT (l:List Value) (n:Nat):Obj:=⟨.type "tuple",none, .seq ⟨l⟩ n,⟨[]⟩⟩
noncomputable def oE:Obj:=⟨.type "tuple",none, .seq ⟨[]⟩ 0,⟨[]⟩⟩
noncomputable def oM:Obj:=⟨.none,none, .fields ⟨[]⟩,⟨[]⟩⟩
noncomputable def GV (q:String) (s:Stmt) (df md code:Value):Obj:=⟨.type "function",none, .func (fF q s 3 df .none .none md none code .none 0),⟨[]⟩⟩
noncomputable def oC (q:String) (s:Stmt):Obj:=⟨.none,none, .func (fF q s 0 .none .none .none .none none .none .none 0),⟨[]⟩⟩
noncomputable def oK (l:List Value):Obj:=⟨.type "code",none, .fields ⟨l⟩,⟨[]⟩⟩
noncomputable def BD:List Obj->List Obj
 |[]=>[]
 |[x]=>[x]
 |x::_::r=>x::BD r
noncomputable def EW:List Obj->List Obj
 |[]=>[]
 |[_]=>[]
 |_::y::r=>y::EW r
noncomputable def GG:Nat->List Obj->BT
 |0,_=> .nil
 |_+1,[]=> .nil
 |n+1,x::r=> .node x (GG n (BD r)) (GG n (EW r))
noncomputable def i0 (n:Nat):Value:= .int n 0
noncomputable def rf (n:Nat):Value:= .ref n
noncomputable def oD (s:String) (l:List DictEntry) (n:Nat):Obj:=⟨.type s,none, .dict ⟨l⟩ n,⟨[]⟩⟩
noncomputable def oG (s:String) (l:List Value):Obj:=⟨.type s,none, .fields ⟨l⟩,⟨[]⟩⟩
noncomputable def oR (a b c:Nat) (v:Value):Obj:=⟨.type "frame",none, .plain,⟨[some (.ref a),some (.ref b),some (.ref c),none,some v,none,some (.ref 0)]⟩⟩
noncomputable def oN (l:List (Nat×Nat×Nat)):Obj:=⟨.none,none, .fields ⟨l.flatMap λ p=>[i0 p.1,i0 p.2.1, .ref p.2.2]⟩,⟨[]⟩⟩
noncomputable def oH (s:String) (k l r m n:Nat):Obj:=oK [vs s k,vs s (k+1),vs "/claim/cut.py" (k+2),i0 l,i0 0,i0 0,i0 0,i0 0, .ref r, .bool false,i0 m, .ref (r+1), .none, .none, .none, .none,i0 n,i0 l,vs "/claim/cut.py" (n+1)]
noncomputable def sg (l z:List Obj):List Obj:=l++z
noncomputable def IL:List String->Nat->List Value
 |[],_=>[]
 |s::l,k=>vs s k::IL l (k+1)
noncomputable def fK (n q:String) (k l a r m:Nat) (x y z:Value):Obj:=oK [vs n k,vs q (k+1),vs "/claim/cut.py" (k+2),i0 l,i0 a,i0 0,i0 0,i0 3, .ref r, .bool true,i0 181, .ref (r+1), .none,x,y,z,i0 m,i0 l,vs "/claim/cut.py" (m+1)]
noncomputable def fB (n q:String) (s:Stmt) (k l a r:Nat) (df md:Value) (L:List String) (z:List Obj):List Obj:=match L with
 |[]=>oE::oM::oC q s::fK n q k l a r (k+3) .none .none (.ref (r+2))::GV q s df md (.ref (r+3))::z
 |L=>oE::oM::oT (IL L (k+3)) 0::oE::oC q s::fK n q k l a r (k+3+L.length) (.ref (r+2)) (.ref (r+3)) (.ref (r+4))::GV q s df md (.ref (r+5))::z
noncomputable def fA (n:String):Stmt->Nat->Nat->Nat->Nat->Value->Value->List String->List Obj->List Obj:=fB n n
noncomputable def Ej:Value:=vs "__main__" 164
noncomputable def GZ:Value:=vs "lendcore.errors" 194
noncomputable def yO:Value:=vs "lendcore.types" 228
noncomputable def oz:Value:=vs "lendcore.mir" 321
noncomputable def wE:Value:=vs "lendcore.flow" 486
noncomputable def jC:Value:=vs "lendcore.moves" 640
noncomputable def G0:Value:=vs "lendcore.borrowck" 911
noncomputable def wD:Value:=vs "lendcore.liveness" 950
noncomputable def uO:Value:=vs "lendcore.world" 1068
noncomputable def wF:Value:=vs "law_sa0452_01" 1203
noncomputable def IE (P:Params):List Obj:=[
 boot_o_0 P,
 oD "dict" [en P "builtins" 162 (rf 4),en P "__main__" 163 (rf 5)] 2,
 ⟨.none,none,.dict ⟨[]⟩ 0,⟨[]⟩⟩,
 oD "dict" [en P "__name__" 165 Ej,en P "__doc__" 166 .none,en P "__package__" 167 .none,en P "__loader__" 168 (.builtin "__main__.__loader__#opaque"),en P "__spec__" 169 .none,en P "__annotations__" 170 (rf 6),en P "__builtins__" 171 (rf 4),en P "__file__" 173 (vs "/claim/cut.py" 172),en P "__cached__" 174 .none] 9,
 ⟨.type "module",some 0, .plain,⟨[]⟩⟩,
 ⟨.type "module",some 3, .plain,⟨[]⟩⟩,
 oD "dict" [] 0,
 oE,
 oM,
 oH "<module>" 176 1 7 175 179,
 oR 9 3 3 Ej,
 oE,
 oM,
 oH "<module>" 182 1 11 181 185,
 oR 13 3 3 Ej]
noncomputable def Jd (P:Params):List Obj:=
 sg [oT [vs "int" 1233,vs "u8" 1234] 0]<|
 fA "_law_part" (sA 69) 1236 585 2 696 .none wF ["source","region","owner","rows"]<|
 fA "_law_world" (sA 70) 1246 589 0 703 .none wF ["world","owner","told","path","fields","first","second","rows"]<|
 fA "_law_type" (sA 71) 1260 600 1 710 .none wF ["source","one","first","other","second","both","way"]<|
 fA "_law_events" (sA 72) 1273 609 2 717 .none wF ["source","part","found","turn","word"]<|
 fA "_law_body" (sA 73) 1284 615 3 724 .none wF ["told","part","words","blocks","spots","word","steps"]<|
 fA "_law_lives" (sA 74) 1297 631 4 731 .none wF ["words","at","every","owed","later","holds_here","word"]<|
 fA "_law_right" (sA 75) 1310 640 5 738 .none wF []<|
 fA "law" (sA 76) 1316 652 1 743 .none wF ["script","one","other","k","source","told","every","owed","part"]<|
 []
noncomputable def Jc (P:Params):List Obj:=
 fB "drop_step" "Liveness.drop_step" (sM 59 2) 1029 523 4 572 .none wD ["self","facts","block","index"]<|
 fB "for_use" "Liveness.for_use" (sM 59 3) 1039 526 2 579 .none wD ["self","point"]<|
 fB "for_drop" "Liveness.for_drop" (sM 59 4) 1047 529 2 586 .none wD ["self","point"]<|
 sg [oT [vs "drop_facts" 1055,vs "dropped" 1056,vs "put" 1057,vs "use_facts" 1058,vs "used" 1059] 0,oD "dict" [en P "__module__" 1003 wD,en P "__firstlineno__" 1007 (.int 507 1006),en P "__init__" 1018 (rf 564),en P "use_step" 1028 (rf 571),en P "drop_step" 1038 (rf 578),en P "for_use" 1046 (rf 585),en P "for_drop" 1054 (rf 592),en P "__static_attributes__" 1060 (rf 593),en P "__dict__" 1062 (rf 596),en P "__weakref__" 1064 (rf 597),en P "__doc__" 1065 .none] 4,⟨.type "type",none,.cls ⟨"Liveness",[.type "object"],[rf 595,.type "object"],594,"Liveness",true,[],[],false,none,false⟩,⟨[none,none,some (vs "Liveness" 996),some (vs "Liveness" 1004),some (.builtin "object.__new__"),some (.bool true)]⟩⟩,oG "getset_descriptor" [vs "__dict__" 1061,rf 595,.builtin "function.__dict__",.builtin "function.__dict__#set"],oG "getset_descriptor" [vs "__weakref__" 1063,rf 595,.builtin "ExceptionGroup.__weakref__", .none],oG "super" [rf 595,rf 595,rf 595],oG "builtin_function_or_method" [.builtin "object.__init_subclass__",rf 595],oE,oG "builtin_function_or_method" [.builtin "type.__prepare__",.type "type"],oD "dict" [en P "__module__" 1077 uO,en P "__qualname__" 1079 (vs "Adt" 1078),en P "__firstlineno__" 1081 (.int 532 1080),en P "__init__" 1096 (rf 615),en P "__static_attributes__" 1104 (rf 616)] 5,oE,oN [(534,4,614)],oH "Adt" 1072 532 603 181 1075,oR 605 3 602 uO,oE,oT [vs "" 1082,rf 607] 0]<|
 fB "__init__" "Adt.__init__" (sM 61 0) 1083 534 8 609 (rf 608) uO ["self","path","regions","params","variants","is_enum","module","publics"]<|
 sg [oT [vs "is_enum" 1097,vs "module" 1098,vs "params" 1099,vs "path" 1100,vs "publics" 1101,vs "regions" 1102,vs "variants" 1103] 0,oD "dict" [en P "__module__" 1077 uO,en P "__firstlineno__" 1081 (.int 532 1080),en P "__init__" 1096 (rf 615),en P "__static_attributes__" 1104 (rf 616),en P "__dict__" 1106 (rf 619),en P "__weakref__" 1108 (rf 620),en P "__doc__" 1109 .none] 4,⟨.type "type",none,.cls ⟨"Adt",[.type "object"],[rf 618,.type "object"],617,"Adt",true,[],[],false,none,false⟩,⟨[none,none,some (vs "Adt" 1070),some (vs "Adt" 1078),some (.builtin "object.__new__"),some (.bool true)]⟩⟩,oG "getset_descriptor" [vs "__dict__" 1105,rf 618,.builtin "function.__dict__",.builtin "function.__dict__#set"],oG "getset_descriptor" [vs "__weakref__" 1107,rf 618,.builtin "ExceptionGroup.__weakref__", .none],oG "super" [rf 618,rf 618,rf 618],oG "builtin_function_or_method" [.builtin "object.__init_subclass__",rf 618],oE,oG "builtin_function_or_method" [.builtin "type.__prepare__",.type "type"],oD "dict" [en P "__module__" 1119 uO,en P "__qualname__" 1121 (vs "ImplRow" 1120),en P "__firstlineno__" 1123 (.int 542 1122),en P "__init__" 1139 (rf 637),en P "__static_attributes__" 1148 (rf 638)] 5,oE,oN [(544,4,636)],oH "ImplRow" 1114 542 626 181 1117,oR 628 3 625 uO,oT [.int 0 1124] 0]<|
 fB "__init__" "ImplRow.__init__" (sM 62 0) 1125 544 9 631 (rf 630) uO ["self","number","regions","params","trait","trait_args","self_type","methods","spot"]<|
 sg [oT [vs "methods" 1140,vs "number" 1141,vs "params" 1142,vs "regions" 1143,vs "self_type" 1144,vs "spot" 1145,vs "trait" 1146,vs "trait_args" 1147] 0,oD "dict" [en P "__module__" 1119 uO,en P "__firstlineno__" 1123 (.int 542 1122),en P "__init__" 1139 (rf 637),en P "__static_attributes__" 1148 (rf 638),en P "__dict__" 1150 (rf 641),en P "__weakref__" 1152 (rf 642),en P "__doc__" 1153 .none] 4,⟨.type "type",none,.cls ⟨"ImplRow",[.type "object"],[rf 640,.type "object"],639,"ImplRow",true,[],[],false,none,false⟩,⟨[none,none,some (vs "ImplRow" 1112),some (vs "ImplRow" 1120),some (.builtin "object.__new__"),some (.bool true)]⟩⟩,oG "getset_descriptor" [vs "__dict__" 1149,rf 640,.builtin "function.__dict__",.builtin "function.__dict__#set"],oG "getset_descriptor" [vs "__weakref__" 1151,rf 640,.builtin "ExceptionGroup.__weakref__", .none],oG "super" [rf 640,rf 640,rf 640],oG "builtin_function_or_method" [.builtin "object.__init_subclass__",rf 640],oE,oG "builtin_function_or_method" [.builtin "type.__prepare__",.type "type"],oD "dict" [en P "__module__" 1163 uO,en P "__qualname__" 1165 (vs "World" 1164),en P "__firstlineno__" 1167 (.int 553 1166),en P "__init__" 1175 (rf 659),en P "is_field_seen" 1186 (rf 666),en P "__static_attributes__" 1195 (rf 667)] 6,oE,oN [(555,4,658),(565,4,665)],oH "World" 1158 553 648 181 1161,oR 650 3 647 uO,oT [.none] 0]<|
 fB "__init__" "World.__init__" (sM 63 0) 1168 555 2 653 (rf 652) uO ["self","modules"]<|
 fB "is_field_seen" "World.is_field_seen" (sM 63 1) 1176 565 5 660 .none uO ["self","path","number","k","module"]<|
 sg [oT [vs "adts" 1187,vs "bodies" 1188,vs "consts" 1189,vs "impls" 1190,vs "modules" 1191,vs "sigs" 1192,vs "traits" 1193,vs "variants" 1194] 0,oD "dict" [en P "__module__" 1163 uO,en P "__firstlineno__" 1167 (.int 553 1166),en P "__init__" 1175 (rf 659),en P "is_field_seen" 1186 (rf 666),en P "__static_attributes__" 1195 (rf 667),en P "__dict__" 1197 (rf 670),en P "__weakref__" 1199 (rf 671),en P "__doc__" 1200 .none] 4,⟨.type "type",none,.cls ⟨"World",[.type "object"],[rf 669,.type "object"],668,"World",true,[],[],false,none,false⟩,⟨[none,none,some (vs "World" 1156),some (vs "World" 1164),some (.builtin "object.__new__"),some (.bool true)]⟩⟩,oG "getset_descriptor" [vs "__dict__" 1196,rf 669,.builtin "function.__dict__",.builtin "function.__dict__#set"],oG "getset_descriptor" [vs "__weakref__" 1198,rf 669,.builtin "ExceptionGroup.__weakref__", .none],oG "super" [rf 669,rf 669,rf 669],oG "builtin_function_or_method" [.builtin "object.__init_subclass__",rf 669]]<|
 fA "_law_pool" (sA 65) 1205 568 2 674 .none wF ["script","k","cell","big","mixed"]<|
 fA "_law_take" (sA 66) 1216 575 2 681 .none wF ["source","top","drawn"]<|
 fA "_law_one" (sA 67) 1225 582 2 688 .none wF ["source","things"]<|
 Jd P
noncomputable def Jf (P:Params):List Obj:=
 fB "asked" "Moves.asked" (sM 47 10) 890 428 2 484 .none jC ["self","place","number"]<|
 sg [oT [vs "body" 899,vs "done" 900,vs "facts" 901,vs "paths" 902] 0,oD "dict" [en P "__module__" 790 jC,en P "__firstlineno__" 794 (.int 367 793),en P "__init__" 804 (rf 422),en P "begin" 814 (rf 429),en P "turned" 820 (rf 434),en P "deeds" 828 (rf 441),en P "deeds_of" 841 (rf 448),en P "step" 853 (rf 455),en P "at" 861 (rf 462),en P "may_be" 871 (rf 469),en P "is_surely_ready" 880 (rf 476),en P "may_be_ready" 889 (rf 483),en P "asked" 898 (rf 490),en P "__static_attributes__" 903 (rf 491),en P "__dict__" 905 (rf 494),en P "__weakref__" 907 (rf 495),en P "__doc__" 908 .none] 4,⟨.type "type",none,.cls ⟨"Moves",[.type "object"],[rf 493,.type "object"],492,"Moves",true,[],[],false,none,false⟩,⟨[none,none,some (vs "Moves" 783),some (vs "Moves" 791),some (.builtin "object.__new__"),some (.bool true)]⟩⟩,oG "getset_descriptor" [vs "__dict__" 904,rf 493,.builtin "function.__dict__",.builtin "function.__dict__#set"],oG "getset_descriptor" [vs "__weakref__" 906,rf 493,.builtin "ExceptionGroup.__weakref__", .none],oG "super" [rf 493,rf 493,rf 493],oG "builtin_function_or_method" [.builtin "object.__init_subclass__",rf 493]]<|
 fA "drop_regions" (sA 49) 913 432 4 498 .none G0 ["told","world","found","deep"]<|
 fA "dropped_within" (sA 50) 923 434 5 505 .none G0 ["told","world","found","deep","met","kind","part","number","name"]<|
 fA "holds_something" (sA 51) 938 452 3 512 .none G0 []<|
 fA "live_regions" (sA 52) 944 458 5 517 .none G0 []<|
 sg [⟨.type "frozenset",none,.set ⟨[]⟩ 0 ⟨7,⟨[]⟩,⟨[]⟩,0,!P.followText "set-order",0,true⟩,⟨[]⟩⟩]<|
 fA "used_locals" (sA 55) 953 477 2 523 .none wD ["body","point","found","operand","place","looked","written"]<|
 fA "is_return" (sA 56) 966 495 2 530 .none wD ["body","point","statements","terminator"]<|
 fA "dropped_locals" (sA 57) 976 498 2 537 .none wD ["body","point","place"]<|
 fA "set_locals" (sA 58) 985 501 2 544 .none wD ["body","point","local","written","found"]<|
 sg [oE,oG "builtin_function_or_method" [.builtin "type.__prepare__",.type "type"],oD "dict" [en P "__module__" 1003 wD,en P "__qualname__" 1005 (vs "Liveness" 1004),en P "__firstlineno__" 1007 (.int 507 1006),en P "__init__" 1018 (rf 564),en P "use_step" 1028 (rf 571),en P "drop_step" 1038 (rf 578),en P "for_use" 1046 (rf 585),en P "for_drop" 1054 (rf 592),en P "__static_attributes__" 1060 (rf 593)] 9,oE,oN [(509,4,563),(520,4,570),(523,4,577),(526,4,584),(529,4,591)],oH "Liveness" 998 507 554 181 1001,oR 556 3 553 wD]<|
 fB "__init__" "Liveness.__init__" (sM 59 0) 1008 509 2 558 .none wD ["self","body","point","uses","drops"]<|
 fB "use_step" "Liveness.use_step" (sM 59 1) 1019 520 4 565 .none wD ["self","facts","block","index"]<|
 Jc P
noncomputable def Je (P:Params):List Obj:=
 fB "parent" "MovePaths.parent" (sM 46 7) 741 352 2 381 .none jC ["self","number"]<|
 fB "children" "MovePaths.children" (sM 46 8) 749 355 2 388 .none jC ["self","number"]<|
 fB "below" "MovePaths.below" (sM 46 9) 757 358 2 395 .none jC ["self","number","found","left","here"]<|
 sg [oT [vs "body" 768,vs "kids" 769,vs "lots" 770,vs "numbers" 771,vs "parents" 772,vs "places" 773,vs "world" 774] 0,oD "dict" [en P "__module__" 665 jC,en P "__firstlineno__" 669 (.int 292 668),en P "__init__" 682 (rf 338),en P "add" 694 (rf 345),en P "depth_of" 705 (rf 352),en P "cut" 713 (rf 359),en P "is_cut" 721 (rf 366),en P "number_of" 732 (rf 373),en P "is_exact" 740 (rf 380),en P "parent" 748 (rf 387),en P "children" 756 (rf 394),en P "below" 767 (rf 401),en P "__static_attributes__" 775 (rf 402),en P "__dict__" 777 (rf 405),en P "__weakref__" 779 (rf 406),en P "__doc__" 780 .none] 4,⟨.type "type",none,.cls ⟨"MovePaths",[.type "object"],[rf 404,.type "object"],403,"MovePaths",true,[],[],false,none,false⟩,⟨[none,none,some (vs "MovePaths" 658),some (vs "MovePaths" 666),some (.builtin "object.__new__"),some (.bool true)]⟩⟩,oG "getset_descriptor" [vs "__dict__" 776,rf 404,.builtin "function.__dict__",.builtin "function.__dict__#set"],oG "getset_descriptor" [vs "__weakref__" 778,rf 404,.builtin "ExceptionGroup.__weakref__", .none],oG "super" [rf 404,rf 404,rf 404],oG "builtin_function_or_method" [.builtin "object.__init_subclass__",rf 404],oE,oG "builtin_function_or_method" [.builtin "type.__prepare__",.type "type"],oD "dict" [en P "__module__" 790 jC,en P "__qualname__" 792 (vs "Moves" 791),en P "__firstlineno__" 794 (.int 367 793),en P "__init__" 804 (rf 422),en P "begin" 814 (rf 429),en P "turned" 820 (rf 434),en P "deeds" 828 (rf 441),en P "deeds_of" 841 (rf 448),en P "step" 853 (rf 455),en P "at" 861 (rf 462),en P "may_be" 871 (rf 469),en P "is_surely_ready" 880 (rf 476),en P "may_be_ready" 889 (rf 483),en P "asked" 898 (rf 490),en P "__static_attributes__" 903 (rf 491)] 15,oE,oN [(369,4,421),(377,4,428),(384,4,433),(393,4,440),(396,4,447),(411,4,454),(416,4,461),(419,4,468),(422,4,475),(425,4,482),(428,4,489)],oH "Moves" 785 367 412 181 788,oR 414 3 411 jC]<|
 fB "__init__" "Moves.__init__" (sM 47 0) 795 369 3 416 .none jC ["self","body","world","point"]<|
 fB "begin" "Moves.begin" (sM 47 1) 805 377 1 423 .none jC ["self","facts","local","is_argument"]<|
 fB "turned" "Moves.turned" (sM 47 2) 815 384 4 430 .none jC []<|
 fB "deeds" "Moves.deeds" (sM 47 3) 821 393 2 435 .none jC ["self","point"]<|
 fB "deeds_of" "Moves.deeds_of" (sM 47 4) 829 396 2 442 .none jC ["self","point","found","operand","dropped","local","written"]<|
 fB "step" "Moves.step" (sM 47 5) 842 411 4 449 .none jC ["self","facts","block","index","number","state"]<|
 fB "at" "Moves.at" (sM 47 6) 854 416 2 456 .none jC ["self","point"]<|
 fB "may_be" "Moves.may_be" (sM 47 7) 862 419 4 463 .none jC ["self","facts","number","state"]<|
 fB "is_surely_ready" "Moves.is_surely_ready" (sM 47 8) 872 422 3 470 .none jC ["self","facts","place"]<|
 fB "may_be_ready" "Moves.may_be_ready" (sM 47 9) 881 425 3 477 .none jC ["self","facts","place"]<|
 Jf P
noncomputable def I2 (P:Params):List Obj:=
 fA "all_facts_before" (sA 35) 578 251 5 283 .none wE ["body","facts","end","step","join","found","block","here","index"]<|
 fA "looked_at" (sA 36) 593 259 2 290 .none wE ["body","point","block","index","statements","rvalue"]<|
 fA "written_at" (sA 37) 605 269 2 297 .none wE ["body","point","block","index","statements","terminator"]<|
 fA "dropped_at" (sA 38) 617 275 2 304 .none wE ["body","point","block","index","statements","terminator"]<|
 fA "turned_at" (sA 39) 629 279 2 311 .none wE ["body","point","block","index","statements"]<|
 fA "has_own_drop" (sA 45) 650 290 2 318 .none jC ["T","world"]<|
 sg [oE,oG "builtin_function_or_method" [.builtin "type.__prepare__",.type "type"],oD "dict" [en P "__module__" 665 jC,en P "__qualname__" 667 (vs "MovePaths" 666),en P "__firstlineno__" 669 (.int 292 668),en P "__init__" 682 (rf 338),en P "add" 694 (rf 345),en P "depth_of" 705 (rf 352),en P "cut" 713 (rf 359),en P "is_cut" 721 (rf 366),en P "number_of" 732 (rf 373),en P "is_exact" 740 (rf 380),en P "parent" 748 (rf 387),en P "children" 756 (rf 394),en P "below" 767 (rf 401),en P "__static_attributes__" 775 (rf 402)] 14,oE,oN [(294,4,337),(312,4,344),(326,4,351),(336,4,358),(339,4,365),(342,4,372),(349,4,379),(352,4,386),(355,4,393),(358,4,400)],oH "MovePaths" 660 292 328 181 663,oR 330 3 327 jC]<|
 fB "__init__" "MovePaths.__init__" (sM 46 0) 670 294 3 332 .none jC ["self","body","world","local","point","operand","place"]<|
 fB "add" "MovePaths.add" (sM 46 1) 683 312 2 339 .none jC ["self","place","local","projections","parent","number"]<|
 fB "depth_of" "MovePaths.depth_of" (sM 46 2) 695 326 2 346 .none jC ["self","place","local","projections","at"]<|
 fB "cut" "MovePaths.cut" (sM 46 3) 706 336 2 353 .none jC ["self","place"]<|
 fB "is_cut" "MovePaths.is_cut" (sM 46 4) 714 339 2 360 .none jC ["self","place"]<|
 fB "number_of" "MovePaths.number_of" (sM 46 5) 722 342 2 367 .none jC ["self","place","local","projections","size"]<|
 fB "is_exact" "MovePaths.is_exact" (sM 46 6) 733 349 2 374 .none jC ["self","place"]<|
 Je P
noncomputable def Jb (P:Params):List Obj:=
 fA "predecessors" (sA 20) 421 144 1 189 .none oz []<|
 fA "field_type" (sA 21) 427 150 4 194 .none oz ["told","variant","k","world"]<|
 fA "projected" (sA 22) 437 156 4 201 .none oz ["told","variant","projection","world","word"]<|
 fA "place_type" (sA 23) 448 167 3 208 .none oz ["body","place","world","told","variant","projection"]<|
 fA "operands_of" (sA 24) 460 172 1 215 .none oz ["rvalue","word"]<|
 fA "operands_at" (sA 25) 468 185 2 222 .none oz ["body","point","block","index","statement","terminator"]<|
 fA "indices_of" (sA 26) 480 196 1 229 .none oz []<|
 fA "joined" (sA 28) 488 199 2 234 .none wE ["one","other"]<|
 fA "through" (sA 29) 496 201 4 241 .none wE ["body","facts","block","step","index"]<|
 fA "solve_forward" (sA 30) 507 205 4 248 .none wE ["body","start","step","join","facts","left","block","behind","target","ahead","merged"]<|
 fA "all_facts" (sA 31) 524 220 3 255 .none wE ["body","facts","step","found","block","here","index"]<|
 fA "behind_block" (sA 32) 537 229 5 262 .none wE ["body","facts","block","end","join","here","target"]<|
 fA "back_to" (sA 33) 550 234 5 269 .none wE ["body","facts","block","index","step","place"]<|
 fA "solve_backward" (sA 34) 562 238 4 276 .none wE ["body","end","step","join","facts","ahead","left","block","here","other"]<|
 I2 P
noncomputable def IT (P:Params):List Obj:=
 fA "fields_of" (sA 14) 306 76 3 102 .none yO []<|
 fA "has_drop" (sA 15) 312 88 2 107 .none yO ["told","world","row"]<|
 sg [oE,oG "builtin_function_or_method" [.builtin "type.__prepare__",.type "type"],oD "dict" [en P "__module__" 330 oz,en P "__qualname__" 332 (vs "Body" 331),en P "__firstlineno__" 334 (.int 94 333),en P "__init__" 346 (rf 128),en P "type_of" 354 (rf 135),en P "args" 361 (rf 142),en P "statements" 369 (rf 149),en P "terminator" 377 (rf 156),en P "spot" 385 (rf 163),en P "new_local" 395 (rf 171),en P "__static_attributes__" 401 (rf 172)] 11,oE,oN [(96,4,127),(103,4,134),(106,4,141),(109,4,148),(112,4,155),(115,4,162),(118,4,170)],oH "Body" 325 94 117 181 328,oR 119 3 116 oz,oT [.none, .none] 0]<|
 fB "__init__" "Body.__init__" (sM 17 0) 335 96 6 122 (rf 121) oz ["self","name","arg_count","locals_told","blocks","spots"]<|
 fB "type_of" "Body.type_of" (sM 17 1) 347 103 2 129 .none oz ["self","local"]<|
 fB "args" "Body.args" (sM 17 2) 355 106 1 136 .none oz ["self"]<|
 fB "statements" "Body.statements" (sM 17 3) 362 109 2 143 .none oz ["self","block"]<|
 fB "terminator" "Body.terminator" (sM 17 4) 370 112 2 150 .none oz ["self","block"]<|
 fB "spot" "Body.spot" (sM 17 5) 378 115 2 157 .none oz ["self","point"]<|
 sg [oT [.bool true, .none] 0]<|
 fB "new_local" "Body.new_local" (sM 17 6) 386 118 4 165 (rf 164) oz ["self","told","is_mut","name"]<|
 sg [oT [vs "arg_count" 396,vs "blocks" 397,vs "locals" 398,vs "name" 399,vs "spots" 400] 0,oD "dict" [en P "__module__" 330 oz,en P "__firstlineno__" 334 (.int 94 333),en P "__init__" 346 (rf 128),en P "type_of" 354 (rf 135),en P "args" 361 (rf 142),en P "statements" 369 (rf 149),en P "terminator" 377 (rf 156),en P "spot" 385 (rf 163),en P "new_local" 395 (rf 171),en P "__static_attributes__" 401 (rf 172),en P "__dict__" 403 (rf 175),en P "__weakref__" 405 (rf 176),en P "__doc__" 406 .none] 4,⟨.type "type",none,.cls ⟨"Body",[.type "object"],[rf 174,.type "object"],173,"Body",true,[],[],false,none,false⟩,⟨[none,none,some (vs "Body" 323),some (vs "Body" 331),some (.builtin "object.__new__"),some (.bool true)]⟩⟩,oG "getset_descriptor" [vs "__dict__" 402,rf 174,.builtin "function.__dict__",.builtin "function.__dict__#set"],oG "getset_descriptor" [vs "__weakref__" 404,rf 174,.builtin "ExceptionGroup.__weakref__", .none],oG "super" [rf 174,rf 174,rf 174],oG "builtin_function_or_method" [.builtin "object.__init_subclass__",rf 174]]<|
 fA "points" (sA 18) 409 120 1 179 .none oz []<|
 fA "successors" (sA 19) 415 125 1 184 .none oz []<|
 Jb P
noncomputable def I6 (P:Params):List Obj:=
 sg [boot_o_0 P,oD "dict" [en P "builtins" 162 (rf 4),en P "__main__" 163 (rf 5)] 2,⟨.none,none,.dict ⟨[en P "type.__subclasses__.Exception.0" 224 (i0 39),en P "type.__subclasses__.Exception.n" 225 (i0 1)]⟩ 2,⟨[]⟩⟩,oD "dict" [en P "__name__" 165 wF,en P "__doc__" 166 .none,en P "__package__" 167 .none,en P "__loader__" 168 (.builtin "__main__.__loader__#opaque"),en P "__spec__" 169 .none,en P "__annotations__" 170 (rf 6),en P "__builtins__" 171 (rf 4),en P "__file__" 173 (vs "/claim/cut.py" 172),en P "__cached__" 174 .none,en P "_wall" 193 (rf 21),en P "LendError" 227 (rf 39),en P "DROP" 231 (vs "Drop" 230),en P "parts_of" 239 (rf 49),en P "rebuilt" 248 (rf 56),en P "substituted" 254 (rf 61),en P "with_regions" 260 (rf 66),en P "no_region" 267 (rf 73),en P "erased" 274 (rf 80),en P "regions_in" 283 (rf 87),en P "matched" 296 (rf 94),en P "field_rows" 305 (rf 101),en P "fields_of" 311 (rf 106),en P "has_drop" 320 (rf 113),en P "Body" 408 (rf 174),en P "points" 414 (rf 183),en P "successors" 420 (rf 188),en P "predecessors" 426 (rf 193),en P "field_type" 436 (rf 200),en P "projected" 447 (rf 207),en P "place_type" 459 (rf 214),en P "operands_of" 467 (rf 221),en P "operands_at" 479 (rf 228),en P "indices_of" 485 (rf 233),en P "joined" 495 (rf 240),en P "through" 506 (rf 247),en P "solve_forward" 523 (rf 254),en P "all_facts" 536 (rf 261),en P "behind_block" 549 (rf 268),en P "back_to" 561 (rf 275),en P "solve_backward" 577 (rf 282),en P "all_facts_before" 592 (rf 289),en P "looked_at" 604 (rf 296),en P "written_at" 616 (rf 303),en P "dropped_at" 628 (rf 310),en P "turned_at" 639 (rf 317),en P "READY" 643 (.int 0 642),en P "MOVED" 645 (.int 1 644),en P "UNSET" 647 (.int 2 646),en P "DROPPED" 649 (.int 3 648),en P "has_own_drop" 657 (rf 324),en P "MovePaths" 782 (rf 404),en P "Moves" 910 (rf 493),en P "drop_regions" 922 (rf 504),en P "dropped_within" 937 (rf 511),en P "holds_something" 943 (rf 516),en P "live_regions" 949 (rf 521),en P "NOTHING" 952 (rf 522),en P "used_locals" 965 (rf 529),en P "is_return" 975 (rf 536),en P "dropped_locals" 984 (rf 543),en P "set_locals" 995 (rf 550),en P "Liveness" 1067 (rf 595),en P "Adt" 1111 (rf 618),en P "ImplRow" 1155 (rf 640),en P "World" 1202 (rf 669),en P "_law_pool" 1215 (rf 680),en P "_law_take" 1224 (rf 687),en P "_law_one" 1232 (rf 694),en P "_law_u8" 1235 (rf 695),en P "_law_part" 1245 (rf 702),en P "_law_world" 1259 (rf 709),en P "_law_type" 1272 (rf 716),en P "_law_events" 1283 (rf 723),en P "_law_body" 1296 (rf 730),en P "_law_lives" 1309 (rf 737),en P "_law_right" 1315 (rf 742),en P "law" 1330 (rf 749)] 77,⟨.type "module",some 0, .plain,⟨[]⟩⟩,⟨.type "module",some 3, .plain,⟨[]⟩⟩,oD "dict" [] 0,oE,oM,oH "<module>" 176 1 7 175 179,oR 9 3 3 Ej,oE,oN [(1,0,20),(5,0,27),(13,0,48),(22,0,55),(33,0,60),(37,0,65),(43,0,72),(45,0,79),(47,0,86),(55,0,93),(74,0,100),(76,0,105),(88,0,112),(94,0,119),(120,0,182),(125,0,187),(144,0,192),(150,0,199),(156,0,206),(167,0,213),(172,0,220),(185,0,227),(196,0,232),(199,0,239),(201,0,246),(205,0,253),(220,0,260),(229,0,267),(234,0,274),(238,0,281),(251,0,288),(259,0,295),(269,0,302),(275,0,309),(279,0,316),(290,0,323),(292,0,330),(367,0,414),(432,0,503),(434,0,510),(452,0,515),(458,0,520),(477,0,528),(495,0,535),(498,0,542),(501,0,549),(507,0,556),(532,0,605),(542,0,628),(553,0,650),(568,0,679),(575,0,686),(582,0,693),(585,0,701),(589,0,708),(600,0,715),(609,0,722),(615,0,729),(631,0,736),(640,0,741),(652,0,748)],oH "<module>" 182 1 11 181 185,oR 13 3 3 Ej]<|
 fA "_wall" (sA 0) 187 1 1 15 .none Ej ["k"]<|
 sg [oT [.type "Exception"] 0,oG "builtin_function_or_method" [.builtin "type.__prepare__",.type "type"],oD "dict" [en P "__module__" 203 GZ,en P "__qualname__" 205 (vs "LendError" 204),en P "__firstlineno__" 207 (.int 5 206),en P "__init__" 217 (rf 36),en P "__static_attributes__" 220 (rf 37)] 5,oE,oN [(7,4,35)],oH "LendError" 198 5 25 181 201,oR 27 3 24 GZ,oT [.int 0 208] 0]<|
 fB "__init__" "LendError.__init__" (sM 2 0) 209 7 3 30 (rf 29) GZ ["self","message","spot"]<|
 sg [oT [vs "message" 218,vs "spot" 219] 0,oD "dict" [en P "__module__" 203 GZ,en P "__firstlineno__" 207 (.int 5 206),en P "__init__" 217 (rf 36),en P "__static_attributes__" 220 (rf 37),en P "__weakref__" 222 (rf 40),en P "__doc__" 223 .none] 3,⟨.type "type",none,.cls ⟨"LendError",[.type "Exception"],[rf 39,.type "Exception",.type "BaseException",.type "object"],38,"LendError",true,[],[],false,none,false⟩,⟨[some (rf 22),none,some (vs "LendError" 196),some (vs "LendError" 204),some (.builtin "Exception.__new__"),some (.bool true)]⟩⟩,oG "getset_descriptor" [vs "__weakref__" 221,rf 39,.builtin "ExceptionGroup.__weakref__", .none],oG "super" [rf 39,rf 39,rf 39],oG "builtin_function_or_method" [.builtin "object.__init_subclass__",rf 39]]<|
 fA "parts_of" (sA 5) 232 13 1 43 .none yO ["told","kind"]<|
 fA "rebuilt" (sA 6) 240 22 2 50 .none yO ["told","parts","kind"]<|
 fA "substituted" (sA 7) 249 33 2 57 .none yO []<|
 fA "with_regions" (sA 8) 255 37 2 62 .none yO []<|
 fA "no_region" (sA 9) 261 43 1 67 .none yO ["region"]<|
 fA "erased" (sA 10) 268 45 1 74 .none yO ["told"]<|
 sg [oE,oM,oT [vs "told" 278,vs "noted" 279] 0,oT [vs "found" 280] 0,oC "regions_in" (sA 11),oK [vs "regions_in" 275,vs "regions_in" 276,vs "/claim/cut.py" 277,i0 47,i0 1,i0 0,i0 0,i0 3,rf 81,.bool true,i0 181,rf 82, .none,rf 83,rf 84,rf 85,i0 281,i0 47,vs "/claim/cut.py" 282],GV "regions_in" (sA 11) .none yO (rf 86)]<|
 fA "matched" (sA 12) 284 55 3 88 .none yO ["pattern","told","table","some","others","one","other"]<|
 fA "field_rows" (sA 13) 297 74 3 95 .none yO ["told","variant","world"]<|
 IT P
noncomputable def IA (P:Params):List Obj:=I6 P
noncomputable def Ha (P:Params):Heap:=⟨⟨IE P⟩,{}⟩
noncomputable def Hf (P:Params):Heap:=⟨⟨IA P⟩,{}⟩
noncomputable def Tb (P:Params):BT:=GG 5 (IE P)
noncomputable def Tf (P:Params):BT:=GG 11 (IA P)
end
end
section
open PySem PySem.W
noncomputable def p0:Pos:=⟨0,0,0,0⟩
noncomputable def pz:Pos:=⟨652,0,661,15⟩
noncomputable def C2:Env:={scope:=pw.main.scope,locals:=mainNs,globals:=mainNs,cells:=[],code:= .ref 13,frame:=some 14}
noncomputable def bT:List Stmt:=behindTheImports pw
noncomputable def cT:Code:= .body bT C2
noncomputable def aT:Option Value:=some (.ref 6)
noncomputable def B0:List Frame:=[topFrame p0]
noncomputable def S0 (w:World) (os:OsState):Shared:=⟨boot_heap w.params,⟨[]⟩,boot_drawn,boot_toks,os⟩
noncomputable def Sa (w:World) (os:OsState):Shared:=⟨Ha w.params,⟨[]⟩,{},187,os⟩
noncomputable def Sb (w:World) (os:OsState):SharedT:=⟨Tb w.params,15,{},⟨[]⟩,{},187,os⟩
noncomputable def Sy (w:World) (os:OsState):SharedT:=⟨Tf w.params,750,{},⟨[]⟩,{},1331,os⟩
noncomputable def Sf (w:World) (os:OsState):Shared:=⟨Hf w.params,⟨[]⟩,{},1331,os⟩
theorem Fh (w:World):(λ os=>topGo treeTable pw w 11 aT 12 (S0 w os) (topStub pw))=λ os=>some (Sa w os,⟨denote treeTable cT,cT,p0,B0⟩):=by kernel_rfl
theorem zt (w:World):(λ os=>segRun treeTable pw w 11 aT 1 1 (Sa w os) (blockOf bT C2 cT p0 B0))=λ os=>some (.next,(Sb w os).abs,cT,p0):=by kernel_rfl
theorem FK (w:World):(λ os=>topRun treeTable pw w 11 aT 2 (Sy w os).abs ⟨doneF .next,cT,pz,B0⟩)=λ os=>some (Sf w os):=by kernel_rfl
end
section
open PySem PySem.W
theorem EP (w:World):(λ os=>segRunT treeTable pw w 11 aT 1 4700 (Sb w os) (piecesOf bT C2 cT p0 B0))=λ os=>some (.next,Sy w os,cT,pz):=by kernel_rfl
end
noncomputable def zk:List Nat:=[49,56,61,66,73,80,87,87,94,101,106,106,113,128,149,156,183,188,193,221,228,233,240,247,254,261,268,275,282,289,296,303,310,317,324,338,345,352,359,366,373,380,401,422,429,434,441,448,455,462,469,504,511,516,521,529,536,543,550,564,571,578,585,592,615,637,659,680,687,694,702,709,716,723,730,737,742,749]
noncomputable def ez:List (Nat×String×Value×Value×Nat):=[(0,"parts_of", .none,(vs "lendcore.types" 228),48),(1,"rebuilt", .none,(vs "lendcore.types" 228),55),(2,"substituted", .none,(vs "lendcore.types" 228),60),(3,"with_regions", .none,(vs "lendcore.types" 228),65),(4,"no_region", .none,(vs "lendcore.types" 228),72),(5,"erased", .none,(vs "lendcore.types" 228),79),(6,"regions_in", .none,(vs "lendcore.types" 228),86),(8,"matched", .none,(vs "lendcore.types" 228),93),(9,"field_rows", .none,(vs "lendcore.types" 228),100),(10,"fields_of", .none,(vs "lendcore.types" 228),105),(12,"has_drop", .none,(vs "lendcore.types" 228),112),(13,"Body.__init__",(.ref 121),(vs "lendcore.mir" 321),127),(14,"Body.statements", .none,(vs "lendcore.mir" 321),148),(15,"Body.terminator", .none,(vs "lendcore.mir" 321),155),(16,"points", .none,(vs "lendcore.mir" 321),182),(17,"successors", .none,(vs "lendcore.mir" 321),187),(18,"predecessors", .none,(vs "lendcore.mir" 321),192),(19,"operands_of", .none,(vs "lendcore.mir" 321),220),(20,"operands_at", .none,(vs "lendcore.mir" 321),227),(21,"indices_of", .none,(vs "lendcore.mir" 321),232),(22,"joined", .none,(vs "lendcore.flow" 486),239),(23,"through", .none,(vs "lendcore.flow" 486),246),(24,"solve_forward", .none,(vs "lendcore.flow" 486),253),(25,"all_facts", .none,(vs "lendcore.flow" 486),260),(26,"behind_block", .none,(vs "lendcore.flow" 486),267),(27,"back_to", .none,(vs "lendcore.flow" 486),274),(28,"solve_backward", .none,(vs "lendcore.flow" 486),281),(29,"all_facts_before", .none,(vs "lendcore.flow" 486),288),(30,"looked_at", .none,(vs "lendcore.flow" 486),295),(31,"written_at", .none,(vs "lendcore.flow" 486),302),(32,"dropped_at", .none,(vs "lendcore.flow" 486),309),(33,"turned_at", .none,(vs "lendcore.flow" 486),316),(34,"has_own_drop", .none,(vs "lendcore.moves" 640),323),(35,"MovePaths.__init__", .none,(vs "lendcore.moves" 640),337),(36,"MovePaths.add", .none,(vs "lendcore.moves" 640),344),(37,"MovePaths.depth_of", .none,(vs "lendcore.moves" 640),351),(38,"MovePaths.cut", .none,(vs "lendcore.moves" 640),358),(39,"MovePaths.is_cut", .none,(vs "lendcore.moves" 640),365),(40,"MovePaths.number_of", .none,(vs "lendcore.moves" 640),372),(41,"MovePaths.is_exact", .none,(vs "lendcore.moves" 640),379),(42,"MovePaths.below", .none,(vs "lendcore.moves" 640),400),(43,"Moves.__init__", .none,(vs "lendcore.moves" 640),421),(44,"Moves.begin", .none,(vs "lendcore.moves" 640),428),(45,"Moves.turned", .none,(vs "lendcore.moves" 640),433),(46,"Moves.deeds", .none,(vs "lendcore.moves" 640),440),(47,"Moves.deeds_of", .none,(vs "lendcore.moves" 640),447),(48,"Moves.step", .none,(vs "lendcore.moves" 640),454),(49,"Moves.at", .none,(vs "lendcore.moves" 640),461),(50,"Moves.may_be", .none,(vs "lendcore.moves" 640),468),(51,"drop_regions", .none,(vs "lendcore.borrowck" 911),503),(52,"dropped_within", .none,(vs "lendcore.borrowck" 911),510),(53,"holds_something", .none,(vs "lendcore.borrowck" 911),515),(54,"live_regions", .none,(vs "lendcore.borrowck" 911),520),(55,"used_locals", .none,(vs "lendcore.liveness" 950),528),(56,"is_return", .none,(vs "lendcore.liveness" 950),535),(57,"dropped_locals", .none,(vs "lendcore.liveness" 950),542),(58,"set_locals", .none,(vs "lendcore.liveness" 950),549),(59,"Liveness.__init__", .none,(vs "lendcore.liveness" 950),563),(60,"Liveness.use_step", .none,(vs "lendcore.liveness" 950),570),(61,"Liveness.drop_step", .none,(vs "lendcore.liveness" 950),577),(62,"Liveness.for_use", .none,(vs "lendcore.liveness" 950),584),(63,"Liveness.for_drop", .none,(vs "lendcore.liveness" 950),591),(64,"Adt.__init__",(.ref 608),(vs "lendcore.world" 1068),614),(65,"ImplRow.__init__",(.ref 630),(vs "lendcore.world" 1068),636),(66,"World.__init__",(.ref 652),(vs "lendcore.world" 1068),658),(67,"_law_pool", .none,(vs "law_sa0452_01" 1203),679),(68,"_law_take", .none,(vs "law_sa0452_01" 1203),686),(69,"_law_one", .none,(vs "law_sa0452_01" 1203),693),(70,"_law_part", .none,(vs "law_sa0452_01" 1203),701),(71,"_law_world", .none,(vs "law_sa0452_01" 1203),708),(72,"_law_type", .none,(vs "law_sa0452_01" 1203),715),(73,"_law_events", .none,(vs "law_sa0452_01" 1203),722),(74,"_law_body", .none,(vs "law_sa0452_01" 1203),729),(75,"_law_lives", .none,(vs "law_sa0452_01" 1203),736),(76,"_law_right", .none,(vs "law_sa0452_01" 1203),741),(77,"law", .none,(vs "law_sa0452_01" 1203),748)]
noncomputable def kS:List Nat:=[174,404,493,595,618,640,669]
noncomputable def Jg:List Nat:=[173,403,492,594,617,639,668]
noncomputable def tabs:List (Addr×Addr):=[(86,82),(105,103)]
noncomputable def KA:List Nat:=zk++(kS++Jg)
noncomputable def KF (P:Params):Frag:=KA.filterMap λ a=>((Hf P).get? a).map λ o=>(a,o)
noncomputable def sU (P:Params):Str->Option Value:=(Hf P).nsMap mainGlobals
noncomputable def Eh (P:Params):Str->Option Value:=(Hf P).nsMap builtinsNs
theorem AY {h:Heap}:∀(l:List Nat),Frag.In (l.filterMap λ a=>(h.get? a).map λ o=>(a,o)) h:=by
 intro l_
 induction l_ with
 |nil=>
  intro _ _ e;cases e
 |cons b l ih=>
  intro a o e;rw[List.filterMap_cons] at e
  induction hb:h.get? b using Jn with
  |none=>rw[hb] at e;exact ih a o e
  |some x=>
   rw[hb] at e;dsimp only[Option.map_some] at e;rw[List.lookup_cons] at e
   induction q:a==b using Jp with
   |true=>rw[q] at e;cases e;rw[eq_of_beq q];exact hb
   |false=>rw[q] at e;exact ih a o e
theorem GC (P:Params):(KF P).In (Hf P):=AY KA
theorem vz (P:Params):noTabs (KF P)=true:=by kernel_rfl
theorem Cr (P:Params):(ez.map λ r=>(Hf P).get? (zk.getD r.1 0))=ez.map λ r=>some (GV r.2.1 (bZ r.1) r.2.2.1 r.2.2.2.1 (.ref r.2.2.2.2)):=by kernel_rfl
theorem yL {o:Obj} {t:String} (h:o.cls= .type t):o≠tabObj #[]:=λ q=>by rw[q] at h;cases h
noncomputable def Bq {M:Value->Type} (v:Value) (f:M .none) (z:M v):M v:=if h:v.ctorIdx=0 then Value.none.elim v h f else z
noncomputable def Br {M:Value->Type} (v:Value) (f:∀b,M (.bool b)) (z:M v):M v:=if h:v.ctorIdx=3 then Value.bool.elim v h f else z
noncomputable def C6 {M:Value->Type} (v:Value) (f:∀i t,M (.int i t)) (z:M v):M v:=if h:v.ctorIdx=4 then Value.int.elim v h f else z
noncomputable def CY {M:Value->Type} (v:Value) (f:∀i t,M (.str i t)) (z:M v):M v:=if h:v.ctorIdx=6 then Value.str.elim v h f else z
noncomputable def AE {M:Value->Type} (v:Value) (f:∀a,M (.ref a)) (z:M v):M v:=if h:v.ctorIdx=10 then Value.ref.elim v h f else z
noncomputable def tU {M:Data->Type} (v:Data) (f:∀a,M (.fields a)) (z:M v):M v:=if h:v.ctorIdx=9 then Data.fields.elim v h f else z
noncomputable def HK {M:Data->Type} (v:Data) (f:∀a n,M (.seq a n)) (z:M v):M v:=if h:v.ctorIdx=2 then Data.seq.elim v h f else z
noncomputable def HH (v:Value):Option {t:String//v= .type t}:=if h:v.ctorIdx=8 then Value.type.elim (motive:=λ v=>Option {t:String//v= .type t}) v h λ t=>some ⟨t,rfl⟩ else none
noncomputable def wO (h:Heap) (c:Nat) (q:String):Prop:=∃co vs t,h.get? c=some co/\co≠tabObj #[]/\co.data= .fields vs/\vs[1]? =some (.str (Str.ofString q) t)
noncomputable def FL (h:Heap) (c:Nat) (q:String):OP (wO h c q):=match e:h.get? c with
 |none=> .none
 |some o=>tU (M:=λ d=>o.data=d->OP (wO h c q)) o.data (λ vs ed=>match e2:(vs[1]? :Option Value) with
  |none=> .none
  |some v=>CY (M:=λ x=>v=x->OP (wO h c q)) v (λ s t ev=>bd (dk (s=Str.ofString q)) λ k=>match HH o.cls with
   |none=> .none
   |some n=>od ⟨o,vs,t,e,yL n.2,ed,by rw[e2,ev,k]⟩) (λ U=> .none) rfl) (λ U=> .none) rfl
theorem FV (P:Params):(ez.all λ r=>(FL (Hf P) r.2.2.2.2 r.2.1).isSome)=true:=by kernel_rfl
theorem DX {o:Obj} {vs:Array Value} {n:Nat} (h:o.cls= .type "tuple"/\o.dict=none/\o.slots.size=0) (hd:o.data= .seq vs n):o=dU vs.toList n:=by
 rcases o with⟨a,b,c,d⟩;have h1:a= .type "tuple":=h.1;have h2:b=none:=h.2.1;have h3:d=#[]:=Array.eq_empty_of_size_eq_zero h.2.2;have h4:c= .seq vs n:=hd;rw[h1,h2,h3,h4]
noncomputable def EL (h:Heap) (a:Addr):Option {p:List Value×Nat//h.get? a=some (dU p.1 p.2)}:=match e:h.get? a with
 |none=>none
 |some o=>HK (M:=λ d=>o.data=d->Option {p:List Value×Nat//some o=some (dU p.1 p.2)}) o.data (λ vs n ed=>if k:o.cls= .type "tuple"/\o.dict=none/\o.slots.size=0 then some ⟨(vs.toList,n),am some (DX k ed)⟩ else none) (λ U=>none) rfl
section
variable{W:Wd} {S:PH} {P:Params} (hs:W.strL=gQ) (hf:W.fnA=λ k=>zk.getD k 0) (hc:W.clsA=λ k=>kS.getD k 0) (hS:∀a o,(Hf P).get? a=some o->o≠tabObj #[]->S a=some o)
include hs in
theorem Ij {k:Nat} {s:Str} {t:Tok} (h:gQ[k]? =some s):VR W S [] (.str k) (.str s t):=by
 refine⟨by rw[hs];exact(ao.mp h).1,t,?_⟩
 unfold Wd.str;rw[hs,List.getD_eq_getElem?_getD,h];rfl
mutual
noncomputable def Iy:(x:HV)->(v:Value)->OP (VR W S [] x v)
 | .none,v=>Bq (M:=λ v=>OP (VR W S [] .none v)) v (od rfl) .none
 | .bool b,v=>Br (M:=λ v=>OP (VR W S [] (.bool b) v)) v (λ c=>bd (dk (c=b)) λ h=>od (am Value.bool h)) .none
 | .int i,v=>C6 (M:=λ v=>OP (VR W S [] (.int i) v)) v (λ j t=>bd (dk (j=i)) λ h=>od ⟨t,am (Value.int · t) h⟩) .none
 | .str k,v=>CY (M:=λ v=>OP (VR W S [] (.str k) v)) v (λ s U=>bd (dk (gQ[k]? =some s)) λ h=>od (Ij hs h)) .none
 | .t xs,v=>AE (M:=λ v=>OP (VR W S [] (.t xs) v)) v (λ a=>match EL (Hf P) a with
   |some p=>bd (DE xs p.1.1) λ h=>od ⟨a,_,_,rfl,hS _ _ p.2 (yL rfl),h⟩
   |none=> .none) .none
 | .fn k,v=>AE (M:=λ v=>OP (VR W S [] (.fn k) v)) v (λ a=>bd (dk (a=zk.getD k 0)) λ h=>od (am Value.ref (h.trans (congrFun hf k).symm))) .none
 | .cls k,v=>AE (M:=λ v=>OP (VR W S [] (.cls k) v)) v (λ a=>bd (dk (a=kS.getD k 0)) λ h=>od (am Value.ref (h.trans (congrFun hc k).symm))) .none
 |_,_=> .none
noncomputable def DE:(xs:List HV)->(vs:List Value)->OP (bW W S [] xs vs)
 |[],vs=>(match vs with|[]=>od trivial|_=> .none)
 |x::xs,vs=>(match vs with|[]=> .none|v::vs=>bd (Iy x v) λ h=>bd (DE xs vs) λ k=>od ⟨h,k⟩)
end
noncomputable def I1 (v:Value) (ds:List HV):OP (sj W S v ds):=Bq (M:=λ v=>OP (sj W S v ds)) v (bd (dk (ds.isEmpty=true)) λ k=>od (.inl ⟨rfl,List.isEmpty_iff.mp k⟩))
 (AE (M:=λ v=>OP (sj W S v ds)) v (λ a=>match EL (Hf P) a with
  |some p=>bd (DE hs hf hc hS ds p.1.1) λ h=>od (.inr ⟨a,_,_,rfl,hS _ _ p.2 (yL rfl),h⟩)
  |none=> .none) .none)
theorem Id:(ez.all λ r=>match funs[r.1]? with
  |some f=>(I1 hs hf hc hS r.2.2.1 f.dflts).isSome
  |none=>false)=true:=by kernel_rfl
noncomputable def gP (h0:VR W S [] (.w []) (.ref 522)) (x:Str) (w:HV):OP (∃v,sU P x=some v/\VR W S [] w v):=
 if hw:w.ctorIdx=5 then HV.w.elim (motive_1:=λ w=>OP (∃v,sU P x=some v/\VR W S [] w v)) w hw λ l=>bd (dk (l=[]/\sU P x=some (.ref 522))) λ h=>od ⟨_,h.2,h.1▸h0⟩
 else match sU P x with
  |some v=>bd (Iy hs hf hc hS w v) λ h=>od ⟨v,rfl,h⟩
  |none=> .none
theorem Ga (h0:VR W S [] (.w []) (.ref 522)):(w0.all λ p=>(gP hs hf hc hS h0 p.1 p.2).isSome)=true:=by kernel_rfl
end
theorem Am:((List.range 78).all λ k=>match funs[k]? with
  |some f=>!(f.ncaps==0)||ez.any λ r=>r.1==k
  |none=>false)=true:=by decide+kernel
noncomputable def Fg (K:Frag) (c:Nat) (h:xQ):Bool:=
 decide (findIn K (.ref (kS.getD c 0)) "__getattribute__"=some (some (.builtin "object.__getattribute__")))&&
 (decide (findIn K (.ref (kS.getD c 0)) "__getattr__"=some none)&&
 (decide (findIn K (.ref (kS.getD c 0)) "__setattr__"=some (some (.builtin "object.__setattr__")))&&
 (plainOver K (kS.getD c 0)&&(hasDictIn K (kS.getD c 0)&&(makesIn K (kS.getD c 0)&&
 (decide (findIn K (.ref (kS.getD c 0)) "__init__"=some (some (.ref (zk.getD h.init 0))))&&
 (List.range gQ.length).all λ a=>!gk bg c a||decide (findIn K (.ref (kS.getD c 0)) (gQ.getD a Str.empty)=some ((dM bg c a).map λ k=> .ref (zk.getD k 0)))))))))
theorem B9 (P:Params):((List.range 7).all λ c=>match bg.clss[c]? with
  |some h=>Fg (KF P) c h
  |none=>false)=true:=by kernel_rfl
theorem Gw (P:Params):((List.range 78).all λ k=>isFn (KF P) (.ref (zk.getD k 0))&&(decide (specialIn (KF P) (.ref (zk.getD k 0)) "__get__"=some (some (.builtin "function.__get__")))&&decide (takesIn (KF P) (.ref (zk.getD k 0))=some false)))=true:=by kernel_rfl
theorem vh:((List.range gQ.length).all λ a=>!copiedNames.contains (gQ.getD a Str.empty))=true:=by decide+kernel
theorem IW (P:Params):([BI.len, .max, .min, .int, .sorted, .set, .frozenset, .tuple].all λ b=>decide (sU P (qw b)=none)&&decide (Eh P (qw b)=some (uG b)))=true:=by kernel_rfl
theorem Ik (P:Params):(["list","dict","zip","range","enumerate"].all λ b=>decide (sU P (Str.ofString b)=none)&&decide (Eh P (Str.ofString b)=some (.type b)))=true:=by kernel_rfl
theorem G5 (P:Params):((Hf P).isNs mainGlobals&&((Hf P).isNs builtinsNs&&((Hf P).isNs cStatics&&(decide ((Hf P).nsMap cStatics "sys.recursionlimit"=none)&&((Hf P).get? sysModules).isSome))))=true:=by kernel_rfl
theorem bmod (P:Params):(sU P "__builtins__",(Hf P).get? 4)=(some (.ref 4),some {cls:= .type "module",dict:=some builtinsNs}):=by kernel_rfl
theorem EY (P:Params):((Hf P).get? 82,(Hf P).get? 103)=(some (tabObj #[]),some (tabObj #[])):=by kernel_rfl
theorem sI (P:Params):(Hf P).get? 522=some (bV "frozenset" [] 0 ⟨7,#[],#[],0,!P.followText "set-order",0,true⟩):=by kernel_rfl
noncomputable def uD (h:Heap) (c T:Addr):OP (CodeHd h c T):=match e:h.get? c with
 |none=> .none
 |some o=>tU (M:=λ d=>o.data=d->OP (CodeHd h c T)) o.data (λ vs ed=>bd (dk (o.cls= .type "code"/\vs[11]? =some (.ref T)/\vs.getD 11 .none= .ref T/\c≠T)) λ k=>
   CY (M:=λ x=>vs.getD 18 .none=x->OP (CodeHd h c T)) (vs.getD 18 .none) (λ U U h1=>C6 (M:=λ x=>vs.getD 7 .none=x->OP (CodeHd h c T)) (vs.getD 7 .none) (λ U U h2=>Br (M:=λ x=>vs.getD 9 .none=x->OP (CodeHd h c T)) (vs.getD 9 .none) (λ U h3=>C6 (M:=λ x=>vs.getD 10 .none=x->OP (CodeHd h c T)) (vs.getD 10 .none) (λ U U h4=>
    od ⟨_,_,_,_,_,_,_,_,_,e,k.1,ed,k.2.1,k.2.2.1,h1,h2,h3,h4,k.2.2.2⟩) (λ U=> .none) rfl) (λ U=> .none) rfl) (λ U=> .none) rfl) (λ U=> .none) rfl) (λ U=> .none) rfl
theorem Iq (P:Params):((uD (Hf P) 86 82).isSome&&(uD (Hf P) 105 103).isSome)=true:=by kernel_rfl
theorem ER (P:Params):TabsAt tabs (Hf P):=by
 have h:=Iq P;have t:=EY P;rw[Bool.and_eq_true] at h;rw[Prod.mk.injEq] at t;intro q hq;rcases aB.mp hq with rfl|hq
 ·exact⟨OP.ok h.1,t.1⟩
 ·rcases aB.mp hq with rfl|hq
  ·exact⟨OP.ok h.2,t.2⟩
  ·cases hq
theorem Eo:gQ.Nodup:=by decide+kernel
noncomputable abbrev ki (s₁:Shared):Heap:=ghostOf s₁.heap tabs
noncomputable def Wx (w:World) (s₁:Shared) (hs:((ki s₁).get? sysModules).isSome=true):Wd where
 prog:=pw
 w:=w
 hb:=ki s₁
 os:=s₁.os
 fnA k:=zk.getD k 0
 clsA c:=kS.getD c 0
 strL:=gQ
 nd:=Eo
 stat:=ci
 sys:=hs
 tabA k:=if k=7 then 82 else 103
 tabP k:=uc (bZ k)
 tabQ k:=if k=7 then "regions_in.<locals>.noted" else "fields_of.<locals>.put_in"
section
variable{w:World} {s₁:Shared}
noncomputable abbrev iQ (w:World) (s₁:Shared):Prop:=∀a o,(Hf w.params).get? a=some o->s₁.heap.get? a=some o
theorem mh (hk:iQ w s₁):TabsAt tabs s₁.heap:=λ q hq=>cO (ER w.params q hq) λ a b=>⟨a.keeps hk,hk _ _ b⟩
theorem vq (hk:iQ w s₁) {a:Addr} {o:Obj} (e:(Hf w.params).get? a=some o) (hn:o≠tabObj #[]):(ki s₁).get? a=some o:=ghost_get (mh hk) (hk _ _ e) hn
theorem gp (hk:iQ w s₁):((ki s₁).get? sysModules).isSome=true:=by
 have h:=G5 w.params;simp only[Bool.and_eq_true] at h;refine HP h λ U U U U h=>?_;obtain⟨o,ho⟩:=bo.mp h;have:(ki s₁).get? sysModules=some o:=ghost_ne (hk _ _ ho) (by decide)
 rw[this];rfl
theorem DF (hk:iQ w s₁) {a:Addr} (h:(Hf w.params).isNs a=true):(ki s₁).Ns a ((Hf w.params).nsMap a):=ghost_ns (mh hk) ((Heap.Ns.of_isNs h).keeps hk)
theorem FH {k:Nat} {f:be} (hf:bg.funs[k]? =some f) (h0:f.ncaps=0):∃r∈ez,r.1=k:=by
 have h:=aM.mp Am k (cy.mpr (lk hf));rw[show funs[k]? =some f from hf] at h;dsimp only at h;rw[h0] at h;have h2:(ez.any λ r=>r.1==k)=true:=by simpa using h
 refine aU (List.any_eq_true.mp h2) λ r hr e=>?_;exact⟨r,hr,beq_iff_eq.mp e⟩
theorem u7:(ez.map λ r=>((ee (bZ r.1)).posonlyargs,(ee (bZ r.1)).vararg,(ee (bZ r.1)).kwonlyargs,(ee (bZ r.1)).kwarg))=ez.map λ U=>([],none,[],none):=by kernel_rfl
theorem xo (r) (hr:r∈ez):(ee (bZ r.1)).posonlyargs=[]/\(ee (bZ r.1)).vararg=none/\(ee (bZ r.1)).kwonlyargs=[]/\(ee (bZ r.1)).kwarg=none:=by
 have:=List.map_inj_left.mp u7 r hr
 simpa only[Prod.mk.injEq] using this
theorem wZ:(ez.all λ r=>match sE r.1 with
  |some (c,q)=>decide (r.2.2.2.2=c)&&decide ((Str.ofString r.2.1++".<locals>.":Str)=q)
  |none=>true)=true:=by decide+kernel
theorem F1 (r) (hr:r∈ez) (c:Addr) (q:Str) (e:sE r.1=some (c,q)):Value.ref r.2.2.2.2= .ref c/\(Str.ofString r.2.1++".<locals>.":Str)=q:=by
 have h:=aM.mp wZ r hr;rw[e] at h;simp only[Bool.and_eq_true,decide_eq_true_eq] at h;exact⟨by rw[h.1],h.2⟩
theorem Fe (hk:iQ w s₁):ia (Wx w s₁ (gp hk)) bg where
 fns k f hf:=(Bc (λ U=>rfl) hf).1
 one k f hf:=(Bc (W:=Wx w s₁ (gp hk)) (λ U=>rfl) hf).2.1
 noDf k f hf:=(Bc (W:=Wx w s₁ (gp hk)) (λ U=>rfl) hf).2.2
 lim:=by
  have h:=G5 w.params;simp only[Bool.and_eq_true,decide_eq_true_eq] at h;refine HP h λ U U h3 h4 U=>?_;exact⟨_,DF hk h3,h4⟩
 base k f hf h0:=by
  refine aU (FH hf h0) λ r hr rq1=>?_;subst rq1;have ho:=List.map_inj_left.mp (Cr w.params) r hr;have hc:=aM.mp (FV w.params) r hr;have hd:=aM.mp (Id (W:=Wx w s₁ (gp hk)) (S:=λ a=>(ki s₁).get? a) rfl rfl rfl λ a o e=>vq hk e) r hr;rw[show funs[r.1]? =some f from hf] at hd;refine iR (OP.ok hc) λ co vs t h1 h2 h3=>?_;exact⟨_,_,vq hk ho (yL rfl),rfl,⟨rfl,xo r hr,rfl,rfl,rfl,rfl,F1 r hr⟩,⟨_,co,vs,t,rfl,vq hk h1 h2,h3⟩,OP.ok hd⟩
end
section
variable{w:World} {s₁:Shared}
theorem tj {X Z:Type} [BEq X] [LawfulBEq X]:∀{l:List (X×Z)} {a:X} {b:Z},l.lookup a=some b->(a,b)∈l:=by
 intro l_
 induction l_ with
 |nil=>
  intro _ _ e;cases e
 |cons p_ r ih=>
  rcases p_ with⟨x,y⟩;intro a b e;rw[List.lookup_cons] at e
  induction hb:a==x using Jp with
  |true=>rw[hb] at e;cases e;rw[eq_of_beq hb];exact .head _
  |false=>rw[hb] at e;exact .tail _ (ih e)
theorem lR {n:Nat} {f:Nat->Bool} (h:((List.range n).all f)=true) {k:Nat} (hk:k<n):f k=true:=aM.mp h k (cy.mpr hk)
theorem I5 (hk:iQ w s₁):rR (Wx w s₁ (gp hk)) bg (KF w.params) where
 kin:=ghost_K (mh hk) (λ a o e=>hk _ _ (GC w.params a o e)) (vz w.params)
 cls c h hc:=by
  have hlt:c<7:=(ao.mp hc).1;have e:=lR (B9 w.params) hlt;rw[hc] at e;simp only[Fg,Bool.and_eq_true,decide_eq_true_eq] at e;obtain⟨e1,e2,e3,e4,e5,e6,e7,e8⟩:=e;refine⟨e1,e2,e3,e4,e5,e6,e7,λ a ha hat=>?_⟩;have e:=lR e8 ha;rw[hat] at e;rw[Bool.not_true,Bool.false_or] at e;exact bq e
 fn k _ hf:=by
  refine ce hf λ f hf=>?_;have e:=lR (Gw w.params) (lk hf);rw[Bool.and_eq_true,Bool.and_eq_true,decide_eq_true_eq,decide_eq_true_eq] at e;exact e
 copied a ha:=by
  have e:=lR vh ha;rw[Bool.not_eq_true'] at e;exact e
theorem Cg:(bg.mns.all λ p=>decide (gQ.getD p.1 Str.empty=(match p.2 with| .append=>Str.ofString "append"| .pop=>Str.ofString "pop"| .extend=>Str.ofString "extend"| .index=>Str.ofString "index"| .get=>Str.ofString "get"| .setdefault=>Str.ofString "setdefault")))=true:=by decide+kernel
theorem Gz (hk:iQ w s₁):tL (Wx w s₁ (gp hk)) bg where
 names a m h:=by
  have:=aM.mp Cg (a,m) (tj h);rw[decide_eq_true_eq] at this;exact this
theorem Hy (hk:iQ w s₁):jN (Wx w s₁ (gp hk)) (sU w.params) (Eh w.params):=by
 have h:=G5 w.params;simp only[Bool.and_eq_true] at h;exact⟨DF hk h.1,DF hk h.2.1⟩
theorem rk (P:Params) {b:String} (hb:b∈["list","dict","zip","range","enumerate"]):sU P (Str.ofString b)=none/\Eh P (Str.ofString b)=some (.type b):=by
 have:=aM.mp (Ik P) b hb
 simpa only[Bool.and_eq_true,decide_eq_true_eq] using this
theorem BZ (hk:iQ w s₁) (u:HV) (x:Str) (h:w0.lookup x=some u):∃v,sU w.params x=some v/\VR (Wx w s₁ (gp hk)) (λ a=>(ki s₁).get? a) [] u v:=by
 refine OP.ok (aM.mp (Ga rfl rfl rfl (λ a o e=>vq hk e) ?_) (x,u) (tj h));refine⟨522,[],0,_,rfl,vq hk (sI w.params) (yL rfl),⟨[], .refl _, .nil⟩, .nil,by kernel_rfl,λ U=>⟨rfl,rfl,rfl,?_⟩⟩
 show(!w.params.followText "set-order")=true\/w.params.followText "set-order"=true;cases w.params.followText "set-order"
 ·exact .inl rfl
 ·exact .inr rfl
theorem C9:((List.range 7).all λ c=>match bg.clss[c]? with
  |some h=>h.meths.all λ p=>Nat.blt p.2 78
  |none=>false)=true:=by decide+kernel
theorem facts (hk:iQ w s₁) (ck:bn) (d:Nat) (ok:iu (Wx w s₁ (gp hk)) bg ck d) (dom:d6 bg ck):kt (Wx w s₁ (gp hk)) bg ck d (KF w.params) (sU w.params) (Eh w.params) MT where
 ok:=ok
 dom:=dom
 po:=Fe hk
 wo:=I5 hk
 mo:=Gz hk
 go:=Hy hk
 hfn c k a h:=by
  unfold dM at h
  split at h
  ·rename_i hc he;have hlt:c<7:=(ao.mp he).1;have e:=lR C9 hlt;rw[he] at e;exact Nat.blt_eq.mp (aM.mp e _ (tj h))
  ·cases h
 strL:=rfl
 glob:=BZ hk
 bi b:=by
  have:=aM.mp (IW w.params) b (by rcases b with _|_<;>repeat(first|exact .head _|apply List.Mem.tail))
  simpa only[Bool.and_eq_true,decide_eq_true_eq] using this
 list:=rk _ (by decide)
 dict:=rk _ (by decide)
 zip:=rk _ (by decide)
 range:=rk _ (by decide)
 enum:=rk _ (by decide)
theorem xy (hk:iQ w s₁) {T:Addr} (hT:(4:Nat)≠T):(ki s₁).BuiltinsAt (sU w.params) T:=by
 have h:=bmod w.params;rw[Prod.mk.injEq] at h;exact⟨4,_,h.1,by decide,by decide,hT,vq hk h.2 (λ q=>by cases am Obj.cls q),rfl,rfl,rfl⟩
theorem EN (hk:iQ w s₁):CodeHd (ki s₁) 86 82/\CodeHd (ki s₁) 105 103:=by
 have:=ghost_code (mh hk);exact⟨this.1,this.2.1⟩
theorem base (hk:iQ w s₁):B3 (Wx w s₁ (gp hk)) (KF w.params) (sU w.params) (Eh w.params) where
 stat _:=rfl
 facts:=facts hk
 def7:={
  code:=⟨86,"regions_in.<locals>.",rfl,(EN hk).1,by show(Str.ofString "regions_in.<locals>."++mD (bZ 7):Str)="regions_in.<locals>.noted";decide+kernel⟩
  pos:=rfl
  cap:=by decide+kernel
  kcap:=by decide+kernel
  noexp:=by decide+kernel
  free:=by decide+kernel
  isfree:=by decide+kernel
  dfl:=by kernel_rfl
  kdf:=by kernel_rfl
  ann:=λ env=>by kernel_rfl
  params:=rfl
  plain:=⟨by kernel_rfl,by kernel_rfl,by kernel_rfl,by kernel_rfl⟩
  body:=rfl
  scope:=rfl
  nocode:=rfl
  lay:=by show(ci 7).lay.drop ((ci 7).lay.length - 1)=_;decide+kernel
  bmod:=xy hk (T:=82) (by decide)
  gne:=by show mainGlobals≠82;decide}
 def11:={
  code:=⟨105,"fields_of.<locals>.",rfl,(EN hk).2,by show(Str.ofString "fields_of.<locals>."++mD (bZ 11):Str)="fields_of.<locals>.put_in";decide+kernel⟩
  pos:=rfl
  cap:=by decide+kernel
  kcap:=by decide+kernel
  noexp:=by decide+kernel
  free:=by decide+kernel
  isfree:=by decide+kernel
  dfl:=by kernel_rfl
  kdf:=by kernel_rfl
  ann:=λ env=>by kernel_rfl
  params:=rfl
  plain:=⟨by kernel_rfl,by kernel_rfl,by kernel_rfl,by kernel_rfl⟩
  body:=rfl
  scope:=rfl
  nocode:=rfl
  lay:=by show(ci 11).lay.drop ((ci 11).lay.length - 1)=_;decide+kernel
  bmod:=xy hk (T:=103) (by decide)
  gne:=by show mainGlobals≠103;decide}
end
noncomputable def qv:Program:={pw with main:={pw.main with body:=[sA 76]}}
noncomputable def Fv:List Str:=["_wall","LendError","DROP","parts_of","rebuilt","substituted","with_regions","no_region","erased","regions_in","matched","field_rows","fields_of","has_drop","Body","points","successors","predecessors","field_type","projected","place_type","operands_of","operands_at","indices_of","joined","through","solve_forward","all_facts","behind_block","back_to","solve_backward","all_facts_before","looked_at","written_at","dropped_at","turned_at","READY","MOVED","UNSET","DROPPED","has_own_drop","MovePaths","Moves","drop_regions","dropped_within","holds_something","live_regions","NOTHING","used_locals","is_return","dropped_locals","set_locals","Liveness","Adt","ImplRow","World","_law_pool","_law_take","_law_one","_law_u8","_law_part","_law_world","_law_type","_law_events","_law_body","_law_lives","_law_right"].map Str.ofString
theorem FD (w:World) (os:OsState):topRun treeTable pw w 11 aT (12+(1+(4700+2))) (S0 w os) (topStub pw)=some (Sf w os):=
 go_top (congrFun (Fh w) os) (piece_block (congrFun (zt w) os) (by
  have:=piece_app (rest:=[]) (segRun_of (congrFun (EP w) os)) (piece_nil (congrFun (FK w) os));rw[List.append_nil] at this;exact this))
theorem CJ:∀w:World,(fencedOpening treeTable pw w 10000).map (λ s=>(s.heap,s.gens,s.drawn,s.toks))=some (boot_heap w.params,Array.mk [],boot_drawn,boot_toks):=
 boot_open (by kernel_rfl) (by decide) λ s=>by kernel_rfl
theorem Ds (w:World):((boot_heap w.params).isNs mainGlobals&&(Array.mk []:Array GenState).size==0,(boot_heap w.params).objs.size,(boot_heap w.params).nsMap mainGlobals "__annotations__")=(true,11,aT):=by kernel_rfl
theorem Aa (w:World) (os:OsState):(staticsOk (importedModules pw.main.body) (boot_heap w.params) (Hf w.params)&&namesBound pw (Hf w.params)&&gensDone (Sf w os)&&laidKept (boot_heap w.params) (Hf w.params))=true:=by kernel_rfl
theorem CQ (w:World) (os:OsState):openSeen qv Fv (importedModules pw.main.body) (λ U=>true) true (Sf w os)=openGood qv Fv:=by kernel_rfl
theorem Cy:LeftO pw qv Fv (λ U=>true) (λ s=>s.heap) (λ w=>Hf w.params) 10000:=
 LeftO.of_pieces (H₀:=boot_heap) (H₁:=Hf) (gs₀:=⟨[]⟩) (gs₁:=⟨[]⟩) (d₀:=boot_drawn) (d₁:={}) (k₀:=boot_toks) (k₁:=1331) (m₀:=11) (ann:=aT) (M:=12+(1+(4700+2))) CJ Ds (λ w os=>FD w os) (by decide)
  λ w=>funext λ os=>Prod.ext (Aa w os) (Prod.ext (CQ w os) rfl)
noncomputable abbrev E5:OpenLaw:=PySem.Challenge.rw_sa0452_01
noncomputable def Fq:DefRec:=⟨"law",ee (sA 76),fu (sA 76),i6 (sA 76),uc (sA 76)⟩
noncomputable def xn:Prop:=∀xs:List Int,xs.length<=63->(∀x∈xs,x.natAbs.log2<=2^20)->∃n,n<=40/\hW bg n 77 [.rl (xs.map .int)] [] [.tab 7, .tab 11] λ v V=>v= .bool true/\∃O,V=[.tab 7, .tab 11]++O
section
variable{w:World} {s₁:Shared}
theorem Ah (hk:iQ w s₁) (hg:s₁.gens=#[]):St (Wx w s₁ (gp hk)) (λ U=>none) (λ a=>(ki s₁).get? a) [(82,0),(103,0)] [.tab 7, .tab 11] s₁ where
 S_ok a o e:=of_hideAll _ e
 T_ok a o e:=by cases e
 TS a o e:=by cases e
 len:=rfl
 obj i ho p h1 h2:=by
  have t:=mh hk
  match i,h1,h2 with
  |0,h1,h2=>
   cases h1;cases h2;exact⟨rfl,#[],(t (86,82) (.head _)).2, .inl rfl⟩
  |1,h1,h2=>
   cases h1;cases h2;exact⟨rfl,#[],(t (105,103) (.tail _ (.head _))).2, .inl rfl⟩
  |i+2,h1,h2=>cases h1
 free p hp:=by
  refine⟨hideAll_none _ ?_,rfl⟩;rcases aB.mp hp with rfl|hp
  ·exact .head _
  ·rcases aB.mp hp with rfl|hp
   ·exact .tail _ (.head _)
   ·cases hp
 nd:=by decide
 base a o e:=e
 os:=rfl
 gens:=hg
theorem AB {h:Heap} {a:Addr} {m m':Str->Option Value} (x:h.Ns a m) (y:h.Ns a m') (n:Str):m n=m' n:=by
 refine nv x λ o es ep e1 e2 U e3=>?_;refine nv y λ o' es' ep' f1 f2 U f3=>?_;rw[e1] at f1;cases f1;rw[e2] at f2;cases f2;rw[<- e3,<- f3]
theorem Cd (P:Params):sU P "law"=some (.ref 749):=by kernel_rfl
theorem BQ:bg.funs[77]? =some uu/\uu.ncaps=0:=⟨rfl,rfl⟩
theorem walk (law:xn):WalkX qv Fv (λ U U=>True) (λ s=>s.heap) (λ w=>Hf w.params) E5.row.toRowW Fq [] (λ f vs=>PySem.call f vs):=by
 intro w s₀ s₁ mg mb G ρ fa o pm cd doc dV kV ho hd hcd hD hmg hg args vals as hL hpre hlay hrd hwl hlo
 wrow_args hpre hlay hrd hwl hlo
 rename_i xs h1 h2 h3 h4 h5 as1 as2 a items as3 hl ra wl rd hi hr hc hc2;have hlen:xs.length<=63:=by lia
 have hk:iQ w s₁:=λ b ob e=>hL.keeps b ob (by rw[show s₀.heap=Hf w.params from ρ];exact e)
 have hfa:fa=749:=by
  have hn:s₁.heap.Ns mainGlobals (sU w.params):=by
   have h:=G5 w.params;simp only[Bool.and_eq_true] at h;exact(Heap.Ns.of_isNs h.1).keeps hk
  have e:=AB G.T.g hn "law";rw[Cd] at e;have hmg':mg "law"=some (.ref fa):=hmg;rw[hmg'] at e;cases e;rfl
 subst hfa;obtain⟨n,hn,run⟩:=law xs hlen λ x hx=>by
  have hw:=PyData.weight_item_of_list h3 (bI (f:=PyData.int) hx);rw[PyData.weight] at hw;by_cases h0:x=0
  ·subst h0;exact aO _
  ·rw[if_neg (by simpa using h0)] at hw;lia
 obtain⟨ok,dom⟩:=EC (base hk) n;have B:=base hk;have st:=Ah hk hg;refine kY (codeAny_mono (R:=GoodWG E5.row.toRowW.claim (classAt s₀.heap) (ExcName.means s₀.heap) [ofPy (.list (xs.map .int))] s₁) ?_ ?_)
 ·refine kn_post (tabs:=tabs) (mh hk) (λ U U=>rfl) ?_;refine ok 77 uu 749 [.rl (xs.map .int)] [] [.ref a] callerA (λ U=>none) (λ a=>(ki s₁).get? a) [(82,0),(103,0)] [.tab 7, .tab 11] s₁ _ _ BQ.1 ⟨rfl,?_,?_⟩ st (gZ (Fe hk) st BQ.1 rfl) run ?_ ?_
  ·show 1+claimMargin+2*(2*n+1)<=990;have:claimMargin=300:=rfl;lia
  ·show 4+100*(2*n+1+1)<9900;lia
  ·obtain⟨ol,e1,e2,m,e3⟩:=hl;exact⟨⟨a,items,ol,m,rfl,ghost_get (mh hk) e1 (λ q=>by rw[q] at e2;cases e2),e2,e3,kC hi⟩,trivial⟩
  ·rintro _ V' ⟨rfl,O,rfl⟩ S' H' v s' p1 p2 st' hv;subst hv;refine⟨⟨.inl ⟨_, .bool true,[],rfl,λ U=>rfl, .bool _,?_,λ U=>⟨.nil,λ U h=>by cases h⟩⟩,λ b ob e=>st'.S_ok _ _ (p1 _ _ e),st'.os,st'.gens⟩,?_⟩
   ·kernel_rfl
   ·have g:∀(i k:Nat) (p:Addr×Nat),([.tab 7, .tab 11]++O:aF)[i]? =some (.tab k)->H'[i]? =some p->GrownAt p.1 s'.heap:=λ i k p q1 q2=>by
     obtain⟨_,ps,e,_⟩:=st'.obj i _ p q1 q2;exact⟨ps,e⟩
    exact⟨g 0 7 (82,0) rfl (fg p2 rfl),g 1 11 (103,0) rfl (fg p2 rfl),trivial⟩
 ·intro r s' h;rcases r with e|fl
  ·exact h
  ·cases fl with
   |ret v=>exact h
   |_=>obtain⟨⟨_,_,_,q,_⟩|⟨_,_,_,q,_⟩,_⟩:=h<;>cases q
end
set_option maxHeartbeats 0 in
theorem holds (law:xn):PySem.Challenge.rw_sa0452_01.Holds:=by
 refine holds_law ((congrFun PySem.W.Fast.te9446332074065402090 PySem.Challenge.rw_sa0452_01).trans (by kernel_rfl)) λ said=>?_
 ·refine holds_openX (q:=qv) (loose:=Fv) (Xt:=λ U=>true) (XP:=λ U U=>True) (Yf:=λ s=>s.heap) (Ya:=λ w=>Hf w.params) (N:=10000) (d:=Fq) (kwd:=[]) Cy (λ U U=>trivial) (λ U U U U U=>trivial) (by kernel_rfl) (by kernel_rfl) (by kernel_rfl) (λ s e=>recFacts_of rfl) ?_ said ?_ ?_ ?_ ?_
  ·decide
  ·decide+kernel
  ·exact⟨rfl,rfl,rfl,rfl,rfl,by decide+kernel⟩
  ·w_witness2
  ·exact walk law
theorem nl {a b:Nat} (h:Nat.ble a b=true):a<=b:=ae h
noncomputable def bt (V V':aF):Prop:=∀(i:Nat) (ho:HO),V[i]? =some ho->V'[i]? =some ho
theorem bt.refl (V:aF):bt V V:=λ U U e=>e
theorem bt.trans {a b c:aF} (h:bt a b) (k:bt b c):bt a c:=λ i ho e=>k i ho (h i ho e)
theorem bt.app (V O:aF):bt V (V++O):=λ i ho e=>by
 rw[List.getElem?_append_left (List.getElem?_eq_some_iff.mp e).1];exact e
theorem dI {X:Type} {l:List X} {i:Nat} {x:X} (h:l[i]? =some x):i<l.length:=(ao.mp h).1
theorem br {V:aF} {i:Nat} {o:HO} (h:V[i]? =some o):i<V.length:=(ao.mp h).1
theorem bt.len {V V':aF} (h:bt V V'):V.length<=V'.length:=by
 by_cases h0:V.length=0
 ·exact h0▸aO _
 ·exact Nat.le_of_pred_lt (br (h _ _ (ak (Nat.pred_lt h0))))
noncomputable def SB (i:Nat) (V V':aF):Prop:=∀(j:Nat) (ho:HO),j≠i->V[j]? =some ho->V'[j]? =some ho
theorem SB.refl (i:Nat) (V:aF):SB i V V:=λ U U U e=>e
theorem SB.trans {i:Nat} {a b c:aF} (h:SB i a b) (k:SB i b c):SB i a c:=λ j ho n e=>k j ho n (h j ho n e)
theorem bt.sb {i:Nat} {a b:aF} (h:bt a b):SB i a b:=λ j ho U e=>h j ho e
theorem bt.upd {V O O':aF} {i:Nat} (h:bt V O) (k:SB i O O') (hi:V.length<=i):bt V O':=λ j ho e=>k j ho (λ q=>by rw[q] at e;exact aN (br e) (bF.mpr hi)) (h j ho e)
theorem zU (V l:aF) (k:Nat):(V++l)[V.length+k]? =l[k]? :=by rw[List.getElem?_append_right (Nat.le_add_right _ _),Nat.add_sub_cancel_left]
theorem yW (V:aF) (o:HO):(V++[o])[V.length]? =some o:=zU V [o] 0
theorem aP {n k d:Nat} {f:be} {args cs:List HV} {V:aF} {K:KV} (Y:bc) (hf:bg.funs[k]? =some f) (ha:(decide (args.length<=f.nargs)&&decide (f.nargs - args.length<=f.dflts.length)&&decide (cs.length=f.ncaps))=true)
  (hρ:(args++f.dflts.drop (f.dflts.length - (f.nargs - args.length))).map SV.val++List.replicate (f.nslots - f.nargs) SV.empty++cs.map SV.ro=Y) (hd:n+1<=d)
  (h:∀d,n<=d->kL bg (hW bg d) f.body Y V (λ U V=>K .none V) K):hW bg d k args cs V K:=by
 induction d using Jq with
 |zero=>exact aN hd (hZ n)
 |succ d=>
  show oF bg.funs[k]? _;rw[hf];refine⟨ha,?_⟩;rw[hρ];exact h d (cu hd)
section
variable{V:aF} {K:KV}
theorem aR {o:HO} (j:Nat) (hj:V.length=j) (h:∀V',bt V V'->V'[j]? =some o->V'.length=j+1->K (.ref j) V'):eJ V K o:=by
 subst hj;exact⟨h _ (bt.app _ _) (yW _ _) (by rw[List.length_append];rfl)⟩
theorem sZ {P:aF->Prop} {i:Nat} {o o':HO} (hi:V[i]? =some o) (h:∀V',SB i V V'->V'[i]? =some o'->V'.length=V.length->P V'):P (V.set i o'):=
 h _ (λ j x n e=>by rw[List.getElem?_set_ne (Ne.symm n)];exact e) (List.getElem?_set_self (br hi)) List.length_set
theorem dB {i:Nat} {xs:List HV} {v:HV} (hi:V[i]? =some (.list xs)) (hl:xs.length<lim) (h:∀V',SB i V V'->V'[i]? =some (.list (xs++[v]))->V'.length=V.length->K .none V'):qt V K i .append [v]:= .append hi hl (sZ (P:=λ V=>K .none V) hi h)
theorem Dk {i:Nat} {xs:List HV} {v:HV} (hi:V[i]? =some (.list xs)) (hl:xs.length<lim) (hv:xs.getLast?=some v) (h:∀V',SB i V V'->V'[i]? =some (.list xs.dropLast)->V'.length=V.length->K v V'):qt V K i .pop []:= .pop hi hl hv (sZ (P:=λ V=>K v V) hi h)
theorem wK {i j:Nat} {xs ys:List HV} (hi:V[i]? =some (.list xs)) (hj:V[j]? =some (.list ys)) (n:i≠j) (hl:xs.length+ys.length<lim) (h:∀V',SB i V V'->V'[i]? =some (.list (xs++ys))->V'.length=V.length->K .none V'):qt V K i .extend [.ref j]:= .extend hi hj n hl (sZ (P:=λ V=>K .none V) hi h)
theorem xW {i j:Nat} {xs ys:List HV} (k:Nat) (hk:V.length=k) (hi:V[i]? =some (.list xs)) (hj:V[j]? =some (.list ys)) (hl:xs.length+ys.length<lim) (h:∀V',bt V V'->V'[k]? =some (.list (xs++ys))->V'.length=k+1->K (.ref k) V'):dh V K .add (.ref i) (.ref j):= .cat hi hj hl (aR k hk h).h
theorem srtL {i:Nat} {xs:List HV} {l:List Int} (k:Nat) (hk:V.length=k) (hi:V[i]? =some (.list xs)) (e:cr xs=some l) (hl:l.length<64) (h:∀V',bt V V'->V'[k]? =some (.list ((dW l).map .int))->V'.length=k+1->K (.ref k) V'):eU V K .sorted [.ref i]:= .srtL hi e hl (aR k hk h).h
theorem putL {F:aF->Prop} {i j:Nat} {v:HV} {xs:List HV} (hi:V[i]? =some (.list xs)) (hl:xs.length<lim) (hj:j<xs.length) (h:∀V',SB i V V'->V'[i]? =some (.list (xs.set j v))->V'.length=V.length->F V'):nt V v F (.ref i) (.int (.ofNat j)):= .l hi hl hj (sZ (P:=F) hi h)
theorem putD {F:aF->Prop} {i:Nat} {k v:HV} {kvs:List (HV×HV)} (hi:V[i]? =some (.dict kvs)) (hk:bp k kvs=true) (hl:kvs.length<lim) (h:∀V',SB i V V'->V'[i]? =some (.dict (dC k v kvs))->V'.length=V.length->F V'):nt V v F (.ref i) k:= .dct hi hk hl (sZ (P:=F) hi h)
theorem dK {F:aF->Prop} {c i a:Nat} {v:HV} {kvs:List (HV×HV)} (hi:V[i]? =some (.dict kvs)) (hk:(gk bg c a&&bp (.str a) kvs)=true) (hm:dM bg c a= .none) (hl:kvs.length<500) (h:∀V',SB i V V'->V'[i]? =some (.dict (dC (.str a) v kvs))->V'.length=V.length->F V'):Fa bg V a v F (.obj c i):= .mk hi hk hm hl (sZ (P:=F) hi h)
theorem gq (h:eJ V K (.dict [])):oF (gJ [] []) λ d=>eJ V K (.dict d):=h
theorem nT {k n:Nat} (h:k<n):place (k:Int) n=some k:=if_pos h
theorem cB {F:HV->Prop} {i k:Nat} {xs:List HV} {v:HV} (hi:V[i]? =some (.list xs)) (hl:xs.length<lim) (hv:xs[k]? =some v) (q:F v):bj V F (.ref i) (.int (k:Int)):= .l hi hl (nT (ao.mp hv).1) hv q
end
noncomputable def sl:Option HV->SV
 |some v=> .val v
 | .none=> .empty
theorem eG {Y:bc} {i:Nat} {v:HV} {F:bc->Prop} (o:Option HV) (h:Y[i]? =some (sl o)) (q:F (Y.set i (.val v))):oF (dS Y i v) F:=by
 unfold dS;rw[h];rcases o with _|_<;>exact q
theorem bM {Y:bc} {i:Nat} {v:HV} {F:bc->Prop} (o:Option HV) (h:Y[i]? =some (sl o)) (q:F (Y.set i (.val v))):oF (fP Y (.x i) v) F:=eG o h q
theorem uf {o:Option bc} {f:bc->Option bc} {F:bc->Prop} (h:oF o λ a=>oF (f a) F):oF (match o with|some a=>f a| .none=> .none) F:=by rcases o with _|_<;>exact h
theorem eP {Y:bc} {i j:Nat} {u v:HV} {F:bc->Prop} (o o':Option HV) (h:Y[i]? =some (sl o)) (h':(Y.set i (.val u))[j]? =some (sl o')) (q:F ((Y.set i (.val u)).set j (.val v))):oF (fP Y (.t [.x i, .x j]) (.t [u,v])) F:=
 uf (o:=dS Y i u) (f:=λ Y=>jB Y [.x j] [v]) (eG o h (uf (o:=dS (Y.set i (.val u)) j v) (f:=λ Y=>jB Y [] []) (eG o' h' q)))
section
variable{X Z:Type} {V:aF} {N:bc->aF->Prop} {body:HV->bc->aF->(bc->aF->Prop)->Prop}
theorem zA {s:gz} {n:Nat} (at_:Nat->HV) (st:X->bc) (I:Nat->X->aF->Prop) (ha:∀k a V (F:Option HV->Prop),I k a V->(k<n->F (some (at_ k)))->(k=n->F .none)->jW V k F s)
  (turn:∀k a V,k<n->I k a V->∀N':bc->aF->Prop,(∀a' V',I (k+1) a' V'->N' (st a') V')->body (at_ k) (st a) V N') (fin:∀a V,I n a V->N (st a) V) (a:X) (h0:I 0 a V):∃m,mx s body m 0 (st a) V N:=by
 have key:∀m k a V,k+m=n->I k a V->mx s body (m+1) k (st a) V N:=by
  intro m
  induction m with
  |zero=>exact λ k a V e h=>ha k a V _ h (λ q=>aN q (e▸bS _)) λ q=>fin a V (q▸h)
  |succ m ih=>exact λ k a V e h=>ha k a V _ h (λ q=>turn k a V q h _ λ a' V' h'=>ih (k+1) a' V' (by rw[<- e,Nat.add_assoc,Nat.add_comm 1 m]) h') λ q=>aN (q.trans e.symm) (aH (Nat.lt_add_of_pos_right (cD m)))
 exact⟨n+1,key n 0 a V (Nat.zero_add n) h0⟩
theorem iA {t:Int} {n:Nat}:∀(a:Int) (k:Nat),(dq a t n)[k]? =if k<n then some (.int (a+t*k)) else none:=by
 induction n with
 |zero=>exact λ a k=>List.getElem?_nil.trans (if_neg (a0 k)).symm
 |succ n ih=>
  intro a k
  induction k using Jq with
  |zero=>rw[if_pos (Nat.succ_pos n)];exact am (λ x=>some (HV.int x)) ((Int.add_zero a).symm.trans (am _ (Int.mul_zero t).symm))
  |succ k=>
   refine(ih (a+t) k).trans ?_;by_cases h:k<n
   ·rw[if_pos h,if_pos (Nat.succ_lt_succ h),Int.natCast_succ,Int.mul_add,Int.mul_one,Int.add_comm (t*k),Int.add_assoc]
   ·rw[if_neg h,if_neg λ q=>h (Nat.lt_of_succ_lt_succ q)]
theorem uz {V:aF} {n k:Nat} {F:Option HV->Prop} (h1:k<n->F (some (.int k))) (h2:k=n->F .none) (hk:k<=n):jW V k F (.static (dq 0 1 n)):= .st (by
 rw[iA];by_cases h:k<n
 ·rw[if_pos h,Int.zero_add,Int.one_mul];exact h1 h
 ·rw[if_neg h];exact h2 (cn hk (bF.mp h)))
theorem mc {n:Nat} (hn:n<2000) (st:X->bc) (I:Nat->X->aF->Prop) (a:X) (h0:I 0 a V) (turn:∀k a V,k<n->I k a V->∀N':bc->aF->Prop,(∀a' V',I (k+1) a' V'->N' (st a') V')->body (.int k) (st a) V N') (fin:∀a V,I n a V->N (st a) V):
  Bm (λ xs=>∃m,mx (.static xs) body m 0 (st a) V N) [.int n]:=
 .up hn<|zA (n:=n) (λ k=> .int k) st (λ k a V=>k<=n/\I k a V) (λ k a V F h h1 h2=>uz h1 h2 h.1) (λ k a V hk h N' q=>turn k a V hk h.2 N' λ a' V' h'=>q a' V' ⟨hk,h'⟩) (λ a V h=>fin a V h.2) a ⟨aO _,h0⟩
theorem E7 {n:Nat} (hn:n<1000) (st:X->bc) (I:Nat->X->aF->Prop) (a:X) (h0:I (n+1) a V) (turn:∀k a V,k<=n->I (k+1) a V->∀N':bc->aF->Prop,(∀a' V',I k a' V'->N' (st a') V')->body (.int k) (st a) V N') (fin:∀a V,I 0 a V->N (st a) V):
  Bm (λ xs=>∃m,mx (.static xs) body m 0 (st a) V N) [.int n, .int (-1), .int (-1)]:=by
 refine .dn (az hn (by decide)) ?_
 refine zA (n:=n+1) (λ k=> .int ((n - k:Nat):Int)) st (λ k a V=>k<=n+1/\I (n+1 - k) a V) (λ k a V F h h1 h2=> .st ?_) (λ k a V hk h N' q=>turn (n - k) a V (k7 _ _) (Eq.mp (am (λ j=>I j a V) (Nat.succ_sub (bC hk))) h.2) N' λ a' V' h'=>q a' V' ⟨hk,by rw[Nat.add_sub_add_right];exact h'⟩) (λ a V h=>fin a V (Eq.mp (am (λ j=>I j a V) (Nat.sub_self (n+1))) h.2)) a ⟨aO _,h0⟩
 rw[iA];by_cases h':k<n+1
 ·rw[if_pos h',Int.neg_one_mul,<- Int.sub_eq_add_neg,<- Int.ofNat_sub (Nat.le_of_lt_succ h')];exact h1 h'
 ·rw[if_neg h'];exact h2 (cn h.1 (bF.mp h'))
theorem qA {i:Nat} {xs:List HV} (st:X->bc) (I:Nat->X->aF->Prop) (a:X) (h0:I 0 a V) (hi:∀k a V,I k a V->V[i]? =some (.list xs)) (turn:∀k v a V,xs[k]? =some v->I k a V->∀N':bc->aF->Prop,(∀a' V',I (k+1) a' V'->N' (st a') V')->body v (st a) V N') (fin:∀a V,I xs.length a V->N (st a) V):
  ∃m,mx (.l i) body m 0 (st a) V N:=by
 refine zA (n:=xs.length) (λ k=>xs[k]?.getD .none) st (λ k a V=>k<=xs.length/\I k a V) (λ k a V F h h1 h2=> .l (hi k a V h.2) ?_) (λ k a V hk h N' q=>turn k _ a V (by rw[List.getElem?_eq_getElem hk];rfl) h.2 N' λ a' V' h'=>q a' V' ⟨hk,h'⟩) (λ a V h=>fin a V h.2) a ⟨aO _,h0⟩
 by_cases h':k<xs.length
 ·rw[List.getElem?_eq_getElem h'] at h1 ⊢;exact h1 h'
 ·rw[List.getElem?_eq_none (Nat.not_lt.mp h')];exact h2 (cn h.1 (bF.mp h'))
theorem Ix {test:bc->aF->KV->Prop} {bd:bc->aF->(bc->aF->Prop)->Prop} (m:Nat) (st:X->bc) (I:Nat->X->aF->Prop) (a:X) (h0:I m a V)
  (turn:∀m a V,I m a V->∀N':bc->aF->Prop,(∀m' a' V',m'<m->I m' a' V'->N' (st a') V')->test (st a) V λ v V'=>yM v (bd (st a) V' N') (N (st a) V')):∃n,Ee test bd n (st a) V N:=by
 have key:∀f m a V,m<=f->I m a V->Ee test bd (f+1) (st a) V N:=by
  intro f
  induction f with
  |zero=>exact λ m a V hm h=>turn m a V h _ λ m' a' V' h1=>aN (aw h1 hm) (a0 _)
  |succ f ih=>exact λ m a V hm h=>turn m a V h _ λ m' a' V' h1 h2=>ih m' a' V' (bC (aw h1 hm)) h2
 exact⟨m+1,key m m a V (ai m) h0⟩
theorem Dv {s:gz} {n:Nat} {bd:HV->bc->aF->Z->(bc->aF->Z->Prop)->Prop} {M:bc->aF->Z->Prop} {b:Z} (at_:Nat->HV) (st:X->bc) (I:Nat->X->aF->Z->Prop) (ha:∀k a V b (F:Option HV->Prop),I k a V b->(k<n->F (some (at_ k)))->(k=n->F .none)->jW V k F s)
  (turn:∀k a V b,k<n->I k a V b->∀N':bc->aF->Z->Prop,(∀a' V' b',I (k+1) a' V' b'->N' (st a') V' b')->bd (at_ k) (st a) V b N') (fin:∀a V b,I n a V b->M (st a) V b) (a:X) (h0:I 0 a V b):∃m,eA s bd m 0 (st a) V b M:=by
 have key:∀m k a V b,k+m=n->I k a V b->eA s bd (m+1) k (st a) V b M:=by
  intro m
  induction m with
  |zero=>exact λ k a V b e h=>ha k a V b _ h (λ q=>aN q (e▸bS _)) λ q=>fin a V b (q▸h)
  |succ m ih=>exact λ k a V b e h=>ha k a V b _ h (λ q=>turn k a V b q h _ λ a' V' b' h'=>ih (k+1) a' V' b' (by rw[<- e,Nat.add_assoc,Nat.add_comm 1 m]) h') λ q=>aN (q.trans e.symm) (aH (Nat.lt_add_of_pos_right (cD m)))
 exact⟨n+1,key n 0 a V b (Nat.zero_add n) h0⟩
theorem Il {n:Nat} {bd:HV->bc->aF->Z->(bc->aF->Z->Prop)->Prop} {M:bc->aF->Z->Prop} {b:Z} (st:X->bc) (I:Nat->X->aF->Z->Prop) (a:X) (h0:I 0 a V b)
  (turn:∀k a V b,k<n->I k a V b->∀N':bc->aF->Z->Prop,(∀a' V' b',I (k+1) a' V' b'->N' (st a') V' b')->bd (.int k) (st a) V b N') (fin:∀a V b,I n a V b->M (st a) V b):∃m,eA (.static (dq 0 1 n)) bd m 0 (st a) V b M:=
 Dv (n:=n) (λ k=> .int k) st (λ k a V b=>k<=n/\I k a V b) (λ k a V b F h h1 h2=>uz h1 h2 h.1) (λ k a V b hk h N' q=>turn k a V b hk h.2 N' λ a' V' b' h'=>q a' V' b' ⟨hk,h'⟩) (λ a V b h=>fin a V b h.2) a ⟨aO _,h0⟩
theorem Df {i:Nat} {xs:List HV} {bd:HV->bc->aF->Z->(bc->aF->Z->Prop)->Prop} {M:bc->aF->Z->Prop} {b:Z} (st:X->bc) (I:Nat->X->aF->Z->Prop) (a:X) (h0:I 0 a V b) (hi:∀k a V b,I k a V b->V[i]? =some (.list xs))
  (turn:∀k v a V b,xs[k]? =some v->I k a V b->∀N':bc->aF->Z->Prop,(∀a' V' b',I (k+1) a' V' b'->N' (st a') V' b')->bd v (st a) V b N') (fin:∀a V b,I xs.length a V b->M (st a) V b):∃m,eA (.l i) bd m 0 (st a) V b M:=by
 refine Dv (n:=xs.length) (λ k=>xs[k]?.getD .none) st (λ k a V b=>k<=xs.length/\I k a V b) (λ k a V b F h h1 h2=> .l (hi k a V b h.2) ?_) (λ k a V b hk h N' q=>turn k _ a V b (by rw[List.getElem?_eq_getElem hk];rfl) h.2 N' λ a' V' b' h'=>q a' V' b' ⟨hk,h'⟩) (λ a V b h=>fin a V b h.2) a ⟨aO _,h0⟩
 by_cases h':k<xs.length
 ·rw[List.getElem?_eq_getElem h'] at h1 ⊢;exact h1 h'
 ·rw[List.getElem?_eq_none (Nat.not_lt.mp h')];exact h2 (cn h.1 (bF.mp h'))
end
@[elab_as_elim] theorem zY {M:Nat->Prop} {k:Nat} (h:k<1) (a:M 0):M k:=by rcases k with _|k;exact a;exact aN h (bF.mpr (aX (aO _)))
@[elab_as_elim] theorem Hb {M:Nat->Prop} {k:Nat} (h:k<2) (a:M 0) (b:M 1):M k:=by rcases k with _|k;exact a;exact zY (M:=λ k=>M (k+1)) (bY h) b
@[elab_as_elim] theorem GO {M:Nat->Prop} {k:Nat} (h:k<3) (a:M 0) (b:M 1) (c:M 2):M k:=by rcases k with _|k;exact a;exact Hb (M:=λ k=>M (k+1)) (bY h) b c
@[elab_as_elim] theorem Ja {M:Nat->Prop} {k:Nat} (h:k<4) (a:M 0) (b:M 1) (c:M 2) (d:M 3):M k:=by rcases k with _|k;exact a;exact GO (M:=λ k=>M (k+1)) (bY h) b c d
@[elab_as_elim] theorem Bg {X:Type} {M:List X->Prop} {l:List X} (h:l.length=0) (a:M []):M l:=by rcases l with _|x;exact a;exact aN h (eO _)
@[elab_as_elim] theorem zK {X:Type} {M:List X->Prop} {l:List X} (h:l.length=1) (a:∀x,M [x]):M l:=by rcases l with _|⟨x,l⟩;exact aN h.symm (eO _);exact Bg (M:=λ l=>M (x::l)) (Nat.succ.inj h) (a x)
@[elab_as_elim] theorem Hs {X:Type} {M:List X->Prop} {l:List X} (h:l.length=2) (a:∀x y,M [x,y]):M l:=by rcases l with _|⟨x,l⟩;exact aN h.symm (eO _);exact zK (M:=λ l=>M (x::l)) (Nat.succ.inj h) (a x)
@[elab_as_elim] theorem GJ {X:Type} {M:List X->Prop} {l:List X} (h:l.length<=1) (n:M []) (a:∀x,M [x]):M l:=by rcases l with _|⟨x,l⟩;exact n;exact Bg (M:=λ l=>M (x::l)) (Nat.le_zero.mp (cu h)) (a x)
@[elab_as_elim] theorem z0 {X:Type} {M:Nat->X->Prop} {a v:X} {i:Nat} (h:[a][i]? =some v) (k:M 0 a):M i v:=by rcases i with _|i;exact aA h▸k;exact dX h
@[elab_as_elim] theorem FQ {X:Type} {M:Nat->X->Prop} {a b v:X} {i:Nat} (h:[a,b][i]? =some v) (k:M 0 a) (l:M 1 b):M i v:=by rcases i with _|i;exact aA h▸k;exact z0 (M:=λ i=>M (i+1)) h l
theorem bt.at {V V':aF} {i:Nat} {o:HO} (h:bt V V') (k:V[i]? =some o):V'[i]? =some o:=h _ _ k
noncomputable def rP (x:Int):Prop:=eV x=true
theorem cq {x:Int} (h:x.natAbs<2^64):rP x:=by
 refine gy ?_;by_cases h0:x.natAbs=0
 ·rw[h0];decide
 ·exact ah (bP ((Nat.log2_lt h0).mpr h)) (by decide)
theorem iw {x:Int} (h1:0<=x) (h2:x<4611686018427387904):rP x:=cq (by lia)
theorem Gv {n:Nat} (h:n<4611686018427387904):rP (n:Int):=iw (dj n) (Int.ofNat_lt.mpr h)
theorem Bt {x y:Int} (h:rP y) (hx:x.natAbs<=y.natAbs):rP x:=by
 refine gy (ah ?_ (ae h));by_cases h0:x.natAbs=0
 ·rw[h0];exact aO _
 ·rw[Nat.le_log2 (λ e=>h0 (Nat.le_zero.mp (e▸hx)))];exact ah (Nat.log2_self_le h0) hx
section
variable{V:aF} {K:KV} {x y:Int}
theorem vD (hx:rP x) (hy:rP y) (h0:0<y) (q:K (.int (x % y)) V):dh V K .mod (.int x) (.int y):= .mod hx hy (Int.ne_of_gt h0) (by rw[Int.fmod_eq_emod_of_nonneg _ (Int.le_of_lt h0)];exact q)
theorem EA (hx:rP x) (hy:rP y) (h0:0<y) (h1:y.natAbs<1073741824) (q:K (.int (x/y)) V):dh V K .fdiv (.int x) (.int y):= .fdiv hx hy (Int.ne_of_gt h0) h1 (by rw[Int.fdiv_eq_ediv_of_nonneg _ (Int.le_of_lt h0)];exact q)
end
theorem zh {p:Prop} [Decidable p] {A B:Prop} (h1:p->A) (h2:¬p->B):yM (.bool (decide p)) A B:=by
 by_cases h:p
 ·rw[decide_eq_true h];exact h1 h
 ·rw[decide_eq_false h];exact h2 h
noncomputable def eR (V:aF) (i:Nat):Prop:=∃a b:Int,V[i]? =some (.list [.int a, .int b])/\rP a/\0<=b/\b<2147483647
theorem eR.mono {V V':aF} {i:Nat} (h:eR V i) (k:bt V V'):eR V' i:=dP h λ a b e r=>⟨a,b,k _ _ e,r⟩
theorem pf {V:aF} {i d:Nat} {t:Int} {K:KV} (h:eR V i) (ht:0<t/\t<100) (hd:1<=d) (q:∀(k:Int) V',0<=k->k<t->eR V' i->SB i V V'->V'.length=V.length->K (.int k) V'):hW bg d 68 [.ref i, .int t] [] V K:=
 dL h λ a b e ha hb=>have o32:∀{x:Int},0<=x->x<4611686018427387904->rP x:=iw
 have ot:rP t:=o32 (p9 ht.1) (di ht.2 (by decide))
 aP [.val (.ref i), .val (.int t), .empty] rfl rfl rfl hd λ d hd=>by
 refine bj.l e (ae rfl) rfl rfl ?_;refine aS.gt (zh (λ h0=>?_) λ h0=>?_)
 ·refine bj.l e (ae rfl) rfl rfl ?_;refine eU.int (vD ha ot ht.1 ?_);refine bj.l e (ae rfl) rfl rfl ?_;refine EA ha ot ht.1 (aw (Int.natAbs_lt_natAbs_of_nonneg_of_lt (p9 ht.1) ht.2) (by decide)) (putL (j:=0) e (ae rfl) (ae rfl) λ V' s1 s2 s3=>?_)
  refine q _ V' (cS _ (Int.ne_of_gt ht.1)) (cI _ ht.1) ⟨a/t,b,s2,Bt ha ?_,hb⟩ s1 s3;exact Int.natAbs_ediv_le_natAbs a t
 ·refine bj.l e (ae rfl) rfl rfl ?_;refine dh.mul (o32 hb.1 (di hb.2 (by decide))) (o32 (by decide) (by decide)) ?_
  refine dh.add (o32 (by lia) (by lia)) (o32 (by decide) (by decide)) ?_
  refine eU.int (vD (o32 (by lia) (by lia)) (o32 (by decide) (by decide)) (by decide) (putL (j:=1) e (ae rfl) (ae rfl) λ V' s1 s2 s3=>?_))
  have hB:0<=(b*39373+7) % 2147483647/\(b*39373+7) % 2147483647<2147483647:=⟨cS _ (by decide),cI _ (by decide)⟩
  generalize(b*39373+7) % 2147483647=B at hB s2;have hsq:B*B<4611686018427387904:=Int.lt_of_le_of_lt (Int.mul_le_mul (Int.le_of_lt_add_one hB.2) (Int.le_of_lt_add_one hB.2) hB.1 (by decide)) (by decide:(2147483646:Int)*2147483646<_)
  have oB:=o32 hB.1 (di hB.2 (by decide))
  refine bj.l s2 (ae rfl) rfl rfl ?_;refine bj.l s2 (ae rfl) rfl rfl ?_;refine dh.mul oB oB (eU.int (vD (o32 (Int.mul_nonneg hB.1 hB.1) hsq) (o32 (by decide) (by decide)) (by decide) ?_))
  refine EA (o32 (cS _ (by decide)) (di (cI _ (by decide)) (by decide))) (o32 (by decide) (by decide)) (by decide) (by decide) ?_
  refine eU.int (vD (o32 (Int.ediv_nonneg (cS _ (by decide)) (by decide)) (Int.lt_of_le_of_lt (Int.ediv_le_self _ (cS _ (by decide))) (di (cI _ (by decide)) (by decide)))) ot ht.1 ?_)
  exact q _ V' (cS _ (Int.ne_of_gt ht.1)) (cI _ ht.1) ⟨a,B,s2,ha,hB⟩ s1 s3
theorem AQ {x:Int} (h:x.natAbs.log2<=2^20):rP x/\rP (-1 - x):=by
 refine⟨gy (ah h (by decide)),gy ?_⟩
 by_cases h3:(-1 - x).natAbs=0
 ·rw[h3];decide
 ·have h1:x.natAbs<2^(x.natAbs.log2+1):=Nat.lt_log2_self;have h2:(-1 - x).natAbs<2^(x.natAbs.log2+1+1):=aj (Int.natAbs_sub_le (-1) x) (aj (Nat.add_comm 1 x.natAbs▸h1:1+x.natAbs<=_) (Nat.pow_lt_pow_succ (by decide)))
  exact ah (bP ((Nat.log2_lt h3).mpr h2)) (ah (dH h 2) (by decide))
theorem db {X Z:Type} {f:X->Z} {l:List X} (h:l.length<2000):(l.map f).length<lim:=by rw[List.length_map];exact h
theorem AK {V:aF} {xs:List Int} {k d:Nat} {K:KV} (hl:xs.length<=63) (hb:∀x∈xs,x.natAbs.log2<=2^20) (hk:k<100) (hd:1<=d) (q:∀V' j,bt V V'->eR V' j->V.length<=j->K (.ref j) V'):hW bg d 67 [.rl (xs.map .int), .int k] [] V K:=
 aP [.val (.rl (xs.map .int)), .val (.int k), .empty, .empty, .empty] rfl rfl rfl hd λ d hd=>by
 have hlen:(xs.map HV.int).length<lim:=db (aj hl (by decide))
 have os:∀{x:Int},0<=x->x<1000000000000000->rP x:=λ h1 h2=>iw h1 (di h2 (by decide))
 have rest:∀c:Int,c.natAbs.log2<=2^20->kL bg (hW bg d) (mH.body.drop 2) [.val (.rl (xs.map .int)), .val (.int k), .val (.int c), .empty, .empty] V (λ U V=>K .none V) K:=by
  intro c hc;refine cO (AQ hc) λ o1 o2=>?_;refine eU.int (dh.sub (cq (by decide)) o1 (eU.int (eU.max ?_)))
  have ob:rP (if -1 - c>c then -1 - c else c):=by split<;>assumption
  generalize(if -1 - c>c then -1 - c else c)=big at ob
  refine eU.int (vD ob (os (by decide) (by decide)) (by decide) ?_)
  have hm:0<=big % 2147483629/\big % 2147483629<2147483629:=⟨cS _ (by decide),cI _ (by decide)⟩
  generalize big % 2147483629=m at hm;have h1:0<=7919*(k:Int)/\7919*(k:Int)<791900:=by lia
  have h2:0<=7919*(k:Int)*k/\7919*(k:Int)*k<=791900*100:=⟨Int.mul_nonneg h1.1 (dj k),Int.mul_le_mul (p9 h1.2) (by lia) (dj k) (by decide)⟩
  refine dh.mul (os (by decide) (by decide)) (os (by lia) (by lia)) (dh.mul (os h1.1 (by lia)) (os (by lia) (by lia)) ?_)
  generalize 7919*(k:Int)*k=kk at h2;refine dh.add (os hm.1 (by lia)) (os h2.1 (by lia)) (dh.mul (os (by decide) (by decide)) (os (by lia) (by lia)) (dh.add (os (by lia) (by lia)) (os (by lia) (by lia)) (dh.add (os (by lia) (by lia)) (os (by decide) (by decide)) (dh.mul (os (by lia) (by lia)) (os (by decide) (by decide)) ?_))))
  refine eU.int (vD (os (by lia) (by lia)) (os (by decide) (by decide)) (by decide) ?_)
  have hx:∀z:Int,0<=z % 2147483647/\z % 2147483647<2147483647:=λ z=>⟨cS _ (by decide),cI _ (by decide)⟩
  refine dh.pow (aS.ge (eU.intB (dh.mul ob (cq (by split<;>decide)) ⟨ae rfl,aR _ rfl λ V' s1 s2 s3=>q V' _ s1 ⟨_,_,s2,Bt ob ?_,hx _⟩ (ai _)⟩)))
  split
  ·rw[Int.mul_one];exact ai _
  ·rw[Int.mul_zero];exact aO _
 refine eU.lenR hlen (aS.lt (zh (λ h=>?_) λ h=>rest 0 (by decide)))
 have hk2:k<xs.length:=by rw[List.length_map] at h;exact Int.ofNat_lt.mp h
 refine bj.rl hlen (nT (by rw[List.length_map];exact hk2)) (by rw[List.getElem?_map,List.getElem?_eq_getElem hk2];rfl) (rest _ (hb _ (List.getElem_mem hk2)))
theorem wS {V:aF} {i j d:Nat} {things:List HV} {K:KV} (h:eR V i) (hj:V[j]? =some (.list things)) (hij:j≠i) (hl:0<things.length/\things.length<100) (hd:2<=d)
  (q:∀r V',r∈things->eR V' i->SB i V V'->V'.length=V.length->K r V'):hW bg d 69 [.ref i, .ref j] [] V K:=aP [.val (.ref i), .val (.ref j)] rfl rfl rfl hd λ d hd=>by
 have hl2:things.length<lim:=az hl.2 (by decide)
 refine eU.lenL hj hl2 (pf h (t:=things.length) ⟨Int.ofNat_lt.mpr hl.1,Int.ofNat_lt.mpr hl.2⟩ hd λ k V' k1 k2 k3 k4 k5=>?_);refine ce (Int.eq_ofNat_of_zero_le k1) λ n e=>?_;subst e;have hn:n<things.length:=Int.ofNat_lt.mp k2;exact cB (k4 _ _ hij hj) hl2 (ak hn) (q _ V' (List.getElem_mem hn) k3 k4 k5)
noncomputable def iH (p:Nat) (rs ps:List HV):HV:= .t [.str 4, .str p, .t rs, .t ps]
noncomputable def DD (t:HV):HV:= .t [.str 1,t]
noncomputable def zx:HV:= .t [.str 8, .str 99]
inductive Pk|b|g|h|k|u
noncomputable def Pk.ty (r:Int):Pk->HV
 | .b=>DD (iH 96 [.int r] [])
 | .g=>iH 96 [.int r] []
 | .h=>iH 97 [.int r] []
 | .k=>iH 98 [.int r] []
 | .u=>zx
noncomputable def Pk.od (r:Int):Pk->List Int
 | .h=>[]
 | .u=>[]
 |_=>[r]
noncomputable def Pk.ev (r:Int):Pk->List Int
 | .u=>[]
 |_=>[r]
theorem uK {V:aF} {i d:Nat} {r:Int} {K:KV} (h:eR V i) (hd:3<=d) (q:∀(p:Pk) j V',V'[j]? =some (.list ((p.od r).map .int))->j≠i->eR V' i->SB i V V'->K (.t [p.ty r, .ref j]) V'):hW bg d 70 [.ref i, .int r] [] V K:=
 dP h λ _ _ e _=>have hi:=br e
 aP [.val (.ref i), .val (.int r), .empty, .empty] rfl rfl rfl hd λ d hd=>by
 have ne:∀{k},V.length<=k->k≠i:=λ hk=>aE (aw hi hk);refine⟨ae rfl,aR _ rfl λ V1 s1 e1 l1=>⟨ae rfl,aR _ l1 λ V2 s2 e2 l2=>⟨ae rfl,aR _ l2 λ V3 s3 e3 l3=>⟨ae rfl,aR _ l3 λ V4 s4 e4 l4=>?_⟩⟩⟩⟩;refine⟨ae rfl,aR _ l4 λ V5 s5 e5 l5=>⟨ae rfl,aR _ l5 λ V6 s6 e6 l6=>⟨ae rfl,aR _ l6 λ V7 s7 e7 l7=>xW _ l7 (s7 _ _ (s6 _ _ (s5 _ _ e4))) e7 (ae rfl) λ V8 s8 e8 l8=>?_⟩⟩⟩;have t7:=s7.trans s8;have t6:=s6.trans t7;have t5:=s5.trans t6;have t3:=s3.trans (s4.trans t5);have t2:=s2.trans t3;have t1:=s1.trans t2;refine wS (h.mono t1) e8 (ne (by lia)) ⟨ae rfl,ae rfl⟩ hd λ v V9 hm k1 k2 k3=>?_
 have sb:=t1.sb.trans k2;have go:∀(p:Pk) j,V.length<=j->V8[j]? =some (.list ((p.od r).map .int))->K (.t [p.ty r, .ref j]) V9:=λ p j hj e=>q p j V9 (k2 _ _ (ne hj) e) (ne hj) k1 sb;simp only[List.mem_cons,List.mem_append,List.not_mem_nil,or_false,or_assoc] at hm;rcases hm with e|e|e|e|e<;>rw[e]
 ·exact go .b _ (ai _) (t2 _ _ e1)
 ·exact go .g _ (by lia) (t3 _ _ e2)
 ·exact go .h _ (by lia) (t5 _ _ (s4 _ _ e3))
 ·exact go .k _ (by lia) (t6 _ _ e5)
 ·exact go .u _ (by lia) (t7 _ _ e6)
inductive Ev|set|use|drop|rest|part
 deriving DecidableEq
noncomputable def dE:Ev->HV
 | .set=> .str 115| .use=> .str 32| .drop=> .str 29| .rest=> .str 116| .part=> .str 117
noncomputable def gF:HV:= .t [.str 114, .int 0]
noncomputable def n8:Bool->HV
 |true=>gF
 |false=> .none
theorem v0 {V:aF} {i d:Nat} {ps:Bool} {K:KV} (h:eR V i) (hd:3<=d) (q:∀(ws:List Ev) j V',V'[j]? =some (.list (ws.map dE))->j≠i->ws.length<=8->(Ev.part∈ws->ps=true)->eR V' i->SB i V V'->K (.ref j) V'):hW bg d 73 [.ref i,n8 ps] [] V K:=
 let⟨_,_,e,_⟩:=h
 have hi:=br e
 aP [.val (.ref i), .val (n8 ps), .empty, .empty, .empty] rfl rfl rfl hd λ d hd=>by
 refine⟨ae rfl,aR _ rfl λ V1 s1 e1 l1=>?_⟩;refine pf (h.mono s1) ⟨by decide,by decide⟩ (ah (by decide) hd) λ k V2 k1 k2 k3 k4 k5=>?_
 refine ce (Int.eq_ofNat_of_zero_le k1) λ n e=>?_;subst e;have hn:n<7:=Int.ofNat_lt.mp k2;have ne:V.length≠i:=aE hi;refine dh.add (cq (by decide)) (Gv (lw hn rfl)) (mc (n:=2+n) (aw (Nat.add_lt_add_left hn 2) (by decide)) (λ o:Option HV×Option HV=>[.val (.ref i), .val (n8 ps), .val (.ref V.length),sl o.1,sl o.2])
  (λ k U V'=>∃ws:List Ev,ws.length=k/\(Ev.part∈ws->ps=true)/\V'[V.length]? =some (.list (ws.map dE))/\eR V' i/\SB i V V') (none,none) ⟨[],rfl,(λ h=>nomatch h),k4 _ _ ne e1,k3,s1.sb.trans k4⟩ ?_ ?_)
 ·intro k a V3 hk hq1 N' q';refine GP hq1 λ ws w1 w2 w3 w4 w5=>?_;refine bM a.1 rfl ⟨ae rfl,aR _ rfl λ V4 s4 e4 l4=>wS (w4.mono s4) e4 (aE (az hi (br w3))) ⟨by decide,by decide⟩ hd λ v V5 hm k1 k2 k3=>eG a.2 rfl ?_⟩
  have w6:=k2 _ _ ne (s4 _ _ w3);have go:∀e:Ev,(e= .part->ps=true)->∀V6,SB V.length V5 V6->V6[V.length]? =some (.list (ws.map dE++[dE e]))->N' [.val (.ref i), .val (n8 ps), .val (.ref V.length), .val (.int k), .val v] V6:=λ e he V6 t1 t2=>by
   refine q' (some (.int k),some v) V6 ⟨ws++[e],?_,?_,?_,?_,?_⟩
   ·rw[List.length_append,w1];rfl
   ·intro hm;rcases aY.mp hm with hm|hm
    ·exact w2 hm
    ·exact he (al.mp hm).symm
   ·rw[List.map_append];exact t2
   ·let⟨x,y,r1,r2⟩:=k1
    exact⟨x,y,t1 _ _ ne.symm r1,r2⟩
   ·intro j o hj ho;exact t1 _ _ (aH (br ho)) (k2 _ _ hj (s4 _ _ (w5 _ _ hj ho)))
  have hl:(ws.map dE).length<lim:=db (by lia)
  refine jE.l w6 rfl rfl ?_;simp only[List.mem_cons,List.not_mem_nil,or_false] at hm;rcases hm with rfl|rfl|rfl|rfl|rfl|rfl
  ·exact aS.eq (.c rfl rfl) rfl (dB w6 hl λ V6 t1 t2 U=>go .set (λ h=>nomatch h) V6 t1 t2)
  ·exact aS.eq (.c rfl rfl) rfl (dB w6 hl λ V6 t1 t2 U=>go .use (λ h=>nomatch h) V6 t1 t2)
  ·exact aS.eq (.c rfl rfl) rfl (dB w6 hl λ V6 t1 t2 U=>go .drop (λ h=>nomatch h) V6 t1 t2)
  ·exact aS.eq (.c rfl rfl) rfl (dB w6 hl λ V6 t1 t2 U=>go .drop (λ h=>nomatch h) V6 t1 t2)
  ·exact aS.eq (.c rfl rfl) rfl (dB w6 hl λ V6 t1 t2 U=>go .rest (λ h=>nomatch h) V6 t1 t2)
  ·induction ps using Jp with
   |true=>exact aS.eq (.c rfl rfl) rfl (aS.is_ (dB w6 hl λ V6 t1 t2 U=>go .part (λ U=>rfl) V6 t1 t2))
   |false=>exact aS.eq (.c rfl rfl) rfl (aS.is_ (dB w6 hl λ V6 t1 t2 U=>go .rest (λ h=>nomatch h) V6 t1 t2))
 ·intro a V3 hq2;refine GP hq2 λ ws w1 w2 w3 w4 w5=>?_;exact q ws _ V3 w3 ne (by lia) w2 w4 w5
noncomputable def nU:Pk->Bool
 | .u=>false
 |_=>true
theorem Gg {r:Int}:∀p:Pk,cU 8 (p.ty r) (.t [.str 8, .str 99])=some (!nU p)
 | .b=>rfl
 | .g=>rfl
 | .h=>rfl
 | .k=>rfl
 | .u=>rfl
theorem nn {r:Int}:∀p:Pk,isNone (p.ty r)=false
 | .b=>rfl
 | .g=>rfl
 | .h=>rfl
 | .k=>rfl
 | .u=>rfl
inductive Wy|s|e|a
noncomputable def Wy.ty (p p':Pk):Wy->HV
 | .s=>iH 106 [] [p.ty 1,p'.ty 2]
 | .e=>iH 112 [] [p.ty 1,p'.ty 2]
 | .a=> .t [.str 2,p.ty 1, .int 2]
noncomputable def Wy.ev (p p':Pk):Wy->List Int
 | .a=>p.ev 1
 |_=>p.ev 1++p'.ev 2
noncomputable def Wy.od (p p':Pk):Wy->List Int
 | .a=>p.od 1
 |_=>p.od 1++p'.od 2
noncomputable def Wy.ps:Wy->Bool
 | .s=>true
 |_=>false
theorem DI {V:aF} {K:KV} {i k:Nat} {r:Int} (p:Pk) (hk:V.length=k) (hi:V[i]? =some (.list [.int r])) (q:∀V',bt V V'->V'[k]? =some (.list ((p.ev r).map .int))->V'.length=k+1->K (.ref k) V'):aS V (λ t=>eU V (λ v V=>dh V K .mul (.ref i) v) .int [.bool t]) .ne (p.ty r) (.t [.str 8, .str 99]):=
 .ne (.c (Gg p) (nn p)) (.intB (by rcases p with _|_<;>exact .rep hi (by decide) (by decide) (ae rfl) (aR (o:= .list _) k hk q).h))
theorem q7 (r:Int) (p:Pk):((p.od r).map HV.int).length<=1:=by rcases p with _|_<;>exact ae rfl
theorem BM (r:Int) (p:Pk):((p.ev r).map HV.int).length<=1:=by rcases p with _|_<;>exact ae rfl
theorem oZ {a b:List HV} (h:a.length<=1) (k:b.length<=1):a.length+b.length<lim:=aj (dz h k) (by decide)
theorem AW {V:aF} {i d:Nat} {K:KV} (h:eR V i) (hd:4<=d) (q:∀(w:Wy) (p p':Pk) je jo V',V'[je]? =some (.list ((w.ev p p').map .int))->V'[jo]? =some (.list ((w.od p p').map .int))->je≠i->jo≠i->eR V' i->SB i V V'->K (.t [w.ty p p', .ref je, .ref jo,n8 w.ps]) V'):hW bg d 72 [.ref i] [] V K:=
 aP [.val (.ref i), .empty, .empty, .empty, .empty, .empty, .empty] rfl rfl rfl hd λ d hd=>by
 refine uK h hd λ p1 j1 V1 e1 n1 k1 b1=>uK k1 hd λ p2 j2 V2 e2 n2 k2 b2=>?_;have e1:=b2 _ _ n1 e1
 let⟨_,_,ei,_⟩:=k2
 have hi:=br ei;refine cw.t ⟨ae rfl,rfl,cw.t ⟨ae rfl,rfl,cw.t ⟨ae rfl,rfl,?_⟩⟩⟩;refine⟨ae rfl,aR _ rfl λ V3 s3 e3 l3=>DI p1 l3 e3 λ V4 s4 e4 l4=>⟨ae rfl,aR _ l4 λ V5 s5 e5 l5=>DI p2 l5 e5 λ V6 s6 e6 l6=>?_⟩⟩;refine xW _ l6 (s6 _ _ (s5 _ _ e4)) e6 (oZ (BM 1 p1) (BM 2 p2)) λ V7 s7 e7 l7=>?_;have t2:=s3.trans (s4.trans (s5.trans (s6.trans s7)));refine pf (t:=3) (k2.mono t2) ⟨by decide,by decide⟩ (ah (by decide) hd) λ k V8 l1 l2 k3 b3 l8=>?_
 have sb:SB i V V8:=(b1.trans b2).trans (t2.sb.trans b3);have a1:=b3 _ _ n1 (t2 _ _ e1);have a2:=b3 _ _ n2 (t2 _ _ e2);have a3:=b3 _ _ (aE (by lia)) e7
 have h8:i<V8.length:=by lia
 have hk:k=0\/k=1\/k=2:=by lia
 rcases hk with rfl|rfl|rfl
 ·refine aS.eq (.c rfl rfl) rfl (xW _ rfl a1 a2 (oZ (q7 1 p1) (q7 2 p2)) λ V9 s9 e9 l9=>?_);exact q .s p1 p2 _ _ V9 (by rw[s9 _ _ a3];exact am (λ l=>some (HO.list l)) (List.map_append).symm) (by rw[e9];exact am (λ l=>some (HO.list l)) (List.map_append).symm) (by lia) (by lia) (k3.mono s9) (sb.trans s9.sb)
 ·refine aS.eq (.c rfl rfl) rfl (aS.eq (.c rfl rfl) rfl (xW _ rfl a1 a2 (oZ (q7 1 p1) (q7 2 p2)) λ V9 s9 e9 l9=>?_));exact q .e p1 p2 _ _ V9 (by rw[s9 _ _ a3];exact am (λ l=>some (HO.list l)) (List.map_append).symm) (by rw[e9];exact am (λ l=>some (HO.list l)) (List.map_append).symm) (by lia) (by lia) (k3.mono s9) (sb.trans s9.sb)
 ·refine aS.eq (.c rfl rfl) rfl (aS.eq (.c rfl rfl) rfl ⟨ae rfl,aR _ rfl λ V9 s9 e9 l9=>DI p1 l9 e9 λ V10 s10 e10 l10=>?_⟩);exact q .a p1 p2 _ _ V10 e10 (s10 _ _ (s9 _ _ a1)) (by lia) n1 (k3.mono (s9.trans s10)) (sb.trans (s9.trans s10).sb)
theorem Hr {M:Ev->Prop} (s:M .set) (u:M .use) (d:M .drop) (r:M .rest) (p:M .part) (e:Ev):M e:=Ev.casesOn e s u d r p
theorem qx {M:Option Ev->Prop} (n:M none) (s:M (some .set)) (u:M (some .use)) (d:M (some .drop)) (r:M (some .rest)) (p:M (some .part)) (k:Option Ev):M k:=by rcases k with _|e;exact n;exact Hr (M:=λ e=>M (some e)) s u d r p e
noncomputable def sd (l:Int) (ps:List HV):HV:= .t [.int l, .t ps]
noncomputable def EU:HV:= .t [.str 32, .t [.str 73,zx, .int 0]]
noncomputable def AS:Ev->HV
 | .set=> .t [.str 37,sd 1 [],EU]
 | .part=> .t [.str 37,sd 1 [gF],EU]
 | .use=> .t [.str 37,sd 2 [], .t [.str 32, .t [.str 121,sd 1 []]]]
 |_=> .t [.str 120]
noncomputable def x1:HV:= .t [.str 118, .str 119]
noncomputable def xe (k:Nat):HV:= .t [.str 29,sd 1 [], .int k]
noncomputable def pV (b i:Nat):HV:= .t [.int b, .int i]
structure BL where
 (i jl jb js:Nat)
noncomputable def BL.kvs (B:BL):List (HV×HV):=[(.str 19, .str 122),(.str 20, .int 0),(.str 21, .ref B.jl),(.str 22, .ref B.jb),(.str 23, .ref B.js)]
noncomputable def HX (i:Nat) (ss:List HV) (t:HV):Option Ev->Prop
 |some .drop=>i=ss.length/\∃k:Nat,t=xe k
 |none=>i=ss.length/\t=x1
 |some e=>i<ss.length/\ss[i]? =some (AS e)
structure Pt (V:aF) (B:BL) (b i:Nat) (κ:Option Ev) (bl ss:List HV) (r1 r2:Nat) (t:HV):Prop where
 obj:V[B.i]? =some (.dict B.kvs)
 blk:V[B.jb]? =some (.list bl)
 bll:bl.length<lim
 hb:bl[b]? =some (.ref r1)
 h1:V[r1]? =some (.list [.ref r2,t])
 h2:V[r2]? =some (.list ss)
 ssl:ss.length<lim
 kd:HX i ss t κ
section
variable{V:aF} {K:KV} {B:BL} {b i d:Nat} {κ:Option Ev} {bl ss:List HV} {r1 r2:Nat} {t:HV}
theorem Pt.mono {V':aF} (p:Pt V B b i κ bl ss r1 r2 t) (h:bt V V'):Pt V' B b i κ bl ss r1 r2 t:=
 ⟨h _ _ p.obj,h _ _ p.blk,p.bll,p.hb,h _ _ p.h1,h _ _ p.h2,p.ssl,p.kd⟩
theorem rT {F:Bool->Prop} {n:Nat} (h:i<n) (f:F true):aS V F .lt (.int i) (.int n):= .lt (by rw[decide_eq_true (Int.ofNat_lt.mpr h)];exact f)
theorem Bj {F:Bool->Prop} {n:Nat} (h:i=n) (f:F false):aS V F .lt (.int i) (.int n):= .lt (by rw[h,decide_eq_false (Int.lt_irrefl _)];exact f)
theorem G1 {F:Bool->Prop} {n:Nat} (h:i=n) (f:F true):aS V F .eq (.int i) (.int n):= .eq (.c (am some (b6 (am _ h))) rfl) rfl f
theorem Bk {F:Bool->Prop} {n:Nat} (h:i<n) (f:F false):aS V F .eq (.int i) (.int n):= .eq (.c (am some (Ea (Int.ne_of_lt (Int.ofNat_lt.mpr h)))) rfl) rfl f
theorem cE (p:Pt V B b i κ bl ss r1 r2 t) (hd:1<=d) (q:K .none V):hW bg d 30 [.obj 0 B.i,pV b i] [] V K:=
 aP [.val (.obj 0 B.i), .val (pV b i), .empty, .empty, .empty, .empty] rfl rfl rfl hd λ d hd=>cw.t ⟨nl rfl,rfl,dZ.fld p.obj rfl rfl rfl<|cB p.blk p.bll p.hb<| .l p.h1 (nl rfl) rfl rfl<| .lenL p.h2 p.ssl<|by
  have kk:=p.kd
  induction κ using qx with
  |s=>exact rT kk.1<|cB p.h2 p.ssl kk.2<| .t (nl rfl) rfl rfl<| .eq (.c rfl rfl) rfl<|cB p.h2 p.ssl kk.2<| .t (nl rfl) rfl rfl<| .t (nl rfl) rfl rfl<| .eq (.c rfl rfl) rfl<| .t (nl rfl) rfl rfl<| .eq (.c rfl rfl) rfl q
  |p=>exact rT kk.1<|cB p.h2 p.ssl kk.2<| .t (nl rfl) rfl rfl<| .eq (.c rfl rfl) rfl<|cB p.h2 p.ssl kk.2<| .t (nl rfl) rfl rfl<| .t (nl rfl) rfl rfl<| .eq (.c rfl rfl) rfl<| .t (nl rfl) rfl rfl<| .eq (.c rfl rfl) rfl q
  |u=>exact rT kk.1<|cB p.h2 p.ssl kk.2<| .t (nl rfl) rfl rfl<| .eq (.c rfl rfl) rfl<|cB p.h2 p.ssl kk.2<| .t (nl rfl) rfl rfl<| .t (nl rfl) rfl rfl<| .eq (.c rfl rfl) rfl<| .t (nl rfl) rfl rfl<| .eq (.c rfl rfl) rfl q
  |r=>exact rT kk.1<|cB p.h2 p.ssl kk.2<| .t (nl rfl) rfl rfl<| .eq (.c rfl rfl) rfl q
  |d=>exact Bj kk.1 q
  |n=>exact Bj kk.1 q⟩
noncomputable def IX:Option Ev->HV
 |some .set=>sd 1 []
 |some .part=>sd 1 [gF]
 |some .use=>sd 2 []
 |_=> .none
noncomputable def IS:Option Ev->HV
 |some .drop=>sd 1 []
 |_=> .none
theorem bv (p:Pt V B b i κ bl ss r1 r2 t) (hd:1<=d) (q:K (IX κ) V):hW bg d 31 [.obj 0 B.i,pV b i] [] V K:=
 aP [.val (.obj 0 B.i), .val (pV b i), .empty, .empty, .empty, .empty] rfl rfl rfl hd λ d hd=>cw.t ⟨nl rfl,rfl,dZ.fld p.obj rfl rfl rfl<|cB p.blk p.bll p.hb<|cw.l p.h1 ⟨nl rfl,rfl, .lenL p.h2 p.ssl<|by
  have kk:=p.kd
  induction κ using qx with
  |s=>exact rT kk.1<|cB p.h2 p.ssl kk.2<| .t (nl rfl) rfl rfl<| .eq (.c rfl rfl) rfl<|cB p.h2 p.ssl kk.2<| .t (nl rfl) rfl rfl q
  |p=>exact rT kk.1<|cB p.h2 p.ssl kk.2<| .t (nl rfl) rfl rfl<| .eq (.c rfl rfl) rfl<|cB p.h2 p.ssl kk.2<| .t (nl rfl) rfl rfl q
  |u=>exact rT kk.1<|cB p.h2 p.ssl kk.2<| .t (nl rfl) rfl rfl<| .eq (.c rfl rfl) rfl<|cB p.h2 p.ssl kk.2<| .t (nl rfl) rfl rfl q
  |r=>exact rT kk.1<|cB p.h2 p.ssl kk.2<| .t (nl rfl) rfl rfl<| .eq (.c rfl rfl) rfl q
  |d=>exact Bj kk.1<|by refine ce kk.2 λ k e=>?_;rw[e];exact .t (nl rfl) rfl rfl<| .eq (.c rfl rfl) rfl q
  |n=>exact Bj kk.1<|by rw[kk.2];exact .t (nl rfl) rfl rfl<| .eq (.c rfl rfl) rfl q⟩⟩
theorem bx (p:Pt V B b i κ bl ss r1 r2 t) (hd:1<=d) (q:K (IS κ) V):hW bg d 32 [.obj 0 B.i,pV b i] [] V K:=
 aP [.val (.obj 0 B.i), .val (pV b i), .empty, .empty, .empty, .empty] rfl rfl rfl hd λ d hd=>cw.t ⟨nl rfl,rfl,dZ.fld p.obj rfl rfl rfl<|cB p.blk p.bll p.hb<|cw.l p.h1 ⟨nl rfl,rfl, .lenL p.h2 p.ssl<|by
  have kk:=p.kd
  induction κ using qx with
  |s=>exact Bk kk.1 q
  |p=>exact Bk kk.1 q
  |u=>exact Bk kk.1 q
  |r=>exact Bk kk.1 q
  |d=>exact G1 kk.1<|by refine ce kk.2 λ k e=>?_;rw[e];exact .t (nl rfl) rfl rfl<| .eq (.c rfl rfl) rfl<| .t (nl rfl) rfl rfl q
  |n=>exact G1 kk.1<|by rw[kk.2];exact .t (nl rfl) rfl rfl<| .eq (.c rfl rfl) rfl q⟩⟩
theorem eh (p:Pt V B b i κ bl ss r1 r2 t) (hd:1<=d) (q:K .none V):hW bg d 33 [.obj 0 B.i,pV b i] [] V K:=
 aP [.val (.obj 0 B.i), .val (pV b i), .empty, .empty, .empty] rfl rfl rfl hd λ d hd=>cw.t ⟨nl rfl,rfl,dZ.fld p.obj rfl rfl rfl<|cB p.blk p.bll p.hb<| .l p.h1 (nl rfl) rfl rfl<| .lenL p.h2 p.ssl<|by
  have kk:=p.kd
  induction κ using qx with
  |s=>exact rT kk.1<|cB p.h2 p.ssl kk.2<| .t (nl rfl) rfl rfl<| .in_ (.t rfl) q
  |p=>exact rT kk.1<|cB p.h2 p.ssl kk.2<| .t (nl rfl) rfl rfl<| .in_ (.t rfl) q
  |u=>exact rT kk.1<|cB p.h2 p.ssl kk.2<| .t (nl rfl) rfl rfl<| .in_ (.t rfl) q
  |r=>exact rT kk.1<|cB p.h2 p.ssl kk.2<| .t (nl rfl) rfl rfl<| .in_ (.t rfl) q
  |d=>exact Bj kk.1 q
  |n=>exact Bj kk.1 q⟩
theorem vQ (p:Pt V B b i κ bl ss r1 r2 t) (hd:1<=d) (q:K (.bool false) V):hW bg d 56 [.obj 0 B.i,pV b i] [] V K:=
 aP [.val (.obj 0 B.i), .val (pV b i), .empty, .empty] rfl rfl rfl hd λ d hd=>dZ.fld p.obj rfl rfl rfl<| .t (nl rfl) rfl rfl<|cB p.blk p.bll p.hb<|cw.l p.h1 ⟨nl rfl,rfl, .t (nl rfl) rfl rfl<| .lenL p.h2 p.ssl<|by
  have kk:=p.kd
  induction κ using qx with
  |s=>exact Bk kk.1 q
  |p=>exact Bk kk.1 q
  |u=>exact Bk kk.1 q
  |r=>exact Bk kk.1 q
  |d=>exact G1 kk.1<|by refine ce kk.2 λ k e=>?_;rw[e];exact .t (nl rfl) rfl rfl<| .eq (.c rfl rfl) rfl q
  |n=>exact G1 kk.1<|by rw[kk.2];exact .t (nl rfl) rfl rfl<| .eq (.c rfl rfl) rfl q⟩
theorem cZ (p:Pt V B b i κ bl ss r1 r2 t) (hd:1<=d) (q:K (.ref r2) V):hW bg d 14 [.obj 0 B.i, .int b] [] V K:=
 aP [.val (.obj 0 B.i), .val (.int b)] rfl rfl rfl hd λ d hd=>dZ.fld p.obj rfl rfl rfl<|cB p.blk p.bll p.hb<| .l p.h1 (nl rfl) rfl rfl q
theorem fz (p:Pt V B b i κ bl ss r1 r2 t) (hd:1<=d) (q:K t V):hW bg d 15 [.obj 0 B.i, .int b] [] V K:=
 aP [.val (.obj 0 B.i), .val (.int b)] rfl rfl rfl hd λ d hd=>dZ.fld p.obj rfl rfl rfl<|cB p.blk p.bll p.hb<| .l p.h1 (nl rfl) rfl rfl q
theorem sx {x:HV} (hd:1<=d) (q:eJ V K (.list [x])):hW bg d 19 [.t [.str 32,x]] [] V K:=
 aP [.val (.t [.str 32,x]), .empty] rfl rfl rfl hd λ d hd=> .t (nl rfl) rfl rfl<| .in_ (.t rfl)<| .t (nl rfl) rfl rfl ⟨nl rfl,q⟩
noncomputable def I8:Option Ev->List HV
 |some .set=>[.t [.str 73,zx, .int 0]]
 |some .part=>[.t [.str 73,zx, .int 0]]
 |some .use=>[.t [.str 121,sd 1 []]]
 |_=>[]
theorem gS (p:Pt V B b i κ bl ss r1 r2 t) (hd:2<=d) (q:eJ V K (.list (I8 κ))):hW bg d 20 [.obj 0 B.i,pV b i] [] V K:=
 aP [.val (.obj 0 B.i), .val (pV b i), .empty, .empty, .empty, .empty] rfl rfl rfl hd λ d hd=>cw.t ⟨nl rfl,rfl,jE.own p.obj rfl rfl rfl<|cZ p hd<| .lenL p.h2 p.ssl<|by
  have kk:=p.kd
  induction κ using qx with
  |s=>exact rT kk.1<|jE.own p.obj rfl rfl rfl<|cZ p hd<|cB p.h2 p.ssl kk.2<| .t (nl rfl) rfl rfl<| .eq (.c rfl rfl) rfl<| .t (nl rfl) rfl rfl<|sx hd q
  |p=>exact rT kk.1<|jE.own p.obj rfl rfl rfl<|cZ p hd<|cB p.h2 p.ssl kk.2<| .t (nl rfl) rfl rfl<| .eq (.c rfl rfl) rfl<| .t (nl rfl) rfl rfl<|sx hd q
  |u=>exact rT kk.1<|jE.own p.obj rfl rfl rfl<|cZ p hd<|cB p.h2 p.ssl kk.2<| .t (nl rfl) rfl rfl<| .eq (.c rfl rfl) rfl<| .t (nl rfl) rfl rfl<|sx hd q
  |r=>exact rT kk.1<|jE.own p.obj rfl rfl rfl<|cZ p hd<|cB p.h2 p.ssl kk.2<| .t (nl rfl) rfl rfl<| .eq (.c rfl rfl) rfl<| .t (nl rfl) rfl rfl<| .eq (.c rfl rfl) rfl ⟨nl rfl,q⟩
  |d=>exact Bj kk.1<|jE.own p.obj rfl rfl rfl<|fz p hd<|by refine ce kk.2 λ k e=>?_;rw[e];exact .t (nl rfl) rfl rfl<| .eq (.c rfl rfl) rfl<| .t (nl rfl) rfl rfl<| .in_ (.t rfl) ⟨nl rfl,q⟩
  |n=>exact Bj kk.1<|jE.own p.obj rfl rfl rfl<|fz p hd<|by rw[kk.2];exact .t (nl rfl) rfl rfl<| .eq (.c rfl rfl) rfl<| .t (nl rfl) rfl rfl<| .in_ (.t rfl) ⟨nl rfl,q⟩⟩
end
section
variable{V:aF} {K:KV} {B:BL} {b i d:Nat} {κ:Option Ev} {bl ss:List HV} {r1 r2:Nat} {t:HV}
theorem lV {l:Int} {s:Bool} (hd:1<=d) (q:eJ V K (.list [])):hW bg d 21 [sd l (if s then[gF] else[])] [] V K:=
 aP [.val (sd l (if s then[gF] else[]))] rfl rfl rfl hd λ d hd=>match s with
  |false=> .t (nl rfl) rfl rfl<| .t (nl rfl) ⟨1, .st q⟩
  |true=> .t (nl rfl) rfl rfl<| .t (nl rfl) ⟨2, .st<| .t (nl rfl) rfl rfl<| .eq (.c rfl rfl) rfl<| .st q⟩
theorem Er {l:Int} {s:Bool} {L:Nat} {xs:List HV} {F:aF->Prop} (hd:1<=d) (e:V[L]? =some (.list xs)) (hl:xs.length<lim) (q:∀V',SB L V V'->V'[L]? =some (.list xs)->F V'):
  jE bg V 24 (λ m=>hW bg d 21 [sd l (if s then[gF] else[])] [] V λ v V=>By (hW bg d) m [v] V λ U V=>F V) (.ref L):=
 .l e rfl rfl<|lV hd<|aR _ rfl λ V1 s1 e1 l1=>wK (s1 _ _ e) e1 (aH (br e)) hl λ V2 s2 e2 U=>q V2 (s1.sb.trans s2) (by rw[List.append_nil] at e2;exact e2)
noncomputable def GX:Option Ev->List Int
 |some .use=>[1]
 |some .part=>[1]
 |_=>[]
theorem jJ {V0:aF} {L:Nat} {l:List Int} {s3 s4 s5 s6:SV} (p:Pt V0 B b i κ bl ss r1 r2 t) (hL:V0.length=L) (hd:1<=d) (h:SB L V0 V) (e:V[L]? =some (.list (l.map .int))) (hl:l.length<=1)
  (q:∀j V',bt V0 V'->V0.length<=j->V'[j]? =some (.list (l.map .int))->K (.ref j) V'):kL bg (hW bg d) (ig.body.drop 6) [.val (.obj 0 B.i), .val (pV b i), .val (.ref L),s3,s4,s5,s6] V (λ U V=>K .none V) K:=by
 have hs:bt V0 V:=λ j o ej=>h j o (aH (hL▸br ej)) ej;refine vQ (p.mono hs) hd<| .set e (l:=l) ?_ (aj hl (by decide))<| .srtU ?_<|eJ.h<|aR _ rfl λ V1 s1 e1 l1=>q _ V1 (hs.trans s1) hs.len ?_
 ·exact GJ hl rfl λ x=>rfl
 ·exact GJ hl (nl rfl) λ x=>nl rfl
 ·rw[e1];exact GJ hl rfl λ x=>rfl
theorem AU (p:Pt V B b i κ bl ss r1 r2 t) (hd:3<=d) (q:∀j V',bt V V'->V.length<=j->V'[j]? =some (.list ((GX κ).map .int))->K (.ref j) V'):hW bg d 55 [.obj 0 B.i,pV b i] [] V K:=
 aP [.val (.obj 0 B.i), .val (pV b i), .empty, .empty, .empty, .empty, .empty] rfl rfl rfl hd λ d hd=>⟨nl rfl,aR _ rfl λ V1 s1 e1 l1=>gS (p.mono s1) hd<|aR _ l1 λ V2 s2 e2 l2=>by
 have hd1:1<=d:=ah (by decide) hd
 have e1':=s2 _ _ e1;have t2:=s1.trans s2;have sle:∀{O},SB V.length V2 O->bt V O:=λ h=>t2.upd h (ai _);have sb:∀{O},SB V.length V2 O->SB V.length V O:=λ h=>t2.sb.trans h;have p2:=p.mono t2
 induction κ using qx with
 |s=>
  exact .l e2 (nl rfl) ⟨2, .l e2<| .t (nl rfl) rfl rfl<| .ne (.c rfl rfl)<| .l e2<|cE p2 hd1<|bx p2 hd1<| .t (nl rfl) ⟨3, .st<| .n<| .st<| .n<| .st<|cE p2 hd1<|bv p2 hd1<|cw.t ⟨nl rfl,rfl, .n<| .n<| .t (nl rfl) rfl rfl<| .ne (.c rfl rfl)<|jJ (l:=[]) p rfl hd1 t2.sb e1' (nl rfl) q⟩⟩⟩
 |p=>
  exact .l e2 (nl rfl) ⟨2, .l e2<| .t (nl rfl) rfl rfl<| .ne (.c rfl rfl)<| .l e2<|cE p2 hd1<|bx p2 hd1<| .t (nl rfl) ⟨3, .st<| .n<| .st<| .n<| .st<|cE p2 hd1<|bv p2 hd1<|cw.t ⟨nl rfl,rfl, .n<| .n<| .t (nl rfl) rfl rfl<| .ne (.c rfl rfl)<| .l e1' rfl rfl<| .t (nl rfl) rfl rfl<|dB e1' (nl rfl) λ V3 s3 e3 U=>Er (s:=true) hd1 e3 (nl rfl) λ V4 s4 e4=>jJ (l:=[1]) p rfl hd1 (sb (s3.trans s4)) e4 (nl rfl) q⟩⟩⟩
 |u=>
  exact .l e2 (nl rfl) ⟨2, .l e2<| .t (nl rfl) rfl rfl<| .ne (.c rfl rfl)<| .l e1' rfl rfl<| .t (nl rfl) rfl rfl<| .t (nl rfl) rfl rfl<|dB e1' (nl rfl) λ V3 s3 e3 U=> .l e3 rfl rfl<| .t (nl rfl) rfl rfl<|lV (s:=false) hd1<|aR _ rfl λ V4 s4 e4 l4=>wK (s4 _ _ e3) e4 (aH (br e3)) (nl rfl) λ V5 s5 e5 U=>
   have p5:=p.mono (sle (s3.trans (s4.sb.trans s5)))
   .l (s5 _ _ (aE (by lia)) (s4 _ _ (s3 _ _ (aE (by lia)) e2)))<|cE p5 hd1<|bx p5 hd1<| .t (nl rfl) ⟨3, .st<| .n<| .st<| .n<| .st<|cE p5 hd1<|bv p5 hd1<|cw.t ⟨nl rfl,rfl, .n<| .n<| .t (nl rfl) rfl rfl<| .ne (.c rfl rfl)<|jJ (l:=[1]) p rfl hd1 (sb (s3.trans (s4.sb.trans s5))) e5 (nl rfl) q⟩⟩⟩
 |r=>
  exact .l e2 (nl rfl) ⟨1, .l e2<|cE p2 hd1<|bx p2 hd1<| .t (nl rfl) ⟨3, .st<| .n<| .st<| .n<| .st<|cE p2 hd1<|bv p2 hd1<|cw.t ⟨nl rfl,rfl, .n<| .n<|jJ (l:=[]) p rfl hd1 t2.sb e1' (nl rfl) q⟩⟩⟩
 |n=>
  exact .l e2 (nl rfl) ⟨1, .l e2<|cE p2 hd1<|bx p2 hd1<| .t (nl rfl) ⟨3, .st<| .n<| .st<| .n<| .st<|cE p2 hd1<|bv p2 hd1<|cw.t ⟨nl rfl,rfl, .n<| .n<|jJ (l:=[]) p rfl hd1 t2.sb e1' (nl rfl) q⟩⟩⟩
 |d=>
  exact .l e2 (nl rfl) ⟨1, .l e2<|cE p2 hd1<|bx p2 hd1<| .t (nl rfl) ⟨3, .st<| .n<| .st<| .n<|Er (s:=false) hd1 e1' (nl rfl) λ V3 s3 e3=> .st<|
   have p3:=p.mono (sle s3)
   cE p3 hd1<|bv p3 hd1<|cw.t ⟨nl rfl,rfl, .n<| .n<|jJ (l:=[]) p rfl hd1 (sb s3) e3 (nl rfl) q⟩⟩⟩⟩
noncomputable def GS:Option Ev->List Int
 |some .drop=>[1]
 |_=>[]
theorem sX (p:Pt V B b i κ bl ss r1 r2 t) (hd:2<=d) (q:eJ V K (.list ((GS κ).map .int))):hW bg d 57 [.obj 0 B.i,pV b i] [] V K:=
 aP [.val (.obj 0 B.i), .val (pV b i), .empty] rfl rfl rfl hd λ d hd=>bx p hd<|by
  induction κ using qx with
  |d=>exact .is_<| .t (nl rfl) rfl rfl ⟨nl rfl,q⟩
  |s=>exact .is_ ⟨nl rfl,q⟩
  |p=>exact .is_ ⟨nl rfl,q⟩
  |u=>exact .is_ ⟨nl rfl,q⟩
  |r=>exact .is_ ⟨nl rfl,q⟩
  |n=>exact .is_ ⟨nl rfl,q⟩
noncomputable def GA:Option Ev->List Int
 |some .set=>[1]
 |some .use=>[2]
 |_=>[]
theorem sR (p:Pt V B b i κ bl ss r1 r2 t) (hd:2<=d) (q:∀j V',bt V V'->V'[j]? =some (.list ((GA κ).map .int))->K (.ref j) V'):hW bg d 58 [.obj 0 B.i,pV b i] [] V K:=
 aP [.val (.obj 0 B.i), .val (pV b i), .empty, .empty, .empty] rfl rfl rfl hd λ d hd=>eh p hd<|bv p hd<|cw.t ⟨nl rfl,rfl, .is_ ⟨nl rfl,aR _ rfl λ V1 s1 e1 l1=>by
  induction κ using qx with
  |s=>exact .n<| .t (nl rfl) rfl rfl<| .eq (.c rfl rfl) rfl<| .l e1 rfl rfl<| .t (nl rfl) rfl rfl<|dB e1 (nl rfl) λ V2 s2 e2 U=>q _ V2 (s1.upd s2 (ai _)) e2
  |u=>exact .n<| .t (nl rfl) rfl rfl<| .eq (.c rfl rfl) rfl<| .l e1 rfl rfl<| .t (nl rfl) rfl rfl<|dB e1 (nl rfl) λ V2 s2 e2 U=>q _ V2 (s1.upd s2 (ai _)) e2
  |p=>exact .n<| .t (nl rfl) rfl rfl<| .eq (.c rfl rfl) rfl<|q _ V1 s1 e1
  |r=>exact .n<|q _ V1 s1 e1
  |d=>exact .n<|q _ V1 s1 e1
  |n=>exact .n<|q _ V1 s1 e1⟩⟩
end
noncomputable def cJ (p:List (List Ev)×List Ev):Ev->List (List Ev)×List Ev
 | .drop=>(p.1++[p.2],[])
 |e=>(p.1,p.2++[e])
noncomputable def mQ (ws:List Ev):List (List Ev)×List Ev:=ws.foldl cJ ([],[])
noncomputable def bl (ws:List Ev):List (List Ev):=(mQ ws).1++[(mQ ws).2]
theorem yZ (ws:List Ev) (e:Ev):mQ (ws++[e])=cJ (mQ ws) e:=by unfold mQ;rw[List.foldl_append];rfl
noncomputable def fi (bs:List (List Ev)) (b:Nat):Nat:=((bs.take b).map λ e=>e.length+1).sum
noncomputable def pos (bs:List (List Ev)) (b i:Nat):Nat:=fi bs b+i
noncomputable def fC (bs:List (List Ev)) (b i:Nat):Option Ev:=match bs[b]? with
 |some e=>match e[i]? with
  |some x=>some x
  |none=>if b+1<bs.length then some .drop else none
 |none=>none
structure fO (ws:List Ev) (bs:List (List Ev)):Prop where
 ne:0<bs.length
 kd:∀(b i:Nat) (e:List Ev),bs[b]? =some e->i<=e.length->fC bs b i=ws[pos bs b i]? /\pos bs b i<=ws.length
 nxt:∀(b:Nat) (e:List Ev),bs[b]? =some e->fi bs (b+1)=pos bs b e.length+1
 lst:fi bs bs.length=ws.length+1
 nd:∀e∈bs,∀x∈e,x≠Ev.drop
 sz:bs.length<=ws.length+1/\∀e∈bs,e.length<=ws.length
theorem rj (bs:List (List Ev)) (b:Nat) (e:List Ev) (h:bs[b]? =some e):fi bs (b+1)=fi bs b+e.length+1:=by
 unfold fi;rw[List.take_add_one,h,List.map_append,List.sum_append];rfl
theorem eQ (e:List Ev) (bs:List (List Ev)) (b:Nat):fi (e::bs) (b+1)=e.length+1+fi bs b:=by
 unfold fi;rw[List.take_succ_cons,List.map_cons,List.sum_cons]
noncomputable def jV (bs:List (List Ev)):List Ev:=bs.flatMap λ e=>e++[.drop]
theorem xh:∀bs:List (List Ev),(jV bs).length=fi bs bs.length:=by
 intro l_
 induction l_ with
 |nil=>
  exact rfl
 |cons e bs ih=>
  show((e++[Ev.drop])++jV bs).length=_;rw[List.length_append,List.length_append,ih];exact(eQ e bs bs.length).symm
theorem xK (bs:List (List Ev)):∀(b i:Nat) (e:List Ev),bs[b]? =some e->i<=e.length->(jV bs)[pos bs b i]? =(e++[Ev.drop])[i]? :=by
 induction bs with
 |nil=>exact λ _ _ _ h=>dX h
 |cons x bs ih=>
 intro b i e h hi
 induction b using Jq with
 |zero=>
  cases h;show((x++[Ev.drop])++jV bs)[0+i]? =_;rw[Nat.zero_add,List.getElem?_append_left (by rw[List.length_append];exact Nat.lt_succ_of_le hi)]
 |succ b=>
  show((x++[Ev.drop])++jV bs)[fi (x::bs) (b+1)+i]? =_;have hl:(x++[Ev.drop]).length=x.length+1:=List.length_append;rw[eQ,Nat.add_assoc,List.getElem?_append_right (by rw[hl];exact Nat.le_add_right _ _),hl,Nat.add_sub_cancel_left]
  exact ih b i e h hi
theorem rW (bs:List (List Ev)):∀(b:Nat) (e:List Ev),bs[b]? =some e->fi bs (b+1)<=fi bs bs.length/\b<=fi bs b:=by
 induction bs with
 |nil=>exact λ _ _ h=>dX h
 |cons x bs ih=>
 intro b e h
 induction b using Jq with
 |zero=>rw[List.length_cons,eQ,eQ];exact⟨ca (aO _) _,aO _⟩
 |succ b=>
  have k:=ih b e h;rw[List.length_cons,eQ,eQ,eQ];exact⟨ca k.1 _,by lia⟩
theorem yw {ws:List Ev} {bs:List (List Ev)} (hf:jV bs=ws++[.drop]) (nd:∀e∈bs,∀x∈e,x≠Ev.drop):fO ws bs:=by
 have hl:fi bs bs.length=ws.length+1:=by rw[<- xh,hf,List.length_append];rfl
 have nxt:=λ b e h=>rj bs b e h;have hp:∀b i e,bs[b]? =some e->i<=e.length->pos bs b i<=ws.length:=λ b i e h hi=>by
  have h1:=(rW bs b e h).1;rw[nxt b e h,hl] at h1;unfold pos;lia
 refine⟨?_,λ b i e h hi=>⟨?_,hp b i e h hi⟩,nxt,hl,nd,?_,λ e he=>?_⟩
 ·induction bs using Jo with
  |nil=>exact aN (am List.length hf) (by rw[List.length_append];exact eO _∘Eq.symm)
  |cons x r=>exact cD _
 ·have hg:=xK bs b i e h hi;have hpw:=hp b i e h hi;have hb:=(ao.mp h).1;unfold fC;rw[h];dsimp only;rw[hf] at hg;by_cases hi':i<e.length
  ·rw[List.getElem?_append_left hi',List.getElem?_eq_getElem hi'] at hg;rw[List.getElem?_eq_getElem hi'];by_cases hq:pos bs b i<ws.length
   ·rw[List.getElem?_append_left hq] at hg;exact hg.symm
   ·rw[List.getElem?_append_right (Nat.not_lt.mp hq),show pos bs b i - ws.length=0 by lia] at hg
    exact aN (aA hg).symm (nd e (ar h) _ (List.getElem_mem hi'))
  ·have hie:i=e.length:=by lia
   subst hie;rw[List.getElem?_eq_none (Nat.le_refl _)];dsimp only;have h1:=nxt b e h;by_cases hq:b+1<bs.length
   ·rw[if_pos hq];have h2:=(rW bs (b+1) _ (ak hq)).1;rw[nxt _ _ (List.getElem?_eq_getElem hq),hl] at h2;have h3:pos bs b e.length<ws.length:=by unfold pos;lia
    rw[List.getElem?_append_left h3,List.getElem?_append_right (Nat.le_refl _),Nat.sub_self] at hg;exact hg.symm
   ·rw[if_neg hq];have hbe:b+1=bs.length:=by lia
    rw[hbe,hl] at h1;rw[List.getElem?_eq_none (by unfold pos;lia)]
 ·induction hb:bs.length using Jq with
  |zero=>exact aO _
  |succ n=>
   have h1:=rW bs n _ (ak (hb▸aI n));rw[nxt n _ (List.getElem?_eq_getElem (hb▸Nat.lt_succ_self n)),hl] at h1;lia
 ·obtain⟨b,hb,rfl⟩:=List.getElem_of_mem he;have:=hp b _ _ (ak hb) (ai _);exact ah (Nat.le_add_left _ _) this
theorem qy (a b:List (List Ev)):jV (a++b)=jV a++jV b:=List.flatMap_append
theorem zq:∀(ws:List Ev) (p:List (List Ev)×List Ev),jV ((ws.foldl cJ p).1++[(ws.foldl cJ p).2])=jV p.1++p.2++ws++[.drop]:=by
 intro l_
 induction l_ with
 |nil=>
  intro p;rw[qy,List.append_nil,List.append_assoc];exact am (_++·) (List.append_nil _)
 |cons e ws ih=>
  intro p;refine(ih (cJ p e)).trans ?_;refine am (·++[Ev.drop]) ?_;show _=jV p.1++p.2++([e]++ws);rw[<- List.append_assoc];refine am (·++ws) ?_;cases e with
  |drop=>show jV (p.1++[p.2])++[]=_;rw[List.append_nil,qy,List.append_assoc];exact am (_++·) (List.append_nil _)
  |_=>exact(List.append_assoc ..).symm
theorem EM:∀(ws:List Ev) (p:List (List Ev)×List Ev),(∀e∈p.1,∀x∈e,x≠Ev.drop)->(∀x∈p.2,x≠Ev.drop)->(∀e∈(ws.foldl cJ p).1++[(ws.foldl cJ p).2],∀x∈e,x≠Ev.drop):=by
 intro l_
 induction l_ with
 |nil=>
  intro p h1 h2;exact λ e he=>(aY.mp he).elim (h1 e) λ h=>al.mp h▸h2
 |cons e ws ih=>
  intro p h1 h2;refine ih (cJ p e) ?_ ?_
  ·cases e with
   |drop=>exact λ e he=>(aY.mp he).elim (h1 e) λ h=>al.mp h▸h2
   |_=>exact h1
  ·have go:∀y,y≠Ev.drop->∀x∈p.2++[y],x≠Ev.drop:=λ y hy x hx=>(aY.mp hx).elim (h2 x) λ h=>al.mp h▸hy;cases e with
   |drop=>exact λ U h=>ii h
   |_=>exact go _ (by decide)
theorem tE (ws:List Ev):fO ws (bl ws):=yw (zq ws ([],[])) (EM ws ([],[]) (λ U h=>ii h) (λ U h=>ii h))
noncomputable def gW (bs:List (List Ev)):List (Nat×Nat):=(List.range bs.length).flatMap λ b=>(List.range ((bs[b]?.getD []).length+1)).map λ i=>(b,i)
noncomputable def pb (bs:List (List Ev)) (k:Nat):List (Nat×Nat):=(List.range k).flatMap λ b=>(List.range ((bs[b]?.getD []).length+1)).map λ i=>(b,i)
theorem km (bs:List (List Ev)) (k:Nat) (e:List Ev) (h:bs[k]? =some e):pb bs (k+1)=pb bs k++(List.range (e.length+1)).map λ i=>(k,i):=by
 unfold pb;rw[List.range_succ,List.flatMap_append,List.flatMap_singleton,h];rfl
theorem jn {bs:List (List Ev)} {b i:Nat}:(b,i)∈gW bs↔∃e,bs[b]? =some e/\i<=e.length:=by
 unfold gW;rw[List.mem_flatMap];constructor
 ·intro hq1;refine aU hq1 λ b' h1 h2=>?_;refine aU (cC.mp h2) λ i' h3 h4=>?_;cases h4;have hb:=cy.mp h1;refine⟨bs[b],ak hb,?_⟩;rw[List.getElem?_eq_getElem hb] at h3;have:=cy.mp h3;simp at this;lia
 ·intro hq2;refine aU hq2 λ e h1 h2=>?_;refine⟨b,cy.mpr (ao.mp h1).1,cC.mpr ⟨i,?_,rfl⟩⟩;rw[h1];exact cy.mpr (by simp;lia)
theorem qG (bs:List (List Ev)):∀k,k<=bs.length->(pb bs k).length=fi bs k/\∀j,j<fi bs k->∃b i e,(pb bs k)[j]? =some (b,i)/\bs[b]? =some e/\i<=e.length/\pos bs b i=j:=by
 intro l_
 induction l_ with
 |zero=>
  intro _;exact⟨rfl,λ j hj=>by exact aN hj (a0 _)⟩
 |succ k ih=>
  intro h;refine cO (ih (by lia)) λ h1 h2=>?_
  have hk:bs[k]? =some bs[k]:=ak (by lia)
  rw[km bs k _ hk,rj bs k _ hk];refine⟨by simp[h1];lia,λ j hj=>?_⟩
  by_cases hjk:j<fi bs k
  ·refine nv (h2 j hjk) λ b i e q1 q2 q3 q4=>?_;exact⟨b,i,e,by rw[List.getElem?_append_left (by lia)];exact q1,q2,q3,q4⟩
  ·refine⟨k,j - fi bs k,bs[k],?_,hk,by lia,by unfold pos;lia⟩
   rw[List.getElem?_append_right (by lia),h1,List.getElem?_map,List.getElem?_range (by lia)];rfl
theorem pk {ws:List Ev} {bs:List (List Ev)} (S:fO ws bs) {j:Nat} (hj:j<=ws.length):∃b i e,(gW bs)[j]? =some (b,i)/\bs[b]? =some e/\i<=e.length/\pos bs b i=j:=(qG bs bs.length (ai _)).2 j (by rw[S.lst];lia)
theorem la {ws:List Ev} {bs:List (List Ev)} (S:fO ws bs):(gW bs).length=ws.length+1:=(qG bs bs.length (ai _)).1.trans S.lst
structure KE {X:Type} [DecidableEq X] (k:X->HV):Prop where
 eq:∀a b,cU 8 (k a) (k b)=some (decide (a=b))
 ok:∀a (kvs:List (HV×HV)),(∀kv∈kvs,∃b,kv.1=k b)->bp (k a) kvs=true
section
variable{X:Type} [DecidableEq X] {k:X->HV} (ke:KE k)
include ke
theorem KE.veq (a b:X):veq (k a) (k b)=decide (a=b):=by unfold Mine.veq;rw[ke.eq];cases decide (a=b)<;>rfl
theorem gX {c a:X} {v:HV} {r:List (HV×HV)}:bA (k c) ((k a,v)::r)=if a=c then some v else bA (k c) r:=by
 rw[iF,ke.veq];by_cases h:a=c
 ·rw[decide_eq_true h,if_pos rfl,if_pos h]
 ·rw[decide_eq_false h,if_neg Bool.false_ne_true,if_neg h]
theorem KE.find_put (a c:X) (v:HV) {kvs:List (HV×HV)}:(∀kv∈kvs,∃b,kv.1=k b)->bA (k c) (dC (k a) v kvs)=if a=c then some v else bA (k c) kvs:=by
 induction kvs with
 |nil=>exact λ U=>gX ke
 |cons p r ih=>
  intro hk;obtain⟨x,u⟩:=p;refine ce (hk _ (.head _)) λ p e=>?_;subst e;rw[kh,ke.veq,gX ke];by_cases h1:p=a
  ·rw[decide_eq_true h1,if_pos rfl,gX ke,h1];by_cases h2:a=c
   ·rw[if_pos h2,if_pos h2]
   ·rw[if_neg h2,if_neg h2,if_neg h2]
  ·rw[decide_eq_false h1,if_neg Bool.false_ne_true,gX ke,ih λ kv hkv=>hk kv (.tail _ hkv)];by_cases h2:p=c
   ·rw[if_pos h2,if_pos h2,if_neg λ e=>h1 (h2.trans e.symm)]
   ·rw[if_neg h2,if_neg h2]
omit ke
theorem vO (x:HV) (v:HV) {kvs:List (HV×HV)}:(dC x v kvs).length<=kvs.length+1/\∀kv∈dC x v kvs,kv.1=x\/∃kv'∈kvs,kv'.1=kv.1:=by
 induction kvs with
 |nil=>exact⟨ai _,λ kv h=> .inl (by rw[List.mem_singleton.mp h])⟩
 |cons p r ih=>
  rw[kh];by_cases hc:veq p.1 x=true
  ·rw[if_pos hc];exact⟨bG _,λ kv h=>(aB.mp h).elim (λ e=> .inr ⟨p, .head _,by rw[e]⟩) λ h=> .inr ⟨kv, .tail _ h,rfl⟩⟩
  ·rw[if_neg hc];exact⟨aX ih.1,λ kv h=>(aB.mp h).elim (λ e=> .inr ⟨p, .head _,by rw[e]⟩) λ h=>(ih.2 kv h).imp_right λ h=>aU h λ kv' q1 q2=>⟨kv', .tail _ q1,q2⟩⟩
structure PD (k:X->HV) (g:X->HV) (n:Nat) (kvs:List (HV×HV)) (S:X->Prop):Prop where
 get:∀a,S a->bA (k a) kvs=some (g a)
 keys:∀kv∈kvs,∃b,kv.1=k b
 len:kvs.length<=n
variable{g:X->HV} {n:Nat} {kvs:List (HV×HV)} {S:X->Prop}
theorem PD.nil:PD k g 0 [] λ U=>False:=⟨λ U h=>h.elim,λ U h=>(ii h),ai _⟩
theorem PD.imp {S':X->Prop} {m:Nat} (h:PD k g n kvs S) (i:∀a,S' a->S a) (hn:n<=m):PD k g m kvs S':=⟨λ a q=>h.get a (i a q),h.keys,ah h.len hn⟩
theorem PD.put (h:PD k g n kvs S) (ke:KE k) (a:X):PD k g (n+1) (dC (k a) (g a) kvs) λ c=>S c\/c=a:=by
 refine cO (vO (kvs:=kvs) (k a) (g a)) λ k1 k2=>?_;refine⟨λ c hp=>?_,λ kv hkv=>(k2 kv hkv).elim (λ e=>⟨a,e⟩) λ hv=>aU hv λ kv' q1 q2=>(h.keys kv' q1).elim λ b e=>⟨b,q2▸e⟩,ah k1 (aX h.len)⟩;rw[ke.find_put a c _ h.keys];by_cases e:a=c
 ·rw[if_pos e,e]
 ·rw[if_neg e];exact h.get c (hp.elim id λ q=>aN q.symm e)
end
theorem sw:KE λ n:Int=>HV.int n:=⟨λ U U=>rfl,λ a kvs h=>aM.mpr λ kv hk=>ce (h kv hk) λ b e=>e▸rfl⟩
noncomputable abbrev fy (p:Nat×Nat):HV:=pV p.1 p.2
theorem E9 (x y:Bool):(match some x with
  |some true=>(match some y with
   |some true=>some true
   |r=>r)
  |r=>r)=some (x&&y):=by rcases x with _|_<;>rcases y with _|_<;>rfl
theorem iq:KE fy:=by
 have eq:∀a b:Nat×Nat,cU 8 (fy a) (fy b)=some (decide (a=b)):=λ ⟨a,c⟩ ⟨b,d⟩=>by
  refine(E9 (decide ((a:Int)=b)) (decide ((c:Int)=d))).trans (am some ?_);rw[<- Bool.decide_and];exact dT.mpr ⟨λ h=>Prod.ext (wC.mp h.1) (wC.mp h.2),λ h=>⟨am (λ p:Nat×Nat=>(p.1:Int)) h,am (λ p:Nat×Nat=>(p.2:Int)) h⟩⟩
 refine⟨eq,λ a kvs h=>?_⟩;show(kvs.all λ p=>(cU 8 p.1 (fy a)).isSome)=true;exact aM.mpr λ kv hk=>ce (h kv hk) λ b e=>by rw[e,eq];rfl
noncomputable def fs (x:Bool):List Int:=if x then[1] else[]
noncomputable def jQ (G:Option Ev->Bool->Bool) (ws:List Ev) (k:Nat):Bool:=(ws.drop k).foldr (λ e x=>G (some e) x) (G none false)
theorem zO (G:Option Ev->Bool->Bool) (ws:List Ev) {k:Nat} (h:ws.length<=k):jQ G ws k=G none false:=by unfold jQ;rw[List.drop_eq_nil_of_le h];rfl
theorem qX (G:Option Ev->Bool->Bool) (ws:List Ev) {k:Nat} (h:k<ws.length):jQ G ws k=G ws[k]? (jQ G ws (k+1)):=by
 unfold jQ;rw[List.drop_eq_getElem_cons h,List.foldr_cons,List.getElem?_eq_getElem h]
noncomputable def Ec (G:Option Ev->Bool->Bool) (ws:List Ev) (bs:List (List Ev)) (b:Nat):Bool:=if b+1<bs.length then jQ G ws (fi bs (b+1)) else false
noncomputable def CU (G:Option Ev->Bool->Bool) (ws:List Ev) (bs:List (List Ev)) (b n j:Nat):Bool:=if j<=n then jQ G ws (pos bs b j) else Ec G ws bs b
theorem mz {G:Option Ev->Bool->Bool} {ws:List Ev} {bs:List (List Ev)} (S:fO ws bs) {b j:Nat} {e:List Ev} (hb:bs[b]? =some e) (hj:j<=e.length):
  CU G ws bs b e.length j=G (fC bs b j) (CU G ws bs b e.length (j+1)):=by
 refine cO (S.kd b j e hb hj) λ k1 k2=>?_;have hbl:=(ao.mp hb).1;unfold CU;rw[if_pos hj,k1];by_cases hj2:j+1<=e.length
 ·rw[if_pos hj2];have:=(S.kd b (j+1) e hb hj2).2;exact qX G ws (by unfold pos at this ⊢;lia)
 ·rw[if_neg hj2];have hje:j=e.length:=by lia
  subst hje;unfold Ec;by_cases hb1:b+1<bs.length
  ·rw[if_pos hb1,S.nxt b e hb];refine qX G ws ?_;have hk:fC bs b e.length=some .drop:=by unfold fC;rw[hb];simp[hb1]
   rw[k1] at hk;exact(ao.mp hk).1
  ·rw[if_neg hb1];have h1:=S.nxt b e hb;have h2:=S.lst;have:b+1=bs.length:=by lia
   rw[this] at h1;rw[zO G ws (by lia),List.getElem?_eq_none (by lia)]
noncomputable def D5 (L b:Nat):HV:=if b+1<L then xe (b+1) else x1
noncomputable def tF (told:HV):List HV:=[.t [.t [.str 3, .t []], .bool true, .none], .t [told, .bool true, .str 123], .t [told, .bool true, .str 124]]
noncomputable abbrev RA:=List (Nat×Nat)
noncomputable def RA.at (ra:RA) (b:Nat):Nat×Nat:=ra[b]?.getD (0,0)
structure bR (V:aF) (B:BL) (told:HV) (bs:List (List Ev)) (ra:RA):Prop where
 obj:V[B.i]? =some (.dict B.kvs)
 loc:V[B.jl]? =some (.list (tF told))
 blk:V[B.jb]? =some (.list (ra.map λ r=> .ref r.1))
 len:ra.length=bs.length
 stm:∀(b:Nat) (e:List Ev),bs[b]? =some e->V[(ra.at b).1]? =some (.list [.ref (ra.at b).2,D5 bs.length b])/\V[(ra.at b).2]? =some (.list (e.map AS))
 nd:∀e∈bs,∀x∈e,x≠Ev.drop
 sz:bs.length<20/\∀e∈bs,e.length<20
section
variable{V:aF} {K:KV} {d:Nat} {B:BL} {told:HV} {bs:List (List Ev)} {ra:RA}
theorem bR.mono {V':aF} (h:bR V B told bs ra) (k:bt V V'):bR V' B told bs ra:=
 ⟨k _ _ h.obj,k _ _ h.loc,k _ _ h.blk,h.len,λ b e h1=>⟨k _ _ (h.stm b e h1).1,k _ _ (h.stm b e h1).2⟩,h.nd,h.sz⟩
theorem bR.bll (h:bR V B told bs ra):(ra.map λ r=>HV.ref r.1).length=bs.length:=by rw[List.length_map,h.len]
theorem bR.blm (h:bR V B told bs ra):(ra.map λ r=>HV.ref r.1).length<lim:=by rw[h.bll];exact az h.sz.1 (by decide)
theorem Fn {i:Nat} {ss:List HV} {t:HV} {x:Ev} (hx:x≠ .drop) (h:i<ss.length/\ss[i]? =some (AS x)):HX i ss t (some x):=by
 cases x with
 |drop=>exact aN rfl hx
 |_=>exact h
theorem bR.kf (h:bR V B told bs ra) {b i:Nat} {e:List Ev} (hb:bs[b]? =some e) (hi:i<=e.length):HX i (e.map AS) (D5 bs.length b) (fC bs b i):=by
 unfold fC;rw[hb];dsimp only
 induction hx:e[i]? using Jn with
 |some x=>exact Fn (h.nd e (ar hb) x (ar hx)) ⟨by rw[List.length_map];exact dI hx,by rw[List.getElem?_map,hx];rfl⟩
 |none=>
  have hie:i=(e.map AS).length:=by rw[List.length_map];exact cn hi (List.getElem?_eq_none_iff.mp hx)
  unfold D5;dsimp only
  split
  ·exact⟨hie,_,rfl⟩
  ·exact⟨hie,rfl⟩
theorem bR.pt (h:bR V B told bs ra) {b i:Nat} {e:List Ev} (hb:bs[b]? =some e) (hi:i<=e.length):Pt V B b i (fC bs b i) (ra.map λ r=> .ref r.1) (e.map AS) (ra.at b).1 (ra.at b).2 (D5 bs.length b):=by
 have hbl:b<ra.length:=h.len▸(ao.mp hb).1;refine⟨h.obj,h.blk,h.blm,?_,(h.stm b e hb).1,(h.stm b e hb).2,db (az (h.sz.2 e (ar hb)) (by decide)),h.kf hb hi⟩
 unfold RA.at;rw[List.getElem?_map,List.getElem?_eq_getElem hbl];rfl
theorem E6 {n:Nat} {F:List HV->Prop} (hn:n<2000) (h:F (dq 0 1 n)):Bm F [.int n]:= .up hn h
theorem xc {bs:List (List Ev)} (hs:∀e∈bs,e.length<20):∀k,k<=bs.length->(pb bs k).length<=k*20:=by
 intro l_
 induction l_ with
 |zero=>
  intro _;exact ai _
 |succ k ih=>
  intro h;have hk:bs[k]? =some bs[k]:=ak h;have h1:=ih (Nat.le_of_succ_le h);have h2:=hs _ (ar hk);rw[km bs k _ hk,List.length_append,List.length_map,List.length_range];lia
theorem uJ (h:bR V B told bs ra) {k:Nat} (hk:k<=bs.length):(pb bs k).length<400:=aj (xc h.sz.2 k hk) (by have:=h.sz.1;lia)
theorem gY (h:bR V B told bs ra) (hd:2<=d) (q:∀j V',bt V V'->V.length<=j->V'[j]? =some (.list ((gW bs).map fy))->K (.ref j) V'):hW bg d 16 [.obj 0 B.i] [] V K:=
 aP [.val (.obj 0 B.i), .empty, .empty] rfl rfl rfl hd λ d hd=>⟨nl rfl,aR _ rfl λ V1 s1 e1 U=>dZ.fld (s1 _ _ h.obj) rfl rfl rfl<| .lenL (s1 _ _ h.blk) h.blm<|by
 rw[h.bll];refine mc (az h.sz.1 (by decide)) (λ a:Option HV=>[.val (.obj 0 B.i), .val (.ref V.length),sl a]) (λ k U V'=>bt V V'/\V'[V.length]? =some (.list ((pb bs k).map fy))) none ⟨s1,e1⟩ ?_ λ a V' h'=>q _ V' h'.1 (ai _) h'.2
 intro k a O hk hq1 N' q';refine cO hq1 λ hs hf=>?_;have hbk:bs[k]? =some bs[k]:=ak hk;have hbs:=h.sz.2 _ (ar hbk);have hl:((pb bs k).map fy).length<400:=by rw[List.length_map];exact uJ h (bP hk)
 have p:=(h.mono hs).pt hbk (aO _);refine bM a rfl<| .l hf rfl rfl<|jE.own p.obj rfl rfl rfl<|cZ p hd<| .lenL p.h2 p.ssl<| .add (Gv (by rw[List.length_map];exact lw hbs rfl)) (cq (by decide)) ?_
 rw[List.length_map];refine E6 (n:=bs[k].length+1) (aj hbs (by decide))<|Il (λ o:Option HV=>[sl o, .ro (.int k)]) (λ j U V' acc=>O=V'/\acc=(List.range j).map λ i=>pV k i) none ⟨rfl,rfl⟩ ?_ ?_
 ·rintro j o V' acc hj ⟨e1,e2⟩ N2 q2;subst e1 e2;refine bM o rfl ⟨db (by rw[List.length_range];lia),q2 (some (.int j)) O _ ⟨rfl,?_⟩⟩
  rw[List.range_succ,List.map_append];rfl
 ·rintro o V' acc ⟨e1,e2⟩;subst e1 e2;refine aR _ rfl λ V2 s2 e2 U=>wK (s2 _ _ hf) e2 (aH (br hf)) ?_ λ V3 s3 e3 U=>q' (some (.int k)) V3 ⟨(hs.trans s2).upd s3 (ai _),?_⟩
  ·rw[List.length_map (as:=List.range _),List.length_range];exact az (Nat.add_lt_add hl (by lia:_<30)) (by decide)
  ·rw[e3,km bs k _ hbk,List.map_append,List.map_map];rfl⟩
end
theorem cb {L a b:Nat} (h:Nat.beq a b=false):L+a≠L+b:=λ e=>aN (Nat.add_left_cancel e) (Nat.ne_of_beq_eq_false h)
section
variable{V:aF} {K:KV}
theorem i3 {c a L:Nat} {j:Nat} {o:HO} {kvs:List (HV×HV)} {F:aF->Prop} (e:V[L]? =some (.dict kvs)) (hj:V.length=j) (hk:(gk bg c a&&bp (.str a) kvs)=true) (hm:dM bg c a= .none) (hl:kvs.length<500)
  (q:∀V',SB L V V'->V'[L]? =some (.dict (dC (.str a) (.ref j) kvs))->V'[j]? =some o->V'.length=j+1->F V'):eJ V (λ v V=>Fa bg V a v F (.obj c L)) o:=
 aR j hj λ V1 s1 e1 l1=>dK (s1 _ _ e) hk hm hl λ V2 s2 e2 l2=>q V2 (s1.sb.trans s2) e2 (s2 _ _ (hj▸aE (br e)) e1) (l2.trans l1)
end
noncomputable def Et (L b:Nat):List HV:=if b+1<L then[.int ((b+1:Nat):Int)] else[]
section
variable{V:aF} {K:KV} {d:Nat} {B:BL} {told:HV} {bs:List (List Ev)} {ra:RA}
theorem pe (L b:Nat) (hd:1<=d) (q:∀j V',bt V V'->V.length<=j->V'[j]? =some (.list (Et L b))->K (.ref j) V'):hW bg d 17 [D5 L b] [] V K:=by
 unfold D5 Et at*;by_cases h:b+1<L
 ·rw[if_pos h];rw[if_pos h] at q;exact aP [.val (xe (b+1)), .empty, .empty, .empty, .empty] rfl rfl rfl hd λ d hd=> .t (nl rfl) rfl rfl<| .eq (.c rfl rfl) rfl<| .eq (.c rfl rfl) rfl<| .eq (.c rfl rfl) rfl<| .eq (.c rfl rfl) rfl<| .t (nl rfl) rfl rfl ⟨nl rfl,aR _ rfl λ V1 s1 e1 l1=>⟨nl rfl,aR _ l1 λ V2 s2 e2 l2=>
   .l (s2 _ _ e1) (nl rfl) ⟨2, .l (s2 _ _ e1)<| .n<| .notin (.l e2 rfl)<| .l e2 rfl rfl<|dB e2 (nl rfl) λ V3 s3 e3 U=> .l (s3 _ _ (aH (aI _)) (s2 _ _ e1))<|q _ V3 ((s1.trans s2).upd s3 (bG _)) (bG _) e3⟩⟩⟩
 ·rw[if_neg h];rw[if_neg h] at q;exact aP [.val x1, .empty, .empty, .empty, .empty] rfl rfl rfl hd λ d hd=> .t (nl rfl) rfl rfl<| .eq (.c rfl rfl) rfl<| .eq (.c rfl rfl) rfl<| .eq (.c rfl rfl) rfl<| .eq (.c rfl rfl) rfl<| .eq (.c rfl rfl) rfl ⟨nl rfl,aR _ rfl λ V1 s1 e1 l1=>⟨nl rfl,aR _ l1 λ V2 s2 e2 l2=>
   .l (s2 _ _ e1) (nl rfl) ⟨1, .l (s2 _ _ e1)<|q _ V2 (s1.trans s2) (bG _) e2⟩⟩⟩
structure qI (V:aF) (j m L:Nat):Prop where
 lst:V[j]? =some (.list ((List.range L).map λ i=> .ref (m+i)))
 each:∀b,b<L->V[m+b]? =some (.list (if b=0 then[] else[.int (b - 1:Nat)]))
theorem qI.mono {V V':aF} {j m L:Nat} (h:qI V j m L) (k:bt V V'):qI V' j m L:=⟨k _ _ h.lst,λ b hb=>k _ _ (h.each b hb)⟩
theorem qI.sb {V V':aF} {m L i:Nat} (h:qI V (m+L) m L) (k:SB i V V') (hi:i<m\/m+L<i):qI V' (m+L) m L:=⟨k _ _ (by lia) h.lst,λ b hb=>k _ _ (by lia) (h.each b hb)⟩
theorem eM {f:Nat->HV} {n k:Nat} (h:k<n):((List.range n).map f)[k]? =some (f k):=by rw[List.getElem?_map,List.getElem?_range h];rfl
theorem d7 {f:Nat->HV} {n:Nat} (h:n<2000):((List.range n).map f).length<lim:=db (by rw[List.length_range];exact h)
theorem kR (h:bR V B told bs ra) (hd:2<=d) (q:∀V',bt V V'->qI V' (V.length+bs.length) V.length bs.length->K (.ref (V.length+bs.length)) V'):hW bg d 18 [.obj 0 B.i] [] V K:=
 aP [.val (.obj 0 B.i), .empty, .empty, .empty] rfl rfl rfl hd λ d hd=>dZ.fld h.obj rfl rfl rfl<| .l h.blk h.blm<|by
 refine Df (λ o:Option HV=>[sl o]) (λ i U V' acc=>bt V V'/\V'.length=V.length+i/\(∀b,b<i->V'[V.length+b]? =some (.list []))/\acc=(List.range i).map λ i=> .ref (V.length+i)) none ⟨bt.refl V,rfl,(λ U h=>aN h (a0 _)),rfl⟩ (λ U U U U i=>i.1 _ _ h.blk) ?_ ?_
 ·intro i v o V1 acc hi hq1 N' q';refine pG hq1 λ s1 l1 b1 ha=>?_;have hib:i<bs.length:=h.bll▸dI hi;refine bM o rfl ⟨nl rfl,aR _ l1 λ V2 s2 e2 l2=>⟨by rw[ha];exact d7 (az hib (az h.sz.1 (by decide))),q' (some v) V2 _ ⟨s1.trans s2,l2,λ b hb=>?_,?_⟩⟩⟩
  ·by_cases hbi:b=i
   ·exact hbi.symm▸e2
   ·exact s2 _ _ (b1 b (by lia))
  ·rw[ha,List.range_succ,List.map_append];rfl
 rw[h.bll];intro o V1 acc hq2;refine pG hq2 λ s1 l1 b1 ha=>?_;subst ha;refine aR _ l1 λ V2 s2 e2 l2=>?_;have t2:=s1.trans s2;refine dZ.fld (t2 _ _ h.obj) rfl rfl rfl<| .lenL (t2 _ _ h.blk) h.blm ?_;rw[h.bll];refine mc (az h.sz.1 (by decide)) (λ a:Option HV×Option HV=>[.val (.obj 0 B.i), .val (.ref (V.length+bs.length)),sl a.1,sl a.2]) (λ k U V'=>bt V V'/\V'[V.length+bs.length]? =some (.list ((List.range bs.length).map λ i=> .ref (V.length+i)))/\∀b,b<bs.length->V'[V.length+b]? =some (.list (if b=0\/k<b then[] else[.int (b - 1:Nat)])))
  (none,none) ⟨t2,e2,λ b hb=>by rw[if_pos (by lia)];exact s2 _ _ (b1 b hb)⟩ ?_ ?_
 ·intro k a V3 hk hq3 N' q';refine kB hq3 λ s3 e3 b3=>?_;have p:=(h.mono s3).pt (ak hk) (aO _);refine bM a.1 rfl<|jE.own p.obj rfl rfl rfl<|fz p hd<|pe _ _ (ah (by decide) hd) λ j V4 s4 l4 e4=>?_
  have hL:=br e3;have b4:=λ b hb=>s4 _ _ (b3 b hb);unfold Et at e4;by_cases hk1:k+1<bs.length
  ·rw[if_pos hk1] at e4;have b5:=b4 (k+1) hk1;rw[if_pos (by lia)] at b5
   refine .l e4 (nl rfl) ⟨2, .l e4<|bM a.2 rfl<|cB (k:=k+1) (s4 _ _ e3) (d7 (az h.sz.1 (by decide))) (eM hk1)<| .l b5 rfl rfl<|dB b5 (nl rfl) λ V5 s5 e5 U=> .l (s5 _ _ (aE (by lia)) e4)<|q' (some (.int k),some (.int (k+1:Nat))) V5 ⟨(s3.trans s4).upd s5 (ay _ _),s5 _ _ (by lia) (s4 _ _ e3),λ b hb=>?_⟩⟩
   by_cases hbk:b=k+1
   ·rw[hbk,if_neg (by lia)];exact e5
   ·refine s5 _ _ (by lia) ((b4 b hb).trans (am (λ l=>some (HO.list l)) ?_))
    by_cases hc:b=0\/k<b
    ·rw[if_pos hc,if_pos (by lia)]
    ·rw[if_neg hc,if_neg (by lia)]
  ·rw[if_neg hk1] at e4;refine .l e4 (nl rfl) ⟨1, .l e4<|q' (some (.int k),a.2) V4 ⟨s3.trans s4,s4 _ _ e3,λ b hb=>(b4 b hb).trans (am (λ l=>some (HO.list l)) ?_)⟩⟩;by_cases hc:b=0\/k<b
   ·rw[if_pos hc,if_pos (by lia)]
   ·rw[if_neg hc,if_neg (by lia)]
 ·intro a V3 hq4;refine kB hq4 λ s3 e3 b3=>?_;refine q V3 s3 ⟨e3,λ b hb=>(b3 b hb).trans (am (λ l=>some (HO.list l)) ?_)⟩;by_cases hc:b=0
  ·rw[if_pos (.inl hc),if_pos hc]
  ·rw[if_neg (by lia),if_neg hc]
end
inductive Ty
 |u8|unit
 |par (k:Nat)
 |ref (r:HV) (t:Ty)
 |box (t:Ty)
 |arr (t:Ty)
 |adt0 (p:Nat) (r:HV)
 |adt2 (p:Nat) (a b:Ty)
noncomputable def cz:Ty->HV
 | .u8=>zx
 | .unit=> .t [.str 3, .t []]
 | .par k=> .t [.str 5, .str k]
 | .ref r t=> .t [.str 0,r, .bool false,cz t]
 | .box t=> .t [.str 1,cz t]
 | .arr t=> .t [.str 2,cz t, .int 2]
 | .adt0 p r=> .t [.str 4, .str p, .t [r], .t []]
 | .adt2 p a b=> .t [.str 4, .str p, .t [], .t [cz a,cz b]]
noncomputable def Ty.rmap (g:HV->HV):Ty->Ty
 | .ref r t=> .ref (g r) (t.rmap g)
 | .box t=> .box (t.rmap g)
 | .arr t=> .arr (t.rmap g)
 | .adt0 p r=> .adt0 p (g r)
 | .adt2 p a b=> .adt2 p (a.rmap g) (b.rmap g)
 |t=>t
noncomputable def Ty.regs:Ty->List HV
 | .ref r t=>r::t.regs
 | .box t=>t.regs
 | .arr t=>t.regs
 | .adt0 _ r=>[r]
 | .adt2 _ a b=>a.regs++b.regs
 |_=>[]
noncomputable def Ty.ht:Ty->Nat
 | .ref _ t=>t.ht+1
 | .box t=>t.ht+1
 | .arr t=>t.ht+1
 | .adt2 _ a b=>a.ht+b.ht+1
 |_=>1
section
variable{V:aF} {K:KV} {d:Nat} {a b c x:HV} {j:Nat}
noncomputable def lJ:Ty->List Ty
 | .ref _ t=>[t]
 | .box t=>[t]
 | .arr t=>[t]
 | .adt2 _ a b=>[a,b]
 |_=>[]
theorem gG (t:Ty) (hd:1<=d) (q:K (.t ((lJ t).map cz)) V):hW bg d 0 [cz t] [] V K:=by
 refine aP [.val (cz t), .empty] rfl rfl rfl hd λ d hd=>?_;cases t with
 |ref r t=>exact bj.t (ae rfl) rfl rfl (aS.eq (.c rfl rfl) rfl (bj.t (ae rfl) rfl rfl q))
 |box t=>exact bj.t (ae rfl) rfl rfl (aS.eq (.c rfl rfl) rfl (aS.eq (.c rfl rfl) rfl (bj.t (ae rfl) rfl rfl q)))
 |arr t=>exact bj.t (ae rfl) rfl rfl (aS.eq (.c rfl rfl) rfl (aS.eq (.c rfl rfl) rfl (aS.eq (.c rfl rfl) rfl (bj.t (ae rfl) rfl rfl q))))
 |unit=>exact bj.t (ae rfl) rfl rfl (aS.eq (.c rfl rfl) rfl (aS.eq (.c rfl rfl) rfl (aS.eq (.c rfl rfl) rfl (aS.eq (.c rfl rfl) rfl (bj.t (ae rfl) rfl rfl q)))))
 |u8=>exact bj.t (ae rfl) rfl rfl (aS.eq (.c rfl rfl) rfl (aS.eq (.c rfl rfl) rfl (aS.eq (.c rfl rfl) rfl (aS.eq (.c rfl rfl) rfl (aS.eq (.c rfl rfl) rfl q)))))
 |par k=>exact bj.t (ae rfl) rfl rfl (aS.eq (.c rfl rfl) rfl (aS.eq (.c rfl rfl) rfl (aS.eq (.c rfl rfl) rfl (aS.eq (.c rfl rfl) rfl (aS.eq (.c rfl rfl) rfl q)))))
 |adt0 p r=>exact bj.t (ae rfl) rfl rfl (aS.eq (.c rfl rfl) rfl (aS.eq (.c rfl rfl) rfl (aS.eq (.c rfl rfl) rfl (aS.eq (.c rfl rfl) rfl (aS.eq (.c rfl rfl) rfl (bj.t (ae rfl) rfl rfl q))))))
 |adt2 p a b=>exact bj.t (ae rfl) rfl rfl (aS.eq (.c rfl rfl) rfl (aS.eq (.c rfl rfl) rfl (aS.eq (.c rfl rfl) rfl (aS.eq (.c rfl rfl) rfl (aS.eq (.c rfl rfl) rfl (bj.t (ae rfl) rfl rfl q))))))
noncomputable def IJ:Ty->List HV->HV
 | .ref r _,l=> .t [.str 0,r, .bool false,l.headD .none]
 | .box _,l=> .t [.str 1,l.headD .none]
 | .arr _,l=> .t [.str 2,l.headD .none, .int 2]
 | .adt0 p r,_=> .t [.str 4, .str p, .t [r], .t []]
 | .adt2 p _ _,l=> .t [.str 4, .str p, .t [], .t l]
 |t,_=>cz t
theorem sF (t:Ty) {l:List HV} (hl:l.length=(lJ t).length) (hj:V[j]? =some (.list l)) (hd:1<=d) (q:K (IJ t l) V):hW bg d 1 [cz t, .ref j] [] V K:=by
 refine aP [.val (cz t), .val (.ref j), .empty] rfl rfl rfl hd λ d hd=>?_;cases t with
 |ref r t=>
  revert hj q;refine zK hl λ x hj q=>?_;exact bj.t (ae rfl) rfl rfl (aS.eq (.c rfl rfl) rfl (bj.t (ae rfl) rfl rfl (bj.t (ae rfl) rfl rfl (bj.l hj (ae rfl) rfl rfl q))))
 |box t=>
  revert hj q;refine zK hl λ x hj q=>?_;exact bj.t (ae rfl) rfl rfl (aS.eq (.c rfl rfl) rfl (aS.eq (.c rfl rfl) rfl (bj.l hj (ae rfl) rfl rfl q)))
 |arr t=>
  revert hj q;refine zK hl λ x hj q=>?_;exact bj.t (ae rfl) rfl rfl (aS.eq (.c rfl rfl) rfl (aS.eq (.c rfl rfl) rfl (aS.eq (.c rfl rfl) rfl (bj.l hj (ae rfl) rfl rfl (bj.t (ae rfl) rfl rfl q)))))
 |unit=>
  revert hj q;refine Bg hl λ hj q=>?_;exact bj.t (ae rfl) rfl rfl (aS.eq (.c rfl rfl) rfl (aS.eq (.c rfl rfl) rfl (aS.eq (.c rfl rfl) rfl (aS.eq (.c rfl rfl) rfl (eU.tupL hj (ae rfl) q)))))
 |u8=>exact bj.t (ae rfl) rfl rfl (aS.eq (.c rfl rfl) rfl (aS.eq (.c rfl rfl) rfl (aS.eq (.c rfl rfl) rfl (aS.eq (.c rfl rfl) rfl (aS.eq (.c rfl rfl) rfl q)))))
 |par k=>exact bj.t (ae rfl) rfl rfl (aS.eq (.c rfl rfl) rfl (aS.eq (.c rfl rfl) rfl (aS.eq (.c rfl rfl) rfl (aS.eq (.c rfl rfl) rfl (aS.eq (.c rfl rfl) rfl q)))))
 |adt0 p r=>
  revert hj q;refine Bg hl λ hj q=>?_;exact bj.t (ae rfl) rfl rfl (aS.eq (.c rfl rfl) rfl (aS.eq (.c rfl rfl) rfl (aS.eq (.c rfl rfl) rfl (aS.eq (.c rfl rfl) rfl (aS.eq (.c rfl rfl) rfl (bj.t (ae rfl) rfl rfl (bj.t (ae rfl) rfl rfl (eU.tupL hj (ae rfl) q))))))))
 |adt2 p a b=>
  revert hj q;refine Hs hl λ x y hj q=>?_;exact bj.t (ae rfl) rfl rfl (aS.eq (.c rfl rfl) rfl (aS.eq (.c rfl rfl) rfl (aS.eq (.c rfl rfl) rfl (aS.eq (.c rfl rfl) rfl (aS.eq (.c rfl rfl) rfl (bj.t (ae rfl) rfl rfl (bj.t (ae rfl) rfl rfl (eU.tupL hj (ae rfl) q))))))))
end
section
variable(J:List HV->aF->Prop) (ch:HV)
noncomputable def CH (g:HV->HV) (m:Nat):Prop:=∀d,m<=d->∀r rest V K,J (r::rest) V->(∀V',J rest V'->K (g r) V')->Ek bg (hW bg d) ch [r] V K
noncomputable def SP (out:Ty->HV) (rg:Ty->List HV) (f d:Nat) (t:Ty):Prop:=∀rest V K,J (rg t++rest) V->(∀V',J rest V'->K (out t) V')->hW bg d f [cz t,ch] [] V K
variable{J ch} {g:HV->HV} {m:Nat}
theorem yp {out:Ty->HV} {rg:Ty->List HV} {f d:Nat}:∀(ts:List Ty) (l rest:List HV) (V:aF) (M:bc->aF->List HV->Prop) (xs:List HV) (k:Nat) (o:Option HV),xs.drop k=ts.map cz->(∀u∈ts,SP J ch out rg f d u)->l.length+ts.length<lim->J (ts.flatMap rg++rest) V->
  (∀Y V',J rest V'->M Y V' (l++ts.map out))->
  eA (.static xs) (λ v Y' V' (acc:List HV) K'=>oF (fP Y' (.x 0) v) λ ρ₁=>fW bg (hW bg d) [] ρ₁ V' (λ σ₁=>cW bg (hW bg d) (.elt (.call (.k (.fn f)) [.x 0, .x 1])) ρ₁ σ₁ acc K') (λ σ₁=>K' ρ₁ σ₁ acc)) (ts.length+1) k [sl o, .ro ch] V l M:=by
 intro l_
 induction l_ with
 |nil=>
  intro l rest V M xs k o hk h hl j q;exact .st (by
  rw[List.getElem?_eq_none (List.drop_eq_nil_iff.mp hk)];have:=q [sl o, .ro ch] V j;rw[List.map_nil,List.append_nil] at this;exact this)
 |cons u ts ih=>
  intro l rest V M xs k o hk h hl j q;exact .st (by
  have hx:xs[k]? =some (cz u):=by
   have:=am (λ l:List HV=>l[0]?) hk;rw[List.getElem?_drop] at this;exact this
  have hk':xs.drop (k+1)=ts.map cz:=by rw[<- List.drop_drop,hk];rfl
  have hl':(l++[out u]).length+ts.length<lim:=by rw[List.length_append,Nat.add_assoc,Nat.add_comm [out u].length];exact hl
  rw[List.flatMap_cons,List.append_assoc] at j;rw[hx];refine bM o rfl (h u (.head _) _ V _ j λ V' j'=>⟨aj (ay _ _) hl,ih (l++[out u]) rest V' M xs (k+1) (some (cz u)) hk' (λ u hu=>h u (.tail _ hu)) hl' j' λ Y V2 j2=>?_⟩);rw[List.append_assoc];exact q Y V2 j2)
noncomputable abbrev WR (J:List HV->aF->Prop) (ch:HV) (g:HV->HV) (d:Nat) (t:Ty):Prop:=SP J ch (λ t=>cz (t.rmap g)) Ty.regs 3 d t
theorem tH (t:Ty):(lJ t).length<=2:=by rcases t with _|_<;>exact ae rfl
theorem cP (hJ:∀s V V',bt V V'->J s V->J s V') {out:Ty->HV} {rg:Ty->List HV} {f d:Nat} {t:Ty} {r:HV} {rest rs:List HV} {V:aF} {K:KV} (hd:1<=d) (ht:∀u∈lJ t,SP J ch out rg f d u) (e:IJ t ((lJ t).map out)=r) (hr:(lJ t).flatMap rg=rs)
  (j:J (rs++rest) V) (q:∀V',J rest V'->K r V'):kL bg (hW bg d) [.ret (some (.call (.k (.fn 1)) [.x 0,.comp 1 [1] (.x 0) (.e (.call (.k (.fn 0)) [.x 0])) [] (.elt (.call (.k (.fn f)) [.x 0,.x 1]))]))] [.val (cz t), .val ch] V (λ U V=>K .none V) K:=by
 subst hr;refine gG t hd (tI.t (db (aj (tH t) (by decide))) ⟨_,yp (lJ t) [] rest V _ _ 0 .none rfl ht (aj (ca (tH t) 0) (by decide)) j λ Y V1 j1=>aR _ rfl λ V2 s2 e2 l2=>sF t ?_ e2 hd ?_⟩)
 ·rw[List.nil_append,List.length_map]
 ·rw[List.nil_append,e];exact q V2 (hJ _ _ _ s2 j1)
theorem pq {P:Ty->Prop} {t:Ty} (h:P t):∀u∈[t],P u:=λ u k=>al.mp k▸h
theorem Ak {P:Ty->Prop} {a b:Ty} (h:P a) (k:P b):∀u∈[a,b],P u:=λ u q=>(aB.mp q).elim (λ e=>e▸h) λ q=>al.mp q▸k
theorem ie {P:Ty->Prop}:∀u∈[],P u:=λ U h=>ii h
theorem xu (hJ:∀s V V',bt V V'->J s V->J s V') (hm:1<=m) (hc:CH J ch g m) (t:Ty):∀{d},m+t.ht<=d->WR J ch g d t:=by
 induction t with
 |u8=>exact λ hd rest V K j q=>aP [.val zx, .val ch] rfl rfl rfl hd λ d hd=>bj.t (ae rfl) rfl rfl (aS.eq (.c rfl rfl) rfl (bj.t (ae rfl) rfl rfl (aS.eq (.c rfl rfl) rfl
   (cP (out:=λ t=>cz (t.rmap g)) (rg:=Ty.regs) hJ (t:= .u8) (ah hm hd) ie rfl rfl j q))))
 |unit=>exact λ hd rest V K j q=>aP [.val (cz .unit), .val ch] rfl rfl rfl hd λ d hd=>bj.t (ae rfl) rfl rfl (aS.eq (.c rfl rfl) rfl (bj.t (ae rfl) rfl rfl (aS.eq (.c rfl rfl) rfl
   (cP (out:=λ t=>cz (t.rmap g)) (rg:=Ty.regs) hJ (t:= .unit) (ah hm hd) ie rfl rfl j q))))
 |par k=>exact λ hd rest V K j q=>aP [.val (cz (.par k)), .val ch] rfl rfl rfl hd λ d hd=>bj.t (ae rfl) rfl rfl (aS.eq (.c rfl rfl) rfl (bj.t (ae rfl) rfl rfl (aS.eq (.c rfl rfl) rfl
   (cP (out:=λ t=>cz (t.rmap g)) (rg:=Ty.regs) hJ (t:= .par k) (ah hm hd) ie rfl rfl j q))))
 |box t ih=>exact λ hd rest V K j q=>aP [.val (cz (.box t)), .val ch] rfl rfl rfl hd λ d hd=>bj.t (ae rfl) rfl rfl (aS.eq (.c rfl rfl) rfl (bj.t (ae rfl) rfl rfl (aS.eq (.c rfl rfl) rfl
   (cP (out:=λ t=>cz (t.rmap g)) (rg:=Ty.regs) hJ (t:= .box t) (ah (ah hm (ay m _)) hd) (pq (ih hd)) rfl (List.append_nil _) j q))))
 |arr t ih=>exact λ hd rest V K j q=>aP [.val (cz (.arr t)), .val ch] rfl rfl rfl hd λ d hd=>bj.t (ae rfl) rfl rfl (aS.eq (.c rfl rfl) rfl (bj.t (ae rfl) rfl rfl (aS.eq (.c rfl rfl) rfl
   (cP (out:=λ t=>cz (t.rmap g)) (rg:=Ty.regs) hJ (t:= .arr t) (ah (ah hm (ay m _)) hd) (pq (ih hd)) rfl (List.append_nil _) j q))))
 |ref r t ih=>exact λ hd rest V K j q=>aP [.val (cz (.ref r t)), .val ch] rfl rfl rfl hd λ d hd=>bj.t (ae rfl) rfl rfl (aS.eq (.c rfl rfl) rfl (bj.t (ae rfl) rfl rfl
   (hc d (ah (ay m _) hd) r _ V _ j λ V1 j1=>bj.t (ae rfl) rfl rfl (bj.t (ae rfl) rfl rfl
   (cP (out:=λ t=>cz (t.rmap g)) (rg:=Ty.regs) hJ (t:= .ref (g r) t) (ah (ah hm (ay m _)) hd) (pq (ih hd)) rfl (List.append_nil _) j1 q)))))
 |adt0 p r=>exact λ hd rest V K j q=>aP [.val (cz (.adt0 p r)), .val ch] rfl rfl rfl hd λ d hd=>bj.t (ae rfl) rfl rfl (aS.eq (.c rfl rfl) rfl (bj.t (ae rfl) rfl rfl (aS.eq (.c rfl rfl) rfl
   (bj.t (ae rfl) rfl rfl (bj.t (ae rfl) rfl rfl (tI.t (ae rfl) ⟨2, .st (hc d hd r rest V _ j λ V1 j1=>⟨ae rfl, .st (aR _ rfl λ V2 s2 e2 l2=>eU.tupL e2 (ae rfl) (bj.t (ae rfl) rfl rfl
   (cP (out:=λ t=>cz (t.rmap g)) (rg:=Ty.regs) hJ (t:= .adt0 p (g r)) (ah hm hd) ie rfl rfl (hJ _ _ _ s2 j1) q)))⟩)⟩))))))
 |adt2 p a b iha ihb=>exact λ hd rest V K j q=>aP [.val (cz (.adt2 p a b)), .val ch] rfl rfl rfl hd λ d (hd:m+(a.ht+b.ht)<=d)=>bj.t (ae rfl) rfl rfl (aS.eq (.c rfl rfl) rfl (bj.t (ae rfl) rfl rfl (aS.eq (.c rfl rfl) rfl
   (bj.t (ae rfl) rfl rfl (bj.t (ae rfl) rfl rfl (tI.t (ae rfl) ⟨1, .st (aR _ rfl λ V2 s2 e2 l2=>eU.tupL e2 (ae rfl) (bj.t (ae rfl) rfl rfl
   (cP (out:=λ t=>cz (t.rmap g)) (rg:=Ty.regs) hJ (t:= .adt2 p a b) (ah (ah hm (ay m _)) hd) (Ak (iha (by lia)) (ihb (by lia))) rfl (am (a.regs++·) (List.append_nil b.regs)) (hJ _ _ _ s2 j) q)))⟩))))))
noncomputable def Ty.sub (kvs:List (HV×HV)):Ty->HV
 | .par k=>(bA (.str k) kvs).getD (cz (.par k))
 | .ref r t=> .t [.str 0,r, .bool false,t.sub kvs]
 | .box t=> .t [.str 1,t.sub kvs]
 | .arr t=> .t [.str 2,t.sub kvs, .int 2]
 | .adt2 p a b=> .t [.str 4, .str p, .t [], .t [a.sub kvs,b.sub kvs]]
 |t=>cz t
theorem CN {V:aF} {jt:Nat} {kvs:List (HV×HV)} (h:V[jt]? =some (.dict kvs)) (hk:(kvs.all λ p=>isStr p.1)=true) (t:Ty):∀{d},1+t.ht<=d->SP (λ U V'=>bt V V') (.ref jt) (λ t=>t.sub kvs) (λ U=>[]) 2 d t:=by
 have hJ:∀s V1 V',bt V1 V'->(λ (_:List HV) V'=>bt V V') s V1->(λ (_:List HV) V'=>bt V V') s V':=λ U U U h k=>k.trans h
 induction t with
 |par k=>exact λ hd rest V1 K j q=>aP [.val (cz (.par k)), .val (.ref jt)] rfl rfl rfl hd λ d hd=>bj.t (ae rfl) rfl rfl (aS.eq (.c rfl rfl) rfl (jE.dct (j _ _ h) rfl rfl (bj.t (ae rfl) rfl rfl (qt.getD (j _ _ h) hk (q V1 j)))))
 |u8=>exact λ hd rest V1 K j q=>aP [.val zx, .val (.ref jt)] rfl rfl rfl hd λ d hd=>bj.t (ae rfl) rfl rfl (aS.eq (.c rfl rfl) rfl (cP (J:=λ U V'=>bt V V') (out:=λ t=>t.sub kvs) (rg:=λ U=>[]) (rest:=[]) hJ (t:= .u8) hd ie rfl rfl j q))
 |unit=>exact λ hd rest V1 K j q=>aP [.val (cz .unit), .val (.ref jt)] rfl rfl rfl hd λ d hd=>bj.t (ae rfl) rfl rfl (aS.eq (.c rfl rfl) rfl (cP (J:=λ U V'=>bt V V') (out:=λ t=>t.sub kvs) (rg:=λ U=>[]) (rest:=[]) hJ (t:= .unit) hd ie rfl rfl j q))
 |adt0 p r=>exact λ hd rest V1 K j q=>aP [.val (cz (.adt0 p r)), .val (.ref jt)] rfl rfl rfl hd λ d hd=>bj.t (ae rfl) rfl rfl (aS.eq (.c rfl rfl) rfl (cP (J:=λ U V'=>bt V V') (out:=λ t=>t.sub kvs) (rg:=λ U=>[]) (rest:=[]) hJ (t:= .adt0 p r) hd ie rfl rfl j q))
 |box t ih=>exact λ hd rest V1 K j q=>aP [.val (cz (.box t)), .val (.ref jt)] rfl rfl rfl hd λ d hd=>bj.t (ae rfl) rfl rfl (aS.eq (.c rfl rfl) rfl (cP (J:=λ U V'=>bt V V') (out:=λ t=>t.sub kvs) (rg:=λ U=>[]) (rest:=[]) hJ (t:= .box t) (ah (ay 1 _) hd) (pq (ih hd)) rfl rfl j q))
 |arr t ih=>exact λ hd rest V1 K j q=>aP [.val (cz (.arr t)), .val (.ref jt)] rfl rfl rfl hd λ d hd=>bj.t (ae rfl) rfl rfl (aS.eq (.c rfl rfl) rfl (cP (J:=λ U V'=>bt V V') (out:=λ t=>t.sub kvs) (rg:=λ U=>[]) (rest:=[]) hJ (t:= .arr t) (ah (ay 1 _) hd) (pq (ih hd)) rfl rfl j q))
 |ref r t ih=>exact λ hd rest V1 K j q=>aP [.val (cz (.ref r t)), .val (.ref jt)] rfl rfl rfl hd λ d hd=>bj.t (ae rfl) rfl rfl (aS.eq (.c rfl rfl) rfl (cP (J:=λ U V'=>bt V V') (out:=λ t=>t.sub kvs) (rg:=λ U=>[]) (rest:=[]) hJ (t:= .ref r t) (ah (ay 1 _) hd) (pq (ih hd)) rfl rfl j q))
 |adt2 p a b iha ihb=>exact λ hd rest V1 K j q=>aP [.val (cz (.adt2 p a b)), .val (.ref jt)] rfl rfl rfl hd λ d (hd:1+(a.ht+b.ht)<=d)=>bj.t (ae rfl) rfl rfl (aS.eq (.c rfl rfl) rfl (cP (J:=λ U V'=>bt V V') (out:=λ t=>t.sub kvs) (rg:=λ U=>[]) (rest:=[]) hJ (t:= .adt2 p a b) (ah (ay 1 _) hd) (Ak (iha (by lia)) (ihb (by lia))) rfl rfl j q))
end
noncomputable abbrev aG:HV:= .str 100
noncomputable def fld (n:Nat) (t:HV):HV:= .t [.str n,t]
noncomputable def Ei (n k f:Nat):HV:= .t [.str n, .str k, .ref f]
structure WA where
 (ja j4 j5 j6 ji j8 j9 i jm jh:Nat)
 (g v f:Nat->Nat)
noncomputable def WA.w (a:WA):List (HV×HV):=[(.str 91, .none),(.str 11, .ref a.ja),(.str 12, .ref a.j4),(.str 92, .ref a.j5),(.str 93, .ref a.j6),(.str 15, .ref a.ji),(.str 94, .ref a.j8),(.str 95, .ref a.j9)]
noncomputable def WA.im (a:WA):List (HV×HV):=[(.str 87, .int 0),(.str 14, .t [aG]),(.str 13, .ref a.jm),(.str 16, .str 17),(.str 88, .t []),(.str 18,cz (.adt0 96 aG)),(.str 89, .ref a.jh),(.str 90, .int 0)]
noncomputable def WA.kvs (a:WA):List (HV×HV):=[(.str 96, .obj 4 (a.g 0)),(.str 97, .obj 4 (a.g 1)),(.str 98, .obj 4 (a.g 2)),(.str 106, .obj 4 (a.g 3)),(.str 112, .obj 4 (a.g 4))]
noncomputable def sT (p:Nat) (rs ps:List HV) (jv:Nat) (en:Bool):List (HV×HV):=[(.str 82, .str p),(.str 83, .str 86),(.str 14, .t rs),(.str 13, .t ps),(.str 12, .ref jv),(.str 84, .t []),(.str 85, .bool en)]
noncomputable def IB:Ty:= .ref aG .u8
noncomputable def Iw:Ty:= .box (.adt0 96 aG)
structure WF (V:aF) (w:Nat) (a:WA):Prop where
 t0:V[w]? =some (.dict a.w)
 t1:V[a.ja]? =some (.dict a.kvs)
 ji:V[a.ji]? =some (.list [.obj 5 a.i])
 i:V[a.i]? =some (.dict a.im)
 g1:V[a.g 1]? =some (.dict (sT 97 [aG] [] (a.v 1) false))
 g2:V[a.g 2]? =some (.dict (sT 98 [aG] [] (a.v 2) false))
 g3:V[a.g 3]? =some (.dict (sT 106 [] [.str 104, .str 105] (a.v 3) false))
 g4:V[a.g 4]? =some (.dict (sT 112 [] [.str 104, .str 105] (a.v 4) true))
 v1:V[a.v 1]? =some (.list [Ei 97 103 (a.f 1)])
 v2:V[a.v 2]? =some (.list [Ei 98 103 (a.f 2)])
 v3:V[a.v 3]? =some (.list [Ei 106 103 (a.f 3)])
 v4:V[a.v 4]? =some (.list [Ei 109 3 (a.f 4),Ei 111 3 (a.f 5)])
 f1:V[a.f 1]? =some (.list [fld 101 (cz IB)])
 f2:V[a.f 2]? =some (.list [fld 102 (cz .u8),fld 101 (cz Iw)])
 f3:V[a.f 3]? =some (.list [fld 107 (cz (.par 104)),fld 108 (cz (.par 105))])
 f4:V[a.f 4]? =some (.list [fld 110 (cz (.par 104))])
 f5:V[a.f 5]? =some (.list [fld 110 (cz (.par 105))])
section
variable{V:aF} {K:KV} {d:Nat}
theorem IG {xs ys:List HV} {dd:List (HV×HV)} (k:Nat) (hk:V.length=k) (hl:xs.length=ys.length) (hm:ys.length<16) (hz:eH xs ys []=some dd) (h:∀V',bt V V'->V'[k]? =some (.dict dd)->V'.length=k+1->K (.ref k) V'):GY V K (.t xs) (.t ys):= .mk hl hm hz (aR k hk h).h
theorem nZ (t:Ty) (hd:t.ht+2<=d) (q:∀V',bt V V'->K (cz (t.rmap λ U=> .none)) V'):hW bg d 5 [cz t] [] V K:=
 aP [.val (cz t)] rfl rfl rfl hd λ d hd=>xu (ch:= .fn 4) (g:=λ U=> .none) (J:=λ U V'=>bt V V') (λ U U U h k=>k.trans h) (ai 1) (λ d hd r rest V K j q=>aP [.val r] rfl rfl rfl hd λ d hd=>q V j) t (by rw[Nat.add_comm];exact hd) [] V K (bt.refl V) q
theorem mM (t:Ty) (h0:V[0]? =some (.tab 7)) (hl:t.regs.length<lim) (hd:t.ht+2<=d) (q:∀j V',bt V V'->V.length<=j->V'[j]? =some (.list t.regs)->K (.ref j) V'):hW bg d 6 [cz t] [] V K:=
 aP [.val (cz t), .empty, .empty] rfl rfl rfl hd λ d hd=>by
 refine⟨ae rfl,aR _ rfl λ V1 s1 e1 l1=>⟨s1 _ _ h0,?_⟩⟩;refine xu (ch:= .clo 7 [.ref V.length]) (J:=λ s V'=>bt V V'/\∃done,V'[V.length]? =some (.list done)/\done++s=t.regs) (by intro _ _ _ h hq1;refine cO hq1 λ k hz1=>?_;refine aU hz1 λ done e r=>?_;exact⟨k.trans h,done,h _ _ e,r⟩) (ai 1) (g:=λ r=>r) (λ d hd r rest V2 K ⟨k,done,e,f⟩ q=>⟨rfl,aP [.val r, .ro (.ref V.length)] rfl rfl rfl hd λ d hd=>
  jE.l e rfl rfl (dB e ?_ λ V3 s3 e3 l3=>q V3 ⟨k.upd s3 (ai _),done++[r],e3,by rw[<- f,List.append_assoc];rfl⟩)⟩) t (by rw[Nat.add_comm];exact hd) [] V1 _ ⟨s1,[],e1,List.append_nil _⟩ λ V2 ⟨k,done,e,f⟩=>q _ V2 k (ai _) ?_
 ·refine aj ?_ hl;rw[<- f,List.length_append];exact ay _ _
 ·rw[e,<- f,List.append_nil]
noncomputable def BJ:Ty->Bool
 | .adt0 p _=>Nat.beq 96 p
 |_=>false
theorem tz (t:Ty) {j:Nat} (hd:2<=d) (q:K (.bool (BJ t)) V):hW bg d 8 [cz (.adt0 96 .none),cz t, .ref j] [] V K:=
 aP [.val (cz (.adt0 96 .none)), .val (cz t), .val (.ref j), .empty, .empty, .empty, .empty] rfl rfl rfl hd λ d hd=>by
 have s0:∀{F:HV->Prop} {x:HV} {l:List HV},(x::l).length<lim->F x->bj V F (.t (x::l)) (.int 0):=λ h f=> .t h rfl rfl f;refine s0 (ae rfl) (aS.eq (.c rfl rfl) rfl (s0 (ae rfl) ?_));cases t with
 |u8=>exact s0 (ae rfl) (.ne (.c rfl rfl) q)
 |unit=>exact s0 (ae rfl) (.ne (.c rfl rfl) q)
 |par k=>exact s0 (ae rfl) (.ne (.c rfl rfl) q)
 |ref r t=>exact s0 (ae rfl) (.ne (.c rfl rfl) q)
 |box t=>exact s0 (ae rfl) (.ne (.c rfl rfl) q)
 |arr t=>exact s0 (ae rfl) (.ne (.c rfl rfl) q)
 |adt0 p r=>
  refine s0 (nl rfl)<| .ne (.c rfl rfl)<|s0 (nl rfl)<| .eq (.c rfl rfl) rfl<|s0 (nl rfl)<| .in_ (.t rfl)<|s0 (nl rfl)<| .eq (.c rfl rfl) rfl<|s0 (nl rfl)<| .eq (.c rfl rfl) rfl<|s0 (nl rfl)<| .eq (.c rfl rfl) rfl<| .t (nl rfl) rfl rfl<| .t (nl rfl) rfl rfl<| .ne (.c rfl rfl) ?_
  change K (.bool (Nat.beq 96 p)) V at q
  cases hp:Nat.beq 96 p<;>rw[hp] at q
  ·exact q
  ·exact gG (.adt0 96 .none) hd<|gG (.adt0 p r) hd<|cw.t ⟨nl rfl,rfl,eU.lenT (nl rfl)<|eU.lenT (nl rfl)<| .ne (.c rfl rfl) ⟨rfl,rfl,1, .zip q⟩⟩
 |adt2 p a b=>
  refine s0 (nl rfl)<| .ne (.c rfl rfl)<|s0 (nl rfl)<| .eq (.c rfl rfl) rfl<|s0 (nl rfl)<| .in_ (.t rfl)<|s0 (nl rfl)<| .eq (.c rfl rfl) rfl<|s0 (nl rfl)<| .eq (.c rfl rfl) rfl<|s0 (nl rfl)<| .eq (.c rfl rfl) rfl<| .t (nl rfl) rfl rfl<| .t (nl rfl) rfl rfl<| .ne (.c rfl rfl) ?_;cases hp:Nat.beq 96 p
  ·exact q
  ·exact gG (.adt0 96 .none) hd<|gG (.adt2 p a b) hd<|cw.t ⟨nl rfl,rfl,eU.lenT (nl rfl)<|eU.lenT (nl rfl)<| .ne (.c rfl rfl) q⟩
theorem xr (g:HV->HV) (t:Ty):BJ (t.rmap g)=BJ t:=by rcases t with _|_<;>rfl
theorem tn {V0:aF} {w:Nat} {wa:WA} (wf:WF V0 w wa) (hs:bt V0 V) (t:Ty) (hd:t.ht+3<=d) (q:∀V',bt V V'->K (.bool (BJ t)) V'):hW bg d 12 [cz t, .obj 6 w] [] V K:=
 aP [.val (cz t), .val (.obj 6 w), .empty] rfl rfl rfl hd λ d hd=>by
 refine dZ.fld (hs _ _ wf.t0) rfl rfl rfl (.l (hs _ _ wf.ji) (ae rfl) ⟨2, .l (hs _ _ wf.ji) ?_⟩);refine dZ.fld (hs _ _ wf.i) rfl rfl rfl (.eq (.c rfl rfl) rfl (dZ.fld (hs _ _ wf.i) rfl rfl rfl ?_));refine nZ (.adt0 96 aG) (ah (dH (by rcases t with _|_<;>exact aX (aO _)) 2) hd) λ V1 s1=>nZ t hd λ V2 s2=>⟨ae rfl,gq (aR _ rfl λ V3 s3 e3 l3=>?_)⟩
 have s:=s1.trans (s2.trans s3);have q:=q V3 s;refine tz _ (ah (Nat.le_add_left 2 _) hd) ?_;rw[xr];cases h:BJ t<;>rw[h] at q
 ·exact .l (s _ _ (hs _ _ wf.ji)) q
 ·exact q
end
section
variable{V:aF} {K:KV} {d:Nat}
theorem At (g:HV->HV) (t:Ty):(t.rmap g).ht=t.ht:=by
 induction t with
 |ref r t ih=>exact am (·+1) ih
 |box t ih=>exact am (·+1) ih
 |arr t ih=>exact am (·+1) ih
 |adt2 p a b ih jh=>show _+_+1=_;rw[ih,jh];rfl
 |_=>rfl
theorem xN {X:Type} {f:X->HV} {l:List X} {i:Nat} {x:X} (h:l[i]? =some x):(l.take i).map f++[f x]=(l.take (i+1)).map f:=by
 rw[List.take_add_one,h,List.map_append];rfl
noncomputable def GL (kvs:List (HV×HV)) (r:HV):HV:=(bA r kvs).getD r
theorem fJ {V0:aF} {w:Nat} {wa:WA} (wf:WF V0 w wa) (ht:V0[1]? =some (.tab 11)) (hs:bt V0 V) {p g jv k f n kd:Nat} {ra ta rs ps vs:List HV} {en:Bool} {dt dr:List (HV×HV)} {fs:List (Nat×Ty)}
  (hg:bA (.str p) wa.kvs=some (.obj 4 g)) (ho:V0[g]? =some (.dict (sT p rs ps jv en))) (hv:V0[jv]? =some (.list vs)) (hl:vs.length<lim) (hk:vs[k]? =some (Ei n kd f))
  (hf:V0[f]? =some (.list (fs.map λ x=>fld x.1 (cz x.2)))) (hn:fs.length<lim) (l1:ps.length=ta.length) (l2:rs.length=ra.length) (m1:ta.length<16) (m2:ra.length<16)
  (z1:eH ps ta []=some dt) (z2:eH rs ra []=some dr) (i1:(dt.all λ p=>isStr p.1)=true) (i2:(dr.all λ p=>isStr p.1)=true) (hr:∀u∈fs.map (·.2),u.ht<=2/\u.regs.all isStr=true) (hd:5<=d)
  (q:∀j V',bt V V'->V.length<=j->V'[j]? =some (.list (fs.map λ x=>fld x.1 ((x.2.rmap (GL dr)).sub dt)))->K (.ref j) V'):hW bg d 10 [.t [.str 4, .str p, .t ra, .t ta], .int k, .obj 6 w] [] V K:=
 aP [.val (.t [.str 4, .str p, .t ra, .t ta]), .val (.int k), .val (.obj 6 w), .empty, .empty, .empty, .empty] rfl rfl rfl hd λ d hd=>by
 refine .t (nl rfl) rfl rfl<| .eq (.c rfl rfl) rfl<| .t (nl rfl) rfl rfl<| .ne (.c rfl rfl) ?_;refine dZ.fld (hs _ _ wf.t0) rfl rfl rfl<| .t (nl rfl) rfl rfl<| .dct (hs _ _ wf.t1) rfl hg ?_;refine dZ.fld (hs _ _ ho) rfl rfl rfl<| .t (nl rfl) rfl rfl<|IG _ rfl l1 m1 z1 λ V1 s1 e1 n1=>?_;have h1:=hs.trans s1;refine dZ.fld (h1 _ _ ho) rfl rfl rfl<| .t (nl rfl) rfl rfl<|IG _ n1 l2 m2 z2 λ V2 s2 e2 n2=>?_;have h2:=h1.trans s2;refine⟨h2 _ _ ht,aP [.val (.t [.str 4, .str p, .t ra, .t ta]), .val (.int k), .val (.obj 6 w)] rfl rfl rfl hd λ d' hd'=>?_⟩;refine dZ.fld (h2 _ _ wf.t0) rfl rfl rfl<| .t (nl rfl) rfl rfl<| .dct (h2 _ _ wf.t1) rfl hg ?_;refine dZ.fld (h2 _ _ ho) rfl rfl rfl<|cB (h2 _ _ hv) hl hk<| .t (nl rfl) rfl rfl<| .l (h2 _ _ hf) (db hn) ?_;refine Df (λ o:Option HV×Option HV=>[sl o.1,sl o.2, .ro (.ref V.length), .ro (.clo 11 [.ref (V.length+1)])])
  (λ i U V' acc=>bt V2 V'/\acc=(fs.take i).map λ x=>fld x.1 ((x.2.rmap (GL dr)).sub dt)) (none,none) ⟨bt.refl _,rfl⟩ (λ i a V' b h=>h.1 _ _ (h2 _ _ hf)) ?_ ?_
 ·intro i v a V3 acc hi hq1 N' q';refine cO hq1 λ s3 ha=>?_;rw[List.getElem?_map] at hi;refine aU (aZ.mp hi) λ x hx rq1=>?_;subst rq1;have hxm:=hr x.2 (bI (ar hx));have e1':=s3 _ _ (s2 _ _ e1);have e2':=s3 _ _ e2;refine eP a.1 a.2 rfl rfl ?_;refine xu (ch:= .clo 11 [.ref (V.length+1)]) (g:=GL dr) (J:=λ s V'=>bt V3 V'/\s.all isStr=true) (λ U U U h ⟨k,r⟩=>⟨k.trans h,r⟩) (ai 1) (λ d hd r rest V4 K ⟨s4,i4⟩ q=>⟨rfl,aP [.val r, .ro (.ref (V.length+1))] rfl rfl rfl hd λ d hd=>?_⟩) x.2 (ah (ca hxm.1 1) (ah (by decide) hd)) [] V3 _ ⟨bt.refl _,by rw[List.append_nil];exact hxm.2⟩ λ V4 ⟨s4,_⟩=>?_
  ·refine cO (aD.mp i4) λ ir i5=>?_;cases r with
   |str c=>exact jE.dct (s4 _ _ e2') rfl rfl<|qt.getD (s4 _ _ e2') i2 (q V4 ⟨s4,i5⟩)
   |_=>exact aN ir Bool.noConfusion
  ·refine CN (s4 _ _ e1') i1 (x.2.rmap (GL dr)) (rest:=[]) ?_ V4 _ (bt.refl _) λ V5 s5=>⟨?_,q' (some (.str x.1),some (cz x.2)) V5 _ ⟨s3.trans (s4.trans s5),?_⟩⟩
   ·rw[At];exact ah (ca hxm.1 1) (ah (by decide) hd)
   ·rw[ha];exact db (aj (List.length_take_le' i fs) hn)
   ·rw[ha];exact xN hx
 ·intro a V3 acc hq2;refine cO hq2 λ s3 ha=>?_;refine aR _ rfl λ V4 s4 e4 U=>q _ V4 (s1.trans (s2.trans (s3.trans s4))) (s1.trans (s2.trans s3)).len ?_;rw[e4,ha,List.length_map,List.take_length]
end
noncomputable def Pk.t (r:Int):Pk->Ty
 | .b=> .box (.adt0 96 (.int r))
 | .g=> .adt0 96 (.int r)
 | .h=> .adt0 97 (.int r)
 | .k=> .adt0 98 (.int r)
 | .u=> .u8
theorem yP (r:Int) (p:Pk):cz (p.t r)=p.ty r:=by rcases p with _|_<;>rfl
noncomputable def Pk.mt (r:Int):Pk->List HV
 | .b=>[cz (.adt0 96 (.int r))]
 | .g=>[cz (.adt0 96 (.int r))]
 | .h=>[cz (.adt0 97 (.int r))]
 | .k=>[cz (.adt0 98 (.int r)),cz (.adt0 96 (.int r))]
 | .u=>[]
structure DC (V0:aF) (w:Nat) (wa:WA) (jf jm:Nat):Prop where
 wf:WF V0 w wa
 t0:V0[0]? =some (.tab 7)
 t1:V0[1]? =some (.tab 11)
 f:V0.length<=jf
 m:V0.length<=jm
 n:jf≠jm
noncomputable abbrev FM:=List HV×List HV
structure DW (V0:aF) (jf jm:Nat) (x:FM) (V:aF):Prop where
 s:bt V0 V
 f:V[jf]? =some (.list x.1)
 m:V[jm]? =some (.list x.2)
noncomputable def FR (jf jm:Nat) (V V':aF):Prop:=∀(i:Nat) (ho:HO),i≠jf->i≠jm->V[i]? =some ho->V'[i]? =some ho
theorem FR.trans {jf jm:Nat} {a b c:aF} (h:FR jf jm a b) (k:FR jf jm b c):FR jf jm a c:=λ i o n m e=>k i o n m (h i o n m e)
theorem bt.fr {jf jm:Nat} {a b:aF} (h:bt a b):FR jf jm a b:=λ i o U U e=>h i o e
theorem SB.frf {jf jm:Nat} {a b:aF} (h:SB jf a b):FR jf jm a b:=λ i o n U e=>h i o n e
theorem SB.frm {jf jm:Nat} {a b:aF} (h:SB jm a b):FR jf jm a b:=λ i o U n e=>h i o n e
noncomputable def DS (V0:aF) (w jf jm d:Nat) (n:Int) (u:HV) (x y:FM):Prop:=∀V K,DW V0 jf jm x V->(∀V',DW V0 jf jm y V'->FR jf jm V V'->K .none V')->hW bg d 52 [u, .obj 6 w, .ref jf, .int n, .ref jm] [] V K
section
variable{V0 V:aF} {K:KV} {d m w jf jm:Nat} {wa:WA} {n:Int} {x y:FM}
theorem DW.mono {V':aF} (h:DW V0 jf jm x V) (k:bt V V'):DW V0 jf jm x V':=⟨h.s.trans k,k _ _ h.f,k _ _ h.m⟩
theorem nY {kd:Nat} {l:List HV} (hl:(HV.str kd::l).length<lim) (hn:0<n/\n<100) (h:DW V0 jf jm x V) (lm:x.2.length<=200) (hd:m+1<=d)
  (q:∀d,m<=d->kL bg (hW bg d) (fS.body.drop 2) [.val (.t (.str kd::l)), .val (.obj 6 w), .val (.ref jf), .val (.int n), .val (.ref jm), .val (.str kd), .empty, .empty, .empty] V (λ U V=>K .none V) K):hW bg d 52 [.t (.str kd::l), .obj 6 w, .ref jf, .int n, .ref jm] [] V K:=
 aP [.val (.t (.str kd::l)), .val (.obj 6 w), .val (.ref jf), .val (.int n), .val (.ref jm), .empty, .empty, .empty, .empty] rfl rfl rfl hd λ d hd=> .t hl rfl rfl<| .eq (.c rfl rfl) rfl<|zh (λ e=>aN e (Int.ne_of_gt hn.1)) λ U=>
  .lenL h.m (aj lm (by decide))<| .gt<|zh (λ e=>aN (Int.ofNat_lt.mp e) (bF.mpr lm)) λ U=>q d hd
theorem BH (hn:0<n/\n<100) (lm:x.2.length<=200) (hd:1<=d):DS V0 w jf jm d n zx x x:=λ V K h q=>
 nY (nl rfl) hn h lm hd λ d hd=> .eq (.c rfl rfl) rfl<| .eq (.c rfl rfl) rfl<| .eq (.c rfl rfl) rfl<| .eq (.c rfl rfl) rfl (q V h (bt.refl V).fr)
theorem zF (hn:0<n/\n<100) (lm:x.2.length<=200) (hd:1<=d):DS V0 w jf jm d n (cz .unit) x x:=λ V K h q=>
 nY (nl rfl) hn h lm hd λ d hd=> .eq (.c rfl rfl) rfl<| .eq (.c rfl rfl) rfl<| .eq (.c rfl rfl) rfl<| .t (nl rfl) rfl rfl<| .t (nl rfl) ⟨1, .st (q V h (bt.refl V).fr)⟩
theorem CA {r:HV} {t:Ty} (hn:0<n/\n<100) (lm:x.2.length<=200) (hd:1<=d):DS V0 w jf jm d n (cz (.ref r t)) x x:=λ V K h q=>
 nY (nl rfl) hn h lm hd λ d hd=> .eq (.c rfl rfl) rfl<| .eq (.c rfl rfl) rfl<| .eq (.c rfl rfl) rfl<| .eq (.c rfl rfl) rfl (q V h (bt.refl V).fr)
theorem yg {t:HV} (hn:0<n/\n<100) (lm:x.2.length<=200) (hd:m+1<=d) (ih:∀d,m<=d->DS V0 w jf jm d (n - 1) t x y):DS V0 w jf jm d n (DD t) x y:=λ V K h q=>
 nY (nl rfl) hn h lm hd λ d hd=> .eq (.c rfl rfl) rfl<| .t (nl rfl) rfl rfl<| .sub (cq (by omega)) (cq (by decide))<|ih d hd V _ h q
theorem DM {t:HV} (hn:0<n/\n<100) (lm:x.2.length<=200) (hd:m+1<=d) (ih:∀d,m<=d->DS V0 w jf jm d (n - 1) t x y):DS V0 w jf jm d n (.t [.str 2,t, .int 2]) x y:=λ V K h q=>
 nY (nl rfl) hn h lm hd λ d hd=> .eq (.c rfl rfl) rfl<| .eq (.c rfl rfl) rfl<| .t (nl rfl) rfl rfl<| .sub (cq (by omega)) (cq (by decide))<|ih d hd V _ h q
theorem DT (wf:WF V0 w wa) (hs:bt V0 V) {l:List HV} (t:Ty) (he:cz t= .t (.str 4::l)) (hl:(HV.str 4::l).length<lim) (hd:t.ht+4<=d) (q:∀V',bt V V'->K (.bool (BJ t)) V'):hW bg d 34 [.t (.str 4::l), .obj 6 w] [] V K:=
 aP [.val (.t (.str 4::l)), .val (.obj 6 w)] rfl rfl rfl hd λ d hd=> .t hl rfl rfl<| .eq (.c rfl rfl) rfl<|he▸tn wf hs t hd q
theorem xF (dc:DC V0 w wa jf jm) {l:List HV} (t:Ty) (he:cz t= .t (.str 4::l)) (hl:(HV.str 4::l).length<lim) (hn:0<n/\n<100) (lm:x.2.length<=200) (hm:ew (.t (.str 4::l)) x.2=some false) (ht:t.ht<=m) (hd:m+5<=d)
  (go:∀d V K,m+4<=d->DW V0 jf jm (x.1,x.2++[.t (.str 4::l)]) V->(∀V',DW V0 jf jm y V'->FR jf jm V V'->K .none V')->kL bg (hW bg d) [.if_ (.k (.bool (BJ t))) [.expr (.m (.x 2) 24 [.call (.k (.fn 6)) [.x 0]])] [.for_ (.x 7) (.rng [.bi .len [.a (.sub (.a (.x 1) 11) (.sub (.x 0) (.k (.int 1)))) 12]]) [.for_ (.t [.x 8,.x 6]) (.e (.call (.k (.fn 10)) [.x 0,.x 7,.x 1])) [.expr (.call (.k (.fn 52)) [.x 6,.x 1,.x 2,.bin .sub (.x 3) (.k (.int 1)),.x 4])]]]]
   [.val (.t (.str 4::l)), .val (.obj 6 w), .val (.ref jf), .val (.int n), .val (.ref jm), .val (.str 4), .empty, .empty, .empty] V (λ U V=>K .none V) K):DS V0 w jf jm d n (.t (.str 4::l)) x y:=λ V K h q=>
 nY hl hn h lm hd λ d hd=> .eq (.c rfl rfl) rfl<| .eq (.c rfl rfl) rfl<| .eq (.c rfl rfl) rfl<| .eq (.c rfl rfl) rfl<| .notin (.l h.m hm)<| .l h.m rfl rfl<|dB h.m (aj lm (by decide)) λ V1 s1 e1 U=>
  DT dc.wf (h.s.upd s1 dc.m) t he hl (ah (dH ht 4) hd) λ V2 s2=>go d V2 K hd ⟨(h.s.upd s1 dc.m).trans s2,s2 _ _ (s1 _ _ dc.n h.f),s2 _ _ e1⟩ λ V3 h3 f3=>q V3 h3 ((SB.frm s1).trans (s2.fr.trans f3))
end
section
variable{V0 V:aF} {K:KV} {d m w jf jm:Nat} {wa:WA} {n:Int} {x y:FM}
theorem rY (dc:DC V0 w wa jf jm) {r:HV} (hn:0<n/\n<100) (lf:x.1.length<=200) (lm:x.2.length<=200) (hm:ew (cz (.adt0 96 r)) x.2=some false) (hd:6<=d):DS V0 w jf jm d n (cz (.adt0 96 r)) x (x.1++[r],x.2++[cz (.adt0 96 r)]):=
 xF (m:=1) dc (.adt0 96 r) rfl (nl rfl) hn lm hm (ai 1) hd λ d V K hd h q=>
  .l h.f rfl rfl<|mM (.adt0 96 r) (h.s _ _ dc.t0) (nl rfl) (ah (m:=5) (nl rfl) hd) λ j V' s l e=>wK (s _ _ h.f) e (aH (aw (br h.f) l)) (aj (dH lf 1) (by decide)) λ V2 s2 e2 U=>
   q V2 ⟨(h.s.trans s).upd s2 dc.f,e2,s2 _ _ dc.n.symm (s _ _ h.m)⟩ (s.fr.trans (SB.frf s2))
theorem lg (dc:DC V0 w wa jf jm) {p g jv:Nat} {ra ta rs ps vs:List HV} {en:Bool} (t:Ty) (he:cz t= .t [.str 4, .str p, .t ra, .t ta]) (hG:BJ t=false)
  (hg:bA (.str p) wa.kvs=some (.obj 4 g)) (ho:V0[g]? =some (.dict (sT p rs ps jv en))) (hv:V0[jv]? =some (.list vs)) (hl:vs.length<lim) (fl:Nat->List HV) (ρ:Nat->Nat->FM)
  (ff:∀k d V K,k<vs.length->5<=d->bt V0 V->(∀j V',bt V V'->V.length<=j->V'[j]? =some (.list (fl k))->K (.ref j) V')->hW bg d 10 [.t [.str 4, .str p, .t ra, .t ta], .int k, .obj 6 w] [] V K)
  (hn:0<n/\n<100) (lm:x.2.length<=200) (hm:ew (.t [.str 4, .str p, .t ra, .t ta]) x.2=some false) (ht:t.ht<=m) (h5:1<=m) (hd:m+5<=d) (fll:∀k,(fl k).length<lim)
  (y0:ρ 0 0=(x.1,x.2++[.t [.str 4, .str p, .t ra, .t ta]])) (yl:∀k,k<vs.length->ρ k (fl k).length=ρ (k+1) 0) (step:∀k i v d,k<vs.length->(fl k)[i]? =some v->m+4<=d->∃a u,v=fld a u/\DS V0 w jf jm d (n - 1) u (ρ k i) (ρ k (i+1))):
  DS V0 w jf jm d n (.t [.str 4, .str p, .t ra, .t ta]) x (ρ vs.length 0):=
 xF dc t he (nl rfl) hn lm hm ht hd λ d V K hd h q=>by
  rw[hG];refine dZ.fld (h.s _ _ dc.wf.t0) rfl rfl rfl<| .t (nl rfl) rfl rfl<| .dct (h.s _ _ dc.wf.t1) rfl hg<|dZ.fld (h.s _ _ ho) rfl rfl rfl<| .lenL (h.s _ _ hv) hl ?_;refine mc hl (λ a:Option HV×Option HV×Option HV=>[.val (.t [.str 4, .str p, .t ra, .t ta]), .val (.obj 6 w), .val (.ref jf), .val (.int n), .val (.ref jm), .val (.str 4),sl a.1,sl a.2.1,sl a.2.2]) (λ k U V'=>DW V0 jf jm (ρ k 0) V'/\FR jf jm V V') (none,none,none) ⟨y0▸h,(bt.refl V).fr⟩ ?_ λ a V h=>q V h.1 h.2;intro k a V1 hk hq1 N' q';refine cO hq1 λ h1 f1=>?_;refine bM a.2.1 rfl<|ff k d V1 _ hk (ah (dH h5 4) hd) h1.s λ j V2 s2 l2 e2=> .l e2 (fll k) ?_;refine qA (λ b:Option HV×Option HV=>[.val (.t [.str 4, .str p, .t ra, .t ta]), .val (.obj 6 w), .val (.ref jf), .val (.int n), .val (.ref jm), .val (.str 4),sl b.1, .val (.int k),sl b.2]) (λ i U V'=>DW V0 jf jm (ρ k i) V'/\FR jf jm V2 V') (a.1,a.2.2) ⟨h1.mono s2,(bt.refl V2).fr⟩ (λ i b V' h=>h.2 _ _ (aE (aw (br h1.f) l2)) (aE (aw (br h1.m) l2)) e2) ?_ λ b V' h=>q' (b.1,some (.int k),b.2) V' ⟨yl k hk▸h.1,f1.trans (s2.fr.trans h.2)⟩
  ·intro i v b V3 hi hq2 N2 q2;refine cO hq2 λ h3 f3=>?_;refine dP (step k i v d hk hi hd) λ c u rq1 ds=>?_;subst rq1;refine eP b.2 b.1 rfl rfl<| .sub (iw (p9 hn.1) (di hn.2 (by decide))) (cq (by decide))<|ds V3 _ h3 λ V4 h4 f4=>q2 (some u,some (.str c)) V4 ⟨h4,f3.trans f4⟩
end
section
variable{V0 V:aF} {K:KV} {d m w jf jm:Nat} {wa:WA} {n:Int} {x y:FM}
theorem rC {k:HV} {a b:List HV} {c:Bool} (h:ew k a=some false) (h2:ew k b=some c):ew k (a++b)=some c:=by
 revert h
 induction a with
 |nil=>exact λ U=>h2
 |cons z a ih=>
  intro h;refine dL (BN h) λ t u e1 e2 e=>?_;have e:=Bool.or_eq_false_iff.mp e;rw[e.1] at e1;exact(jK e1 (ih (e.2▸e2))).trans (am some (Bool.false_or c))
structure NM (r:Int) (M:List HV):Prop where
 g:ew (cz (.adt0 96 (.int r))) M=some false
 h:ew (cz (.adt0 97 (.int r))) M=some false
 k:ew (cz (.adt0 98 (.int r))) M=some false
theorem pS {X:Type} {a:List X} {k b c:Nat} (h:a.length<=b) (e:k+b<=c) {l:List X} (hl:l.length=k):(a++l).length<=c:=by rw[List.length_append,hl];lia
noncomputable def yK (a b:FM):Nat->Nat->FM
 |0,0=>a
 |0,1=>a
 |_,_=>b
noncomputable def yS (a b c:FM):Nat->Nat->FM
 |0,0=>a
 |0,1=>b
 |_,_=>c
noncomputable def yE (a b c:FM):Nat->Nat->FM
 |0,0=>a
 |0,_=>b
 |1,0=>b
 |_,_=>c
noncomputable def fE (a b:HV):Nat->List HV
 |0=>[fld 110 a]
 |_=>[fld 110 b]
theorem o7 (dc:DC V0 w wa jf jm) {r:Int} (p:Pk) (hn:3<=n/\n<100) (lf:x.1.length<=100) (lm:x.2.length<=100) (nm:NM r x.2) (hd:8<=d):DS V0 w jf jm d n (p.ty r) x (x.1++(p.od r).map .int,x.2++p.mt r):=by
 have lf2:=ah lf (by decide:100<=200)
 have lm2:=ah lm (by decide:100<=200)
 have hn0:0<n/\n<100:=⟨Int.lt_of_lt_of_le (by decide) hn.1,hn.2⟩
 cases p with
 |u=>rw[show(x.1++(Pk.od r .u).map HV.int,x.2++Pk.mt r .u)=x by rw[show x.1++(Pk.od r .u).map HV.int=x.1 from List.append_nil _,show x.2++Pk.mt r .u=x.2 from List.append_nil _]];exact BH hn0 lm2 (ah (by decide) hd)
 |g=>exact rY dc hn0 lf2 lm2 nm.g (ah (by decide) hd)
 |b=>exact yg (m:=6) hn0 lm2 (ah (by decide) hd) λ d hd=>rY dc ⟨by lia,by lia⟩ lf2 lm2 nm.g hd
 |h=>
  refine lg (m:=3) (x:=x) dc (.adt0 97 (.int r)) rfl rfl rfl dc.wf.g1 dc.wf.v1 (nl rfl) (λ U=>[fld 101 (cz (.ref (.int r) .u8))]) (λ U U=>(x.1++[],x.2++[cz (.adt0 97 (.int r))])) ?_ hn0 lm2 nm.h (nl rfl) (nl rfl) hd (λ U=>nl rfl) (am (λ a=>(a,_)) (List.append_nil _)) (λ U U=>rfl) ?_
  ·intro k d V K hk hd hs q;refine zY hk ?_;exact fJ (fs:=[(101,IB)]) dc.wf dc.t1 hs rfl dc.wf.g1 dc.wf.v1 (nl rfl) rfl dc.wf.f1 (nl rfl) rfl rfl (nl rfl) (nl rfl) rfl rfl rfl rfl (pq (P:=λ u=>u.ht<=2/\u.regs.all isStr=true) ⟨by decide,rfl⟩) hd q
  ·intro k i v d hk hi hd;refine z0 hi ?_;exact⟨_,_,rfl,CA ⟨by lia,by lia⟩ (pS (k:=1) lm (by decide) rfl) (ah (by decide) hd)⟩
 |k=>
  refine lg (m:=3) (x:=x) dc (.adt0 98 (.int r)) rfl rfl rfl dc.wf.g2 dc.wf.v2 (nl rfl) (λ U=>[fld 102 zx,fld 101 (DD (cz (.adt0 96 (.int r))))]) (yK (x.1,x.2++[cz (.adt0 98 (.int r))]) (x.1++[.int r],(x.2++[cz (.adt0 98 (.int r)),cz (.adt0 96 (.int r))]))) ?_ hn0 lm2 nm.k (nl rfl) (nl rfl) hd (λ U=>nl rfl) rfl ?_ ?_
  ·intro k d V K hk hd hs q;refine zY hk ?_;exact fJ (fs:=[(102, .u8),(101,Iw)]) dc.wf dc.t1 hs rfl dc.wf.g2 dc.wf.v2 (nl rfl) rfl dc.wf.f2 (nl rfl) rfl rfl (nl rfl) (nl rfl) rfl rfl rfl rfl (Ak (P:=λ u=>u.ht<=2/\u.regs.all isStr=true) ⟨by decide,rfl⟩ ⟨by decide,rfl⟩) hd q
  ·intro k hk;refine zY hk ?_;exact rfl
  ·intro k i v d hk hi hd;revert hi;refine zY hk λ hi=>?_;refine FQ hi ?_ ?_
   ·exact⟨_,_,rfl,BH ⟨by lia,by lia⟩ (pS (k:=1) lm (by decide) rfl) (ah (by decide) hd)⟩
   ·refine⟨_,_,rfl,yg (m:=6) ⟨by lia,by lia⟩ (pS (k:=1) lm (by decide) rfl) hd λ d hd=>?_⟩
    have:=rY (n:=n - 1 - 1) (x:=(x.1,x.2++[cz (.adt0 98 (.int r))])) dc (r:= .int r) ⟨by lia,by lia⟩ lf2 (pS (k:=1) lm (by decide) rfl) (rC nm.g rfl) hd
    rw[List.append_assoc] at this;exact this
end
inductive TT
 |un
 |ty (w:Wy) (p p':Pk)
noncomputable def TT.t:TT->Ty
 | .un=> .unit
 | .ty .s p p'=> .adt2 106 (p.t 1) (p'.t 2)
 | .ty .e p p'=> .adt2 112 (p.t 1) (p'.t 2)
 | .ty .a p _=> .arr (p.t 1)
noncomputable def TT.v:TT->HV
 | .un=>cz .unit
 | .ty w p p'=>w.ty p p'
noncomputable def TT.od:TT->List Int
 | .un=>[]
 | .ty w p p'=>w.od p p'
noncomputable def TT.ev:TT->List Int
 | .un=>[]
 | .ty w p p'=>w.ev p p'
theorem lj (q:Nat) (p p':Pk):cz (.adt2 q (p.t 1) (p'.t 2))=iH q [] [p.ty 1,p'.ty 2]:=congr (am (λ a b=>HV.t [.str 4, .str q, .t [], .t [a,b]]) (yP 1 p)) (yP 2 p')
theorem Ch:∀t:TT,cz t.t=t.v
 | .un=>rfl
 | .ty .s p p'=>lj 106 p p'
 | .ty .e p p'=>lj 112 p p'
 | .ty .a p _=>am (λ a=>HV.t [.str 2,a, .int 2]) (yP 1 p)
theorem wV (r:Int) (p:Pk):(p.t r).ht<=2:=by rcases p with _|_<;>exact nl rfl
theorem zd:∀t:TT,t.t.ht<=5
 | .un=>nl rfl
 | .ty .s p p'=>aX (dz (wV 1 p) (wV 2 p'))
 | .ty .e p p'=>aX (dz (wV 1 p) (wV 2 p'))
 | .ty .a p _=>aX (ah (wV 1 p) (nl rfl))
theorem my (r:Int) (p:Pk):(p.t r).regs=(p.ev r).map .int:=by rcases p with _|_<;>rfl
theorem uI:∀t:TT,t.t.regs=t.ev.map .int
 | .un=>rfl
 | .ty .s p p'=>by show(p.t 1).regs++(p'.t 2).regs=_;rw[my,my];exact List.map_append.symm
 | .ty .e p p'=>by show(p.t 1).regs++(p'.t 2).regs=_;rw[my,my];exact List.map_append.symm
 | .ty .a p _=>my 1 p
theorem Fl (r:Int) (p:Pk):(p.mt r).length<=2:=by rcases p with _|_<;>exact nl rfl
section
variable{V0 V:aF} {K:KV} {d m w jf jm:Nat} {wa:WA} {n:Int}
noncomputable def y1 (o:HV) (p:Pk):FM:=((p.od 1).map .int,o::p.mt 1)
noncomputable def y2 (o:HV) (p p':Pk):FM:=((p.od 1).map .int++(p'.od 2).map .int,o::p.mt 1++p'.mt 2)
theorem xp (dc:DC V0 w wa jf jm) {o:HV} (p p':Pk) (hn:3<=n/\n<100) (n1:NM 1 [o]) (n2:NM 2 [o]) (hd:8<=d):DS V0 w jf jm d n (p.ty 1) ([],[o]) (y1 o p)/\DS V0 w jf jm d n (p'.ty 2) (y1 o p) (y2 o p p'):=
 ⟨o7 dc p hn (nl rfl) (nl rfl) n1 hd,o7 dc p' hn (ah (q7 1 p) (nl rfl)) (ah (aX (Fl 1 p)) (nl rfl)) (by
  have h:=λ {k} (h1:ew k [o]=some false) (h2:ew k (p.mt 1)=some false)=>rC h1 h2;exact⟨h n2.g (by rcases p with _|_<;>rfl),h n2.h (by rcases p with _|_<;>rfl),h n2.k (by rcases p with _|_<;>rfl)⟩) hd⟩
theorem CW (dc:DC V0 w wa jf jm) (t:TT) (hn:4<=n/\n<100) (hd:13<=d):∃M,DS V0 w jf jm d n t.v ([],[]) (t.od.map .int,M):=by
 have hn0:0<n/\n<100:=⟨Int.lt_of_lt_of_le (by decide) hn.1,hn.2⟩
 have hn1:3<=n - 1/\n - 1<100:=⟨by lia,by lia⟩
 match t with
 | .un=>exact⟨_,zF hn0 (nl rfl) (ah (by decide) hd)⟩
 | .ty .a p _=>exact⟨_,DM (m:=8) hn0 (nl rfl) (ah (by decide) hd) λ d hd=>o7 dc p hn1 (nl rfl) (nl rfl) ⟨rfl,rfl,rfl⟩ hd⟩
 | .ty .s p p'=>
  have h:=λ d hd=>xp (d:=d) dc (o:=iH 106 [] [p.ty 1,p'.ty 2]) p p' hn1 ⟨rfl,rfl,rfl⟩ ⟨rfl,rfl,rfl⟩ hd;have k:=lg (m:=5) (x:=([],[])) (d:=d) (n:=n) dc (.adt2 106 (p.t 1) (p'.t 2)) (lj _ p p') rfl rfl dc.wf.g3 dc.wf.v3 (nl rfl) (λ U=>[fld 107 (p.ty 1),fld 108 (p'.ty 2)]) (yS ([],[iH 106 [] [p.ty 1,p'.ty 2]]) (y1 (iH 106 [] [p.ty 1,p'.ty 2]) p) (y2 (iH 106 [] [p.ty 1,p'.ty 2]) p p')) ?_ hn0 (nl rfl) rfl (zd (.ty .s p p')) (nl rfl) (ah (nl rfl) hd) (λ U=>nl rfl) rfl ?_ ?_
  ·rw[show(TT.ty .s p p').od.map HV.int=(p.od 1).map .int++(p'.od 2).map .int from List.map_append];exact⟨_,k⟩
  ·intro k d V K hk hd hs q;refine zY hk ?_;exact fJ (fs:=[(107, .par 104),(108, .par 105)]) dc.wf dc.t1 hs rfl dc.wf.g3 dc.wf.v3 (nl rfl) rfl dc.wf.f3 (nl rfl) rfl rfl (nl rfl) (nl rfl) rfl rfl rfl rfl (Ak (P:=λ u=>u.ht<=2/\u.regs.all isStr=true) ⟨by decide,rfl⟩ ⟨by decide,rfl⟩) hd q
  ·intro k hk;refine zY hk ?_;exact rfl
  ·intro k i v d hk hi hd;revert hi;refine zY hk λ hi=>?_;exact FQ hi ⟨_,_,rfl,(h d (ah (nl rfl) hd)).1⟩ ⟨_,_,rfl,(h d (ah (nl rfl) hd)).2⟩
 | .ty .e p p'=>
  have h:=λ d hd=>xp (d:=d) dc (o:=iH 112 [] [p.ty 1,p'.ty 2]) p p' hn1 ⟨rfl,rfl,rfl⟩ ⟨rfl,rfl,rfl⟩ hd;have k:=lg (m:=5) (x:=([],[])) (d:=d) (n:=n) dc (.adt2 112 (p.t 1) (p'.t 2)) (lj _ p p') rfl rfl dc.wf.g4 dc.wf.v4 (nl rfl) (fE (p.ty 1) (p'.ty 2)) (yE ([],[iH 112 [] [p.ty 1,p'.ty 2]]) (y1 (iH 112 [] [p.ty 1,p'.ty 2]) p) (y2 (iH 112 [] [p.ty 1,p'.ty 2]) p p')) ?_ hn0 (nl rfl) rfl (zd (.ty .e p p')) (nl rfl) (ah (nl rfl) hd) (λ k=>by rcases k with _|_<;>exact nl rfl) rfl ?_ ?_
  ·rw[show(TT.ty .e p p').od.map HV.int=(p.od 1).map .int++(p'.od 2).map .int from List.map_append];exact⟨_,k⟩
  ·intro k d V K hk hd hs q;revert q;refine Hb hk (λ q=>?_) λ q=>?_
   ·exact fJ (fs:=[(110, .par 104)]) dc.wf dc.t1 hs rfl dc.wf.g4 dc.wf.v4 (nl rfl) rfl dc.wf.f4 (nl rfl) rfl rfl (nl rfl) (nl rfl) rfl rfl rfl rfl (pq (P:=λ u=>u.ht<=2/\u.regs.all isStr=true) ⟨by decide,rfl⟩) hd q
   ·exact fJ (fs:=[(110, .par 105)]) dc.wf dc.t1 hs rfl dc.wf.g4 dc.wf.v4 (nl rfl) rfl dc.wf.f5 (nl rfl) rfl rfl (nl rfl) (nl rfl) rfl rfl rfl rfl (pq (P:=λ u=>u.ht<=2/\u.regs.all isStr=true) ⟨by decide,rfl⟩) hd q
  ·intro k hk;refine Hb hk ?_ ?_
   ·exact rfl
   ·exact rfl
  ·intro k i v d hk hi hd;revert hi;refine Hb hk (λ hi=>?_) λ hi=>?_
   ·exact z0 hi ⟨_,_,rfl,(h d (ah (nl rfl) hd)).1⟩
   ·exact z0 hi ⟨_,_,rfl,(h d (ah (nl rfl) hd)).2⟩
theorem uB (wf:WF V0 w wa) (t0:V0[0]? =some (.tab 7)) (t1:V0[1]? =some (.tab 11)) (hs:bt V0 V) (hf:V0.length<=jf) (ef:V[jf]? =some (.list [])) (t:TT) (hn:4<=n/\n<100) (hd:14<=d)
  (q:∀V',SB jf V V'->V'[jf]? =some (.list (t.od.map .int))->K .none V'):hW bg d 51 [t.v, .obj 6 w, .ref jf, .int n] [] V K:=
 aP [.val t.v, .val (.obj 6 w), .val (.ref jf), .val (.int n)] rfl rfl rfl hd λ d hd=>⟨nl rfl,aR _ rfl λ V1 s1 e1 l1=>
  ce (CW (n:=n) (jm:=V.length) ⟨wf,t0,t1,hf,hs.len,aH (br ef)⟩ t hn hd) λ _ h=>h V1 _ ⟨hs.trans s1,s1 _ _ ef,e1⟩ λ V2 h2 f2=>q V2 (λ i o ni e=>f2 i o ni (aH (br e)) (s1 _ _ e)) h2.f⟩
end
noncomputable def G3 (L:Nat):WA where
 ja:=L+1
 j4:=L+2
 j5:=L+3
 j6:=L+4
 ji:=L+5
 j8:=L+6
 j9:=L+7
 i:=L+29
 jm:=L+27
 jh:=L+28
 g:=λ |0=>L+15|1=>L+17|2=>L+19|3=>L+22|_=>L+26
 v:=λ |1=>L+16|2=>L+18|3=>L+21|_=>L+25
 f:=λ |1=>L+9|2=>L+11|3=>L+20|4=>L+23|_=>L+24
section
variable{V:aF} {K:KV} {d:Nat}
theorem vT {L:Nat} {F:aF->Prop} (hL:V.length=L) (hd:1<=d) (q:∀V',bt V V'->V'[L]? =some (.dict (G3 L).w)->V'[L+1]? =some (.dict [])->V'[L+5]? =some (.list [])->V'.length=L+8->F V') (V1:aF) (s1:bt V V1) (e1:V1[L]? =some (.dict [])) (l1:V1.length=L+1):hW bg d 66 [.obj 6 L, .none] [] V1 λ v V2=>v= .none/\F V2:=
 aP [.val (.obj 6 L), .val .none] rfl rfl rfl hd λ d hd=>by
 refine dK e1 rfl rfl (nl rfl) λ V2 s2 e2 l2=>⟨nl rfl,i3 e2 (l2.trans l1) rfl rfl (nl rfl) λ V3 s3 e3 a3 l3=>?_⟩;refine⟨nl rfl,i3 e3 l3 rfl rfl (nl rfl) λ V4 s4 e4 a4 l4=>⟨nl rfl,i3 e4 l4 rfl rfl (nl rfl) λ V5 s5 e5 a5 l5=>⟨nl rfl,i3 e5 l5 rfl rfl (nl rfl) λ V6 s6 e6 a6 l6=>⟨nl rfl,i3 e6 l6 rfl rfl (nl rfl) λ V7 s7 e7 a7 l7=>?_⟩⟩⟩⟩;refine⟨nl rfl,i3 e7 l7 rfl rfl (nl rfl) λ V8 s8 e8 a8 l8=>⟨nl rfl,i3 e8 l8 rfl rfl (nl rfl) λ V9 s9 e9 a9 l9=>⟨rfl,?_⟩⟩⟩;have t7:=s8.trans s9;have t3:=s4.trans (s5.trans (s6.trans (s7.trans t7)));exact q V9 (s1.upd (s2.trans (s3.trans t3)) (hL▸ai _)) e9 (t3 _ _ (cb (b:=0) rfl) a3) (t7 _ _ (cb (b:=0) rfl) a7) l9
theorem jA {F:aF->Prop} {j p:Nat} {rs ps:List HV} {jv:Nat} {en:Bool} (hj:V.length=j) (hd:1<=d) (q:∀V',bt V V'->V'[j]? =some (.dict (sT p rs ps jv en))->V'.length=j+1->F V') (V1:aF) (s1:bt V V1) (e1:V1[j]? =some (.dict [])) (l1:V1.length=j+1):hW bg d 64 [.obj 4 j, .str p, .t rs, .t ps, .ref jv, .bool en] [] V1 λ v V2=>v= .none/\F V2:=
 aP [.val (.obj 4 j), .val (.str p), .val (.t rs), .val (.t ps), .val (.ref jv), .val (.bool en), .val (.str 86), .val (.t [])] rfl rfl rfl hd λ d hd=>by
 refine dK e1 rfl rfl (nl rfl) λ V2 s2 e2 l2=>dK e2 rfl rfl (nl rfl) λ V3 s3 e3 l3=>dK e3 rfl rfl (nl rfl) λ V4 s4 e4 l4=>dK e4 rfl rfl (nl rfl) λ V5 s5 e5 l5=>dK e5 rfl rfl (nl rfl) λ V6 s6 e6 l6=>dK e6 rfl rfl (nl rfl) λ V7 s7 e7 l7=>dK e7 rfl rfl (nl rfl) λ V8 s8 e8 l8=>⟨rfl,?_⟩;exact q V8 (s1.upd (s2.trans (s3.trans (s4.trans (s5.trans (s6.trans (s7.trans s8)))))) (hj▸ai _)) e8 (l8.trans (l7.trans (l6.trans (l5.trans (l4.trans (l3.trans (l2.trans l1)))))))
theorem zT {F:aF->Prop} {j jm jh:Nat} (wa:WA) (hj:V.length=j) (hm:wa.jm=jm) (hh:wa.jh=jh) (hd:1<=d) (q:∀V',bt V V'->V'[j]? =some (.dict wa.im)->V'.length=j+1->F V') (V1:aF) (s1:bt V V1) (e1:V1[j]? =some (.dict [])) (l1:V1.length=j+1):hW bg d 65 [.obj 5 j, .int 0, .t [aG], .ref jm, .str 17, .t [],cz (.adt0 96 aG), .ref jh] [] V1 λ v V2=>v= .none/\F V2:=by
 subst hm hh;refine aP [.val (.obj 5 j), .val (.int 0), .val (.t [aG]), .val (.ref wa.jm), .val (.str 17), .val (.t []), .val (cz (.adt0 96 aG)), .val (.ref wa.jh), .val (.int 0)] rfl rfl rfl hd λ d hd=>?_;refine dK e1 rfl rfl (nl rfl) λ V2 s2 e2 l2=>dK e2 rfl rfl (nl rfl) λ V3 s3 e3 l3=>dK e3 rfl rfl (nl rfl) λ V4 s4 e4 l4=>dK e4 rfl rfl (nl rfl) λ V5 s5 e5 l5=>dK e5 rfl rfl (nl rfl) λ V6 s6 e6 l6=>dK e6 rfl rfl (nl rfl) λ V7 s7 e7 l7=>dK e7 rfl rfl (nl rfl) λ V8 s8 e8 l8=>dK e8 rfl rfl (nl rfl) λ V9 s9 e9 l9=>⟨rfl,?_⟩;exact q V9 (s1.upd (s2.trans (s3.trans (s4.trans (s5.trans (s6.trans (s7.trans (s8.trans s9))))))) (hj▸ai _)) e9 (l9.trans (l8.trans (l7.trans (l6.trans (l5.trans (l4.trans (l3.trans (l2.trans l1))))))))
theorem xG {L p:Nat} {kvs:List (HV×HV)} {v:HV} {F:aF->Prop} {O:aF} (f:SB (L+1) O V) (hw:O[L]? =some (.dict (G3 L).w)) (ha:V[L+1]? =some (.dict kvs)) (hk:bp (.str p) kvs=true) (hl:kvs.length<lim)
  (q:∀V',SB (L+1) V V'->V'[L+1]? =some (.dict (dC (.str p) v kvs))->V'.length=V.length->F V'):dZ bg V 11 (λ o=>nt V v F o (.str p)) (.obj 6 L):=
 .fld (f _ _ (cb (a:=0) rfl) hw) rfl rfl rfl<|putD ha hk hl λ V' s e l=>q V' s e l
set_option maxHeartbeats 2000000 in
theorem yY {L:Nat} (hL:V.length=L) (hd:2<=d) (q:∀V',bt V V'->WF V' L (G3 L)->K (.obj 6 L) V'):hW bg d 71 [] [] V K:=
 aP [.empty, .empty, .empty, .empty, .empty, .empty, .empty, .empty] rfl rfl rfl hd λ d hd=>by
 refine aR L hL<|vT hL hd λ V1 s1 w1 a1 i1 l1=> .t ⟨nl rfl,rfl,?_⟩;refine⟨nl rfl,aR (L+8) l1 λ V2 s2 e2 l2=>⟨nl rfl,aR (L+9) l2 λ V3 s3 e3 l3=>⟨nl rfl,aR (L+10) l3 λ V4 s4 e4 l4=>⟨nl rfl,aR (L+11) l4 λ V5 s5 e5 l5=>⟨nl rfl,aR (L+12) l5 λ V6 s6 e6 l6=>?_⟩⟩⟩⟩⟩;refine xW (L+13) l6 (s6 _ _ (s5 _ _ e4)) e6 (nl rfl) λ V7 s7 e7 l7=> .l e7 (nl rfl) ⟨4, .l e7 ?_⟩;have f7:SB (L+1) V1 V7:=(s2.trans (s3.trans (s4.trans (s5.trans (s6.trans s7))))).sb;have a7:=s7 _ _ (s6 _ _ (s5 _ _ (s4 _ _ (s3 _ _ (s2 _ _ a1)))));refine eP .none .none rfl rfl ⟨nl rfl,aR (L+14) l7 λ V8 s8 e8 l8=>aR (L+15) l8<|jA (j:=L+15) l8 hd λ V9 s9 e9 l9=>?_⟩;have f9:=f7.trans (s8.trans s9).sb;refine xG f9 w1 (s9 _ _ (s8 _ _ a7)) rfl (nl rfl) λ V10 s10 e10 l10=>?_;have f10:=f9.trans s10;refine .l (s10 _ _ (cb rfl) (s9 _ _ (s8 _ _ e7))) ?_;refine eP (some _) (some _) rfl rfl ⟨nl rfl,aR (L+16) (l10.trans l9) λ V11 s11 e11 l11=>aR (L+17) l11<|jA (j:=L+17) l11 hd λ V12 s12 e12 l12=>?_⟩;have f12:=f10.trans (s11.trans s12).sb;refine xG f12 w1 (s12 _ _ (s11 _ _ e10)) rfl (nl rfl) λ V13 s13 e13 l13=>?_;have f13:=f12.trans s13;refine .l (s13 _ _ (cb rfl) (s12 _ _ (s11 _ _ (s10 _ _ (cb rfl) (s9 _ _ (s8 _ _ e7)))))) ?_;refine eP (some _) (some _) rfl rfl ⟨nl rfl,aR (L+18) (l13.trans l12) λ V14 s14 e14 l14=>aR (L+19) l14<|jA (j:=L+19) l14 hd λ V15 s15 e15 l15=>?_⟩;have f15:=f13.trans (s14.trans s15).sb;refine xG f15 w1 (s15 _ _ (s14 _ _ e13)) rfl (nl rfl) λ V16 s16 e16 l16=>?_;have f16:=f15.trans s16;refine .l (s16 _ _ (cb rfl) (s15 _ _ (s14 _ _ (s13 _ _ (cb rfl) (s12 _ _ (s11 _ _ (s10 _ _ (cb rfl) (s9 _ _ (s8 _ _ e7))))))))) ?_;refine .t ⟨nl rfl,rfl,⟨nl rfl,aR (L+20) (l16.trans l15) λ V17 s17 e17 l17=>⟨nl rfl,aR (L+21) l17 λ V18 s18 e18 l18=>aR (L+22) l18<|jA (j:=L+22) l18 hd λ V19 s19 e19 l19=>?_⟩⟩⟩;have f19:=f16.trans (s17.trans (s18.trans s19)).sb;refine xG f19 w1 (s19 _ _ (s18 _ _ (s17 _ _ e16))) rfl (nl rfl) λ V20 s20 e20 l20=>?_;have f20:=f19.trans s20;refine⟨nl rfl,aR (L+23) (l20.trans l19) λ V21 s21 e21 l21=>⟨nl rfl,aR (L+24) l21 λ V22 s22 e22 l22=>⟨nl rfl,aR (L+25) l22 λ V23 s23 e23 l23=>aR (L+26) l23<|jA (j:=L+26) l23 hd λ V24 s24 e24 l24=>?_⟩⟩⟩;have f24:=f20.trans (s21.trans (s22.trans (s23.trans s24))).sb;refine xG f24 w1 (s24 _ _ (s23 _ _ (s22 _ _ (s21 _ _ e20)))) rfl (nl rfl) λ V25 s25 e25 l25=>?_;have f25:=f24.trans s25;refine .fld (f25 _ _ (cb (a:=0) rfl) w1) rfl rfl rfl<| .l (f25 _ _ (cb rfl) i1) rfl rfl ⟨nl rfl,aR (L+27) (l25.trans l24) λ V26 s26 e26 l26=>⟨nl rfl,aR (L+28) l26 λ V27 s27 e27 l27=>aR (L+29) l27<|zT (j:=L+29) (G3 L) l27 rfl rfl hd λ V28 s28 e28 l28=>?_⟩⟩;have t28:=s26.trans (s27.trans s28);refine dB (t28 _ _ (f25 _ _ (cb rfl) i1)) (nl rfl) λ V29 s29 e29 U=>?_;have g:∀{k ho},Nat.beq k 1=false->Nat.beq k 5=false->V25[L+k]? =some ho->V29[L+k]? =some ho:=λ n1 n5 e=>s29 _ _ (cb n5) (t28 _ _ e);have t24:=s24.sb.trans s25;have t23:=s23.sb.trans t24;have t22:=s22.sb.trans t23;have t21:=s21.sb.trans t22;have t20:=s20.trans t21;have t19:=s19.sb.trans t20;have t18:=s18.sb.trans t19;have t17:=s17.sb.trans t18;have t16:=s16.trans t17;have t15:=s15.sb.trans t16;have t14:=s14.sb.trans t15;have t13:=s13.trans t14;have t12:=s12.sb.trans t13;have t11:=s11.sb.trans t12;have t10:=s10.trans t11;have t8:=(s8.trans s9).sb.trans t10;have t5:=(s6.trans s7).sb.trans t8;have t3:=(s4.trans s5).sb.trans t5;refine q V29 (λ i ho e=>?_) ⟨g (k:=0) rfl rfl (f25 _ _ (cb (a:=0) rfl) w1),s29 _ _ (cb rfl) (t28 _ _ e25),e29,s29 _ _ (cb rfl) e28,g rfl rfl (t13 _ _ (cb rfl) e12),g rfl rfl (t16 _ _ (cb rfl) e15),g rfl rfl (t20 _ _ (cb rfl) e19),g rfl rfl (s25 _ _ (cb rfl) e24),
  g rfl rfl (t12 _ _ (cb rfl) e11),g rfl rfl (t15 _ _ (cb rfl) e14),g rfl rfl (t19 _ _ (cb rfl) e18),g rfl rfl (t24 _ _ (cb rfl) e23),g rfl rfl ((s4.sb.trans ((s5.sb.trans t5))) _ _ (cb rfl) e3),g rfl rfl (t5 _ _ (cb rfl) e5),g rfl rfl (t18 _ _ (cb rfl) e17),g rfl rfl (t22 _ _ (cb rfl) e21),g rfl rfl (t23 _ _ (cb rfl) e22)⟩
 have hi:i<L:=hL▸br e;exact s29 _ _ (aH (aw hi (ay _ _))) (t28 _ _ (f25 _ _ (aH (aw hi (ay _ _))) (s1 _ _ e)))
end
theorem ud {p q:Prop} [Decidable p] [Decidable q] {a b:Bool} (h:p↔q):(if p then a else b)=if q then a else b:=by
 by_cases hp:p
 ·rw[if_pos hp,if_pos (h.mp hp)]
 ·rw[if_neg hp,if_neg λ hq=>hp (h.mpr hq)]
theorem fU (x:Bool):(fs x).length<=1:=by cases x<;>exact nl rfl
theorem yu (x:Bool):cA ([]++fs x)=fs x:=by cases x<;>rfl
theorem Ge (x:Bool):(!(fs x==fs false))=x:=by cases x<;>rfl
noncomputable def lN (m:Nat):List HV:=(List.range m).map λ i:Nat=>HV.int i
theorem n9 (m:Nat):lN (m+1)=lN m++[.int m]:=by unfold lN;rw[List.range_succ,List.map_append];rfl
theorem xz (m:Nat):(lN m).length=m:=by unfold lN;rw[List.length_map,List.length_range]
theorem nO {r:List HV} {i:Int} {l:List Int} (h:cr r=some l):cr (.int i::r)=some (i::l):=by
 have:cr (.int i::r)=(match cr r with|some l=>some (i::l)| .none=> .none):=rfl
 rw[this,h]
theorem vW {m:List Nat}:cr (m.map λ i:Nat=>HV.int i)=some (m.map Int.ofNat):=by
 induction m with
 |nil=>rfl
 |cons x m ih=>exact nO ih
theorem u6 (m:Nat):∃l,cr (lN m)=some l/\(l==[])=(m==0):=⟨_,vW,by
 rcases m with _|m
 ·rfl
 ·exact beq_eq_false_iff_ne.mpr λ e=>eO m ((by rw[List.length_map,List.length_range]:(List.map Int.ofNat (List.range (m+1))).length=m+1).symm.trans (am List.length e))⟩
theorem tq (n:Nat):dq 0 1 n=lN n:=List.ext_getElem? λ k=>by
 rw[iA];unfold lN;rw[List.getElem?_map];by_cases h:k<n
 ·rw[if_pos h,List.getElem?_range h,Int.zero_add,Int.one_mul];rfl
 ·rw[if_neg h,List.getElem?_eq_none (by rw[List.length_range];exact Nat.not_lt.mp h)];rfl
theorem vm (k:Nat):∀m,ew (.int k) (lN m)=some (decide (k<m)):=by
 have key:∀l:List Nat,ew (.int k) (l.map λ i:Nat=>HV.int i)=some (decide (k∈l)):=λ l=>by
  induction l with
  |nil=>rfl
  |cons x l ih=>
   refine(jK (b:=decide ((x:Int)=k)) rfl ih).trans (am some ?_);rw[<- Bool.decide_or];exact dT.mpr ⟨λ h=>h.elim (λ e=>wC.mp e▸ .head _) (.tail _),λ h=>(aB.mp h).elim (λ e=> .inl (e▸rfl)) .inr⟩
 intro m;refine(key _).trans (am some (dT.mpr cy))
theorem rD (x:HV):∀n,zu [x] n=List.replicate n x
 |0=>rfl
 |n+1=>am (x::·) (rD x n)
noncomputable def kz (n:Nat) (sv:HV) (G:Option Ev->Bool->Bool) (bs:List (List Ev)) (V:aF):Prop:=∀d,n<=d->∀(x:Bool) (b i:Nat) (e:List Ev) (V':aF) (K:KV),bs[b]? =some e->i<=e.length->bt V V'->
 K (.w (fs (G (fC bs b i) x))) V'->Ek bg (hW bg d) sv [.w (fs x), .int b, .int i] V' K
noncomputable def ue (G:Option Ev->Bool->Bool) (ws:List Ev) (bs:List (List Ev)) (m:Nat):List HV:=(List.range bs.length).map λ b=> .w (fs (if m<=b then jQ G ws (fi bs b) else false))
section
variable{V:aF} {K:KV} {d n m b:Nat} {B:BL} {told sv:HV} {bs:List (List Ev)} {ra:RA} {ws:List Ev} {G:Option Ev->Bool->Bool}
theorem kz.mono {V':aF} (h:kz n sv G bs V) (k:bt V V'):kz n sv G bs V':=λ d hd x b i e V2 K h1 h2 h3=>h d hd x b i e V2 K h1 h2 (k.trans h3)
theorem gf (h:b<bs.length):(ue G ws bs m)[b]? =some (.w (fs (if m<=b then jQ G ws (fi bs b) else false))):=eM h
theorem hH:(ue G ws bs m).length=bs.length:=by unfold ue;rw[List.length_map,List.length_range]
theorem xC {a c:Nat} (h:(if a<=b then jQ G ws (fi bs b) else false)=if c<=b then jQ G ws (fi bs b) else false):(ue G ws bs a)[b]? =(ue G ws bs c)[b]? :=by
 by_cases hb:b<bs.length
 ·rw[gf hb,gf hb,h]
 ·rw[List.getElem?_eq_none (Nat.le_trans (Nat.le_of_eq hH) (Nat.not_lt.mp hb)),List.getElem?_eq_none (Nat.le_trans (Nat.le_of_eq hH) (Nat.not_lt.mp hb))]
theorem A7 (h:m<bs.length):(ue G ws bs (m+1)).set m (.w (fs (jQ G ws (fi bs m))))=ue G ws bs m:=by
 refine List.ext_getElem? λ b=>?_;by_cases hm:m=b
 ·rw[<- hm,List.getElem?_set_self (by rw[hH];exact h),gf h,if_pos (Nat.le_refl _)]
 ·rw[List.getElem?_set_ne hm];exact xC (ud ⟨Nat.le_of_succ_le,λ h=>jH h hm⟩)
theorem yG (h2:jQ G ws (fi bs m)=false):ue G ws bs (m+1)=ue G ws bs m:=by
 refine List.ext_getElem? λ b=>xC ?_;by_cases hm:m=b
 ·rw[<- hm,h2,ite_self,ite_self]
 ·exact ud ⟨Nat.le_of_succ_le,λ h=>jH h hm⟩
theorem zo:List.replicate bs.length (HV.w [])=ue G ws bs bs.length:=List.ext_getElem? λ b=>by
 by_cases hb:b<bs.length
 ·rw[gf hb,if_neg (Nat.not_le.mpr hb),List.getElem?_replicate,if_pos hb];rfl
 ·rw[List.getElem?_eq_none (by rw[List.length_replicate];exact Nat.not_lt.mp hb),List.getElem?_eq_none (Nat.le_trans (Nat.le_of_eq hH) (Nat.not_lt.mp hb))]
theorem EH {i L:Nat} {x:HV} (k:Nat) (hk:V.length=k) (hi:V[i]? =some (.list [x])) (hL:L<100) (h:∀V',bt V V'->V'[k]? =some (.list (List.replicate L x))->V'.length=k+1->K (.ref k) V'):dh V K .mul (.ref i) (.int L):=
 .rep hi (dj _) (Int.ofNat_lt.mpr hL) (nl rfl) (aR k hk (rD x L▸h)).h
theorem vJ {a b:List Int} (h:a.length+b.length<=4) (hd:1<=d) (q:K (.w (cA (a++b))) V):hW bg d 22 [.w a, .w b] [] V K:=
 aP [.val (.w a), .val (.w b)] rfl rfl rfl hd λ d hd=> .bor h q
theorem nK (h:bR V B told bs ra) {jf:Nat} {xs:List HV} {x:Bool} (hb:b<bs.length) (hf:V[jf]? =some (.list xs)) (hl:xs.length<lim) (hx:b+1<bs.length->xs[b+1]? =some (.w (fs x))) (hd:2<=d)
  (q:∀V',bt V V'->K (.w (fs (if b+1<bs.length then x else false))) V'):hW bg d 26 [.obj 0 B.i, .ref jf, .int b, .w [], .fn 22] [] V K:=
 aP [.val (.obj 0 B.i), .val (.ref jf), .val (.int b), .val (.w []), .val (.fn 22), .empty, .empty] rfl rfl rfl hd λ d hd=>by
 have p:=h.pt (ak hb) (aO _);refine dZ.fld p.obj rfl rfl rfl<|cB p.blk p.bll p.hb<| .l p.h1 (nl rfl) rfl rfl<|pe _ _ hd λ j V1 s1 l1 e1=>?_;unfold Et at e1;by_cases hb1:b+1<bs.length
 ·rw[if_pos hb1] at e1;refine .l e1 (nl rfl) ⟨2, .l e1<|cB (k:=b+1) (s1 _ _ hf) hl (hx hb1)<|vJ (ah (dz (ai 0) (fU x)) (nl rfl)) hd<| .l e1 ?_⟩;have q:=q V1 s1;rw[if_pos hb1] at q;rw[yu];exact q
 ·rw[if_neg hb1] at e1;have q:=q V1 s1;rw[if_neg hb1] at q;exact .l e1 (nl rfl) ⟨1, .l e1 q⟩
theorem AR (h:bR V B told bs ra) (S:fO ws bs) (st:kz n sv G bs V) (hb:b<bs.length) (hd:n+1<=d) (q:K (.w (fs (jQ G ws (fi bs b)))) V):
  hW bg d 27 [.obj 0 B.i, .w (fs (Ec G ws bs b)), .int b, .int 0,sv] [] V K:=
 aP [.val (.obj 0 B.i), .val (.w (fs (Ec G ws bs b))), .val (.int b), .val (.int 0), .val sv, .empty] rfl rfl rfl hd λ d hd=>by
 have hbk:bs[b]? =some bs[b]:=ak hb;have p:=h.pt hbk (aO _);have hsz:=h.sz.2 _ (ar hbk);refine dZ.fld p.obj rfl rfl rfl<|cB p.blk p.bll p.hb<| .l p.h1 (nl rfl) rfl rfl<| .lenL p.h2 p.ssl<| .sub (cq (by decide)) (cq (by decide)) ?_
 rw[List.length_map];refine E7 (az hsz (by decide)) (λ a:Bool×Option HV=>[.val (.obj 0 B.i), .val (.w (fs a.1)), .val (.int b), .val (.int 0), .val sv,sl a.2]) (λ j a V'=>a.1=CU G ws bs b bs[b].length j/\V=V') (Ec G ws bs b,none) ⟨by unfold CU;rw[if_neg (by lia)],rfl⟩ ?_ ?_
 ·intro j a V' hj ⟨e1,e2⟩ N' q';subst e2;exact bM a.2 rfl<|st d hd _ b j _ V _ hbk hj (bt.refl _)<|q' (_,some (.int j)) V ⟨by rw[mz S hbk hj,e1],rfl⟩
 ·intro a V' ⟨e1,e2⟩;subst e2;have e3:a.1=jQ G ws (fi bs b):=e1.trans (if_pos (aO _));rw[<- e3] at q;exact q
end
section
variable{V:aF} {K:KV} {d n m b:Nat} {B:BL} {told sv:HV} {bs:List (List Ev)} {ra:RA} {ws:List Ev} {G:Option Ev->Bool->Bool}
theorem rz (h:n<2000):(lN n).length<lim:=by rw[xz];exact h
theorem lu (h:bR V B told bs ra):(ue G ws bs m).length<lim:=by rw[hH];exact az h.sz.1 (by decide)
theorem nN (h:bR V B told bs ra) (S:fO ws bs) (st:kz n sv G bs V) (hd:n+3<=d) (q:∀j V',bt V V'->V.length<=j->V'[j]? =some (.list (ue G ws bs 0))->K (.ref j) V'):hW bg d 28 [.obj 0 B.i, .w [],sv, .fn 22] [] V K:=
 aP [.val (.obj 0 B.i), .val (.w []), .val sv, .val (.fn 22), .empty, .empty, .empty, .empty, .empty, .empty] rfl rfl rfl hd λ d hd=>⟨nl rfl,aR _ rfl λ V1 s1 e1 l1=>dZ.fld (s1 _ _ h.obj) rfl rfl rfl<| .lenL (s1 _ _ h.blk) h.blm<|by
 have hL:=h.sz.1;rw[h.bll];refine EH _ l1 e1 (az hL (by decide)) λ V2 s2 e2 l2=>?_
 rw[zo (G:=G) (ws:=ws)] at e2;have t2:=s1.trans s2;have hd2:2<=d:=by lia
 refine kR (h.mono t2) hd2 λ V3 s3 pr=>?_;have t3:=t2.trans s3;have l3:=br pr.lst;rw[l2] at pr l3 ⊢;refine dZ.fld (t3 _ _ h.obj) rfl rfl rfl<| .lenL (t3 _ _ h.blk) h.blm ?_;rw[h.bll];refine E6 (az hL (by decide)) ?_
 rw[tq];refine⟨rz (az hL (by decide)),aR _ rfl λ V4 s4 e4 l4=>?_⟩
 refine Ix bs.length (λ a:Option HV×Option HV×Option HV=>[.val (.obj 0 B.i), .val (.w []), .val sv, .val (.fn 22), .val (.ref (V.length+1)), .val (.ref (V.length+1+1+bs.length)), .val (.ref V3.length),sl a.1,sl a.2.1,sl a.2.2])
  (λ m U V'=>m<=bs.length/\bt V V'/\V'[V.length+1]? =some (.list (ue G ws bs m))/\V'[V3.length]? =some (.list (lN m))/\qI V' (V.length+1+1+bs.length) (V.length+1+1) bs.length) (none,none,none)
  ⟨ai _,t3.trans s4,s4 _ _ (s3 _ _ e2),e4,pr.mono s4⟩ ?_
 intro m a O hq1 N' q';refine HP hq1 λ hm v1 v2 v3 v4=>?_;refine aU (u6 m) λ il hi hi0=>?_;refine⟨nl rfl,aR _ rfl λ O1 w1 f1 k1=> .ne (.l (w1 _ _ v3) f1 hi rfl) ?_⟩;rw[hi0]
 induction m using Jq with
 |zero=>exact q _ O1 (v1.trans w1) (bG _) (w1 _ _ v2)
 |succ m=>
  have v2:=w1 _ _ v2;have v3:=w1 _ _ v3;have v4:=v4.mono w1;have v1:=v1.trans w1;refine .l v3 rfl rfl<|Dk (v:= .int m) v3 (rz (by lia)) (by rw[n9,List.getLast?_append];rfl) λ O2 x2 e5 U=>eG a.1 rfl ?_
  rw[n9,List.dropLast_concat] at e5;have u1:=v1.upd x2 (by lia)
  have u2:=x2 _ _ (by lia) v2
  have u4:=v4.sb x2 (.inr (by omega))
  have bh:=(h.mono u1).pt (ak hm) (aO _);refine nK (x:=jQ G ws (fi bs (m+1))) (h.mono u1) hm u2 (lu h) (λ hm1=>by rw[gf hm1,if_pos (Nat.le_refl _)]) (by omega) λ O3 x3=>?_
  have u1:=u1.trans x3;refine AR (h.mono u1) S (st.mono u1) hm (by lia)<|eG a.2.1 rfl ?_
  refine cB (k:=m) (x3 _ _ u2) (lu h) (gf hm) ?_;rw[if_neg (Nat.not_succ_le_self m)];refine .ne (.fs (ah (fU _) (nl rfl)) (nl rfl)) ?_;rw[Ge]
  induction hv:jQ G ws (fi bs m) using Jp with
  |false=>exact q' m (some (.int m),some (.w (fs false)),a.2.2) O3 (aI m) ⟨Nat.le_of_succ_le hm,u1,by rw[<- yG hv];exact x3 _ _ u2,x3 _ _ e5,u4.mono x3⟩
  |true=>
   refine putL (j:=m) (x3 _ _ u2) (lu h) (by rw[hH];exact hm) λ O4 x4 e6 U=>?_
   rw[<- hv,A7 hm] at e6;have u5:=(u4.mono x3).sb x4 (.inl (aI _));have u1:=u1.upd x4 (bG _);have u3:=x4 _ _ (by lia) (x3 _ _ e5)
   have fin:∀o,N' [.val (.obj 0 B.i), .val (.w []), .val sv, .val (.fn 22), .val (.ref (V.length+1)), .val (.ref (V.length+1+1+bs.length)), .val (.ref V3.length), .val (.int m), .val (.w (fs true)),sl o] O4:=λ o=>
    q' m (some (.int m),some (.w (fs true)),o) O4 (aI m) ⟨Nat.le_of_succ_le hm,u1,e6,u3,u5⟩
   refine cB (k:=m) u5.lst (d7 (az hL (by decide))) (eM hm) ?_
   have e7:=u5.each m hm
   induction m using Jq with
   |zero=>exact .l e7 (nl rfl) ⟨1, .l e7<|fin _⟩
   |succ m=>
    refine .l e7 (nl rfl) ⟨2, .l e7<|bM a.2.2 rfl<| .notin (t:=true) (.l u3 ((vm m (m+1)).trans (am some (b6 (aI m)))))<| .l e7<|fin (some (.int m))⟩⟩
end
noncomputable def lr (bs:List (List Ev)) (p:Nat×Nat):Prop:=∃e,bs[p.1]? =some e/\p.2<=e.length
noncomputable abbrev Cx (G:Option Ev->Bool->Bool) (ws:List Ev) (bs:List (List Ev)) (p:Nat×Nat):HV:= .w (fs (jQ G ws (pos bs p.1 p.2)))
section
variable{V:aF} {K:KV} {d n m b:Nat} {B:BL} {told sv:HV} {bs:List (List Ev)} {ra:RA} {ws:List Ev} {G:Option Ev->Bool->Bool}
theorem ui (h:bR V B told bs ra) (S:fO ws bs) (st:kz n sv G bs V) {jf:Nat} (hf:V[jf]? =some (.list (ue G ws bs 0))) (hd:n+3<=d)
  (q:∀j V' kvs,bt V V'->V.length<=j->V'[j]? =some (.dict kvs)->PD fy (Cx G ws bs) 500 kvs (lr bs)->K (.ref j) V'):hW bg d 29 [.obj 0 B.i, .ref jf, .w [],sv, .fn 22] [] V K:=
 aP [.val (.obj 0 B.i), .val (.ref jf), .val (.w []), .val sv, .val (.fn 22), .empty, .empty, .empty, .empty] rfl rfl rfl hd λ d hd=>⟨nl rfl,gq<|aR _ rfl λ V1 s1 e1 l1=>dZ.fld (s1 _ _ h.obj) rfl rfl rfl<| .lenL (s1 _ _ h.blk) h.blm<|by
 have hL:=h.sz.1;rw[h.bll];refine mc (az hL (by decide)) (λ a:Option HV×Option HV×Option HV=>[.val (.obj 0 B.i), .val (.ref jf), .val (.w []), .val sv, .val (.fn 22), .val (.ref V.length),sl a.1,sl a.2.1,sl a.2.2])
  (λ k U V'=>bt V V'/\∃kvs,V'[V.length]? =some (.dict kvs)/\PD fy (Cx G ws bs) (k*21) kvs λ p=>p.1<k/\lr bs p) (none,none,none) ⟨s1,[],e1,PD.nil.imp (λ b q=>aN q.1 (a0 _)) (aO _)⟩ ?_ ?_
 ·rintro k a O hk ⟨v1,kvs,v2,v3⟩ N' q';have hbk:bs[k]? =some bs[k]:=ak hk;have hek:=h.sz.2 _ (ar hbk);refine bM a.1 rfl<|nK (x:=jQ G ws (fi bs (k+1))) (h.mono v1) hk (v1 _ _ hf) (lu h) (λ hm1=>by rw[gf hm1,if_pos (Nat.zero_le _)]) (by lia) λ O2 w2=>eG a.2.1 rfl ?_
  have t1:=v1.trans w2;have p:=(h.mono t1).pt hbk (aO _);refine dZ.fld p.obj rfl rfl rfl<|cB p.blk p.bll p.hb<| .l p.h1 (nl rfl) rfl rfl<| .lenL p.h2 p.ssl ?_;rw[List.length_map];refine E7 (az hek (by decide)) (λ c:Bool×Option HV=>[.val (.obj 0 B.i), .val (.ref jf), .val (.w []), .val sv, .val (.fn 22), .val (.ref V.length), .val (.int k), .val (.w (fs c.1)),sl c.2])
   (λ j c V'=>c.1=CU G ws bs k bs[k].length j/\bt V V'/\∃kvs,V'[V.length]? =some (.dict kvs)/\PD fy (Cx G ws bs) (k*21+(bs[k].length+1 - j)) kvs λ p=>(p.1<k/\lr bs p)\/(p.1=k/\j<=p.2/\lr bs p)) (Ec G ws bs k,a.2.2)
   ⟨by unfold CU;rw[if_neg (by lia)],t1,kvs,w2 _ _ v2,v3.imp (λ p q=>q.elim id λ q=>?_) (ay _ _)⟩ ?_ ?_
  ·refine kB q λ q1 q2 hz2=>?_;refine aU hz2 λ e q3 q4=>?_;rw[q1,hbk] at q3;cases q3;lia
  ·rintro j c O3 hj ⟨e1,u1,kvs,u2,u3⟩ N2 q2;have e3:G (fC bs k j) c.1=jQ G ws (pos bs k j):=by rw[e1,<- mz (G:=G) S hbk hj];exact if_pos hj
   refine bM c.2 rfl<|st d (by lia) _ k j _ O3 _ hbk hj u1<|putD (k:=pV k j) u2 (iq.ok (k,j) _ u3.keys) (aj (ah u3.len (dz (hY 21 (bP (az hk hL))) (ah (k7 _ _) hek))) (by decide)) λ O4 w4 e4 U=>q2 (_,some (.int j)) O4 ⟨?_,u1.upd w4 (ai _),_,e4,?_⟩
   ·rw[e1];exact(mz S hbk hj).symm
   ·rw[e3];refine(u3.put iq (k,j)).imp (λ p q=>q.elim (λ q=> .inl (.inl q)) λ q=>?_) (ca (bX (IP (aX hj)).symm) _);by_cases hij:p.2=j
    ·exact .inr (Prod.ext q.1 hij)
    ·exact .inl (.inr ⟨q.1,by lia,q.2.2⟩)
  ·intro c O3 hq3;refine kB hq3 λ e1 u1 hz2=>?_;refine aU hz2 λ kvs u2 u3=>?_;refine q' (some (.int k),some (.w (fs c.1)),c.2) O3 ⟨u1,kvs,u2,u3.imp (λ p q=>?_) (by rw[Nat.succ_mul];exact ca (ah hek (by decide)) _)⟩
   by_cases hbk2:p.1=k
   ·exact .inr ⟨hbk2,aO _,q.2⟩
   ·exact .inl ⟨jH (bC q.1) hbk2,q.2⟩
 ·intro a O hq4;refine cO hq4 λ v1 hz1=>?_;refine aU hz1 λ kvs v2 v3=>?_;exact q _ O kvs v1 (ai _) v2 (v3.imp (λ p q=>⟨dI q.choose_spec.1,q⟩) (ah (hY 21 (bP hL)) (by decide)))⟩
end
noncomputable def Gu:Option Ev->Bool->Bool
 |some .set,_=>false
 |some .use,_=>true
 |some .part,_=>true
 |_,x=>x
noncomputable def Gd:Option Ev->Bool->Bool
 |some .set,_=>false
 |some .drop,_=>true
 |_,x=>x
noncomputable abbrev Pp:=Nat×Nat
noncomputable def DA (V:aF) (a:Nat) (g:Pp->HV) (n:Nat) (S:Pp->Prop):Prop:=∃kvs,V[a]? =some (.dict kvs)/\PD fy g n kvs S
section
variable{V:aF} {a n:Nat} {g:Pp->HV} {S:Pp->Prop} {p:Pp}
theorem DA.mono {V':aF} (h:DA V a g n S) (k:bt V V'):DA V' a g n S:=h.imp λ U h=>⟨k _ _ h.1,h.2⟩
theorem DA.sb {V':aF} {i:Nat} (h:DA V a g n S) (k:SB i V V') (hi:a≠i):DA V' a g n S:=h.imp λ U h=>⟨k _ _ hi h.1,h.2⟩
theorem DA.imp {S':Pp->Prop} {m:Nat} (h:DA V a g n S) (i:∀a,S' a->S a) (hn:n<=m):DA V a g m S':=Exists.imp (λ U h=>⟨h.1,h.2.imp i hn⟩) h
theorem DA.new (h:V[a]? =some (.dict [])):DA V a g 0 λ U=>False:=⟨[],h,PD.nil⟩
theorem DA.sub {F:HV->Prop} (h:DA V a g n S) (hp:S p) (q:F (g p)):bj V F (.ref a) (fy p):=aU h λ _ h1 h2=> .dct h1 (iq.ok p _ h2.keys) (h2.get p hp) q
theorem DA.put {F:aF->Prop} {v:HV} (h:DA V a g n S) (p:Pp) (hv:g p=v) (hn:n<1999) (q:∀V',SB a V V'->DA V' a g (n+1) (λ c=>S c\/c=p)->V'.length=V.length->F V'):nt V v F (.ref a) (fy p):=
 aU h λ _ h1 h2=>hv▸putD h1 (iq.ok p _ h2.keys) (aj h2.len (az hn (by decide))) λ V' s e l=>q V' s ⟨_,e,h2.put iq p⟩ l
end
noncomputable def A3 (a1 a2 a3:Nat) (r:List (HV×HV)):List (HV×HV):=(.str 75, .ref a1)::(.str 76, .ref a2)::(.str 77, .ref a3)::r
noncomputable abbrev IC (bs:List (List Ev)) (p:Pp):HV:= .w (GX (fC bs p.1 p.2))
noncomputable abbrev Iz (bs:List (List Ev)) (p:Pp):HV:= .w (GS (fC bs p.1 p.2))
noncomputable abbrev HJ (bs:List (List Ev)) (p:Pp):HV:= .w (GA (fC bs p.1 p.2))
theorem yU (κ:Option Ev):(GX κ).length<=1:=by induction κ using qx<;>exact nl rfl
theorem x5 (κ:Option Ev):(GS κ).length<=1:=by induction κ using qx<;>exact nl rfl
theorem sV (κ:Option Ev):(GA κ).length<=1:=by induction κ using qx<;>exact nl rfl
theorem wi {l:List Int} (h:l.length<=1):cA l=l:=GJ h rfl λ _=>rfl
theorem cg (l:List Int):cr (l.map .int)=some l:=by
 induction l with
 |nil=>rfl
 |cons x l ih=>exact nO ih
theorem Dt (κ:Option Ev) (x:Bool):cA (eF (fs x) (GA κ)++GX κ)=fs (Gu κ x):=by revert x;induction κ using qx<;>decide
theorem AZ (κ:Option Ev) (x:Bool):cA (eF (fs x) (GA κ)++GS κ)=fs (Gd κ x):=by revert x;induction κ using qx<;>decide
section
variable{V:aF} {K:KV} {d n b:Nat} {B:BL} {told:HV} {bs:List (List Ev)} {ra:RA} {ws:List Ev}
theorem Bl {a c:List Int} (ha:a.length<=1) (hc:c.length<=1) (q:K (.w (eF a c)) V):dh V K .sub (.w a) (.w c):=
 .fsub (aj hc (by decide)) (ah ha (by decide)) (by rw[Nat.div_eq_of_lt (Nat.lt_of_le_of_lt ha (by decide)),decide_eq_true (Nat.zero_le _)];rfl) q
theorem Go {a c:List Int} (ha:a.length<=1) (hc:c.length<=1) (q:K (.w (cA (a++c))) V):dh V K .bor (.w a) (.w c):= .bor (ah (dz ha hc) (by decide)) q
theorem og {a c:List Int} (h:a.length<=1):(eF a c).length<=1:=ah (List.length_filter_le _ _) h
theorem tN {iL a1 a2 a3:Nat} {r:List (HV×HV)} (D1:DA V a1 (IC bs) n (lr bs)) (D3:DA V a3 (HJ bs) n (lr bs)) (hr:(r.all λ p=>isStr p.1)=true) (hi:V[iL]? =some (.dict (A3 a1 a2 a3 r))):kz 1 (.meth 60 3 iL) Gu bs V:=λ d hd x b i e V' K hb hie hs q=>
 aP [.val (.obj 3 iL), .val (.w (fs x)), .val (.int b), .val (.int i)] rfl rfl rfl hd λ d hd=>dZ.fld (hs _ _ hi) hr rfl rfl<|(D3.mono hs).sub (p:=(b,i)) ⟨e,hb,hie⟩<|Bl (fU x) (sV _)<|dZ.fld (hs _ _ hi) hr rfl rfl<|(D1.mono hs).sub (p:=(b,i)) ⟨e,hb,hie⟩<|Go (og (fU x)) (yU _)<|by
  rw[Dt];exact q
theorem qP {iL a1 a2 a3:Nat} {r:List (HV×HV)} (D1:DA V a2 (Iz bs) n (lr bs)) (D3:DA V a3 (HJ bs) n (lr bs)) (hr:(r.all λ p=>isStr p.1)=true) (hi:V[iL]? =some (.dict (A3 a1 a2 a3 r))):kz 1 (.meth 61 3 iL) Gd bs V:=λ d hd x b i e V' K hb hie hs q=>
 aP [.val (.obj 3 iL), .val (.w (fs x)), .val (.int b), .val (.int i)] rfl rfl rfl hd λ d hd=>dZ.fld (hs _ _ hi) hr rfl rfl<|(D3.mono hs).sub (p:=(b,i)) ⟨e,hb,hie⟩<|Bl (fU x) (sV _)<|dZ.fld (hs _ _ hi) hr rfl rfl<|(D1.mono hs).sub (p:=(b,i)) ⟨e,hb,hie⟩<|Go (og (fU x)) (x5 _)<|by
  rw[AZ];exact q
structure nB (V:aF) (iL:Nat) (ws:List Ev) (bs:List (List Ev)):Prop where
 h:∃a1 a2 a3 ju jd,V[iL]? =some (.dict (A3 a1 a2 a3 [(.str 80, .ref ju),(.str 81, .ref jd)]))/\DA V ju (Cx Gu ws bs) 500 (lr bs)/\DA V jd (Cx Gd ws bs) 500 (lr bs)
theorem gU {k:Nat} {p c:Pp} (h:(gW bs)[k]? =some p) (hc:c∈(gW bs).take (k+1)):c∈(gW bs).take k\/c=p:=by
 rw[List.take_add_one,h] at hc;exact(aY.mp hc).imp id al.mp
theorem hV {p:Pp} (h:lr bs p):p∈(gW bs).take (gW bs).length:=by rw[List.take_length];exact jn.mpr h
theorem Ci {j:Nat} {l:List Int} (hj:V[j]? =some (.list (l.map .int))) (hl:l.length<=1) (q:K (.w l) V):eU V K .frozenset [.ref j]:=
 .fsL hj (cg l) (aj hl (by decide)) (by rw[wi hl];exact q)
theorem gH (h:bR V B told bs ra):(gW bs).length<400:=uJ h (ai _)
theorem Aw {F:aF->Prop} {L:Nat} (h:bR V B told bs ra) (S:fO ws bs) (hL:V.length=L) (hd:5<=d) (q:∀V',bt V V'->nB V' L ws bs->F V') (V1:aF) (s1:bt V V1) (e1:V1[L]? =some (.dict [])) (l1:V1.length=L+1):hW bg d 59 [.obj 3 L, .obj 0 B.i] [] V1 λ v V2=>v= .none/\F V2:=
 aP [.val (.obj 3 L), .val (.obj 0 B.i), .empty, .empty, .empty] rfl rfl rfl hd λ d hd=>by
 have hd1:1<=d:=ah (by decide) hd
 refine⟨nl rfl,gq<|aR (L+1) l1 λ V2 s2 e2 l2=>⟨nl rfl,gq<|aR (L+2) l2 λ V3 s3 e3 l3=>⟨nl rfl,gq<|aR (L+3) l3 λ V4 s4 e4 l4=>cw.t ⟨nl rfl,rfl,?_⟩⟩⟩⟩;refine dK (s4 _ _ (s3 _ _ (s2 _ _ e1))) rfl rfl (nl rfl) λ V5 s5 e5 U=>dK e5 rfl rfl (nl rfl) λ V6 s6 e6 U=>dK e6 rfl rfl (nl rfl) λ V7 s7 e7 U=>?_;have s57:=s5.trans (s6.trans s7);have hLL:V.length<=L:=bX hL;have t7:bt V V7:=(s1.trans (s2.trans (s3.trans s4))).upd s57 hLL;refine gY (h.mono t7) (ah (by decide) hd) λ j V8 s8 j8 e8=> .l e8 (db (az (gH h) (by decide))) ?_
 refine qA (λ a:Option HV=>[.val (.obj 3 L), .val (.obj 0 B.i),sl a, .empty, .empty])
  (λ k U V'=>bt V V'/\V'[L]? =some (.dict (A3 (L+1) (L+2) (L+3) []))/\V'[j]? =some (.list ((gW bs).map fy))/\DA V' (L+1) (IC bs) k (·∈(gW bs).take k)/\DA V' (L+2) (Iz bs) k (·∈(gW bs).take k)/\DA V' (L+3) (HJ bs) k (·∈(gW bs).take k)) none
  ⟨t7.trans s8,s8 _ _ e7,e8,(DA.new (s8 _ _ (s57 _ _ (cb (b:=0) rfl) (s4 _ _ (s3 _ _ e2))))).imp (λ U h=>ii h) (ai 0),(DA.new (s8 _ _ (s57 _ _ (cb (b:=0) rfl) (s4 _ _ e3)))).imp (λ U h=>ii h) (ai 0),(DA.new (s8 _ _ (s57 _ _ (cb (b:=0) rfl) e4))).imp (λ U h=>ii h) (ai 0)⟩ (λ k a V' i=>i.2.2.1) ?_ ?_
 ·intro k v a O hv hq1 N' q';refine IM hq1 λ v1 v2 v3 D1 D2 D3=>?_;rw[List.getElem?_map] at hv;refine aU (aZ.mp hv) λ p hp rq1=>?_;subst rq1;refine aU (jn.mp (ar hp)) λ e he hie=>?_;have hk:k<1999:=az (dI hp) (az (gH h) (by decide))
  have hj:=s57;have hjL:L+3<j:=aw (br (s57 _ _ (cb (b:=0) rfl) e4)) j8;refine bM a rfl<|AU ((h.mono v1).pt he hie) (ah (by decide) hd) λ j1 O1 w1 U f1=>Ci f1 (yU _)<| .fld (w1 _ _ v2) rfl rfl rfl<|(D1.mono w1).put p rfl hk λ O2 x2 D1 U=>?_
  have v1:=(v1.trans w1).upd x2 (ah hLL (ay _ _));have v2:=x2 _ _ (cb (a:=0) rfl) (w1 _ _ v2);have v3:=x2 _ _ (by lia) (w1 _ _ v3)
  refine sX ((h.mono v1).pt he hie) (ah (by decide) hd)<|aR _ rfl λ O3 w3 f3 U=>Ci f3 (x5 _)<| .fld (w3 _ _ v2) rfl rfl rfl<|((D2.mono w1).sb x2 (cb rfl)|>.mono w3).put p rfl hk λ O4 x4 D2 U=>?_
  have v1:=(v1.trans w3).upd x4 (ah hLL (ay _ _));have v2:=x4 _ _ (cb (a:=0) rfl) (w3 _ _ v2);have v3:=x4 _ _ (by lia) (w3 _ _ v3)
  refine sR ((h.mono v1).pt he hie) (ah (by decide) hd) λ j5 O5 w5 f5=>Ci f5 (sV _)<| .fld (w5 _ _ v2) rfl rfl rfl<|(((D3.mono w1).sb x2 (cb rfl)|>.mono w3).sb x4 (cb rfl)|>.mono w5).put p rfl hk λ O6 x6 D3 U=>?_
  exact q' (some (fy p)) O6 ⟨(v1.trans w5).upd x6 (ah hLL (ay _ _)),x6 _ _ (cb (a:=0) rfl) (w5 _ _ v2),x6 _ _ (by lia) (w5 _ _ v3),(((D1.mono w3).sb x4 (cb rfl)).mono w5|>.sb x6 (cb rfl)).imp (λ c hc=>gU hp hc) (ai _),((D2.mono w5).sb x6 (cb rfl)).imp (λ c hc=>gU hp hc) (ai _),D3.imp (λ c hc=>gU hp hc) (ai _)⟩
 intro a O hq2;refine IM hq2 λ v1 v2 U D1 D2 D3=>?_;rw[List.length_map] at D1 D2 D3;have D1:=D1.imp (λ c hc=>hV (bs:=bs) hc) (ai _);have D2:=D2.imp (λ c hc=>hV (bs:=bs) hc) (ai _);have D3:=D3.imp (λ c hc=>hV (bs:=bs) hc) (ai _);have hd4:1+3<=d:=hd;refine .mth v2 rfl rfl rfl<|nN (h.mono v1) S (tN D1 D3 rfl v2) hd4 λ ju O1 w1 ju1 f1=>?_;refine .mth (w1 _ _ v2) rfl rfl rfl<|nN (h.mono (v1.trans w1)) S (qP (D2.mono w1) (D3.mono w1) rfl (w1 _ _ v2)) hd4 λ jd O2 w2 jd2 f2=>?_;have w12:=w1.trans w2;refine .mth (w12 _ _ v2) rfl rfl rfl<|ui (h.mono (v1.trans w12)) S (tN (D1.mono w12) (D3.mono w12) rfl (w12 _ _ v2)) (w2 _ _ f1) hd4 λ au O3 ku w3 au3 f3 pu=>dK (w3 _ _ (w12 _ _ v2)) rfl rfl (nl rfl) λ O4 x4 f4 U=>?_;have n1:L<jd:=aw (br (w1 _ _ v2)) jd2;have n2:L<au:=aw (br (w12 _ _ v2)) au3;have v5:=(v1.trans (w12.trans w3)).upd x4 hLL;refine .mth f4 rfl rfl rfl<|ui (h.mono v5) S (qP (((D2.mono w12).mono w3).sb x4 (cb (b:=0) rfl)) (((D3.mono w12).mono w3).sb x4 (cb (b:=0) rfl)) rfl f4) (x4 _ _ (aE n1) (w3 _ _ f2)) hd4 λ ad O5 kd w5 ad5 f5 pd=>dK (w5 _ _ f4) rfl rfl (nl rfl) λ O6 x6 f6 U=>?_;exact⟨rfl,q O6 ((v5.trans w5).upd x6 hLL) ⟨_,_,_,au,ad,f6,DA.sb (.mono (DA.sb ⟨ku,f3,pu⟩ x4 (aE n2)) w5) x6 (aE n2),DA.sb ⟨kd,f5,pd⟩ x6 (aE (aw (br f4) ad5))⟩⟩
end
noncomputable def pK (p iB iW:Nat):List (HV×HV):=[(.str 44, .obj 0 iB),(.str 45, .obj 6 iW),(.str 46, .ref (p+1)),(.str 47, .ref (p+2)),(.str 48, .ref (p+3)),(.str 49, .ref (p+4)),(.str 50, .ref (p+5))]
noncomputable abbrev iS (l:Int) (s:Bool):HV:=sd l (if s then[gF] else[])
noncomputable def pv:Nat->HV
 |0=>iS 0 false
 |1=>iS 1 false
 |2=>iS 2 false
 |_=>iS 1 true
noncomputable def Iv (n:Nat):List HV:=(List.range n).map pv
noncomputable def Ib (n:Nat):List HV:=(List.range n).map λ x=> .int (if x=3 then 1 else -1)
noncomputable def lT (n:Nat):List (HV×HV):=(List.range n).map λ x=>(pv x, .int x)
noncomputable def Ay (p k3 x:Nat):Nat:=if x=3 then k3 else p+6+x
noncomputable def Hm (p k3 n:Nat):List HV:=(List.range n).map λ x=> .ref (Ay p k3 x)
noncomputable def CL (n x:Nat):List HV:=if x=1/\n=4 then[.int 3] else[]
structure PA (V:aF) (p iB iW n k3:Nat):Prop where
 obj:V[p]? =some (.dict (pK p iB iW))
 pl:V[p+1]? =some (.list (Iv n))
 pr:V[p+2]? =some (.list (Ib n))
 kd:V[p+3]? =some (.list (Hm p k3 n))
 nm:V[p+4]? =some (.dict (lT n))
 lt:V[p+5]? =some (.dict [])
 ks:∀x,x<n->V[Ay p k3 x]? =some (.list (CL n x))
 k3:n=4->p+9<=k3
noncomputable def Fr (p:Nat) (V V':aF):Prop:=∀(j:Nat) (o:HO),(j<p\/p+9<=j)->V[j]? =some o->V'[j]? =some o
theorem Fr.trans {p:Nat} {a b c:aF} (h:Fr p a b) (k:Fr p b c):Fr p a c:=λ j o n e=>k j o n (h j o n e)
theorem bt.frp {p:Nat} {a b:aF} (h:bt a b):Fr p a b:=λ j o U e=>h j o e
theorem SB.frp {p i:Nat} {a b:aF} (h:SB i a b) (hi:p<=i/\i<p+9):Fr p a b:=λ j o n e=>h j o (n.elim (λ n q=>aN hi.1 (Nat.not_le.mpr (q▸n))) λ n q=>aN hi.2 (bF.mpr (q▸n))) e
theorem lz {P:Nat->Prop}:∀x,x<0->P x:=λ U h=>aN h (a0 _)
theorem ls {P:Nat->Prop} {n:Nat} (h:P n) (r:∀x,x<n->P x):∀x,x<n+1->P x:=λ x hx=>(Nat.lt_or_eq_of_le (bC hx)).elim (r x) λ e=>e▸h
theorem lp (n x:Nat) (hx:x<n) (hn:n<=4):bp (pv x) (lT n)=true/\bA (pv x) (lT n)=some (.int x):=
 ls (P:=λ n=>∀x,x<n->bp (pv x) (lT n)=true/\bA (pv x) (lT n)=some (.int x)) (ls ⟨rfl,rfl⟩<|ls ⟨rfl,rfl⟩<|ls ⟨rfl,rfl⟩<|ls ⟨rfl,rfl⟩ lz) (ls (ls ⟨rfl,rfl⟩<|ls ⟨rfl,rfl⟩<|ls ⟨rfl,rfl⟩ lz)<|ls (ls ⟨rfl,rfl⟩<|ls ⟨rfl,rfl⟩ lz)<|ls (ls ⟨rfl,rfl⟩ lz)<|ls lz lz) n (k9 hn) x hx
theorem Aj:∀n,n<4->bp (pv n) (lT n)=true/\bA (pv n) (lT n)=none/\dC (pv n) (.int n) (lT n)=lT (n+1):=ls ⟨rfl,rfl,rfl⟩<|ls ⟨rfl,rfl,rfl⟩<|ls ⟨rfl,rfl,rfl⟩<|ls ⟨rfl,rfl,rfl⟩ lz
theorem eX {f:Nat->HV} {n:Nat}:(List.range n).map f++[f n]=(List.range (n+1)).map f:=by rw[List.range_succ,List.map_append];rfl
theorem fQ {f:Nat->HV} {n:Nat}:((List.range n).map f).length=n:=by rw[List.length_map,List.length_range]
section
variable{V:aF} {K:KV} {d p iB iW n k3 x:Nat} {l:Int} {s:Bool}
theorem PA.mono {V':aF} (h:PA V p iB iW n k3) (k:bt V V'):PA V' p iB iW n k3:=⟨k _ _ h.obj,k _ _ h.pl,k _ _ h.pr,k _ _ h.kd,k _ _ h.nm,k _ _ h.lt,λ x hx=>k _ _ (h.ks x hx),h.k3⟩
theorem qB (hd:1<=d) (q:K (.int (if s then 1 else 0)) V):hW bg d 37 [.obj 1 p,iS l s] [] V K:=
 aP [.val (.obj 1 p), .val (iS l s), .empty, .empty, .empty] rfl rfl rfl hd λ d hd=>match s,q with
  |false,q=>cw.t ⟨nl rfl,rfl, .lenT (nl rfl)<| .up (nl rfl) ⟨1, .st<| .lenT (nl rfl) q⟩⟩
  |true,q=>cw.t ⟨nl rfl,rfl, .lenT (nl rfl)<| .up (nl rfl) ⟨2, .st<| .t (nl rfl) rfl rfl<| .t (nl rfl) rfl rfl<| .eq (.c rfl rfl) rfl<| .t (nl rfl) rfl rfl<| .t (nl rfl) rfl rfl<| .eq (.c rfl rfl) rfl<| .st<| .lenT (nl rfl) q⟩⟩
theorem mu (h:V[p]? =some (.dict (pK p iB iW))) (hd:2<=d) (q:K (iS l s) V):hW bg d 38 [.obj 1 p,iS l s] [] V K:=
 aP [.val (.obj 1 p), .val (iS l s)] rfl rfl rfl hd λ d hd=> .t (nl rfl) rfl rfl<| .t (nl rfl) rfl rfl<|jE.own h rfl rfl rfl<|qB hd<|match s,q with
  |false,q=> .t (nl rfl)<| .tupT q
  |true,q=> .t (nl rfl)<| .tupT q
theorem xq (h:V[p]? =some (.dict (pK p iB iW))) (hd:2<=d) (q:K (.bool false) V):hW bg d 39 [.obj 1 p,iS l s] [] V K:=
 aP [.val (.obj 1 p), .val (iS l s)] rfl rfl rfl hd λ d hd=>jE.own h rfl rfl rfl<|qB hd<|match s with
  |false=> .t (nl rfl) rfl rfl<| .lenT (nl rfl)<| .lt q
  |true=> .t (nl rfl) rfl rfl<| .lenT (nl rfl)<| .lt q
variable{kvs:List (HV×HV)}
theorem eL (h:V[p]? =some (.dict (pK p iB iW))) (hn:V[p+4]? =some (.dict kvs)) (hf:bp (iS l s) kvs=true/\bA (iS l s) kvs=some (.int x)) (hd:3<=d) (q:K (.int x) V):hW bg d 40 [.obj 1 p,iS l s] [] V K:=
 aP [.val (.obj 1 p), .val (iS l s), .empty, .empty, .empty] rfl rfl rfl hd λ d hd=>jE.own h rfl rfl rfl<|mu h hd<|cw.t ⟨nl rfl,rfl,match s,hf with
  |false,hf=> .lenT (nl rfl) ⟨1, .t (nl rfl)<|dZ.fld h rfl rfl rfl<| .notin (t:=true) (hf.2▸r8.dct hn hf.1:r8 V _ _ (some (HV.int x)).isSome)<|dZ.fld h rfl rfl rfl<| .t (nl rfl)<| .dct hn hf.1 hf.2 q⟩
  |true,hf=> .lenT (nl rfl) ⟨1, .t (nl rfl)<|dZ.fld h rfl rfl rfl<| .notin (t:=true) (hf.2▸r8.dct hn hf.1:r8 V _ _ (some (HV.int x)).isSome)<|dZ.fld h rfl rfl rfl<| .t (nl rfl)<| .dct hn hf.1 hf.2 q⟩⟩
end
section
variable{V:aF} {K:KV} {d p iB iW n k3 x:Nat} {l:Int} {s:Bool} {kvs:List (HV×HV)}
theorem GQ {a b:HV} {i:Nat} {v:HV} {F:Bool->Prop} {o:Option HV} (hn:V[i]? =some (.dict kvs)) (hk:bp a kvs=true) (hf:bA a kvs=o) (q:F o.isSome):aS V F .in_ a (.ref i):=by
 subst hf;exact .in_ (.dct hn hk) q
theorem i7 (h:V[p]? =some (.dict (pK p iB iW))) (hn:V[p+4]? =some (.dict kvs)) (hf:bp (iS l s) kvs=true/\bA (iS l s) kvs=some (.int x)) (hd:3<=d) (q:K (.bool true) V):hW bg d 41 [.obj 1 p,iS l s] [] V K:=
 aP [.val (.obj 1 p), .val (iS l s)] rfl rfl rfl hd λ d hd=>jE.own h rfl rfl rfl<|xq h hd<| .t (nl rfl) rfl rfl<| .t (nl rfl) rfl rfl<| .tupT<|dZ.fld h rfl rfl rfl<|GQ (v:= .none) (b:= .none) hn hf.1 hf.2 q
theorem fT (h:V[p]? =some (.dict (pK p iB iW))) (hn:V[p+4]? =some (.dict kvs)) (hf:bp (iS l s) kvs=true/\bA (iS l s) kvs=some (.int x)) (hd:1<=d) (q:K (.int x) V):hW bg d 36 [.obj 1 p,iS l s] [] V K:=
 aP [.val (.obj 1 p), .val (iS l s), .empty, .empty, .empty, .empty] rfl rfl rfl hd λ d hd=>dZ.fld h rfl rfl rfl<|GQ (v:= .none) (b:= .none) hn hf.1 hf.2<|dZ.fld h rfl rfl rfl<| .dct hn hf.1 hf.2 q
theorem zC (h:PA V p iB iW n k3) (hn:n<3) (hv:pv n=iS l false) (hl:V.length=p+6+n) (hd:1<=d) (q:∀V',PA V' p iB iW (n+1) k3->Fr p V V'->V'.length=p+6+n+1->K (.int n) V'):hW bg d 36 [.obj 1 p,iS l false] [] V K:=
 aP [.val (.obj 1 p), .val (iS l false), .empty, .empty, .empty, .empty] rfl rfl rfl hd λ d hd=>by
 refine kB (Aj n (az hn (by decide))) λ f1 f2 f3=>?_
 rw[hv] at f1 f2 f3;have hlim:∀{f:Nat->HV},((List.range n).map f).length<lim:=d7 (az hn (by decide))
 refine dZ.fld h.obj rfl rfl rfl<|GQ (v:= .none) (b:= .none) h.nm f1 f2<|cw.t ⟨nl rfl,rfl, .ne (.c rfl rfl)<|dZ.fld h.obj rfl rfl rfl<| .lenL h.pl hlim ?_⟩;rw[show(Iv n).length=n from fQ];refine dZ.fld h.obj rfl rfl rfl<|putD h.nm f1 (db (by rw[List.length_range];lia)) λ V1 s1 e1 l1=>?_
 rw[f3] at e1;have g1:=s1 _ _ (cb (a:=0) rfl) h.obj;refine dZ.fld g1 rfl rfl rfl<| .l (s1 _ _ (cb rfl) h.pl) rfl rfl<|dB (s1 _ _ (cb rfl) h.pl) hlim λ V2 s2 e2 l2=>?_;have g2:=s2 _ _ (cb (a:=0) rfl) g1;have r2:=s2 _ _ (cb rfl) (s1 _ _ (cb rfl) h.pr);refine dZ.fld g2 rfl rfl rfl<| .l r2 rfl rfl<|dB r2 hlim λ V3 s3 e3 l3=>?_;have g3:=s3 _ _ (cb (a:=0) rfl) g2;have r3:=s3 _ _ (cb rfl) (s2 _ _ (cb rfl) (s1 _ _ (cb rfl) h.kd));refine dZ.fld g3 rfl rfl rfl<| .l r3 rfl rfl ⟨nl rfl,aR (p+6+n) (l3.trans (l2.trans (l1.trans hl))) λ V4 s4 e4 l4=>dB (s4 _ _ r3) hlim λ V5 s5 e5 l5=>?_⟩;have g5:=s5 _ _ (cb (a:=0) rfl) (s4 _ _ g3);have ne5:∀x,Ay p k3 x=p+6+x\/x=3:=λ x=>by unfold Ay;split<;>lia
 have hkn:Ay p k3 n=p+6+n:=(ne5 n).elim id λ e=>aN e (aH hn);refine .ge<|q V5 ⟨g5,?_,?_,?_,s5 _ _ (cb rfl) (s4 _ _ (s3 _ _ (cb rfl) (s2 _ _ (cb rfl) e1))),s5 _ _ (cb rfl) (s4 _ _ (s3 _ _ (cb rfl) (s2 _ _ (cb rfl) (s1 _ _ (cb rfl) h.lt)))),λ x hx=>?_,λ e=>aN e (by lia)⟩ ?_ (l5.trans l4)
 ·rw[s5 _ _ (cb rfl) (s4 _ _ (s3 _ _ (cb rfl) e2)),<- hv];exact am (λ l=>some (HO.list l)) eX
 ·rw[s5 _ _ (cb rfl) (s4 _ _ e3)];refine am (λ l=>some (HO.list l)) (Eq.trans ?_ eX);rw[if_neg (by lia:¬n=3)];rfl
 ·rw[e5,<- hkn];exact am (λ l=>some (HO.list l)) eX
 ·by_cases hxn:x=n
  ·rw[hxn,hkn,s5 _ _ (by lia) e4]
   unfold CL;rw[if_neg (by lia)]
  ·have hx2:x<n:=by lia
   have hk:=(ne5 x).elim id λ e=>aN e (by lia)
   have:=h.ks x hx2;rw[hk] at this ⊢;rw[s5 _ _ (by lia) (s4 _ _ (s3 _ _ (by lia) (s2 _ _ (by lia) (s1 _ _ (by lia) this))))]
   unfold CL;rw[if_neg (by lia),if_neg (by lia)]
 ·exact(s1.frp (by lia)).trans ((s2.frp (by lia)).trans ((s3.frp (by lia)).trans (s4.frp.trans (s5.frp (by lia)))))
theorem zX (h:PA V p iB iW 3 k3) (hl:p+9<=V.length) (hd:2<=d) (q:∀V' k,PA V' p iB iW 4 k->Fr p V V'->V.length<=V'.length->K (.int 3) V'):hW bg d 36 [.obj 1 p,iS 1 true] [] V K:=
 aP [.val (.obj 1 p), .val (iS 1 true), .empty, .empty, .empty, .empty] rfl rfl rfl hd λ d hd=>by
 refine dZ.fld h.obj rfl rfl rfl<|GQ (v:= .none) (b:= .none) (o:=none) h.nm rfl rfl<|cw.t ⟨nl rfl,rfl, .ne (.c rfl rfl)<|jE.own h.obj rfl rfl rfl<| .t (nl rfl)<|fT (l:=1) (s:=false) (x:=1) h.obj h.nm ⟨rfl,rfl⟩ hd<|dZ.fld h.obj rfl rfl rfl<| .lenL h.pl (nl rfl)<|dZ.fld h.obj rfl rfl rfl<|putD h.nm rfl (nl rfl) λ V1 s1 e1 l1=>?_⟩;have g1:=s1 _ _ (cb (a:=0) rfl) h.obj;refine dZ.fld g1 rfl rfl rfl<| .l (s1 _ _ (cb rfl) h.pl) rfl rfl<|dB (s1 _ _ (cb rfl) h.pl) (nl rfl) λ V2 s2 e2 l2=>?_;have g2:=s2 _ _ (cb (a:=0) rfl) g1;have r2:=s2 _ _ (cb rfl) (s1 _ _ (cb rfl) h.pr);refine dZ.fld g2 rfl rfl rfl<| .l r2 rfl rfl<|dB r2 (nl rfl) λ V3 s3 e3 l3=>?_;have g3:=s3 _ _ (cb (a:=0) rfl) g2;have r3:=s3 _ _ (cb rfl) (s2 _ _ (cb rfl) (s1 _ _ (cb rfl) h.kd));refine dZ.fld g3 rfl rfl rfl<| .l r3 rfl rfl ⟨nl rfl,aR V.length (l3.trans (l2.trans l1)) λ V4 s4 e4 l4=>dB (s4 _ _ r3) (nl rfl) λ V5 s5 e5 l5=> .ge ?_⟩;have g5:=s5 _ _ (cb (a:=0) rfl) (s4 _ _ g3);have k5:∀{x},x<3->V5[p+6+x]? =some (.list []):=λ {x} hx=>by
  have:=h.ks x hx;unfold Ay CL at this;rw[if_neg (by lia),if_neg (by lia)] at this
  exact s5 _ _ (by lia) (s4 _ _ (s3 _ _ (by lia) (s2 _ _ (by lia) (s1 _ _ (by lia) this))))
 refine dZ.fld g5 rfl rfl rfl<| .l e5 (nl rfl) rfl rfl<| .l (k5 (x:=1) (by decide)) rfl rfl<|dB (k5 (x:=1) (by decide)) (nl rfl) λ V6 (s6:SB (p+7) V5 V6) e6 l6=>q V6 V.length ⟨s6 _ _ (cb (a:=0) rfl) g5,s6 _ _ (cb rfl) (s5 _ _ (cb rfl) (s4 _ _ (s3 _ _ (cb rfl) e2))),s6 _ _ (cb rfl) (s5 _ _ (cb rfl) (s4 _ _ e3)),s6 _ _ (cb rfl) e5,s6 _ _ (cb rfl) (s5 _ _ (cb rfl) (s4 _ _ (s3 _ _ (cb rfl) (s2 _ _ (cb rfl) e1)))),s6 _ _ (cb rfl) (s5 _ _ (cb rfl) (s4 _ _ (s3 _ _ (cb rfl) (s2 _ _ (cb rfl) (s1 _ _ (cb rfl) h.lt))))),λ x hx=>?_,λ U=>hl⟩ ?_ (by lia)
 ·refine Ja hx ?_ ?_ ?_ ?_
  ·exact s6 (p+6) _ (cb rfl) (k5 (x:=0) (by decide))
  ·exact e6
  ·exact s6 (p+8) _ (cb rfl) (k5 (x:=2) (by decide))
  ·exact s6 _ _ (by show V.length≠p+6+1;lia) (s5 _ _ (by show V.length≠p+3;lia) e4)
 ·exact(s1.frp (by lia)).trans ((s2.frp (by lia)).trans ((s3.frp (by lia)).trans (s4.frp.trans ((s5.frp (by lia)).trans (s6.frp (by lia))))))
end
theorem Fr.sle {V O O':aF} {p:Nat} (h:Fr p O O') (k:bt V O) (hp:V.length<=p):bt V O':=λ j o e=>h j o (.inl (aw (br e) hp)) (k j o e)
noncomputable def np (ws:List Ev) (k:Nat):Nat:=if Ev.part∈ws.take k then 4 else 3
theorem zn {ws:List Ev} {k:Nat} {κ:Option Ev} (h:ws[k]? =κ):np ws (k+1)=if κ=some .part then 4 else np ws k:=by
 unfold np;rw[List.take_add_one,h];by_cases hk:κ=some .part
 ·rw[if_pos hk,hk];exact if_pos (List.mem_append_right _ (.head _))
 ·rw[if_neg hk];by_cases hm:Ev.part∈ws.take k
  ·rw[if_pos hm,if_pos (List.mem_append_left _ hm)]
  ·rw[if_neg hm,if_neg λ h=>(List.mem_append.mp h).elim hm λ h=>?_]
   induction κ using Jn with
   |none=>exact nomatch h
   |some e=>exact hk (am some (al.mp h).symm)
section
variable{V:aF} {K:KV} {d p iW n k3 b i:Nat} {B:BL} {told:HV} {bs:List (List Ev)} {ra:RA} {ws:List Ev} {κ:Option Ev} {bl ss:List HV} {r1 r2:Nat} {t:HV}
theorem uR {O:aF} {N:bc->aF->Prop} {a3:SV} {a5 a6:Option HV} (pt:Pt O B b i κ bl ss r1 r2 t) (h:PA O p B.i iW n k3) (hn:n=3\/n=4) (hl:p+9<=O.length) (hd:4<=d)
  (q:∀o5 o6 O' k3',PA O' p B.i iW (if κ=some .part then 4 else n) k3'->Fr p O O'->O.length<=O'.length->N [.val (.obj 1 p), .val (.obj 0 B.i), .val (.obj 6 iW),a3, .val (pV b i),sl o5,sl o6] O'):
  kL bg (hW bg d) [.for_ (.x 5) (.e (.call (.k (.fn 20)) [.x 1,.x 4])) [.if_ (.c .eq (.sub (.x 5) (.k (.int 0))) (.k (.str 52))) [.expr (.m (.x 0) 51 [.m (.x 0) 53 [.sub (.x 5) (.k (.int 1))]])] []],
   .for_ (.x 6) (.e (.t [.call (.k (.fn 31)) [.x 1,.x 4],.call (.k (.fn 32)) [.x 1,.x 4]])) [.if_ (.c .n (.x 6) (.k .none)) [.expr (.m (.x 0) 51 [.m (.x 0) 53 [.x 6]])] []]]
   [.val (.obj 1 p), .val (.obj 0 B.i), .val (.obj 6 iW),a3, .val (pV b i),sl a5,sl a6] O N K:=by
 have hd1:1<=d:=ah (by decide) hd
 have hd2:2<=d:=ah (by decide) hd
 refine gS pt hd2<|aR _ rfl λ O1 w1 e1 l1=>?_;have pt1:=pt.mono w1;have h1:=h.mono w1;have qp:=q;replace q:=λ o5 o6=>q o5 o6 O1 k3;have ol:=λ x hx=>lp n x hx (by lia)
 induction κ using qx with
 |n=>exact .l e1 (nl rfl) ⟨1, .l e1<|bv pt1 hd1<|bx pt1 hd1<| .t (nl rfl) ⟨3, .st<|bM a6 rfl<| .n<| .st<| .n<| .st<|q a5 (some .none) h1 w1.frp w1.len⟩⟩
 |r=>exact .l e1 (nl rfl) ⟨1, .l e1<|bv pt1 hd1<|bx pt1 hd1<| .t (nl rfl) ⟨3, .st<|bM a6 rfl<| .n<| .st<| .n<| .st<|q a5 (some .none) h1 w1.frp w1.len⟩⟩
 |d=>exact .l e1 (nl rfl) ⟨1, .l e1<|bv pt1 hd1<|bx pt1 hd1<| .t (nl rfl) ⟨3, .st<|bM a6 rfl<| .n<| .st<| .n<| .own h1.obj rfl rfl rfl<| .own h1.obj rfl rfl rfl<|mu (l:=1) (s:=false) h1.obj hd2<|fT (l:=1) (s:=false) h1.obj h1.nm (ol 1 (by lia)) hd1<| .st<|q a5 (some (sd 1 [])) h1 w1.frp w1.len⟩⟩
 |s=>exact .l e1 (nl rfl) ⟨2, .l e1<|bM a5 rfl<| .t (nl rfl) rfl rfl<| .eq (.c rfl rfl) rfl<| .l e1<|bv pt1 hd1<|bx pt1 hd1<| .t (nl rfl) ⟨3, .st<|bM a6 rfl<| .n<| .own h1.obj rfl rfl rfl<| .own h1.obj rfl rfl rfl<|mu (l:=1) (s:=false) h1.obj hd2<|fT (l:=1) (s:=false) h1.obj h1.nm (ol 1 (by lia)) hd1<| .st<| .n<| .st<|q (some _) (some .none) h1 w1.frp w1.len⟩⟩
 |u=>exact .l e1 (nl rfl) ⟨2, .l e1<|bM a5 rfl<| .t (nl rfl) rfl rfl<| .eq (.c rfl rfl) rfl<| .l e1<|bv pt1 hd1<|bx pt1 hd1<| .t (nl rfl) ⟨3, .st<|bM a6 rfl<| .n<| .own h1.obj rfl rfl rfl<| .own h1.obj rfl rfl rfl<|mu (l:=2) (s:=false) h1.obj hd2<|fT (l:=2) (s:=false) h1.obj h1.nm (ol 2 (by lia)) hd1<| .st<| .n<| .st<|q (some _) (some .none) h1 w1.frp w1.len⟩⟩
 |p=>
  refine .l e1 (nl rfl) ⟨2, .l e1<|bM a5 rfl<| .t (nl rfl) rfl rfl<| .eq (.c rfl rfl) rfl<| .l e1<|bv pt1 hd1<|bx pt1 hd1<| .t (nl rfl) ⟨3, .st<|bM a6 rfl<| .n<| .own h1.obj rfl rfl rfl<| .own h1.obj rfl rfl rfl<|mu (l:=1) (s:=true) h1.obj hd2 ?_⟩⟩;rcases hn with rfl|rfl
  ·exact zX h1 (ah hl w1.len) hd2 λ O2 k h2 f2 l2=> .st<| .n<| .st<|qp (some _) (some .none) O2 k h2 (w1.frp.trans f2) (ah w1.len l2)
  ·exact fT (l:=1) (s:=true) h1.obj h1.nm (ol 3 (by lia)) hd1<| .st<| .n<| .st<|q (some _) (some .none) h1 w1.frp w1.len
theorem Gq (k:Nat) (h:k<3):pv k=iS (k:Int) false:=GO h rfl rfl rfl
theorem uQ {F:aF->Prop} (h:bR V B told bs ra) (S:fO ws bs) (hL:V.length=p) (hd:5<=d) (q:∀V' k3,bt V V'->PA V' p B.i iW (np ws ws.length) k3->p+9<=V'.length->F V') (V1:aF) (s1:bt V V1) (e1:V1[p]? =some (.dict [])) (l1:V1.length=p+1):hW bg d 35 [.obj 1 p, .obj 0 B.i, .obj 6 iW] [] V1 λ v V2=>v= .none/\F V2:=
 aP [.val (.obj 1 p), .val (.obj 0 B.i), .val (.obj 6 iW), .empty, .empty, .empty, .empty] rfl rfl rfl hd λ d hd=>by
 have hp:V.length<=p:=bX hL;refine dK e1 rfl rfl (nl rfl) λ V2 s2 e2 l2=>dK e2 rfl rfl (nl rfl) λ V3 s3 e3 l3=>⟨nl rfl,i3 e3 (l3.trans (l2.trans l1)) rfl rfl (nl rfl) λ V4 s4 e4 a4 l4=>?_⟩;refine⟨nl rfl,i3 e4 l4 rfl rfl (nl rfl) λ V5 s5 e5 a5 l5=>⟨nl rfl,i3 e5 l5 rfl rfl (nl rfl) λ V6 s6 e6 a6 l6=>⟨nl rfl,gq<|i3 e6 l6 rfl rfl (nl rfl) λ V7 s7 e7 a7 l7=>⟨nl rfl,gq<|i3 e7 l7 rfl rfl (nl rfl) λ V8 s8 e8 a8 l8=>?_⟩⟩⟩⟩;have t7:=s7.trans s8;have t6:=s6.trans t7;have t5:=s5.trans t6;have h8:PA V8 p B.i iW 0 0:=⟨e8,t5 _ _ (cb (b:=0) rfl) a4,t6 _ _ (cb (b:=0) rfl) a5,t7 _ _ (cb (b:=0) rfl) a6,s8 _ _ (cb (b:=0) rfl) a7,a8,λ x hx=>aN hx (a0 _),(λ e=>nomatch e)⟩;have v8:bt V V8:=s1.upd (s2.trans (s3.trans (s4.trans t5))) hp;refine dZ.fld (v8 _ _ h.obj) rfl rfl rfl<| .lenL (v8 _ _ h.loc) (nl rfl) ?_;refine mc (n:=3) (nl rfl) (λ a:Option HV=>[.val (.obj 1 p), .val (.obj 0 B.i), .val (.obj 6 iW),sl a, .empty, .empty, .empty]) (λ k U V'=>PA V' p B.i iW k 0/\bt V V'/\V'.length=p+6+k) none ⟨h8,v8,l8⟩ ?_ ?_
 ·intro k a O hk hq1 N' q';refine kB hq1 λ v1 v2 v3=>?_;exact bM a rfl<| .own v1.obj rfl rfl rfl<|zC v1 hk (Gq k hk) v3 (ah (by decide) hd) λ O' v4 f4 l4=>q' (some (.int k)) O' ⟨v4,f4.sle v2 hp,l4⟩
 intro a O hq2;refine kB hq2 λ v1 v2 v3=>?_;refine gY (h.mono v2) (ah (by decide) hd) λ j V9 s9 j9 e9=> .l e9 (db (az (gH h) (by decide))) ?_
 refine qA (λ b:Option HV×Option HV×Option HV=>[.val (.obj 1 p), .val (.obj 0 B.i), .val (.obj 6 iW),sl a,sl b.1,sl b.2.1,sl b.2.2]) (λ k U V'=>(∃k3,PA V' p B.i iW (np ws k) k3)/\bt V V'/\p+9<=V'.length/\V'[j]? =some (.list ((gW bs).map fy))) (none,none,none) ⟨⟨0,v1.mono s9⟩,v2.trans s9,v3▸s9.len,e9⟩ (λ k b V' i=>i.2.2.2) ?_ ?_
 ·intro k v b O1 hv hq1 N' q';refine pG hq1 λ hq2 u2 u3 u4=>?_;refine ce hq2 λ k3 u1=>?_;rw[List.getElem?_map] at hv;refine aU (aZ.mp hv) λ c hc rq1=>?_;subst rq1;refine aU (jn.mp (ar hc)) λ e he hie=>?_;have hw:ws[k]? =fC bs c.1 c.2:=by
   refine nv (pk S (bC (la S▸dI hc))) λ b' i' e' g1 g2 g3 g4=>?_;replace g1:=hc▸g1;cases g1;rw[(S.kd _ _ _ g2 g3).1,g4]
  refine bM b.1 rfl<|uR (a5:=b.2.1) (a6:=b.2.2) ((h.mono u2).pt he hie) u1 (by unfold np;split;exact .inr rfl;exact .inl rfl) u3 hd λ o5 o6 O' k3' w1 f1 w2=>q' (some (fy c),o5,o6) O' ⟨⟨k3',zn hw▸w1⟩,f1.sle u2 hp,ah u3 w2,f1 _ _ (.inr (v3▸j9)) u4⟩
 ·intro b O1 hq3;refine pG hq3 λ hq4 u2 u3 u4=>?_;refine ce hq4 λ k3 u1=>?_;refine⟨rfl,q O1 k3 u2 ?_ u3⟩;rw[List.length_map,la S] at u1;have:np ws ws.length=np ws (ws.length+1):=by unfold np;rw[List.take_of_length_le (Nat.le_refl _),List.take_of_length_le (Nat.le_succ _)]
  rw[this];exact u1
end
noncomputable def nP (hp:Bool):Nat:=if hp then 4 else 3
theorem Gm (ws:List Ev):np ws ws.length=nP (decide (Ev.part∈ws)):=by
 unfold np nP;rw[List.take_length];by_cases h:Ev.part∈ws
 ·rw[if_pos h,decide_eq_true h];rfl
 ·rw[if_neg h,decide_eq_false h];rfl
noncomputable def bw (hp:Bool) (x:Nat):List Int:=if hp=true/\x=1 then[1,3] else[x]
structure PX (V:aF) (p iB iW:Nat) (hp:Bool) (k3:Nat):Prop where
 obj:V[p]? =some (.dict (pK p iB iW))
 kd:V[p+3]? =some (.list (Hm p k3 (nP hp)))
 nm:V[p+4]? =some (.dict (lT (nP hp)))
 ks:∀x,x<nP hp->V[Ay p k3 x]? =some (.list (CL (nP hp) x))/\p+5<Ay p k3 x
noncomputable def lD (l:Nat->Nat) (m:Nat):List (HV×HV):=(List.range m).map λ x:Nat=>(.int x, .ref (l x))
structure eI (V:aF) (p:Nat) (hp:Bool) (J:List Nat) (m:Nat):Prop where
 h:∃l:Nat->Nat,V[p+5]? =some (.dict (lD l m))/\∀x,x<m->V[l x]? =some (.list ((bw hp x).map .int))/\l x∉J/\l x≠p+5
 m:m<=4
 j:∀j∈J,j<V.length/\j≠p+5
theorem tX (l:Nat->Nat) (m x:Nat) (hx:x<m) (hm:m<=4):bp (.int x) (lD l m)=true/\bA (.int x) (lD l m)=some (.ref (l x)):=
 ls (P:=λ m=>∀x:Nat,x<m->bp (.int x) (lD l m)=true/\bA (.int x) (lD l m)=some (.ref (l x))) (ls ⟨rfl,rfl⟩<|ls ⟨rfl,rfl⟩<|ls ⟨rfl,rfl⟩<|ls ⟨rfl,rfl⟩ lz) (ls (ls ⟨rfl,rfl⟩<|ls ⟨rfl,rfl⟩<|ls ⟨rfl,rfl⟩ lz)<|ls (ls ⟨rfl,rfl⟩<|ls ⟨rfl,rfl⟩ lz)<|ls (ls ⟨rfl,rfl⟩ lz)<|ls lz lz) m (k9 hm) x hx
theorem ul (l:Nat->Nat) (a:Nat):∀m:Nat,m<4->bp (.int m) (lD l m)=true/\bA (.int m) (lD l m)=none/\dC (.int m) (.ref a) (lD l m)=lD (λ x=>if x=m then a else l x) (m+1):=ls ⟨rfl,rfl,rfl⟩<|ls ⟨rfl,rfl,rfl⟩<|ls ⟨rfl,rfl,rfl⟩<|ls ⟨rfl,rfl,rfl⟩ lz
section
variable{V:aF} {K:KV} {d p iB iW k3 x m:Nat} {hp:Bool} {J:List Nat}
theorem PX.sb {V':aF} (h:PX V p iB iW hp k3) (k:SB (p+5) V V'):PX V' p iB iW hp k3:=⟨k _ _ (cb (a:=0) rfl) h.obj,k _ _ (cb rfl) h.kd,k _ _ (cb rfl) h.nm,λ x hx=>⟨k _ _ (aE (h.ks x hx).2) (h.ks x hx).1,(h.ks x hx).2⟩⟩
theorem eI.mono {V':aF} (h:eI V p hp J m) (k:bt V V'):eI V' p hp J m:=
 ⟨aU h.h λ l h1 h2=>⟨l,k _ _ h1,λ x hx=>⟨k _ _ (h2 x hx).1,(h2 x hx).2⟩⟩,h.m,λ j hj=>⟨aw (h.j j hj).1 k.len,(h.j j hj).2⟩⟩
theorem eI.own {V':aF} {i:Nat} (h:eI V p hp J m) (hi:i∈J) (k:SB i V V') (hl:V'.length=V.length):eI V' p hp J m:=
 ⟨aU h.h λ l h1 h2=>⟨l,k _ _ (h.j i hi).2.symm h1,λ x hx=>⟨k _ _ (λ e=>(h2 x hx).2.1 (e▸hi)) (h2 x hx).1,(h2 x hx).2⟩⟩,h.m,λ j hj=>⟨hl▸(h.j j hj).1,(h.j j hj).2⟩⟩
theorem eI.add {V':aF} {i:Nat} (h:eI V p hp J m) (k:bt V V') (hi:V.length<=i/\i<V'.length):eI V' p hp (i::J) m:=
 ⟨aU h.h λ l h1 h2=>⟨l,k _ _ h1,λ x hx=>⟨k _ _ (h2 x hx).1,λ e=>(aB.mp e).elim (λ e=>aN (br (h2 x hx).1) (bF.mpr (e▸hi.1))) (h2 x hx).2.1,(h2 x hx).2.2⟩⟩,h.m,
  λ j hj=>(aB.mp hj).elim (λ e=>e▸⟨hi.2,aE (aw (aU h.h λ l h1 _=>br h1) hi.1)⟩) λ hj=>⟨aw (h.j j hj).1 k.len,(h.j j hj).2⟩⟩
theorem eI.del {i:Nat} (h:eI V p hp (i::J) m):eI V p hp J m:=
 ⟨aU h.h λ l h1 h2=>⟨l,h1,λ x hx=>⟨(h2 x hx).1,λ e=>(h2 x hx).2.1 (.tail _ e),(h2 x hx).2.2⟩⟩,h.m,λ j hj=>h.j j (.tail _ hj)⟩
structure BS (σb V:aF) (xs ys:List Int):Prop where
 le:bt σb V
 f:V[σb.length]? =some (.list (xs.map .int))
 g:V[σb.length+1]? =some (.list (ys.map .int))
noncomputable def Gc:HE:= .c .ne (.x 3) (.list [])
noncomputable def Gh:List HS:=[.g (.x 4) (.m (.x 3) 40 []), .expr (.m (.x 2) 7 [.x 4]), .expr (.m (.x 3) 24 [.sub (.a (.x 0) 48) (.x 4)])]
noncomputable abbrev HZ (d n:Nat) (Y:bc) (V:aF) (N:bc->aF->Prop) (K:KV):Prop:=Ee (λ Y V K=>eW bg (hW bg d) Gc Y V K) (λ Y V N=>kL bg (hW bg d) Gh Y V N K) n Y V N
theorem r7 {σb:aF} {o:Option HV} {y n:Nat} {xs ys zs:List Int} {N:bc->aF->Prop} (h:PX σb p iB iW hp k3) (hy:y<nP hp) (hz:CL (nP hp) y=zs.map .int) (s:BS σb V xs (ys++[(y:Int)])) (hx:xs.length<100) (hyz:ys.length+zs.length<100)
  (q:∀V',BS σb V' (xs++[(y:Int)]) (ys++zs)->HZ d n [.val (.obj 1 p), .val (.int x), .val (.ref σb.length), .val (.ref (σb.length+1)),sl (some (.int y))] V' N K):
  HZ d (n+1) [.val (.obj 1 p), .val (.int x), .val (.ref σb.length), .val (.ref (σb.length+1)),sl o] V N K:=by
 have hkl:(Hm p k3 (nP hp)).length<lim:=d7 (by unfold nP;split<;>decide)
 refine⟨nl rfl,aR _ rfl λ V1 s1 e1 l1=> .ne (.l (s1 _ _ s.g) e1 (cg _) rfl) ?_⟩;rw[show(ys++[(y:Int)]==[])=false by rcases ys with _|_<;>rfl]
 refine .l (s1 _ _ s.g) rfl rfl<|Dk (v:= .int y) (s1 _ _ s.g) (db (by rw[List.length_append];show ys.length+1<_;lia)) (by rw[List.map_append,List.getLast?_append];rfl) λ V2 s2 e2 l2=>eG o rfl ?_
 rw[List.map_append,show([(y:Int)].map HV.int)=[.int y] from rfl,List.dropLast_concat] at e2;have ef2:=s2 _ _ (aH (aI _)) (s1 _ _ s.f);have t2:=(s.le.trans s1).upd s2 (bG _);refine .l ef2 rfl rfl<|dB ef2 (db (az hx (by decide))) λ V3 s3 e3 l3=>?_
 have t3:=t2.upd s3 (ai _);have eg3:=s3 _ _ (aE (aI _)) e2;have k1:=h.ks y hy;rw[hz] at k1;refine .l eg3 rfl rfl<| .fld (t3 _ _ h.obj) rfl rfl rfl<|cB (k:=y) (t3 _ _ h.kd) hkl (eM hy)<|wK eg3 (t3 _ _ k1.1) (aE (bN (br k1.1))) (by rw[List.length_map,List.length_map];exact az hyz (by decide)) λ V4 s4 e4 l4=>q V4 ⟨t3.upd s4 (bG _),?_,?_⟩
 ·rw[s4 _ _ (Nat.ne_of_lt (Nat.lt_succ_self _)) e3,List.map_append];rfl
 ·rw[e4,List.map_append]
theorem Bp {σb:aF} {o:Option HV} {n:Nat} {xs:List Int} {N:bc->aF->Prop} (s:BS σb V xs []) (q:∀V',BS σb V' xs []->N [.val (.obj 1 p), .val (.int x), .val (.ref σb.length), .val (.ref (σb.length+1)),sl o] V'):
  HZ d (n+1) [.val (.obj 1 p), .val (.int x), .val (.ref σb.length), .val (.ref (σb.length+1)),sl o] V N K:=
 ⟨nl rfl,aR _ rfl λ V1 s1 e1 l1=> .ne (.l (s1 _ _ s.g) e1 (cg _) rfl)<|q V1 ⟨s.le.trans s1,s1 _ _ s.f,s1 _ _ s.g⟩⟩
theorem qm (h:PX V p iB iW hp k3) (lo:eI V p hp J m) (hx:x<=m) (hxn:x<nP hp) (hd:1<=d)
  (q:∀j V' m',SB (p+5) V V'->V.length<=V'.length->eI V' p hp J m'->m<=m'->x<m'->V'[j]? =some (.list ((bw hp x).map .int))->K (.ref j) V'):hW bg d 42 [.obj 1 p, .int x] [] V K:=
 aP [.val (.obj 1 p), .val (.int x), .empty, .empty, .empty] rfl rfl rfl hd λ d hd=>by
 refine aU lo.h λ l h1 h2=>?_;by_cases hxm:x<m
 ·obtain⟨f1,f2⟩:=tX l m x hxm lo.m;exact .fld h.obj rfl rfl rfl<| .notin (t:=true) (f2▸r8.dct h1 f1:r8 V _ _ (some (HV.ref (l x))).isSome)<| .fld h.obj rfl rfl rfl<| .dct h1 f1 f2<|q _ V m (SB.refl _ _) (ai _) lo (ai _) hxm (h2 x hxm).1
 ·obtain rfl:x=m:=cn hx (bF.mp hxm);have hx4:x<4:=by unfold nP at hxn;split at hxn<;>lia
  refine kB (ul l 0 x hx4) λ f1 f2 U=>?_;refine .fld h.obj rfl rfl rfl<| .notin (t:=false) (f2▸r8.dct h1 f1:r8 V _ _ (none:Option HV).isSome) ⟨nl rfl,aR _ rfl λ V1 s1 e1 l1=>⟨nl rfl,aR _ l1 λ V2 s2 e2 l2=>cw.t ⟨nl rfl,rfl,?_⟩⟩⟩;have fin:∀(V3:aF) (o:Option HV),BS V V3 (bw hp x) []->kL bg (hW bg d) [.g (.sub (.a (.x 0) 50) (.x 1)) (.bi .sorted [.x 2])] [.val (.obj 1 p), .val (.int x), .val (.ref V.length), .val (.ref (V.length+1)),sl o] V3 (λ Y V=>kL bg (hW bg d) [.ret (some (.sub (.a (.x 0) 50) (.x 1)))] Y V (λ U V=>K .none V) K) K:=λ V3 o s=>by
   refine kB (ul l V3.length x hx4) λ f1 U f3=>?_;have hlen:=s.le.len;have h5:=br h1;refine srtL V3.length rfl s.f (cg _) (by unfold bw;split<;>exact nl rfl) λ V4 s4 e4 l4=>?_
   have t4:=s.le.trans s4;rw[show dW (bw hp x)=bw hp x by unfold bw;split<;>rfl] at e4
   refine .fld (t4 _ _ h.obj) rfl rfl rfl<|putD (t4 _ _ h1) f1 (db (by rw[List.length_range];lia)) λ V5 s5 e5 l5=>?_
   rw[f3] at e5;have t5:SB (p+5) V V5:=t4.sb.trans s5;obtain⟨g1,g2⟩:=tX (λ y=>if y=x then V3.length else l y) (x+1) x (aI x) hx4
   have e6:=s5 _ _ (aE (aw h5 hlen)) e4;refine .fld (t5 _ _ (cb (a:=0) rfl) h.obj) rfl rfl rfl<| .dct e5 g1 g2 ?_;rw[if_pos rfl];refine q _ V5 (x+1) t5 (by lia) ⟨⟨_,e5,λ y hy=>?_⟩,hx4,λ j hj=>⟨by have:=(lo.j j hj).1;lia,(lo.j j hj).2⟩⟩ (bG x) (aI x) e6
   by_cases hyx:y=x
   ·rw[if_pos hyx,hyx];exact⟨e6,λ hj=>aN (lo.j _ hj).1 (bF.mpr hlen),by lia⟩
   ·rw[if_neg hyx];have hy2:=h2 y (by lia)
    exact⟨t5 _ _ hy2.2.2 hy2.1,hy2.2⟩
  have s0:BS V V2 [] [(x:Int)]:=⟨s1.trans s2,s2 _ _ e1,e2⟩;by_cases hc:hp=true/\x=1
  ·obtain⟨rfl,rfl⟩:=hc;exact⟨3,r7 (o:= .none) (ys:=[]) (zs:=[3]) h hxn rfl s0 (nl rfl) (nl rfl) λ V3 s3=>r7 (y:=3) (o:=some _) (ys:=[]) (zs:=[]) h (by decide) rfl s3 (nl rfl) (nl rfl) λ V4 s4=>Bp s4 λ V5 s5=>fin V5 (some _) s5⟩
  ·have hk:CL (nP hp) x=[]:=by
    refine if_neg λ e=>hc ⟨?_,e.1⟩;cases hp with
    |true=>rfl
    |false=>exact nomatch e.2
   have hb:bw hp x=[(x:Int)]:=if_neg hc;rw[hb] at fin;exact⟨2,r7 (o:= .none) (ys:=[]) (zs:=[]) h hxn hk s0 (nl rfl) (nl rfl) λ V3 s3=>Bp s3 λ V5 s5=>fin V5 (some _) s5⟩
end
noncomputable def mK (iB p jd:Nat) (r:List (HV×HV)):List (HV×HV):=(.str 44, .obj 0 iB)::(.str 57, .obj 1 p)::(.str 58, .ref jd)::r
noncomputable def AP (F L:List Int):List Int:=L.flatMap λ x=>if F.contains (3*x+0) then[x] else[]
noncomputable def tB (F L:List Int) (s:Nat):List Int:=if s=3 then cA ((AP F L).flatMap λ x=>[3*x+0]) else cA (L.flatMap λ x=>[3*x+0,3*x+1,3*x+2])
noncomputable def tC (F L:List Int) (s:Nat):List Int:=if s=3 then cA ((AP F L).flatMap λ x=>[3*x+1]) else cA (L.flatMap λ x=>[3*x+(s:Int)])
noncomputable def Ef (F L:List Int) (s:Nat):List Int:=cA (eF F (tB F L s)++tC F L s)
noncomputable def FN (F L:List Int) (s:Nat):Bool:=decide (F.length<=4)&&(decide (F.length/4<=(tB F L s).length)||(tB F L s).isEmpty)&&decide ((tB F L s).length<100)&&decide ((eF F (tB F L s)).length+(tC F L s).length<=4)
theorem sk {f:Int->List Int} (h:∀x,(f x).length<=3):∀{L:List Int} {n:Nat},L.length<=n->(L.flatMap f).length<=3*n:=by
 intro l_
 induction l_ with
 |nil=>
  intro _ _;exact aO _
 |cons x r ih=>
  intro n hn
  induction n using Jq with
  |zero=>exact aN hn (hZ _)
  |succ n=>
   have h1:=h x;have h2:=ih (cu hn);rw[List.flatMap_cons,List.length_append];lia
section
variable{V:aF} {K:KV} {d p iB iW iM jd k3 x m s:Nat} {hp:Bool} {J:List Nat} {F:List Int}
theorem vK {X:Type} {L:List Int} {l:Nat} {bd:HV->bc->aF->List HV->(bc->aF->List HV->Prop)->Prop} {M:bc->aF->List HV->Prop} (hl:V[l]? =some (.list (L.map .int))) (st:X->bc) (h:Int->List Int) (hh:∀x,(h x).length<=3) (hL:L.length<=2) (a:X)
  (turn:∀x a (acc:List HV) (N':bc->aF->List HV->Prop),x∈L->acc.length<100->(∀a',N' (st a') V (acc++(h x).map .int))->bd (.int x) (st a) V acc N')
  (fin:∀a,M (st a) V ((L.flatMap h).map .int)):∃m,eA (.l l) bd m 0 (st a) V [] M:=by
 refine Df (Z:=List HV) st (λ k U V' acc=>V=V'/\acc=((L.take k).flatMap h).map .int) a ⟨rfl,rfl⟩ (λ k a V' b i=>i.1▸hl) ?_ ?_
 ·rintro k v a V' acc hv ⟨e1,e2⟩ N' q';subst e1 e2;rw[List.getElem?_map] at hv;refine aU (aZ.mp hv) λ x hx rq1=>?_;subst rq1;refine turn x a _ N' (ar hx) ?_ λ a'=>q' a' V _ ⟨rfl,?_⟩
  ·rw[List.length_map];exact aj (sk hh (ah (List.length_take_le' k L) hL)) (by decide)
  ·rw[List.take_add_one,hx,List.flatMap_append,List.map_append,<- List.flatMap_singleton h x];rfl
 ·rintro a V' acc ⟨e1,e2⟩;subst e1 e2;rw[List.length_map,List.take_length];exact fin a
theorem qH (hx:x<4):(∀a∈bw hp x,0<=a/\a<10)/\(bw hp x).length<=2:=by
 unfold bw
 split
 ·exact⟨λ a ha=>(aB.mp ha).elim (λ e=>e▸by decide) λ h=>al.mp h▸by decide,nl rfl⟩
 ·exact⟨λ a ha=>al.mp ha▸⟨dj x,by lia⟩,nl rfl⟩
theorem uM {L:List Int}:(∀a∈AP F L,a∈L)/\(AP F L).length<=L.length:=by
 induction L with
 |nil=>exact⟨(λ U h=>ii h),ai _⟩
 |cons y L ih=>
  have e:AP F (y::L)=(if F.contains (3*y+0) then[y] else[])++AP F L:=List.flatMap_cons
  rw[e];by_cases hc:F.contains (3*y+0)=true
  ·rw[if_pos hc];exact⟨λ a ha=>(aB.mp ha).elim (λ e=>e▸ .head _) λ h=> .tail _ (ih.1 a h),aX ih.2⟩
  ·rw[if_neg hc];exact⟨λ a ha=> .tail _ (ih.1 a ha),Nat.le_succ_of_le ih.2⟩
theorem Bz {a c:Int} (ha:0<=a/\a<10) (hc:0<=c/\c<10) (q:K (.int (3*a+c)) V):dh V (λ v V=>dh V K .add v (.int c)) .mul (.int 3) (.int a):=
 .mul (cq (by decide)) (iw ha.1 (di ha.2 (by decide)))<| .add (iw (Int.mul_nonneg (by decide) ha.1) (di (Int.mul_lt_mul_of_pos_left ha.2 (by decide)) (by decide))) (iw hc.1 (di hc.2 (by decide))) q
theorem eT (hm:V[iM]? =some (.dict (mK iB p jd []))) (h:PX V p iB iW hp k3) (lo:eI V p hp J m) (hx:x<=m) (hxn:x<nP hp) (hF:F.length<lim) (hs:s<4) (ht:FN F (bw hp x) s=true) (hd:2<=d)
  (q:∀V' m',SB (p+5) V V'->V.length<=V'.length->eI V' p hp J m'->m<=m'->x<m'->K (.w (Ef F (bw hp x) s)) V'):hW bg d 45 [.obj 2 iM, .w F, .int x, .int s] [] V K:=
 aP [.val (.obj 2 iM), .val (.w F), .val (.int x), .val (.int s), .empty, .empty, .empty] rfl rfl rfl hd λ d hd=> .fld hm rfl rfl rfl<| .own h.obj rfl rfl rfl<|qm h lo hx hxn hd λ j V1 m' s1 l1 lo1 hm' hxm e1=>by
 have hx4:x<4:=by unfold nP at hxn;split at hxn<;>lia
 refine cO (qH (hp:=hp) hx4) λ b1 b2=>?_;refine cO (aD.mp ht) λ ht t4=>?_;refine cO (aD.mp ht) λ ht t3=>?_;refine cO (aD.mp ht) λ t1 t2=>?_;have q:=λ V' (k:bt V1 V')=>q V' m' (s1.trans k.sb) (ah l1 k.len) (lo1.mono k) hm' hxm;unfold Ef at q;generalize bw hp x=L at*;have f1:∀{R:List Int} (c:Int),R.length<=2->(R.flatMap λ x=>[3*x+c]).length<lim:=λ c h=>aj (sk (λ U=>nl rfl) h) (by decide)
 refine .eq (.c rfl rfl) rfl<|zh (λ e=>?_) λ e=>?_
 ·have hs3:s=3:=by lia
  subst hs3;have r1:∀a∈AP F L,0<=a/\a<10:=λ a ha=>b1 a (uM.1 a ha);have r2:(AP F L).length<=2:=ah uM.2 b2;refine .l e1 (db (aj b2 (by decide)))<|vK e1 (λ o:Option HV=>[sl o, .ro (.w F)]) (λ x=>if F.contains (3*x+0) then[x] else[]) (λ x=>by split<;>exact nl rfl) b2 .none (λ x a acc N' hxL hacc n=>?_) λ a=>?_
  ·refine bM a rfl<|Bz (b1 x hxL) (by decide)<| .in_ (.fs hF) ?_
   have n:=n (some (.int x))
   induction hc:F.contains (3*x+0) using Jp with
   |true=>rw[hc] at n;exact⟨az hacc (by decide),n⟩
   |false=>rw[hc] at n;rw[show acc++((if false=true then[x] else[]):List Int).map HV.int=acc from List.append_nil _] at n;exact n
  ·refine aR _ rfl λ V2 s2 e2 l2=> .l e2 (db (aj r2 (by decide)))<|vK e2 (λ o:Option HV=>[sl o]) (λ x=>[3*x+0]) (λ x=>nl rfl) r2 .none (λ x a acc N' hxL hacc n=>bM a rfl<|Bz (r1 x hxL) (by decide) ⟨az hacc (by decide),n (some (.int x))⟩) λ a=>?_
   refine aR _ rfl λ V3 s3 e3 l3=> .fsL e3 (cg _) (f1 0 r2)<| .fsub (az (bq t3) (by decide)) (bq t1) t2 ?_
   refine .l (s3 _ _ e2) (db (aj r2 (by decide)))<|vK (s3 _ _ e2) (λ o:Option HV=>[sl o]) (λ x=>[3*x+1]) (λ x=>nl rfl) r2 .none (λ x a acc N' hxL hacc n=>bM a rfl<|Bz (r1 x hxL) (by decide) ⟨az hacc (by decide),n (some (.int x))⟩) λ a=>?_
   exact aR _ rfl λ V4 s4 e4 l4=> .fsL e4 (cg _) (f1 1 r2)<| .bor (bq t4)<|q V4 (s2.trans (s3.trans s4))
 ·have hs3:¬s=3:=λ h=>e (h▸rfl);have eB:tB F L s=cA (L.flatMap λ x=>[3*x+0,3*x+1,3*x+2]):=if_neg hs3;have eC:tC F L s=cA (L.flatMap λ x=>[3*x+(s:Int)]):=if_neg hs3;rw[eB] at t2 t3 t4 q;rw[eC] at t4 q;refine .l e1 (db (aj b2 (by decide)))<|vK e1 (λ o:Option HV×Option HV=>[sl o.1,sl o.2]) (λ x=>[3*x+0,3*x+1,3*x+2]) (λ x=>nl rfl) b2 (.none, .none) (λ x a acc N' hxL hacc n=>?_) λ a=>?_
  ·refine bM a.1 rfl<| .t (nl rfl) ⟨4, .st<|bM a.2 rfl<|Bz (b1 x hxL) (by decide) ⟨az hacc (by decide), .st<|Bz (b1 x hxL) (by decide) ⟨?_, .st<|Bz (b1 x hxL) (by decide) ⟨?_, .st ?_⟩⟩⟩⟩
   ·rw[List.length_append];exact az (Nat.add_lt_add_right hacc 1) (by decide)
   ·rw[List.length_append,List.length_append];exact az (Nat.add_lt_add_right (Nat.add_lt_add_right hacc 1) 1) (by decide)
   ·have n:=n (some (.int x),some (.int 2));rw[List.append_assoc,List.append_assoc];exact n
  ·refine aR _ rfl λ V3 s3 e3 l3=> .fsL e3 (cg _) (aj (sk (λ U=>nl rfl) b2) (by decide))<| .fsub (az (bq t3) (by decide)) (bq t1) t2 ?_
   refine .l (s3 _ _ e1) (db (aj b2 (by decide)))<|vK (s3 _ _ e1) (λ o:Option HV=>[sl o, .ro (.int s)]) (λ x=>[3*x+(s:Int)]) (λ x=>nl rfl) b2 .none (λ x a acc N' hxL hacc n=>bM a rfl<|Bz (b1 x hxL) (by lia) ⟨az hacc (by decide),n (some (.int x))⟩) λ a=>?_
   exact aR _ rfl λ V4 s4 e4 l4=> .fsL e4 (cg _) (f1 s b2)<| .bor (bq t4)<|q V4 (s3.trans s4)
end
noncomputable def dV:Option Ev->List HV
 |some .set=>[.t [.int 1, .int 0]]
 |some .use=>[.t [.int 2, .int 0]]
 |some .part=>[.t [.int 3, .int 0]]
 |some .drop=>[.t [.int 1, .int 3]]
 |_=>[]
inductive T3|r|m|u
noncomputable def T3.v:T3->Int
 | .r=>0
 | .m=>1
 | .u=>2
noncomputable def T3.dr:T3->T3
 | .r=> .m
 |x=>x
structure qV where
 (a b c:T3)
noncomputable def fV (hp:Bool) (s:qV):List Int:=[2,3+s.a.v,6+s.b.v]++if hp then[9+s.c.v] else[]
noncomputable def ms:Option Ev->qV->qV
 |some .set,s=>⟨.r,s.b, .r⟩
 |some .use,s=>⟨s.a, .r,s.c⟩
 |some .drop,s=>⟨s.a.dr,s.b,s.c.dr⟩
 |some .part,s=>⟨s.a,s.b, .r⟩
 |_,s=>s
noncomputable def EI (hp:Bool) (s:qV) (x t:Nat) (e:Ev):Bool:=FN (fV hp s) (bw hp x) t&&(Ef (fV hp s) (bw hp x) t==fV hp (ms (some e) s))
noncomputable def Hp (hp:Bool) (s:qV):Bool:=EI hp s 1 0 .set&&(EI hp s 2 0 .use&&(EI hp s 1 3 .drop&&(!hp||EI hp s 3 0 .part)))
noncomputable def B8 (f:T3->Bool):Bool:=f .r&&(f .m&&f .u)
theorem jR {f:T3->Bool} (h:B8 f=true) (x:T3):f x=true:=by
 refine cO (aD.mp h) λ h1 h=>?_;refine cO (aD.mp h) λ h2 h3=>?_;cases x
 ·exact h1
 ·exact h2
 ·exact h3
theorem Ce:(B8 λ a=>B8 λ b=>B8 λ c=>Hp false ⟨a,b,c⟩&&Hp true ⟨a,b,c⟩)=true:=by decide+kernel
theorem zQ (hp:Bool) (s:qV):Hp hp s=true:=by
 obtain⟨a,b,c⟩:=s;refine cO (aD.mp (jR (jR (jR Ce a) b) c)) λ h1 h2=>?_;cases hp
 ·exact h1
 ·exact h2
theorem fc {hp:Bool} {s:qV} {x t:Nat} {e:Ev} (h:EI hp s x t e=true):FN (fV hp s) (bw hp x) t=true/\Ef (fV hp s) (bw hp x) t=fV hp (ms (some e) s):=
 cO (aD.mp h) λ h1 h2=>⟨h1,eq_of_beq h2⟩
theorem xM (hp:Bool) (s:qV):(fV hp s).length<=4:=by rcases hp with _|_<;>exact nl rfl
section
variable{V:aF} {K:KV} {d p iW iM jd k3 b i:Nat} {hp:Bool} {B:BL} {κ:Option Ev} {bl ss:List HV} {r1 r2:Nat} {t:HV}
theorem xv (hm:V[iM]? =some (.dict (mK B.i p jd []))) (h:V[p]? =some (.dict (pK p B.i iW))) (hn:V[p+4]? =some (.dict (lT (nP hp)))) (pt:Pt V B b i κ bl ss r1 r2 t) (hpt:κ=some .part->hp=true) (hd:4<=d)
  (q:∀j V',bt V V'->V.length<=j->V'[j]? =some (.list (dV κ))->K (.ref j) V'):hW bg d 47 [.obj 2 iM,pV b i] [] V K:=
 aP [.val (.obj 2 iM), .val (pV b i), .empty, .empty, .empty, .empty, .empty] rfl rfl rfl hd λ d hd=>⟨nl rfl,aR _ rfl λ V1 s1 e1 l1=> .fld (s1 _ _ hm) rfl rfl rfl<|gS (pt.mono s1) (ah (by decide) hd)<|aR _ l1 λ V2 s2 e2 l2=>by
 have hd1:1<=d:=ah (by decide) hd
 have e1:=s2 _ _ e1;have s2:=s1.trans s2;have p2:=pt.mono s2;have hm:=s2 _ _ hm;have h:=s2 _ _ h;have hn:=s2 _ _ hn;have ho:∀x,x<nP hp->_:=λ x hx=>lp (nP hp) x hx (by unfold nP;split<;>decide)
 have h3:3<=nP hp:=by unfold nP;split<;>decide
 replace q:=λ V' (k:SB V.length V2 V')=>q V.length V' (s2.upd k (ai _)) (ai _)
 induction κ using qx with
 |n=>exact .l e2 (nl rfl) ⟨1, .l e2<| .fld hm rfl rfl rfl<|bx p2 hd1<| .fld hm rfl rfl rfl<|eh p2 hd1<|cw.t ⟨nl rfl,rfl, .fld hm rfl rfl rfl<|bv p2 hd1<| .n<| .n<| .n<|q V2 (SB.refl _ _) e1⟩⟩
 |r=>exact .l e2 (nl rfl) ⟨1, .l e2<| .fld hm rfl rfl rfl<|bx p2 hd1<| .fld hm rfl rfl rfl<|eh p2 hd1<|cw.t ⟨nl rfl,rfl, .fld hm rfl rfl rfl<|bv p2 hd1<| .n<| .n<| .n<|q V2 (SB.refl _ _) e1⟩⟩
 |d=>exact .l e2 (nl rfl) ⟨1, .l e2<| .fld hm rfl rfl rfl<|bx p2 hd1<| .fld hm rfl rfl rfl<|eh p2 hd1<|cw.t ⟨nl rfl,rfl, .fld hm rfl rfl rfl<|bv p2 hd1<| .n<| .fld hm rfl rfl rfl<| .own h rfl rfl rfl<|i7 (l:=1) (s:=false) h hn (ho 1 (by lia)) (ah (by decide) hd)<| .l e1 rfl rfl<| .fld hm rfl rfl rfl<| .own h rfl rfl rfl<|eL (l:=1) (s:=false) h hn (ho 1 (by lia)) (ah (by decide) hd)<|dB e1 (nl rfl) λ V3 s3 e3 U=> .n<| .n<|q V3 s3 e3⟩⟩
 |s=>exact .l e2 (nl rfl) ⟨2, .l e2<| .t (nl rfl) rfl rfl<| .eq (.c rfl rfl) rfl<| .l e2<| .fld hm rfl rfl rfl<|bx p2 hd1<| .fld hm rfl rfl rfl<|eh p2 hd1<|cw.t ⟨nl rfl,rfl, .fld hm rfl rfl rfl<|bv p2 hd1<| .n<| .n<| .n<| .fld hm rfl rfl rfl<| .own h rfl rfl rfl<|i7 (l:=1) (s:=false) h hn (ho 1 (by lia)) (ah (by decide) hd)<| .l e1 rfl rfl<| .fld hm rfl rfl rfl<| .own h rfl rfl rfl<|eL (l:=1) (s:=false) h hn (ho 1 (by lia)) (ah (by decide) hd)<|dB e1 (nl rfl) λ V3 s3 e3 U=>q V3 s3 e3⟩⟩
 |u=>exact .l e2 (nl rfl) ⟨2, .l e2<| .t (nl rfl) rfl rfl<| .eq (.c rfl rfl) rfl<| .l e2<| .fld hm rfl rfl rfl<|bx p2 hd1<| .fld hm rfl rfl rfl<|eh p2 hd1<|cw.t ⟨nl rfl,rfl, .fld hm rfl rfl rfl<|bv p2 hd1<| .n<| .n<| .n<| .fld hm rfl rfl rfl<| .own h rfl rfl rfl<|i7 (l:=2) (s:=false) h hn (ho 2 (by lia)) (ah (by decide) hd)<| .l e1 rfl rfl<| .fld hm rfl rfl rfl<| .own h rfl rfl rfl<|eL (l:=2) (s:=false) h hn (ho 2 (by lia)) (ah (by decide) hd)<|dB e1 (nl rfl) λ V3 s3 e3 U=>q V3 s3 e3⟩⟩
 |p=>
  have hpt:=hpt rfl;subst hpt;exact .l e2 (nl rfl) ⟨2, .l e2<| .t (nl rfl) rfl rfl<| .eq (.c rfl rfl) rfl<| .l e2<| .fld hm rfl rfl rfl<|bx p2 hd1<| .fld hm rfl rfl rfl<|eh p2 hd1<|cw.t ⟨nl rfl,rfl, .fld hm rfl rfl rfl<|bv p2 hd1<| .n<| .n<| .n<| .fld hm rfl rfl rfl<| .own h rfl rfl rfl<|i7 (l:=1) (s:=true) h hn (ho 3 (by decide)) (ah (by decide) hd)<| .l e1 rfl rfl<| .fld hm rfl rfl rfl<| .own h rfl rfl rfl<|eL (l:=1) (s:=true) h hn (ho 3 (by decide)) (ah (by decide) hd)<|dB e1 (nl rfl) λ V3 s3 e3 U=>q V3 s3 e3⟩⟩⟩
end
structure MF (σs V0:aF) (B:BL) (told:HV) (bs:List (List Ev)) (ra:RA) (ws:List Ev) (iM p iW:Nat) (hp:Bool) (k3 jd:Nat):Prop where
 body:bR σs B told bs ra
 shp:fO ws bs
 le:bt σs V0
 low:σs.length<=p
 hpt:Ev.part∈ws->hp=true
 obj:V0[iM]? =some (.dict (mK B.i p jd []))
 px:PX V0 p B.i iW hp k3
 done:∃kd,V0[jd]? =some (.dict kd)/\(∀kv∈kd,∃b,kv.1=fy b)/\∀c,lr bs c->∃l,bA (fy c) kd=some (.ref l)/\V0[l]? =some (.list (dV (fC bs c.1 c.2)))/\l≠p+5
 im:iM<p
 jd:jd≠p+5
structure Dy (V0:aF) (p:Nat) (hp:Bool) (J:List Nat) (V:aF):Prop where
 fr:SB (p+5) V0 V
 lo:∃m,3<=m/\eI V p hp J m
noncomputable def ij (ws:List Ev) (k:Nat):qV:=(ws.take k).foldl (λ s e=>ms (some e) s) ⟨.u, .u, .u⟩
theorem rp (ws:List Ev) (k:Nat):ij ws (k+1)=ms ws[k]? (ij ws k):=by
 unfold ij;rw[List.take_add_one,List.foldl_append];cases ws[k]? <;>rfl
section
variable{σs V0 V:aF} {K:KV} {d p iW iM jd k3 b i:Nat} {hp:Bool} {B:BL} {told:HV} {bs:List (List Ev)} {ra:RA} {ws:List Ev} {J:List Nat}
theorem Dy.mono {V':aF} (h:Dy V0 p hp J V) (k:bt V V'):Dy V0 p hp J V':=⟨h.fr.trans k.sb,h.lo.imp λ U l=>⟨l.1,l.2.mono k⟩⟩
theorem Dy.own {V':aF} {j:Nat} (h:Dy V0 p hp J V) (hj:j∈J) (hl:V0.length<=j) (k:SB j V V') (e:V'.length=V.length):Dy V0 p hp J V':=
 ⟨λ i o n ei=>k i o (aH (aw (br ei) hl)) (h.fr i o n ei),h.lo.imp λ U l=>⟨l.1,l.2.own hj k e⟩⟩
theorem Dy.add {V':aF} {j:Nat} (h:Dy V0 p hp J V) (k:bt V V') (hj:V.length<=j/\j<V'.length):Dy V0 p hp (j::J) V':=⟨h.fr.trans k.sb,h.lo.imp λ U l=>⟨l.1,l.2.add k hj⟩⟩
theorem Dy.del {j:Nat} (h:Dy V0 p hp (j::J) V):Dy V0 p hp J V:=⟨h.fr,h.lo.imp λ U l=>⟨l.1,l.2.del⟩⟩
theorem Dy.jl {j:Nat} (h:Dy V0 p hp J V) (hj:j∈J):j<V.length/\j≠p+5:=h.lo.elim λ U l=>l.2.j j hj
theorem MF.bd (mf:MF σs V0 B told bs ra ws iM p iW hp k3 jd) (d:Dy V0 p hp J V):bR V B told bs ra:=mf.body.mono (mf.le.upd d.fr (ah mf.low (ay _ _)))
theorem MF.ob (mf:MF σs V0 B told bs ra ws iM p iW hp k3 jd) (d:Dy V0 p hp J V):V[iM]? =some (.dict (mK B.i p jd [])):=d.fr _ _ (aH (aw mf.im (ay _ _))) mf.obj
theorem qN {l:Nat} {kd:List (HV×HV)} (hm:V[iM]? =some (.dict (mK B.i p jd []))) (hk:V[jd]? =some (.dict kd)) (h1:bp (pV b i) kd=true) (h2:bA (pV b i) kd=some (.ref l)) (hd:1<=d) (q:K (.ref l) V):hW bg d 46 [.obj 2 iM,pV b i] [] V K:=
 aP [.val (.obj 2 iM), .val (pV b i)] rfl rfl rfl hd λ d hd=> .fld hm rfl rfl rfl<| .dct hk h1 h2 q
theorem tR (mf:MF σs V0 B told bs ra ws iM p iW hp k3 jd) (dy:Dy V0 p hp J V) {e:List Ev} (hb:bs[b]? =some e) (hi:i<=e.length) (s:qV) (hd:3<=d)
  (q:∀V',SB (p+5) V V'->Dy V0 p hp J V'->V.length<=V'.length->K (.w (fV hp (ms (fC bs b i) s))) V'):hW bg d 48 [.obj 2 iM, .w (fV hp s), .int b, .int i] [] V K:=
 aP [.val (.obj 2 iM), .val (.w (fV hp s)), .val (.int b), .val (.int i), .empty, .empty] rfl rfl rfl hd λ d hd=>by
 have hm:=mf.ob dy;refine gn mf.done λ kd k1 k2 kk=>?_;refine gn (kk (b,i) ⟨e,hb,hi⟩) λ l k4 k5 k6=>?_;have hpt:fC bs b i=some .part->hp=true:=λ h=>mf.hpt (ar ((mf.shp.kd b i e hb hi).1.symm.trans h));dsimp only at k5;refine .own hm rfl rfl rfl<|qN hm (dy.fr _ _ mf.jd k1) (iq.ok (b,i) _ k2) k4 (ah (by decide) hd) ?_
 have px:=mf.px.sb dy.fr;have fl:(fV hp s).length<lim:=aj (xM hp s) (by decide)
 refine aU dy.lo λ m hm3 lo=>?_;have h3:3<=nP hp:=by unfold nP;split<;>decide
 have go:∀V' m',SB (p+5) V V'->V.length<=V'.length->eI V' p hp J m'->m<=m'->K (.w (fV hp (ms (fC bs b i) s))) V':=λ V' m' s1 l1 lo1 hm'=>q V' s1 ⟨dy.fr.trans s1,m',ah hm3 hm',lo1⟩ l1;have e1:=dy.fr _ _ k6 k5;obtain⟨o1,ok⟩:=aD.mp (zQ hp s);refine cO (aD.mp ok) λ o2 ok=>?_;obtain⟨o3,o4⟩:=aD.mp ok;clear q;revert e1 go hpt;generalize fC bs b i=κ;intro hpt go e1
 induction κ using qx with
 |n=>exact .l e1 (nl rfl) ⟨1, .l e1<|go V m (SB.refl _ _) (ai _) lo (ai _)⟩
 |r=>exact .l e1 (nl rfl) ⟨1, .l e1<|go V m (SB.refl _ _) (ai _) lo (ai _)⟩
 |s=>exact .l e1 (nl rfl) ⟨2, .l e1<|eP .none .none rfl rfl<| .own hm rfl rfl rfl<|eT (x:=1) (s:=0) hm px lo (ah (by decide) hm3) (ah (by decide) h3) fl (by decide) (fc o1).1 hd λ V' m' s1 l1 lo1 hm' U=> .l (s1 _ _ k6 e1)<|(fc o1).2▸go V' m' s1 l1 lo1 hm'⟩
 |u=>exact .l e1 (nl rfl) ⟨2, .l e1<|eP .none .none rfl rfl<| .own hm rfl rfl rfl<|eT (x:=2) (s:=0) hm px lo (ah (by decide) hm3) (ah (by decide) h3) fl (by decide) (fc o2).1 hd λ V' m' s1 l1 lo1 hm' U=> .l (s1 _ _ k6 e1)<|(fc o2).2▸go V' m' s1 l1 lo1 hm'⟩
 |d=>exact .l e1 (nl rfl) ⟨2, .l e1<|eP .none .none rfl rfl<| .own hm rfl rfl rfl<|eT (x:=1) (s:=3) hm px lo (ah (by decide) hm3) (ah (by decide) h3) fl (by decide) (fc o3).1 hd λ V' m' s1 l1 lo1 hm' U=> .l (s1 _ _ k6 e1)<|(fc o3).2▸go V' m' s1 l1 lo1 hm'⟩
 |p=>
  have hpt:=hpt rfl;subst hpt;exact .l e1 (nl rfl) ⟨2, .l e1<|eP .none .none rfl rfl<| .own hm rfl rfl rfl<|eT (x:=3) (s:=0) hm px lo hm3 (by decide) fl (by decide) (fc o4).1 hd λ V' m' s1 l1 lo1 hm' U=> .l (s1 _ _ k6 e1)<|(fc o4).2▸go V' m' s1 l1 lo1 hm'⟩
theorem sB (mf:MF σs V0 B told bs ra ws iM p iW hp k3 jd) (dy:Dy V0 p hp J V) (hb:b<bs.length) (hd:4<=d)
  (q:∀V',SB (p+5) V V'->Dy V0 p hp J V'->V.length<=V'.length->K (.w (fV hp (ij ws (fi bs (b+1))))) V'):hW bg d 23 [.obj 0 B.i, .w (fV hp (ij ws (fi bs b))), .int b, .meth 48 2 iM] [] V K:=
 aP [.val (.obj 0 B.i), .val (.w (fV hp (ij ws (fi bs b)))), .val (.int b), .val (.meth 48 2 iM), .empty] rfl rfl rfl hd λ d hd=>by
 have hbk:bs[b]? =some bs[b]:=ak hb;have pt:=(mf.bd dy).pt hbk (aO _);have hsz:=mf.body.sz.2 _ (ar hbk);refine .fld pt.obj rfl rfl rfl<|cB pt.blk pt.bll pt.hb<| .l pt.h1 (nl rfl) rfl rfl<| .lenL pt.h2 pt.ssl<| .add (Gv (by rw[List.length_map];exact lw hsz rfl)) (cq (by decide)) ?_
 rw[List.length_map];refine mc (n:=bs[b].length+1) (aj hsz (by decide)) (λ a:qV×Option HV=>[.val (.obj 0 B.i), .val (.w (fV hp a.1)), .val (.int b), .val (.meth 48 2 iM),sl a.2]) (λ j a V'=>a.1=ij ws (pos bs b j)/\SB (p+5) V V'/\Dy V0 p hp J V'/\V.length<=V'.length) (ij ws (fi bs b),none) ⟨rfl,SB.refl _ _,dy,ai _⟩ ?_ ?_
 ·intro j a V1 hj hq1 N' q';refine pG hq1 λ e1 s1 d1 l1=>?_;refine bM a.2 rfl<|tR mf d1 hbk (bC hj) a.1 hd λ V2 s2 d2 l2=>q' (_,some (.int j)) V2 ⟨?_,s1.trans s2,d2,ah l1 l2⟩;rw[(mf.shp.kd b j _ hbk (Nat.le_of_lt_succ hj)).1,e1];exact(rp ws (pos bs b j)).symm
 ·intro a V1 hq2;refine pG hq2 λ e1 s1 d1 l1=>?_;have e2:a.1=ij ws (fi bs (b+1)):=e1.trans (am (ij ws) (mf.shp.nxt b _ hbk).symm);have q:=q V1 s1 d1 l1;rw[<- e2] at q;exact q
end
noncomputable def Fk (hp:Bool):Nat->List Int
 |0=>[]
 |k+1=>Ef (Fk hp k) (bw hp k) 2
theorem Cf:∀(hp:Bool) k,k<3->FN (Fk hp k) (bw hp k) 2=true:=
 λ hp _ h=>GO h (by revert hp;decide) (by revert hp;decide) (by revert hp;decide)
theorem Ii:∀hp:Bool,Fk hp 3=fV hp ⟨.u, .u, .u⟩:=by decide
theorem A8 {F L:List Int} {s:Nat} (h:FN F L s=true):F.length<lim:=
 aj (bq (aD.mp (aD.mp (aD.mp h).1).1).1) (by decide)
noncomputable def wG (hp:Bool) (ws:List Ev) (bs:List (List Ev)) (t:Nat):List HV:=(List.range bs.length).map λ b=>if b<=t then .w (fV hp (ij ws (fi bs b))) else .none
section
variable{σs V0 V:aF} {K:KV} {d p iW iM jd k3 b i t:Nat} {hp:Bool} {B:BL} {told:HV} {bs:List (List Ev)} {ra:RA} {ws:List Ev} {J:List Nat}
theorem MF.up (mf:MF σs V0 B told bs ra ws iM p iW hp k3 jd) (dy:Dy V0 p hp J V):MF σs V B told bs ra ws iM p iW hp k3 jd/\Dy V p hp J V:=
 ⟨⟨mf.body,mf.shp,mf.le.upd dy.fr (ah mf.low (ay _ _)),mf.low,mf.hpt,mf.ob dy,mf.px.sb dy.fr,mf.done.imp λ U k=>⟨dy.fr _ _ mf.jd k.1,k.2.1,λ c hc=>(k.2.2 c hc).imp λ U l=>⟨l.1,dy.fr _ _ l.2.2 l.2.1,l.2.2⟩⟩,mf.im,mf.jd⟩,SB.refl _ _,dy.lo⟩
theorem yB (hb:bR σs B told bs ra) (hle:bt σs V) (hlow:σs.length<=p) (him:iM<p) (hm:V[iM]? =some (.dict (mK B.i p jd []))) (h:PX V p B.i iW hp k3) (lo:eI V p hp J 0) (hd:4<=d)
  (q:∀V',SB (p+5) V V'->V.length<=V'.length->(∃m,3<=m/\eI V' p hp J m)->K (.w (fV hp ⟨.u, .u, .u⟩)) V'):hW bg d 44 [.obj 2 iM] [] V K:=
 aP [.val (.obj 2 iM), .empty, .empty, .empty] rfl rfl rfl hd λ d hd=> .fs0<| .fld hm rfl rfl rfl<| .fld (hle _ _ hb.obj) rfl rfl rfl<| .lenL (hle _ _ hb.loc) (nl rfl)<|by
 refine mc (n:=3) (nl rfl) (λ a:List Int×Option HV×Option HV=>[.val (.obj 2 iM), .val (.w a.1),sl a.2.1,sl a.2.2]) (λ k a V'=>a.1=Fk hp k/\SB (p+5) V V'/\V.length<=V'.length/\∃m,k<=m/\eI V' p hp J m) ([],none,none) ⟨rfl,SB.refl _ _,ai _,0,ai _,lo⟩ ?_ ?_
 ·rintro k a V1 hk ⟨e1,s1,l1,m,hkm,lo1⟩ N' q';have hm1:=s1 _ _ (aH (aw him (ay _ _))) hm;have b1:=hb.mono (hle.upd s1 (ah hlow (ay _ _)));have h1:=h.sb s1;have hk3:k<nP hp:=aw hk (by unfold nP;split<;>decide)
  have tk:=Cf hp k hk;rw[<- e1] at tk;have rest:kL bg (hW bg d) [.g (.x 1) (.m (.x 0) 63 [.x 1,.m (.a (.x 0) 57) 64 [.t [.x 2,.t []]],.ite (.x 3) (.k (.int 0)) (.k (.int 2))])] [.val (.obj 2 iM), .val (.w a.1), .val (.int k), .val (.bool false)] V1 N' K:=by
   refine .own hm1 rfl rfl rfl<| .fld hm1 rfl rfl rfl<| .own h1.obj rfl rfl rfl<|eL (l:=k) (s:=false) h1.obj h1.nm (Gq k hk▸lp (nP hp) k hk3 (by unfold nP;split<;>decide)) hd<|eT (x:=k) (s:=2) hm1 h1 lo1 hkm hk3 (A8 tk) (by decide) tk (ah (by decide) hd) λ V2 m2 s2 l2 lo2 hm2 hxm=>?_
   exact q' (Ef a.1 (bw hp k) 2,some (.int k),some (.bool false)) V2 ⟨by rw[e1];rfl,s1.trans s2,ah l1 l2,m2,hxm,lo2⟩
  refine bM a.2.1 rfl<| .lt<|zh (λ h0=> .fld hm1 rfl rfl rfl<| .fld b1.obj rfl rfl rfl<| .le ?_) λ h0=>eG a.2.2 rfl rest;rw[decide_eq_false (Int.not_le.mpr h0)];exact eG a.2.2 rfl rest
 ·intro a V1 hq2;refine pG hq2 λ e1 s1 l1 r=>?_;have q:=q V1 s1 l1 r;rw[<- Ii,<- e1] at q;exact q
theorem hK (h:b<bs.length):(wG hp ws bs t)[b]? =some (if b<=t then .w (fV hp (ij ws (fi bs b))) else .none):=eM h
theorem g6:(wG hp ws bs t).length=bs.length:=fQ
theorem p8 {xs:List HV} (hl:xs.length=bs.length) (h:∀b,b<bs.length->xs[b]? =some (if b<=t then .w (fV hp (ij ws (fi bs b))) else .none)):xs=wG hp ws bs t:=List.ext_getElem? λ b=>by
 by_cases hb:b<bs.length
 ·rw[h b hb,hK hb]
 ·rw[List.getElem?_eq_none (Nat.le_trans (Nat.le_of_eq hl) (Nat.not_lt.mp hb)),List.getElem?_eq_none (Nat.le_trans (Nat.le_of_eq g6) (Nat.not_lt.mp hb))]
theorem zG (h:t+1<bs.length):(wG hp ws bs t).set (t+1) (.w (fV hp (ij ws (fi bs (t+1)))))=wG hp ws bs (t+1):=p8 (by rw[List.length_set,g6]) λ b hb=>by
 by_cases hm:t+1=b
 ·rw[<- hm,List.getElem?_set_self (by rw[g6];exact h),if_pos (Nat.le_refl _)]
 ·rw[List.getElem?_set_ne hm,hK hb];by_cases h2:b<=t
  ·rw[if_pos h2,if_pos (Nat.le_succ_of_le h2)]
  ·rw[if_neg h2,if_neg (by lia)]
theorem yQ {s:Nat} (h:bs.length<=t+1) (hs:t<=s):wG hp ws bs t=wG hp ws bs s:=p8 g6 λ b hb=>by
 rw[hK hb,if_pos (by lia),if_pos (by lia)]
theorem wg (h:0<bs.length):(List.replicate bs.length HV.none).set 0 (.w (fV hp (ij ws 0)))=wG hp ws bs 0:=p8 (by rw[List.length_set,List.length_replicate]) λ b hb=>by
 induction b using Jq with
 |zero=>rw[List.getElem?_set_self (by rw[List.length_replicate];exact h)];rfl
 |succ b=>rw[List.getElem?_set_ne (by lia),List.getElem?_replicate,if_pos hb,if_neg (Nat.not_succ_le_zero b)]
end
noncomputable abbrev gM (hp:Bool) (ws:List Ev) (bs:List (List Ev)) (c:Pp):HV:= .w (fV hp (ij ws (pos bs c.1 c.2)))
section
variable{σs V0 V:aF} {K:KV} {d p iW iM jd k3 b i t:Nat} {hp:Bool} {B:BL} {told:HV} {bs:List (List Ev)} {ra:RA} {ws:List Ev} {J:List Nat}
theorem lx (h:bR σs B told bs ra):(wG hp ws bs t).length<lim:=by rw[g6];exact az h.sz.1 (by decide)
theorem we (mf:MF σs V B told bs ra ws iM p iW hp k3 jd) (dy:Dy V p hp J V) (hd:5<=d) (q:∀j V',Dy V p hp J V'->V.length<=j->V'[j]? =some (.list (wG hp ws bs bs.length))->K (.ref j) V'):
  hW bg d 24 [.obj 0 B.i, .w (fV hp (ij ws 0)), .meth 48 2 iM, .fn 22] [] V K:=
 aP [.val (.obj 0 B.i), .val (.w (fV hp (ij ws 0))), .val (.meth 48 2 iM), .val (.fn 22), .empty, .empty, .empty, .empty, .empty, .empty, .empty] rfl rfl rfl hd λ d hd=>⟨nl rfl,aR _ rfl λ V1 s1 e1 l1=>by
 have hb:=mf.bd dy;have hL:=hb.sz.1;have hp5:p+5<V.length:=(aU dy.lo λ _ _ lo=>aU lo.h λ _ h1 _=>br h1);refine .fld (s1 _ _ hb.obj) rfl rfl rfl<| .lenL (s1 _ _ hb.blk) hb.blm ?_;rw[hb.bll];refine EH _ l1 e1 (az hL (by decide)) λ V2 s2 e2 l2=>?_
 refine putL (j:=0) e2 (by rw[List.length_replicate];exact az hL (by decide)) (by rw[List.length_replicate];exact mf.shp.ne) λ V3 s3 e3 l3=>?_
 rw[wg mf.shp.ne] at e3;have d3:Dy V p hp ((V.length+1)::J) V3:=Dy.own (dy.add (s1.trans s2) ⟨bG _,by lia⟩) (.head _) (bG _) s3 l3
 refine⟨nl rfl,aR (V.length+2) (l3.trans l2) λ V4 s4 e4 l4=>?_⟩;have d4:Dy V p hp ((V.length+2)::(V.length+1)::J) V4:=d3.add s4 ⟨by lia,by lia⟩
 have jF:V.length+1∈(V.length+2)::(V.length+1)::J:= .tail _ (.head _);have jG:V.length+2∈(V.length+2)::(V.length+1)::J:= .head _;refine Ix bs.length (λ a:Option HV×Option HV×Option HV×Option HV×Option HV=>[.val (.obj 0 B.i), .val (.w (fV hp (ij ws 0))), .val (.meth 48 2 iM), .val (.fn 22), .val (.ref (V.length+1)), .val (.ref (V.length+2)),sl a.1,sl a.2.1,sl a.2.2.1,sl a.2.2.2.1,sl a.2.2.2.2])
  (λ m U V'=>m<=bs.length/\Dy V p hp ((V.length+2)::(V.length+1)::J) V'/\V'[V.length+1]? =some (.list (wG hp ws bs (bs.length - m)))/\V'[V.length+2]? =some (.list (if m=0 then[] else[.int (bs.length - m:Nat)]))) (none,none,none,none,none)
  ⟨ai _,d4,by rw[Nat.sub_self];exact s4 _ _ e3,by rw[if_neg (Nat.ne_of_gt mf.shp.ne),Nat.sub_self];exact e4⟩ ?_
 rintro m a O ⟨hm,dτ,v1,v2⟩ N' q'
 induction m using Jq with
 |zero=>exact⟨nl rfl,aR _ rfl λ O1 w1 f1 k1=> .ne (.l (w1 _ _ v2) f1 rfl rfl)<|q _ O1 (dτ.mono w1).del.del (bG _) (w1 _ _ v1)⟩
 |succ m=>
  rw[if_neg (Nat.succ_ne_zero m)] at v2;have ht:bs.length - (m+1)<bs.length:=Nat.sub_lt_of_pos_le (cD _) hm;have htm:bs.length - m=bs.length - (m+1)+1:=IP hm;have q':=q' m;rw[htm] at q';generalize bs.length - (m+1)=t at*;refine⟨nl rfl,aR _ rfl λ O1 w1 f1 k1=> .ne (.l (w1 _ _ v2) f1 rfl rfl)<| .l (w1 _ _ v2) rfl rfl<|Dk (w1 _ _ v2) (nl rfl) rfl λ O2 w2 f2 k2=>eG a.1 rfl ?_⟩;have v1:=w2 _ _ (cb rfl) (w1 _ _ v1);have d2:=(dτ.mono w1).own jG (ay _ _) w2 k2;refine cB (k:=t) v1 (lx hb) (hK ht) ?_;rw[if_pos (Nat.le_refl t)];have hb2:=mf.bd d2;refine sB mf d2 ht hd λ O3 w3 d3 k3=>eG a.2.1 rfl ?_;have v1:=w3 _ _ (by lia) v1
  have f2:=w3 _ _ (by lia) f2
  have pt:=(mf.bd d3).pt (ak ht) (aO _);refine .fld pt.obj rfl rfl rfl<|cB pt.blk pt.bll pt.hb<| .l pt.h1 (nl rfl) rfl rfl<|pe _ _ (ah (by decide) hd) λ j O4 w4 k4 f4=>?_
  have v1:=w4 _ _ v1;have f2:=w4 _ _ f2;have d4:=d3.mono w4;have jF':=(d4.jl jF).1;have jG':=(d4.jl jG).1;have jF3:=(d3.jl jF).1;have jG3:=(d3.jl jG).1;unfold Et at f4;by_cases h1:t+1<bs.length
  ·rw[if_pos h1] at f4;have hm0:¬m=0:=I0 htm h1;refine .l f4 (nl rfl) ⟨2, .l f4<|bM a.2.2.1 rfl<|cB (k:=t+1) v1 (lx hb) (hK h1) ?_⟩;rw[if_neg (Nat.not_succ_le_self t)];refine eG a.2.2.2.1 rfl<| .is_<|eG a.2.2.2.2 rfl<| .is_<|putL (j:=t+1) v1 (lx hb) (by rw[g6];exact h1) λ O5 w5 f5 k5=>?_
   rw[zG h1] at f5;have f2:=w5 _ _ (cb rfl) f2;have d5:=d4.own jF (bG _) w5 k5;refine .notin (t:=false) (.l f2 rfl)<| .l f2 rfl rfl<|dB f2 (nl rfl) λ O6 w6 f6 k6=> .l (w6 _ _ (by lia) (w5 _ _ (by lia) f4))<|q' (some (.int t),some (.w (fV hp (ij ws (fi bs (t+1))))),some (.int (t+1:Nat)),some .none,some (.w (fV hp (ij ws (fi bs (t+1)))))) O6 (aI m) ⟨Nat.le_of_succ_le hm,d5.own jG (ay _ _) w6 k6,w6 _ _ (cb rfl) f5,?_⟩
   rw[if_neg hm0];exact f6
  ·rw[if_neg h1] at f4;have hm0:m=0:=I7 htm ht h1;refine .l f4 (nl rfl) ⟨1, .l f4<|q' (some (.int t),some (.w (fV hp (ij ws (fi bs (t+1))))),a.2.2.1,a.2.2.2.1,a.2.2.2.2) O4 (aI m) ⟨Nat.le_of_succ_le hm,d4,?_,?_⟩⟩
   ·rw[<- yQ (Nat.not_lt.mp h1) (Nat.le_succ t)];exact v1
   ·rw[if_pos hm0];exact f2⟩
theorem Bf (mf:MF σs V B told bs ra ws iM p iW hp k3 jd) (dy:Dy V p hp J V) {jf:Nat} (hj:jf≠p+5) (hf:V[jf]? =some (.list (wG hp ws bs bs.length))) (hd:4<=d) (q:∀j V',Dy V p hp J V'->V.length<=j->DA V' j (gM hp ws bs) 500 (lr bs)->K (.ref j) V'):
  hW bg d 25 [.obj 0 B.i, .ref jf, .meth 48 2 iM] [] V K:=
 aP [.val (.obj 0 B.i), .val (.ref jf), .val (.meth 48 2 iM), .empty, .empty, .empty, .empty] rfl rfl rfl hd λ d hd=>⟨nl rfl,gq<|aR _ rfl λ V1 s1 e1 l1=>by
 have hb:=mf.bd dy;have hL:=hb.sz.1;have hp5:p+5<V.length:=(aU dy.lo λ _ _ lo=>aU lo.h λ _ h1 _=>br h1);have jD:V.length∈V.length::J:= .head _;refine .fld (s1 _ _ hb.obj) rfl rfl rfl<| .lenL (s1 _ _ hb.blk) hb.blm ?_;rw[hb.bll];refine mc (az hL (by decide)) (λ a:Option HV×Option HV×Option HV=>[.val (.obj 0 B.i), .val (.ref jf), .val (.meth 48 2 iM), .val (.ref V.length),sl a.1,sl a.2.1,sl a.2.2])
  (λ k U V'=>Dy V p hp (V.length::J) V'/\DA V' V.length (gM hp ws bs) (k*21) λ c=>c.1<k/\lr bs c) (none,none,none) ⟨dy.add s1 ⟨ai _,by lia⟩,(DA.new e1).imp (λ c q=>aN q.1 (a0 _)) (aO _)⟩ ?_ ?_
 ·intro k a O hk hq2 N' q';refine cO hq2 λ v1 v2=>?_;have hbk:bs[k]? =some bs[k]:=ak hk;have hek:=hb.sz.2 _ (ar hbk);have pt:=(mf.bd v1).pt hbk (aO _);refine bM a.1 rfl<|cB (k:=k) (v1.fr _ _ hj hf) (lx hb) (hK hk) ?_;rw[if_pos (Nat.le_of_lt hk)];refine eG a.2.1 rfl<| .n<| .fld pt.obj rfl rfl rfl<|cB pt.blk pt.bll pt.hb<| .l pt.h1 (nl rfl) rfl rfl<| .lenL pt.h2 pt.ssl<| .add (Gv (by rw[List.length_map];exact lw hek rfl)) (cq (by decide)) ?_
  rw[List.length_map];refine mc (n:=bs[k].length+1) (aj hek (by decide)) (λ c:qV×Option HV=>[.val (.obj 0 B.i), .val (.ref jf), .val (.meth 48 2 iM), .val (.ref V.length), .val (.int k), .val (.w (fV hp c.1)),sl c.2])
   (λ j c V'=>c.1=ij ws (pos bs k j)/\Dy V p hp (V.length::J) V'/\DA V' V.length (gM hp ws bs) (k*21+j) λ c=>(c.1<k/\lr bs c)\/(c.1=k/\c.2<j/\lr bs c)) (ij ws (fi bs k),a.2.2)
   ⟨rfl,v1,v2.imp (λ c q=>q.elim id λ q=>aN q.2.1 (a0 _)) (ai _)⟩ ?_ ?_
  ·intro j c O1 hj hq3 N2 q2;refine kB hq3 λ e2 w1 w2=>?_;refine bM c.2 rfl<|w2.put (k,j) (by rw[e2]) (aj (dz (hY 21 (bP (az hk hL))) (bP (aw hj hek))) (by decide)) λ O2 x2 w3 k2=>?_
   have d2:=w1.own jD (ai _) x2 k2;refine tR mf d2 hbk (bC hj) c.1 hd λ O3 x3 d3 U=>q2 (_,some (.int j)) O3 ⟨?_,d3,(w3.sb x3 (aE hp5)).imp (λ c' q=>?_) (ai _)⟩
   ·rw[(mf.shp.kd k j _ hbk (Nat.le_of_lt_succ hj)).1,e2];exact(rp ws (pos bs k j)).symm
   ·refine q.elim (λ q=> .inl (.inl q)) λ q=>?_;by_cases hij:c'.2=j
    ·exact .inr (Prod.ext q.1 hij)
    ·exact .inl (.inr ⟨q.1,by lia,q.2.2⟩)
  ·intro c O1 hq4;refine kB hq4 λ e2 w1 w2=>?_;refine q' (some (.int k),some (.w (fV hp c.1)),c.2) O1 ⟨w1,w2.imp (λ c q=>?_) (by rw[Nat.succ_mul];exact ca (ah hek (by decide)) _)⟩
   by_cases hbk2:c.1=k
   ·refine aU q.2 λ e he hie=>?_;refine .inr ⟨hbk2,?_,q.2⟩;rw[hbk2,hbk] at he;cases he;exact k9 hie
   ·exact .inl ⟨by lia,q.2⟩
 ·intro a O hq5;refine cO hq5 λ v1 v2=>?_;exact q _ O v1.del (ai _) (v2.imp (λ c q=>⟨dI q.choose_spec.1,q⟩) (ah (hY 21 (bP hL)) (by decide)))⟩
end
structure MV (V0:aF) (ws:List Ev) (bs:List (List Ev)) (iM p iB iW:Nat) (hp:Bool) (k3 jd jx:Nat):Prop where
 obj:V0[iM]? =some (.dict (mK iB p jd [(.str 60, .ref jx)]))
 px:PX V0 p iB iW hp k3
 facts:DA V0 jx (gM hp ws bs) 500 (lr bs)
 im:iM<p
 jx:jx≠p+5
section
variable{V:aF} {K:KV} {d p iW iM jd k3 b i t n:Nat} {hp:Bool} {B:BL} {told:HV} {bs:List (List Ev)} {ra:RA} {ws:List Ev} {J:List Nat}
theorem PX.low {V':aF} (h:PX V p B.i iW hp k3) (hi:i<p) (k:SB i V V'):PX V' p B.i iW hp k3:=⟨k _ _ (aE hi) h.obj,k _ _ (by lia) h.kd,k _ _ (by lia) h.nm,λ x hx=>⟨k _ _ (by have:=(h.ks x hx).2;lia) (h.ks x hx).1,(h.ks x hx).2⟩⟩
theorem PA.px (h:PA V p B.i iW (nP hp) k3):PX V p B.i iW hp k3:=⟨h.obj,h.kd,h.nm,λ x hx=>⟨h.ks x hx,by
 unfold Ay
 split
 ·rename_i e;have h4:nP hp=4:=by
   induction hp using Jp with
   |true=>rfl
   |false=>exact aN (show x<3 from hx) (by lia)
  have:=h.k3 h4;lia
 ·lia⟩⟩
structure DN (V:aF) (bs:List (List Ev)) (jd lo k:Nat):Prop where
 h:∃(l:Pp->Nat) (kd:List (HV×HV)),V[jd]? =some (.dict kd)/\PD fy (λ c=> .ref (l c)) k kd (·∈(gW bs).take k)/\∀c,c∈(gW bs).take k->V[l c]? =some (.list (dV (fC bs c.1 c.2)))/\lo<=l c
theorem DN.put {F:aF->Prop} {lo k l:Nat} {c:Pp} (h:DN V bs jd lo k) (hc:(gW bs)[k]? =some c) (hk:k<1999) (hl:V[l]? =some (.list (dV (fC bs c.1 c.2)))) (hlo:lo<=l) (hj:jd<lo) (q:∀V',SB jd V V'->V'.length=V.length->DN V' bs jd lo (k+1)->F V'):nt V (.ref l) F (.ref jd) (fy c):=by
 refine dL h.h λ f kd h1 h2 h3=>?_;refine putD h1 (iq.ok c _ h2.keys) (aj h2.len (az hk (by decide))) λ V' s e el=>q V' s el ⟨λ a=>if a=c then l else f a,_,e,?_,λ a ha=>?_⟩
 ·have h4:PD fy (λ a=> .ref (if a=c then l else f a)) k kd (λ a=>a∈(gW bs).take k/\a≠c):=⟨λ a ha=>by rw[if_neg ha.2];exact h2.get a ha.1,h2.keys,h2.len⟩
  have h5:=h4.put iq c;rw[if_pos rfl] at h5;refine h5.imp (λ a ha=>?_) (ai _);by_cases e:a=c
  ·exact .inr e
  ·exact .inl ⟨(gU hc ha).elim id λ h=>aN h e,e⟩
 ·show V'[if a=c then l else f a]? =_/\lo<=if a=c then l else f a
  by_cases e:a=c
  ·rw[if_pos e,e];exact⟨s _ _ (by lia) hl,hlo⟩
  ·rw[if_neg e];have h6:=h3 a ((gU hc ha).elim id λ h=>aN h e);exact⟨s _ _ (by lia) h6.1,h6.2⟩
theorem vt {F:aF->Prop} (h:bR V B told bs ra) (S:fO ws bs) (hL:V.length=iM) (hd:6<=d)
  (q:∀V' k3 jd jx,bt V V'->MV V' ws bs iM (iM+1) B.i iW (decide (Ev.part∈ws)) k3 jd jx->(∃m,3<=m/\eI V' (iM+1) (decide (Ev.part∈ws)) [] m)->F V') (V1:aF) (s1:bt V V1) (e1:V1[iM]? =some (.dict [])) (l1:V1.length=iM+1):hW bg d 43 [.obj 2 iM, .obj 0 B.i, .obj 6 iW] [] V1 λ v V2=>v= .none/\F V2:=
 aP [.val (.obj 2 iM), .val (.obj 0 B.i), .val (.obj 6 iW), .empty] rfl rfl rfl hd λ d hd=>by
 have hLL:V.length<=iM:=bX hL;generalize hhp:decide (Ev.part∈ws)=hp at q;refine dK e1 rfl rfl (nl rfl) λ V2 s2 e2 l2=>aR (iM+1) (l2.trans l1)<|uQ (h.mono (s1.upd s2 hLL)) S (l2.trans l1) hd λ V3 k3 s3 pa l3=>dK (s3 _ _ e2) rfl rfl (nl rfl) λ V4 s4 e4 l4=>?_;rw[Gm,hhp] at pa;have v3:=(s1.upd s2 hLL).trans s3;have v4:=v3.upd s4 hLL;refine⟨nl rfl,gq<|i3 e4 rfl rfl rfl (nl rfl) λ V5 s5 e5 a5 l5=>?_⟩;have v5:=v4.upd s5 hLL;have s45:=s4.trans s5;refine gY (h.mono v5) (ah (by decide) hd) λ j V6 s6 j6 e6=> .l e6 (db (az (gH h) (by decide))) ?_
 have v6:=v5.trans s6;have hj4:iM<V4.length:=br e4;have h36:∀{i o},i≠iM->V3[i]? =some o->V6[i]? =some o:=λ n e=>s6 _ _ (s45 _ _ n e);have px6:PX V6 (iM+1) B.i iW hp k3:=((pa.px (hp:=hp)).low (aI _) s45).sb s6.sb;have lt6:V6[iM+1+5]? =some (.dict []):=h36 (by lia) pa.lt
 have hpj:iM+1+9<=V4.length:=l4▸l3;have jl:V4.length<V6.length:=br (s6 _ _ a5);have pxj:∀{V'},SB V4.length V6 V'->PX V' (iM+1) B.i iW hp k3:=λ k=>by
  refine⟨k _ _ (by lia) px6.obj,k _ _ (by lia) px6.kd,k _ _ (by lia) px6.nm,λ x hx=>⟨k _ _ (aH ?_) (px6.ks x hx).1,(px6.ks x hx).2⟩⟩
  rw[l4];exact br (pa.ks x hx)
 refine qA (λ a:Option HV=>[.val (.obj 2 iM), .val (.obj 0 B.i), .val (.obj 6 iW),sl a]) (λ k U V'=>SB V4.length V6 V'/\V6.length<=V'.length/\DN V' bs V4.length V6.length k) none ⟨SB.refl _ _,ai _,⟨λ U=>0,[],s6 _ _ a5,PD.nil.imp (λ U h=>ii h) (ai _),(λ U h=>ii h)⟩⟩ (λ k a V' i=>i.1 _ _ (by lia) e6) ?_ ?_
 ·intro k v a O hv hq1 N' q';refine kB hq1 λ w1 wl dn=>?_;rw[List.getElem?_map] at hv;refine aU (aZ.mp hv) λ c hc rq1=>?_;subst rq1;refine aU (jn.mp (ar hc)) λ e he hie=>?_;have wb:=h.mono (v6.upd w1 (by lia))
  have wp:=pxj w1;have hm:=w1 _ _ (aH hj4) (s6 _ _ e5);refine bM a rfl<| .own hm rfl rfl rfl<|xv hm wp.obj wp.nm (wb.pt he hie) (λ hk=>?_) (ah (by decide) hd) λ l O1 w2 l2 f2=> .fld (w2 _ _ hm) rfl rfl rfl<|DN.put (c:=c) ?_ hc (az (dI hc) (az (gH h) (by decide))) f2 (ah wl l2) jl λ O2 w3 k3 dn'=>q' (some (fy c)) O2 ⟨λ i o n e=>w3 _ _ n (w2 _ _ (w1 _ _ n e)),k3▸ah wl w2.len,dn'⟩
  ·rw[<- hhp];exact b6 (ar ((S.kd _ _ e he hie).1.symm.trans hk))
  ·refine dL dn.h λ f kd g1 g2 g3=>?_;exact⟨f,kd,w2 _ _ g1,g2,λ c hc=>⟨w2 _ _ (g3 c hc).1,(g3 c hc).2⟩⟩
 rintro a V7 ⟨w7,wl,dn⟩;have v7:=v6.upd w7 (by lia)
 have hm7:=w7 _ _ (aH hj4) (s6 _ _ e5);have lt7:=w7 _ _ (by lia) lt6
 have lo7:eI V7 (iM+1) hp [iM] 0:=⟨⟨λ U=>0,lt7,λ x hx=>aN hx (a0 _)⟩,aO _,λ j hj=>by rw[List.mem_singleton.mp hj];exact⟨br hm7,by lia⟩⟩
 refine dL dn.h λ f kd g1 g2 g3=>?_;rw[List.length_map] at g2 g3;have mf7:MF V V7 B told bs ra ws iM (iM+1) iW hp k3 V4.length:=⟨h,S,v7,Nat.le_succ_of_le hLL,λ hp=>hhp▸b6 hp,hm7,pxj w7,⟨kd,g1,g2.keys,λ c hc=>⟨f c,g2.get c (hV hc),(g3 c (hV hc)).1,by have:=(g3 c (hV hc)).2;lia⟩⟩,aI _,by lia⟩
 refine .own hm7 rfl rfl rfl<|yB h v7 (Nat.le_succ_of_le hLL) (aI _) hm7 (pxj w7) lo7 (ah (by decide) hd) λ V8 x8 k8 lo8=>?_
 have dy8:Dy V7 (iM+1) hp [iM] V8:=⟨x8,lo8⟩;refine cO (mf7.up dy8) λ mf8 dy8=>?_;refine .mth mf8.obj rfl rfl rfl<|we mf8 dy8 hd λ jf V9 dy9 j9 e9=>?_;obtain⟨mf9,dy9'⟩:=mf8.up dy9;refine .mth mf9.obj rfl rfl rfl<|Bf mf9 dy9' (by lia) e9 (ah (by decide) hd) λ jx V10 dy10 j10 da=>?_
 have hm10:=mf9.ob dy10;have l9:=br e9;have jx9:iM<jx:=aw (br mf9.obj) j10;refine dK hm10 rfl rfl (nl rfl) λ V11 x11 e11 l11=>⟨rfl,?_⟩;have v10:=mf9.le.upd dy10.fr (ah mf9.low (ay _ _));exact q V11 k3 V4.length jx (v10.upd x11 hLL) ⟨e11,(mf9.px.sb dy10.fr).low (aI _) x11,da.sb x11 (aE jx9),aI _,by lia⟩ (dy10.lo.imp λ m l=>⟨l.1,(l.2.own (.head _) x11 l11).del⟩)
end
noncomputable def zi (hp:Bool) (s:qV):Bool:=!(AP (fV hp s) (bw hp 1)==[])
section
variable{V V0 σs:aF} {K:KV} {d p iB iW iM iL jd k3 jx b i t n:Nat} {hp:Bool} {bs:List (List Ev)} {ws:List Ev} {J:List Nat}
theorem DA.get {a n:Nat} {g:Pp->HV} {S:Pp->Prop} {c:Pp} (h:DA V a g n S) (hc:S c) (q:K (g c) V):qt V K a .get [fy c]:=aU h λ _ h1 h2=> .get h1 (iq.ok c _ h2.keys) (by rw[h2.get c hc];exact q)
theorem DY (h:MV V0 ws bs iM p iB iW hp k3 jd jx) (dy:Dy V0 p hp J V) {c:Pp} (hc:lr bs c) (hd:1<=d) (q:K (.w (fV hp (ij ws (pos bs c.1 c.2)))) V):hW bg d 49 [.obj 2 iM,fy c] [] V K:=
 have hm:=dy.fr _ _ (aH (aw h.im (ay _ _))) h.obj;have df:=h.facts.sb dy.fr h.jx
 aP [.val (.obj 2 iM), .val (fy c)] rfl rfl rfl hd λ d hd=> .fld hm rfl rfl rfl<|(aU df λ _ h1 _=> .dct h1 rfl rfl<|df.get hc q)
theorem wU {F:List Int} {x:Int} (hx:0<=x/\x<10) (hF:F.length<lim) (hd:1<=d) (q:K (.bool (F.contains (3*x+0))) V):hW bg d 50 [.obj 2 iM, .w F, .int x, .int 0] [] V K:=
 aP [.val (.obj 2 iM), .val (.w F), .val (.int x), .val (.int 0)] rfl rfl rfl hd λ d hd=>Bz hx (by decide)<| .in_ (.fs hF) q
theorem xa (h:MV V0 ws bs iM p iB iW hp k3 jd jx) (dy:Dy V0 p hp J V) {c:Pp} (hc:lr bs c) (hd:4<=d) (q:∀V',SB (p+5) V V'->Dy V0 p hp J V'->V.length<=V'.length->K (.bool (zi hp (ij ws (pos bs c.1 c.2)))) V'):hW bg d 53 [.obj 2 iM,fy c, .int 1] [] V K:=
 aP [.val (.obj 2 iM), .val (fy c), .val (.int 1), .empty, .empty] rfl rfl rfl hd λ d hd=>by
 have hiM:iM≠p+5:=aH (aw h.im (ay _ _));have hm:=dy.fr _ _ hiM h.obj;have px:=h.px.sb dy.fr;have h3:3<=nP hp:=by unfold nP;split<;>decide
 refine aU dy.lo λ m hm3 lo=>?_;have hd1:1<=d:=ah (by decide) hd
 have fl:∀s,(fV hp s).length<lim:=λ s=>aj (xM hp s) (by decide)
 unfold zi at q;refine .own hm rfl rfl rfl<|DY h dy hc hd1<| .is_<| .fld hm rfl rfl rfl<| .own px.obj rfl rfl rfl<| .fld hm rfl rfl rfl<| .own px.obj rfl rfl rfl<|eL (l:=1) (s:=false) (x:=1) px.obj px.nm (lp (nP hp) 1 (aw (by decide) h3) (by unfold nP;split<;>decide)) hd<|qm (x:=1) px lo (ah (by decide) hm3) (aw (by decide) h3) hd1 λ j V1 m' s1 l1 lo1 hm' U e1=>?_
 have dy1:Dy V0 p hp J V1:=⟨dy.fr.trans s1,m',ah hm3 hm',lo1⟩;have hm1:=s1 _ _ hiM hm;refine cO (qH (hp:=hp) (x:=1) (by decide)) λ b1 b2=>?_
 generalize ij ws (pos bs c.1 c.2)=s at*;generalize bw hp 1=L at*;refine .l e1 (db (aj b2 (by decide)))<|vK e1 (λ o:Option HV=>[sl o, .ro (.w (fV hp s)), .ro (.obj 2 iM)]) (λ x=>if(fV hp s).contains (3*x+0) then[x] else[]) (λ x=>by split<;>exact nl rfl) b2 .none (λ x a acc N' hxL hacc n=>?_) λ a=>?_
 ·refine bM a rfl<| .own hm1 rfl rfl rfl<|wU (b1 x hxL) (fl s) hd1 ?_;have n:=n (some (.int x))
  induction hc:(fV hp s).contains (3*x+0) using Jp with
  |true=>rw[hc] at n;exact⟨az hacc (by decide),n⟩
  |false=>rw[hc] at n;rw[show acc++((if false=true then[x] else[]):List Int).map HV.int=acc from List.append_nil _] at n;exact n
 ·exact aR _ rfl λ V2 s2 e2 l2=>⟨nl rfl,aR _ l2 λ V3 s3 e3 l3=> .ne (.l (s3 _ _ e2) e3 (cg _) rfl)<|q V3 (s1.trans (s2.trans s3).sb) (dy1.mono (s2.trans s3)) (ah l1 (s2.trans s3).len)⟩
theorem vp (h:nB σs iL ws bs) (hs:bt σs V) {c:Pp} (hc:lr bs c) (hd:1<=d) (q:K (Cx Gu ws bs c) V):hW bg d 62 [.obj 3 iL,fy c] [] V K:=
 aP [.val (.obj 3 iL), .val (fy c)] rfl rfl rfl hd λ d hd=>(by refine ky h.h λ _ _ _ hz3=>?_;refine dL hz3 λ _ _ h1 h2 _=>?_;exact .fld (hs _ _ h1) rfl rfl rfl<|(h2.mono hs).sub hc q)
theorem sq (h:nB σs iL ws bs) (hs:bt σs V) {c:Pp} (hc:lr bs c) (hd:1<=d) (q:K (Cx Gd ws bs c) V):hW bg d 63 [.obj 3 iL,fy c] [] V K:=
 aP [.val (.obj 3 iL), .val (fy c)] rfl rfl rfl hd λ d hd=>(by refine ky h.h λ _ _ _ hz3=>?_;refine dL hz3 λ _ _ h1 _ h2=>?_;exact .fld (hs _ _ h1) rfl rfl rfl<|(h2.mono hs).sub hc q)
end
noncomputable def rg (b:Bool):Int:=if b then 2 else 1
theorem nW:KE λ b:Bool=>HV.int (rg b):=⟨λ
 |false,false|false,true|true,false|true,true=>rfl,λ a kvs h=>aM.mpr λ kv hk=>ce (h kv hk) λ b e=>e▸rfl⟩
structure Fd where
 ks:List Bool
 ad:Bool->Nat
 K:Bool->List Int
noncomputable def mY (ad:Bool->Nat) (ks:List Bool):List (HV×HV):=ks.map λ b=>(.int (rg b), .ref (ad b))
noncomputable def nD (K:List Int):List (HV×HV):=K.map λ n=>(.int n, .bool true)
noncomputable def Fd.mem (F:Fd) (b:Bool) (n:Int):Prop:=b∈F.ks/\n∈F.K b
noncomputable def pQ (n:Int) (K:List Int):List Int:=if n∈K then K else K++[n]
theorem xi {n m:Int} {K:List Int}:m∈pQ n K↔m∈K\/m=n:=by
 unfold pQ;by_cases h:n∈K
 ·rw[if_pos h];exact⟨.inl,λ q=>q.elim id λ e=>e▸h⟩
 ·rw[if_neg h,List.mem_append,List.mem_singleton]
theorem x7 (n:Int) (K:List Int):(pQ n K).length<=K.length+1:=by
 unfold pQ
 split
 ·exact bG _
 ·exact bX List.length_append
theorem C4 (n:Int):∀K:List Int,dC (.int n) (.bool true) (nD K)=nD (pQ n K):=by
 intro l_
 induction l_ with
 |nil=>
  exact rfl
 |cons k K ih=>
  show(if veq (.int k) (.int n)=true then _ else _)=_
  rw[sw.veq];unfold pQ;by_cases h:k=n
  ·rw[decide_eq_true h,if_pos rfl,if_pos (h▸ .head _)];rfl
  ·rw[decide_eq_false h,if_neg Bool.false_ne_true];unfold pQ at ih;by_cases hm:n∈K
   ·rw[if_pos hm] at ih;rw[if_pos (.tail _ hm)];exact am ((HV.int k,HV.bool true)::·) ih
   ·rw[if_neg hm] at ih;rw[if_neg λ h'=>(List.mem_cons.mp h').elim (λ e=>h e.symm) hm];exact am ((HV.int k,HV.bool true)::·) ih
theorem A5 (K:List Int):∀kv∈nD K,∃n,kv.1=HV.int n:=λ kv h=>aU (cC.mp h) λ n _ e=>⟨n,e▸rfl⟩
theorem jq (ad:Bool->Nat) (ks:List Bool):∀kv∈mY ad ks,∃b,kv.1=HV.int (rg b):=λ kv h=>let⟨b,_,e⟩:=cC.mp h;⟨b,e▸rfl⟩
theorem lA (ad:Bool->Nat) (b:Bool):∀ks:List Bool,bA (.int (rg b)) (mY ad ks)=if b∈ks then some (.ref (ad b)) else none:=by
 intro l_
 induction l_ with
 |nil=>
  exact rfl
 |cons c ks ih=>
  show(if veq (.int (rg c)) (.int (rg b))=true then some (HV.ref (ad c)) else bA (.int (rg b)) (mY ad ks))=_
  rw[nW.veq,ih];by_cases h:c=b
  ·rw[decide_eq_true h,if_pos rfl,if_pos (h▸ .head _),h]
  ·rw[decide_eq_false h,if_neg Bool.false_ne_true];by_cases hm:b∈ks
   ·rw[if_pos hm,if_pos (.tail _ hm)]
   ·rw[if_neg hm,if_neg λ h'=>(List.mem_cons.mp h').elim (λ e=>h e.symm) hm]
structure LR (σm σb:aF) (p:Nat) (hp:Bool) (f M:Nat) (F:Fd) (V:aF):Prop where
 fd:V[f]? =some (.dict (mY F.ad F.ks))
 each:∀b∈F.ks,V[F.ad b]? =some (.dict (nD (F.K b)))/\σb.length<=F.ad b/\(F.K b).length<=M
 inj:∀b∈F.ks,∀c∈F.ks,F.ad b=F.ad c->b=c
 len:F.ks.length<=M
 nd:F.ks.Nodup
 dy:Dy σm p hp (f::F.ks.map F.ad) V
 fr:FR f (p+5) σb V
 ll:σb.length<=V.length
structure LC (σm σb:aF) (p f:Nat):Prop where
 m:σm.length<=f
 b:f<σb.length
 p:p+5<f
section
variable{σm σb V:aF} {K:KV} {d p f M n:Nat} {hp b:Bool} {F:Fd} {kvs:List (HV×HV)}
theorem LR.mono {V':aF} (h:LR σm σb p hp f M F V) (k:bt V V'):LR σm σb p hp f M F V':=
 ⟨k _ _ h.fd,λ b hb=>⟨k _ _ (h.each b hb).1,(h.each b hb).2⟩,h.inj,h.len,h.nd,h.dy.mono k,h.fr.trans k.fr,ah h.ll k.len⟩
theorem LR.sbp {V':aF} (c:LC σm σb p f) (h:LR σm σb p hp f M F V) (k:SB (p+5) V V') (l:V.length<=V'.length) (d:Dy σm p hp (f::F.ks.map F.ad) V'):LR σm σb p hp f M F V':=
 ⟨k _ _ (aE c.p) h.fd,λ b hb=>⟨k _ _ (by have:=(h.each b hb).2.1;have:=c.b;have:=c.p;lia) (h.each b hb).1,(h.each b hb).2⟩,h.inj,h.len,h.nd,d,h.fr.trans (SB.frm k),ah h.ll l⟩
theorem LR.up {M':Nat} (h:LR σm σb p hp f M F V) (k:M<=M'):LR σm σb p hp f M' F V:=⟨h.fd,λ b hb=>⟨(h.each b hb).1,(h.each b hb).2.1,ah (h.each b hb).2.2 k⟩,h.inj,ah h.len k,h.nd,h.dy,h.fr,h.ll⟩
theorem Ht {i:Nat} {k d:HV} (hi:V[i]? =some (.dict kvs)) (hk:bp k kvs=true) (hl:kvs.length<lim) (hf:bA k kvs=none) (h:∀V',SB i V V'->V'[i]? =some (.dict (kvs++[(k,d)]))->V'.length=V.length->K d V'):qt V K i .setdefault [k,d]:=
 .sdN hi hk hl hf (sZ (P:=λ V=>K d V) hi h)
noncomputable def LS (V V':aF):Prop:=∀(j:Nat) (xs:List HV),V[j]? =some (.list xs)->V'[j]? =some (.list xs)
theorem LS.trans {a b c:aF} (h:LS a b) (k:LS b c):LS a c:=λ j xs e=>k j xs (h j xs e)
theorem bt.ls {a b:aF} (h:bt a b):LS a b:=λ j xs e=>h j _ e
theorem SB.ls {a b:aF} {i:Nat} (k:SB i a b) (h:a[i]? =some (.dict kvs)):LS a b:=λ j xs e=>k j _ (λ q=>by rw[q,h] at e;exact nomatch e) e
noncomputable abbrev z6:HS:= .g (.sub (.m (.x 5) 71 [.x 13,.dict []]) (.x 10)) (.k (.bool true))
theorem vU {s0 s1 s2 s3 s4 s6 s7 s8 s9 s11 s12:SV} {N:bc->aF->Prop} {R:KV} (c:LC σm σb p f) (h:LR σm σb p hp f M F V) (hM:M<60) (b:Bool)
  (q:∀V' F',LR σm σb p hp f (M+1) F' V'->(∀c m,F'.mem c m↔F.mem c m\/(m=n/\c=b))->LS V V'->N [s0,s1,s2,s3,s4, .val (.ref f),s6,s7,s8,s9, .val (.int n),s11,s12, .val (.int (rg b))] V'):
  sW bg (hW bg d) z6 [s0,s1,s2,s3,s4, .val (.ref f),s6,s7,s8,s9, .val (.int n),s11,s12, .val (.int (rg b))] V N R:=by
 have kv:bp (.int (rg b)) (mY F.ad F.ks)=true:=nW.ok b _ (jq _ _);have kl:(mY F.ad F.ks).length<lim:=db (by have:=h.len;lia)
 have hfind:=lA F.ad b F.ks;refine .dct h.fd rfl rfl ⟨nl rfl,gq<|aR _ rfl λ V1 t1 e1 l1=>?_⟩;have h1:=h.mono t1;by_cases hb:b∈F.ks
 ·rw[if_pos hb] at hfind;have hn:=(h1.each b hb).1;refine .sdS h1.fd kv kl hfind<|putD hn (sw.ok _ _ (A5 _)) (db (by have:=(h1.each b hb).2.2;lia)) λ V2 t2 e2 l2=>?_
  rw[C4] at e2;have hlo:=(h1.each b hb).2.1;have hfa:f≠F.ad b:=by have:=c.b;lia
  refine q V2 ⟨F.ks,F.ad,λ x=>if x=b then pQ n (F.K b) else F.K x⟩ ⟨t2 _ _ hfa h1.fd,λ x hx=>?_,h.inj,Nat.le_succ_of_le h.len,h.nd,h1.dy.own (.tail _ (bI hb)) (by have:=c.m;have:=c.b;lia) t2 l2,λ i o ni mi ei=>t2 _ _ (aH (aw (br ei) hlo)) (h1.fr i o ni mi ei),l2▸h1.ll⟩ (λ x m=>?_) (t1.ls.trans (t2.ls hn))
  ·by_cases hxb:x=b
   ·show V2[F.ad x]? =some (.dict (nD (if x=b then _ else _)))/\_/\(if x=b then _ else _:List Int).length<=_
    rw[hxb,if_pos rfl];exact⟨e2,hlo,ah (x7 _ _) (aX (h1.each b hb).2.2)⟩
   ·show V2[F.ad x]? =some (.dict (nD (if x=b then _ else _)))/\_/\(if x=b then _ else _:List Int).length<=_
    rw[if_neg hxb];have hx2:=h1.each x hx;exact⟨t2 _ _ (λ e=>hxb (h.inj x hx b hb e)) hx2.1,hx2.2.1,Nat.le_succ_of_le hx2.2.2⟩
  ·show x∈F.ks/\m∈(if x=b then pQ n (F.K b) else F.K x)↔(x∈F.ks/\m∈F.K x)\/_
   by_cases hxb:x=b
   ·rw[hxb,if_pos rfl,xi];exact⟨λ r=>r.2.elim (λ k=> .inl ⟨r.1,k⟩) λ k=> .inr ⟨k,rfl⟩,λ r=>r.elim (λ k=>⟨k.1, .inl k.2⟩) λ k=>⟨hb, .inr k.1⟩⟩
   ·rw[if_neg hxb];exact⟨.inl,λ r=>r.elim id λ k=>aN k.2 hxb⟩
 ·rw[if_neg hb] at hfind;have hfa:f<V.length:=aw c.b h.ll;refine Ht h1.fd kv kl hfind λ V2 t2 e2 l2=>putD (t2 _ _ (aE hfa) e1) rfl (nl rfl) λ V3 t3 e3 l3=>?_;have ea:∀x∈F.ks,F.ad x<V.length:=λ x hx=>br (h.each x hx).1;have nb:∀x∈F.ks,x≠b:=λ x hx e=>hb (e▸hx);have em:(F.ks++[b]).map (λ x=>if x=b then V.length else F.ad x)=F.ks.map F.ad++[V.length]:=by
   rw[List.map_append];exact congr (am _ (List.map_congr_left λ x hx=>if_neg (nb x hx))) (am (λ x=>[x]) (if_pos rfl))
  have dy:Dy σm p hp (V.length::f::F.ks.map F.ad) V3:=((h.dy.add t1 ⟨ai _,by lia⟩).own (.tail _ (.head _)) c.m t2 l2).own (.head _) (ah c.m (bP hfa)) t3 l3
  have dy2:Dy σm p hp (f::(F.ks++[b]).map (λ x=>if x=b then V.length else F.ad x)) V3:=by
   rw[em];refine⟨dy.fr,dy.lo.imp λ m l=>⟨l.1,?_⟩⟩;have sub:∀j,j∈f::(F.ks.map F.ad++[V.length])->j∈V.length::f::F.ks.map F.ad:=λ j hj=>(aB.mp hj).elim (λ e=>e▸ .tail _ (.head _)) λ hj=>(aY.mp hj).elim (λ hj=> .tail _ (.tail _ hj)) λ hj=>al.mp hj▸ .head _;exact⟨aU l.2.h λ l' g1 g2=>⟨l',g1,λ x hx=>⟨(g2 x hx).1,λ hj=>(g2 x hx).2.1 (sub _ hj),(g2 x hx).2.2⟩⟩,l.2.m,λ j hj=>l.2.j j (sub j hj)⟩
  refine q V3 ⟨F.ks++[b],λ x=>if x=b then V.length else F.ad x,λ x=>if x=b then[(n:Int)] else F.K x⟩ ⟨?_,λ x hx=>?_,λ x hx y hy=>?_,?_,?_,dy2,λ i o ni mi ei=>t3 _ _ (aH (aw (br ei) h.ll)) (t2 _ _ ni (h1.fr i o ni mi ei)),l3▸l2▸h1.ll⟩ (λ x m=>?_) (t1.ls.trans ((t2.ls h1.fd).trans (t3.ls (t2 _ _ (aE hfa) e1))))
  ·rw[t3 _ _ (Nat.ne_of_lt hfa) e2];refine am (λ l=>some (HO.dict l)) ?_;unfold mY;rw[List.map_append];exact congr (am _ (List.map_congr_left λ x hx=>am (λ a=>(HV.int (rg x),HV.ref a)) (if_neg (nb x hx)).symm)) (am (λ x=>[(HV.int (rg b),HV.ref x)]) (if_pos rfl).symm)
  ·show V3[if x=b then V.length else F.ad x]? =some (.dict (nD (if x=b then _ else _)))/\σb.length<=(if x=b then _ else _)/\(if x=b then _ else _:List Int).length<=_
   by_cases hxb:x=b
   ·rw[if_pos hxb,if_pos hxb];exact⟨e3,h.ll,aX (aO _)⟩
   ·have hx:=(aY.mp hx).elim id λ e=>aN (al.mp e) hxb;have hx2:=h1.each x hx;rw[if_neg hxb,if_neg hxb];exact⟨t3 _ _ (aH (ea x hx)) (t2 _ _ (by have:=c.b;lia) hx2.1),hx2.2.1,Nat.le_succ_of_le hx2.2.2⟩
  ·show(if x=b then _ else _)=(if y=b then _ else _)->x=y
   intro e;by_cases hxb:x=b
   ·by_cases hyb:y=b
    ·rw[hxb,hyb]
    ·rw[if_pos hxb,if_neg hyb] at e;exact aN (ea y ((aY.mp hy).elim id λ e=>aN (al.mp e) hyb)) (by lia)
   ·have hx:=(aY.mp hx).elim id λ e=>aN (al.mp e) hxb;by_cases hyb:y=b
    ·rw[if_neg hxb,if_pos hyb] at e;exact aN (ea x hx) (by lia)
    ·rw[if_neg hxb,if_neg hyb] at e;exact h.inj x hx y ((aY.mp hy).elim id λ e=>aN (al.mp e) hyb) e
  ·show(F.ks++[b]).length<=M+1;rw[List.length_append];exact aX h.len
  ·exact List.nodup_append.mpr ⟨h.nd,List.nodup_cons.mpr ⟨List.not_mem_nil,List.nodup_nil⟩,λ x hx y hy=>al.mp hy▸nb x hx⟩
  ·show x∈F.ks++[b]/\m∈(if x=b then[(n:Int)] else F.K x)↔(x∈F.ks/\m∈F.K x)\/_
   by_cases hxb:x=b
   ·rw[hxb,if_pos rfl,List.mem_singleton];exact⟨λ r=> .inr ⟨r.2,rfl⟩,λ r=>r.elim (λ k=>aN k.1 hb) λ k=>⟨List.mem_append_right _ (.head _),k.1⟩⟩
   ·rw[if_neg hxb,List.mem_append,List.mem_singleton];exact⟨λ r=> .inl ⟨r.1.elim id λ e=>aN e hxb,r.2⟩,λ r=>r.elim (λ k=>⟨.inl k.1,k.2⟩) λ k=>aN k.2 hxb⟩
end
theorem DV {a b:Bool} (h:rg a=rg b):a=b:=by revert a b;decide
noncomputable def Dd (hp:Bool) (ws:List Ev) (E τ:List Int) (k:Nat) (r:Int):Prop:=(jQ Gu ws k=true/\r∈E)\/(jQ Gd ws k=true/\zi hp (ij ws k)=true/\r∈τ)
section
variable{X:Type} {V:aF} {N:bc->aF->Prop} {body:HV->bc->aF->(bc->aF->Prop)->Prop}
theorem Fw {i:Nat} {xs:List HV} (st:X->bc) (I:Nat->X->aF->Prop) (a:X) (h0:I 0 a V) (hi:∀k a V,I k a V->V[i]? =some (.list xs)) (turn:∀k v a V,xs[k]? =some v->I k a V->∀N':bc->aF->Prop,(∀a' V',I (k+1) a' V'->N' (st a') V')->body (.t [.int k,v]) (st a) V N') (fin:∀a V,I xs.length a V->N (st a) V):
  ∃m,mx (.enum i) body m 0 (st a) V N:=by
 refine zA (n:=xs.length) (λ k=> .t [.int k,xs[k]?.getD .none]) st (λ k a V=>k<=xs.length/\I k a V) (λ k a V F h h1 h2=> .enum (hi k a V h.2) ?_) (λ k a V hk h N' q=>turn k _ a V (by rw[List.getElem?_eq_getElem hk];rfl) h.2 N' λ a' V' h'=>q a' V' ⟨hk,h'⟩) (λ a V h=>fin a V h.2) a ⟨aO _,h0⟩
 by_cases h':k<xs.length
 ·rw[List.getElem?_eq_getElem h'] at h1 ⊢;exact h1 h'
 ·rw[List.getElem?_eq_none (Nat.not_lt.mp h')];exact h2 (cn h.1 (bF.mp h'))
end
section
variable{σm σb V:aF} {K:KV} {d p f M n l:Nat} {hp:Bool} {F:Fd} {R:List Int} {s0 s1 s2 s3 s4 s6 s7 s8 s9 s11 s12:SV}
theorem FO {xs:List Int} (hl:xs.length<=1) (h:∀V',bt V V'->V'[V.length]? =some (.list (xs.map .int))->K (.ref V.length) V'):eU V K .sorted [.w xs]:= .srtF hl (aR _ rfl λ V' s e U=>h V' s e).h
theorem nM {N:bc->aF->Prop} {Rt:KV} {a:Option HV} (c:LC σm σb p f) (h:LR σm σb p hp f M F V) (hM:M+R.length<=60) (hl:σb[l]? =some (.list (R.map .int))) (nf:l≠f) (np:l≠p+5) (hR:∀r∈R,∃b,r=rg b)
  (q:∀o V' F',LR σm σb p hp f (M+R.length) F' V'->(∀c m,F'.mem c m↔F.mem c m\/(m=n/\rg c∈R))->LS V V'->N [s0,s1,s2,s3,s4, .val (.ref f),s6,s7,s8,s9, .val (.int n),s11,s12,sl o] V'):
  ∃m,mx (.l l) (λ v Y V N=>oF (fP Y (.x 13) v) λ Y=>kL bg (hW bg d) [z6] Y V N Rt) m 0 [s0,s1,s2,s3,s4, .val (.ref f),s6,s7,s8,s9, .val (.int n),s11,s12,sl a] V N:=by
 refine qA (xs:=R.map .int) (λ a:Option HV=>[s0,s1,s2,s3,s4, .val (.ref f),s6,s7,s8,s9, .val (.int n),s11,s12,sl a]) (λ k U V'=>∃F',LR σm σb p hp f (M+k) F' V'/\(∀c m,F'.mem c m↔F.mem c m\/(m=n/\rg c∈R.take k))/\LS V V') a ⟨F,h,(λ c m=>⟨.inl,λ r=>r.elim id λ r=>ii r.2⟩),λ U U e=>e⟩ (λ k a V' i=>i.elim λ U i=>i.1.fr _ _ nf np hl) ?_ ?_
 ·intro k v a O hv hq1 N' q';refine gn hq1 λ F' h1 h2 ls=>?_;rw[List.getElem?_map] at hv;refine aU (aZ.mp hv) λ r hr rq1=>?_;subst rq1;obtain⟨b,rfl⟩:=hR r (ar hr);refine bM a rfl<|vU c h1 (by have:=dI hr;lia) b λ V' F2 h3 h4 ls2=>q' (some (.int (rg b))) V' ⟨F2,h3,λ c m=>?_,ls.trans ls2⟩
  rw[h4,h2,List.take_add_one,hr,List.mem_append,or_assoc];refine or_congr Iff.rfl ⟨λ r=>r.elim (λ r=>⟨r.1, .inl r.2⟩) λ r=>⟨r.1, .inr (r.2▸ .head _)⟩,λ r=>r.2.elim (λ k=> .inl ⟨r.1,k⟩) λ k=> .inr ⟨r.1,DV (al.mp k)⟩⟩
 ·intro a O hq2;refine gn hq2 λ F' h1 h2 ls=>?_;rw[List.length_map] at h1 h2;rw[List.take_length] at h2;exact q a O F' h1 h2 ls
end
section
variable{σm σb σs V:aF} {d p f M l l0 l2 u iL iM iB iW k3 jd jx:Nat} {hp:Bool} {F:Fd} {E:List Int} {s0 s1 s2 s8 s9:SV} {x12 x13:Option HV} {ws:List Ev} {bs:List (List Ev)} {c:Pp}
noncomputable abbrev EF (s0 s1 s2:SV) (iL iM f u dr:Nat) (s8 s9:SV) (n:Nat) (c:Pp) (s12 s13:SV):bc:=[s0,s1,s2, .val (.obj 3 iL), .val (.obj 2 iM), .val (.ref f), .val (.ref u), .val (.ref dr),s8,s9, .val (.int n), .val (fy c),s12,s13]
theorem xZ {N:bc->aF->Prop} {Rt:KV} {dr n:Nat} (hL:nB σs iL ws bs) (hs:bt σs V) (hc:lr bs c) (lc:LC σm σb p f) (h:LR σm σb p hp f M F V) (hM:M<=40) (hu:σb[u]? =some (.list [.ref l0, .ref l, .ref l2])) (hul:u≠f/\u≠p+5) (hE:σb[l]? =some (.list (E.map .int))) (hEl:l≠f/\l≠p+5) (hE2:E.length<=2) (hEr:∀r∈E,∃b,r=rg b) (hd:1<=d)
  (q:∀o12 o13 V' F',LR σm σb p hp f (M+2) F' V'->(∀b m,F'.mem b m↔F.mem b m\/(m=n/\jQ Gu ws (pos bs c.1 c.2)=true/\rg b∈E))->N (EF s0 s1 s2 iL iM f u dr s8 s9 n c (sl o12) (sl o13)) V'):
  sW bg (hW bg d) (.for_ (.x 12) (.e (.m (.x 3) 70 [.x 11])) [.for_ (.x 13) (.e (.sub (.x 6) (.x 12))) [z6]]) (EF s0 s1 s2 iL iM f u dr s8 s9 n c (sl x12) (sl x13)) V N Rt:=by
 refine ky hL.h λ _ _ _ hz3=>?_;refine dP hz3 λ _ _ ho _=>?_;refine .own (hs _ _ ho) rfl rfl rfl<|vp hL hs hc hd<| .fs (fU _) ?_;have hu1:=h.fr _ _ hul.1 hul.2 hu;have hE1:=h.fr _ _ hEl.1 hEl.2 hE
 induction hv:jQ Gu ws (pos bs c.1 c.2) using Jp with
 |false=>
  replace q:=hv▸q;exact⟨1, .st<|q x12 x13 V F (h.up (ay _ _)) λ b m=>⟨.inl,λ r=>r.elim id λ r=>qU r.2.1⟩⟩
 |true=>
  replace q:=hv▸q;exact⟨2, .st<|bM x12 rfl<| .l hu1 (nl rfl) rfl rfl<| .l hE1 (db (aj hE2 (by decide)))<|nM (a:=x13) lc h (by lia) hE hEl.1 hEl.2 hEr λ o V' F' h1 h2 U=> .st<|q (some (.int 1)) o V' F' (h1.up (by lia)) λ b m=>(h2 b m).trans (or_congr Iff.rfl ⟨λ r=>⟨r.1,rfl,r.2⟩,λ r=>⟨r.1,r.2.2⟩⟩)⟩
theorem wk {N:bc->aF->Prop} {Rt:KV} {dr n:Nat} (hL:nB σs iL ws bs) (hs:bt σs V) (mv:MV σm ws bs iM p iB iW hp k3 jd jx) (hc:lr bs c) (lc:LC σm σb p f) (h:LR σm σb p hp f M F V) (hM:M<=40) (hu:σb[dr]? =some (.list [.ref l0, .ref l, .ref l2])) (hul:dr≠f/\dr≠p+5) (hE:σb[l]? =some (.list (E.map .int))) (hEl:l≠f/\l≠p+5) (hE2:E.length<=2) (hEr:∀r∈E,∃b,r=rg b) (hd:4<=d)
  (q:∀o12 o13 V' F',LR σm σb p hp f (M+2) F' V'->(∀b m,F'.mem b m↔F.mem b m\/(m=n/\jQ Gd ws (pos bs c.1 c.2)=true/\zi hp (ij ws (pos bs c.1 c.2))=true/\rg b∈E))->N (EF s0 s1 s2 iL iM f u dr s8 s9 n c (sl o12) (sl o13)) V'):
  sW bg (hW bg d) (.for_ (.x 12) (.e (.bi .sorted [.m (.x 3) 72 [.x 11]])) [.if_ (.and_ [.c .ne (.sub (.x 7) (.x 12)) (.list []),.call (.k (.fn 53)) [.x 4,.x 11,.x 12]]) [.for_ (.x 13) (.e (.sub (.x 7) (.x 12))) [z6]] []]) (EF s0 s1 s2 iL iM f u dr s8 s9 n c (sl x12) (sl x13)) V N Rt:=by
 refine ky hL.h λ _ _ _ hz3=>?_;refine dP hz3 λ _ _ ho _=>?_;refine .own (hs _ _ ho) rfl rfl rfl<|sq hL hs hc (ah (by decide) hd)<|FO (fU _) λ V1 t1 e1=> .l e1 (db (aj (fU _) (by decide))) ?_
 have h1:=h.mono t1;have zY:V.length<V1.length:=br e1
 induction hv:jQ Gd ws (pos bs c.1 c.2) using Jp with
 |false=>
  rw[hv] at e1 q;exact⟨1, .l e1<|q x12 x13 V1 F (h1.up (ay _ _)) λ b m=>⟨.inl,λ r=>r.elim id λ r=>qU r.2.1⟩⟩
 |true=>
  rw[hv] at e1 q;have hu1:=h1.fr _ _ hul.1 hul.2 hu;have hE1:=h1.fr _ _ hEl.1 hEl.2 hE;have ie:∀{V' F'} o,LR σm σb p hp f M F' V'->F'=F->(zi hp (ij ws (pos bs c.1 c.2))=false\/E=[])->N (EF s0 s1 s2 iL iM f u dr s8 s9 n c (sl o) (sl x13)) V':=λ {V' F'} o k e hh=>by
   subst e;exact q o x13 V' F' (k.up (ay _ _)) λ b m=>⟨.inl,λ r=>r.elim id λ r=>hh.elim (λ e=>nomatch e.symm.trans r.2.2.1) λ e=>nomatch(e▸r.2.2.2:rg b∈([]:List Int))⟩
  refine⟨2, .l e1<|bM x12 rfl<| .l hu1 (nl rfl) rfl rfl ⟨nl rfl,aR _ rfl λ V2 t2 e2 l2=> .ne (.l (t2 _ _ hE1) e2 (cg _) rfl) ?_⟩⟩;have h2:=h1.mono t2
  induction hE0:E==[] using Jp with
  |true=>exact .l (t2 _ _ e1)<|ie (some (.int 1)) h2 rfl (.inr (eq_of_beq hE0))
  |false=>
   refine xa mv h2.dy hc hd λ V3 t3 d3 l3=>?_;have h3:=h2.sbp lc t3 l3 d3;have np3:V.length≠p+5:=by have:=h.ll;have:=lc.b;have:=lc.p;lia
   induction hh:zi hp (ij ws (pos bs c.1 c.2)) using Jp with
   |false=>exact .l (t3 _ _ np3 (t2 _ _ e1))<|ie (some (.int 1)) h3 rfl (.inl hh)
   |true=>
    refine .l (h3.fr _ _ hul.1 hul.2 hu) (nl rfl) rfl rfl<| .l (h3.fr _ _ hEl.1 hEl.2 hE) (db (aj hE2 (by decide)))<|nM (a:=x13) lc h3 (by lia) hE hEl.1 hEl.2 hEr λ o V' F' h4 h5 ls=> .l (ls _ _ (t3 _ _ np3 (t2 _ _ e1)))<|q (some (.int 1)) o V' F' (h4.up (by lia)) λ b m=>(h5 b m).trans (or_congr Iff.rfl ⟨λ r=>⟨r.1,rfl,hh,r.2⟩,λ r=>⟨r.1,r.2.2.2⟩⟩)
end
noncomputable def tt (t:TT):Nat->TT
 |0=> .un
 |_=>t
theorem wM (t:TT):t.ev.length<=2/\t.od.length<=2:=by
 have h:∀r p,(Pk.ev r p).length<=1/\(Pk.od r p).length<=1:=λ r p=>by rcases p with _|_<;>exact⟨nl rfl,nl rfl⟩
 match t with
 | .un=>exact⟨nl rfl,nl rfl⟩
 | .ty .a p p'=>exact⟨Nat.le_succ_of_le (h 1 p).1,Nat.le_succ_of_le (h 1 p).2⟩
 | .ty .s p p'| .ty .e p p'=>exact⟨ah (bX List.length_append) (dz (h 1 p).1 (h 2 p').1),ah (bX List.length_append) (dz (h 1 p).2 (h 2 p').2)⟩
theorem jY (r:Int) (p:Pk):(∀x∈p.ev r,x=r)/\∀x∈p.od r,x=r:=by
 rcases p with _|_<;>exact⟨λ x hx=>(by first|exact al.mp hx|exact ii hx),λ x hx=>(by first|exact al.mp hx|exact ii hx)⟩
theorem Hw (t:TT):(∀r∈t.ev,∃b,r=rg b)/\∀r∈t.od,∃b,r=rg b:=by
 match t with
 | .un=>exact⟨(λ U h=>ii h),(λ U h=>ii h)⟩
 | .ty .a p p'=>exact⟨λ r h=>⟨false,(jY 1 p).1 r h⟩,λ r h=>⟨false,(jY 1 p).2 r h⟩⟩
 | .ty .s p p'| .ty .e p p'=>exact⟨λ r h=>(aY.mp h).elim (λ h=>⟨false,(jY 1 p).1 r h⟩) λ h=>⟨true,(jY 2 p').1 r h⟩,λ r h=>(aY.mp h).elim (λ h=>⟨false,(jY 1 p).2 r h⟩) λ h=>⟨true,(jY 2 p').2 r h⟩⟩
section
variable{V σw:aF} {K:KV} {d w l jl jr n:Nat} {wa:WA} {t:TT}
theorem vA (t:TT) (h0:V[0]? =some (.tab 7)) (hd:7<=d) (q:∀j V',bt V V'->V.length<=j->V'[j]? =some (.list (t.ev.map .int))->K (.ref j) V'):hW bg d 6 [t.v] [] V K:=by
 rw[<- Ch];refine mM t.t h0 (by rw[uI];exact db (aj (wM t).1 (by decide))) (ah (dH (zd t) 2) hd) λ j V' s l e=>q j V' s l (uI t▸e)
structure UD (σs V:aF) (t:TT) (f i:Nat):Prop where
 le:∀(k:Nat) (o:HO),k≠f+1->k≠f+2->σs[k]? =some o->V[k]? =some o
 ll:f+3<=σs.length/\σs.length<=V.length
 u:∃a:Nat->Nat,V[f+1]? =some (.list ((List.range i).map λ x=> .ref (a x)))/\∀x,x<i->V[a x]? =some (.list ((tt t x).ev.map .int))/\f+2<a x
 d:∃a:Nat->Nat,V[f+2]? =some (.list ((List.range i).map λ x=> .ref (a x)))/\∀x,x<i->V[a x]? =some (.list ((tt t x).od.map .int))/\f+2<a x
theorem UD.mono {σs V':aF} {f i:Nat} (h:UD σs V t f i) (k:bt V V'):UD σs V' t f i:=
 ⟨λ j o n m e=>k _ _ (h.le j o n m e),⟨h.ll.1,ah h.ll.2 k.len⟩,h.u.imp λ U a=>⟨k _ _ a.1,λ x hx=>⟨k _ _ (a.2 x hx).1,(a.2 x hx).2⟩⟩,h.d.imp λ U a=>⟨k _ _ a.1,λ x hx=>⟨k _ _ (a.2 x hx).1,(a.2 x hx).2⟩⟩⟩
theorem Dg (t:TT) (i:Nat) (hi:i<3):∃x y,(tF t.v)[i]? =some (.t [(tt t i).v,x,y]):=GO hi ⟨_,_,rfl⟩ ⟨_,_,rfl⟩ ⟨_,_,rfl⟩
theorem uL {i j:Nat} {a:Nat->Nat}:(List.range i).map (λ x=>HV.ref (a x))++[.ref j]=(List.range (i+1)).map λ x=> .ref (if x=i then j else a x):=by
 rw[List.range_succ,List.map_append];exact congr (am _ (List.map_congr_left λ x hx=>am HV.ref (if_neg (aH (cy.mp hx))).symm)) (am (λ x=>[HV.ref x]) (if_pos rfl).symm)
theorem ya {σs:aF} {f i:Nat} {N:bc->aF->Prop} {Rt:KV} {x y:HV} {s0 s2 s3 s4 s10 s11 s12 s13:SV} {o9:Option HV} (wf:WF σw w wa) (t0:σw[0]? =some (.tab 7)) (t1:σw[1]? =some (.tab 11)) (hw:bt σw V) (h:UD σs V t f i) (hi:i<3) (hd:14<=d)
  (q:∀V' o9,UD σs V' t f (i+1)->N [s0, .val (.obj 6 w),s2,s3,s4, .val (.ref f), .val (.ref (f+1)), .val (.ref (f+2)), .val (.t [(tt t i).v,x,y]),sl o9,s10,s11,s12,s13] V'):
  kL bg (hW bg d) [.g (.x 9) (.list []), .expr (.call (.k (.fn 51)) [.sub (.x 8) (.k (.int 0)),.x 1,.x 9,.k (.int 16)]), .expr (.m (.x 6) 7 [.call (.k (.fn 6)) [.sub (.x 8) (.k (.int 0))]]), .expr (.m (.x 7) 7 [.x 9])]
   [s0, .val (.obj 6 w),s2,s3,s4, .val (.ref f), .val (.ref (f+1)), .val (.ref (f+2)), .val (.t [(tt t i).v,x,y]),sl o9,s10,s11,s12,s13] V N Rt:=by
 have hl:∀{a:Nat->Nat},((List.range i).map λ x=>HV.ref (a x)).length<lim:=d7 (az hi (by decide))
 refine⟨nl rfl,aR _ rfl λ V1 s1 e1 l1=>eG o9 rfl<| .t (nl rfl) rfl rfl<|uB wf t0 t1 (hw.trans s1) hw.len e1 (tt t i) (by decide) hd λ V2 b2 e2=>?_⟩
 have s2:=s1.upd b2 (ai _);have h2:=h.mono s2;refine aU h2.u λ a a1 a2=>?_;refine .l a1 rfl rfl<| .t (nl rfl) rfl rfl<|vA (tt t i) (s2 _ _ (hw _ _ t0)) (ah (by decide) hd) λ j V3 s3 j3 e3=>dB (s3 _ _ a1) hl λ V4 b4 e4 l4=>?_
 have h3:=h2.mono s3;refine aU h3.d λ c c1 c2=>?_;have c1:=b4 _ _ (aE (aI _)) c1;have hf:f+2<V.length:=by have:=h.ll;lia
 have hj2:V.length<j:=aw (br e2) j3;have up:∀k o,f+2<k->V3[k]? =some o->∀V5,SB (f+2) V4 V5->V5[k]? =some o:=λ k o hk e V5 b5=>b5 _ _ (aE hk) (b4 _ _ (by lia) e)
 refine .l c1 rfl rfl<|dB c1 hl λ V5 b5 e5 l5=>q V5 (some (.ref V.length)) ⟨λ k o n m e=>b5 _ _ m (b4 _ _ n (h3.le k o n m e)),⟨h.ll.1,by have:=h3.ll.2;lia⟩,⟨λ x=>if x=i then j else a x,by rw[b5 _ _ (Nat.ne_of_lt (Nat.lt_succ_self _)) e4,uL],λ x hx=>?_⟩,⟨λ x=>if x=i then V.length else c x,by rw[e5,uL],λ x hx=>?_⟩⟩
 ·show V5[if x=i then j else a x]? =_/\f+2<if x=i then j else a x
  by_cases hxi:x=i
  ·rw[if_pos hxi,hxi];exact⟨up _ _ (by lia) e3 _ b5,by lia⟩
  ·rw[if_neg hxi];have a3:=a2 x (by lia)
   exact⟨up _ _ a3.2 (s3 _ _ a3.1) _ b5,a3.2⟩
 ·show V5[if x=i then V.length else c x]? =_/\f+2<if x=i then V.length else c x
  by_cases hxi:x=i
  ·rw[if_pos hxi,hxi];exact⟨up _ _ hf (s3 _ _ e2) _ b5,hf⟩
  ·rw[if_neg hxi];have a3:=c2 x (by lia)
   exact⟨up _ _ a3.2 a3.1 _ b5,a3.2⟩
structure yT (V:aF) (q:Nat) (P:Bool->Int->Prop):Prop where
 h:∃(ks:List Bool) (ad:Bool->Nat) (Kl:Bool->List Int),V[q]? =some (.dict (mY ad ks))/\(∀b∈ks,V[ad b]? =some (.list ((Kl b).map .int))/\(Kl b).length<64)/\∀b n,P b n↔b∈ks/\n∈Kl b
theorem wm (n:Int) (l:List Int):n∈dW l↔n∈l:=(iC l).mem_iff
theorem wB (l:List Int):(dW l).length=l.length:=(iC l).length_eq
theorem AM (K:List Int):cr ((nD K).map (·.1))=some K:=by
 unfold nD;rw[List.map_map];exact cg K
theorem rA (ad:Bool->Nat) (ks:List Bool):cr ((mY ad ks).map (·.1))=some (ks.map rg):=by
 unfold mY;rw[List.map_map];have:=cg (ks.map rg);rw[List.map_map] at this;exact this
theorem xw {ad:Bool->Nat} {a:Nat} {b:Bool} {ks:List Bool} (h:b∉ks):dC (.int (rg b)) (.ref a) (mY ad ks)=mY (λ x=>if x=b then a else ad x) (ks++[b]):=by
 have key:∀ks:List Bool,b∉ks->dC (.int (rg b)) (.ref a) (mY ad ks)=mY ad ks++[(.int (rg b), .ref a)]:=by
  intro ks
  induction ks with
  |nil=>exact λ U=>rfl
  |cons c ks ih=>
   intro h;show(if veq (.int (rg c)) (.int (rg b))=true then _ else(HV.int (rg c),HV.ref (ad c))::dC (.int (rg b)) (.ref a) (mY ad ks))=_
   rw[nW.veq,decide_eq_false λ (e:c=b)=>h (e▸ .head _),if_neg Bool.false_ne_true,ih λ h'=>h (.tail _ h')];rfl
 rw[key ks h];unfold mY;rw[List.map_append];exact congr (am _ (List.map_congr_left λ x hx=>am (λ a=>(HV.int (rg x),HV.ref a)) (if_neg λ (e:x=b)=>h (e▸hx)).symm)) (am (λ x=>[(HV.int (rg b),HV.ref x)]) (if_pos rfl).symm)
theorem Gy {i:Nat} {kvs:List (HV×HV)} {l:List Int} (hi:V[i]? =some (.dict kvs)) (e:cr (kvs.map (·.1))=some l) (hl:l.length<64) (h:∀V',bt V V'->V'[V.length]? =some (.list ((dW l).map .int))->K (.ref V.length) V'):eU V K .sorted [.ref i]:= .srtD hi e hl (aR _ rfl λ V' s e U=>h V' s e).h
theorem AD {σm σb:aF} {p f M:Nat} {hp:Bool} {F:Fd} {P:Bool->Int->Prop} (h:LR σm σb p hp f M F V) (hM:M<60) (hP:∀b n,P b n↔F.mem b n) (q:∀j V',bt V V'->yT V' j P->K (.ref j) V'):
  tI V (λ s=>∃n,eA s (λ v Y' V' (acc:List (HV×HV)) K'=>oF (fP Y' (.x 0) v) λ ρ₁=>fW bg (hW bg d) [] ρ₁ V' (λ σ₁=>eW bg (hW bg d) (.x 0) ρ₁ σ₁ λ kv σ₂=>eW bg (hW bg d) (.bi .sorted [.sub (.x 1) (.x 0)]) ρ₁ σ₂ λ vv σ₃=>(bp kv acc&&acc.length<lim)=true/\K' ρ₁ σ₃ (dC kv vv acc)) (λ σ₁=>K' ρ₁ σ₁ acc)) n 0 [.empty, .ro (.ref f)] V [] λ U V xs=>eJ V K (.dict xs)) (.ref f):=by
 have hlen:(mY F.ad F.ks).length=F.ks.length:=List.length_map _;have hkl:=h.len;refine .keys h.fd (by rw[hlen];show _<2000;lia) (rA _ _) ?_
 refine Dv (Z:=List (HV×HV)) (n:=F.ks.length) (λ k=>(F.ks[k]?.map λ b=>HV.int (rg b)).getD .none) (λ o:Option HV=>[sl o, .ro (.ref f)])
  (λ k U V' acc=>k<=F.ks.length/\bt V V'/\∃ad:Bool->Nat,acc=mY ad (F.ks.take k)/\∀b∈F.ks.take k,V'[ad b]? =some (.list ((dW (F.K b)).map .int))) (λ k a V' b F' i k1 k2=> .keys (i.2.1 _ _ h.fd) rfl (rA _ _) ?_) ?_ ?_ none ⟨aO _,bt.refl _,λ U=>0,rfl,(λ U h=>ii h)⟩
 ·unfold mY;rw[List.getElem?_map,Option.map_map];by_cases hk:k<F.ks.length
  ·have k1:=k1 hk;rw[List.getElem?_eq_getElem hk] at k1 ⊢;exact k1
  ·rw[List.getElem?_eq_none (Nat.not_lt.mp hk)];exact k2 (cn i.1 (bF.mp hk))
 ·rintro k a V1 acc hk ⟨_,s1,ad,ha,hb⟩ N' q';have hbk:F.ks[k]? =some F.ks[k]:=ak hk;have hmem:F.ks[k]∈F.ks:=List.getElem_mem hk;have hnot:F.ks[k]∉F.ks.take k:=λ hm=>by
   obtain⟨j,hj,e⟩:=List.mem_take_iff_getElem.mp hm;exact aN ((List.getElem_inj h.nd).mp e) (by lia)
  rw[hbk];rw[show(some F.ks[k]).map (λ b=>HV.int (rg b))=some (.int (rg F.ks[k])) from rfl,show(some (HV.int (rg F.ks[k]))).getD .none= .int (rg F.ks[k]) from rfl];generalize F.ks[k]=b at*;have hfind:=lA F.ad b F.ks;rw[if_pos hmem] at hfind;have he:=h.each b hmem;refine bM a rfl<| .dct (s1 _ _ h.fd) (nW.ok b _ (jq _ _)) hfind ?_;refine Gy (s1 _ _ he.1) (AM _) (by lia) λ V2 s2 e2=>?_
  subst ha;refine⟨?_,q' (some (.int (rg b))) V2 _ ⟨hk,s1.trans s2,λ x=>if x=b then V1.length else ad x,?_,λ x hx=>?_⟩⟩
  ·rw[show bp (.int (rg b)) (mY ad (F.ks.take k))=true from nW.ok b _ (jq _ _)];exact b6 (db (aj (List.length_take_le' k F.ks) (by lia)))
  ·rw[List.take_add_one,hbk];exact xw hnot
  ·rw[List.take_add_one,hbk] at hx;show V2[if x=b then V1.length else ad x]? =_
   by_cases hxb:x=b
   ·rw[if_pos hxb,hxb];exact e2
   ·rw[if_neg hxb];exact s2 _ _ (hb x ((aY.mp hx).elim id λ h=>aN (al.mp h) hxb))
 ·rintro a V1 acc ⟨_,s1,ad,ha,hb⟩;rw[List.take_length] at ha hb;subst ha;exact aR _ rfl λ V2 s2 e2 l2=>q _ V2 (s1.trans s2) ⟨F.ks,ad,λ b=>dW (F.K b),e2,λ b hm=>⟨s2 _ _ (hb b hm),by rw[wB];have:=(h.each b hm).2.2;lia⟩,λ b n=>(hP b n).trans (and_congr Iff.rfl (wm n (F.K b)).symm)⟩
end
section
variable{V σw σs:aF} {K:KV} {d w jr p iM iL k3 jd jx:Nat} {wa:WA} {t:TT} {hp:Bool} {B:BL} {bs:List (List Ev)} {ra:RA} {ws:List Ev}
theorem zB (wf:WF σw w wa) (t0:σw[0]? =some (.tab 7)) (t1:σw[1]? =some (.tab 11)) (hw:bt σw V) (body:bR V B t.v bs ra) (S:fO ws bs) (hws:ws.length<=8) (rows:V[jr]? =some (.list ((gW bs).map fy))) (hL:nB σs iL ws bs) (hs:bt σs V) (hlow:σs.length<=p) (mv:MV V ws bs iM p B.i w hp k3 jd jx) (lo:∃m,3<=m/\eI V p hp [] m) (hd:16<=d)
  (q:∀j V',SB (p+5) V V'->yT V' j (λ b n=>∃k:Nat,k<=ws.length/\n=k/\Dd hp ws t.ev t.od k (rg b))->K (.ref j) V'):hW bg d 54 [.obj 0 B.i, .obj 6 w, .ref jr, .obj 3 iL, .obj 2 iM] [] V K:=
 aP [.val (.obj 0 B.i), .val (.obj 6 w), .val (.ref jr), .val (.obj 3 iL), .val (.obj 2 iM), .empty, .empty, .empty, .empty, .empty, .empty, .empty, .empty, .empty] rfl rfl rfl hd λ d hd=>⟨nl rfl,gq<|aR (V.length) rfl λ V1 s1 e1 l1=>⟨nl rfl,aR (V.length+1) l1 λ V2 s2 e2 l2=>⟨nl rfl,aR (V.length+2) l2 λ V3 s3 e3 l3=>cw.t ⟨nl rfl,rfl,by
 have hp5:p+5<V.length:=(aU lo λ _ _ l=>aU l.h λ _ h1 _=>br h1);have v3:=s1.trans (s2.trans s3);refine .fld (v3 _ _ body.obj) rfl rfl rfl<| .l (v3 _ _ body.loc) (nl rfl) ?_;have hle:∀{i V'},UD V3 V' t V.length i->bt V V':=λ u j o e=>u.le j o (aH (bN (br e))) (aH (bN (bN (br e)))) (v3 _ _ e);refine qA (xs:=tF t.v) (λ a:Option HV×Option HV=>[.val (.obj 0 B.i), .val (.obj 6 w), .val (.ref jr), .val (.obj 3 iL), .val (.obj 2 iM), .val (.ref V.length), .val (.ref (V.length+1)), .val (.ref (V.length+2)),sl a.1,sl a.2, .empty, .empty, .empty, .empty]) (λ i U V'=>UD V3 V' t V.length i) (none,none)
  ⟨λ k o U U e=>e,⟨bX l3.symm,ai _⟩,⟨λ U=>0,s3 _ _ e2,λ x hx=>aN hx (a0 _)⟩,⟨λ U=>0,e3,λ x hx=>aN hx (a0 _)⟩⟩ (λ i a V' u=>hle u _ _ body.loc) ?_ ?_
 ·intro i v a O hv u N' q';have hi:i<3:=dI hv;refine Es (Dg t i hi) λ x y e=>?_;obtain rfl:v=_:=aA (hv.symm.trans e);exact bM a.1 rfl<|ya (o9:=a.2) wf t0 t1 (hw.trans (hle u)) u hi (ah (by decide) hd) λ V' o9 u'=>q' (some _,o9) V' u'
 intro a O u;have u:UD V3 O t V.length 3:=u;have v:=hle u;refine aU u.u λ ua u1 u2=>?_;refine aU u.d λ da d1 d2=>?_;have hfτ:V.length<O.length:=by have:=u.ll;lia
 have lc:LC V O p V.length:=⟨ai _,hfτ,hp5⟩;have hpl:(gW bs).length=ws.length+1:=la S;refine⟨_,v _ _ rows,db (by rw[hpl];lia),?_⟩
 refine Fw (λ b:Option HV×Option HV×Option HV×Option HV=>[.val (.obj 0 B.i), .val (.obj 6 w), .val (.ref jr), .val (.obj 3 iL), .val (.obj 2 iM), .val (.ref V.length), .val (.ref (V.length+1)), .val (.ref (V.length+2)),sl a.1,sl a.2,sl b.1,sl b.2.1,sl b.2.2.1,sl b.2.2.2])
  (λ k U V'=>∃F,LR V O p hp V.length (4*k) F V'/\∀b m,F.mem b m↔∃j:Nat,j<k/\m=j/\Dd hp ws t.ev t.od j (rg b)) (none,none,none,none)
  ⟨⟨[],λ U=>0,λ U=>[]⟩,⟨u.le _ _ (aH (aI _)) (aH (bN (aI _))) (s3 _ _ (s2 _ _ e1)),(λ U h=>ii h),(λ U h=>ii h),aO _, .nil,(⟨SB.refl _ _,lo⟩:Dy V p hp [] V).add v ⟨ai _,hfτ⟩,(bt.refl O).fr,ai _⟩,λ b m=>⟨λ h=>(ii h.1),λ h=>h.elim λ U h=>aN h.1 (a0 _)⟩⟩ (λ k b V' i=>i.elim λ U i=>i.1.fr _ _ (aH (br rows)) (λ e=>?_) (v _ _ rows)) ?_ ?_
 ·refine aU lo λ U U l=>?_;refine aU l.h λ U g U=>?_;rw[e,g] at rows;exact nomatch rows
 ·intro k v' b O1 hv hq1 N' q';refine aU hq1 λ F h1 h2=>?_;rw[List.getElem?_map] at hv;refine aU (aZ.mp hv) λ c hc rq1=>?_;subst rq1;have hkl:k<ws.length+1:=hpl▸dI hc;have hin:lr bs c:=jn.mp (ar hc);have hpos:pos bs c.1 c.2=k:=by
   refine nv (pk S (bC hkl)) λ b' i' e' g1 g2 g3 g4=>?_;rw[hc] at g1;cases g1;exact g4
  have hsl:∀{M F V'},LR V O p hp V.length M F V'->bt σs V':=λ h=>hs.upd h.dy.fr (ah hlow (ay _ _));have ev:=wM t;have er:=Hw t;refine eP b.1 b.2.1 rfl rfl ?_;refine xZ (l:=ua 1) (x12:=b.2.2.1) (x13:=b.2.2.2) hL (hsl h1) hin lc h1 (by lia) u1 ⟨by lia,by lia⟩ (u2 1 (by decide)).1 ⟨by have:=(u2 1 (by decide)).2;lia,by have:=(u2 1 (by decide)).2;lia⟩ ev.1 er.1 (ah (by decide) hd) λ o12 o13 O2 F2 h3 h4=>?_
  refine wk (l:=da 1) (x12:=o12) (x13:=o13) hL (hsl h3) mv hin lc h3 (by lia) d1 ⟨by lia,by lia⟩ (d2 1 (by decide)).1 ⟨by have:=(d2 1 (by decide)).2;lia,by have:=(d2 1 (by decide)).2;lia⟩ ev.2 er.2 (ah (by decide) hd) λ p12 p13 O3 F3 h5 h6=>q' (some (.int k),some (fy c),p12,p13) O3 ⟨F3,h5.up (by lia),λ b m=>?_⟩
  rw[h6,h4,h2,hpos,or_assoc];refine⟨λ h=>h.elim (by rintro⟨j,j1,j2⟩;exact⟨j,bN j1,j2⟩) λ h=>h.elim (λ h=>⟨k,aI k,h.1, .inl h.2⟩) λ h=>⟨k,aI k,h.1, .inr h.2⟩,λ hv=>gn hv λ j j1 j2 j3=>?_⟩
  by_cases hjk:j=k
  ·subst hjk;exact .inr (j3.elim (λ h=> .inl ⟨j2,h⟩) λ h=> .inr ⟨j2,h⟩)
  ·exact .inl ⟨j,by lia,j2,j3⟩
 ·intro b O1 hq2;refine aU hq2 λ F h1 h2=>?_;rw[List.length_map,hpl] at h1 h2;refine AD h1 (by lia) (λ b n=>(Iff.symm (h2 b n)|> λ h=>⟨λ hv=>aU hv λ k a r=>h.mp ⟨k,k9 a,r⟩,λ r=>(h.mpr r).imp λ k a=>⟨bC a.1,a.2⟩⟩:(∃k:Nat,k<=ws.length/\n=k/\Dd hp ws t.ev t.od k (rg b))↔_)) λ j V' s lv=>q j V' (h1.dy.fr.trans s.sb) lv⟩⟩⟩⟩
end
structure GB (V0 V:aF) (jb js:Nat) (init:List (List Ev)) (last:List Ev) (r:Nat->Nat×Nat):Prop where
 blk:V[jb]? =some (.list ((List.range init.length).map (λ b=> .ref (r b).1)++[.ref (r init.length).1]))
 old:∀b e,init[b]? =some e->V[(r b).1]? =some (.list [.ref (r b).2,xe (b+1)])/\V[(r b).2]? =some (.list (e.map AS))
 ord:∀b,b<init.length->(r b).1<(r init.length).2
 cur:V[(r init.length).1]? =some (.list [.ref (r init.length).2,x1])/\V[(r init.length).2]? =some (.list (last.map AS))
 adr:∀b,b<=init.length->(r b).2<(r b).1/\(r b).2≠jb/\(r b).1≠jb/\(r b).2≠js/\(r b).1≠js/\V0.length<=(r b).2
 le:bt V0 V
 low:V0.length<=jb/\V0.length<=js/\jb≠js/\js<V.length
section
variable{V0 V:aF} {K:KV} {d jb js:Nat} {init:List (List Ev)} {last:List Ev} {r:Nat->Nat×Nat}
theorem pM {F:HV->Prop} {i:Nat} {xs:List HV} {v:HV} (hi:V[i]? =some (.list (xs++[v]))) (hl:(xs++[v]).length<lim) (q:F v):bj V F (.ref i) (.int (-1)):=by
 have e:(xs++[v]).length=xs.length+1:=List.length_append;refine .l (j:=xs.length) hi hl ?_ List.getElem?_concat_length q;show(if 0<(xs++[v]).length then some ((xs++[v]).length - 1) else none)=_
 rw[e,if_pos (Nat.succ_pos _)];rfl
theorem GB.mono {V':aF} (h:GB V0 V jb js init last r) (k:bt V V'):GB V0 V' jb js init last r:=
 ⟨k _ _ h.blk,λ b e q=>⟨k _ _ (h.old b e q).1,k _ _ (h.old b e q).2⟩,h.ord,⟨k _ _ h.cur.1,k _ _ h.cur.2⟩,h.adr,h.le.trans k,⟨h.low.1,h.low.2.1,h.low.2.2.1,aw h.low.2.2.2 k.len⟩⟩
theorem GB.sbs {V':aF} (h:GB V0 V jb js init last r) (k:SB js V V') (l:V'.length=V.length):GB V0 V' jb js init last r:=
 have a:=λ b hb=>h.adr b hb;have ol:=λ b e (q:init[b]? =some e)=>a b (bP (dI q))
 ⟨k _ _ h.low.2.2.1 h.blk,λ b e q=>⟨k _ _ (ol b e q).2.2.2.2.1 (h.old b e q).1,k _ _ (ol b e q).2.2.2.1 (h.old b e q).2⟩,h.ord,⟨k _ _ (a _ (ai _)).2.2.2.2.1 h.cur.1,k _ _ (a _ (ai _)).2.2.2.1 h.cur.2⟩,h.adr,h.le.upd k h.low.2.1,⟨h.low.1,h.low.2.1,h.low.2.2.1,l▸h.low.2.2.2⟩⟩
theorem GB.blkl (h:GB V0 V jb js init last r) (hz:init.length<30):((List.range init.length).map (λ b=>HV.ref (r b).1)++[HV.ref (r init.length).1]).length<lim:=by
 rw[List.length_append,List.length_map,List.length_range];exact az (Nat.add_lt_add_right hz 1) (by decide)
theorem GB.app {F:aF->Prop} {e:Ev} (h:GB V0 V jb js init last r) (hz:init.length<30/\last.length<30) (q:∀V',GB V0 V' jb js init (last++[e]) r->SB (r init.length).2 V V'->F V'):
  bj V (λ v=>bj V (λ w=>jE bg V 7 (λ m=>By (hW bg d) m [AS e] V λ U V=>F V) w) v (.int 0)) (.ref jb) (.int (-1)):=by
 have a:=h.adr _ (ai init.length);refine pM h.blk (h.blkl hz.1)<| .l h.cur.1 (nl rfl) rfl rfl<| .l h.cur.2 rfl rfl<|dB h.cur.2 (db (az hz.2 (by decide))) λ V' s e' l=>q V' ⟨s _ _ a.2.1.symm h.blk,λ b x hx=>?_,h.ord,⟨s _ _ (aE a.1) h.cur.1,by rw[e',List.map_append];rfl⟩,h.adr,h.le.upd s a.2.2.2.2.2,⟨h.low.1,h.low.2.1,h.low.2.2.1,l▸h.low.2.2.2⟩⟩ s
 have hb:=dI hx;have o:=h.ord b hb;have ab:=h.adr b (bP hb);exact⟨s _ _ (aH o) (h.old b x hx).1,s _ _ (aH (az ab.1 o)) (h.old b x hx).2⟩
theorem GB.drop {F:aF->Prop} (h:GB V0 V jb js init last r) (hz:init.length<30)
  (q:∀V' r',GB V0 V' jb js (init++[last]) [] r'->(∀i o,i<V0.length\/i=js->V[i]? =some o->V'[i]? =some o)->F V'):
  bj V (λ v=>nt V (xe (init.length+1)) (λ V=>jE bg V 7 (λ m=>((0:Nat)<lim/\eJ V (λ v V=>2<lim/\eJ V (λ w V=>By (hW bg d) m [w] V λ U V=>F V) (.list [v,x1])) (.list []))) (HV.ref jb)) v (.int 1)) (.ref jb) (.int (-1)):=by
 have a:=h.adr _ (ai init.length);refine pM h.blk (h.blkl hz)<|putL (j:=1) h.cur.1 (nl rfl) (nl rfl) λ V1 s1 e1 l1=>?_;have b1:=s1 _ _ a.2.2.1.symm h.blk;refine .l b1 rfl rfl ⟨nl rfl,aR _ rfl λ V2 s2 e2 l2=>⟨nl rfl,aR _ l2 λ V3 s3 e3 l3=>dB (s3 _ _ (s2 _ _ b1)) (h.blkl hz) λ V4 s4 e4 l4=>?_⟩⟩;have hlen:(init++[last]).length=init.length+1:=List.length_append;have hb1:jb<V1.length:=br b1;have rlt:∀b,b<=init.length->(r b).1<V1.length:=λ b hb=>by
  by_cases e:b=init.length
  ·rw[e,l1];exact br h.cur.1
  ·have hb':=jH hb e;exact l1▸br (h.old b (init[b]'hb') (ak hb')).1
 have up:∀{i o},i≠(r init.length).1->i≠jb->V[i]? =some o->V4[i]? =some o:=λ n m e=>s4 _ _ m (s3 _ _ (s2 _ _ (s1 _ _ n e)));obtain⟨r',rb,rn⟩:∃r':Nat->Nat×Nat,(∀b,b<=init.length->r' b=r b)/\r' (init.length+1)=(V1.length+1,V1.length):=⟨λ b=>if b=init.length+1 then(V1.length+1,V1.length) else r b,λ b hb=>if_neg (by lia),if_pos rfl⟩
 have hjs:=h.low.2.2.2;have lo:∀{i o},i<V0.length->V[i]? =some o->V4[i]? =some o:=λ hi e=>up (by lia) (by have:=h.low.1;lia) e
 have last':∀{b e},(init++[last])[b]? =some e->(b<init.length/\init[b]? =some e)\/(b=init.length/\e=last):=λ {b e} hb=>by
  by_cases hbl:b<init.length
  ·rw[List.getElem?_append_left hbl] at hb;exact .inl ⟨hbl,hb⟩
  ·have:=dI hb;rw[hlen] at this;have hbe:b=init.length:=cn (bC this) (bF.mp hbl);rw[hbe,List.getElem?_concat_length] at hb;exact .inr ⟨hbe,(aA hb).symm⟩
 refine q V4 r' ⟨?_,λ b e hb=>?_,λ b hb=>?_,?_,λ b hb=>?_,λ i o ei=>lo (br ei) (h.le i o ei),⟨h.low.1,h.low.2.1,h.low.2.2.1,by lia⟩⟩ λ i o hi ei=>hi.elim (λ hi=>lo hi ei) λ hi=>up (hi▸a.2.2.2.2.1.symm) (hi▸h.low.2.2.1.symm) ei
 ·rw[e4,hlen,rn,List.range_succ,List.map_append];refine am (λ l=>some (HO.list (l++[HV.ref (V1.length+1)]))) ?_;exact congr (am _ (List.map_congr_left λ x hx=>by rw[rb x (Nat.le_of_lt (List.mem_range.mp hx))])) (by rw[<- rb _ (Nat.le_refl _)];rfl)
 ·rcases last' hb with⟨hbl,hb⟩|⟨rfl,rfl⟩
  ·have o:=h.ord b hbl;have ab:=h.adr b (bP hbl);rw[rb b (Nat.le_of_lt hbl)];exact⟨up (by lia) ab.2.2.1 (h.old b e hb).1,up (by lia) ab.2.1 (h.old b e hb).2⟩
  ·rw[rb _ (Nat.le_refl _)];exact⟨s4 _ _ a.2.2.1 (s3 _ _ (s2 _ _ e1)),up (aH a.1) a.2.1 h.cur.2⟩
 ·rw[hlen] at hb;rw[hlen,rn,rb b (Nat.le_of_lt_succ hb)];exact rlt b (bC hb)
 ·rw[hlen,rn];exact⟨s4 _ _ (by show V1.length+1≠jb;lia) e3,s4 _ _ (by show V1.length≠jb;lia) (s3 _ _ e2)⟩
 ·rw[hlen] at hb;by_cases hbe:b=init.length+1
  ·rw[hbe,rn];have:=h.le.len;exact⟨aI _,aE hb1,aE (bN hb1),by show V1.length≠js;lia,by show V1.length+1≠js;lia,by show _<=V1.length;lia⟩
  ·rw[rb b (by lia)];exact h.adr b (by lia)
end
noncomputable def uh (ws:List Ev) (k:Nat):Pp:=((mQ (ws.take k)).1.length,(mQ (ws.take k)).2.length)
theorem xt {ws:List Ev} {k:Nat} {e:Ev} (h:ws[k]? =some e):mQ (ws.take (k+1))=cJ (mQ (ws.take k)) e:=by
 rw[List.take_add_one,h];exact yZ _ _
theorem uN (ws:List Ev):(mQ ws).1.length<=ws.length/\(mQ ws).2.length<=ws.length:=by
 have h:=(tE ws).sz;unfold bl at h;rw[List.length_append] at h;exact⟨cu h.1,h.2 _ (List.mem_append_right _ (.head _))⟩
section
variable{V0 V:aF} {K:KV} {d jb js jw:Nat} {init:List (List Ev)} {last:List Ev} {r:Nat->Nat×Nat} {told pt:HV} {ws:List Ev}
theorem GB.body {B:BL} (h:GB V0 V B.jb js (mQ ws).1 (mQ ws).2 r) (hw:ws.length<=8) (ho:V[B.i]? =some (.dict B.kvs)) (hl:V[B.jl]? =some (.list (tF told))):∃ra,bR V B told (bl ws) ra:=by
 have S:=tE ws;have hlen:(bl ws).length=(mQ ws).1.length+1:=List.length_append;refine⟨(List.range ((mQ ws).1.length+1)).map r,ho,hl,?_,by rw[List.length_map,List.length_range,hlen],λ b e hb=>?_,S.nd,⟨by have:=S.sz.1;lia,λ e he=>by have:=S.sz.2 e he;lia⟩⟩
 ·rw[h.blk,List.map_map,List.range_succ,List.map_append];rfl
 ·have hb1:=dI hb;rw[hlen] at hb1;have hat:RA.at ((List.range ((mQ ws).1.length+1)).map r) b=r b:=by
   unfold RA.at;rw[List.getElem?_map,List.getElem?_range hb1];rfl
  rw[hat,hlen];unfold D5;unfold bl at hb;by_cases hbl:b<(mQ ws).1.length
  ·rw[List.getElem?_append_left hbl] at hb;rw[if_pos (Nat.succ_lt_succ hbl)];exact h.old b e hb
  ·obtain rfl:b=(mQ ws).1.length:=by lia
   rw[List.getElem?_concat_length] at hb;cases hb;rw[if_neg (Nat.lt_irrefl _)];exact h.cur
theorem tQ {F:aF->Prop} {sp:List HV} (h:GB V0 V jb js init last r) (hz:init.length<30/\last.length<30/\sp.length<30) (hs:V[js]? =some (.list sp))
  (q:∀V',GB V0 V' jb js init last r->V'[js]? =some (.list (sp++[pV init.length last.length]))->F V'):
  jE bg V 7 (λ m=>eU V (λ v V=>dh V (λ v V=>bj V (λ w=>bj V (λ w=>eU V (λ u V=>By (hW bg d) m [.t [v,u]] V λ U V=>F V) .len [w]) w (.int 0)) (.ref jb) (.int (-1))) .sub v (.int 1)) .len [.ref jb]) (.ref js):=by
 refine .l hs rfl rfl<| .lenL h.blk (h.blkl hz.1)<| .sub (Gv (by rw[List.length_append,List.length_map,List.length_range];exact aj hz.1 (by decide))) (cq (by decide))<|pM h.blk (h.blkl hz.1)<| .l h.cur.1 (nl rfl) rfl rfl<| .lenL h.cur.2 (db (az hz.2.1 (by decide))) ?_
 rw[show((((List.range init.length).map (λ b=>HV.ref (r b).1)++[HV.ref (r init.length).1]).length:Nat):Int) - 1=(init.length:Int) by rw[List.length_append,List.length_map,List.length_range];exact Int.add_sub_cancel (init.length:Int) 1,List.length_map]
 exact dB hs (az hz.2.2 (by decide)) λ V' s e l=>q V' (h.sbs s l) e
theorem uZ {N:bc->aF->Prop} {R:KV} {e:Ev} {o6:Option HV} (h:GB V0 V jb js init last r) (hz:init.length<29/\last.length<29) (hp:e= .part->pt=gF)
  (q:∀V' o6 r',GB V0 V' jb js (cJ (init,last) e).1 (cJ (init,last) e).2 r'->(∀o,V[js]? =some o->V'[js]? =some o)->N [.val told, .val pt, .val (.ref jw), .val (.ref jb), .val (.ref js), .val (dE e),sl o6] V'):
  kL bg (hW bg d) [.if_ (.c .eq (.x 5) (.k (.str 29))) [.g (.sub (.sub (.x 3) (.neg (.k (.int 1)))) (.k (.int 1))) (.t [.k (.str 29),.t [.k (.int 1),.t []],.bi .len [.x 3]]),
   .expr (.m (.x 3) 7 [.list [.list [],.t [.k (.str 118),.k (.str 119)]]])] [.if_ (.c .eq (.x 5) (.k (.str 116))) [.expr (.m (.sub (.sub (.x 3) (.neg (.k (.int 1)))) (.k (.int 0))) 7 [.t [.k (.str 120)]])] [.if_ (.c .eq (.x 5) (.k (.str 32))) [.expr (.m (.sub (.sub (.x 3) (.neg (.k (.int 1)))) (.k (.int 0))) 7 [.t [.k (.str 37),.t [.k (.int 2),.t []],.t [.k (.str 32),.t [.k (.str 121),.t [.k (.int 1),.t []]]]]])] [.g (.x 6) (.ite (.c .eq (.x 5) (.k (.str 115))) (.t []) (.t [.x 1])),
    .expr (.m (.sub (.sub (.x 3) (.neg (.k (.int 1)))) (.k (.int 0))) 7 [.t [.k (.str 37),.t [.k (.int 1),.x 6],.t [.k (.str 32),.t [.k (.str 73),.k (.t [.str 8,.str 99]),.k (.int 0)]]]])]]]]
   [.val told, .val pt, .val (.ref jw), .val (.ref jb), .val (.ref js), .val (dE e),sl o6] V N R:=by
 have hz':init.length<30/\last.length<30:=⟨bN hz.1,bN hz.2⟩;have jsn:∀{V'},SB (r init.length).2 V V'->∀o,V[js]? =some o->V'[js]? =some o:=λ k o e=>k _ _ (h.adr _ (ai _)).2.2.2.1.symm e
 induction e using Hr with
 |d=>
  refine .eq (.c rfl rfl) rfl<| .lenL h.blk (h.blkl hz'.1) ?_;rw[show((List.range init.length).map (λ b=>HV.ref (r b).1)++[HV.ref (r init.length).1]).length=init.length+1 by rw[List.length_append,List.length_map,List.length_range];rfl]
  exact h.drop hz'.1 λ V' r' g f=>q V' o6 r' g λ o e=>f _ _ (.inr rfl) e
 |r=>exact .eq (.c rfl rfl) rfl<| .eq (.c rfl rfl) rfl<|h.app (e:= .rest) hz' λ V' g k=>q V' o6 r g (jsn k)
 |u=>exact .eq (.c rfl rfl) rfl<| .eq (.c rfl rfl) rfl<| .eq (.c rfl rfl) rfl<|h.app (e:= .use) hz' λ V' g k=>q V' o6 r g (jsn k)
 |s=>exact .eq (.c rfl rfl) rfl<| .eq (.c rfl rfl) rfl<| .eq (.c rfl rfl) rfl<| .eq (.c rfl rfl) rfl<|eG o6 rfl<|h.app (e:= .set) hz' λ V' g k=>q V' (some (.t [])) r g (jsn k)
 |p=>
  have hp:=hp rfl;subst hp;exact .eq (.c rfl rfl) rfl<| .eq (.c rfl rfl) rfl<| .eq (.c rfl rfl) rfl<| .eq (.c rfl rfl) rfl<|eG o6 rfl<|h.app (e:= .part) hz' λ V' g k=>q V' (some (.t [gF])) r g (jsn k)
end
section
variable{V:aF} {K:KV} {d jw:Nat} {told pt:HV} {ws:List Ev}
theorem qh {F:aF->Prop} {i jl jb jd:Nat} {xs:List HV} (hi:V.length=i) (hl:V[jl]? =some (.list xs)) (hx:xs.length<lim) (hd:1<=d)
  (q:∀V',bt V V'->V'[i]? =some (.dict (BL.kvs ⟨i,i+1,jb,jd⟩))->V'[i+1]? =some (.list xs)->F V') (V1:aF) (s1:bt V V1) (e1:V1[i]? =some (.dict [])) (l1:V1.length=i+1):
  hW bg d 13 [.obj 0 i, .str 122, .int 0, .ref jl, .ref jb, .ref jd] [] V1 λ v V2=>v= .none/\F V2:=
 aP [.val (.obj 0 i), .val (.str 122), .val (.int 0), .val (.ref jl), .val (.ref jb), .val (.ref jd)] rfl rfl rfl hd λ d hd=>by
 have hil:V.length<=i:=bX hi;have hjl:jl≠i:=aH (hi▸br hl);refine dK e1 rfl rfl (nl rfl) λ V2 s2 e2 l2=>dK e2 rfl rfl (nl rfl) λ V3 s3 e3 l3=> .l (s3 _ _ hjl (s2 _ _ hjl (s1 _ _ hl))) ⟨hx,i3 e3 (l3.trans (l2.trans l1)) rfl rfl (nl rfl) λ V4 s4 e4 a4 l4=> .is_<|dK e4 rfl rfl (nl rfl) λ V5 s5 e5 l5=> .is_<|dK e5 rfl rfl (nl rfl) λ V6 s6 e6 l6=>⟨rfl,?_⟩⟩;have s56:=s5.trans s6;exact q V6 (s1.upd (s2.trans (s3.trans (s4.trans s56))) hil) e6 (s56 _ _ (aE (aI _)) a4)
theorem AG (hw:V[jw]? =some (.list (ws.map dE))) (h8:ws.length<=8) (hp:Ev.part∈ws->pt=gF) (hd:2<=d)
  (q:∀j V' B ra js,bt V V'->V'[j]? =some (.list [.obj 0 B.i, .ref js])->bR V' B told (bl ws) ra->V'[js]? =some (.list ((List.range (ws.length+1)).map λ k=>fy (uh ws k)))->K (.ref j) V'):
  hW bg d 74 [told,pt, .ref jw] [] V K:=
 aP [.val told, .val pt, .val (.ref jw), .empty, .empty, .empty, .empty] rfl rfl rfl hd λ d hd=>⟨nl rfl,aR V.length rfl λ V1 s1 e1 l1=>⟨nl rfl,aR (V.length+1) l1 λ V2 s2 e2 l2=>⟨nl rfl,aR (V.length+2) l2 λ V3 s3 e3 l3=>⟨nl rfl,aR (V.length+3) l3 λ V4 s4 e4 l4=>cw.t ⟨nl rfl,rfl,by
 have v4:=s1.trans (s2.trans (s3.trans s4));have g4:GB V V4 (V.length+2) (V.length+3) [] [] λ U=>(V.length+1,V.length):=⟨s4 _ _ e3,(λ U U h=>dX h),(λ U h=>aN h (a0 _)),⟨s4 _ _ (s3 _ _ e2),s4 _ _ (s3 _ _ (s2 _ _ e1))⟩,λ U U=>⟨aI _,cb (a:=0) rfl,cb rfl,cb (a:=0) rfl,cb rfl,ai _⟩,v4,⟨ay _ _,ay _ _,cb rfl,by lia⟩⟩
 have bz:∀k,(mQ (ws.take k)).1.length<29/\(mQ (ws.take k)).2.length<29:=λ k=>by
  have h1:=uN (ws.take k);have h2:=List.length_take_le' k ws;exact⟨by lia,by lia⟩
 refine .l (v4 _ _ hw) (db (by lia)) ?_
 refine qA (λ a:Option HV×Option HV=>[.val told, .val pt, .val (.ref jw), .val (.ref (V.length+2)), .val (.ref (V.length+3)),sl a.1,sl a.2]) (λ k U V'=>(∃r,GB V V' (V.length+2) (V.length+3) (mQ (ws.take k)).1 (mQ (ws.take k)).2 r)/\V'[V.length+3]? =some (.list ((List.range k).map λ k=>fy (uh ws k)))) (none,none)
  ⟨⟨_,g4⟩,e4⟩ (λ k a V' i=>i.1.elim λ U g=>g.le _ _ hw) ?_ ?_
 ·intro k v a O hv hq1 N' q';refine cO hq1 λ hq2 es=>?_;refine ce hq2 λ r g=>?_;rw[List.getElem?_map] at hv;refine aU (aZ.mp hv) λ e he rq1=>?_;subst rq1;have hk:=dI he;have b:=bz k;refine bM a.1 rfl<|tQ g ⟨by lia,by lia,by rw[fQ];lia⟩ es λ O1 g1 es1=>uZ (o6:=a.2) g1 b (λ he'=>hp (he'▸ar he)) λ O2 o6 r' g2 f2=>q' (some (dE e),o6) O2 ⟨⟨r',?_⟩,f2 _ (es1.trans (am (λ l=>some (HO.list l)) (eX (f:=λ k=>fy (uh ws k)))))⟩
  rw[xt he];exact g2
 ·intro a O hq3;refine cO hq3 λ hq4 es=>?_;refine ce hq4 λ r g=>?_;rw[List.length_map,List.take_length] at g;rw[List.length_map] at es;have b:=uN ws;refine tQ g ⟨by lia,by lia,by rw[fQ];lia⟩ es λ O1 g1 es1=>?_
  have es1:O1[V.length+3]? =some (.list ((List.range (ws.length+1)).map λ k=>fy (uh ws k))):=by
   rw[es1,<- eX (f:=λ k=>fy (uh ws k))];unfold uh;rw[List.take_length]
  refine⟨nl rfl,aR _ rfl λ O2 w2 f2 k2=>⟨nl rfl,gq<|aR _ k2 λ O3 w3 f3 k3=>aR (O1.length+1+1) k3<|qh (i:=O1.length+1+1) k3 (w3 _ _ f2) (nl rfl) (ah (by decide) hd) λ O4 w4 f4 a4=>⟨nl rfl,aR _ rfl λ O5 w5 f5 U=>?_⟩⟩⟩
  have w25:=w2.trans (w3.trans (w4.trans w5));refine ce (GB.body (B:=⟨O1.length+1+1,O1.length+1+1+1,V.length+2,O1.length+1⟩) (told:=told) (g1.mono w25) h8 (w5 _ _ f4) (w5 _ _ a4)) λ ra hb=>?_;exact q _ O5 ⟨O1.length+1+1,O1.length+1+1+1,V.length+2,O1.length+1⟩ ra _ (g1.mono w25).le f5 hb (w25 _ _ es1)⟩⟩⟩⟩⟩
end
noncomputable def so {X:Type} [DecidableEq X] (a:X):List X->Option Nat
 |[]=>none
 |x::r=>if x=a then some 0 else(so a r).map (·+1)
theorem jI {X:Type} [DecidableEq X] {a x:X} {r:List X}:so a (x::r)=if x=a then some 0 else(so a r).map (·+1):=rfl
section
variable{X:Type} [DecidableEq X] {k:X->HV} (ke:KE k)
include ke
theorem KE.mem (a:X) (l:List X):ew (k a) (l.map k)=some (decide (a∈l)):=by
 induction l with
 |nil=>rfl
 |cons x r ih=>
  refine(jK (ke.eq x a) ih).trans (am some ?_);rw[<- Bool.decide_or];exact dT.mpr ⟨λ h=>h.elim (λ e=>e▸ .head _) (.tail _),λ h=>(aB.mp h).elim (λ e=> .inl e.symm) .inr⟩
theorem KE.idx (a:X) (l:List X):kW (k a) (l.map k)=some (so a l):=by
 induction l with
 |nil=>rfl
 |cons x r ih=>
  refine(zS (ke.eq x a) ih).trans (am some ?_);rw[jI];by_cases h:x=a
  ·rw[decide_eq_true h,if_pos h];exact if_pos rfl
  ·rw[decide_eq_false h,if_neg h];exact if_neg aQ
end
theorem A9 {X:Type} [DecidableEq X] {a:X} {l:List X}:∀{n:Nat},l[n]? =some a->(∀j,j<n->l[j]? ≠some a)->so a l=some n:=by
 induction l with
 |nil=>exact λ h=>dX h
 |cons x r ih=>
  intro n h hj;rw[jI];rcases n with _|n
  ·exact if_pos (aA h)
  ·rw[if_neg λ (e:x=a)=>hj 0 (Nat.succ_pos n) (e▸rfl),ih (n:=n) h λ j q=>hj (j+1) (Nat.succ_lt_succ q)];rfl
theorem tK:KE dE:=⟨λ a b=>by rcases a with _|_<;>rcases b with _|_<;>rfl,λ a kvs h=>by
 have:(kvs.all λ p=>isStr p.1)=true:=aM.mpr λ kv hk=>ce (h kv hk) λ b e=>by rw[e];rcases b with _|_<;>rfl
 rcases a with _|_<;>exact this⟩
noncomputable def eg:List Ev->List Ev
 |[]=>[]
 |x::r=>if x= .set then[] else x::eg r
theorem vB {x:Ev} {r:List Ev}:eg (x::r)=if x= .set then[] else x::eg r:=rfl
theorem yf {l:List Ev}:Ev.set∈l->∃n,so .set l=some n/\n<=l.length/\l.take n=eg l:=by
 induction l with
 |nil=>exact by decide
 |cons x r ih=>
  intro h;rw[jI,vB];by_cases hx:x= .set
  ·rw[if_pos hx,if_pos hx];exact⟨0,rfl,aO _,rfl⟩
  ·refine gn (ih ((aB.mp h).elim (λ e=>aN e.symm hx) id)) λ n h1 h2 h3=>?_;rw[if_neg hx,if_neg hx,h1];exact⟨n+1,rfl,aX h2,am (x::·) h3⟩
theorem uP {l:List Ev}:Ev.set∉l->eg l=l:=by
 induction l with
 |nil=>exact λ U=>rfl
 |cons x r ih=>exact λ h=>(if_neg λ (e:x= .set)=>h (e▸ .head _)).trans (am (x::·) (ih λ h'=>h (.tail _ h')))
noncomputable def qo (b:Bool) (e:Ev):Bool:=decide (e= .set)||decide (e= .part)||(b&&decide (e≠ .drop))
noncomputable def hh (l:List Ev):Bool:=l.foldl qo false
noncomputable def nA (ws:List Ev) (k:Nat) (E τ:List Int):List Int:=
 if Ev.use∈eg (ws.drop k)\/Ev.part∈eg (ws.drop k) then E else if Ev.drop∈eg (ws.drop k)/\hh (ws.take k)=true then dW τ else[]
theorem xP {xs:List HV} {k:Nat} (h:k<=xs.length):f8 (some (k:Int)) none xs=xs.drop k:=by
 show(xs.take xs.length).drop (min k xs.length)=_;rw[List.take_length,Nat.min_eq_left h]
theorem qg {xs:List HV} {k:Nat} (h:k<=xs.length):f8 none (some (k:Int)) xs=xs.take k:=by
 show(xs.take (min k xs.length)).drop 0=_;rw[Nat.min_eq_left h];rfl
section
variable{V:aF} {K:KV} {d jw je jo k:Nat} {ws l:List Ev} {E τ:List Int}
theorem BX {i:Nat} {xs ys:List HV} {lo hi:Option Int} (hi':V[i]? =some (.list xs)) (hl:xs.length<lim) (e:f8 lo hi xs=ys) (h:∀V',bt V V'->V'[V.length]? =some (.list ys)->K (.ref V.length) V'):uY V K lo hi (.ref i):=by
 subst e;exact .l hi' hl (aR _ rfl λ V' s e U=>h V' s e).h
theorem G2 {F:Bool->Prop} {i:Nat} (e:Ev) (hi:V[i]? =some (.list (l.map dE))) (q:F (decide (e∈l))):aS V F .in_ (dE e) (.ref i):= .in_ (.l hi (tK.mem e l)) q
theorem ES {i:Nat} {l:List Int} (hi:V[i]? =some (.list (l.map .int))) (hl:l.length<64) (h:∀V',bt V V'->V'[V.length]? =some (.list ((dW l).map .int))->K (.ref V.length) V'):eU V K .sorted [.ref i]:= .srtL hi (cg l) hl (aR _ rfl λ V' s e U=>h V' s e).h
theorem y4 (h1:V[jw]? =some (.list (ws.map dE))) (h2:V[je]? =some (.list (E.map .int))) (h3:V[jo]? =some (.list (τ.map .int))) (hw:ws.length<=8) (hk:k<=ws.length) (hO:τ.length<=2) (hd:1<=d)
  (q:∀j V',bt V V'->V'[j]? =some (.list ((nA ws k E τ).map .int))->K (.ref j) V'):hW bg d 75 [.ref jw, .int k, .ref je, .ref jo] [] V K:=
 aP [.val (.ref jw), .val (.int k), .val (.ref je), .val (.ref jo), .empty, .empty, .empty] rfl rfl rfl hd λ d hd=>by
 have hwl:(ws.map dE).length<lim:=db (aj hw (by decide))
 have hkl:k<=(ws.map dE).length:=by rw[List.length_map];exact hk
 refine BX (ys:=(ws.drop k).map dE) h1 hwl (by rw[xP hkl,List.map_drop]) λ V1 s1 e1=>?_
 have hdl:∀{l:List Ev},l.length<=(ws.drop k).length->(l.map dE).length<lim:=λ h=>db (aj (ah h (ah (List.length_drop▸k7 _ _) hw)) (by decide))
 have rest:∀(V2:aF) (jl:Nat),bt V V2->V2[jl]? =some (.list ((eg (ws.drop k)).map dE))->kL bg (hW bg d) (kD.body.drop 2) [.val (.ref jw), .val (.int k), .val (.ref je), .val (.ref jo), .val (.ref jl), .empty, .empty] V2 (λ U V=>K .none V) K:=by
  intro V2 jl s2 e2;unfold nA at q;refine G2 .use e2<|zh (λ hu=>?_) λ hu=>G2 .part e2 ?_
  ·rw[if_pos (.inl hu)] at q;exact q _ V2 s2 (s2 _ _ h2)
  refine zh (λ hp=>?_) λ hp=>?_
  ·rw[if_pos (.inr hp)] at q;exact q _ V2 s2 (s2 _ _ h2)
  rw[if_neg λ h=>h.elim hu hp] at q;refine BX (ys:=(ws.take k).map dE) (s2 _ _ h1) hwl (by rw[qg hkl,List.map_take]) λ V3 s3 e3=> .l e3 (db (by rw[List.length_take];exact aj (ah (Nat.min_le_right _ _) hw) (by decide))) ?_
  refine qA (λ a:Bool×Option HV=>[.val (.ref jw), .val (.int k), .val (.ref je), .val (.ref jo), .val (.ref jl), .val (.bool a.1),sl a.2]) (λ i a V'=>a.1=hh ((ws.take k).take i)/\bt V3 V') (false,none) ⟨rfl,bt.refl _⟩ (λ i a V' h=>h.2 _ _ e3) ?_ ?_
  ·intro i v a O hv hq1 N' q';refine cO hq1 λ ha ht=>?_;rw[List.getElem?_map] at hv;refine aU (aZ.mp hv) λ e he rq1=>?_;subst rq1;have hst:hh ((ws.take k).take (i+1))=qo a.1 e:=by
    unfold hh at ha ⊢;rw[List.take_add_one,he,List.foldl_append,<- ha];rfl
   have q':=λ O' (s:bt O O')=>q' (qo a.1 e,some (dE e)) O' ⟨hst.symm,ht.trans s⟩;generalize a.1=b at q';refine bM a.2 rfl ⟨nl rfl,aR _ rfl λ O1 t1 f1 U=>?_⟩;have q':=q' O1 t1
   induction e using Hr with
   |s=>exact .in_ (t:=true) (.l f1 rfl) q'
   |p=>exact .in_ (t:=true) (.l f1 rfl) q'
   |_=>
    refine .in_ (t:=false) (.l f1 rfl) ?_
    induction b using Jp with
    |false=>exact q'
    |true=>exact .ne (.c rfl rfl) q'
  ·intro a O hq2;refine cO hq2 λ ha ht=>?_;have st:=s2.trans (s3.trans ht);rw[List.length_map,List.take_length] at ha;replace q:=ha.symm▸q;have no:¬(Ev.drop∈eg (ws.drop k)/\a.1=true)->eJ O K (.list []):=λ h=>by
    rw[if_neg h] at q;exact aR _ rfl λ O1 t1 f1 U=>q _ O1 (st.trans t1) f1
   refine G2 .drop (s3.trans ht _ _ e2)<|zh (λ hdr=>?_) λ hdr=>⟨nl rfl,no λ h=>hdr h.1⟩
   induction hb:a.1 using Jp with
   |false=>exact⟨nl rfl,no λ h=>aQ (hb.symm.trans h.2)⟩
   |true=>
    rw[if_pos ⟨hdr,hb⟩] at q;exact ES (st _ _ h3) (by lia) λ O1 t1 f1=>q _ O1 (st.trans t1) f1
 refine G2 .set e1<|zh (λ hs=>?_) λ hs=>rest V1 _ s1 (by rw[uP hs];exact e1)
 refine gn (yf hs) λ n g1 g2 g3=>?_;refine .l e1 rfl rfl<| .index (k:=n) e1 (hdl (ai _)) ((tK.idx .set _).trans (am some g1))<|BX (ys:=(eg (ws.drop k)).map dE) e1 (hdl (ai _)) (by rw[qg (by rw[List.length_map];exact g2),<- List.map_take,g3]) λ V2 s2 e2=>rest V2 _ (s1.trans s2) e2
end
theorem DB:∀l:List Ev,l.foldr (λ e x=>Gu (some e) x) (Gu none false)=decide (Ev.use∈eg l\/Ev.part∈eg l):=by
 intro l_
 induction l_ with
 |nil=>
  exact rfl
 |cons x r ih=>
  rw[List.foldr_cons,ih];have tail:x≠ .set->x≠ .use->x≠ .part->decide (Ev.use∈eg r\/Ev.part∈eg r)=decide (Ev.use∈x::eg r\/Ev.part∈x::eg r):=λ U h1 h2=>dT.mpr ⟨λ h=>h.imp (.tail _) (.tail _),λ h=>h.imp (λ h=>(aB.mp h).elim (λ e=>aN e.symm h1) id) λ h=>(aB.mp h).elim (λ e=>aN e.symm h2) id⟩;cases x with
  |set=>rfl
  |use=>exact(b6 (.inl (.head _))).symm
  |part=>exact(b6 (.inr (.head _))).symm
  |drop=>exact tail (by decide) (by decide) (by decide)
  |rest=>exact tail (by decide) (by decide) (λ h=>nomatch h)
theorem Da:∀l:List Ev,l.foldr (λ e x=>Gd (some e) x) (Gd none false)=decide (Ev.drop∈eg l):=by
 intro l_
 induction l_ with
 |nil=>
  exact rfl
 |cons x r ih=>
  rw[List.foldr_cons,ih];have tail:x≠ .drop->decide (Ev.drop∈eg r)=decide (Ev.drop∈x::eg r):=λ h1=>dT.mpr ⟨.tail _,λ h=>(aB.mp h).elim (λ e=>aN e.symm h1) id⟩;cases x with
  |set=>rfl
  |drop=>exact(b6 (show Ev.drop∈Ev.drop::eg r from .head _)).symm
  |use=>exact tail λ h=>nomatch h
  |part=>exact tail λ h=>nomatch h
  |rest=>exact tail λ h=>nomatch h
noncomputable def T3.isR:T3->Bool
 | .r=>true
 |_=>false
noncomputable def hS (hp:Bool) (s:qV):Bool:=s.a.isR||(hp&&s.c.isR)
theorem zy:(B8 λ a=>B8 λ b=>B8 λ c=>(zi false ⟨a,b,c⟩==hS false ⟨a,b,c⟩)&&(zi true ⟨a,b,c⟩==hS true ⟨a,b,c⟩))=true:=by decide+kernel
theorem H8 (hp:Bool) (s:qV):zi hp s=hS hp s:=by
 obtain⟨a,b,c⟩:=s;refine cO (aD.mp (jR (jR (jR zy a) b) c)) λ h1 h2=>?_;cases hp
 ·exact eq_of_beq h1
 ·exact eq_of_beq h2
theorem zp {hp:Bool} {e:Ev} (s:qV) (h:e= .part->hp=true):hS hp (ms (some e) s)=qo (hS hp s) e:=by
 obtain⟨a,b,c⟩:=s;cases e with
 |set=>rfl
 |part=>rw[h rfl];rcases a with _|_<;>rfl
 |use=>rcases a with _|_<;>rcases hp with _|_<;>rcases c with _|_<;>rfl
 |rest=>rcases a with _|_<;>rcases hp with _|_<;>rcases c with _|_<;>rfl
 |drop=>rcases a with _|_<;>rcases hp with _|_<;>rcases c with _|_<;>rfl
theorem F9 (ws:List Ev) (k:Nat):zi (decide (Ev.part∈ws)) (ij ws k)=hh (ws.take k):=by
 have key:∀(l:List Ev) (s:qV) (b:Bool) (hp:Bool),(Ev.part∈l->hp=true)->hS hp s=b->hS hp (l.foldl (λ s e=>ms (some e) s) s)=l.foldl qo b:=by
  intro l
  induction l with
  |nil=>exact λ s b hp U h=>h
  |cons e r ih=>exact λ s b hp h1 h2=>ih _ _ hp (λ q=>h1 (.tail _ q)) (h2▸zp s λ q=>h1 (q▸ .head _))
 rw[H8];refine key _ _ _ _ (λ h=>b6 (List.mem_of_mem_take h)) ?_;cases decide (Ev.part∈ws)<;>rfl
theorem pi (ws:List Ev) (E τ:List Int) (k:Nat) (r:Int):Dd (decide (Ev.part∈ws)) ws E τ k r↔((Ev.use∈eg (ws.drop k)\/Ev.part∈eg (ws.drop k))/\r∈E)\/(Ev.drop∈eg (ws.drop k)/\hh (ws.take k)=true/\r∈τ):=by
 unfold Dd jQ;rw[DB,Da,F9,decide_eq_true_iff,decide_eq_true_iff]
noncomputable def f2 (L:List Int):List Int:=([false,true].filter λ b=>L.contains (rg b)).map rg
noncomputable def EO (E τ:List Int):Bool:=(f2 E==E)&&((f2 τ==τ)&&((dW τ==τ)&&(τ.all λ r=>E.contains r)))
theorem eo (t:TT):EO t.ev t.od=true:=match t with
 | .un=>rfl
 | .ty .a p _=>by rcases p with _|_<;>rfl
 | .ty .s p p'=>by rcases p with _|_<;>rcases p' with _|_<;>rfl
 | .ty .e p p'=>by rcases p with _|_<;>rcases p' with _|_<;>rfl
theorem xE {ws:List Ev} {E τ:List Int} {k:Nat} (h:EO E τ=true) {f:Bool->Bool} (hf:∀b,f b=true↔Dd (decide (Ev.part∈ws)) ws E τ k (rg b)):([false,true].filter f).map rg=nA ws k E τ:=by
 refine cO (aD.mp h) λ h1 h=>?_;refine cO (aD.mp h) λ h2 h=>?_;refine cO (aD.mp h) λ h3 h4=>?_;have key:∀L:List Int,(∀b,f b=true↔rg b∈L)->([false,true].filter f).map rg=f2 L:=λ L hL=>am (List.map rg) (List.filter_congr λ b U=>by
  rw[Bool.eq_iff_iff,hL,List.contains_iff_mem])
 unfold nA;by_cases hu:Ev.use∈eg (ws.drop k)\/Ev.part∈eg (ws.drop k)
 ·rw[if_pos hu,key E,eq_of_beq h1];intro b;rw[hf,pi];exact⟨λ r=>r.elim And.right λ r=>List.contains_iff_mem.mp (aM.mp h4 _ r.2.2),λ r=> .inl ⟨hu,r⟩⟩
 ·rw[if_neg hu];by_cases hd:Ev.drop∈eg (ws.drop k)/\hh (ws.take k)=true
  ·rw[if_pos hd,key τ,eq_of_beq h2,eq_of_beq h3];intro b;rw[hf,pi];exact⟨λ r=>r.elim (λ r=>aN r.1 hu) λ r=>r.2.2,λ r=> .inr ⟨hd.1,hd.2,r⟩⟩
  ·rw[if_neg hd,key []]
   ·rfl
   intro b;rw[hf,pi];exact⟨λ r=>r.elim (λ r=>aN r.1 hu) λ r=>aN ⟨r.1,r.2.1⟩ hd,λ r=>ii r⟩
theorem mB (init:List (List Ev)) (x:List Ev):gW (init++[x])=gW init++(List.range (x.length+1)).map λ i=>(init.length,i):=by
 unfold gW;rw[List.length_append,List.length_singleton,List.range_succ,List.flatMap_append,List.flatMap_singleton,List.getElem?_concat_length];refine am (·++_) (am List.flatten (List.map_congr_left λ b hb=>?_));rw[List.getElem?_append_left (List.mem_range.mp hb)]
noncomputable def Cn (p:List (List Ev)×List Ev):Pp:=(p.1.length,p.2.length)
theorem xf (p:List (List Ev)×List Ev) (e:Ev):gW ((cJ p e).1++[(cJ p e).2])=gW (p.1++[p.2])++[Cn (cJ p e)]:=by
 have snoc:∀x,gW (p.1++[p.2++[x]])=gW (p.1++[p.2])++[(p.1.length,(p.2++[x]).length)]:=λ x=>by
  rw[mB,mB,List.length_append,List.length_singleton,List.range_succ,List.map_append,List.append_assoc];rfl
 cases e with
 |drop=>exact mB (p.1++[p.2]) []
 |_=>exact snoc _
noncomputable def G7 (p:List (List Ev)×List Ev):List Ev->List Pp
 |[]=>[]
 |e::ws=>Cn (cJ p e)::G7 (cJ p e) ws
theorem xI:∀(ws:List Ev) (p:List (List Ev)×List Ev),gW ((ws.foldl cJ p).1++[(ws.foldl cJ p).2])=gW (p.1++[p.2])++G7 p ws:=by
 intro l_
 induction l_ with
 |nil=>
  intro p;exact(List.append_nil _).symm
 |cons e ws ih=>
  intro p;exact(ih (cJ p e)).trans (by rw[xf,List.append_assoc];rfl)
theorem AV (ws:List Ev):∀(p:List (List Ev)×List Ev) (k:Nat),k<ws.length->(G7 p ws)[k]? =some (Cn ((ws.take (k+1)).foldl cJ p)):=by
 induction ws with
 |nil=>exact λ _ _ h=>aN h (a0 _)
 |cons e ws ih=>
  intro p k h
  induction k using Jq with
  |zero=>rfl
  |succ k=>exact ih (cJ p e) k (bY h)
theorem pI (ws:List Ev) {k:Nat} (hk:k<=ws.length):(gW (bl ws))[k]? =some (uh ws k):=by
 have h:gW (bl ws)=(0,0)::G7 ([],[]) ws:=xI ws ([],[]);rw[h]
 induction k using Jq with
 |zero=>rfl
 |succ k=>exact AV ws ([],[]) k hk
theorem A1 (ws:List Ev) {k:Nat} (hk:k<=ws.length):so (uh ws k) (gW (bl ws))=some k:=by
 refine A9 (pI ws hk) λ j hj e=>?_;rw[pI ws (Nat.le_trans (Nat.le_of_lt hj) hk)] at e;have key:∀{j},j<=ws.length->pos (bl ws) (uh ws j).1 (uh ws j).2=j:=λ hj=>by
  refine nv (pk (tE ws) hj) λ b i e g1 g2 g3 g4=>?_;rw[pI ws hj] at g1;rw[Option.some.inj g1];exact g4
 have h1:=key (ah (bP hj) hk);rw[Option.some.inj e,key hk] at h1;lia
section
variable{V:aF} {K:KV} {d q:Nat} {P:Bool->Int->Prop}
theorem BC {ks:List Bool} {ad:Bool->Nat} {Kl:Bool->List Int} {n:Int} {b:Bool} {F:Bool->aF->Prop} (h1:V[q]? =some (.dict (mY ad ks))) (h2:∀b∈ks,V[ad b]? =some (.list ((Kl b).map .int))/\(Kl b).length<64) (qq:∀V',bt V V'->F (decide (b∈ks/\n∈Kl b)) V'):
  jE bg V 6 (λ m=>(0:Nat)<lim/\eJ V (λ v V=>By (hW bg d) m [.int (rg b),v] V λ v V=>aS V (λ t=>F t V) .in_ (.int n) v) (.list [])) (.ref q):=by
 refine .dct h1 rfl rfl ⟨nl rfl,aR _ rfl λ V1 s1 e1 U=> .getD (s1 _ _ h1) (nW.ok b _ (jq _ _)) ?_⟩;have hf:=lA ad b ks;rw[hf];have qq:=qq V1 s1;by_cases hb:b∈ks
 ·rw[if_pos hb];refine .in_ (.l (s1 _ _ (h2 b hb).1) (sw.mem n (Kl b))) ?_;rw[show decide (n∈Kl b)=decide (b∈ks/\n∈Kl b) from decide_eq_decide.mpr ⟨λ h=>⟨hb,h⟩,And.right⟩];exact qq
 ·rw[if_neg hb];refine .in_ (t:=false) (.l e1 rfl) ?_;rw[decide_eq_false λ h=>hb h.1] at qq;exact qq
end
section
variable{V:aF} {K:KV} {d je jo jw:Nat} {t:TT} {pt:HV} {ws:List Ev}
theorem Ai {q j k:Nat} {P:Bool->Int->Prop} {M:bc->aF->List HV->Prop} (h:yT V q P) (hj:V[j]? =some (.list [.int 1, .int 2])) (qq:∀f:Bool->Bool,(∀b,f b=true↔P b k)->∀Y V',bt V V'->M Y V' ((([false,true].filter f).map rg).map .int)):
  ∃n,eA (.l j) (λ v Y' V' (acc:List HV) K'=>oF (fP Y' (.x 0) v) λ ρ₁=>fW bg (hW bg d) [.c .in_ (.x 1) (.m (.x 2) 6 [.x 0,.list []])] ρ₁ V' (λ σ₁=>cW bg (hW bg d) (.elt (.x 0)) ρ₁ σ₁ acc K') (λ σ₁=>K' ρ₁ σ₁ acc)) n 0 [.empty, .ro (.int k), .ro (.ref q)] V [] M:=by
 refine iR h.h λ ks ad Kl h1 h2 h3=>?_;obtain⟨f,hf⟩:∃f:Bool->Bool,∀b,f b=decide (b∈ks/\(k:Int)∈Kl b):=⟨_,λ U=>rfl⟩;have qq:=qq f λ b=>by rw[hf,decide_eq_true_iff];exact(h3 b k).symm
 refine⟨3, .l hj<|BC (b:=false) h1 h2 λ V1 s1=>?_⟩;rw[<- hf];have second:∀(acc:List HV),acc.length<2->(∀Y V',bt V V'->M Y V' (acc++(([true].filter f).map rg).map .int))->eA (.l j) (λ v Y' V' (acc:List HV) K'=>oF (fP Y' (.x 0) v) λ ρ₁=>fW bg (hW bg d) [.c .in_ (.x 1) (.m (.x 2) 6 [.x 0,.list []])] ρ₁ V' (λ σ₁=>cW bg (hW bg d) (.elt (.x 0)) ρ₁ σ₁ acc K') (λ σ₁=>K' ρ₁ σ₁ acc)) 2 1 [.val (.int 1), .ro (.int k), .ro (.ref q)] V1 acc M:=λ acc ha qa=>by
  refine .l (s1 _ _ hj)<|BC (b:=true) (s1 _ _ h1) (λ b hb=>⟨s1 _ _ (h2 b hb).1,(h2 b hb).2⟩) λ V2 s2=>?_;have s12:=s1.trans s2;rw[<- hf]
  induction hb:f true using Jp with
  |true=>
   rw[List.filter_cons_of_pos hb] at qa;exact⟨az ha (by decide), .l (s12 _ _ hj)<|qa _ V2 s12⟩
  |false=>
   rw[List.filter_cons_of_neg (by rw[hb];exact Bool.false_ne_true)] at qa
   have qa:=qa [.val (.int 2), .ro (.int k), .ro (.ref q)] V2 s12;rw[show acc++((([]:List Bool).filter f).map rg).map HV.int=acc from List.append_nil _] at qa;exact .l (s12 _ _ hj) qa
 induction hb:f false using Jp with
 |true=>
  rw[List.filter_cons_of_pos hb] at qq;exact⟨nl rfl,second [.int 1] (nl rfl) qq⟩
 |false=>
  rw[List.filter_cons_of_neg (by rw[hb];exact Bool.false_ne_true)] at qq
  exact second [] (nl rfl) qq
theorem rI (t0:V[0]? =some (.tab 7)) (t1:V[1]? =some (.tab 11)) (h1:V[jw]? =some (.list (ws.map dE))) (h2:V[je]? =some (.list (t.ev.map .int))) (h3:V[jo]? =some (.list (t.od.map .int))) (hw:ws.length<=8) (hp:Ev.part∈ws->pt=gF) (hd:18<=d) (q:∀V',bt V V'->K (.bool true) V'):
  hW bg d 76 [t.v, .ref je, .ref jo,pt, .ref jw] [] V K:=
 aP [.val t.v, .val (.ref je), .val (.ref jo), .val pt, .val (.ref jw), .empty, .empty, .empty, .empty, .empty, .empty, .empty, .empty, .empty] rfl rfl rfl hd λ d hd=>AG (told:=t.v) h1 hw hp (ah (by decide) hd) λ j0 V1 B ra js s1 e1 b1 sp1=>cw.l e1 ⟨nl rfl,rfl,yY rfl (ah (by decide) hd) λ V2 s2 wf=>gY (b1.mono s2) (ah (by decide) hd) λ jr V3 s3 U e3=>⟨nl rfl,aR _ rfl λ V4 s4 e4 U=>cw.t ⟨nl rfl,rfl,by
 have t12:=s1.trans s2;have t13:=t12.trans s3;refine uB wf (t12 _ _ t0) (t12 _ _ t1) (s3.trans s4) (s3.len) e4 t (n:=8) (by decide) (ah (by decide) hd) λ V5 b5 e5=>?_
 have s35:bt V3 V5:=s4.upd b5 (ai _);have s25:=s3.trans s35;have hbd:=b1.mono (s2.trans s25);have S:=tE ws;refine aR V5.length rfl<|Aw hbd S rfl (ah (by decide) hd) λ V6 s6 lv=>?_
 refine aR V6.length rfl<|vt (hbd.mono s6) S rfl (ah (by decide) hd) λ V7 k3 jd jx s7 mv lo=>?_
 have s57:=s6.trans s7;refine zB wf (t12 _ _ t0) (t12 _ _ t1) (s25.trans s57) (hbd.mono s57) S hw ((s35.trans s57) _ _ e3) lv s7 (bG _) mv lo (ah (by decide) hd) λ q8 V8 b8 lvs=>?_
 have s68:bt V6 V8:=s7.upd b8 (ah (bG _) (ay _ _));have s58:=s6.trans s68;have s38:=s35.trans s58;have s08:=t13.trans s38;refine .ne (.l (s58 _ _ e5) (s08 _ _ h3) (cg _) (cg _)) ?_;rw[show(t.od==t.od)=true from beq_self_eq_true _];have hn:((List.range (ws.length+1)).map λ k=>fy (uh ws k)).length<lim:=d7 (aj (aX hw) (by decide))
 refine⟨_,(s2.trans (s3.trans s38)) _ _ sp1,hn,?_⟩;refine Fw (λ a:Option HV×Option HV×Option HV=>[.val t.v, .val (.ref je), .val (.ref jo), .val pt, .val (.ref jw), .val (.obj 0 B.i), .val (.ref js), .val (.obj 6 V1.length), .val (.ref jr), .val (.ref V3.length), .val (.ref q8),sl a.1,sl a.2.1,sl a.2.2]) (λ k U V'=>bt V8 V') (none,none,none) (bt.refl _) (λ k a V' h=>h _ _ ((s2.trans (s3.trans s38)) _ _ sp1)) ?_ λ a V' h=>q V' (s08.trans h);intro k v a O hv s8 N' q';have hk:k<=ws.length:=by
  have h:=dI hv;rw[fQ] at h;exact bC h
 obtain rfl:v=fy (uh ws k):=by
  rw[eM (Nat.lt_succ_of_le hk)] at hv;exact(aA hv).symm
 have e3':=s8 _ _ (s38 _ _ e3);have lvs':yT O q8 _:=⟨lvs.h.imp λ ks h=>h.imp λ ad h=>h.imp λ Kl h=>⟨s8 _ _ h.1,λ b hb=>⟨s8 _ _ (h.2.1 b hb).1,(h.2.1 b hb).2⟩,h.2.2⟩⟩;refine eP a.1 a.2.1 rfl rfl<| .l e3' rfl rfl<| .index (k:=k) e3' (db (by rw[la S];exact aj (aX hw) (by decide))) ((iq.idx (uh ws k) _).trans (am some (A1 ws hk)))<|eG a.2.2 rfl ⟨nl rfl,aR _ rfl λ O1 w1 f1 U=> .l f1 (nl rfl) ?_⟩
 have lv1:yT O1 q8 _:=⟨lvs'.h.imp λ ks h=>h.imp λ ad h=>h.imp λ Kl h=>⟨w1 _ _ h.1,λ b hb=>⟨w1 _ _ (h.2.1 b hb).1,(h.2.1 b hb).2⟩,h.2.2⟩⟩;refine Ai (k:=k) lv1 f1 λ f hf Y O2 w2=>aR _ rfl λ O3 w3 f3 U=>?_;have w13:=w1.trans (w2.trans w3);have s03:=s08.trans (s8.trans w13);refine y4 (s03 _ _ h1) (s03 _ _ h2) (s03 _ _ h3) hw hk (wM t).2 (ah (by decide) hd) λ j4 O4 w4 f4=>?_
 have hf2:∀b,f b=true↔Dd (decide (Ev.part∈ws)) ws t.ev t.od k (rg b):=λ b=>(hf b).trans ⟨λ hv=>gn hv λ k' _ h5 h6=>wC.mp h5▸h6,λ h=>⟨k,hk,rfl,h⟩⟩;rw[xE (eo t) hf2] at f3;refine .ne (.l (w4 _ _ f3) f4 (cg _) (cg _)) ?_;rw[show(nA ws k t.ev t.od==nA ws k t.ev t.od)=true from beq_self_eq_true _];exact q' (some (.int k),some (fy (uh ws k)),some (.int k)) O4 (s8.trans (w13.trans w4))⟩⟩⟩
end
theorem HQ (L:Nat):∃n:Nat,n<100/\(if(if(L:Int)<2 then(L:Int) else 2)>1 then(if(L:Int)<2 then(L:Int) else 2) else 1)=(n:Int):=by
 by_cases h:(L:Int)<2
 ·rw[if_pos h];by_cases h1:(L:Int)>1
  ·rw[if_pos h1];exact⟨L,by lia,rfl⟩
  ·rw[if_neg h1];exact⟨1,by decide,rfl⟩
 ·rw[if_neg h];exact⟨2,by decide,rfl⟩
theorem Cj {V:aF} {K:KV} {d:Nat} {xs:List Int} (hl:xs.length<=63) (hb:∀x∈xs,x.natAbs.log2<=2^20) (t0:V[0]? =some (.tab 7)) (t1:V[1]? =some (.tab 11)) (hd:19<=d) (q:∀V',V'[0]? =some (.tab 7)->V'[1]? =some (.tab 11)->K (.bool true) V'):
  hW bg d 77 [.rl (xs.map .int)] [] V K:=
 aP [.val (.rl (xs.map .int)), .empty, .empty, .empty, .empty, .empty, .empty, .empty, .empty] rfl rfl rfl hd λ d hd=>cw.t ⟨nl rfl,rfl,⟨nl rfl,aR _ rfl λ V1 s1 e1 l1=>⟨nl rfl,aR _ l1 λ V2 s2 e2 l2=>⟨nl rfl,aR _ l2 λ V3 s3 e3 l3=>by
 have s12:=s2.trans s3;have s03:=s1.trans s12;refine rI (t:= .ty .s .k .h) (ws:=[.set, .rest, .drop, .rest]) (s03 _ _ t0) (s03 _ _ t1) e3 (s12 _ _ e1) (s3 _ _ e2) (nl rfl) (λ h=>rfl) hd λ V4 s4=>?_;have s04:=s03.trans s4;refine aU (HQ (xs.map HV.int).length) λ n hn en=>?_;refine .lenR (db (aj hl (by decide)))<| .min<| .max ?_
 rw[en];refine mc (n:=n) (by lia) (λ a:Option HV×Option HV×Option HV×Option HV×Option HV×Option HV=>[.val (.rl (xs.map .int)), .val ((Pk.k).ty 1), .val ((Pk.h).ty 2),sl a.1,sl a.2.1,sl a.2.2.1,sl a.2.2.2.1,sl a.2.2.2.2.1,sl a.2.2.2.2.2])
  (λ k U V'=>V'[0]? =some (.tab 7)/\V'[1]? =some (.tab 11)) (none,none,none,none,none,none) ⟨s04 _ _ t0,s04 _ _ t1⟩ ?_ λ a V' h=>q V' h.1 h.2
 intro k a O hk hq1 N' q';refine cO hq1 λ g0 g1=>?_;refine bM a.1 rfl<|AK hl hb (by lia) (ah (by decide) hd) λ O1 j w1 src hj=>eG a.2.1 rfl<|AW src (ah (by decide) hd) λ w p p' je jo O2 fe fo ne no src2 b2=>?_
 have hj1:1<j:=aw (br g1) hj;have g0:=b2 _ _ (by lia) (w1 _ _ g0)
 have g1:=b2 _ _ (by lia) (w1 _ _ g1)
 refine cw.t ⟨nl rfl,rfl,eG a.2.2.1 rfl<|eG a.2.2.2.1 rfl<|eG a.2.2.2.2.1 rfl<|eG a.2.2.2.2.2 rfl ?_⟩;refine v0 (ps:=w.ps) src2 (ah (by decide) hd) λ ws jw O3 fw nw h8 hp src3 b3=>?_
 have g0:=b3 _ _ (by lia) g0
 have g1:=b3 _ _ (by lia) g1
 refine rI (t:= .ty w p p') g0 g1 fw (b3 _ _ ne fe) (b3 _ _ no fo) h8 (λ h=>by rw[hp h];rfl) hd λ O4 w4=>?_
 exact q' (some (.int k),some (.ref j),some (w.ty p p'),some (.ref je),some (.ref jo),some (n8 w.ps)) O4 ⟨w4 _ _ g0,w4 _ _ g1⟩⟩⟩⟩⟩
theorem AX {V:aF} (t0:V[0]? =some (.tab 7)) (t1:V[1]? =some (.tab 11)):∃O,V=[.tab 7, .tab 11]++O:=by
 rcases V with _|⟨a,_|⟨b,O⟩⟩
 ·exact dX t0
 ·exact dX t1
 ·exact⟨O,by rw[Option.some.inj t0,Option.some.inj t1];rfl⟩
theorem lawHli (xs:List Int) (hl:xs.length<=63) (hb:∀x∈xs,x.natAbs.log2<=2^20):∃n,n<=40/\hW bg n 77 [.rl (xs.map .int)] [] [.tab 7, .tab 11] λ v V=>v= .bool true/\∃O,V=[.tab 7, .tab 11]++O:=
 ⟨40,ai _,Cj hl hb rfl rfl (by decide) λ V' g0 g1=>⟨rfl,AX g0 g1⟩⟩
end Mine
theorem PySem.Challenge.cw_sa0452_01_holds : PySem.Challenge.rw_sa0452_01.Holds := by
  exact Mine.holds Mine.lawHli
